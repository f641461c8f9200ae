import PyProof.Rows.All
import Wide.All
import OpenK.AllK
import Wide.FinOn
import HandS.ForMost
import HandS.ForExc
import HandS.TupAny
import HandS.TupMul
import HandS.Zip
import HandS.Style
import HandS.More
import HandS.Conv
import HandS.IsInst
import HandS.SortKw
import HandS.SortRule
import HandS.Wide
import HandS.Walk
import HandS.Defaults
import KE.KDictWalk
import KE.DataMinMax
import KE.SortData
import KE.GoesMore
import KE.GoesEnum
import HandS.Head0
import HandS.Head1
import HandS.Head2
import HandS.HeadEnd
import HandS.HeadHook1
import HandS.HeadHook2
import KE.KDictCopyH
import KE.KDictDisplayH
import PySem.Challenge.RW_anyspan_k06_whole_fillings_of_long_rows
set_option Elab.async false
set_option linter.all false
set_option maxRecDepth 100000
set_option maxHeartbeats 4000000
/-! ### B0: words over the hand layer: what stays, rows, rules, calls of own defs -/
namespace An
open PySem PySem.Spec PyProof.Rows L2

abbrev Rule := Int × Int × Int
abbrev Row := List Int

/-! #### tuples stay -/
def TS (H H' : Hp) : Prop := ∀ b xs, H b = some (.tup xs) → H' b = some (.tup xs)
theorem TS.refl (H : Hp) : TS H H := fun _ _ h => h
theorem TS.trans {H H1 H2 : Hp} (a : TS H H1) (b : TS H1 H2) : TS H H2 := fun c xs h => b c xs (a c xs h)
theorem TS.of {H H' : Hp} (e : Same H H') : TS H H' := fun b xs h => e b _ h
theorem TS.updA {H : Hp} {p : Addr} {o : HO} (h : ∀ xs, H p ≠ some (.tup xs)) : TS H (L2.upd H p o) := fun b xs e => by
  have nb : b ≠ p := fun z => h xs (by rw [← z]; exact e)
  rw [upd_ne nb]; exact e
theorem TS.new {H : Hp} {p : Addr} {o : HO} (h : H p = none) : TS H (L2.upd H p o) := TS.updA fun xs e => by rw [h] at e; cases e
theorem TS.mut {H : Hp} {p : Addr} {o u : HO} (h : H p = some u) (hu : ∀ xs, u ≠ .tup xs) : TS H (L2.upd H p o) := TS.updA fun xs e => by
  rw [h] at e; exact hu xs (Option.some.inj e)
theorem TS.lst {H : Hp} {p : Addr} {o : HO} {ys : List V} (h : H p = some (.lst ys)) : TS H (L2.upd H p o) := TS.mut h fun _ e => nomatch e
theorem TS.dT {H : Hp} {p : Addr} {o : HO} {ys} (h : H p = some (.dT ys)) : TS H (L2.upd H p o) := TS.mut h fun _ e => nomatch e
theorem TS.dK {H : Hp} {p : Addr} {o : HO} {ys} (h : H p = some (.dK ys)) : TS H (L2.upd H p o) := TS.mut h fun _ e => nomatch e
theorem Same.new {H : Hp} {p : Addr} {o : HO} (h : H p = none) : Same H (L2.upd H p o) := fun b u e => by
  rw [upd_ne (ne_of_none e h)]; exact e
/-- all but the objects at as stands as before -/
def SameX (as : List Addr) (H H' : Hp) : Prop := ∀ b o, b ∉ as → H b = some o → H' b = some o
theorem SameX.refl {as : List Addr} {H : Hp} : SameX as H H := fun _ _ _ h => h
theorem SameX.trans {as : List Addr} {H H1 H2 : Hp} (a : SameX as H H1) (b : SameX as H1 H2) : SameX as H H2 := fun c o n h => b c o n (a c o n h)
theorem SameX.of {as : List Addr} {H H' : Hp} (e : Same H H') : SameX as H H' := fun b o _ h => e b o h
theorem SameX.updA {as : List Addr} {H : Hp} {p : Addr} {o : HO} (h : p ∈ as) : SameX as H (L2.upd H p o) := fun b u n e => by
  rw [upd_ne (fun z : b = p => n (by rw [z]; exact h))]; exact e
theorem SameX.mono {as bs : List Addr} {H H' : Hp} (e : SameX as H H') (h : ∀ a ∈ as, a ∈ bs) : SameX bs H H' := fun b o n q => e b o (fun z => n (h b z)) q

/-! #### rows, rules -/
def TupI (H : Hp) (v : V) (r : List Int) : Prop := ∃ a, v = .ref a ∧ H a = some (.tup (r.map V.int))
theorem TupI.mono {H H' : Hp} {v : V} {r : List Int} (t : TS H H') (h : TupI H v r) : TupI H' v r := let ⟨a, e, q⟩ := h; ⟨a, e, t a _ q⟩
def tri (r : Rule) : List Int := [r.1, r.2.1, r.2.2]
def RuleAt (H : Hp) (v : V) (r : Rule) : Prop := TupI H v (tri r)
def RulesAt (H : Hp) (v : V) (rs : List Rule) : Prop := ∃ a vs, v = .ref a ∧ H a = some (.tup vs) ∧ Paired (RuleAt H) vs rs
theorem Paired.mp {α β : Type} {F G : α → β → Prop} : ∀ {l : List α} {m : List β}, Paired F l m → (∀ a b, F a b → G a b) → Paired G l m
  | _, _, .nil, _ => .nil
  | _, _, .cons r t, f => .cons (f _ _ r) (Paired.mp t f)
theorem RulesAt.mono {H H' : Hp} {v : V} {rs : List Rule} (t : TS H H') (h : RulesAt H v rs) : RulesAt H' v rs :=
  let ⟨a, vs, e, q, p⟩ := h; ⟨a, vs, e, t a _ q, Paired.mp p fun _ _ z => TupI.mono t z⟩
theorem Paired.get {α β : Type} {F : α → β → Prop} : ∀ {l : List α} {m : List β} {i : Nat} {a : α}, Paired F l m → l[i]? = some a → ∃ b, m[i]? = some b ∧ F a b
  | _, _, _, _, .nil, e => by cases e
  | _, _, 0, _, .cons r _, e => by cases e; exact ⟨_, rfl, r⟩
  | _, _, i + 1, _, .cons _ t, e => by
    obtain ⟨b, h1, h2⟩ := Paired.get (i := i) t (by simpa using e)
    exact ⟨b, by simpa using h1, h2⟩
theorem Paired.get' {α β : Type} {F : α → β → Prop} : ∀ {l : List α} {m : List β} {i : Nat} {b : β}, Paired F l m → m[i]? = some b → ∃ a, l[i]? = some a ∧ F a b
  | _, _, _, _, .nil, e => by cases e
  | _, _, 0, _, .cons r _, e => by cases e; exact ⟨_, rfl, r⟩
  | _, _, i + 1, _, .cons _ t, e => by
    obtain ⟨b, h1, h2⟩ := Paired.get' (i := i) t (by simpa using e)
    exact ⟨b, by simpa using h1, h2⟩
theorem Paired.len {α β : Type} {F : α → β → Prop} : ∀ {l : List α} {m : List β}, Paired F l m → l.length = m.length
  | _, _, .nil => rfl
  | _, _, .cons _ t => by rw [List.length_cons, List.length_cons, Paired.len t]
theorem Paired.app {α β : Type} {F : α → β → Prop} : ∀ {l l' : List α} {m m' : List β}, Paired F l m → Paired F l' m' → Paired F (l ++ l') (m ++ m')
  | _, _, _, _, .nil, q => q
  | _, _, _, _, .cons r t, q => .cons r (Paired.app t q)
theorem Paired.one {α β : Type} {F : α → β → Prop} {a : α} {b : β} (h : F a b) : Paired F [a] [b] := .cons h .nil
theorem Paired.snoc1 {α β : Type} {F : α → β → Prop} {l : List α} {m : List β} {a : α} {b : β} (p : Paired F l m) (h : F a b) : Paired F (l ++ [a]) (m ++ [b]) := Paired.app p (Paired.one h)
theorem Paired.drop {α β : Type} {F : α → β → Prop} : ∀ {l : List α} {m : List β} (n : Nat), Paired F l m → Paired F (l.drop n) (m.drop n)
  | _, _, 0, p => p
  | _, _, _ + 1, .nil => .nil
  | _, _, n + 1, .cons _ t => Paired.drop n t
theorem Paired.take {α β : Type} {F : α → β → Prop} : ∀ {l : List α} {m : List β} (n : Nat), Paired F l m → Paired F (l.take n) (m.take n)
  | _, _, 0, _ => .nil
  | _, _, _ + 1, .nil => .nil
  | _, _, n + 1, .cons r t => .cons r (Paired.take n t)
theorem Paired.rev {α β : Type} {F : α → β → Prop} : ∀ {l : List α} {m : List β}, Paired F l m → Paired F l.reverse m.reverse
  | _, _, .nil => .nil
  | _, _, .cons r t => by rw [List.reverse_cons, List.reverse_cons]; exact Paired.snoc1 (Paired.rev t) r
theorem Paired.mapR {α β γ : Type} {F : α → β → Prop} {G : α → γ → Prop} (f : β → γ) (h : ∀ a b, F a b → G a (f b)) : ∀ {l : List α} {m : List β}, Paired F l m → Paired G l (m.map f)
  | _, _, .nil => .nil
  | _, _, .cons r t => .cons (h _ _ r) (Paired.mapR f h t)
/-- rules as the document says -/
structure RulesOk (rs : List Rule) : Prop where
  some : rs ≠ []
  few : rs.length ≤ 5
  one : ∀ r ∈ rs, 1 ≤ r.1 ∧ r.1 ≤ 8 ∧ 0 ≤ r.2.1 ∧ r.2.1 ≤ r.2.2 ∧ r.2.2 ≤ r.1
  up : rs.Pairwise fun a b => a.1 < b.1
/-- the widest span -/
def wd (rs : List Rule) : Int := (rs.getLast?.map (·.1)).getD 0
theorem wd_mem {rs : List Rule} (h : rs ≠ []) : ∃ r ∈ rs, wd rs = r.1 ∧ rs.getLast? = some r := by
  refine ⟨rs.getLast h, List.getLast_mem h, ?_, List.getLast?_eq_some_getLast h⟩
  unfold wd
  rw [List.getLast?_eq_some_getLast h]; rfl
theorem RulesOk.wide {rs : List Rule} (h : RulesOk rs) : 1 ≤ wd rs ∧ wd rs ≤ 8 := by
  obtain ⟨r, hr, e, _⟩ := wd_mem h.some
  have := h.one r hr
  omega

/-! #### lists of such things -/
def LstAt {α : Type} (H : Hp) (R : V → α → Prop) (a : Addr) (ds : List α) : Prop := ∃ xs, H a = some (.lst xs) ∧ Paired R xs ds

/-! #### a def that stands, a def that keeps its promise -/
section
variable {P : Program} {w : World} {K : PySem.W.Frag} {mg : Str → Option Value} {base : Heap}
structure Dn (K : PySem.W.Frag) (mg : Str → Option Value) (x : Str) (st : Stmt) : Prop where
  ex : ∃ f fd, FunD K x x (defArgs st) (defBody st) (defScope st) [] [] f fd ∧ mg x = some (.ref f)
structure Cl (P : Program) (w : World) (K : PySem.W.Frag) (mg : Str → Option Value) (base : Heap) (k : Nat) (x : Str) (sp : Sp) : Prop where
  ex : ∃ f fd ps, FnOk P w K mg base CX0 k f fd ps sp ∧ mg x = some (.ref f) ∧ PySem.W.keepIn K (.ref f) = true ∧ Binds K fd ps []
theorem Cl.imp {k : Nat} {x : Str} {sp sp' : Sp} (C : Cl P w K mg base k x sp) (h : ∀ vs H Q E, sp' vs H Q E → sp vs H Q E) : Cl P w K mg base k x sp' :=
  let ⟨f, fd, ps, a, b, c, d⟩ := C.ex; ⟨f, fd, ps, a.imp h, b, c, d⟩
theorem Dn.ok {x : Str} {st : Stmt} {N ps : List Str} {k : Nat} {sp : Sp} (D : Dn K mg x st) (S : FnScope N ps (defScope st)) (len : ∀ vs H Q E, sp vs H Q E → vs.length = ps.length)
    (hb : ∀ (kV doc pm : Value) (an : Option Addr) (cdv ct : Value) (us : List Value), us.length = ps.length → bindArgs (PySem.W.fnOf x x (defArgs st) (defBody st) (defScope st) .none kV doc pm an cdv ct) ⟨us, []⟩ = pure (ps.zip us))
    (hbody : ∀ (f : Addr) (cdv : Value) (A : Around) (outer : List Env) (s : Shared) (H : Hp) (vs : List V) (Q : VK) (E : XK), Room k (A.deeper (envOfC x (defScope st) s.heap.objs.size f cdv)) → sp vs H Q E →
      ∃ t, PSs (cxOf CX0 P w K mg base N x (defScope st) f cdv A outer s H E).nox (defBody st) t ∧ t { nx := fun _ H' => Q .non H', rt := Q } (start N vs) H) : Cl P w K mg base (k + 1) x sp := by
  obtain ⟨f, fd, F, m⟩ := D.ex
  refine ⟨f, fd, ps, F.ok S len (fun cdv A outer s H vs Q E hr h => ?_), m, F.kp, F.bindsN hb⟩
  obtain ⟨t, h1, h2⟩ := hbody f cdv A outer s H vs Q E hr h
  exact ⟨t, h1.nox, h2⟩
end
section
variable {X : Cx}
theorem pe_callC {k : Nat} {x : Str} {sp : Sp} {e : Expr} {es : List Expr} {t : TA} {p pos : Pos} (C : Cl X.prog X.w X.K X.mg X.base k x sp) (hr : Room k X.A) (hg : Gl X x) (ha : PA X (e :: es) t)
    (hdb : (x == ("__debug__" : Str)) = false := by decide) (h2 : starEach (e :: es) X.env = (false, eval e X.env) :: starEach es X.env := by rfl) (h3 : (backTo pos (starEach es X.env)).any (fun z => z.1) = false := by rfl) :
    PE X (.Call (.Name x p) (e :: es) [] pos) (tCall sp [] E0 t) := by
  obtain ⟨f, fd, ps, F, m, kp, b⟩ := C.ex
  exact pe_call F hr hg m kp b .nil pass0 ha hdb h2 h3
theorem pe_gint {x : Str} {i : Int} {pos : Pos} (hg : Gl X x) (hm : ∃ t, X.mg x = some (.int i t)) (hd : (x == ("__debug__" : Str)) = false := by decide) : PE X (.Name x pos) (tC (.int i)) :=
  let ⟨t, e⟩ := hm; pe_glob (v := .int i) hg e ⟨t, rfl⟩ hd
theorem ip_of {op : Operator} {r : R2} (h : OpR X (inplaceOp op) r) : PIp X op r := h
end

/-! #### built-in names that stand for themselves -/
structure Bf (mg : Str → Option Value) : Prop where
  len : mg "len" = none
  sum : mg "sum" = none
  max : mg "max" = none
  min : mg "min" = none
  range : mg "range" = none
  zip : mg "zip" = none
  all : mg "all" = none
  isinstance : mg "isinstance" = none
  tuple : mg "tuple" = none
  list : mg "list" = none
  int : mg "int" = none
  bool : mg "bool" = none
  str : mg "str" = none
  sorted : mg "sorted" = none
  enumerate : mg "enumerate" = none
  dict : mg "dict" = none
theorem bt_len : bootBuiltins "len" = some (.builtin "len") := by decide +kernel
theorem bt_sum : bootBuiltins "sum" = some (.builtin "sum") := by decide +kernel
theorem bt_max : bootBuiltins "max" = some (.builtin "max") := by decide +kernel
theorem bt_min : bootBuiltins "min" = some (.builtin "min") := by decide +kernel
theorem bt_all : bootBuiltins "all" = some (.builtin "all") := by decide +kernel
theorem bt_isinstance : bootBuiltins "isinstance" = some (.builtin "isinstance") := by decide +kernel
theorem bt_sorted : bootBuiltins "sorted" = some (.builtin "sorted") := by decide +kernel
theorem bt_tuple : bootBuiltins "tuple" = some (.type "tuple") := by decide +kernel
theorem bt_list : bootBuiltins "list" = some (.type "list") := by decide +kernel
theorem bt_int : bootBuiltins "int" = some (.type "int") := by decide +kernel
theorem bt_bool : bootBuiltins "bool" = some (.type "bool") := by decide +kernel
theorem bt_str : bootBuiltins "str" = some (.type "str") := by decide +kernel
theorem bt_dict : bootBuiltins "dict" = some (.type "dict") := by decide +kernel
end An
-- imports: B0
/-! ### B1: rules that the layer lacks: sum of a tuple, t += u, max(.., default=..), items of a dict with tuple keys, enumerate(tuple) -/
namespace An
open PySem PySem.Spec PyProof.Rows L2
section
variable {X : Cx}
/-! #### sum of a tuple of ints -/
theorem sumT_raw {prog : Program} {w : World} {A : Around} {E : Value → Shared → Prop} {s : Shared} {l : Addr} {its : List Value} {ns : List Int} {Q : Value → Shared → Prop} (hh : A.handled = none) (hl : s.heap.IsTuple l its.toArray) (hi : IntsAre its ns)
    (h : ∀ h' tk t', (∀ b o, s.heap.get? b = some o → h'.get? b = some o) → Q (.int ns.sum t') { s with heap := h', toks := tk }) : wpAny (model prog w) A (call (.builtin "sum") [.ref l]) Q E s := by
  obtain ⟨xs, e⟩ := hi.allInts.items
  have hn : numsOf (intItems xs).toList = ns := by rw [← e]; exact hi.numsOf
  rw [nums_intItems] at hn
  rw [e] at hl
  have hlt : l < s.heap.objs.size := by obtain ⟨_, q, _⟩ := hl; exact Heap.lt_size q
  refine call_sum_walkG (wpAny_pyIter_tuple hl ?_)
  refine ⟨_, _, _, _, _, _, numAt xs, rfl, Walks.tuple (A := A.in1) hh s.heap.objs.size l (Nat.ne_of_lt hlt) (intItems xs), ⟨⟨_, Heap.get?_push_size _ rfl, rfl, rfl⟩, hl.push _⟩, fun b hb => ?_, (fun _ _ => intItems_at), fun h' tk t' hk => ?_⟩
  · rw [show (s.heap.push _).objs.size = s.heap.objs.size + 1 from Heap.size_push _ _]
    rcases List.mem_cons.mp hb with z | z
    · rw [z]; exact Nat.lt_succ_self _
    · rw [List.mem_singleton.mp z]; exact Nat.lt_succ_of_lt hlt
  · have q := h h' tk t' fun b o e => hk b o (fun hm => absurd (List.mem_singleton.mp hm ▸ Heap.lt_size e) (Nat.lt_irrefl _)) (Heap.get?_push_of_some _ e)
    have sz : (intItems xs).size = xs.size := by simp [intItems]
    rw [sz, preSum_eq, List.take_of_length_le (by simp), hn]
    exact q
def rSumT (K : PySem.W.Frag) : List V → Hp → VK → Prop := fun vs H Q => ∃ (a : Addr) (ns : List Int), vs = [V.ref a] ∧ SqT K H a (ns.map V.int) ∧ Q (.int ns.sum) H
theorem cr_sumT (hc : X.calm = true) : CallR X (.builtin "sum") (rSumT X.K) := by
  intro pins s σ H vs us Q I r h
  obtain ⟨a, ns, rfl, hs, q⟩ := h
  obtain ⟨its, rv, hl, _⟩ := I.tuple hs
  rw [Vals.ref1 r]
  exact sumT_raw (I.ok.hd hc) hl rv.ints fun h' tk t' hk => ⟨.int _, H, I.kept hk, ⟨_, rfl⟩, q⟩
/-! #### t += u -/
theorem noI_tuple : typeLookup (.type "tuple") (dunderI "add") = pure none := by rfl
/-- any way the library has of making the sum, for t += u too -/
theorem icat_tup {prog : Program} {w : World} {A : Around} {E : Value → Shared → Prop} {s : Shared} {t b : Addr} {vs ws : List Value} {Q : Value → Shared → Prop} (ht : IsTup s.heap t vs.toArray) (hb : IsTup s.heap b ws.toArray)
    (h0 : vs = [] → Q (.ref b) s) (h1 : vs ≠ [] → ws = [] → Q (.ref t) s) (h2 : vs ≠ [] → ws ≠ [] → Q (.ref s.heap.objs.size) { s with heap := s.heap.push { cls := .type "tuple", data := .seq (vs ++ ws).toArray } })
    (hsz : vs.length + ws.length ≤ sizeLine) : wpAny (model prog w) A (inplaceOp .Add (.ref t) (.ref b)) Q E s := by
  obtain ⟨⟨c1, d1, x1, sl1⟩, ho1, hc1, n1, hd1⟩ := id ht
  obtain ⟨⟨c2, d2, x2, sl2⟩, ho2, hc2, n2, hd2⟩ := id hb
  simp only at hc1 hd1 hc2 hd2
  subst hc1 hd1 hc2 hd2
  have cat : vs.toArray ++ ws.toArray = (vs ++ ws).toArray := by simp
  refine wpAny_inplaceOp_concat ⟨_, ho1, rfl⟩ ⟨_, ho2, rfl⟩ noI_tuple noFill_tuple_add seq_tuple_add ?_
  by_cases hv : vs = []
  · subst hv
    exact call_meets PySem.F.slot_tuple_add ⟨_, ho1, rfl⟩ PySem.F.entry_tuple_add (PySem.F.args_tuple_add_2 _ _) (tuple_addW0 t b ([] : List Value).toArray ws.toArray n1 n2 d1 d2 sl1 sl2 (by simp)) ⟨ho1, ho2, h0 rfl⟩
  · by_cases hw : ws = []
    · exact call_meets PySem.F.slot_tuple_add ⟨_, ho1, rfl⟩ PySem.F.entry_tuple_add (PySem.F.args_tuple_add_2 _ _) (tuple_addW1 t b vs.toArray ws.toArray n1 n2 d1 d2 sl1 sl2 (by simpa using hv) (by simp [hw])) ⟨ho1, ho2, h1 hv hw⟩
    · refine call_meets PySem.F.slot_tuple_add ⟨_, ho1, rfl⟩ PySem.F.entry_tuple_add (PySem.F.args_tuple_add_2 _ _) (tuple_addW2 t b vs.toArray ws.toArray n1 n2 d1 d2 sl1 sl2 (by simpa using hv) (by simpa using hw) (by rw [List.size_toArray, List.size_toArray]; exact hsz)) ⟨ho1, ho2, ?_⟩
      rw [cat]
      exact h2 hv hw
theorem iop_catA : OpR X (inplaceOp .Add) (rCatA X.K) := by
  intro pins s σ H x y v u Q I rx ry h
  obtain ⟨a, b, xs, ys, rfl, rfl, ha, hb, hz, q0, q1, q2⟩ := h
  cases rx
  cases ry
  obtain ⟨its, r1, p1, _⟩ := I.tuple ha
  obtain ⟨jts, r2, p2, _⟩ := I.tuple hb
  refine icat_tup p1 p2 (fun z => ⟨.ref b, H, I, rfl, q0 (r1.nil_iff.mp z)⟩) (fun z z' => ⟨.ref a, H, I, rfl, q1 (fun q => z (r1.nil_iff.mpr q)) (r2.nil_iff.mp z')⟩) (fun z z' => ?_) (by rw [← r1.length, ← r2.length]; exact hz)
  refine ⟨.ref s.heap.objs.size, _, I.laid (t' := s.toks) (o := .tup (xs ++ ys)) (fun b ob q => Heap.get?_push_of_some _ q) (Nat.le_refl _) ?_, rfl, q2 (fun w => z (r1.nil_iff.mpr w)) (fun w => z' (r2.nil_iff.mpr w)) _ (I.hok.fresh (Nat.le_refl _))⟩
  exact ⟨by rw [List.length_append]; exact hz, _, r1.append r2, IsTup.new _ _⟩
/-! #### max(list of ints, default=d) -/
theorem maxD_mem : ∀ (ns : List Int) (n : Int), ns.foldl max n ∈ n :: ns ∧ ∀ y ∈ n :: ns, y ≤ ns.foldl max n
  | [], n => ⟨List.mem_cons_self, fun y h => by rw [List.mem_singleton.mp h]; exact Int.le_refl _⟩
  | k :: r, n => by
    obtain ⟨h1, h2⟩ := maxD_mem r (max n k)
    rw [List.foldl_cons]
    have m1 := h2 (max n k) List.mem_cons_self
    refine ⟨?_, fun y hy => ?_⟩
    · rcases List.mem_cons.mp h1 with z | z
      · rw [z]
        by_cases hk : n ≤ k
        · rw [Int.max_eq_right hk]; exact List.mem_cons_of_mem _ List.mem_cons_self
        · rw [Int.max_eq_left (by omega)]; exact List.mem_cons_self
      · exact List.mem_cons_of_mem _ (List.mem_cons_of_mem _ z)
    · rcases List.mem_cons.mp hy with z | z
      · have := Int.le_max_left n k; omega
      · rcases List.mem_cons.mp z with z | z
        · have := Int.le_max_right n k; omega
        · exact h2 y (List.mem_cons_of_mem _ z)
theorem reads_ints {h : Heap} : ∀ {vs : List Value} {ns : List Int}, IntsAre vs ns → ∃ as, ReadsAll h vs (ns.map PyData.int) as := by
  intro vs ns hi
  induction ns generalizing vs with
  | nil => cases vs with
    | nil => exact ⟨[], .nil⟩
    | cons v r => exact absurd hi.length (by simp)
  | cons n ns ih => cases vs with
    | nil => exact absurd hi.length (by simp)
    | cons v r =>
      cases hi with
      | cons rest => obtain ⟨as, q⟩ := ih (by assumption); exact ⟨_, .cons (.int _ _) q⟩
def rMaxD (K : PySem.W.Frag) : List V → List V → Hp → VK → Prop := fun vs zs H Q => ∃ (a : Addr) (ns : List Int) (d : V), vs = [V.ref a] ∧ zs = [d] ∧ SqL K H a (ns.map V.int) ∧
  (ns = [] → Q d H) ∧ ∀ m, m ∈ ns → (∀ y ∈ ns, y ≤ m) → Q (.int m) H
theorem alike_int : ∀ ns : List Int, PySem.W.AlikeAll (ns.map PyData.int) := fun ns => by
  refine ⟨fun x hx y hy => ?_, fun x hx e => ?_⟩
  · obtain ⟨i, _, rfl⟩ := List.mem_map.mp hx
    obtain ⟨j, _, rfl⟩ := List.mem_map.mp hy
    simp [PySem.W.alike]
  · obtain ⟨i, _, rfl⟩ := List.mem_map.mp hx
    cases e
theorem cr_maxD (hc : X.calm = true) (hu : X.A.units + 64 < cLine) : CallRK X (.builtin "max") [Str.ofString "default"] (rMaxD X.K) := by
  intro pins s σ H vs zs us ws Q I r r' h
  obtain ⟨a, ns, d, rfl, rfl, hs, q0, q1⟩ := h
  obtain ⟨its, rv, hl, _⟩ := I.list hs
  rw [Vals.ref1 r]
  obtain ⟨u, rfl, ru⟩ := vals1 r'
  obtain ⟨as, hr⟩ := reads_ints rv.ints
  have hd : PyData.depthAll (ns.map PyData.int) = 0 := PySem.W.depth_ints ns
  refine PySem.W.max_list_default (I.ok.hd hc) hl.isList (as := as) (xs := ns.map PyData.int) (by simpa using hr) (alike_int ns) (by rw [hd]; omega) (fun e h' tk hk => ?_) fun y ys i v h' tk bs e hi hrd hk => ?_
  · exact ⟨d, H, I.kept hk, ru, q0 (List.map_eq_nil_iff.mp e)⟩
  · cases ns with
    | nil => cases e
    | cons n ns =>
      rw [List.map_cons] at e
      injection e with e1 e2
      subst e1 e2
      rw [PySem.W.maxD_ints] at hrd
      obtain ⟨h1, h2⟩ := maxD_mem ns n
      cases hrd with
      | int _ t => exact ⟨.int _, H, I.kept hk, ⟨_, rfl⟩, q1 _ h1 h2⟩
end
end An
-- imports: B1
/-! ### B2: enumerate(tuple), the items of a dict with tuple keys -/
namespace An
open PySem PySem.Spec PyProof.Rows L2
/-! #### enumerate of a tuple -/
set_option maxHeartbeats 1000000 in
theorem enum_new1 {v : Value} {o : Obj} {G : Heap → Prop} (B : Begins v o G) :
    Meets (Builtin.«enumerate.__new__» ⟨[.type "enumerate", v], []⟩) (fun _ R s => G s.heap ∧
      R (.ok (.ret (.ref (s.heap.push o).objs.size))) { s with heap := (s.heap.push o).push { cls := .type "enumerate", data := .fields #[.none, .bool false, .ref s.heap.objs.size, rawInt 0, .none, .none] } }) :=
  .of_wp fun prog w A R s h => by
    obtain ⟨hp, g, d, tk, os⟩ := s
    obtain ⟨h1, h⟩ := h
    have hsub := sub_enumerate
    have q1 : ∀ {B' : Around} {E : Value → Shared → Prop} {Q : Value → Shared → Prop}, Q (.ref hp.objs.size) ⟨hp.push o, g, d, tk, os⟩ → wpAny (model prog w) B' (pyIter v) Q E ⟨hp, g, d, tk, os⟩ :=
      fun q => B.iter prog w _ _ ⟨hp, g, d, tk, os⟩ _ h1 q
    wp_walk using q1
    refine wpAny_stack_any fun st => wpAny_pure ?_
    split
    · rename_i c _ _ _ _ _
      cases (c == Value.type "enumerate")
      · wp_walk using q1
        exact ⟨_, rfl, h⟩
      · wp_walk using q1
        exact ⟨_, rfl, h⟩
    · wp_walk using q1
      exact ⟨_, rfl, h⟩
theorem enum_call1 {prog : Program} {w : World} {A : Around} {E : Value → Shared → Prop} {s : Shared} {v : Value} {o : Obj} {G : Heap → Prop} {Q : Value → Shared → Prop} (B : Begins v o G) (h1 : G s.heap)
    (h : ∀ h', IsEnum h' (s.heap.objs.size + 1) s.heap.objs.size 0 .none → h'.get? s.heap.objs.size = some o → h'.objs.size = s.heap.objs.size + 2 → (∀ b u, s.heap.get? b = some u → h'.get? b = some u) → Q (.ref (s.heap.objs.size + 1)) { s with heap := h' }) :
    wpAny (model prog w) A (call (.type "enumerate") [v]) Q E s := by
  refine callType_new F.called_enumerate (by decide) (F.typeCall_enumerate_1 _) (F.newCall_enumerate_1 _) (fun obj => F.args_object_init_2 obj _) F.entry_enumerate_new (enum_new1 B) ⟨h1, ?_⟩
  have z1 : (s.heap.push o).objs.size = s.heap.objs.size + 1 := Heap.size_push _ _
  show _ ∧ _
  rw [z1]
  have he : IsEnum ((s.heap.push o).push { cls := .type "enumerate", data := .fields #[.none, .bool false, .ref s.heap.objs.size, rawInt 0, .none, .none] }) (s.heap.objs.size + 1) s.heap.objs.size 0 .none := by
    have q := Heap.get?_push_size (s.heap.push o) (o := { cls := .type "enumerate", data := .fields #[.none, .bool false, .ref s.heap.objs.size, rawInt 0, .none, .none] }) rfl
    rw [z1] at q
    exact q
  exact ⟨⟨_, he, rfl⟩, h _ he (Heap.get?_push_of_some _ (Heap.get?_push_size _ B.free)) (by rw [Heap.size_push, z1]) fun b u x => Heap.get?_push_of_some _ (Heap.get?_push_of_some _ x)⟩
def IteT (K : PySem.W.Frag) (a : Addr) : It where
  go := fun i H => ∃ (xs : List V) (x : V), SqT K H a xs ∧ xs[i]? = some x
  yld := fun i H v H' => ∃ T x, v = .ref T ∧ H T = none ∧ H' = upd H T (.tup [.int (i : Nat), x]) ∧ ∀ xs, SqT K H a xs → xs[i]? = some x
  stop := fun i H => ∃ xs : List V, SqT K H a xs ∧ xs.length = i
theorem turn_enumT {P : Program} {w : World} {K : PySem.W.Frag} {elts : List Expr} {kk : Nat} {tpos : Pos} (a e it : Addr) :
    Turn P w K (.Tuple elts kk tpos) (IteT K a) [e, it] e (fun i h => (∃ old, IsEnum h e it ((i : Nat) : Int) old) ∧ h.IsTupleIter it a i ∧ e ≠ it) where
  mem := by simp
  obj := fun i h st b hb => by
    obtain ⟨⟨old, he⟩, ⟨o, ho, _, hd⟩, _⟩ := st
    rcases (show b = e ∨ b = it by simpa using hb) with z | z
    · rw [z]; exact ⟨_, he, fun v q => nomatch q⟩
    · rw [z]; exact ⟨o, ho, fun v q => by rw [hd] at q; cases q⟩
  keep := fun i h h' st k => by
    obtain ⟨⟨old, he⟩, hi, hne⟩ := st
    exact ⟨⟨old, k e (by simp) _ he⟩, hi.at fun o q => k it (by simp) o q, hne⟩
  item := by
    intro X hP hw hK hc i pins s σ H E I hf st hg
    subst hP hw hK
    obtain ⟨⟨old, he⟩, hit, hne⟩ := st
    obtain ⟨xs, x, hq, hx⟩ := hg
    obtain ⟨its, rv, p, hz⟩ := I.tuple hq
    obtain ⟨u, hu, ru⟩ := rv.get hx
    have p' : s.heap.IsTuple a its.toArray := p
    have hel : e < s.heap.objs.size := Heap.lt_size he
    have hil : it < s.heap.objs.size := by obtain ⟨_, q, _⟩ := hit; exact Heap.lt_size q
    have tne : ∀ {b : Addr} {o : Obj} {n : String}, s.heap.get? b = some o → o.cls = .type n → n ≠ "tuple" → a ≠ b := fun {b o n} q1 q2 q3 z => by
      obtain ⟨oa, q4, q5, _⟩ := p'
      rw [z, q1] at q4; cases q4
      rw [q2] at q5; injection q5 with q6; exact q3 q6
    have hae : a ≠ e := tne he rfl (by decide)
    have hai : a ≠ it := by obtain ⟨o, q1, q2, _⟩ := hit; exact tne q1 q2 (by decide)
    have D := Draws.tuple (prog := X.prog) (w := X.w) (A := X.A.in1) (I.ok.hd hc) it a hai its.toArray
    have hi : i < its.toArray.size := by
      have := (List.getElem?_eq_some_iff.mp hu).1
      simpa using this
    refine wpAny_pyNext_enum_itemD D he ⟨hit, p'⟩ hi hne (fun m => ?_) fun x' h' tk hx' ho hst hT hsz hk => ?_
    · rcases (show e = it ∨ e = a by simpa using m) with z | z
      · exact hne z
      · exact hae z.symm
    have ex : x' = u := by
      have q : its.toArray[i]? = some x' := hx'
      rw [List.getElem?_toArray] at q
      rw [hu] at q; exact (Option.some.inj q).symm
    subst ex
    refine ⟨_, rfl, wpAny_letOwnedTupleGo_enum (s := { s with heap := h', toks := tk + 1 }) ho fun h'' he' sb => ?_⟩
    have hT2 : h''.get? s.heap.objs.size = some { cls := .type "tuple", data := .seq #[.int i tk, x'] } := (sb.2 _ (Nat.ne_of_gt hel)).trans hT
    have new : ObjOk X.prog X.w (upd H s.heap.objs.size (.tup [.int (i : Nat), x])) h'' s.heap.objs.size (.tup [.int (i : Nat), x]) :=
      ⟨by show 2 ≤ sizeLine; decide, [.int i tk, x'], .cons ⟨_, rfl⟩ (.cons ru .nil), ⟨_, hT2, rfl, _, rfl⟩⟩
    have I1 : Inv X pins σ (upd H s.heap.objs.size (.tup [.int (i : Nat), x])) { s with heap := h'', toks := tk + 1 } :=
      I.turnedNew (ch := [e, it]) (fun b ob hb q => (sb.2 b (fun z => hb (by simp [z]))).trans (hk b ob (fun z => hb (by simp [z])) (fun z => hb (by simp [z])) q)) hf (Nat.le_refl _) new
    refine ⟨.ref s.heap.objs.size, _, I1, rfl, ⟨_, x, rfl, I.hok.fresh (Nat.le_refl _), rfl, fun ys hy => by rw [I.tuple_inj hy hq]; exact hx⟩, ⟨⟨x', ?_⟩, hst.1.at fun o q => (sb.2 it (Ne.symm hne)).trans q, hne⟩, fun b hb => ?_⟩
    · have e1 : ((i + 1 : Nat) : Int) = (i : Int) + 1 := by omega
      rw [e1]; exact he'
    · have hb' : b < s.heap.objs.size := by
        rcases (show b = e ∨ b = it by simpa using hb) with z | z
        · rw [z]; exact hel
        · rw [z]; exact hil
      rw [upd_ne (Nat.ne_of_lt hb')]
      exact (hf b hb).1
  done := by
    intro X hP hw hK hc i pins s σ H E I hf st hg
    subst hP hw hK
    obtain ⟨⟨old, he⟩, hit, hne⟩ := st
    obtain ⟨xs, hq, hx⟩ := hg
    obtain ⟨its, rv, p, hz⟩ := I.tuple hq
    obtain ⟨f0, f1, f2, f3, f4, f5⟩ := hf it (by simp)
    have p' : s.heap.IsTuple a its.toArray := p
    have hl := rv.length
    have hai : a ≠ it := fun z => by
      obtain ⟨o, q1, q2, _⟩ := hit
      obtain ⟨oa, q4, q5, _⟩ := p'
      rw [z, q1] at q4; cases q4
      rw [q2] at q5; injection q5 with q6; exact absurd q6 (by decide)
    have D := Draws.tuple (prog := X.prog) (w := X.w) (A := X.A.in1) (I.ok.hd hc) it a hai its.toArray
    have en : i = its.toArray.size := by
      rw [List.size_toArray, ← hl]
      exact hx.symm
    subst en
    exact wpAny_pyNext_enum_endD D he ⟨hit, p'⟩ fun h' eb => ⟨rfl, I.turned (t' := s.toks) (fun b o hb q => eb b o hb q) f0 f1 f3 f4 f5⟩
  self := fun A i s Q E st h => let ⟨⟨_, he⟩, _⟩ := st; wpAny_pyIter_enum he h
def iEnumT (K : PySem.W.Frag) (ta : TA) : TI := fun σ H R => ta σ H fun vs H1 => ∃ a xs, vs = [.ref a] ∧ SqT K H1 a xs ∧ R (IteT K a) H1
theorem pi_enumT {X : Cx} {e : Expr} {ta : TA} {p pos tpos : Pos} {elts : List Expr} {kk : Nat} (hg : Gl X "enumerate") (hm : X.mg "enumerate" = none) (ha : PA X [e] ta) (hs : starEach [e] X.env = [(false, eval e X.env)] := by rfl) :
    PI X (.Tuple elts kk tpos) (.Call (.Name "enumerate" p) [e] [] pos) (iEnumT X.K ta) := by
  refine ⟨fun pins s σ H R I h => ?_⟩
  refine Call_ (ld_blt I hg hm boot_enumerate (PyProof.Rows.callWith_type1 (thn (ha.run pos pins s σ H _ I h) fun us s1 ⟨vs, H1, I1, r1, q1⟩ => ?_) hs rfl))
  obtain ⟨a, xs, ex, hq, q⟩ := q1
  subst ex
  rw [Vals.ref1 r1]
  obtain ⟨its, rv, p', hz⟩ := I1.tuple hq
  refine enum_call1 (begins_tuple a its.toArray) p' fun h' he hit hsz hk => wpAny_pyIter_enum he ?_
  have I2 : Inv X pins σ H1 { s1 with heap := h' } := I1.kept (t' := s1.toks) hk
  refine ⟨s1.heap.objs.size + 1, [s1.heap.objs.size + 1, s1.heap.objs.size], _, _, H1, rfl, I2, turn_enumT a (s1.heap.objs.size + 1) s1.heap.objs.size, ⟨⟨.none, he⟩, ⟨_, hit, rfl, rfl⟩, Nat.succ_ne_self _⟩, fun b hb => ?_, q⟩
  have hle : s1.heap.objs.size ≤ b := by
    rcases (show b = s1.heap.objs.size + 1 ∨ b = s1.heap.objs.size by simpa using hb) with z | z
    · rw [z]; exact Nat.le_add_right _ _
    · rw [z]; exact Nat.le_refl _
  exact I1.fpOk hle (I1.hok.fresh hle)
theorem walk_enumT {K : PySem.W.Frag} {a : Addr} {xs : List V} : Walk (IteT K a) xs.length (fun H => SqT K H a xs) (YPair (fun i => some (.int (i : Nat))) (fun i => xs[i]?)) := by
  refine ⟨fun i _ hi q => ⟨xs, xs[i], q, by simp [hi]⟩, fun _ q => ⟨xs, q, rfl⟩, fun i H v H' _ q y => ?_⟩
  obtain ⟨T, x, h1, h2, h3, h4⟩ := y
  exact ⟨T, .int (i : Nat), x, h1, h2, h3, rfl, h4 xs q⟩

/-! #### the items of a locked dict whose keys are tuples: each a new pair of the key's own tuple and the value -/
theorem frzT_val {X : Cx} {pins : List (Addr × Obj)} {σ : L2.St} {H : Hp} {s : Shared} {d : Addr} {o : Obj} {kvs : List (List Key × V)} (I : Inv X pins σ H s) (h : H d = some (.frz o (.dT kvs))) :
    (d == sysModules) = false ∧ s.heap.get? d = some o ∧ o.ExactDict ∧ ∃ (es : Array DictEntry) (ep : Nat), o.data = .dict es ep ∧ es.size = kvs.length ∧
      ∀ (i : Nat) (k : List Key) (v : V), kvs[i]? = some (k, v) → ∃ (en : DictEntry) (q : Addr), es[i]? = some en ∧ en.key = .ref q ∧ H q = some (.tup (k.map kV)) ∧ RelV v en.val := by
  obtain ⟨hd, z, hs, xs, pr, o', es, ep, ho, hx, hdt, he, _⟩ := I.hok d _ h
  rw [hd] at ho
  cases ho
  refine ⟨hs, hd, hx, es, ep, hdt, ?_, fun i k v e => ?_⟩
  · have l1 : es.size = xs.length := size_of_entries he
    have l2 : kvs.length = xs.length := Paired.len pr
    omega
  · obtain ⟨b, hb, e1, e2, e3⟩ := Paired.get pr e
    have q := entry_at he i
    rw [hb] at q
    exact ⟨_, b.2.1, q, rfl, e2, e3⟩
def ItiT (d : Addr) (o : Obj) (kvs : List (List Key × V)) : It where
  go := fun i H => H d = some (.frz o (.dT kvs)) ∧ i < kvs.length
  yld := fun i H x H' => ∃ T q k v, kvs[i]? = some (k, v) ∧ x = .ref T ∧ H T = none ∧ H q = some (.tup (k.map kV)) ∧ H' = upd H T (.tup [.ref q, v])
  stop := fun i H => H d = some (.frz o (.dT kvs)) ∧ kvs.length ≤ i
theorem turn_itemsT {P : Program} {w : World} {K : PySem.W.Frag} {d : Addr} {o : Obj} {es : Array DictEntry} {ep : Nat} {kvs : List (List Key × V)} {elts : List Expr} {kk : Nat} {tpos : Pos} (it : Addr) (hod : o.data = .dict es ep) :
    Turn P w K (.Tuple elts kk tpos) (ItiT d o kvs) [it] it (fun i h => ∃ ok ov, IsItemIter h it d i es.size ep ok ov) where
  mem := by simp
  obj := fun i h st b hb => by
    obtain ⟨ok, ov, e⟩ := st
    rw [show b = it by simpa using hb]
    exact ⟨_, e, fun v z => nomatch z⟩
  keep := fun i h h' st k => let ⟨ok, ov, e⟩ := st; ⟨ok, ov, k it (by simp) _ e⟩
  item := by
    intro X hP hw hK hc i pins s σ H E I hf st hg
    subst hP hw hK
    obtain ⟨hd, hi⟩ := hg
    obtain ⟨hs, hgd, hx, es', ep', hdt, hsz, ent⟩ := frzT_val I hd
    obtain ⟨rfl, rfl⟩ := dict_ep hod hdt
    obtain ⟨⟨k, v⟩, hkv⟩ : ∃ p, kvs[i]? = some p := ⟨kvs[i], List.getElem?_eq_getElem hi⟩
    obtain ⟨en, q, hen, hkey, hq, rv⟩ := ent i k v hkv
    obtain ⟨hlt0, ee⟩ := Array.getElem?_eq_some_iff.mp hen
    obtain ⟨ok, ov, he⟩ := st
    have hlt : it < s.heap.objs.size := Heap.lt_size he
    refine wpAny_pyNext_items_item_raw he ⟨_, hgd, hx, hdt⟩ hlt0 fun h' ho hT hz hk => ?_
    rw [ee, hkey] at ho hT
    refine ⟨_, rfl, wpAny_letOwnedTupleGo_items (s := { s with heap := h' }) ho fun h'' he' sb => ?_⟩
    have hT2 : h''.get? s.heap.objs.size = some { cls := .type "tuple", data := .seq #[.ref q, en.val] } := (sb.2 _ (Nat.ne_of_gt hlt)).trans hT
    have new : ObjOk X.prog X.w (upd H s.heap.objs.size (.tup [.ref q, v])) h'' s.heap.objs.size (.tup [.ref q, v]) :=
      ⟨by show 2 ≤ sizeLine; decide, [.ref q, en.val], .cons rfl (.cons rv .nil), ⟨_, hT2, rfl, _, rfl⟩⟩
    have I1 : Inv X pins σ (upd H s.heap.objs.size (.tup [.ref q, v])) { s with heap := h'' } :=
      I.turnedNew (t' := s.toks) (ch := [it]) (fun b ob hb e => (sb.2 b (by simpa using hb)).trans (hk b ob (by simpa using hb) e)) hf (Nat.le_refl _) new
    refine ⟨.ref s.heap.objs.size, _, I1, rfl, ⟨_, q, k, v, hkv, rfl, I.hok.fresh (Nat.le_refl _), hq, rfl⟩, ⟨_, _, he'⟩, fun b hb => ?_⟩
    rw [show b = it by simpa using hb, upd_ne (Nat.ne_of_lt hlt)]
    exact (hf it (by simp)).1
  done := by
    intro X hP hw hK hc i pins s σ H E I hf st hg
    subst hP hw hK
    obtain ⟨hd, hi⟩ := hg
    obtain ⟨f0, f1, f2, f3, f4, f5⟩ := hf it (by simp)
    obtain ⟨hs, hgd, hx, es', ep', hdt, hsz, ent⟩ := frzT_val I hd
    obtain ⟨rfl, rfl⟩ := dict_ep hod hdt
    obtain ⟨ok, ov, he⟩ := st
    exact wpAny_pyNext_items_end_raw (I.ok.hd hc) he ⟨_, hgd, hx, hdt⟩ (by omega) fun h' eb => ⟨rfl, I.turned (t' := s.toks) (fun b ob hb e => eb b ob hb e) f0 f1 f3 f4 f5⟩
  self := fun A i s Q E st h => let ⟨_, _, e⟩ := st; wpAny_pyIter_itemiter e h
def iItemsT (td : TE) : TI := fun σ H R => td σ H fun x H1 => ∃ d o kvs, x = .ref d ∧ H1 d = some (.frz o (.dT kvs)) ∧ R (ItiT d o kvs) H1
theorem pi_itemsT {X : Cx} {e : Expr} {td : TE} {apos cpos tpos : Pos} {elts : List Expr} {kk : Nat} (he : PE X e td) (h1 : attributeBase e "items" X.env (eval e X.env) = eval e X.env := by rfl) (h2 : (apos.endLine == cpos.line) = true := by rfl) :
    PI X (.Tuple elts kk tpos) (.Call (.Attribute e "items" apos) [] [] cpos) (iItemsT td) := by
  refine ⟨fun pins s σ H R I h => ?_⟩
  refine wpAny_Call_method (T := "dict") (id := "dict.items") h1 rfl h2 F.plainAttrs_dict F.slot_dict_items F.type_dict_items (thn (he.run pins s σ H _ I h) fun u s1 ⟨x, H1, I1, rx, d, o, kvs, ex, hd, q⟩ => ?_)
  subst ex
  obtain rfl : u = Value.ref d := rx
  obtain ⟨hs, hgd, hx, es, ep, hdt, hsz, ent⟩ := frzT_val I1 hd
  have hr : s1.heap.DictRaw d es ep := ⟨_, hgd, hx, hdt⟩
  refine ⟨hr.typeIs, fun a ea => ⟨o, by cases ea; exact hgd, hx.2.1⟩, ?_⟩
  have I2 : Inv X pins σ H1 { s1 with heap := s1.heap.push { cls := .type "dict_items", data := .fields #[.ref d] } } := I1.kept (t' := s1.toks) fun b ob q => Heap.get?_push_of_some _ q
  have fin : wpAny (model X.prog X.w) X.A (pyIter (.ref s1.heap.objs.size)) (PIE X pins σ (.Tuple elts kk tpos) R) X.xe { s1 with heap := s1.heap.push { cls := .type "dict_items", data := .fields #[.ref d] } } := by
    refine wpAny_pyIter_items_raw (d := d) ⟨_, Heap.get?_push_size _ rfl, rfl, rfl⟩ (hr.at fun o e => Heap.get?_push_of_some _ e) (pi_one (tk := s1.toks) I2 _ (turn_itemsT _ hdt) ⟨.none, .none, ?_⟩ q)
    exact Heap.get?_push_size _ rfl
  show wpAny _ _ (callWith cpos (.builtin "dict.items") [.ref d] [] []) _ X.xe s1
  exact method_meetsIn F.slot_dict_items F.entry_dict_items rfl (PySem.evalArgs_none ⟨rfl, hr.typeIs, F.args_dict_items_1 _, _, meets_dict_items_raw d hs, ⟨es, ep, hr⟩, fin⟩)
theorem walk_itemsT {d : Addr} {o : Obj} {kvs : List (List Key × V)} : Walk (ItiT d o kvs) kvs.length (fun H => H d = some (.frz o (.dT kvs)))
    (fun i H x H' => ∃ T q k v, kvs[i]? = some (k, v) ∧ x = .ref T ∧ H T = none ∧ H q = some (.tup (k.map kV)) ∧ H' = upd H T (.tup [.ref q, v])) :=
  ⟨fun _ _ hi q => ⟨q, hi⟩, fun _ q => ⟨q, Nat.le_refl _⟩, fun _ _ _ _ _ _ y => y⟩
/-! #### zip of two tuples -/
theorem walk_zipT {K : PySem.W.Frag} {a b : Addr} {xs ys : List V} {n : Nat} (hn : n = min xs.length ys.length) : Walk (RZ.ItzT K a b) n (fun H => SqT K H a xs ∧ SqT K H b ys) (YPair (fun i => xs[i]?) (fun i => ys[i]?)) := by
  subst hn
  refine ⟨fun i _ hi q => ?_, fun _ q => ⟨xs, ys, q.1, q.2, by omega⟩, fun i H v H' _ q y => ?_⟩
  · have h1 : i < xs.length := by omega
    have h2 : i < ys.length := by omega
    exact ⟨xs, ys, xs[i], ys[i], q.1, q.2, by simp [h1], by simp [h2]⟩
  · obtain ⟨T, x, z, h1, h2, h3, h4, h5⟩ := y
    exact ⟨T, x, z, h1, h2, h3, h4 xs q.1, h5 ys q.2⟩
end An
-- imports: B2
/-! ### B3: readings in short: slices, sums of tuples -/
namespace An
open PySem PySem.Spec PyProof.Rows L2
section
variable {K : PySem.W.Frag} {H : Hp} {Q : VK}
theorem cut_from (xs : List V) (k : Nat) : cutV xs (some (k : Int)) none = xs.drop k := by
  unfold cutV
  rw [HT.sIx_nat, HT.sIx_none]
  by_cases h : k ≤ xs.length
  · rw [Nat.min_eq_left h, List.take_of_length_le (by rw [List.length_drop]; omega)]
  · rw [Nat.min_eq_right (show xs.length ≤ k by omega), List.drop_of_length_le (Nat.le_refl _), List.drop_of_length_le (show xs.length ≤ k by omega), List.take_nil]
theorem cut_mid (xs : List V) (k j : Nat) : cutV xs (some (k : Int)) (some (j : Int)) = (xs.take j).drop k := by
  unfold cutV
  rw [HT.sIx_nat, HT.sIx_nat, List.drop_take]
  by_cases h : k ≤ xs.length
  · rw [Nat.min_eq_left h]
    by_cases h2 : j ≤ xs.length
    · rw [Nat.min_eq_left h2]
    · rw [Nat.min_eq_right (show xs.length ≤ j by omega), List.take_of_length_le (by rw [List.length_drop]; omega), List.take_of_length_le (by rw [List.length_drop]; omega)]
  · rw [Nat.min_eq_right (show xs.length ≤ k by omega), List.drop_of_length_le (Nat.le_refl _), List.drop_of_length_le (show xs.length ≤ k by omega), List.take_nil, List.take_nil]
theorem cut_to (xs : List V) (j : Nat) : cutV xs none (some (j : Int)) = xs.take j := by
  unfold cutV
  rw [HT.sIx_none, HT.sIx_nat, List.drop_zero, Nat.sub_zero]
  by_cases h2 : j ≤ xs.length
  · rw [Nat.min_eq_left h2]
  · rw [Nat.min_eq_right (by omega), List.take_of_length_le (Nat.le_refl _), List.take_of_length_le (by omega)]
theorem cut_whole (xs : List V) (lo hi : Option Int) (h : HT.sIx xs.length 0 lo = 0 ∧ HT.sIx xs.length xs.length hi = xs.length) : cutV xs lo hi = xs := by
  unfold cutV
  rw [h.1, h.2, List.drop_zero, Nat.sub_zero, List.take_of_length_le (Nat.le_refl _)]
/-- a slice of a tuple: it stands somewhere, old or new -/
theorem sl_any {c : Addr} {xs : List V} {lo hi : Option Int} (hc : H c = some (.tup xs)) (h : ∀ q H', Same H H' → H' q = some (.tup (cutV xs lo hi)) → Q (.ref q) H') : rSlA K (.ref c) lo hi H Q :=
  ⟨c, xs, rfl, SqT.of hc, fun e => h c H (Same.refl H) (by rw [cut_whole xs lo hi e]; exact hc), fun _ p hp => h p _ (Same.new hp) upd_same⟩
theorem sl_from {c : Addr} {xs : List V} {i : Int} {k : Nat} (e : i = (k : Int)) (hc : H c = some (.tup xs)) (h : ∀ q H', Same H H' → H' q = some (.tup (xs.drop k)) → Q (.ref q) H') : rSlA K (.ref c) (some i) none H Q := by
  subst e
  exact sl_any hc fun q H' s e => h q H' s (by rw [← cut_from]; exact e)
theorem sl_fromN {σ : L2.St} {c : Addr} {xs : List V} {i : Int} {k : Nat} (e : i = (k : Int)) (hc : H c = some (.tup xs)) (h : ∀ q H', Same H H' → H' q = some (.tup (xs.drop k)) → Q (.ref q) H') : tNoPart σ H fun u H3 => rSlA K (.ref c) (some i) u H3 Q := sl_from e hc h
/-- a slice of a list: a new list -/
theorem sll_fromN {σ : L2.St} {c : Addr} {xs : List V} {i : Int} {k : Nat} (e : i = (k : Int)) (hc : SqL K H c xs) (h : ∀ q, H q = none → Q (.ref q) (upd H q (.lst (xs.drop k)))) : tNoPart σ H fun u H3 => rSlL K (.ref c) (some i) u H3 Q := by
  subst e
  exact ⟨c, xs, rfl, hc, fun q hq => by rw [cut_from]; exact h q hq⟩
theorem sll_to {c : Addr} {xs : List V} {j : Nat} (hc : SqL K H c xs) (h : ∀ q, H q = none → Q (.ref q) (upd H q (.lst (xs.take j)))) : rSlL K (.ref c) none (some (j : Int)) H Q :=
  ⟨c, xs, rfl, hc, fun q hq => by rw [cut_to]; exact h q hq⟩
theorem slt_to {c : Addr} {xs : List V} {i : Int} {j : Nat} (e : i = (j : Int)) (hc : H c = some (.tup xs)) (h : ∀ q H', Same H H' → H' q = some (.tup (xs.take j)) → Q (.ref q) H') : rSlA K (.ref c) none (some i) H Q := by
  subst e
  exact sl_any hc fun q H' s e => h q H' s (by rw [← cut_to]; exact e)
theorem slt_mid {c : Addr} {xs : List V} {i1 i2 : Int} {k j : Nat} (e1 : i1 = (k : Int)) (e2 : i2 = (j : Int)) (hc : H c = some (.tup xs)) (h : ∀ q H', Same H H' → H' q = some (.tup ((xs.take j).drop k)) → Q (.ref q) H') : rSlA K (.ref c) (some i1) (some i2) H Q := by
  subst e1 e2
  exact sl_any hc fun q H' s e => h q H' s (by rw [← cut_mid]; exact e)
/-- t + u of tuples: it stands somewhere -/
theorem cat_any {a b : Addr} {xs ys : List V} (ha : H a = some (.tup xs)) (hb : H b = some (.tup ys)) (hz : xs.length + ys.length ≤ 100000) (h : ∀ q H', Same H H' → H' q = some (.tup (xs ++ ys)) → Q (.ref q) H') : rCatA K (.ref a) (.ref b) H Q := by
  refine ⟨a, b, xs, ys, rfl, rfl, SqT.of ha, SqT.of hb, Nat.le_trans hz (by decide), fun e => h b H (Same.refl H) (by rw [e]; exact hb), fun _ e => h a H (Same.refl H) (by rw [e, List.append_nil]; exact ha), fun _ _ p hp => h p _ (Same.new hp) upd_same⟩
theorem sz {n : Nat} (h : n ≤ 100000) : n ≤ sizeLine := Nat.le_trans h (by decide)
theorem szl {n : Nat} (h : n < 100000) : n < sizeLine := Nat.lt_of_lt_of_le h (by decide)
end
/-! #### lists and tuples stay -/
def LTS (H H' : Hp) : Prop := ∀ b o, ((∃ xs, o = .lst xs) ∨ ∃ xs, o = .tup xs) → H b = some o → H' b = some o
theorem LTS.refl (H : Hp) : LTS H H := fun _ _ _ h => h
theorem LTS.trans {H H1 H2 : Hp} (a : LTS H H1) (b : LTS H1 H2) : LTS H H2 := fun c o k h => b c o k (a c o k h)
theorem LTS.of {H H' : Hp} (e : Same H H') : LTS H H' := fun b o _ h => e b o h
theorem LTS.ts {H H' : Hp} (e : LTS H H') : TS H H' := fun b xs h => e b _ (.inr ⟨xs, rfl⟩) h
theorem LTS.updA {H : Hp} {p : Addr} {o u : HO} (h : H p = some u) (hu : ∀ xs, u ≠ .lst xs ∧ u ≠ .tup xs) : LTS H (upd H p o) := fun b v k e => by
  have nb : b ≠ p := fun z => by
    rw [z, h] at e
    cases e
    rcases k with ⟨xs, e⟩ | ⟨xs, e⟩
    · exact (hu xs).1 e
    · exact (hu xs).2 e
  rw [upd_ne nb]; exact e
theorem LTS.dT {H : Hp} {p : Addr} {o : HO} {ys} (h : H p = some (.dT ys)) : LTS H (upd H p o) := LTS.updA h fun _ => ⟨(fun e => by cases e), (fun e => by cases e)⟩
theorem LTS.dK {H : Hp} {p : Addr} {o : HO} {ys} (h : H p = some (.dK ys)) : LTS H (upd H p o) := LTS.updA h fun _ => ⟨(fun e => by cases e), (fun e => by cases e)⟩
theorem LTS.frz {H : Hp} {p : Addr} {o u : HO} {od} (h : H p = some (.frz od u)) : LTS H (upd H p o) := LTS.updA h fun _ => ⟨(fun e => by cases e), (fun e => by cases e)⟩
theorem LTS.new {H : Hp} {p : Addr} {o : HO} (h : H p = none) : LTS H (upd H p o) := LTS.of (Same.new h)
theorem LstAt.mono {α : Type} {R : Hp → V → α → Prop} {H H' : Hp} {l : Addr} {ds : List α} (e : LTS H H') (m : ∀ v d, R H v d → R H' v d) (h : LstAt H (R H) l ds) : LstAt H' (R H') l ds :=
  let ⟨xs, h1, h2⟩ := h; ⟨xs, e _ _ (.inl ⟨xs, rfl⟩) h1, Paired.mp h2 m⟩
/-! #### a comprehension that changes nothing: what it makes, told by the turn -/
theorem lc_go {J : It} {n : Nat} {G : Hp → Prop} {Y : Nat → Hp → V → Hp → Prop} (wk : Walk J n G Y) {g : TG} {tt : TT} {te : TE} {vs : List Nat} {σ : L2.St} {H1 : Hp} {D : Addr} {Qd : Hp → Prop} {β : Type} (S : Hp → V → β → Prop) (ac : Nat → List β)
    (hD : H1 D = none) (h0 : ac 0 = []) (hz : ∀ i, i ≤ n → (ac i).length < 100000) (mono : ∀ H H' v b, Same H H' → S H v b → S H' v b) (mD : ∀ H v b ys zs, H D = some (.lst ys) → S H v b → S (upd H D (.lst zs)) v b) (hG : ∀ H', Same H1 H' → G H')
    (hs : ∀ i x H H' (NT : V → Hp → Prop) (NF : Hp → Prop), i < n → Same H1 H → Y i H x H' → (∀ y H4 b, Same H H4 → S H4 y b → ac (i + 1) = ac i ++ [b] → NT y H4) → (∀ H4, Same H H4 → ac (i + 1) = ac i → NF H4) →
      g x (wipe σ vs) H' fun σ2 H2 => wipe σ2 vs = wipe σ vs ∧ tt σ2 H2 fun b H3 => if b = true then te σ2 H3 NT else NF H3)
    (hd : ∀ H' ys, Same H1 H' → H' D = some (.lst ys) → Paired (S H') ys (ac n) → Qd H') :
    ∃ W : Nat → Nat → Hp → Prop, (∃ m, W 0 m (upd H1 D (.lst []))) ∧ ∀ i m H, W i m H →
      (J.stop i H ∧ Qd H) ∨ (J.go i H ∧ ∃ Nx : Hp → Prop, (∀ H', Nx H' → ∃ m', m' < m ∧ W (i + 1) m' H') ∧ ∀ x H', J.yld i H x H' → g x (wipe σ vs) H' fun σ2 H2 => wipe σ2 vs = wipe σ vs ∧ tt σ2 H2 fun b H3 =>
        if b = true then te σ2 H3 fun y H4 => ∃ acc, H4 D = some (.lst acc) ∧ acc.length < sizeLine ∧ Nx (upd H4 D (.lst (acc ++ [y]))) else Nx H3) := by
  have pres : ∀ {H4 : Hp} {ys : List V}, Same H1 H4 → Same H1 (upd H4 D (.lst ys)) := fun {H4 ys} s b o e => by
    rw [upd_ne (ne_of_none e hD)]; exact s b o e
  refine lc_it wk (fun i H => Same H1 H ∧ ∃ ys, H D = some (.lst ys) ∧ Paired (S H) ys (ac i)) ⟨Same.new hD, [], upd_same, by rw [h0]; exact .nil⟩ (fun i H _ h => hG H h.1) ?_ ?_
  · rintro i x H H' hi ⟨sm, ys, hy, pr⟩ y
    have len : ys.length < sizeLine := szl (by rw [Paired.len pr]; exact hz i (Nat.le_of_lt hi))
    refine hs i x H H' _ _ hi sm y (fun y H4 b s4 sb e => ⟨ys, s4 _ _ hy, len, pres (sm.trans s4), ys ++ [y], upd_same, ?_⟩) fun H4 s4 e => ⟨sm.trans s4, ys, s4 _ _ hy, by rw [e]; exact Paired.mp pr fun _ _ z => mono _ _ _ _ s4 z⟩
    rw [e]
    exact Paired.snoc1 (Paired.mp pr fun _ _ z => mD _ _ _ _ _ (s4 _ _ hy) (mono _ _ _ _ s4 z)) (mD _ _ _ _ _ (s4 _ _ hy) sb)
  · rintro H ⟨sm, ys, hy, pr⟩
    exact hd H ys sm hy pr
/-- no test: a map -/
theorem lc_map {J : It} {n : Nat} {G : Hp → Prop} {Y : Nat → Hp → V → Hp → Prop} (wk : Walk J n G Y) {g : TG} {te : TE} {vs : List Nat} {σ : L2.St} {H1 : Hp} {D : Addr} {Qd : Hp → Prop} {β : Type} (S : Hp → V → β → Prop) (ms : List β)
    (hD : H1 D = none) (hn : ms.length = n) (hz : n < 100000) (mono : ∀ H H' v b, Same H H' → S H v b → S H' v b) (mD : ∀ H v b ys zs, H D = some (.lst ys) → S H v b → S (upd H D (.lst zs)) v b) (hG : ∀ H', Same H1 H' → G H')
    (hs : ∀ i x H H' (NT : V → Hp → Prop), i < n → Same H1 H → Y i H x H' → (∀ y H4 b, Same H H4 → ms[i]? = some b → S H4 y b → NT y H4) → g x (wipe σ vs) H' fun σ2 H2 => wipe σ2 vs = wipe σ vs ∧ te σ2 H2 NT)
    (gm : ∀ x σ H Q Q', (∀ σ2 H2, Q σ2 H2 → Q' σ2 H2) → g x σ H Q → g x σ H Q')
    (hd : ∀ H' ys, Same H1 H' → H' D = some (.lst ys) → Paired (S H') ys ms → Qd H') :
    ∃ W : Nat → Nat → Hp → Prop, (∃ m, W 0 m (upd H1 D (.lst []))) ∧ ∀ i m H, W i m H →
      (J.stop i H ∧ Qd H) ∨ (J.go i H ∧ ∃ Nx : Hp → Prop, (∀ H', Nx H' → ∃ m', m' < m ∧ W (i + 1) m' H') ∧ ∀ x H', J.yld i H x H' → g x (wipe σ vs) H' fun σ2 H2 => wipe σ2 vs = wipe σ vs ∧ tYes σ2 H2 fun b H3 =>
        if b = true then te σ2 H3 fun y H4 => ∃ acc, H4 D = some (.lst acc) ∧ acc.length < sizeLine ∧ Nx (upd H4 D (.lst (acc ++ [y]))) else Nx H3) := by
  refine lc_go wk S (fun i => ms.take i) hD rfl (fun i hi => by rw [List.length_take, hn]; omega) mono mD hG (fun i x H H' NT NF hi sm y ht _ => ?_) fun H' ys sm hy pr => hd H' ys sm hy (by rw [← hn, List.take_of_length_le (Nat.le_refl _)] at pr; exact pr)
  refine gm _ _ _ _ _ (fun σ2 H2 h => ⟨h.1, (iteT h.2 : if true = true then te σ2 H2 NT else NF H2)⟩) (hs i x H H' NT hi sm y fun y H4 b s4 hb sb => ht y H4 b s4 sb ?_)
  show ms.take (i + 1) = ms.take i ++ [b]
  rw [List.take_add_one, hb]; rfl
theorem gm_name (j : Nat) : ∀ x σ H (Q Q' : L2.St → Hp → Prop), (∀ σ2 H2, Q σ2 H2 → Q' σ2 H2) → gName j x σ H Q → gName j x σ H Q' := fun _ _ _ _ _ f h => f _ _ h
theorem gm_two {K : PySem.W.Frag} (j k : Nat) : ∀ x σ H (Q Q' : L2.St → Hp → Prop), (∀ σ2 H2, Q σ2 H2 → Q' σ2 H2) → gTup K 2 (gCons (gName j) (gCons (gName k) gNil)) x σ H Q → gTup K 2 (gCons (gName j) (gCons (gName k) gNil)) x σ H Q' := fun _ _ _ _ _ f h => by
  obtain ⟨a, xs, e1, e2, e3, v, r, e4, v2, r2, e5, e6, q⟩ := h
  exact ⟨a, xs, e1, e2, e3, v, r, e4, v2, r2, e5, e6, f _ _ q⟩
theorem gm_tri {K : PySem.W.Frag} (j k l : Nat) : ∀ x σ H (Q Q' : L2.St → Hp → Prop), (∀ σ2 H2, Q σ2 H2 → Q' σ2 H2) → gTup K 3 (gCons (gName j) (gCons (gName k) (gCons (gName l) gNil))) x σ H Q → gTup K 3 (gCons (gName j) (gCons (gName k) (gCons (gName l) gNil))) x σ H Q' := fun _ _ _ _ _ f h => by
  obtain ⟨a, xs, e1, e2, e3, v, r, e4, v2, r2, e5, v3, r3, e7, e6, q⟩ := h
  exact ⟨a, xs, e1, e2, e3, v, r, e4, v2, r2, e5, v3, r3, e7, e6, f _ _ q⟩
theorem tYes_ {σ : L2.St} {H : Hp} {A B : Hp → Prop} (h : A H) : tYes σ H fun b H3 => if b = true then A H3 else B H3 := (iteT h : if true = true then A H else B H)
/-! #### the same rules, the written part told by its name (within a comprehension) -/
section
variable {X : Cx} {K : PySem.W.Frag}
theorem ix_tupK (h : X.K = K) : IxR X (rIxT K) := h ▸ ix_tup
theorem ix_listK (h : X.K = K) : IxR X (rIxL K) := h ▸ ix_list
theorem sl_tupK (h : X.K = K) : SlR X (rSlA K) := h ▸ sl_tupA
theorem sl_listK (h : X.K = K) : SlR X (rSlL K) := h ▸ sl_list
theorem op_catK (h : X.K = K) : OpR X (binaryOp .Add) (rCatA K) := h ▸ op_catA
theorem op_inK (h : X.K = K) : OpR X (compareOp .In) (rIn K false) := h ▸ op_in_seq
theorem op_notInK (h : X.K = K) : OpR X (compareOp .NotIn) (rIn K true) := h ▸ op_notIn_seq
theorem op_eqDK (h : X.K = K) (hu : X.A.units + 64 < cLine) : OpR X (compareOp .Eq) (rEqD K) := h ▸ op_eqD hu
theorem op_neDK (h : X.K = K) (hu : X.A.units + 64 < cLine) : OpR X (compareOp .NotEq) (rNeD K) := h ▸ op_neD hu
theorem pg_tupK {es : List Expr} {k : Nat} {pos : Pos} {t : TGs} {n : Nat} (hK : X.K = K) (hc : X.calm = true) (h : PGs X es t)
    (hn : (assignEach es X.env).length = n := by rfl) (hst : (assignEach es X.env).findIdx? (fun z => z.1) = none := by rfl) : PG X (.Tuple es k pos) (gTup K n t) := hK ▸ pg_tup hc h hn hst
end
end An
-- imports: B3
/-! ### B4: list + a list that is read -/
namespace An
open PySem PySem.Spec PyProof.Rows L2
section
variable {X : Cx}
def rCatS (K : PySem.W.Frag) : R2 := fun x y H Q => ∃ l b xs zs, x = .ref l ∧ y = .ref b ∧ SqL K H l xs ∧ SqL K H b zs ∧ xs.length + zs.length ≤ sizeLine ∧ ∀ p, H p = none → Q (.ref p) (upd H p (.lst (xs ++ zs)))
theorem op_catS : OpR X (binaryOp .Add) (rCatS X.K) := by
  intro pins s σ H x y v u Q I rx ry h
  obtain ⟨l, b, xs, zs, rfl, rfl, hH, hB, hz, q⟩ := h
  cases rx
  cases ry
  obtain ⟨its, r, ⟨⟨c1, d1, x1, sl1⟩, n1, ho1, hc1, _, hd1⟩, _⟩ := I.list hH
  obtain ⟨its2, r2, ⟨⟨c2, d2, x2, sl2⟩, n2, ho2, hc2, _, hd2⟩, _⟩ := I.list hB
  simp only at hc1 hd1 hc2 hd2
  subst hc1 hd1 hc2 hd2
  have hl : xs.length = its.length := r.length
  have hl2 : zs.length = its2.length := r2.length
  refine concat_meets ⟨_, ho1, rfl⟩ ⟨_, ho2, rfl⟩ noFill_list_add seq_list_add F.slot_list_add F.entry_list_add (F.args_list_add_2 _ _) (list_addW l b its.toArray its2.toArray n1 n2 d1 d2 sl1 sl2 (by rw [List.size_toArray, List.size_toArray]; omega)) ⟨ho1, ho2, ?_⟩
  have ea : its.toArray ++ its2.toArray = (its ++ its2).toArray := by simp
  rw [ea]
  exact ⟨.ref _, _, I.lnew (t' := s.toks) (r.append r2) (by rw [List.length_append]; omega), rfl, q _ I.fresh⟩
end
section
variable {P : Program} {w : World} {K : PySem.W.Frag} {mg : Str → Option Value} {base : Heap}
theorem fun_ok {x : Str} {st : Stmt} {N ps : List Str} {k : Nat} {sp : Sp} {f : Addr} {fd : FuncData} (F : FunD K x x (defArgs st) (defBody st) (defScope st) [] [] f fd) (S : FnScope N ps (defScope st)) (len : ∀ vs H Q E, sp vs H Q E → vs.length = ps.length)
    (hbody : ∀ (f : Addr) (cdv : Value) (A : Around) (outer : List Env) (s : Shared) (H : Hp) (vs : List V) (Q : VK) (E : XK), Room k (A.deeper (envOfC x (defScope st) s.heap.objs.size f cdv)) → sp vs H Q E →
      ∃ t, PSs (cxOf CX0 P w K mg base N x (defScope st) f cdv A outer s H E).nox (defBody st) t ∧ t { nx := fun _ H' => Q .non H', rt := Q } (start N vs) H) : FnOk P w K mg base CX0 (k + 1) f fd ps sp :=
  F.ok S len fun cdv A outer s H vs Q E hr h => by
    obtain ⟨t, h1, h2⟩ := hbody f cdv A outer s H vs Q E hr h
    exact ⟨t, h1.nox, h2⟩
theorem dn_of {x : Str} {st : Stmt} {f : Addr} {fd : FuncData} (F : FunD K x x (defArgs st) (defBody st) (defScope st) [] [] f fd) (m : mg x = some (.ref f)) : Dn K mg x st := ⟨f, fd, F, m⟩
end
theorem SameX.fresh {a : Addr} {H H' : Hp} (h : H a = none) (e : SameX [a] H H') : Same H H' := fun b o z => e b o (by simpa using fun q : b = a => by subst q; rw [h] at z; cases z) z
theorem SqL_same {K : PySem.W.Frag} {H H' : Hp} {a : Addr} {xs : List V} (h : SqL K H a xs) (e : Same H H') : SqL K H' a xs := by
  rcases h with (h | ⟨o, h⟩) | h
  · exact .inl (.inl (e _ _ h))
  · exact .inl (.inr ⟨o, e _ _ h⟩)
  · exact .inr h
end An
namespace An
open PySem L2
def topS (i : Nat) : Stmt := PySem.Challenge.pw_anyspan_k06_whole_fillings_of_long_rows.main.body.getD i (.Pass ⟨0, 0, 0, 0⟩)
abbrev S_SpanError : Stmt := topS 1
abbrev S_NoRules : Stmt := topS 2
abbrev S_NoTold : Stmt := topS 3
abbrev S_is_from : Stmt := topS 8
abbrev S_is_rule : Stmt := topS 9
abbrev S_are_rules : Stmt := topS 10
abbrev S_need_rules : Stmt := topS 11
abbrev S_need_told : Stmt := topS 12
abbrev S_widest : Stmt := topS 13
abbrev S_broken_by : Stmt := topS 14
abbrev S_next_tail : Stmt := topS 15
abbrev S_ways_on : Stmt := topS 17
abbrev S_layers_of : Stmt := topS 19
abbrev S_first_filling : Stmt := topS 20
abbrev S_need_both : Stmt := topS 21
abbrev S_filling : Stmt := topS 22
abbrev S_how_many : Stmt := topS 23
abbrev S_steps_of : Stmt := topS 25
abbrev S_led_round : Stmt := topS 26
abbrev S_farthest : Stmt := topS 27
abbrev S_marks : Stmt := topS 28
abbrev S__law_deck : Stmt := topS 30
abbrev S__law_pick : Stmt := topS 31
abbrev S__law_one : Stmt := topS 32
abbrev S__law_rules : Stmt := topS 33
abbrev S__law_keeps : Stmt := topS 34
abbrev S__law_fits : Stmt := topS 35
abbrev S__law_walk : Stmt := topS 36
abbrev S__law_even : Stmt := topS 37
abbrev S__law_told : Stmt := topS 38
abbrev S_law : Stmt := topS 39
end An
-- imports: X0 B3
/-! ### D1: widest, broken_by, next_tail -/
namespace An
open PySem L2
section
variable {P : Program} {w : World} {K : PySem.W.Frag} {mg : Str → Option Value} {base : Heap}
/-! #### widest -/
def N_widest : List Str := ["rules"]
theorem sc_widest : FnScope N_widest ["rules"] (defScope S_widest) := ⟨rfl, rfl, rfl, by decide +kernel, rfl, by decide +kernel, by decide +kernel⟩
def spWidest : Sp := fun vs H Q _ => ∃ rv rs, vs = [rv] ∧ RulesAt H rv rs ∧ RulesOk rs ∧ Q (.int (wd rs)) H
theorem ok_widest (D : Dn K mg "widest" S_widest) : Cl P w K mg base 1 "widest" spWidest := by
  refine D.ok sc_widest (fun vs H Q E h => ?_) (fun _ _ _ _ _ _ us hl => match us, hl with | [_], _ => rfl) (fun f cdv A outer s H vs Q E hr h => ?_)
  · obtain ⟨rv, rs, rfl, _⟩ := h; rfl
  · obtain ⟨rv, rs, rfl, ⟨a, xs, rfl, ha, pr⟩, ok, k⟩ := h
    have nd := sc_widest.nd
    refine ⟨_, (pss_one (ps_ret (pe_ix ix_tup (pe_ix ix_tup (pv 0) (pe_un un_neg pe_int) (fun _ _ => rfl)) pe_int (fun _ _ => rfl)))), ?_⟩
    obtain ⟨r, hr, e, hl⟩ := wd_mem ok.some
    have hlen := Paired.len pr
    have hne : 0 < rs.length := List.length_pos_iff.mpr ok.some
    have hrl : rs[rs.length - 1]? = some r := by rw [← hl, List.getLast?_eq_getElem?]
    obtain ⟨v, hv, ⟨b, rfl, hb⟩⟩ := Paired.get' pr hrl
    refine ⟨_, rfl, _, rfl, a, xs, -1, .ref b, rfl, rfl, SqT.of ha, ?_, ?_⟩
    · rw [← hlen] at hv
      show (ixN xs.length (-1)).bind _ = _
      have : ixN xs.length (-1) = some (xs.length - 1) := by
        unfold ixN
        rw [if_neg (by decide), if_pos (by omega)]
        congr 1; omega
      rw [this]
      exact hv
    · refine ⟨b, _, 0, .int r.1, rfl, rfl, SqT.of hb, rfl, ?_⟩
      show Q (.int r.1) H
      rw [← e]; exact k
/-! #### broken_by -/
/-- the marks of the window that a place behind the last ones ends -/
def cnt (t : Row) (p s : Int) : Int := (t.drop (t.length + 1 - s.toNat)).sum + p
def bad (t : Row) (p : Int) (r : Rule) : Bool := decide (r.1 ≤ (t.length : Int) + 1) && !(decide (r.2.1 ≤ cnt t p r.1) && decide (cnt t p r.1 ≤ r.2.2))
def brokenBy (rs : List Rule) (t : Row) (p : Int) : Option Rule := rs.find? (bad t p)
def OptRule (H : Hp) (v : V) : Option Rule → Prop
  | none => v = .non
  | some r => RuleAt H v r
theorem find_at {α : Type} {f : α → Bool} : ∀ {l : List α} {i : Nat} {x : α}, l[i]? = some x → f x = true → (∀ (j : Nat) (y : α), j < i → l[j]? = some y → f y = false) → l.find? f = some x
  | [], _, _, h, _, _ => by cases h
  | a :: l, 0, x, h, hx, _ => by cases h; rw [List.find?_cons_of_pos hx]
  | a :: l, i + 1, x, h, hx, hb => by
    rw [List.find?_cons_of_neg (by rw [hb 0 a (Nat.succ_pos _) rfl]; exact Bool.false_ne_true)]
    exact find_at (i := i) (by simpa using h) hx fun j y hj hy => hb (j + 1) y (Nat.succ_lt_succ hj) (by simpa using hy)
def N_broken_by : List Str := ["rules", "tail", "place", "span", "least", "most", "count"]
theorem sc_broken_by : FnScope N_broken_by ["rules", "tail", "place"] (defScope S_broken_by) := ⟨rfl, rfl, rfl, by decide +kernel, rfl, by decide +kernel, by decide +kernel⟩
def spBroken : Sp := fun vs H Q _ => ∃ rv tv rs t p, vs = [rv, tv, .int p] ∧ RulesAt H rv rs ∧ RulesOk rs ∧ TupI H tv t ∧ ∀ v H', Same H H' → OptRule H' v (brokenBy rs t p) → Q v H'
def PvBroken (rs : List Rule) (a c : Addr) (t : Row) (p : Int) (H : Hp) (i : Nat) (σ : L2.St) (H' : Hp) : Prop :=
  Same H H' ∧ (∃ x3 x4 x5 x6, σ = [some (.ref a), some (.ref c), some (.int p), x3, x4, x5, x6]) ∧ ∀ (j : Nat) (r : Rule), j < i → rs[j]? = some r → bad t p r = false
theorem PvBroken.next {rs : List Rule} {a c : Addr} {t : Row} {p : Int} {H : Hp} {i : Nat} {H' : Hp} {r : Rule} {x3 x4 x5 x6 : Option V} (sm : Same H H') (bd : ∀ (j : Nat) (r : Rule), j < i → rs[j]? = some r → bad t p r = false) (hr : rs[i]? = some r) (hb : bad t p r = false) :
    PvBroken rs a c t p H (i + 1) [some (.ref a), some (.ref c), some (.int p), x3, x4, x5, x6] H' := by
  refine ⟨sm, ⟨_, _, _, _, rfl⟩, fun j r' hj hr' => ?_⟩
  by_cases e : j = i
  · subst e; rw [hr] at hr'; cases hr'; exact hb
  · exact bd j r' (by omega) hr'
theorem ok_broken_by (D : Dn K mg "broken_by" S_broken_by) (bf : Bf mg) : Cl P w K mg base 1 "broken_by" spBroken := by
  refine D.ok sc_broken_by (fun vs H Q E h => ?_) (fun _ _ _ _ _ _ us hl => match us, hl with | [_, _, _], _ => rfl) (fun f cdv A outer s H vs Q E hr h => ?_)
  · obtain ⟨rv, tv, rs, t, p, rfl, _⟩ := h; rfl
  · obtain ⟨rv, tv, rs, t, p, rfl, ⟨a, xs, rfl, ha, pr⟩, ok, ⟨c, rfl, hc⟩, k⟩ := h
    have nd := sc_broken_by.nd
    refine ⟨_, (pss_cons (ps_for PassesOwn.never rfl (pi_tup (pv 0)) (pg_tup rfl (pgs_cons (pg_name (i := 3) nd rfl (Or.inl rfl)) (pgs_cons (pg_name (i := 4) nd rfl (Or.inl rfl)) (pgs_cons (pg_name (i := 5) nd rfl (Or.inl rfl)) pgs_nil))))
    (pss_one (ps_if (pt_cmpR op_ge (pe_op op_add (pe_callB call_len_seq rfl bf.len bt_len (pa_cons (pv 1) pa_nil)) pe_int) (pv 3) (nomark _))
    (pss_cons (ps_set (i := 6) nd rfl (Or.inl rfl) (pe_op op_add (pe_callB (cr_sumT rfl) rfl bf.sum bt_sum (pa_cons (pe_slice sl_tupA (pv 1) (po_some (pe_op op_sub (pe_op op_add (pe_callB call_len_seq rfl bf.len bt_len (pa_cons (pv 1) pa_nil)) pe_int) (pv 3))) po_none) pa_nil)) (pv 2)))
    (pss_one (ps_if (pt_not (pt_chain op_le op_le (pv 4) (pv 6) (pv 5)))
    (pss_one (ps_ret (pe_tup (pa_cons (pv 3) (pa_cons (pv 4) (pa_cons (pv 5) pa_nil))))))
    pss_nil)))
    pss_nil)))
    (pss_one (ps_ret pe_non))), ?_⟩
    refine ⟨_, rfl, a, rfl, ⟨_, SqT.of ha⟩, for_tup (xs := xs) (PvBroken rs a c t p H) ⟨Same.refl H, ⟨none, none, none, none, rfl⟩, fun j r hj => absurd hj (Nat.not_lt_zero _)⟩ (fun i σ H' _ h => SqT.of (h.1 _ _ ha)) ?_ ?_⟩
    · rintro i x σ H' hi ⟨sm, ⟨x3, x4, x5, x6, rfl⟩, bd⟩
      obtain ⟨r, hri, ⟨b, rfl, hb⟩⟩ := Paired.get pr hi
      have hc' := sm _ _ hc
      have ro := ok.one r (List.mem_of_getElem? hri)
      refine ⟨b, _, rfl, SqT.of (sm _ _ hb), rfl, _, _, rfl, _, _, rfl, _, _, rfl, rfl, ?_⟩
      refine ⟨_, rfl, c, _, rfl, .inr (SqT.of hc'), _, _, rfl, rfl, _, rfl, _, _, rfl, rfl, _, rfl, ?_⟩
      refine ite2 (fun hge => ?_) (fun hlt => ?_)
      · rw [List.length_map, decide_eq_true_eq] at hge
        refine ⟨_, rfl, _, rfl, c, _, rfl, .inr (SqT.of hc'), _, _, rfl, rfl, _, rfl, _, _, rfl, rfl, _, rfl, ?_⟩
        refine sl_fromN (k := t.length + 1 - r.1.toNat) ?e hc' fun q H2 sm2 hq => ?_
        case e => rw [List.length_map]; omega
        rw [← List.map_drop] at hq
        refine ⟨q, _, rfl, SqT.of hq, _, rfl, _, _, rfl, rfl, ?_⟩
        have sm3 := sm.trans sm2
        have eb : bad t p r = !(decide (r.2.1 ≤ cnt t p r.1) && decide (cnt t p r.1 ≤ r.2.2)) := by
          unfold bad
          rw [decide_eq_true hge, Bool.true_and]
        have give : bad t p r = true → ∀ q, H2 q = none → Q (.ref q) (upd H2 q (.tup [.int r.1, .int r.2.1, .int r.2.2])) := fun hb q hq => by
          refine k _ _ (sm3.trans (Same.new hq)) ?_
          rw [show brokenBy rs t p = some r from find_at hri hb bd]
          exact ⟨q, rfl, upd_same⟩
        refine ⟨_, rfl, _, rfl, _, _, rfl, rfl, _, rfl, ?_⟩
        show if decide (r.2.1 ≤ cnt t p r.1) = true then _ else _
        refine ite2 (fun h1 => ?_) (fun h1 => ?_)
        · refine ⟨_, rfl, _, _, rfl, rfl, _, rfl, ?_⟩
          show if (!decide (cnt t p r.1 ≤ r.2.2)) = true then _ else _
          refine ite2 (fun h2 => ?_) (fun h2 => ?_)
          · refine ⟨_, rfl, _, rfl, _, rfl, sz (by show 3 ≤ 100000; decide), give ?_⟩
            rw [eb, h1, Bool.true_and]; exact h2
          · exact PvBroken.next sm3 bd hri (by rw [eb, h1]; simpa using h2)
        · refine ⟨_, rfl, iteT ⟨_, rfl, _, rfl, _, rfl, sz (by show 3 ≤ 100000; decide), give ?_⟩⟩
          rw [eb, Bool.not_eq_true] at *
          rw [h1]; rfl
      · rw [List.length_map, decide_eq_true_eq] at hlt
        refine PvBroken.next sm bd hri ?_
        unfold bad
        rw [decide_eq_false (by omega)]; rfl
    · rintro σ H' ⟨sm, _, bd⟩
      refine k _ _ sm ?_
      have : brokenBy rs t p = none := by
        unfold brokenBy
        rw [List.find?_eq_none]
        intro r hr
        obtain ⟨j, hj, e⟩ := List.getElem_of_mem hr
        rw [bd j r (by rw [Paired.len pr]; exact hj) (by rw [List.getElem?_eq_getElem hj, e])]; exact Bool.false_ne_true
      rw [this]; rfl
/-! #### next_tail -/
def nextTail (wide : Int) (t : Row) (p : Int) : Row := (t ++ [p]).drop (t.length + 2 - wide.toNat)
def N_next_tail : List Str := ["wide", "tail", "place", "more"]
theorem sc_next_tail : FnScope N_next_tail ["wide", "tail", "place"] (defScope S_next_tail) := ⟨rfl, rfl, rfl, by decide +kernel, rfl, by decide +kernel, by decide +kernel⟩
def spNext : Sp := fun vs H Q _ => ∃ tv wide t p, vs = [.int wide, tv, .int p] ∧ TupI H tv t ∧ t.length ≤ 1000 ∧ 1 ≤ wide ∧ wide ≤ 8 ∧ ∀ v H', Same H H' → TupI H' v (nextTail wide t p) → Q v H'
theorem ok_next_tail (D : Dn K mg "next_tail" S_next_tail) (bf : Bf mg) : Cl P w K mg base 1 "next_tail" spNext := by
  refine D.ok sc_next_tail (fun vs H Q E h => ?_) (fun _ _ _ _ _ _ us hl => match us, hl with | [_, _, _], _ => rfl) (fun f cdv A outer s H vs Q E hr h => ?_)
  · obtain ⟨tv, wide, t, p, rfl, _⟩ := h; rfl
  · obtain ⟨tv, wide, t, p, rfl, ⟨c, rfl, hc⟩, hz, h1, h8, k⟩ := h
    have nd := sc_next_tail.nd
    refine ⟨_, (pss_cons (ps_set (i := 3) nd rfl (Or.inl rfl) (pe_op op_catA (pv 1) (pe_tup (pa_cons (pv 2) pa_nil))))
    (pss_one (ps_ret (pe_slice sl_tupA (pv 3) (po_some (pe_callB (call_max2 rfl) rfl bf.max bt_max (pa_cons pe_int (pa_cons (pe_op op_add (pe_op op_sub (pe_callB call_len_seq rfl bf.len bt_len (pa_cons (pv 3) pa_nil)) (pv 0)) pe_int) pa_nil)))) po_none)))), ?_⟩
    refine ⟨_, rfl, _, rfl, sz (by show 1 ≤ 100000; decide), fun q hq => ?_⟩
    have sm := Same.new (o := .tup [.int p]) hq
    refine cat_any (sm _ _ hc) upd_same (by rw [List.length_map, List.length_singleton]; omega) fun q2 H2 sm2 h2 => ?_
    have h2 : H2 q2 = some (.tup ((t ++ [p]).map V.int)) := by rw [List.map_append]; exact h2
    refine ⟨_, rfl, _, rfl, q2, _, rfl, .inr (SqT.of h2), _, rfl, _, _, rfl, rfl, _, _, rfl, rfl, _, _, rfl, _, rfl, ?_⟩
    refine sl_fromN (k := t.length + 2 - wide.toNat) ?e h2 fun q3 H3 sm3 h3 => ?_
    case e =>
      rw [List.length_map, List.length_append, List.length_singleton]
      split <;> omega
    refine k _ _ ((sm.trans sm2).trans sm3) ⟨q3, rfl, ?_⟩
    rw [h3]; unfold nextTail; rw [List.map_drop]
end
end An
-- imports: D1
/-! ### D2: is_from, is_rule, are_rules, need_rules -/
namespace An
open PySem L2
/-! #### the kinds that are asked for -/
inductive Kd (H : Hp) : V → String → Prop where
  | non : Kd H .non "NoneType"
  | bl (b : Bool) : Kd H (.bl b) "bool"
  | int (i : Int) : Kd H (.int i) "int"
  | str (x : Str) : Kd H (.str x) "str"
  | lst {a : Addr} {xs : List V} (e : H a = some (.lst xs)) : Kd H (.ref a) "list"
  | tup {a : Addr} {xs : List V} (e : H a = some (.tup xs)) : Kd H (.ref a) "tuple"
theorem Kd.ty {K : PySem.W.Frag} {H : Hp} {x : V} {t : String} (k : Kd H x t) : TyX K H x (.type t) := by
  cases k with
  | non => exact .base .non
  | bl b => exact .base (.bl b)
  | int i => exact .base (.int i)
  | str s => exact .base (.str s)
  | lst e => exact .base (.lst e)
  | tup e => exact .base (.tup e)
theorem isi_of {K : PySem.W.Frag} {σ : L2.St} {H : Hp} {x : V} {t c : String} {b : Bool} {Q : VK} (k : Kd H x t) (h : kitB t c = some b) (q : Q (.bl b) H) : tCons (tC (.ty c)) tNil σ H fun xs H2 => rIsi K (x :: xs) H2 Q :=
  ⟨x, .ty c, .type t, .type c, b, rfl, .ty c, k.ty, kit_ty h, q⟩
section
variable {P : Program} {w : World} {K : PySem.W.Frag} {mg : Str → Option Value} {base : Heap}
/-! #### is_from -/
def isFrom (x : V) (lo hi : Int) : Bool := match x with
  | .int n => decide (lo ≤ n) && decide (n ≤ hi)
  | _ => false
def N_is_from : List Str := ["thing", "low", "high"]
theorem sc_is_from : FnScope N_is_from ["thing", "low", "high"] (defScope S_is_from) := ⟨rfl, rfl, rfl, by decide +kernel, rfl, by decide +kernel, by decide +kernel⟩
def spIsFrom : Sp := fun vs H Q _ => ∃ x t lo hi, vs = [x, .int lo, .int hi] ∧ Kd H x t ∧ Q (.bl (isFrom x lo hi)) H
theorem ok_is_from (D : Dn K mg "is_from" S_is_from) (bf : Bf mg) : Cl P w K mg base 1 "is_from" spIsFrom := by
  refine D.ok sc_is_from (fun vs H Q E h => ?_) (fun _ _ _ _ _ _ us hl => match us, hl with | [_, _, _], _ => rfl) (fun f cdv A outer s H vs Q E hr h => ?_)
  · obtain ⟨x, t, lo, hi, rfl, _⟩ := h; rfl
  · obtain ⟨x, t, lo, hi, rfl, kd, k⟩ := h
    have nd := sc_is_from.nd
    refine ⟨_, (pss_one (ps_ret (pe_and (pe_callB call_isi rfl bf.isinstance bt_isinstance (pa_cons (pv 0) (pa_cons (pe_bltn (v := .ty "int") rfl bf.int bt_int rfl) pa_nil))) (pe_and (pe_not (pe_callB call_isi rfl bf.isinstance bt_isinstance (pa_cons (pv 0) (pa_cons (pe_bltn (v := .ty "bool") rfl bf.bool bt_bool rfl) pa_nil)))) (pe_one (pe_chain op_le op_le (pv 1) (pv 0) (pv 2))))))), ?_⟩
    cases kd with
    | non => exact ⟨_, rfl, isi_of .non (b := false) (by decide +kernel) ⟨_, rfl, k⟩⟩
    | str z => exact ⟨_, rfl, isi_of (.str z) (b := false) (by decide +kernel) ⟨_, rfl, k⟩⟩
    | lst e => exact ⟨_, rfl, isi_of (.lst e) (b := false) (by decide +kernel) ⟨_, rfl, k⟩⟩
    | tup e => exact ⟨_, rfl, isi_of (.tup e) (b := false) (by decide +kernel) ⟨_, rfl, k⟩⟩
    | bl b => exact ⟨_, rfl, isi_of (.bl b) (b := true) (by decide +kernel) ⟨_, rfl, iteT ⟨_, rfl, isi_of (.bl b) (b := true) (by decide +kernel) ⟨_, rfl, _, rfl, iteF k⟩⟩⟩⟩
    | int n =>
      refine ⟨_, rfl, isi_of (.int n) (b := true) (by decide +kernel) ⟨_, rfl, iteT ⟨_, rfl, isi_of (.int n) (b := false) (by decide +kernel) ⟨_, rfl, _, rfl, iteT ?_⟩⟩⟩⟩
      refine ⟨_, rfl, _, rfl, _, _, rfl, rfl, _, rfl, ?_⟩
      have k : Q (.bl (decide (lo ≤ n) && decide (n ≤ hi))) H := k
      refine ite2 (fun h1 => ?_) (fun h1 => ?_)
      · rw [h1, Bool.true_and] at k
        exact ⟨_, rfl, _, _, rfl, rfl, k⟩
      · rw [Bool.not_eq_true] at h1
        rw [h1, Bool.false_and] at k
        exact k
/-! #### is_rule -/
def N_is_rule : List Str := ["thing"]
theorem sc_is_rule : FnScope N_is_rule ["thing"] (defScope S_is_rule) := ⟨rfl, rfl, rfl, by decide +kernel, rfl, by decide +kernel, by decide +kernel⟩
def spIsRule : Sp := fun vs H Q _ => ∃ v r, vs = [v] ∧ RuleAt H v r ∧ (1 ≤ r.1 ∧ r.1 ≤ 8 ∧ 0 ≤ r.2.1 ∧ r.2.1 ≤ r.2.2 ∧ r.2.2 ≤ r.1) ∧ ∀ H', Same H H' → Q (.bl true) H'
theorem ok_is_rule (D : Dn K mg "is_rule" S_is_rule) (bf : Bf mg) (c_MOST_SPAN : ∃ t, mg "MOST_SPAN" = some (.int 8 t)) (C_is_from : Cl P w K mg base 1 "is_from" spIsFrom) : Cl P w K mg base 2 "is_rule" spIsRule := by
  refine D.ok sc_is_rule (fun vs H Q E h => ?_) (fun _ _ _ _ _ _ us hl => match us, hl with | [_], _ => rfl) (fun f cdv A outer s H vs Q E hr h => ?_)
  · obtain ⟨v, r, rfl, _⟩ := h; rfl
  · obtain ⟨v, r, rfl, ⟨a, rfl, ha⟩, ⟨r1, r2, r3, r4, r5⟩, k⟩ := h
    have nd := sc_is_rule.nd
    have hr_is_from := hr
    refine ⟨_, (pss_cons (ps_if (PW.pt (pw_or (pt_not (pt_val (pe_callB call_isi rfl bf.isinstance bt_isinstance (pa_cons (pv 0) (pa_cons (pe_bltn (v := .ty "tuple") rfl bf.tuple bt_tuple rfl) pa_nil))))) (pw_or (pt_cmpR op_ne (pe_callB call_len_seq rfl bf.len bt_len (pa_cons (pv 0) pa_nil)) pe_int (nomark _)) (pw_or1 (pt_not (pt_val (pe_callC C_is_from hr_is_from rfl (pa_cons (pe_ix ix_tup (pv 0) pe_int (fun _ _ => rfl)) (pa_cons pe_int (pa_cons (pe_gint rfl c_MOST_SPAN) pa_nil))))))))))
    (pss_one (ps_ret pe_bl))
    pss_nil)
    (pss_one (ps_ret (pe_and (pe_callC C_is_from hr_is_from rfl (pa_cons (pe_ix ix_tup (pv 0) pe_int (fun _ _ => rfl)) (pa_cons pe_int (pa_cons (pe_ix ix_tup (pv 0) pe_int (fun _ _ => rfl)) pa_nil)))) (pe_one (pe_callC C_is_from hr_is_from rfl (pa_cons (pe_ix ix_tup (pv 0) pe_int (fun _ _ => rfl)) (pa_cons pe_int (pa_cons (pe_ix ix_tup (pv 0) pe_int (fun _ _ => rfl)) pa_nil))))))))), ?_⟩
    have yes : ∀ {n lo hi : Int}, lo ≤ n → n ≤ hi → isFrom (.int n) lo hi = true := fun h1 h2 => by
      show (decide _ && decide _) = true
      rw [decide_eq_true h1, decide_eq_true h2]; rfl
    refine ⟨_, rfl, isi_of (.tup ha) (b := true) (by decide +kernel) ⟨_, rfl, iteF ?_⟩⟩
    refine ⟨_, rfl, a, _, rfl, .inr (SqT.of ha), rfl, _, rfl, iteNS rfl ?_⟩
    refine ⟨_, rfl, a, _, 0, .int r.1, rfl, rfl, SqT.of ha, rfl, _, _, _, _, rfl, .int _, _, rfl, ?_⟩
    rw [yes r1 r2]
    refine iteF ?_
    refine ⟨_, rfl, a, _, 2, .int r.2.2, rfl, rfl, SqT.of ha, rfl, _, rfl, a, _, 0, .int r.1, rfl, rfl, SqT.of ha, rfl, _, _, _, _, rfl, .int _, _, rfl, ?_⟩
    rw [yes (Int.le_trans r3 r4) r5]
    refine iteT ?_
    refine ⟨_, rfl, a, _, 1, .int r.2.1, rfl, rfl, SqT.of ha, rfl, _, rfl, a, _, 2, .int r.2.2, rfl, rfl, SqT.of ha, rfl, _, _, _, _, rfl, .int _, ?_⟩
    rw [yes r3 r4]
    exact k H (Same.refl H)
/-! #### are_rules -/
def N_are_rules : List Str := ["thing", "one", "other"]
theorem sc_are_rules : FnScope N_are_rules ["thing"] (defScope S_are_rules) := ⟨rfl, rfl, rfl, by decide +kernel, rfl, by decide +kernel, by decide +kernel⟩
def spAreRules : Sp := fun vs H Q _ => ∃ v rs, vs = [v] ∧ RulesAt H v rs ∧ RulesOk rs ∧ ∀ H', Same H H' → Q (.bl true) H'
theorem ok_are_rules (D : Dn K mg "are_rules" S_are_rules) (bf : Bf mg) (c_MOST_RULES : ∃ t, mg "MOST_RULES" = some (.int 5 t)) (C_is_rule : Cl P w K mg base 2 "is_rule" spIsRule) : Cl P w K mg base 3 "are_rules" spAreRules := by
  refine D.ok sc_are_rules (fun vs H Q E h => ?_) (fun _ _ _ _ _ _ us hl => match us, hl with | [_], _ => rfl) (fun f cdv A outer s H vs Q E hr h => ?_)
  · obtain ⟨v, rs, rfl, _⟩ := h; rfl
  · obtain ⟨v, rs, rfl, ⟨a, xs, rfl, ha, pr⟩, ok, k⟩ := h
    have nd := sc_are_rules.nd
    have hr_is_rule := hr
    refine ⟨_, (pss_cons (ps_if (PW.pt (pw_or (pt_not (pt_val (pe_callB call_isi rfl bf.isinstance bt_isinstance (pa_cons (pv 0) (pa_cons (pe_bltn (v := .ty "tuple") rfl bf.tuple bt_tuple rfl) pa_nil))))) (pw_or (pt_not (pt_chain op_le op_le pe_int (pe_callB call_len_seq rfl bf.len bt_len (pa_cons (pv 0) pa_nil)) (pe_gint rfl c_MOST_RULES))) (pw_or1 (pt_not (pt_val (pe_callB (cr_all rfl) rfl bf.all bt_all (pa_cons (pe_lc (own := [("one", 1)]) rfl nd (pi_tup (pv 0)) (blkOk_by (own := [("one", 1)]) (N := N_are_rules) (sc := defScope S_are_rules) (by decide +kernel)) (fun _ _ _ _ _ => (pg_name (i := 1) nd rfl (Or.inl rfl) (Or.inr rfl))) (fun _ _ _ _ _ => pts_nil) (fun _ _ _ _ _ => (pe_callC C_is_rule hr_is_rule rfl (pa_cons (pv 1) pa_nil)))) pa_nil))))))))
    (pss_one (ps_ret pe_bl))
    pss_nil)
    (pss_one (ps_ret (pe_callB (cr_all rfl) rfl bf.all bt_all (pa_cons (pe_lc (own := [("one", 1), ("other", 2)]) rfl nd (RZ.pi_zipA rfl bf.zip (pa_cons (pv 0) (pa_cons (pe_slice sl_tupA (pv 0) (po_some pe_int) po_none) pa_nil))) (blkOk_by (own := [("one", 1), ("other", 2)]) (N := N_are_rules) (sc := defScope S_are_rules) (by decide +kernel)) (fun _ _ _ _ _ => (pg_tupK (K := K) (n := 2) rfl rfl (pgs_cons (pg_name (i := 1) nd rfl (Or.inl rfl) (Or.inr rfl)) (pgs_cons (pg_name (i := 2) nd rfl (Or.inl rfl) (Or.inr rfl)) pgs_nil)))) (fun _ _ _ _ _ => pts_nil) (fun _ _ _ _ _ => (pe_cmpR op_lt (pe_ix (ix_tupK (K := K) rfl) (pv 1) pe_int (fun _ _ => rfl)) (pe_ix (ix_tupK (K := K) rfl) (pv 2) pe_int (fun _ _ => rfl)) (nomark _)))) pa_nil))))), ?_⟩
    have hl := Paired.len pr
    have h1 := List.length_pos_iff.mpr ok.some
    have h5 := ok.few
    refine ⟨_, rfl, isi_of (.tup ha) (b := true) (by decide +kernel) ⟨_, rfl, iteF ?_⟩⟩
    refine ⟨_, rfl, a, _, rfl, .inr (SqT.of ha), _, _, rfl, rfl, _, rfl, ?_⟩
    rw [decide_eq_true (show (1 : Int) ≤ (xs.length : Nat) by omega)]
    refine iteT ⟨_, _, rfl, rfl, _, rfl, ?_⟩
    rw [decide_eq_true (show ((xs.length : Nat) : Int) ≤ 5 by omega)]
    refine iteF ?_
    refine ⟨_, rfl, a, rfl, ⟨_, SqT.of ha⟩, fun L hL => lc_it (walk_tup (xs := xs)) (fun i H' => Same H H' ∧ H L = none ∧ H' L = some (.lst (List.replicate i (V.bl true)))) ⟨Same.new hL, hL, upd_same⟩ (fun i H' _ h => SqT.of (h.1 _ _ ha)) ?_ ?_⟩
    · rintro i x H1 H' hi ⟨sm, n0, hD⟩ ⟨rfl, hx⟩
      obtain ⟨r, hri, hrule⟩ := Paired.get pr hx
      refine ⟨rfl, tYes_ ?_⟩
      refine ⟨_, rfl, x, r, rfl, TupI.mono (TS.of sm) hrule, ok.one r (List.mem_of_getElem? hri), fun H2 sm2 => ?_⟩
      refine ⟨_, sm2 _ _ hD, szl (by rw [List.length_replicate]; omega), fun b o e => ?_, n0, ?_⟩
      · rw [upd_ne (ne_of_none e n0)]; exact sm2 _ _ (sm _ _ e)
      · rw [upd_same, ← List.replicate_succ']
    · rintro H' ⟨sm, n0, hD⟩
      refine ⟨L, List.replicate xs.length true, rfl, SqL.of (by rw [List.map_replicate]; exact hD), _, rfl, ?_⟩
      rw [show (List.replicate xs.length true).all id = true by rw [List.all_replicate]; simp]
      refine iteF ?_
      refine ⟨_, rfl, _, rfl, _, rfl, ?_⟩
      refine sl_fromN (k := 1) rfl (sm _ _ ha) fun q H2 sm2 hq => ?_
      have sm3 := sm.trans sm2
      refine ⟨a, q, xs, xs.drop 1, rfl, .inr ⟨SqT.of (sm3 _ _ ha), SqT.of hq, fun M hM => lc_it (walk_zipT rfl) (fun i H' => Same H2 H' ∧ H2 M = none ∧ H' M = some (.lst (List.replicate i (V.bl true)))) ⟨Same.new hM, hM, upd_same⟩ (fun i H' _ h => ⟨SqT.of (h.1 _ _ (sm3 _ _ ha)), SqT.of (h.1 _ _ hq)⟩) ?_ ?_⟩⟩
      · rintro i x H1 H4 hi ⟨s4, n4, hD4⟩ ⟨T, x1, x2, rfl, nT, rfl, e1, e2⟩
        have sT : Same H1 (upd H1 T (.tup [x1, x2])) := Same.new nT
        obtain ⟨r1, g1, b1, rfl, p1⟩ := Paired.get pr e1
        obtain ⟨r2, g2, b2, rfl, p2⟩ := Paired.get pr (show xs[1 + i]? = some x2 by rw [← List.getElem?_drop]; exact e2)
        have up : r1.1 < r2.1 := by
          have h1 := List.getElem?_eq_some_iff.mp g1
          have h2 := List.getElem?_eq_some_iff.mp g2
          obtain ⟨l1, rfl⟩ := h1
          obtain ⟨l2, rfl⟩ := h2
          exact List.pairwise_iff_getElem.mp ok.up i (1 + i) l1 l2 (by omega)
        refine ⟨T, _, rfl, SqT.of upd_same, rfl, _, _, rfl, _, _, rfl, rfl, rfl, tYes_ ?_⟩
        refine ⟨_, rfl, b1, _, 0, .int r1.1, rfl, rfl, SqT.of (sT _ _ (s4 _ _ (sm3 _ _ p1))), rfl, _, rfl, b2, _, 0, .int r2.1, rfl, rfl, SqT.of (sT _ _ (s4 _ _ (sm3 _ _ p2))), rfl, _, _, rfl, rfl, ?_⟩
        dsimp only
        rw [decide_eq_true up]
        refine ⟨_, sT _ _ hD4, szl (by rw [List.length_replicate]; have := Nat.min_le_left xs.length (xs.drop 1).length; omega), fun b o e => ?_, n4, ?_⟩
        · rw [upd_ne (ne_of_none e n4)]; exact sT _ _ (s4 _ _ e)
        · rw [upd_same, ← List.replicate_succ']
      · rintro H4 ⟨s4, n4, hD4⟩
        refine ⟨M, List.replicate _ true, rfl, SqL.of (by rw [List.map_replicate]; exact hD4), ?_⟩
        rw [List.all_replicate]
        have e : (if min xs.length (xs.drop 1).length = 0 then true else id true) = true := by split <;> rfl
        rw [e]
        exact k H4 (sm3.trans s4)
/-! #### need_rules -/
def N_need_rules : List Str := ["rules"]
theorem sc_need_rules : FnScope N_need_rules ["rules"] (defScope S_need_rules) := ⟨rfl, rfl, rfl, by decide +kernel, rfl, by decide +kernel, by decide +kernel⟩
def spNeedRules : Sp := fun vs H Q _ => ∃ v rs, vs = [v] ∧ RulesAt H v rs ∧ RulesOk rs ∧ ∀ H', Same H H' → Q .non H'
theorem ok_need_rules (D : Dn K mg "need_rules" S_need_rules) (C_are_rules : Cl P w K mg base 3 "are_rules" spAreRules) : Cl P w K mg base 4 "need_rules" spNeedRules := by
  refine D.ok sc_need_rules (fun vs H Q E h => ?_) (fun _ _ _ _ _ _ us hl => match us, hl with | [_], _ => rfl) (fun f cdv A outer s H vs Q E hr h => ?_)
  · obtain ⟨v, rs, rfl, _⟩ := h; rfl
  · obtain ⟨v, rs, rfl, hv, ok, k⟩ := h
    have nd := sc_need_rules.nd
    have hr_are_rules := hr
    refine ⟨_, (pss_one (ps_if (pt_not (pt_val (pe_callC C_are_rules hr_are_rules rfl (pa_cons (pv 0) pa_nil))))
    (pss_one ps_never)
    pss_nil)), ?_⟩
    exact ⟨_, rfl, v, rs, rfl, hv, ok, fun H' sm => ⟨_, rfl, iteF (k H' sm)⟩⟩
end
end An
-- imports: D2
/-! ### D3: ways_on -/
namespace An
open PySem L2
def freeP (rs : List Rule) (t : Row) (p : Int) : Bool := (brokenBy rs t p).isNone
def waysOn (rs : List Rule) (t : Row) : List (Int × Row) := (([0, 1] : List Int).filter (freeP rs t)).map fun p => (p, nextTail (wd rs) t p)
def WayAt (H : Hp) (v : V) (e : Int × Row) : Prop := ∃ a b, v = .ref a ∧ H a = some (.tup [.int e.1, .ref b]) ∧ H b = some (.tup (e.2.map V.int))
theorem WayAt.mono {H H' : Hp} {v : V} {e : Int × Row} (t : TS H H') (h : WayAt H v e) : WayAt H' v e := let ⟨a, b, e1, h1, h2⟩ := h; ⟨a, b, e1, t _ _ h1, t _ _ h2⟩
theorem OptRule.isN {H : Hp} {v : V} {o : Option Rule} (h : OptRule H v o) : decide (v = .non) = o.isNone := by
  cases o with
  | none => have e : v = .non := h; subst e; exact decide_eq_true rfl
  | some r => obtain ⟨a, e, _⟩ := h; subst e; exact decide_eq_false fun z => nomatch z
theorem filter_take {α : Type} (f : α → Bool) (l : List α) (i : Nat) (x : α) (h : l[i]? = some x) : (l.take (i + 1)).filter f = (l.take i).filter f ++ (if f x then [x] else []) := by
  rw [List.take_add_one, h, List.filter_append]
  congr 1
  cases e : f x
  · simp [e]
  · simp [e]
section
variable {P : Program} {w : World} {K : PySem.W.Frag} {mg : Str → Option Value} {base : Heap}
def N_ways_on : List Str := ["rules", "tail", "found", "place"]
theorem sc_ways_on : FnScope N_ways_on ["rules", "tail"] (defScope S_ways_on) := ⟨rfl, rfl, rfl, by decide +kernel, rfl, by decide +kernel, by decide +kernel⟩
def spWays : Sp := fun vs H Q _ => ∃ rv tv rs t, vs = [rv, tv] ∧ RulesAt H rv rs ∧ RulesOk rs ∧ TupI H tv t ∧ t.length ≤ 1000 ∧
  ∀ p H' xs, H p = none → Same H H' → H' p = some (.lst xs) → Paired (WayAt H') xs (waysOn rs t) → Q (.ref p) H'
def PvWays (rs : List Rule) (t : Row) (rv tv : V) (L c : Addr) (H : Hp) (i : Nat) (σ : L2.St) (H' : Hp) : Prop :=
  ∃ xs x3, Same H H' ∧ H L = none ∧ σ = [some rv, some tv, some (.ref L), x3] ∧ H' c = some (.tup [.int 0, .int 1]) ∧ H' L = some (.lst xs) ∧ Paired (WayAt H') xs (((([0, 1] : List Int).take i).filter (freeP rs t)).map fun p => (p, nextTail (wd rs) t p))
theorem ok_ways_on (D : Dn K mg "ways_on" S_ways_on) (bf : Bf mg) (C_broken_by : Cl P w K mg base 1 "broken_by" spBroken) (C_next_tail : Cl P w K mg base 1 "next_tail" spNext) (C_widest : Cl P w K mg base 1 "widest" spWidest) :
    Cl P w K mg base 2 "ways_on" spWays := by
  refine D.ok sc_ways_on (fun vs H Q E h => ?_) (fun _ _ _ _ _ _ us hl => match us, hl with | [_, _], _ => rfl) (fun f cdv A outer s H vs Q E hr h => ?_)
  · obtain ⟨rv, tv, rs, t, rfl, _⟩ := h; rfl
  · obtain ⟨rv, tv, rs, t, rfl, hR, ok, hT, hz, k⟩ := h
    have nd := sc_ways_on.nd
    have hr_broken_by := hr
    have hr_next_tail := hr
    have hr_widest := hr
    refine ⟨_, (pss_cons (ps_set (i := 2) nd rfl (Or.inl rfl) (pe_lst pa_nil))
    (pss_cons (ps_for PassesOwn.never rfl (pi_tup (pe_tup (pa_cons pe_int (pa_cons pe_int pa_nil)))) (pg_name (i := 3) nd rfl (Or.inl rfl))
    (pss_one (ps_if (pt_cmpR op_isN (pe_callC C_broken_by hr_broken_by rfl (pa_cons (pv 0) (pa_cons (pv 1) (pa_cons (pv 3) pa_nil)))) pe_non (nomark _))
    (pss_one (ps_expr (pe_bm PySem.F.plainAttrs_list PySem.F.slot_list_append PySem.F.type_list_append mt_append (pv 2) (pa_cons (pe_tup (pa_cons (pv 3) (pa_cons (pe_callC C_next_tail hr_next_tail rfl (pa_cons (pe_callC C_widest hr_widest rfl (pa_cons (pv 0) pa_nil)) (pa_cons (pv 1) (pa_cons (pv 3) pa_nil)))) pa_nil))) pa_nil))))
    pss_nil)))
    (pss_one (ps_ret (pv 2))))), ?_⟩
    refine ⟨sz (by show 0 ≤ 100000; decide), fun L hL => ?_⟩
    have s1 : Same H (upd H L (.lst [])) := Same.new hL
    refine ⟨sz (by show 2 ≤ 100000; decide), fun c hc => ?_⟩
    have s2 := s1.trans (Same.new (o := .tup [.int 0, .int 1]) hc)
    have hL2 : upd (upd H L (.lst [])) c (.tup [.int 0, .int 1]) L = some (.lst []) := by
      rw [upd_ne (ne_of_none upd_same hc)]; exact upd_same
    refine ⟨c, rfl, ⟨_, SqT.of upd_same⟩, for_tup (xs := [.int 0, .int 1]) (PvWays rs t rv tv L c H) ⟨[], none, s2, hL, rfl, upd_same, hL2, .nil⟩ (fun i σ H' _ ⟨_, _, _, _, _, h, _⟩ => SqT.of h) ?_ ?_⟩
    · rintro i x σ H' hi ⟨xs, x3, sm, hL0, rfl, hc', hL', pr⟩
      obtain ⟨p, hp, rfl⟩ : ∃ p : Int, ([0, 1] : List Int)[i]? = some p ∧ x = .int p := by
        match i, hi with
        | 0, h => cases h; exact ⟨0, rfl, rfl⟩
        | 1, h => cases h; exact ⟨1, rfl, rfl⟩
      have hl2 : i < 2 := (List.getElem?_eq_some_iff.mp hp).1
      have hxl : xs.length ≤ 2 := by
        rw [Paired.len pr, List.length_map]
        exact Nat.le_trans (List.length_filter_le _ _) (by rw [List.length_take]; exact Nat.min_le_right _ _)
      have hR' := RulesAt.mono (TS.of sm) hR
      have hT' := TupI.mono (TS.of sm) hT
      have ft := filter_take (freeP rs t) _ i p hp
      refine ⟨_, rfl, _, rfl, _, rfl, rv, tv, rs, t, p, rfl, hR', ok, hT', fun v H2 sm2 ov => ⟨rfl, _, rfl, ?_⟩⟩
      rw [OptRule.isN ov]
      have sm3 := sm.trans sm2
      refine ite2 (fun hf => ?_) (fun hf => ?_)
      · have hf' : freeP rs t p = true := hf
        have wide := ok.wide
        refine ⟨_, rfl, .inl ⟨rfl, _, SqL.of (sm2 _ _ hL')⟩, _, rfl, _, rfl, rv, rs, rfl, RulesAt.mono (TS.of sm2) hR', ok, _, rfl, _, rfl, tv, wd rs, t, p, rfl, TupI.mono (TS.of sm2) hT', hz, wide.1, wide.2, fun v3 H3 sm4 hv3 => ?_⟩
        obtain ⟨b, rfl, hb⟩ := hv3
        refine ⟨sz (by show 2 ≤ 100000; decide), fun q hq => ?_⟩
        have sq : Same H3 (upd H3 q (.tup [.int p, .ref b])) := Same.new hq
        have hL3 := sq _ _ (sm4 _ _ (sm2 _ _ hL'))
        have tq : TS (upd H3 q (.tup [.int p, .ref b])) (upd (upd H3 q (.tup [.int p, .ref b])) L (.lst (xs ++ [.ref q]))) := TS.lst hL3
        refine ⟨L, xs, _, rfl, rfl, hL3, szl (by omega), xs ++ [.ref q], _, fun z o e => ?_, hL0, rfl, tq _ _ (sq _ _ (sm4 _ _ (sm2 _ _ hc'))), upd_same, ?_⟩
        · rw [upd_ne (ne_of_none e hL0)]; exact sq _ _ (sm4 _ _ (sm3 _ _ e))
        · rw [ft, hf', if_pos rfl, List.map_append]
          refine Paired.snoc1 (Paired.mp pr fun _ _ z => WayAt.mono (TS.trans (TS.of (sm2.trans (sm4.trans sq))) tq) z) ⟨q, b, rfl, tq _ _ upd_same, tq _ _ (sq _ _ hb)⟩
      · have hf' : freeP rs t p = false := by rw [Bool.not_eq_true] at hf; exact hf
        refine ⟨xs, _, sm3, hL0, rfl, sm2 _ _ hc', sm2 _ _ hL', ?_⟩
        rw [ft, hf', if_neg Bool.false_ne_true, List.append_nil]
        exact Paired.mp pr fun _ _ z => WayAt.mono (TS.of sm2) z
    · rintro σ H' ⟨xs, x3, sm, hL0, rfl, hc', hL', pr⟩
      exact ⟨_, rfl, k L H' xs hL0 sm hL' pr⟩
end
end An
-- imports: D3
/-! ### M1: what can follow some last places, in plain Lean -/
namespace An
open PySem L2
def succs (rs : List Rule) (t : Row) : List Row := (waysOn rs t).map (fun e => e.2)
/-- whether n places can follow -/
def ext (rs : List Rule) : Nat → Row → Bool
  | 0, _ => true
  | n + 1, t => (succs rs t).any (ext rs n)
theorem ext_pred (rs : List Rule) : ∀ (n : Nat) (t : Row), ext rs (n + 1) t = true → ext rs n t = true
  | 0, _, _ => rfl
  | n + 1, t, h => by
    obtain ⟨u, hu, e⟩ := List.any_eq_true.mp (show (succs rs t).any (ext rs (n + 1)) = true from h)
    exact List.any_eq_true.mpr ⟨u, hu, ext_pred rs n u e⟩
theorem ext_le (rs : List Rule) {n : Nat} (t : Row) (h : ext rs n t = true) : ∀ {m : Nat}, m ≤ n → ext rs m t = true := by
  induction n with
  | zero => intro m hm; rw [Nat.le_zero.mp hm]; rfl
  | succ n ih =>
    intro m hm
    rcases Nat.lt_or_ge m (n + 1) with z | z
    · exact ih (ext_pred rs n t h) (Nat.le_of_lt_succ z)
    · rw [Nat.le_antisymm hm z]; exact h
def IsRk (rs : List Rule) (t : Row) (n : Nat) : Prop := ext rs n t = true ∧ ext rs (n + 1) t = false
theorem IsRk.uniq {rs : List Rule} {t : Row} {n m : Nat} (a : IsRk rs t n) (b : IsRk rs t m) : n = m := by
  rcases Nat.lt_trichotomy n m with z | z | z
  · have := ext_le rs t b.1 z
    rw [a.2] at this; cases this
  · exact z
  · have := ext_le rs t a.1 z
    rw [b.2] at this; cases this
theorem IsRk.not_inf {rs : List Rule} {t : Row} {n : Nat} (a : IsRk rs t n) (h : ∀ n, ext rs n t = true) : False := by
  have := h (n + 1)
  rw [a.2] at this; cases this
/-- the rank by those of what comes -/
theorem IsRk.of_succs {rs : List Rule} {t : Row} {r : Row → Nat} {m : Nat} (h : ∀ u ∈ succs rs t, IsRk rs u (r u)) (h0 : succs rs t = [] → m = 0) (h1 : ∀ u ∈ succs rs t, r u + 1 ≤ m) (h2 : succs rs t ≠ [] → ∃ u ∈ succs rs t, m = r u + 1) : IsRk rs t m := by
  by_cases e : succs rs t = []
  · rw [h0 e]
    exact ⟨rfl, by show (succs rs t).any _ = false; rw [e]; rfl⟩
  · obtain ⟨u, hu, rfl⟩ := h2 e
    refine ⟨List.any_eq_true.mpr ⟨u, hu, (h u hu).1⟩, ?_⟩
    show (succs rs t).any _ = false
    rw [List.any_eq_false]
    intro v hv hx
    have l := h1 v hv
    have q := ext_le rs v hx (show r v + 1 ≤ r u + 1 by omega)
    rw [(h v hv).2] at q; cases q
theorem ext_inf {rs : List Rule} (S : Row → Prop) (h : ∀ t, S t → ∃ u ∈ succs rs t, S u) : ∀ (n : Nat) (t : Row), S t → ext rs n t = true
  | 0, _, _ => rfl
  | n + 1, t, ht => by
    obtain ⟨u, hu, su⟩ := h t ht
    exact List.any_eq_true.mpr ⟨u, hu, ext_inf S h n u su⟩
inductive Reach (rs : List Rule) (t0 : Row) : Row → Prop where
  | refl : Reach rs t0 t0
  | step {u v : Row} : Reach rs t0 u → v ∈ succs rs u → Reach rs t0 v
theorem Reach.trans {rs : List Rule} {a b c : Row} (h : Reach rs a b) (k : Reach rs b c) : Reach rs a c := by
  induction k with
  | refl => exact h
  | step _ hv ih => exact .step ih hv
/-- last places that count -/
def TailOk (rs : List Rule) (t : Row) : Prop := (∀ x ∈ t, x = 0 ∨ x = 1) ∧ (t.length : Int) + 1 ≤ wd rs
theorem mem_ways {rs : List Rule} {t : Row} {e : Int × Row} : e ∈ waysOn rs t ↔ (e.1 = 0 ∨ e.1 = 1) ∧ freeP rs t e.1 = true ∧ e.2 = nextTail (wd rs) t e.1 := by
  unfold waysOn
  constructor
  · intro h
    obtain ⟨p, hp, rfl⟩ := List.mem_map.mp h
    obtain ⟨h1, h2⟩ := List.mem_filter.mp hp
    exact ⟨by simpa using h1, h2, rfl⟩
  · rintro ⟨h1, h2, h3⟩
    exact List.mem_map.mpr ⟨e.1, List.mem_filter.mpr ⟨by simpa using h1, h2⟩, by rw [← h3]⟩
theorem mem_succs {rs : List Rule} {t u : Row} : u ∈ succs rs t ↔ ∃ p : Int, (p = 0 ∨ p = 1) ∧ freeP rs t p = true ∧ u = nextTail (wd rs) t p := by
  unfold succs
  constructor
  · intro h
    obtain ⟨e, he, rfl⟩ := List.mem_map.mp h
    exact ⟨e.1, mem_ways.mp he⟩
  · rintro ⟨p, h⟩
    exact List.mem_map.mpr ⟨(p, u), mem_ways.mpr h, rfl⟩
theorem nextTail_ok {rs : List Rule} {t : Row} {p : Int} (ok : RulesOk rs) (h : TailOk rs t) (hp : p = 0 ∨ p = 1) : TailOk rs (nextTail (wd rs) t p) := by
  have w := ok.wide
  unfold nextTail
  refine ⟨fun x hx => ?_, ?_⟩
  · have hx := List.mem_of_mem_drop hx
    rcases List.mem_append.mp hx with z | z
    · exact h.1 x z
    · rw [List.mem_singleton.mp z]; exact hp
  · rw [List.length_drop, List.length_append, List.length_singleton]
    have := h.2
    omega
theorem Reach.ok {rs : List Rule} {t0 u : Row} (ok : RulesOk rs) (h0 : TailOk rs t0) (h : Reach rs t0 u) : TailOk rs u := by
  induction h with
  | refl => exact h0
  | step _ hv ih =>
    obtain ⟨p, hp, _, rfl⟩ := mem_succs.mp hv
    exact nextTail_ok ok ih hp
theorem succs_len (rs : List Rule) (t : Row) : (succs rs t).length ≤ 2 := by
  unfold succs waysOn
  rw [List.length_map, List.length_map]
  exact Nat.le_trans (List.length_filter_le _ _) (Nat.le_refl _)
/-! #### how many there are -/
def bitRows : Nat → List Row
  | 0 => [[]]
  | n + 1 => (bitRows n).flatMap fun r => [0 :: r, 1 :: r]
theorem mem_bitRows : ∀ (t : Row), (∀ x ∈ t, x = 0 ∨ x = 1) → t ∈ bitRows t.length
  | [], _ => List.mem_singleton.mpr rfl
  | x :: t, h => by
    show x :: t ∈ (bitRows t.length).flatMap _
    refine List.mem_flatMap.mpr ⟨t, mem_bitRows t fun y hy => h y (List.mem_cons_of_mem _ hy), ?_⟩
    rcases h x List.mem_cons_self with z | z
    · rw [z]; exact List.mem_cons_self
    · rw [z]; exact List.mem_cons_of_mem _ List.mem_cons_self
def allTails : List Row := (List.range 8).flatMap bitRows
theorem allTails_len : allTails.length = 255 := by decide +kernel
theorem mem_allTails {rs : List Rule} {t : Row} (ok : RulesOk rs) (h : TailOk rs t) : t ∈ allTails := by
  have w := ok.wide
  have := h.2
  exact List.mem_flatMap.mpr ⟨t.length, List.mem_range.mpr (by omega), mem_bitRows t h.1⟩
theorem nodup_le {α : Type} [DecidableEq α] : ∀ (l m : List α), l.Nodup → (∀ x ∈ l, x ∈ m) → l.length ≤ m.length
  | [], _, _, _ => Nat.zero_le _
  | a :: l, m, h, hs => by
    obtain ⟨h1, h2⟩ := List.nodup_cons.mp h
    have ha := hs a List.mem_cons_self
    have q := nodup_le l (m.erase a) h2 fun x hx => by
      have ne : x ≠ a := fun e => h1 (e ▸ hx)
      exact (List.mem_erase_of_ne ne).mpr (hs x (List.mem_cons_of_mem _ hx))
    rw [List.length_erase_of_mem ha] at q
    have : 0 < m.length := List.length_pos_of_mem ha
    rw [List.length_cons]; omega
/-! #### tables by last places -/
def key (u : Row) : List Key := u.map Sum.inl
theorem key_map (u : Row) : (key u).map kV = u.map V.int := by
  unfold key; rw [List.map_map]; rfl
theorem key_inj : ∀ {u v : Row}, key u = key v → u = v
  | [], [], _ => rfl
  | [], _ :: _, h => by cases h
  | _ :: _, [], h => by cases h
  | a :: u, b :: v, h => by
    injection h with h1 h2
    injection h1 with h1
    rw [h1, key_inj h2]
end An
-- imports: M1
/-! ### M2: all that comes, and the ranks: the states of both loops, in plain Lean -/
namespace An
open PySem L2
abbrev Lt := List (Row × List Row)
abbrev ks {α : Type} (l : List (Row × α)) : List Row := l.map (fun e => e.1)
theorem ks_snoc {α : Type} (l : List (Row × α)) (e : Row × α) : ks (l ++ [e]) = ks l ++ [e.1] := by simp [ks]
theorem nodup_snoc {α : Type} {l : List α} {a : α} (h : l.Nodup) (n : a ∉ l) : (l ++ [a]).Nodup := by
  rw [List.nodup_append]
  exact ⟨h, List.nodup_cons.mpr ⟨List.not_mem_nil, List.nodup_nil⟩, fun x hx y hy e => n (by rw [List.mem_singleton.mp hy] at e; rw [← e]; exact hx)⟩
structure Bfs (rs : List Rule) (t0 : Row) (ln : List Row) (i : Nat) (lat : Lt) : Prop where
  le : i ≤ ln.length
  nd : (ks lat).Nodup
  val : ∀ e ∈ lat, e.2 = succs rs e.1
  inl : ∀ u ∈ ks lat, u ∈ ln
  reach : ∀ u ∈ ln, Reach rs t0 u
  done : ∀ (j : Nat) (u : Row), j < i → ln[j]? = some u → u ∈ ks lat
  sub : ∀ e ∈ lat, ∀ u ∈ e.2, u ∈ ln
  beg : ln[0]? = some t0
  len : ln.length ≤ 1 + 2 * lat.length
theorem Bfs.start (rs : List Rule) (t0 : Row) : Bfs rs t0 [t0] 0 [] := by
  refine ⟨Nat.zero_le _, List.nodup_nil, fun e h => (by cases h), fun u h => (by cases h), fun u h => ?_, fun j u h => absurd h (Nat.not_lt_zero _), fun e h => (by cases h), rfl, Nat.le_refl _⟩
  rw [List.mem_singleton.mp h]; exact .refl
section
variable {rs : List Rule} {t0 u : Row} {ln : List Row} {i : Nat} {lat : Lt}
theorem Bfs.old (b : Bfs rs t0 ln i lat) (h : ln[i]? = some u) (m : u ∈ ks lat) : Bfs rs t0 ln (i + 1) lat := by
  have hi := (List.getElem?_eq_some_iff.mp h).1
  refine ⟨hi, b.nd, b.val, b.inl, b.reach, fun j v hj hv => ?_, b.sub, b.beg, b.len⟩
  by_cases e : j = i
  · subst e; rw [h] at hv; cases hv; exact m
  · exact b.done j v (by omega) hv
theorem Bfs.new (b : Bfs rs t0 ln i lat) (h : ln[i]? = some u) (m : u ∉ ks lat) : Bfs rs t0 (ln ++ succs rs u) (i + 1) (lat ++ [(u, succs rs u)]) := by
  have hi := (List.getElem?_eq_some_iff.mp h).1
  have hu : u ∈ ln := List.mem_of_getElem? h
  refine ⟨by rw [List.length_append]; omega, ?_, fun e he => ?_, fun v hv => ?_, fun v hv => ?_, fun j v hj hv => ?_, fun e he v hv => ?_, ?_, ?_⟩
  · rw [ks_snoc]; exact nodup_snoc b.nd m
  · rcases List.mem_append.mp he with z | z
    · exact b.val e z
    · rw [List.mem_singleton.mp z]
  · rw [ks_snoc] at hv
    rcases List.mem_append.mp hv with z | z
    · exact List.mem_append_left _ (b.inl v z)
    · rw [List.mem_singleton.mp z]; exact List.mem_append_left _ hu
  · rcases List.mem_append.mp hv with z | z
    · exact b.reach v z
    · exact .step (b.reach u hu) z
  · rw [List.getElem?_append_left (by omega)] at hv
    rw [ks_snoc]
    by_cases e : j = i
    · subst e; rw [h] at hv; cases hv; exact List.mem_append_right _ (List.mem_singleton.mpr rfl)
    · exact List.mem_append_left _ (b.done j v (by omega) hv)
  · rcases List.mem_append.mp he with z | z
    · exact List.mem_append_left _ (b.sub e z v hv)
    · rw [List.mem_singleton.mp z] at hv; exact List.mem_append_right _ hv
  · rw [List.getElem?_append_left (by omega)]; exact b.beg
  · have := b.len
    have := succs_len rs u
    rw [List.length_append, List.length_append, List.length_singleton]; omega
theorem Bfs.few (b : Bfs rs t0 ln i lat) (ok : RulesOk rs) (h0 : TailOk rs t0) : lat.length ≤ 255 := by
  have q := nodup_le (ks lat) allTails b.nd fun x hx => mem_allTails ok (Reach.ok ok h0 (b.reach x (b.inl x hx)))
  rw [allTails_len, List.length_map] at q
  exact q
end
/-- all that comes, each with what comes next -/
structure Closed (rs : List Rule) (t0 : Row) (lat : Lt) : Prop where
  nd : (ks lat).Nodup
  val : ∀ e ∈ lat, e.2 = succs rs e.1
  beg : t0 ∈ ks lat
  sub : ∀ e ∈ lat, ∀ u ∈ e.2, u ∈ ks lat
  few : lat.length ≤ 255
theorem Bfs.closed {rs : List Rule} {t0 : Row} {ln : List Row} {lat : Lt} (b : Bfs rs t0 ln ln.length lat) (ok : RulesOk rs) (h0 : TailOk rs t0) : Closed rs t0 lat := by
  have all : ∀ u ∈ ln, u ∈ ks lat := fun u hu => by
    obtain ⟨j, hj, e⟩ := List.getElem_of_mem hu
    exact b.done j u hj (by rw [List.getElem?_eq_getElem hj, e])
  exact ⟨b.nd, b.val, all _ (List.mem_of_getElem? b.beg), fun e he u hu => all u (b.sub e he u hu), b.few ok h0⟩
theorem Closed.reach {rs : List Rule} {t0 u : Row} {lat : Lt} (c : Closed rs t0 lat) (h : Reach rs t0 u) : u ∈ ks lat := by
  induction h with
  | refl => exact c.beg
  | step _ hv ih =>
    obtain ⟨e, he, rfl⟩ := List.mem_map.mp ih
    exact c.sub e he _ (by rw [c.val e he]; exact hv)
/-! #### ranks -/
abbrev Rk := List (Row × Nat)
structure RkOk (rs : List Rule) (lat : Lt) (rk : Rk) : Prop where
  nd : (ks rk).Nodup
  sub : ∀ u ∈ ks rk, u ∈ ks lat
  val : ∀ e ∈ rk, IsRk rs e.1 e.2
  lt : ∀ e ∈ rk, e.2 < rk.length
theorem RkOk.start (rs : List Rule) (lat : Lt) : RkOk rs lat [] :=
  ⟨List.nodup_nil, fun u h => (by cases h), fun e h => (by cases h), fun e h => (by cases h)⟩
def rkOf (rk : Rk) (u : Row) : Nat := ((rk.find? fun e => decide (e.1 = u)).map (fun e => e.2)).getD 0
theorem rkOf_mem : ∀ {rk : Rk} {u : Row}, u ∈ ks rk → (u, rkOf rk u) ∈ rk
  | [], _, h => by cases h
  | e :: r, u, h => by
    unfold rkOf
    by_cases q : e.1 = u
    · rw [List.find?_cons_of_pos (by simpa using q)]
      show (u, e.2) ∈ e :: r
      rw [← q]; exact List.mem_cons_self
    · rw [List.find?_cons_of_neg (by simpa using q)]
      have hm : u ∈ ks r := by
        rcases List.mem_cons.mp h with z | z
        · exact absurd z.symm q
        · exact z
      exact List.mem_cons_of_mem _ (rkOf_mem hm)
section
variable {rs : List Rule} {t0 u : Row} {lat : Lt} {rk : Rk}
theorem RkOk.at (r : RkOk rs lat rk) (h : u ∈ ks rk) : IsRk rs u (rkOf rk u) ∧ rkOf rk u < rk.length := ⟨r.val _ (rkOf_mem h), r.lt _ (rkOf_mem h)⟩
theorem RkOk.le (r : RkOk rs lat rk) : rk.length ≤ lat.length := by
  have q := nodup_le (ks rk) (ks lat) r.nd r.sub
  rw [List.length_map, List.length_map] at q; exact q
theorem RkOk.new {m : Nat} (r : RkOk rs lat rk) (hl : u ∈ ks lat) (hn : u ∉ ks rk) (hs : ∀ v ∈ succs rs u, v ∈ ks rk) (h0 : succs rs u = [] → m = 0) (h1 : ∀ v ∈ succs rs u, rkOf rk v + 1 ≤ m) (h2 : succs rs u ≠ [] → ∃ v ∈ succs rs u, m = rkOf rk v + 1) :
    RkOk rs lat (rk ++ [(u, m)]) := by
  have hm : m ≤ rk.length := by
    by_cases e : succs rs u = []
    · rw [h0 e]; exact Nat.zero_le _
    · obtain ⟨v, hv, rfl⟩ := h2 e
      exact (r.at (hs v hv)).2
  refine ⟨by rw [ks_snoc]; exact nodup_snoc r.nd hn, fun v hv => ?_, fun e he => ?_, fun e he => ?_⟩
  · rw [ks_snoc] at hv
    rcases List.mem_append.mp hv with z | z
    · exact r.sub v z
    · rw [List.mem_singleton.mp z]; exact hl
  · rcases List.mem_append.mp he with z | z
    · exact r.val e z
    · rw [List.mem_singleton.mp z]
      exact IsRk.of_succs (r := rkOf rk) (fun v hv => (r.at (hs v hv)).1) h0 h1 h2
  · rw [List.length_append, List.length_singleton]
    rcases List.mem_append.mp he with z | z
    · have := r.lt e z; omega
    · rw [List.mem_singleton.mp z]
      show m < _
      omega
/-- where a whole turn told nothing new, what is left out goes on for ever -/
theorem RkOk.inf (r : RkOk rs lat rk) (c : Closed rs t0 lat) (h : ∀ e ∈ lat, e.1 ∈ ks rk ∨ ∃ v ∈ e.2, v ∉ ks rk) {u : Row} (hu : u ∈ ks lat) (hn : u ∉ ks rk) : ∀ n, ext rs n u = true := fun n => by
  refine ext_inf (fun t => t ∈ ks lat ∧ t ∉ ks rk) (fun t ht => ?_) n u ⟨hu, hn⟩
  obtain ⟨e, he, rfl⟩ := List.mem_map.mp ht.1
  rcases h e he with z | ⟨v, hv, nv⟩
  · exact absurd z ht.2
  · exact ⟨v, by rw [← c.val e he]; exact hv, c.sub e he v hv, nv⟩
end
/-- what the ranks tell -/
structure RanksOk (rs : List Rule) (t0 : Row) (rk : Rk) : Prop where
  nd : (ks rk).Nodup
  val : ∀ e ∈ rk, IsRk rs e.1 e.2
  lt : ∀ e ∈ rk, e.2 < 255
  inf : ∀ u, Reach rs t0 u → u ∉ ks rk → ∀ n, ext rs n u = true
  few : rk.length ≤ 255
theorem RkOk.fin {rs : List Rule} {t0 : Row} {lat : Lt} {rk : Rk} (r : RkOk rs lat rk) (c : Closed rs t0 lat) (h : ∀ e ∈ lat, e.1 ∈ ks rk ∨ ∃ v ∈ e.2, v ∉ ks rk) : RanksOk rs t0 rk :=
  ⟨r.nd, r.val, fun e he => by have := r.lt e he; have := r.le; have := c.few; omega, fun u hu hn => r.inf c h (c.reach hu) hn, by have := r.le; have := c.few; omega⟩
/-! #### as dicts -/
def encR (rk : Rk) : List (List Key × V) := rk.map fun e => (key e.1, V.int (e.2 : Nat))
theorem valV_enc {α : Type} (f : α → V) : ∀ (l : List (Row × α)) (u : Row), valV (l.map fun e => (key e.1, f e.2)) (key u) = (l.find? fun e => decide (e.1 = u)).map fun e => f e.2
  | [], _ => rfl
  | e :: r, u => by
    rw [List.map_cons]
    by_cases q : e.1 = u
    · rw [valV_pos (by show key e.1 = key u; rw [q]), List.find?_cons_of_pos (by simpa using q)]; rfl
    · rw [valV_neg (fun z => q (key_inj z)), List.find?_cons_of_neg (by simpa using q)]; exact valV_enc f r u
theorem encR_some {rk : Rk} {u : Row} (h : u ∈ ks rk) : valV (encR rk) (key u) = some (.int (rkOf rk u : Nat)) := by
  unfold encR
  rw [valV_enc fun n : Nat => V.int n]
  unfold rkOf
  cases q : rk.find? fun e => decide (e.1 = u) with
  | none =>
    obtain ⟨e, he, rfl⟩ := List.mem_map.mp h
    have := List.find?_eq_none.mp q e he
    simp at this
  | some e => rfl
theorem encR_none {rk : Rk} {u : Row} (h : u ∉ ks rk) : valV (encR rk) (key u) = none := by
  unfold encR
  rw [valV_enc fun n : Nat => V.int n]
  have : rk.find? (fun e => decide (e.1 = u)) = none := List.find?_eq_none.mpr fun e he q => h (by
    rw [← of_decide_eq_true q]; exact List.mem_map.mpr ⟨e, he, rfl⟩)
  rw [this]; rfl
theorem encR_isSome (rk : Rk) (u : Row) : (valV (encR rk) (key u)).isSome = decide (u ∈ ks rk) := by
  by_cases h : u ∈ ks rk
  · rw [encR_some h, decide_eq_true h]; rfl
  · rw [encR_none h, decide_eq_false h]; rfl
/-- a dict from last places to lists of such -/
def LatE (H : Hp) (L : Addr) (kv : List Key × V) (e : Row × List Row) : Prop := kv.1 = key e.1 ∧ ∃ l, kv.2 = .ref l ∧ l ≠ L ∧ LstAt H (TupI H) l e.2
theorem latV {H : Hp} {L : Addr} : ∀ {kvs : List (List Key × V)} {lat : Lt} (u : Row), Paired (LatE H L) kvs lat → (u ∉ ks lat ∧ valV kvs (key u) = none) ∨ ∃ kv e, e ∈ lat ∧ e.1 = u ∧ LatE H L kv e ∧ valV kvs (key u) = some kv.2
  | _, _, u, .nil => .inl ⟨List.not_mem_nil, rfl⟩
  | _, _, u, .cons (a := kv) (b := e) (l₁ := r) (l₂ := m) h t => by
    by_cases q : e.1 = u
    · exact .inr ⟨kv, e, List.mem_cons_self, q, h, valV_pos (by rw [h.1, q])⟩
    · have ne : ¬ kv.1 = key u := fun z => q (key_inj (by rw [← z]; exact h.1.symm))
      rw [valV_neg ne]
      rcases latV u t with ⟨h1, h2⟩ | ⟨kv', e', h1, h2, h3, h4⟩
      · refine .inl ⟨fun hm => ?_, h2⟩
        rcases List.mem_cons.mp hm with z | z
        · exact q z.symm
        · exact h1 z
      · exact .inr ⟨kv', e', List.mem_cons_of_mem _ h1, h2, h3, h4⟩
theorem LatE.mono {H H' : Hp} {L : Addr} {kv : List Key × V} {e : Row × List Row} (x : LTS H H') (h : LatE H L kv e) : LatE H' L kv e :=
  let ⟨h1, l, h2, h3, h4⟩ := h; ⟨h1, l, h2, h3, LstAt.mono (R := TupI) x (fun _ _ z => TupI.mono x.ts z) h4⟩
/-- where only the list at L changes -/
theorem LatE.but {H H' : Hp} {L : Addr} {kv : List Key × V} {e : Row × List Row} (x : ∀ b o, b ≠ L → ((∃ xs, o = .lst xs) ∨ ∃ xs, o = .tup xs) → H b = some o → H' b = some o) (t : TS H H') (h : LatE H L kv e) : LatE H' L kv e :=
  let ⟨h1, l, h2, h3, xs, h4, h5⟩ := h; ⟨h1, l, h2, h3, xs, x l _ h3 (.inl ⟨xs, rfl⟩) h4, Paired.mp h5 fun _ _ z => TupI.mono t z⟩
end An
-- imports: M2
/-! ### MR: the first of the longest rows, in plain Lean -/
namespace An
open PySem L2
/-- one step of the first of the longest rows: 0 where that is as long, else 1 -/
def rowStep (rs : List Rule) (n : Nat) (t : Row) : Int := if freeP rs t 0 = true ∧ ext rs n (nextTail (wd rs) t 0) = true then 0 else 1
def rowFrom (rs : List Rule) : Nat → Row → Row
  | 0, _ => []
  | n + 1, t => rowStep rs n t :: rowFrom rs n (nextTail (wd rs) t (rowStep rs n t))
/-- of a rank that is not nought: some step leads on, to one less; and no step leads to more -/
theorem IsRk.step {rs : List Rule} {t : Row} {n : Nat} (h : IsRk rs t (n + 1)) : (freeP rs t (rowStep rs n t) = true ∧ IsRk rs (nextTail (wd rs) t (rowStep rs n t)) n) ∧ (rowStep rs n t = 0 ∨ rowStep rs n t = 1) := by
  have no : ∀ p : Int, (p = 0 ∨ p = 1) → freeP rs t p = true → ext rs (n + 1) (nextTail (wd rs) t p) = false := fun p hp hf => by
    cases e : ext rs (n + 1) (nextTail (wd rs) t p)
    · rfl
    · have : ext rs (n + 2) t = true := List.any_eq_true.mpr ⟨_, mem_succs.mpr ⟨p, hp, hf, rfl⟩, e⟩
      rw [h.2] at this; cases this
  unfold rowStep
  by_cases c : freeP rs t 0 = true ∧ ext rs n (nextTail (wd rs) t 0) = true
  · rw [if_pos c]
    exact ⟨⟨c.1, c.2, no 0 (.inl rfl) c.1⟩, .inl rfl⟩
  · rw [if_neg c]
    obtain ⟨u, hu, e⟩ := List.any_eq_true.mp (show (succs rs t).any (ext rs n) = true from h.1)
    obtain ⟨p, hp, hf, rfl⟩ := mem_succs.mp hu
    rcases hp with rfl | rfl
    · exact absurd ⟨hf, e⟩ c
    · exact ⟨⟨hf, e, no 1 (.inr rfl) hf⟩, .inr rfl⟩
theorem rowFrom_len (rs : List Rule) : ∀ (n : Nat) (t : Row), (rowFrom rs n t).length = n
  | 0, _ => rfl
  | n + 1, t => by show (_ :: rowFrom rs n _).length = n + 1; rw [List.length_cons, rowFrom_len rs n]
end An
-- imports: MR
/-! ### M3: rows that fit, the first of them, and when they end, in plain Lean -/
namespace An
open PySem L2
/-- the last places of a row that count -/
def tl (wide : Int) (u : Row) : Row := u.drop (u.length + 1 - wide.toNat)
def endSum (u : Row) (s : Int) : Int := (u.drop (u.length - s.toNat)).sum
def okRule (u : Row) (r : Rule) : Bool := !(decide (r.1 ≤ (u.length : Int))) || (decide (r.2.1 ≤ endSum u r.1) && decide (endSum u r.1 ≤ r.2.2))
def fits (rs : List Rule) (u : Row) : Bool := rs.all (okRule u)
theorem span_le {rs : List Rule} (ok : RulesOk rs) {r : Rule} (h : r ∈ rs) : r.1 ≤ wd rs := by
  obtain ⟨z, hz, e, hl⟩ := wd_mem ok.some
  rw [e]
  obtain ⟨i, hi, rfl⟩ := List.getElem_of_mem h
  rw [List.getLast?_eq_getElem?] at hl
  obtain ⟨hj, rfl⟩ := List.getElem?_eq_some_iff.mp hl
  rcases Nat.lt_or_ge i (rs.length - 1) with c | c
  · exact Int.le_of_lt (List.pairwise_iff_getElem.mp ok.up i (rs.length - 1) hi hj c)
  · have : i = rs.length - 1 := by omega
    subst this; exact Int.le_refl _
theorem tl_len {wide : Int} {u : Row} (h : 1 ≤ wide) : ((tl wide u).length : Int) + 1 ≤ wide := by
  unfold tl; rw [List.length_drop]; omega
theorem tl_snoc {wide : Int} {u : Row} {p : Int} (h : 1 ≤ wide) : tl wide (u ++ [p]) = nextTail wide (tl wide u) p := by
  unfold tl nextTail
  rw [List.length_append, List.length_singleton, List.length_drop]
  have k : u.length + 1 - wide.toNat ≤ u.length := by omega
  rw [← List.drop_append_of_le_length k, List.drop_drop]
  congr 1; omega
theorem fits_snoc {rs : List Rule} (ok : RulesOk rs) (u : Row) (p : Int) : fits rs (u ++ [p]) = freeP rs (tl (wd rs) u) p := by
  have w := ok.wide
  unfold fits freeP brokenBy
  rw [Bool.eq_iff_iff, List.all_eq_true, Option.isNone_iff_eq_none, List.find?_eq_none]
  have key : ∀ r ∈ rs, (okRule (u ++ [p]) r = true ↔ ¬ bad (tl (wd rs) u) p r = true) := fun r hr => by
    have ro := ok.one r hr
    have rw' := span_le ok hr
    have el : (tl (wd rs) u).length = u.length - (u.length + 1 - (wd rs).toNat) := by unfold tl; rw [List.length_drop]
    unfold okRule bad
    rw [List.length_append, List.length_singleton]
    by_cases c : r.1 ≤ (u.length : Int) + 1
    · have c2 : r.1 ≤ ((tl (wd rs) u).length : Int) + 1 := by rw [el]; omega
      have e : endSum (u ++ [p]) r.1 = cnt (tl (wd rs) u) p r.1 := by
        unfold endSum cnt
        rw [List.length_append, List.length_singleton, List.drop_append_of_le_length (by omega), List.sum_append]
        have : (tl (wd rs) u).drop ((tl (wd rs) u).length + 1 - r.1.toNat) = u.drop (u.length + 1 - r.1.toNat) := by
          rw [el]
          unfold tl
          rw [List.drop_drop]
          congr 1; omega
        rw [this]; simp
      rw [e, decide_eq_true c2, decide_eq_true (show r.1 ≤ ((u.length + 1 : Nat) : Int) by omega)]
      simp
    · have c2 : ¬ r.1 ≤ ((tl (wd rs) u).length : Int) + 1 := by rw [el]; omega
      rw [decide_eq_false c2, decide_eq_false (show ¬ r.1 ≤ ((u.length + 1 : Nat) : Int) by omega)]
      simp
  constructor
  · intro h r hr; exact (key r hr).mp (h r hr)
  · intro h r hr; exact (key r hr).mpr (h r hr)
/-! #### the words that can follow, in order -/
def words (rs : List Rule) : Nat → Row → List Row
  | 0, _ => [[]]
  | n + 1, t => (([0, 1] : List Int).filter (freeP rs t)).flatMap fun p => (words rs n (nextTail (wd rs) t p)).map (p :: ·)
theorem mem_01 {p : Int} : p ∈ ([0, 1] : List Int) ↔ p = 0 ∨ p = 1 := by simp
theorem ext_words (rs : List Rule) : ∀ (n : Nat) (t : Row), ext rs n t = true ↔ words rs n t ≠ []
  | 0, _ => ⟨fun _ e => (by cases e), fun _ => rfl⟩
  | n + 1, t => by
    constructor
    · intro h
      obtain ⟨u, hu, e⟩ := List.any_eq_true.mp (show (succs rs t).any (ext rs n) = true from h)
      obtain ⟨p, hp, hf, rfl⟩ := mem_succs.mp hu
      have ne := (ext_words rs n _).mp e
      obtain ⟨w, hw⟩ := List.exists_mem_of_ne_nil _ ne
      intro z
      have : p :: w ∈ words rs (n + 1) t := List.mem_flatMap.mpr ⟨p, List.mem_filter.mpr ⟨mem_01.mpr hp, hf⟩, List.mem_map.mpr ⟨w, hw, rfl⟩⟩
      rw [z] at this; cases this
    · intro h
      obtain ⟨w, hw⟩ := List.exists_mem_of_ne_nil _ h
      obtain ⟨p, hp, hm⟩ := List.mem_flatMap.mp (show w ∈ List.flatMap _ _ from hw)
      obtain ⟨h1, h2⟩ := List.mem_filter.mp hp
      obtain ⟨v, hv, _⟩ := List.mem_map.mp hm
      exact List.any_eq_true.mpr ⟨_, mem_succs.mpr ⟨p, mem_01.mp h1, h2, rfl⟩, (ext_words rs n _).mpr fun z => by rw [z] at hv; cases hv⟩
theorem words_head (rs : List Rule) : ∀ (n : Nat) (t : Row), words rs n t ≠ [] → (words rs n t).head? = some (rowFrom rs n t)
  | 0, _, _ => rfl
  | n + 1, t, h => by
    have e : words rs (n + 1) t = (if freeP rs t 0 = true then (words rs n (nextTail (wd rs) t 0)).map (0 :: ·) else []) ++ (if freeP rs t 1 = true then (words rs n (nextTail (wd rs) t 1)).map (1 :: ·) else []) := by
      show List.flatMap _ _ = _
      by_cases a : freeP rs t 0 = true <;> by_cases b : freeP rs t 1 = true <;> simp [a, b, List.filter_cons]
    by_cases c : freeP rs t 0 = true ∧ ext rs n (nextTail (wd rs) t 0) = true
    · have ne := (ext_words rs n _).mp c.2
      have s : rowStep rs n t = 0 := if_pos c
      show _ = some (rowStep rs n t :: rowFrom rs n (nextTail (wd rs) t (rowStep rs n t)))
      rw [e, if_pos c.1, s, List.head?_append, List.head?_map, words_head rs n _ ne]; rfl
    · have s : rowStep rs n t = 1 := if_neg c
      have z : (if freeP rs t 0 = true then (words rs n (nextTail (wd rs) t 0)).map (0 :: ·) else []) = [] := by
        by_cases a : freeP rs t 0 = true
        · rw [if_pos a]
          have : words rs n (nextTail (wd rs) t 0) = [] := Classical.byContradiction fun ne => c ⟨a, (ext_words rs n _).mpr ne⟩
          rw [this]; rfl
        · rw [if_neg a]
      rw [z, List.nil_append] at e
      show _ = some (rowStep rs n t :: rowFrom rs n (nextTail (wd rs) t (rowStep rs n t)))
      rw [e] at h ⊢
      by_cases b : freeP rs t 1 = true
      · rw [if_pos b] at h ⊢
        have ne : words rs n (nextTail (wd rs) t 1) ≠ [] := fun q => h (by rw [q]; rfl)
        rw [s, List.head?_map, words_head rs n _ ne]; rfl
      · rw [if_neg b] at h; exact absurd rfl h
/-- a word's beginnings all fit -/
theorem words_fit {rs : List Rule} (ok : RulesOk rs) : ∀ (n : Nat) (u w : Row), w ∈ words rs n (tl (wd rs) u) → w.length = n ∧ (∀ x ∈ w, x = 0 ∨ x = 1) ∧ ∀ j, j < n → fits rs (u ++ w.take (j + 1)) = true
  | 0, _, w, h => by
    rw [List.mem_singleton.mp h]
    exact ⟨rfl, fun x hx => (by cases hx), fun j hj => absurd hj (Nat.not_lt_zero _)⟩
  | n + 1, u, w, h => by
    obtain ⟨p, hp, hm⟩ := List.mem_flatMap.mp (show w ∈ List.flatMap _ _ from h)
    obtain ⟨h1, h2⟩ := List.mem_filter.mp hp
    obtain ⟨v, hv, rfl⟩ := List.mem_map.mp hm
    rw [← tl_snoc ok.wide.1] at hv
    obtain ⟨a, b, c⟩ := words_fit ok n (u ++ [p]) v hv
    refine ⟨by rw [List.length_cons, a], fun x hx => ?_, fun j hj => ?_⟩
    · rcases List.mem_cons.mp hx with rfl | hx
      · exact mem_01.mp h1
      · exact b x hx
    · match j, hj with
      | 0, _ =>
        show fits rs (u ++ [p]) = true
        rw [fits_snoc ok]; exact h2
      | j + 1, hj =>
        have q := c j (by omega)
        rw [List.append_assoc] at q
        exact q
/-! #### rows that share their last places -/
def grown (rs : List Rule) (n : Nat) (F : List Row) : List Row := F.flatMap fun r => (words rs n (tl (wd rs) r)).map (r ++ ·)
def more1 (rs : List Rule) (r : Row) : List Row := (([0, 1] : List Int).filter fun p => fits rs (r ++ [p])).map fun p => r ++ [p]
def moreF (rs : List Rule) (F : List Row) : List Row := F.flatMap (more1 rs)
theorem grown_succ {rs : List Rule} (ok : RulesOk rs) (n : Nat) (F : List Row) : grown rs (n + 1) F = grown rs n (moreF rs F) := by
  unfold grown moreF
  rw [List.flatMap_assoc]
  congr 1
  funext r
  unfold more1
  rw [List.flatMap_map]
  show List.map _ (List.flatMap _ _) = _
  rw [List.map_flatMap]
  have e : (fun p => fits rs (r ++ [p])) = freeP rs (tl (wd rs) r) := funext fun p => fits_snoc ok r p
  rw [e]
  congr 1
  funext p
  rw [List.map_map, tl_snoc ok.wide.1]
  congr 1
  funext w
  show r ++ p :: w = r ++ [p] ++ w
  rw [List.append_assoc]; rfl
def thinStep (wide : Int) (found : List Row) (r : Row) : List Row := if tl wide r ∈ found.map (tl wide) then found else found ++ [r]
def thin (wide : Int) (F : List Row) : List Row := F.foldl (thinStep wide) []
theorem thin_snoc (wide : Int) (F : List Row) (r : Row) : thin wide (F ++ [r]) = thinStep wide (thin wide F) r := by
  unfold thin; rw [List.foldl_append]; rfl
theorem snoc_ind {α : Type} {C : List α → Prop} (h0 : C []) (h1 : ∀ l a, C l → C (l ++ [a])) (l : List α) : C l := by
  rw [← List.reverse_reverse l]
  induction l.reverse with
  | nil => exact h0
  | cons a m ih => rw [List.reverse_cons]; exact h1 _ _ ih
theorem thin_sub (wide : Int) (F : List Row) : ∀ r ∈ thin wide F, r ∈ F := by
  induction F using snoc_ind with
  | h0 => exact fun r h => h
  | h1 F a ih =>
    intro r h
    rw [thin_snoc] at h
    unfold thinStep at h
    split at h
    · exact List.mem_append_left _ (ih r h)
    · rcases List.mem_append.mp h with z | z
      · exact List.mem_append_left _ (ih r z)
      · exact List.mem_append_right _ z
theorem thin_nd (wide : Int) (F : List Row) : ((thin wide F).map (tl wide)).Nodup := by
  induction F using snoc_ind with
  | h0 => exact List.nodup_nil
  | h1 F a ih =>
    rw [thin_snoc]
    unfold thinStep
    split
    · exact ih
    · next h => rw [List.map_append]; exact nodup_snoc ih h
theorem thin_ne (wide : Int) (F : List Row) (h : F ≠ []) : thin wide F ≠ [] := by
  induction F using snoc_ind with
  | h0 => exact absurd rfl h
  | h1 F a _ =>
    rw [thin_snoc]
    unfold thinStep
    split
    · next m => intro e; rw [e] at m; cases m
    · intro e; exact absurd (congrArg List.length e) (by rw [List.length_append, List.length_singleton]; exact Nat.succ_ne_zero _)
theorem thin_head (rs : List Rule) (n : Nat) (F : List Row) : (grown rs n (thin (wd rs) F)).head? = (grown rs n F).head? := by
  induction F using snoc_ind with
  | h0 => rfl
  | h1 F a ih =>
    have app : ∀ A : List Row, grown rs n (A ++ [a]) = grown rs n A ++ (words rs n (tl (wd rs) a)).map (a ++ ·) := fun A => by
      unfold grown; rw [List.flatMap_append]; simp
    rw [thin_snoc]
    unfold thinStep
    split
    · next m =>
      rw [app, List.head?_append, ← ih]
      cases e : (grown rs n (thin (wd rs) F)).head? with
      | some x => rfl
      | none =>
        obtain ⟨b, hb, eb⟩ := List.mem_map.mp m
        have z : words rs n (tl (wd rs) b) = [] := by
          have : grown rs n (thin (wd rs) F) = [] := List.head?_eq_none_iff.mp e
          have q := List.flatMap_eq_nil_iff.mp this b hb
          exact List.map_eq_nil_iff.mp q
        rw [eb] at z
        rw [z]; rfl
    · rw [app, app, List.head?_append, List.head?_append, ih]
structure Front (rs : List Rule) (k : Nat) (F : List Row) : Prop where
  hd : ∀ n, k ≤ n → (words rs n []).head? = (grown rs (n - k) F).head?
  ne : F ≠ []
  ln : ∀ r ∈ F, r.length = k ∧ ∀ x ∈ r, x = 0 ∨ x = 1
  nd : (F.map (tl (wd rs))).Nodup
theorem tl_nil {wide : Int} : tl wide [] = [] := by unfold tl; exact List.drop_nil
theorem Front.start (rs : List Rule) : Front rs 0 [[]] := by
  refine ⟨fun n _ => ?_, (fun e => by cases e), fun r h => ?_, List.nodup_cons.mpr ⟨List.not_mem_nil, List.nodup_nil⟩⟩
  · unfold grown
    rw [List.flatMap_cons, List.flatMap_nil, tl_nil, List.append_nil, Nat.sub_zero]
    rw [show (fun x : Row => ([] : Row) ++ x) = id from rfl, List.map_id]
  · rw [List.mem_singleton.mp h]; exact ⟨rfl, fun x hx => by cases hx⟩
theorem mem_moreF {rs : List Rule} {F : List Row} {u : Row} (h : u ∈ moreF rs F) : ∃ r ∈ F, ∃ p : Int, (p = 0 ∨ p = 1) ∧ u = r ++ [p] := by
  obtain ⟨r, hr, hu⟩ := List.mem_flatMap.mp h
  obtain ⟨p, hp, e⟩ := List.mem_map.mp hu
  exact ⟨r, hr, p, mem_01.mp (List.mem_filter.mp hp).1, e.symm⟩
theorem Front.next {rs : List Rule} {k : Nat} {F : List Row} (ok : RulesOk rs) (f : Front rs k F) (h : moreF rs F ≠ []) : Front rs (k + 1) (thin (wd rs) (moreF rs F)) := by
  refine ⟨fun n hn => ?_, thin_ne _ _ h, fun r hr => ?_, thin_nd _ _⟩
  · rw [thin_head, f.hd n (by omega), show n - k = (n - (k + 1)) + 1 by omega, grown_succ ok]
  · obtain ⟨q, hq, p, hp, rfl⟩ := mem_moreF (thin_sub _ _ _ hr)
    obtain ⟨a, b⟩ := f.ln q hq
    refine ⟨by rw [List.length_append, a]; rfl, fun x hx => ?_⟩
    rcases List.mem_append.mp hx with z | z
    · exact b x z
    · rw [List.mem_singleton.mp z]; exact hp
theorem grown_zero (rs : List Rule) (F : List Row) : grown rs 0 F = F := by
  unfold grown
  induction F with
  | nil => rfl
  | cons r F ih => rw [List.flatMap_cons, ih]; show [r ++ []] ++ F = r :: F; rw [List.append_nil]; rfl
theorem Front.ext {rs : List Rule} {k : Nat} {F : List Row} (f : Front rs k F) : An.ext rs k [] = true ∧ F.head? = some (rowFrom rs k []) := by
  have h := f.hd k (Nat.le_refl _)
  rw [Nat.sub_self, grown_zero] at h
  have ne : words rs k [] ≠ [] := fun e => f.ne (List.head?_eq_none_iff.mp (by rw [← h, e]; rfl))
  exact ⟨(ext_words rs k []).mpr ne, by rw [← h]; exact words_head rs k [] ne⟩
theorem Front.stop {rs : List Rule} {k : Nat} {F : List Row} (ok : RulesOk rs) (f : Front rs k F) (h : moreF rs F = []) : IsRk rs [] k := by
  refine ⟨f.ext.1, ?_⟩
  have q := f.hd (k + 1) (by omega)
  rw [show k + 1 - k = 0 + 1 by omega, grown_succ ok, h] at q
  cases e : An.ext rs (k + 1) []
  · rfl
  · exact absurd (List.head?_eq_none_iff.mp q) ((ext_words rs _ _).mp e)
theorem Front.few {rs : List Rule} {k : Nat} {F : List Row} (ok : RulesOk rs) (f : Front rs k F) : F.length ≤ 255 := by
  have q := nodup_le (F.map (tl (wd rs))) allTails f.nd fun x hx => by
    obtain ⟨r, hr, rfl⟩ := List.mem_map.mp hx
    exact mem_allTails ok ⟨fun x hx => (f.ln r hr).2 x (List.mem_of_mem_drop hx), tl_len ok.wide.1⟩
  rw [List.length_map, allTails_len] at q
  exact q
theorem moreF_len (rs : List Rule) (F : List Row) : (moreF rs F).length ≤ 2 * F.length := by
  unfold moreF
  induction F with
  | nil => exact Nat.le_refl _
  | cons r F ih =>
    rw [List.flatMap_cons, List.length_append, List.length_cons]
    have : (more1 rs r).length ≤ 2 := by
      unfold more1; rw [List.length_map]; exact List.length_filter_le _ _
    omega
theorem more1_take (rs : List Rule) (r : Row) (i : Nat) (p : Int) (h : ([0, 1] : List Int)[i]? = some p) :
    ((([0, 1] : List Int).take (i + 1)).filter fun p => fits rs (r ++ [p])).map (fun p => r ++ [p]) = (((([0, 1] : List Int).take i).filter fun p => fits rs (r ++ [p])).map fun p => r ++ [p]) ++ (if fits rs (r ++ [p]) = true then [r ++ [p]] else []) := by
  rw [filter_take _ _ i p h, List.map_append]
  congr 1
  by_cases c : fits rs (r ++ [p]) = true
  · rw [if_pos c, if_pos c]; rfl
  · rw [if_neg c, if_neg c]; rfl
end An
-- imports: M3
/-! ### M4: rows end within 15 places, or never -/
namespace An
open PySem L2
def sm (f : Nat → Int) : Nat → Int
  | 0 => 0
  | n + 1 => sm f n + f n
theorem sm_add (f : Nat → Int) (a : Nat) : ∀ b, sm f (a + b) = sm f a + sm (fun x => f (a + x)) b
  | 0 => by show sm f a = sm f a + 0; omega
  | b + 1 => by
    show sm f (a + b) + f (a + b) = sm f a + (sm (fun x => f (a + x)) b + f (a + b))
    rw [sm_add f a b]; omega
theorem sm_ge (f g : Nat → Int) (c : Int) : ∀ n : Nat, (∀ x, x < n → f x + c ≤ g x) → sm f n + n * c ≤ sm g n
  | 0, _ => by show (0:Int) + ((0 : Nat) : Int) * c ≤ 0; simp
  | n + 1, h => by
    have ih := sm_ge f g c n fun x hx => h x (by omega)
    have hn := h n (Nat.lt_succ_self n)
    show sm f n + f n + ((n + 1 : Nat) : Int) * c ≤ sm g n + g n
    have : ((n + 1 : Nat) : Int) * c = (n : Int) * c + c := by rw [Int.natCast_add, Int.add_mul]; simp
    rw [this]; omega
theorem sm_le (f g : Nat → Int) (c : Int) : ∀ n : Nat, (∀ x, x < n → g x ≤ f x + c) → sm g n ≤ sm f n + n * c
  | 0, _ => by show (0:Int) ≤ 0 + ((0 : Nat) : Int) * c; simp
  | n + 1, h => by
    have ih := sm_le f g c n fun x hx => h x (by omega)
    have hn := h n (Nat.lt_succ_self n)
    show sm g n + g n ≤ sm f n + f n + ((n + 1 : Nat) : Int) * c
    have : ((n + 1 : Nat) : Int) * c = (n : Int) * c + c := by rw [Int.natCast_add, Int.add_mul]; simp
    rw [this]; omega
/-- two windows' sums bind each other -/
theorem no_clash (f : Nat → Int) (s1 s2 : Nat) (l m : Int) (h1 : ∀ x, x < s2 → f x + l ≤ f (s1 + x)) (h2 : ∀ x, x < s1 → f (s2 + x) ≤ f x + m) : (s2 : Int) * l ≤ s1 * m := by
  have a := sm_add f s1 s2
  have b := sm_add f s2 s1
  rw [Nat.add_comm s2 s1] at b
  have c := sm_ge f (fun x => f (s1 + x)) l s2 h1
  have d := sm_le f (fun x => f (s2 + x)) m s1 h2
  omega
theorem take_sum (w : Row) (i s : Nat) : ((w.take (i + s)).drop i).sum = (w.take (i + s)).sum - (w.take i).sum := by
  have e : (w.take (i + s)).take i ++ (w.take (i + s)).drop i = w.take (i + s) := List.take_append_drop _ _
  have := congrArg List.sum e
  rw [List.sum_append, List.take_take, Nat.min_eq_left (Nat.le_add_right _ _)] at this
  omega
/-- the windows of a row whose beginnings fit -/
theorem window {rs : List Rule} (ok : RulesOk rs) {w : Row} (h : ∀ j, j < w.length → fits rs (w.take (j + 1)) = true) {r : Rule} (hr : r ∈ rs) (i : Nat) (hi : i + r.1.toNat ≤ w.length) :
    (w.take i).sum + r.2.1 ≤ (w.take (i + r.1.toNat)).sum ∧ (w.take (i + r.1.toNat)).sum ≤ (w.take i).sum + r.2.2 := by
  have ro := ok.one r hr
  have q := h (i + r.1.toNat - 1) (by omega)
  rw [show i + r.1.toNat - 1 + 1 = i + r.1.toNat by omega] at q
  have z := List.all_eq_true.mp q r hr
  unfold okRule endSum at z
  rw [List.length_take, Nat.min_eq_left hi, decide_eq_true (show r.1 ≤ ((i + r.1.toNat : Nat) : Int) by omega), show i + r.1.toNat - r.1.toNat = i by omega, take_sum] at z
  simp only [Bool.not_true, Bool.false_or, Bool.and_eq_true, decide_eq_true_eq] at z
  omega
/-- no two rules clash, if 15 places are to be had -/
theorem agree {rs : List Rule} (ok : RulesOk rs) (h : ext rs 15 [] = true) {a b : Rule} (ha : a ∈ rs) (hb : b ∈ rs) : b.1 * a.2.1 ≤ a.1 * b.2.2 := by
  obtain ⟨w, hw⟩ := List.exists_mem_of_ne_nil _ ((ext_words rs 15 []).mp h)
  rw [show ([] : Row) = tl (wd rs) [] from tl_nil.symm] at hw
  obtain ⟨hl, _, hf⟩ := words_fit ok 15 [] w hw
  have hf' : ∀ j, j < w.length → fits rs (w.take (j + 1)) = true := fun j hj => hf j (by omega)
  have oa := ok.one a ha
  have ob := ok.one b hb
  have q := no_clash (fun i => (w.take i).sum) a.1.toNat b.1.toNat a.2.1 b.2.2 (fun x hx => ?_) (fun x hx => ?_)
  · rw [show ((b.1.toNat : Nat) : Int) = b.1 by omega, show ((a.1.toNat : Nat) : Int) = a.1 by omega] at q
    exact q
  · have := (window ok hf' ha x (by omega)).1
    rw [Nat.add_comm]; exact this
  · have := (window ok hf' hb x (by omega)).2
    rw [Nat.add_comm]; exact this
/-! #### the even row -/
def evenR (a b : Int) (n : Nat) : Row := (List.range n).map fun (j : Nat) => ((j : Int) + 1) * a / b - (j : Int) * a / b
theorem even_snoc (a b : Int) (n : Nat) : evenR a b (n + 1) = evenR a b n ++ [((n : Int) + 1) * a / b - (n : Int) * a / b] := by
  unfold evenR; rw [List.range_succ, List.map_append]; rfl
theorem even_len (a b : Int) (n : Nat) : (evenR a b n).length = n := by unfold evenR; rw [List.length_map, List.length_range]
theorem even_sum (a b : Int) : ∀ n : Nat, (evenR a b n).sum = (n : Int) * a / b
  | 0 => by show (0 : Int) = ((0 : Nat) : Int) * a / b; simp
  | n + 1 => by
    rw [even_snoc, List.sum_append, even_sum a b n, List.sum_singleton]
    have : ((n + 1 : Nat) : Int) = (n : Int) + 1 := by omega
    rw [this]; omega
theorem even_take (a b : Int) (n i : Nat) (h : i ≤ n) : (evenR a b n).take i = evenR a b i := by
  unfold evenR; rw [← List.map_take, List.take_range, Nat.min_eq_left h]
theorem even_end (a b : Int) (n s : Nat) (h : s ≤ n) : ((evenR a b n).drop (n - s)).sum = (n : Int) * a / b - ((n - s : Nat) : Int) * a / b := by
  have e : (evenR a b n).take (n - s) ++ (evenR a b n).drop (n - s) = evenR a b n := List.take_append_drop _ _
  have := congrArg List.sum e
  rw [List.sum_append, even_take a b n (n - s) (by omega), even_sum, even_sum] at this
  omega
/-- whole parts of even steps -/
theorem even_step {a b : Int} (hb : 0 < b) (x s l : Int) (h : l * b ≤ s * a) : x * a / b + l ≤ (x + s) * a / b := by
  rw [← Int.add_mul_ediv_right _ _ (Int.ne_of_gt hb)]
  refine Int.ediv_le_ediv hb ?_
  rw [Int.add_mul]; omega
theorem even_step' {a b : Int} (hb : 0 < b) (x s m : Int) (h : s * a ≤ m * b) : (x + s) * a / b ≤ x * a / b + m := by
  rw [← Int.add_mul_ediv_right _ _ (Int.ne_of_gt hb)]
  refine Int.ediv_le_ediv hb ?_
  rw [Int.add_mul]; omega
theorem even_bit {a b : Int} (hb : 0 < b) (ha : 0 ≤ a) (hab : a ≤ b) (n : Nat) : ((n : Int) + 1) * a / b - (n : Int) * a / b = 0 ∨ ((n : Int) + 1) * a / b - (n : Int) * a / b = 1 := by
  have h1 := even_step (a := a) hb (n : Int) 1 0 (by omega)
  have h2 := even_step' (a := a) hb (n : Int) 1 1 (by omega)
  omega
/-- a share that all rules allow -/
structure Share (rs : List Rule) (a b : Int) : Prop where
  pos : 0 < b
  lo : 0 ≤ a
  hi : a ≤ b
  all : ∀ r ∈ rs, r.2.1 * b ≤ r.1 * a ∧ r.1 * a ≤ r.2.2 * b
theorem even_fits {rs : List Rule} {a b : Int} (ok : RulesOk rs) (s : Share rs a b) (n : Nat) : fits rs (evenR a b n) = true := by
  refine List.all_eq_true.mpr fun r hr => ?_
  have ro := ok.one r hr
  obtain ⟨h1, h2⟩ := s.all r hr
  unfold okRule endSum
  rw [even_len]
  by_cases c : r.1 ≤ (n : Int)
  · rw [even_end a b n r.1.toNat (by omega)]
    have e1 := even_step s.pos (((n - r.1.toNat : Nat) : Int)) r.1 r.2.1 h1
    have e2 := even_step' s.pos (((n - r.1.toNat : Nat) : Int)) r.1 r.2.2 h2
    rw [show ((n - r.1.toNat : Nat) : Int) + r.1 = (n : Int) by omega] at e1 e2
    rw [decide_eq_true (show r.2.1 ≤ _ by omega), decide_eq_true (show _ ≤ r.2.2 by omega)]
    simp
  · rw [decide_eq_false c]; rfl
theorem even_ext {rs : List Rule} {a b : Int} (ok : RulesOk rs) (s : Share rs a b) (n : Nat) : ext rs n [] = true := by
  refine ext_inf (fun t => ∃ k, t = tl (wd rs) (evenR a b k)) (fun t ht => ?_) n [] ⟨0, tl_nil.symm⟩
  obtain ⟨k, rfl⟩ := ht
  refine ⟨_, mem_succs.mpr ⟨_, even_bit s.pos s.lo s.hi k, ?_, rfl⟩, k + 1, ?_⟩
  · rw [← fits_snoc ok, ← even_snoc]; exact even_fits ok s _
  · rw [even_snoc, tl_snoc ok.wide.1]
/-- the rule that asks most -/
theorem most_asking : ∀ (rs : List Rule), rs ≠ [] → (∀ r ∈ rs, 1 ≤ r.1) → ∃ a ∈ rs, ∀ r ∈ rs, r.2.1 * a.1 ≤ r.1 * a.2.1
  | [], h, _ => absurd rfl h
  | [r], _, _ => ⟨r, List.mem_singleton.mpr rfl, fun q hq => by rw [List.mem_singleton.mp hq, Int.mul_comm]; exact Int.le_refl _⟩
  | r :: r2 :: rs, _, hp => by
    obtain ⟨a, ha, h⟩ := most_asking (r2 :: rs) (fun e => by cases e) fun q hq => hp q (List.mem_cons_of_mem _ hq)
    have pa := hp a (List.mem_cons_of_mem _ ha)
    have pr := hp r List.mem_cons_self
    by_cases c : r.2.1 * a.1 ≤ r.1 * a.2.1
    · refine ⟨a, List.mem_cons_of_mem _ ha, fun q hq => ?_⟩
      rcases List.mem_cons.mp hq with rfl | hq
      · exact c
      · exact h q hq
    · refine ⟨r, List.mem_cons_self, fun q hq => ?_⟩
      rcases List.mem_cons.mp hq with rfl | hq
      · rw [Int.mul_comm]; exact Int.le_refl _
      · have hq1 := h q hq
        have pq := hp q (List.mem_cons_of_mem _ hq)
        have c' : r.1 * a.2.1 ≤ r.2.1 * a.1 := by omega
        have e1 : q.2.1 * a.1 * r.1 ≤ q.1 * a.2.1 * r.1 := Int.mul_le_mul_of_nonneg_right hq1 (by omega)
        have e2 : r.1 * a.2.1 * q.1 ≤ r.2.1 * a.1 * q.1 := Int.mul_le_mul_of_nonneg_right c' (by omega)
        refine Int.le_of_mul_le_mul_right (a := a.1) ?_ (by omega)
        have f1 : q.2.1 * r.1 * a.1 = q.2.1 * a.1 * r.1 := by rw [Int.mul_assoc, Int.mul_comm r.1, ← Int.mul_assoc]
        have f2 : q.1 * a.2.1 * r.1 = r.1 * a.2.1 * q.1 := by rw [Int.mul_comm q.1, Int.mul_assoc, Int.mul_comm q.1, ← Int.mul_assoc, Int.mul_comm a.2.1 r.1]
        have f3 : q.1 * r.2.1 * a.1 = r.2.1 * a.1 * q.1 := by rw [Int.mul_assoc, Int.mul_comm q.1]
        omega
theorem share_of {rs : List Rule} (ok : RulesOk rs) (h : ∀ a ∈ rs, ∀ b ∈ rs, b.1 * a.2.1 ≤ a.1 * b.2.2) : ∃ a b, Share rs a b := by
  obtain ⟨a, ha, m⟩ := most_asking rs ok.some fun r hr => (ok.one r hr).1
  have oa := ok.one a ha
  refine ⟨a.2.1, a.1, ⟨by omega, by omega, by omega, fun r hr => ⟨m r hr, ?_⟩⟩⟩
  have := h a ha r hr
  rw [Int.mul_comm r.2.2]; exact this
theorem forever {rs : List Rule} (ok : RulesOk rs) (h : ext rs 15 [] = true) (n : Nat) : ext rs n [] = true := by
  obtain ⟨a, b, s⟩ := share_of ok fun a ha b hb => agree ok h ha hb
  exact even_ext ok s n
end An
-- imports: M4
/-! ### MF: rows that keep the rules, in plain Lean -/
namespace An
open PySem L2
/-- a row whose beginnings all fit -/
structure Fine (rs : List Rule) (u : Row) : Prop where
  bits : ∀ x ∈ u, x = 0 ∨ x = 1
  fit : ∀ j, j < u.length → fits rs (u.take (j + 1)) = true
theorem Fine.nil {rs : List Rule} : Fine rs [] := ⟨fun x h => (by cases h), fun j h => absurd h (Nat.not_lt_zero _)⟩
theorem Fine.snoc {rs : List Rule} {u : Row} {p : Int} (f : Fine rs u) (hp : p = 0 ∨ p = 1) (h : fits rs (u ++ [p]) = true) : Fine rs (u ++ [p]) := by
  refine ⟨fun x hx => ?_, fun j hj => ?_⟩
  · rcases List.mem_append.mp hx with z | z
    · exact f.bits x z
    · rw [List.mem_singleton.mp z]; exact hp
  · rw [List.length_append, List.length_singleton] at hj
    rcases Nat.lt_or_ge j u.length with c | c
    · rw [List.take_append_of_le_length (by omega)]; exact f.fit j c
    · rw [List.take_of_length_le (by rw [List.length_append, List.length_singleton]; omega)]; exact h
theorem Fine.tail {rs : List Rule} {u : Row} (ok : RulesOk rs) (f : Fine rs u) : TailOk rs (tl (wd rs) u) :=
  ⟨fun x hx => f.bits x (List.mem_of_mem_drop hx), tl_len ok.wide.1⟩
theorem tl_tl {rs : List Rule} {t : Row} (h : TailOk rs t) : tl (wd rs) t = t := by
  have := h.2
  unfold tl
  rw [show t.length + 1 - (wd rs).toNat = 0 by omega]; rfl
theorem Fine.free {rs : List Rule} {u : Row} (ok : RulesOk rs) (f : Fine rs u) {j : Nat} {p : Int} (h : u[j]? = some p) : freeP rs (tl (wd rs) (u.take j)) p = true := by
  have hj := (List.getElem?_eq_some_iff.mp h).1
  have q := f.fit j hj
  rw [List.take_add_one, h] at q
  rw [← fits_snoc ok]; exact q
/-- for ever -/
def Inf (rs : List Rule) (t : Row) : Prop := ∀ n, ext rs n t = true
theorem chain_of {rs : List Rule} (ok : RulesOk rs) : ∀ (n : Nat) (t : Row), TailOk rs t → IsRk rs t n → ∃ l : List Row, l.length = n + 1 ∧ l.Nodup ∧ ∀ u ∈ l, TailOk rs u ∧ ∃ m, m ≤ n ∧ IsRk rs u m
  | 0, t, h, r => ⟨[t], rfl, by simp, fun u hu => by rw [List.mem_singleton.mp hu]; exact ⟨h, 0, Nat.le_refl _, r⟩⟩
  | n + 1, t, h, r => by
    obtain ⟨⟨h1, h2⟩, h3⟩ := IsRk.step r
    obtain ⟨l, e1, e2, e3⟩ := chain_of ok n _ (nextTail_ok ok h h3) h2
    refine ⟨t :: l, by rw [List.length_cons, e1], List.nodup_cons.mpr ⟨fun m => ?_, e2⟩, fun u hu => ?_⟩
    · obtain ⟨_, k, hk, rk⟩ := e3 t m
      have := r.uniq rk
      omega
    · rcases List.mem_cons.mp hu with rfl | hu
      · exact ⟨h, n + 1, Nat.le_refl _, r⟩
      · obtain ⟨a, k, hk, rk⟩ := e3 u hu
        exact ⟨a, k, by omega, rk⟩
theorem rank_lt {rs : List Rule} (ok : RulesOk rs) {t : Row} (h : TailOk rs t) {n : Nat} (r : IsRk rs t n) : n < 255 := by
  obtain ⟨l, e1, e2, e3⟩ := chain_of ok n t h r
  have q := nodup_le l allTails e2 fun u hu => mem_allTails ok (e3 u hu).1
  rw [e1, allTails_len] at q
  omega
theorem rank_or {rs : List Rule} {t : Row} : ∀ n : Nat, ext rs n t = true ∨ ∃ m, m < n ∧ IsRk rs t m
  | 0 => .inl rfl
  | n + 1 => by
    rcases rank_or (rs := rs) (t := t) n with h | ⟨m, hm, r⟩
    · cases e : ext rs (n + 1) t
      · exact .inr ⟨n, Nat.lt_succ_self _, h, e⟩
      · exact .inl rfl
    · exact .inr ⟨m, by omega, r⟩
theorem inf_of {rs : List Rule} (ok : RulesOk rs) {t : Row} (h : TailOk rs t) (e : ext rs 255 t = true) : Inf rs t := fun n => by
  rcases rank_or (rs := rs) (t := t) n with z | ⟨m, _, r⟩
  · exact z
  · have := rank_lt ok h r
    have q := ext_le rs t e (show m + 1 ≤ 255 by omega)
    rw [r.2] at q; cases q
/-- told by numbers -/
def infB (rs : List Rule) (t : Row) : Bool := ext rs 255 t
theorem inf_iff {rs : List Rule} (ok : RulesOk rs) {t : Row} (h : TailOk rs t) : infB rs t = true ↔ Inf rs t := ⟨inf_of ok h, fun e => e 255⟩
theorem rank_or_inf {rs : List Rule} (ok : RulesOk rs) {t : Row} (h : TailOk rs t) : (∃ n, n < 255 ∧ IsRk rs t n) ∨ Inf rs t := by
  rcases rank_or (rs := rs) (t := t) 255 with z | z
  · exact .inr (inf_of ok h z)
  · exact .inl z
/-- the places that can follow for ever -/
def onsOf (rs : List Rule) (t : Row) : Row := ([0, 1] : List Int).filter fun p => freeP rs t p && infB rs (nextTail (wd rs) t p)
theorem ons_ne {rs : List Rule} (ok : RulesOk rs) {t : Row} (h : TailOk rs t) : onsOf rs t ≠ [] ↔ Inf rs t := by
  constructor
  · intro ne n
    obtain ⟨p, hp⟩ := List.exists_mem_of_ne_nil _ ne
    obtain ⟨h1, h2⟩ := List.mem_filter.mp hp
    obtain ⟨h3, h4⟩ := Bool.and_eq_true_iff.mp h2
    have hp01 := mem_01.mp h1
    have inf := (inf_iff ok (nextTail_ok ok h hp01)).mp h4
    cases n with
    | zero => rfl
    | succ n => exact List.any_eq_true.mpr ⟨_, mem_succs.mpr ⟨p, hp01, h3, rfl⟩, inf n⟩
  · intro inf e
    obtain ⟨u, hu, eu⟩ := List.any_eq_true.mp (show (succs rs t).any (ext rs 255) = true from inf 256)
    obtain ⟨p, hp, hf, rfl⟩ := mem_succs.mp hu
    have : p ∈ onsOf rs t := List.mem_filter.mpr ⟨mem_01.mpr hp, by rw [hf]; exact eu⟩
    rw [e] at this; cases this
end An
-- imports: M1
/-! ### ME: last places that were seen, as a dict -/
namespace An
open PySem L2
def encS (ss : List Row) : List (List Key × V) := ss.map fun t => (key t, V.bl true)
theorem encS_get (ss : List Row) (u : Row) : valV (encS ss) (key u) = if u ∈ ss then some (.bl true) else none := by
  induction ss with
  | nil => rfl
  | cons t ss ih =>
    show valV ((key t, V.bl true) :: encS ss) (key u) = _
    by_cases e : t = u
    · subst e; rw [valV_pos rfl, if_pos List.mem_cons_self]
    · rw [valV_neg fun z => e (key_inj z), ih]
      by_cases m : u ∈ ss
      · rw [if_pos m, if_pos (List.mem_cons_of_mem _ m)]
      · rw [if_neg m, if_neg fun z => (List.mem_cons.mp z).elim (fun q => e q.symm) m]
end An
-- imports: B3
/-! ### MD: rows as data -/
namespace An
open PySem L2
/-! #### rows as data -/
def rowD (r : Row) : PyData := .tuple (r.map PyData.int)
theorem ints_lay : ∀ r : Row, PyData.canLayAll0 (r.map PyData.int) = true
  | [] => by simp [PyData.canLayAll0]
  | x :: r => by
    have := ints_lay r
    simp only [List.map_cons, PyData.canLayAll0, PyData.canLay0, Bool.true_and]
    exact this
theorem ints_depth : ∀ r : Row, PyData.depthAll (r.map PyData.int) = 0
  | [] => by simp [PyData.depthAll]
  | x :: r => by
    have := ints_depth r
    simp only [List.map_cons, PyData.depthAll, PyData.depth, this]; rfl
theorem rowD_lay (r : Row) : PyData.canLay0 (rowD r) = true := by
  unfold rowD; simp only [PyData.canLay0]; exact ints_lay r
theorem rowD_depth (r : Row) : PyData.depth (rowD r) = 1 := by
  unfold rowD; simp only [PyData.depth, ints_depth]
theorem rowD_shaped (r : Row) : SeqAt.shaped (rowD r) = true := by
  show ((rowD r).canLay0 && decide ((rowD r).depth ≤ 64)) = true
  rw [rowD_lay, rowD_depth]; rfl
theorem rowsD_lay : ∀ F : List Row, PyData.canLayAll0 (F.map rowD) = true
  | [] => by simp [PyData.canLayAll0]
  | x :: r => by
    have := rowsD_lay r
    simp only [List.map_cons, PyData.canLayAll0, rowD_lay, Bool.true_and]
    exact this
theorem rowsD_depth : ∀ F : List Row, PyData.depthAll (F.map rowD) ≤ 1
  | [] => by simp [PyData.depthAll]
  | x :: r => by
    have := rowsD_depth r
    simp only [List.map_cons, PyData.depthAll, rowD_depth]
    omega
theorem rowsD_shaped (F : List Row) : SeqAt.shaped (.list (F.map rowD)) = true := by
  have h := rowsD_depth F
  have h2 : PyData.depth (.list (F.map rowD)) ≤ 64 := by
    simp only [PyData.depth]
    omega
  show (PyData.canLay0 (.list (F.map rowD)) && decide (PyData.depth (.list (F.map rowD)) ≤ 64)) = true
  rw [Bool.and_eq_true]
  exact ⟨by simp only [PyData.canLay0]; exact rowsD_lay F, decide_eq_true h2⟩
theorem rowsD_nil (F : List Row) : PyData.eqv (.list (F.map rowD)) (.list []) = decide (F = []) := by
  cases F with
  | nil => simp [PyData.eqv, PyData.eqvAll]
  | cons r F => simp [PyData.eqv, PyData.eqvAll]
theorem dp_ints {K : PySem.W.Frag} {H : Hp} : ∀ r : Row, DpAll K H (r.map V.int) (r.map PyData.int)
  | [] => .nil
  | x :: r => .cons (.int x) (dp_ints r)
theorem dp_row {K : PySem.W.Frag} {H : Hp} {v : V} {r : Row} (h : TupI H v r) : Dp K H v (rowD r) := by
  obtain ⟨a, rfl, ha⟩ := h
  exact .tup (SqT.of ha) (dp_ints r)
theorem dp_rows {K : PySem.W.Frag} {H : Hp} : ∀ {xs : List V} {F : List Row}, Paired (TupI H) xs F → DpAll K H xs (F.map rowD)
  | _, _, .nil => .nil
  | _, _, .cons h t => .cons (dp_row h) (dp_rows t)
end An
-- imports: X0 B3
/-! ### E1: the deck of picks -/
namespace An
open PySem L2
/-- a deck: picks told in order, then made -/
def DeckAt (H : Hp) (a : Addr) (N : Int) : Prop := ∃ d0 d1 d2 : Int, H a = some (.lst [.int d0, .int d1, .int d2]) ∧ 0 ≤ d0 ∧ 0 ≤ d1 ∧ d1 < 2147483648 ∧ 0 ≤ d2 ∧ d2 ≤ N
theorem DeckAt.mono {H H' : Hp} {a : Addr} {N M : Int} (h : DeckAt H a N) (e : ∀ xs, H a = some (.lst xs) → H' a = some (.lst xs)) (le : N ≤ M) : DeckAt H' a M :=
  let ⟨d0, d1, d2, h1, h2, h3, h4, h5, h6⟩ := h; ⟨d0, d1, d2, e _ h1, h2, h3, h4, h5, Int.le_trans h6 le⟩
theorem DeckAt.same {H H' : Hp} {a : Addr} {N : Int} (h : DeckAt H a N) (e : Same H H') : DeckAt H' a N := h.mono (fun _ => e _ _) (Int.le_refl _)
theorem TS.deck {H : Hp} {a : Addr} {N : Int} {o : HO} (h : DeckAt H a N) : TS H (upd H a o) := let ⟨_, _, _, h1, _⟩ := h; TS.lst h1
section
variable {P : Program} {w : World} {K : PySem.W.Frag} {mg : Str → Option Value} {base : Heap}
def N__law_deck : List Str := ["cell", "turn"]
theorem sc_law_deck : FnScope N__law_deck ["cell", "turn"] (defScope S__law_deck) := ⟨rfl, rfl, rfl, by decide +kernel, rfl, by decide +kernel, by decide +kernel⟩
def spDeck : Sp := fun vs H Q _ => ∃ c t : Int, vs = [.int c, .int t] ∧ 0 ≤ t ∧ ∀ p H', Same H H' → H p = none → DeckAt H' p t → Q (.ref p) H'
theorem ok_law_deck (D : Dn K mg "_law_deck" S__law_deck) : Cl P w K mg base 1 "_law_deck" spDeck := by
  refine D.ok sc_law_deck (fun vs H Q E h => ?_) (fun _ _ _ _ _ _ us hl => match us, hl with | [_, _], _ => rfl) (fun f cdv A outer s H vs Q E hr h => ?_)
  · obtain ⟨c, t, rfl, _⟩ := h; rfl
  · obtain ⟨c, t, rfl, ht, k⟩ := h
    have nd := sc_law_deck.nd
    refine ⟨_, (pss_cons (ps_if (pt_cmpR op_ge (pv 0) (pe_op op_pow pe_int pe_int) (nomark _))
    (pss_one (ps_ret (pe_lst (pa_cons (pe_op op_sub (pv 0) (pe_op op_pow pe_int pe_int)) (pa_cons (pe_op op_mod (pv 0) pe_int) (pa_cons (pv 1) pa_nil))))))
    pss_nil)
    (pss_one (ps_ret (pe_lst (pa_cons pe_int (pa_cons (pe_op op_mod (pv 0) pe_int) (pa_cons (pv 1) pa_nil))))))), ?_⟩
    refine ⟨_, rfl, _, _, rfl, rfl, ⟨by decide, by decide, by decide⟩, _, _, rfl, rfl, _, rfl, ?_⟩
    refine ite2 (fun h1 => ?_) (fun h1 => ?_)
    · rw [decide_eq_true_eq] at h1
      refine ⟨_, rfl, _, _, rfl, rfl, ⟨by decide, by decide, by decide⟩, _, _, rfl, rfl, _, rfl, _, _, rfl, rfl, (by decide : (0:Int) < 2147483579), _, rfl, sz (by show 3 ≤ 100000; decide), fun p hp => ?_⟩
      exact k p _ (Same.new hp) hp ⟨_, _, _, upd_same, Int.sub_nonneg_of_le h1, Int.emod_nonneg _ (by decide), by have := Int.emod_lt_of_pos c (b := 2147483579) (by decide); omega, ht, Int.le_refl _⟩
    · refine ⟨_, rfl, _, _, rfl, rfl, (by decide : (0:Int) < 2147483579), _, rfl, sz (by show 3 ≤ 100000; decide), fun p hp => ?_⟩
      exact k p _ (Same.new hp) hp ⟨_, _, _, upd_same, by decide, Int.emod_nonneg _ (by decide), by have := Int.emod_lt_of_pos c (b := 2147483579) (by decide); omega, ht, Int.le_refl _⟩
def N__law_pick : List Str := ["deck", "size", "found", "number"]
theorem sc_law_pick : FnScope N__law_pick ["deck", "size"] (defScope S__law_pick) := ⟨rfl, rfl, rfl, by decide +kernel, rfl, by decide +kernel, by decide +kernel⟩
def spPick : Sp := fun vs H Q _ => ∃ (a : Addr) (size N : Int), vs = [.ref a, .int size] ∧ 0 < size ∧ size < 1073741824 ∧ N < 1073741824 ∧ DeckAt H a N ∧ ∀ (r : Int) H', 0 ≤ r → r < size → SameX [a] H H' → TS H H' → DeckAt H' a (N + 1) → Q (.int r) H'
theorem ok_law_pick (D : Dn K mg "_law_pick" S__law_pick) : Cl P w K mg base 1 "_law_pick" spPick := by
  refine D.ok sc_law_pick (fun vs H Q E h => ?_) (fun _ _ _ _ _ _ us hl => match us, hl with | [_, _], _ => rfl) (fun f cdv A outer s H vs Q E hr h => ?_)
  · obtain ⟨a, size, N, rfl, _⟩ := h; rfl
  · obtain ⟨a, size, N, rfl, hs, hs2, hN, ⟨d0, d1, d2, ha, h0, h1, h2, h3, h4⟩, k⟩ := h
    have nd := sc_law_pick.nd
    refine ⟨_, (pss_cons (ps_if (pt_cmpR op_gt (pe_ix ix_list (pv 0) pe_int (fun _ _ => rfl)) pe_int (nomark _))
    (pss_cons (ps_set (i := 2) nd rfl (Or.inl rfl) (pe_op op_mod (pe_ix ix_list (pv 0) pe_int (fun _ _ => rfl)) (pv 1)))
    (pss_cons (ps_asg (pe_op op_fdiv (pe_ix ix_list (pv 0) pe_int (fun _ _ => rfl)) (pv 1)) (pg_sub (pv 0) pe_int set_list))
    (pss_one (ps_ret (pv 2)))))
    pss_nil)
    (pss_cons (ps_asg (pe_op op_add (pe_ix ix_list (pv 0) pe_int (fun _ _ => rfl)) pe_int) (pg_sub (pv 0) pe_int set_list))
    (pss_cons (ps_set (i := 3) nd rfl (Or.inl rfl) (pe_op op_mod (pe_op op_pow (pe_op op_add (pe_ix ix_list (pv 0) pe_int (fun _ _ => rfl)) (pe_op op_mul pe_int (pe_ix ix_list (pv 0) pe_int (fun _ _ => rfl)))) pe_int) pe_int))
    (pss_cons (ps_set (i := 2) nd rfl (Or.inl rfl) (pe_op op_fdiv (pe_op op_mod (pe_op op_pow (pe_op op_add (pv 3) (pe_op op_mul pe_int (pe_ix ix_list (pv 0) pe_int (fun _ _ => rfl)))) pe_int) pe_int) pe_int))
    (pss_one (ps_ret (pe_op op_mod (pv 2) (pv 1)))))))), ?_⟩
    have key : ∀ e0 e2 : Int, 0 ≤ e0 → 0 ≤ e2 → e2 ≤ N + 1 → ∀ r : Int, 0 ≤ r → r < size → Q (.int r) (upd H a (.lst [.int e0, .int d1, .int e2])) := fun e0 e2 z0 z1 z2 r r1 r2 =>
      k r _ r1 r2 (SameX.updA (List.mem_singleton.mpr rfl)) (TS.lst ha) ⟨_, _, _, upd_same, z0, h1, h2, z1, z2⟩
    refine ⟨_, rfl, a, _, 0, _, rfl, rfl, SqL.of ha, rfl, _, _, rfl, rfl, _, rfl, ?_⟩
    refine ite2 (fun g => ?_) (fun g => ?_)
    · refine ⟨_, rfl, a, _, 0, _, rfl, rfl, SqL.of ha, rfl, _, rfl, _, _, rfl, rfl, hs, ?_⟩
      refine ⟨_, rfl, a, _, 0, _, rfl, rfl, SqL.of ha, rfl, _, rfl, _, _, rfl, rfl, ⟨hs, hs2⟩, ?_⟩
      refine ⟨_, rfl, a, _, 0, 0, rfl, rfl, ha, rfl, _, rfl, ?_⟩
      exact key _ _ (Int.ediv_nonneg h0 (Int.le_of_lt hs)) h3 (by omega) _ (Int.emod_nonneg _ (by omega)) (Int.emod_lt_of_pos _ hs)
    · refine ⟨_, rfl, a, _, 2, _, rfl, rfl, SqL.of ha, rfl, _, _, rfl, rfl, ?_⟩
      refine ⟨_, rfl, a, _, 2, 2, rfl, rfl, ha, rfl, ?_⟩
      have ha' : upd H a (.lst (([.int d0, .int d1, .int d2] : List V).set 2 (.int (d2 + 1)))) a = some (.lst [.int d0, .int d1, .int (d2 + 1)]) := upd_same
      refine ⟨_, rfl, a, _, 1, _, rfl, rfl, SqL.of ha', rfl, _, rfl, a, _, 2, _, rfl, rfl, SqL.of ha', rfl, _, _, rfl, rfl, .inl ⟨by decide, by decide⟩, _, _, rfl, rfl, ?_⟩
      refine ⟨_, _, rfl, rfl, ⟨by decide, by decide, by omega⟩, _, _, rfl, rfl, (by decide : (0:Int) < 2147483647), ?_⟩
      have n0 : 0 ≤ (d1 + 15485867 * (d2 + 1)) ^ (5:Int).toNat % 2147483647 := Int.emod_nonneg _ (by decide)
      have n1 : (d1 + 15485867 * (d2 + 1)) ^ (5:Int).toNat % 2147483647 < 2147483647 := Int.emod_lt_of_pos _ (by decide)
      revert n0 n1
      generalize (d1 + 15485867 * (d2 + 1)) ^ (5:Int).toNat % 2147483647 = num
      intro n0 n1
      refine ⟨_, rfl, _, rfl, a, _, 2, _, rfl, rfl, SqL.of ha', rfl, _, _, rfl, rfl, .inl ⟨by decide, by decide⟩, _, _, rfl, rfl, ?_⟩
      refine ⟨_, _, rfl, rfl, ⟨by decide, by decide, by omega⟩, _, _, rfl, rfl, (by decide : (0:Int) < 2147483629), _, _, rfl, rfl, ⟨by decide, by decide⟩, ?_⟩
      refine ⟨_, rfl, _, rfl, _, _, rfl, rfl, hs, ?_⟩
      exact key _ _ h0 (by omega) (by omega) _ (Int.emod_nonneg _ (by omega)) (Int.emod_lt_of_pos _ hs)
/-- one of a list of numbers -/
def N__law_one : List Str := ["deck", "some"]
theorem sc_law_one : FnScope N__law_one ["deck", "some"] (defScope S__law_one) := ⟨rfl, rfl, rfl, by decide +kernel, rfl, by decide +kernel, by decide +kernel⟩
def spOne : Sp := fun vs H Q _ => ∃ (a b : Addr) (xs : List V) (N : Int), vs = [.ref a, .ref b] ∧ a ≠ b ∧ H b = some (.lst xs) ∧ xs ≠ [] ∧ xs.length < 1000 ∧ N < 1073741824 ∧ DeckAt H a N ∧ ∀ x H', x ∈ xs → SameX [a] H H' → TS H H' → DeckAt H' a (N + 1) → Q x H'
theorem ok_law_one (D : Dn K mg "_law_one" S__law_one) (bf : Bf mg) (C_law_pick : Cl P w K mg base 1 "_law_pick" spPick) : Cl P w K mg base 2 "_law_one" spOne := by
  refine D.ok sc_law_one (fun vs H Q E h => ?_) (fun _ _ _ _ _ _ us hl => match us, hl with | [_, _], _ => rfl) (fun f cdv A outer s H vs Q E hr h => ?_)
  · obtain ⟨a, b, xs, N, rfl, _⟩ := h; rfl
  · obtain ⟨a, b, xs, N, rfl, nab, hb, ne, hl, hN, hd, k⟩ := h
    have nd := sc_law_one.nd
    have hr_law_pick := hr
    refine ⟨_, (pss_one (ps_ret (pe_ix ix_list (pv 1) (pe_callC C_law_pick hr_law_pick rfl (pa_cons (pv 0) (pa_cons (pe_callB call_len_seq rfl bf.len bt_len (pa_cons (pv 1) pa_nil)) pa_nil))) (fun _ _ => rfl)))), ?_⟩
    have pos := List.length_pos_iff.mpr ne
    refine ⟨_, rfl, _, rfl, _, rfl, b, xs, rfl, .inl (SqL.of hb), a, (xs.length : Int), N, rfl, by omega, by omega, hN, hd, fun r H' h0 h1 sx ts hd' => ?_⟩
    obtain ⟨j, rfl⟩ : ∃ j : Nat, r = (j : Int) := ⟨r.toNat, by omega⟩
    have hj : j < xs.length := by omega
    refine ⟨b, xs, _, xs[j], rfl, rfl, SqL.of (sx _ _ (by simpa using fun e : b = a => nab e.symm) hb), atI_nat (List.getElem?_eq_getElem hj), ?_⟩
    exact k _ _ (List.getElem_mem hj) sx ts hd'
end
end An
-- imports: E1
/-! ### E3: made rules -/
namespace An
open PySem L2
/-- an if whose ways meet again -/
theorem if_join {c : Prop} [Decidable c] {A : Prop} {F : L2.St → Hp → Prop} {σ : L2.St} {H : Hp} (M : L2.St → Hp → Prop) (hF : ∀ σ H, M σ H → F σ H) (h1 : c → (∀ σ H, M σ H → F σ H) → A) (h2 : ¬ c → M σ H) : if c then A else F σ H := by
  by_cases h : c
  · rw [if_pos h]; exact h1 h hF
  · rw [if_neg h]; exact hF _ _ (h2 h)
def GoodR (so : Int) (r : Rule) : Prop := 1 ≤ r.1 ∧ r.1 ≤ so ∧ 0 ≤ r.2.1 ∧ r.2.1 ≤ r.2.2 ∧ r.2.2 ≤ r.1
theorem keys_put {kvs : List (Key × V)} {k : Key} {v : V} (h : (kvs.map (·.1)).Nodup) : ((putK kvs k v).map (·.1)).Nodup := by
  unfold putK
  by_cases a : (kvs.any fun kv => decide (kv.1 = k)) = true
  · rw [if_pos a, List.map_map]
    have : ((fun x : Key × V => x.1) ∘ fun kv => if kv.1 = k then (kv.1, v) else kv) = fun x : Key × V => x.1 := funext fun x => by
      show (if x.1 = k then (x.1, v) else x).1 = x.1
      split <;> rfl
    rw [this]; exact h
  · rw [if_neg a, List.map_append, List.nodup_append]
    refine ⟨h, by simp, fun x hx y hy e => ?_⟩
    rw [List.map_cons, List.map_nil, List.mem_singleton] at hy
    subst e
    obtain ⟨p, hp, e⟩ := List.mem_map.mp hx
    exact a (List.any_eq_true.mpr ⟨p, hp, decide_eq_true (e.trans hy)⟩)
theorem mem_put {kvs : List (Key × V)} {k : Key} {v : V} {p : Key × V} (h : p ∈ putK kvs k v) : p = (k, v) ∨ p ∈ kvs := by
  unfold putK at h
  by_cases a : (kvs.any fun kv => decide (kv.1 = k)) = true
  · rw [if_pos a] at h
    obtain ⟨x, hx, e⟩ := List.mem_map.mp h
    by_cases c : x.1 = k
    · rw [if_pos c, c] at e; exact .inl e.symm
    · rw [if_neg c] at e; exact .inr (e ▸ hx)
  · rw [if_neg a] at h
    rcases List.mem_append.mp h with h | h
    · exact .inr h
    · exact .inl (List.mem_singleton.mp h)
theorem put_len {kvs : List (Key × V)} {k : Key} {v : V} : (putK kvs k v).length ≤ kvs.length + 1 := by
  unfold putK
  split
  · rw [List.length_map]; omega
  · rw [List.length_append]; exact Nat.le_refl _
structure Found (H : Hp) (so : Int) (kvs : List (Key × V)) : Prop where
  nd : (kvs.map (·.1)).Nodup
  all : ∀ p ∈ kvs, ∃ r : Rule, p.1 = Sum.inl r.1 ∧ RuleAt H p.2 r ∧ GoodR so r
theorem Found.mono {H H' : Hp} {so : Int} {kvs : List (Key × V)} (f : Found H so kvs) (e : TS H H') : Found H' so kvs := ⟨f.nd, fun p hp => let ⟨r, h1, h2, h3⟩ := f.all p hp; ⟨r, h1, TupI.mono e h2, h3⟩⟩
theorem Found.put {H : Hp} {so : Int} {kvs : List (Key × V)} {v : V} {r : Rule} (f : Found H so kvs) (h : RuleAt H v r) (g : GoodR so r) : Found H so (putK kvs (Sum.inl r.1) v) :=
  ⟨keys_put f.nd, fun p hp => (mem_put hp).elim (fun e => by subst e; exact ⟨r, rfl, h, g⟩) fun h => f.all p h⟩
theorem Found.ints {H : Hp} {so : Int} {kvs : List (Key × V)} (f : Found H so kvs) : ∃ ks : List Int, kvs.map (·.1) = ks.map Sum.inl ∧ ks.Nodup ∧ ks.length = kvs.length := by
  have : ∀ l : List (Key × V), (∀ p ∈ l, ∃ r : Rule, p.1 = Sum.inl r.1 ∧ RuleAt H p.2 r ∧ GoodR so r) → ∃ ks : List Int, l.map (·.1) = ks.map Sum.inl := fun l => by
    induction l with
    | nil => exact fun _ => ⟨[], rfl⟩
    | cons p l ih =>
      intro h
      obtain ⟨ks, e⟩ := ih fun q hq => h q (List.mem_cons_of_mem _ hq)
      obtain ⟨r, e1, _⟩ := h p List.mem_cons_self
      exact ⟨r.1 :: ks, by rw [List.map_cons, List.map_cons, e, e1]⟩
  obtain ⟨ks, e⟩ := this kvs f.all
  refine ⟨ks, e, ?_, by have := congrArg List.length e; simpa using this.symm⟩
  have := f.nd
  rw [e] at this
  exact List.Pairwise.of_map Sum.inl (fun a b h e => h (congrArg Sum.inl e)) this
theorem Found.get {H : Hp} {so : Int} {kvs : List (Key × V)} (f : Found H so kvs) {y : Int} (h : Sum.inl y ∈ kvs.map (·.1)) : ∃ v r, valV kvs (Sum.inl y) = some v ∧ r.1 = y ∧ RuleAt H v r ∧ GoodR so r := by
  obtain ⟨p, hp, e⟩ := List.mem_map.mp h
  have q : (kvs.any fun kv => decide (kv.1 = Sum.inl y)) = true := List.any_eq_true.mpr ⟨p, hp, decide_eq_true e⟩
  rw [valV_any] at q
  obtain ⟨v, hv⟩ := Option.isSome_iff_exists.mp q
  refine ⟨v, ?_⟩
  unfold valV at hv
  obtain ⟨z, hz, ez⟩ := Option.map_eq_some_iff.mp hv
  have h1 := List.mem_of_find?_eq_some hz
  have h2 : z.1 = Sum.inl y := of_decide_eq_true (by simpa using List.find?_some hz)
  obtain ⟨r, e1, e2, e3⟩ := f.all z h1
  refine ⟨r, by unfold valV; rw [hz]; exact congrArg some ez, ?_, by rw [← ez]; exact e2, e3⟩
  rw [e1] at h2
  exact Sum.inl.inj h2
theorem Found.rules {H : Hp} {so : Int} {kvs : List (Key × V)} (f : Found H so kvs) : ∀ ys : List Int, (∀ y ∈ ys, Sum.inl y ∈ kvs.map (·.1)) → ∃ rs : List Rule, rs.map (·.1) = ys ∧ ∀ r ∈ rs, GoodR so r ∧ ∃ v, valV kvs (Sum.inl r.1) = some v ∧ RuleAt H v r
  | [], _ => ⟨[], rfl, fun _ h => by cases h⟩
  | y :: ys, h => by
    obtain ⟨rs, e1, e2⟩ := Found.rules f ys fun z hz => h z (List.mem_cons_of_mem _ hz)
    obtain ⟨v, r, h1, h2, h3, h4⟩ := f.get (h y List.mem_cons_self)
    refine ⟨r :: rs, by rw [List.map_cons, e1, h2], fun q hq => ?_⟩
    rcases List.mem_cons.mp hq with rfl | hq
    · exact ⟨h4, v, by rw [h2]; exact h1, h3⟩
    · exact e2 q hq
section
variable {P : Program} {w : World} {K : PySem.W.Frag} {mg : Str → Option Value} {base : Heap}
def N__law_rules : List Str := ["deck", "spans_so", "close", "top", "found", "turn", "span", "low", "high", "more", "less"]
theorem sc_law_rules : FnScope N__law_rules ["deck", "spans_so", "close"] (defScope S__law_rules) := ⟨rfl, rfl, rfl, by decide +kernel, rfl, by decide +kernel, by decide +kernel⟩
def spRulesL : Sp := fun vs H Q _ => ∃ (a : Addr) (so close N : Int), vs = [.ref a, .int so, .int close] ∧ 1 ≤ so ∧ so ≤ 8 ∧ 1 ≤ close ∧ close < 1000 ∧ N < 1000000000 ∧ DeckAt H a N ∧
  ∀ v H' rs, SameX [a] H H' → TS H H' → DeckAt H' a (N + 40) → RulesAt H' v rs → RulesOk rs → rs.length ≤ 4 → (∀ r ∈ rs, r.1 ≤ so) → Q v H'
/-- between two rounds -/
def PvRules (a D : Addr) (so close top N : Int) (H : Hp) (i : Nat) (σ : L2.St) (H' : Hp) : Prop :=
  ∃ kvs x5 x6 x7 x8 x9 x10, σ = [some (.ref a), some (.int so), some (.int close), some (.int top), some (.ref D), x5, x6, x7, x8, x9, x10] ∧ H D = none ∧ a ≠ D ∧ SameX [a] H H' ∧ TS H H' ∧ DeckAt H' a (N + 2 + 8 * i) ∧ H' D = some (.dK kvs) ∧ Found H' so kvs ∧ kvs.length ≤ i ∧ (0 < i → kvs ≠ [])
theorem SameX.upd_new {as : List Addr} {H H' : Hp} {p : Addr} {o : HO} (e : SameX as H H') (h : H p = none) : SameX as H (upd H' p o) := fun b u n q => by
  rw [upd_ne (ne_of_none q h)]; exact e b u n q
theorem ok_law_rules (D : Dn K mg "_law_rules" S__law_rules) (bf : Bf mg) (C_law_pick : Cl P w K mg base 1 "_law_pick" spPick) (C_law_one : Cl P w K mg base 2 "_law_one" spOne) : Cl P w K mg base 3 "_law_rules" spRulesL := by
  refine D.ok sc_law_rules (fun vs H Q E h => ?_) (fun _ _ _ _ _ _ us hl => match us, hl with | [_, _, _], _ => rfl) (fun f cdv A outer s H vs Q E hr h => ?_)
  · obtain ⟨a, so, close, N, rfl, _⟩ := h; rfl
  · obtain ⟨a, so, close, N, rfl, s1, s8, c1, c2, hN, hd, k⟩ := h
    have nd := sc_law_rules.nd
    have hu := hu_of hr
    have hr_law_pick := hr.mono (show 1 ≤ 2 by decide)
    have hr_law_one := hr
    refine ⟨_, (pss_cons (ps_asg (pe_tup (pa_cons (pe_callC C_law_pick hr_law_pick rfl (pa_cons (pv 0) (pa_cons pe_int pa_nil))) (pa_cons pe_dnewK pa_nil))) (pg_tup rfl (pgs_cons (pg_name (i := 3) nd rfl (Or.inl rfl)) (pgs_cons (pg_name (i := 4) nd rfl (Or.inr rfl)) pgs_nil))))
    (pss_cons (ps_for PassesOwn.never rfl (pi_range1 rfl bf.range (pa_cons (pe_op op_add pe_int (pe_callC C_law_pick hr_law_pick rfl (pa_cons (pv 0) (pa_cons pe_int pa_nil)))) pa_nil)) (pg_name (i := 5) nd rfl (Or.inl rfl))
    (pss_cons (ps_set (i := 6) nd rfl (Or.inl rfl) (pe_op op_add pe_int (pe_callC C_law_pick hr_law_pick rfl (pa_cons (pv 0) (pa_cons (pv 1) pa_nil)))))
    (pss_cons (ps_par (i := 7) (j := 8) rfl nd rfl rfl (by decide) rfl rfl (pa_cons (pe_op op_fdiv (pe_op op_mul (pv 6) (pv 3)) pe_int) (pa_cons (pe_op op_fdiv (pe_op op_add (pe_op op_mul (pv 6) (pv 3)) pe_int) pe_int) pa_nil)) (by rfl))
    (pss_cons (ps_if (pt_cmpR op_eq (pe_callC C_law_pick hr_law_pick rfl (pa_cons (pv 0) (pa_cons (pv 2) pa_nil))) pe_int (nomark _))
    (pss_cons (ps_set (i := 7) nd rfl (Or.inl rfl) (pe_callC C_law_pick hr_law_pick rfl (pa_cons (pv 0) (pa_cons (pe_op op_add (pv 6) pe_int) pa_nil))))
    (pss_one (ps_set (i := 8) nd rfl (Or.inl rfl) (pe_op op_add (pv 7) (pe_callC C_law_pick hr_law_pick rfl (pa_cons (pv 0) (pa_cons (pe_op op_sub (pe_op op_add (pv 6) pe_int) (pv 7)) pa_nil)))))))
    pss_nil)
    (pss_cons (ps_par (i := 9) (j := 10) rfl nd rfl rfl (by decide) rfl rfl (pa_cons (pe_callC C_law_one hr_law_one rfl (pa_cons (pv 0) (pa_cons (pe_lst (pa_cons pe_int (pa_cons pe_int (pa_cons pe_int (pa_cons pe_int pa_nil))))) pa_nil))) (pa_cons (pe_callC C_law_one hr_law_one rfl (pa_cons (pv 0) (pa_cons (pe_lst (pa_cons pe_int (pa_cons pe_int (pa_cons pe_int (pa_cons pe_int pa_nil))))) pa_nil))) pa_nil)) (by rfl))
    (pss_one (ps_dput hu (pv 4) (pv 6) (pe_tup (pa_cons (pv 6) (pa_cons (pe_callB (call_max2 rfl) rfl bf.max bt_max (pa_cons pe_int (pa_cons (pe_op op_sub (pv 7) (pv 10)) pa_nil))) (pa_cons (pe_callB (call_min2 rfl) rfl bf.min bt_min (pa_cons (pv 6) (pa_cons (pe_op op_add (pv 8) (pv 9)) pa_nil))) pa_nil)))) rfl)))))))
    (pss_one (ps_ret (pe_callTy call_tuple_of rfl bf.tuple bt_tuple (pa_cons (pe_lc (own := [("span", 6)]) rfl nd (pi_list (pe_callB (call_sortedDI rfl) rfl bf.sorted bt_sorted (pa_cons (pv 4) pa_nil))) (blkOk_by (own := [("span", 6)]) (N := N__law_rules) (sc := defScope S__law_rules) (by decide +kernel)) (fun _ _ _ _ _ => (pg_name (i := 6) nd rfl (Or.inl rfl) (Or.inr rfl))) (fun _ _ _ _ _ => pts_nil) (fun _ _ _ _ _ => (pe_dget hu (pv 4) (pv 6) (fun _ _ => rfl)))) pa_nil)))))), ?_⟩
    refine ⟨_, rfl, a, 13, N, rfl, by decide, by decide, by omega, hd, fun top H1 t0 t1 sx1 ts1 hd1 => fun D hD => ?_⟩
    have nDa : a ≠ D := fun e => by subst e; obtain ⟨_, _, _, h1, _⟩ := hd1; rw [h1] at hD; cases hD
    have nD0 : H D = none := by
      cases e : H D with
      | none => rfl
      | some o => rw [sx1 D o (by simpa using fun z : D = a => nDa z.symm) e] at hD; cases hD
    have nDa' : D ∉ [a] := by simpa using fun z : D = a => nDa z.symm
    have tsD : TS H1 (upd H1 D (.dK [])) := TS.new hD
    refine ⟨sz (by show 2 ≤ 100000; decide), fun T hT => ?_⟩
    have tsT : TS (upd H1 D (.dK [])) (upd (upd H1 D (.dK [])) T (.tup [.int top, .ref D])) := TS.new hT
    have sT : Same H1 (upd (upd H1 D (.dK [])) T (.tup [.int top, .ref D])) := (Same.new hD).trans (Same.new hT)
    refine ⟨T, _, rfl, SqT.of upd_same, rfl, _, _, rfl, _, _, rfl, rfl, ?_⟩
    refine ⟨_, rfl, a, 4, N + 1, rfl, by decide, by decide, by omega, hd1.same sT, fun n4 H2 n0 n1 sx2 ts2 hd2 => ?_⟩
    refine ⟨_, _, rfl, rfl, _, rfl, by omega, by omega, for_range (PvRules a D so close top N H) ?_ ?_ ?_⟩
    · have hD2 : (upd (upd H1 D (.dK [])) T (.tup [.int top, .ref D])) D = some (.dK []) := by rw [upd_ne (ne_of_none upd_same hT)]; exact upd_same
      exact ⟨[], none, none, none, none, none, none, rfl, nD0, nDa, (sx1.trans (SameX.of sT)).trans sx2, (ts1.trans (TS.of sT)).trans ts2, hd2.mono (fun _ h => h) (by omega), sx2 _ _ nDa' hD2, ⟨List.nodup_nil, fun p hp => by cases hp⟩, Nat.le_refl _, fun h => absurd h (Nat.lt_irrefl _)⟩
    · rintro i σ H3 hi ⟨kvs, x5, x6, x7, x8, x9, x10, rfl, _, _, sx3, ts3, hd3, hD3, fo, hl, _⟩
      have hi4 : i < 4 := by omega
      refine ⟨_, rfl, _, rfl, a, so, _, rfl, by omega, by omega, by omega, hd3, fun sp H4 p0 p1 sx4 ts4 hd4 => ?_⟩
      refine ⟨_, _, rfl, rfl, ?_⟩
      have b1 : 0 ≤ (1 + sp) * top := Int.mul_nonneg (by omega) t0
      have b2 : (1 + sp) * top ≤ (1 + sp) * 12 := Int.mul_le_mul_of_nonneg_left (by omega) (by omega)
      have b3 : (1 + sp) * top < 1000 := by omega
      refine ⟨_, rfl, _, rfl, _, _, rfl, rfl, .inl ⟨by omega, by omega⟩, _, _, rfl, rfl, ⟨by decide, by decide⟩, ?_⟩
      refine ⟨_, rfl, _, rfl, _, _, rfl, rfl, .inl ⟨by omega, by omega⟩, _, _, rfl, rfl, _, _, rfl, rfl, ⟨by decide, by decide⟩, _, _, rfl, ?_⟩
      have g1 : 0 ≤ (1 + sp) * top / 12 := by omega
      have g2 : (1 + sp) * top / 12 ≤ 1 + sp := by omega
      have g3 : (1 + sp) * top / 12 ≤ ((1 + sp) * top + 11) / 12 := by omega
      refine ⟨_, rfl, _, rfl, a, close, _, rfl, by omega, by omega, by omega, hd4, fun cl H5 _ _ sx5 ts5 hd5 => ?_⟩
      refine ⟨rfl, _, rfl, ?_⟩
      refine if_join (fun σ H6 => ∃ low high : Int, ∃ x5, σ = [some (.ref a), some (.int so), some (.int close), some (.int top), some (.ref D), x5, some (.int (1 + sp)), some (.int low), some (.int high), x9, x10] ∧ SameX [a] H3 H6 ∧ TS H3 H6 ∧ DeckAt H6 a (N + 2 + 8 * i + 4) ∧ 0 ≤ low ∧ low ≤ 1 + sp ∧ low ≤ high) ?_ (fun _ hF => ?_) (fun _ => ⟨_, _, _, rfl, sx4.trans sx5, ts4.trans ts5, hd5.mono (fun _ h => h) (by omega), g1, g2, g3⟩)
      · rintro σ H6 ⟨low, high, x5, rfl, sx6, ts6, hd6, g1, g2, g3⟩
        refine ⟨_, rfl, sz (by show 4 ≤ 100000; decide), fun c1 hc1 => ?_⟩
        have q1 : Same H6 (upd H6 c1 (.lst [.int 0, .int 0, .int 1, .int 2])) := Same.new hc1
        have na1 : a ≠ c1 := fun e => by subst e; obtain ⟨_, _, _, z, _⟩ := hd6; rw [z] at hc1; cases hc1
        refine ⟨a, c1, _, _, rfl, na1, upd_same, (fun e => by cases e), (by decide), by omega, hd6.same q1, fun x1 H7 hx1 sx7 ts7 hd7 => ?_⟩
        refine ⟨_, rfl, sz (by show 4 ≤ 100000; decide), fun c2 hc2 => ?_⟩
        have q2 : Same H7 (upd H7 c2 (.lst [.int 0, .int 0, .int 1, .int 2])) := Same.new hc2
        have na2 : a ≠ c2 := fun e => by subst e; obtain ⟨_, _, _, z, _⟩ := hd7; rw [z] at hc2; cases hc2
        refine ⟨a, c2, _, _, rfl, na2, upd_same, (fun e => by cases e), (by decide), by omega, hd7.same q2, fun x2 H8 hx2 sx8 ts8 hd8 => ⟨_, _, rfl, ?_⟩⟩
        have small : ∀ x ∈ ([.int 0, .int 0, .int 1, .int 2] : List V), ∃ m : Int, x = .int m ∧ 0 ≤ m ∧ m ≤ 2 := by
          intro x hx
          simp only [List.mem_cons, List.not_mem_nil, or_false] at hx
          rcases hx with rfl | rfl | rfl | rfl <;> exact ⟨_, rfl, by decide, by decide⟩
        obtain ⟨m1, rfl, u1, u2⟩ := small _ hx1
        obtain ⟨m2, rfl, u3, u4⟩ := small _ hx2
        have sx9 := sx6.trans ((SameX.of q1).trans (sx7.trans ((SameX.of q2).trans sx8)))
        have ts9 := ts6.trans ((TS.of q1).trans (ts7.trans ((TS.of q2).trans ts8)))
        refine ⟨_, rfl, _, rfl, _, rfl, _, _, rfl, rfl, _, _, rfl, _, rfl, _, rfl, _, rfl, _, _, rfl, rfl, _, _, rfl, sz (by show 3 ≤ 100000; decide), fun p hp => ?_⟩
        have hD8 := sx9 _ _ nDa' hD3
        have qp : ∀ o, Same H8 (upd H8 p o) := fun o => Same.new hp
        refine ⟨_, rfl, _, rfl, D, _, rfl, DPut.k (k := Sum.inl (1 + sp)) (qp _ _ _ hD8) (szl (by omega)), ?_⟩
        have tsd : ∀ o u, TS (upd H8 p o) (upd (upd H8 p o) D u) := fun o u => TS.dK (qp _ _ _ hD8)
        refine ⟨_, _, _, _, _, _, _, rfl, nD0, nDa, ?_, ?_, ?_, upd_same, ?_, ?_, fun _ e => ?_⟩
        · exact SameX.upd_new ((sx3.trans sx9).trans (SameX.of (qp _))) nD0
        · exact ((ts3.trans ts9).trans (TS.of (qp _))).trans (tsd _ _)
        · exact (hd8.same (qp _)).mono (fun xs e => by rw [upd_ne nDa]; exact e) (by omega)
        · refine Found.put (r := (1 + sp, _, _)) ((fo.mono ts9).mono ((TS.of (qp _)).trans (tsd _ _))) ⟨p, rfl, tsd _ _ _ _ upd_same⟩ ⟨by omega, by show 1 + sp ≤ so; omega, ?_, ?_, ?_⟩
          · show (0:Int) ≤ if low - m2 > 0 then low - m2 else 0
            split <;> omega
          · show (if low - m2 > 0 then low - m2 else 0) ≤ if high + m1 < 1 + sp then high + m1 else 1 + sp
            split <;> split <;> omega
          · show (if high + m1 < 1 + sp then high + m1 else 1 + sp) ≤ 1 + sp
            split <;> omega
        · exact Nat.le_trans put_len (by omega)
        · have := DGet.k (H := upd H D (.dK (putK kvs (Sum.inl (1 + sp)) (V.ref p)))) (a := D) (k := Sum.inl (1 + sp)) upd_same
          have v := valV_put kvs (Sum.inl (1 + sp)) (Sum.inl (1 + sp)) (.ref p)
          rw [e, if_pos rfl] at v
          cases v
      · refine ⟨_, rfl, _, rfl, _, _, rfl, rfl, a, _, _, rfl, by omega, by omega, by omega, hd5, fun lo H6 q0 q1 sx6 ts6 hd6 => ?_⟩
        refine ⟨_, rfl, _, rfl, _, rfl, _, _, rfl, rfl, _, rfl, _, _, rfl, rfl, a, _, _, rfl, by omega, by omega, by omega, hd6, fun hh H7 r0 r1 sx7 ts7 hd7 => ?_⟩
        refine ⟨_, _, rfl, rfl, hF _ _ ?_⟩
        exact ⟨lo, lo + hh, _, rfl, sx4.trans (sx5.trans (sx6.trans sx7)), ts4.trans (ts5.trans (ts6.trans ts7)), hd7.mono (fun _ h => h) (by omega), q0, by omega, by omega⟩
    · rintro σ H3 ⟨kvs, x5, x6, x7, x8, x9, x10, rfl, _, _, sx3, ts3, hd3, hD3, fo, hl, ne⟩
      obtain ⟨ks, ek, kn, kl⟩ := fo.ints
      refine ⟨_, rfl, D, kvs, ks, rfl, .inl hD3, ek, by omega, fun ys p perm sorted hp => ?_⟩
      obtain ⟨rs, ers, hrs⟩ := fo.rules ys fun y hy => by rw [ek]; exact List.mem_map.mpr ⟨y, perm.mem_iff.mp hy, rfl⟩
      have q1 : Same H3 (upd H3 p (.lst (ys.map V.int))) := Same.new hp
      have lenr : rs.length = kvs.length := by rw [← kl, ← perm.length_eq, ← ers, List.length_map]
      have ynd : ys.Nodup := perm.nodup_iff.mpr kn
      have up : rs.Pairwise fun a b => a.1 < b.1 := by
        have h1 : ys.Pairwise fun a b => a < b := by
          refine List.Pairwise.imp₂ (R := fun a b => a ≤ b) (S := fun a b => a ≠ b) (fun a b h1 h2 => ?_) sorted ynd
          omega
        rw [← ers] at h1
        exact List.pairwise_map.mp h1
      have ok : RulesOk rs := ⟨fun e => ne (by omega) (List.length_eq_zero_iff.mp (by rw [← lenr, e]; rfl)), by omega, fun r hr => let ⟨⟨h1, h2, h3, h4, h5⟩, _⟩ := hrs r hr; ⟨h1, by omega, h3, h4, h5⟩, up⟩
      refine ⟨p, rfl, ⟨_, SqL.of upd_same⟩, fun M hM => lc_map (n := rs.length) (by rw [show rs.length = (ys.map V.int).length by rw [List.length_map, ← ers, List.length_map]]; exact walk_list) RuleAt rs hM rfl (by omega) (fun _ _ _ _ e z => TupI.mono (TS.of e) z) (fun _ _ _ _ _ e z => TupI.mono (TS.lst e) z) (fun H4 e => SqL.of (e _ _ upd_same)) ?_ (gm_name 6) ?_⟩
      · rintro i x H4 H5 NT hi sm ⟨rfl, hx⟩ put
        have hri : rs[i]? = some rs[i] := List.getElem?_eq_getElem hi
        have ex : x = .int rs[i].1 := by
          rw [List.getElem?_map, ← ers, List.getElem?_map, hri] at hx
          exact (Option.some.inj hx).symm
        subst ex
        obtain ⟨v, hv, hrule⟩ := (hrs rs[i] (List.getElem_mem hi)).2
        refine ⟨rfl, _, rfl, _, rfl, D, v, rfl, ?_, put v _ rs[i] (Same.refl _) hri (TupI.mono (TS.of (q1.trans sm)) hrule)⟩
        rw [← hv]
        exact DGet.k (k := Sum.inl rs[i].1) (sm _ _ (q1 _ _ hD3))
      · intro H4 zs sm hM pr
        refine ⟨M, zs, rfl, .inl ⟨SqL.of hM, fun l hl => ?_⟩⟩
        have q2 : Same H4 (upd H4 l (.tup zs)) := Same.new hl
        have q3 := (q1.trans sm).trans q2
        exact k _ _ rs (sx3.trans (SameX.of q3)) (ts3.trans (TS.of q3)) ((hd3.same q3).mono (fun _ h => h) (by omega)) ⟨l, zs, rfl, upd_same, Paired.mp pr fun _ _ z => TupI.mono (TS.of q2) z⟩ ok (by omega) (fun r hr => (hrs r hr).1.2.1)
end
end An
-- imports: M4
/-! ### E4: fits, thinned -/
namespace An
open PySem L2
section
variable {P : Program} {w : World} {K : PySem.W.Frag} {mg : Str → Option Value} {base : Heap}
def N__law_fits : List Str := ["rules", "row", "span", "least", "most"]
theorem sc_law_fits : FnScope N__law_fits ["rules", "row"] (defScope S__law_fits) := ⟨rfl, rfl, rfl, by decide +kernel, rfl, by decide +kernel, by decide +kernel⟩
def spFits : Sp := fun vs H Q _ => ∃ rv tv rs u, vs = [rv, tv] ∧ RulesAt H rv rs ∧ RulesOk rs ∧ TupI H tv u ∧ ∀ H', Same H H' → Q (.bl (fits rs u)) H'
def PvFits (rs : List Rule) (a c : Addr) (u : Row) (H : Hp) (i : Nat) (σ : L2.St) (H' : Hp) : Prop :=
  Same H H' ∧ (∃ x2 x3 x4, σ = [some (.ref a), some (.ref c), x2, x3, x4]) ∧ ∀ (j : Nat) (r : Rule), j < i → rs[j]? = some r → okRule u r = true
theorem PvFits.next {rs : List Rule} {a c : Addr} {u : Row} {H : Hp} {i : Nat} {H' : Hp} {r : Rule} {x2 x3 x4 : Option V} (sm : Same H H') (bd : ∀ (j : Nat) (r : Rule), j < i → rs[j]? = some r → okRule u r = true) (hr : rs[i]? = some r) (hb : okRule u r = true) :
    PvFits rs a c u H (i + 1) [some (.ref a), some (.ref c), x2, x3, x4] H' := by
  refine ⟨sm, ⟨_, _, _, rfl⟩, fun j r' hj hr' => ?_⟩
  by_cases e : j = i
  · subst e; rw [hr] at hr'; cases hr'; exact hb
  · exact bd j r' (by omega) hr'
theorem ok_law_fits (D : Dn K mg "_law_fits" S__law_fits) (bf : Bf mg) : Cl P w K mg base 1 "_law_fits" spFits := by
  refine D.ok sc_law_fits (fun vs H Q E h => ?_) (fun _ _ _ _ _ _ us hl => match us, hl with | [_, _], _ => rfl) (fun f cdv A outer s H vs Q E hr h => ?_)
  · obtain ⟨rv, tv, rs, u, rfl, _⟩ := h; rfl
  · obtain ⟨rv, tv, rs, u, rfl, ⟨a, xs, rfl, ha, pr⟩, ok, ⟨c, rfl, hc⟩, k⟩ := h
    have nd := sc_law_fits.nd
    refine ⟨_, (pss_cons (ps_for PassesOwn.never rfl (pi_tup (pv 0)) (pg_tup rfl (pgs_cons (pg_name (i := 2) nd rfl (Or.inl rfl)) (pgs_cons (pg_name (i := 3) nd rfl (Or.inl rfl)) (pgs_cons (pg_name (i := 4) nd rfl (Or.inl rfl)) pgs_nil))))
    (pss_one (ps_if (PW.pt (pw_and (pt_cmpR op_ge (pe_callB call_len_seq rfl bf.len bt_len (pa_cons (pv 1) pa_nil)) (pv 2) (nomark _)) (pw_and1 (pt_not (pt_chain op_le op_le (pv 3) (pe_callB (cr_sumT rfl) rfl bf.sum bt_sum (pa_cons (pe_slice sl_tupA (pv 1) (po_some (pe_op op_sub (pe_callB call_len_seq rfl bf.len bt_len (pa_cons (pv 1) pa_nil)) (pv 2))) po_none) pa_nil)) (pv 4))))))
    (pss_one (ps_ret pe_bl))
    pss_nil)))
    (pss_one (ps_ret pe_bl))), ?_⟩
    refine ⟨_, rfl, a, rfl, ⟨_, SqT.of ha⟩, for_tup (xs := xs) (PvFits rs a c u H) ⟨Same.refl H, ⟨none, none, none, rfl⟩, fun j r hj => absurd hj (Nat.not_lt_zero _)⟩ (fun i σ H' _ h => SqT.of (h.1 _ _ ha)) ?_ ?_⟩
    · rintro i x σ H' hi ⟨sm, ⟨x2, x3, x4, rfl⟩, bd⟩
      obtain ⟨r, hri, ⟨b, rfl, hb⟩⟩ := Paired.get pr hi
      have hc' := sm _ _ hc
      have ro := ok.one r (List.mem_of_getElem? hri)
      have no : okRule u r = false → ∀ H2, Same H H2 → Q (.bl false) H2 := fun e H2 s2 => by
        have : fits rs u = false := by
          cases q : fits rs u
          · rfl
          · have := List.all_eq_true.mp q r (List.mem_of_getElem? hri)
            rw [e] at this; cases this
        rw [← this]; exact k H2 s2
      refine ⟨b, _, rfl, SqT.of (sm _ _ hb), rfl, _, _, rfl, _, _, rfl, _, _, rfl, rfl, ?_⟩
      refine ⟨_, rfl, c, _, rfl, .inr (SqT.of hc'), _, rfl, _, _, rfl, rfl, _, rfl, ?_⟩
      refine ite2 (fun hge => ?_) (fun hlt => ?_)
      · rw [List.length_map, decide_eq_true_eq] at hge
        refine ⟨_, rfl, _, rfl, _, rfl, c, _, rfl, .inr (SqT.of hc'), _, rfl, _, _, rfl, rfl, _, rfl, ?_⟩
        refine sl_fromN (k := u.length - r.1.toNat) ?e hc' fun q H2 sm2 hq => ?_
        case e => rw [List.length_map]; omega
        rw [← List.map_drop] at hq
        have sm3 := sm.trans sm2
        have eb : okRule u r = (decide (r.2.1 ≤ endSum u r.1) && decide (endSum u r.1 ≤ r.2.2)) := by
          unfold okRule
          rw [decide_eq_true hge]; rfl
        refine ⟨q, _, rfl, SqT.of hq, _, _, rfl, rfl, _, rfl, ?_⟩
        show if decide (r.2.1 ≤ endSum u r.1) = true then _ else _
        refine ite2 (fun h1 => ?_) (fun h1 => ?_)
        · refine ⟨_, rfl, _, _, rfl, rfl, _, rfl, ?_⟩
          show if (!decide (endSum u r.1 ≤ r.2.2)) = true then _ else _
          refine ite2 (fun h2 => ?_) (fun h2 => ?_)
          · refine no ?_ _ sm3
            rw [eb, h1, Bool.true_and]; simpa using h2
          · exact PvFits.next sm3 bd hri (by rw [eb, h1]; simpa using h2)
        · refine ⟨_, rfl, iteT (no ?_ _ sm3)⟩
          rw [eb, Bool.not_eq_true] at *
          rw [h1]; rfl
      · rw [List.length_map, decide_eq_true_eq] at hlt
        refine PvFits.next sm bd hri ?_
        unfold okRule
        rw [decide_eq_false (by omega)]; rfl
    · rintro σ H' ⟨sm, _, bd⟩
      have : fits rs u = true := List.all_eq_true.mpr fun r hr => by
        obtain ⟨j, hj, e⟩ := List.getElem_of_mem hr
        exact bd j r (by rw [Paired.len pr]; exact hj) (by rw [List.getElem?_eq_getElem hj, e])
      rw [this] at k
      exact k _ sm
end
end An
-- imports: E1 E4 MD MF
/-! ### F3: keeps, walk -/
namespace An
open PySem L2
section
variable {P : Program} {w : World} {K : PySem.W.Frag} {mg : Str → Option Value} {base : Heap}
def N__law_keeps : List Str := ["rules", "row", "span", "least", "most", "at"]
theorem sc_law_keeps : FnScope N__law_keeps ["rules", "row"] (defScope S__law_keeps) := ⟨rfl, rfl, rfl, by decide +kernel, rfl, by decide +kernel, by decide +kernel⟩
def spKeeps : Sp := fun vs H Q _ => ∃ rv tv rs u, vs = [rv, tv] ∧ RulesAt H rv rs ∧ RulesOk rs ∧ TupI H tv u ∧ Fine rs u ∧ u.length ≤ 1000 ∧ ∀ H', Same H H' → Q (.bl true) H'
def PvKs (rv tv : V) (H : Hp) (σ : L2.St) (H' : Hp) : Prop := ∃ x2 x3 x4 x5, σ = [some rv, some tv, x2, x3, x4, x5] ∧ Same H H'
def PvKs2 (rv tv : V) (r : Rule) (H : Hp) (σ : L2.St) (H' : Hp) : Prop := ∃ x5, σ = [some rv, some tv, some (.int r.1), some (.int r.2.1), some (.int r.2.2), x5] ∧ Same H H'
theorem ok_law_keeps (D : Dn K mg "_law_keeps" S__law_keeps) (bf : Bf mg) : Cl P w K mg base 1 "_law_keeps" spKeeps := by
  refine D.ok sc_law_keeps (fun vs H Q E h => ?_) (fun _ _ _ _ _ _ us hl => match us, hl with | [_, _], _ => rfl) (fun f cdv A outer s H vs Q E hr h => ?_)
  · obtain ⟨rv, tv, rs, u, rfl, _⟩ := h; rfl
  · obtain ⟨rv, tv, rs, u, rfl, ⟨a, xs, rfl, ha, pr⟩, ok, ⟨c, rfl, hc⟩, fine, len, k⟩ := h
    have nd := sc_law_keeps.nd
    refine ⟨_, (pss_cons (ps_for PassesOwn.never rfl (pi_tup (pv 0)) (pg_tup rfl (pgs_cons (pg_name (i := 2) nd rfl (Or.inl rfl)) (pgs_cons (pg_name (i := 3) nd rfl (Or.inl rfl)) (pgs_cons (pg_name (i := 4) nd rfl (Or.inl rfl)) pgs_nil))))
    (pss_one (ps_for PassesOwn.never rfl (pi_range1 rfl bf.range (pa_cons (pe_op op_sub (pe_op op_add (pe_callB call_len_seq rfl bf.len bt_len (pa_cons (pv 1) pa_nil)) pe_int) (pv 2)) pa_nil)) (pg_name (i := 5) nd rfl (Or.inl rfl))
    (pss_one (ps_if (pt_not (pt_chain op_le op_le (pv 3) (pe_callB (cr_sumT rfl) rfl bf.sum bt_sum (pa_cons (pe_slice sl_tupA (pv 1) (po_some (pv 5)) (po_some (pe_op op_add (pv 5) (pv 2)))) pa_nil)) (pv 4)))
    (pss_one (ps_ret pe_bl))
    pss_nil)))))
    (pss_one (ps_ret pe_bl))), ?_⟩
    refine ⟨_, rfl, a, rfl, ⟨_, SqT.of ha⟩, for_tup (xs := xs) (fun _ => PvKs (.ref a) (.ref c) H) ⟨none, none, none, none, rfl, Same.refl H⟩ (fun i σ H' _ ⟨_, _, _, _, _, h⟩ => SqT.of (h _ _ ha)) ?_ ?_⟩
    · rintro i x σ H' hi ⟨x2, x3, x4, x5, rfl, sm⟩
      obtain ⟨r, hri, ⟨b, rfl, hb⟩⟩ := Paired.get pr hi
      have hrm := List.mem_of_getElem? hri
      have ro := ok.one r hrm
      refine ⟨b, _, rfl, SqT.of (sm _ _ hb), rfl, _, _, rfl, _, _, rfl, _, _, rfl, rfl, ?_⟩
      refine ⟨_, rfl, c, _, rfl, .inr (SqT.of (sm _ _ hc)), _, _, rfl, rfl, _, rfl, _, _, rfl, rfl, _, rfl, by rw [List.length_map]; omega, by rw [List.length_map]; omega, for_range (fun _ => PvKs2 (.ref a) (.ref c) r H) ⟨_, rfl, sm⟩ ?_ ?_⟩
      · rintro j σ H1 hj ⟨y5, rfl, sm1⟩
        rw [List.length_map] at hj
        have hj' : j + r.1.toNat ≤ u.length := by omega
        refine ⟨_, rfl, _, rfl, _, rfl, _, rfl, _, rfl, _, rfl, _, _, rfl, rfl, _, rfl, ?_⟩
        refine slt_mid (k := j) (j := j + r.1.toNat) (by omega) (by omega) (sm1 _ _ hc) fun q H2 s2 hq => ?_
        rw [← List.map_take, ← List.map_drop] at hq
        have wn := window ok fine.fit hrm j hj'
        have es := take_sum u j r.1.toNat
        refine ⟨q, _, rfl, SqT.of hq, _, _, rfl, rfl, _, rfl, ?_⟩
        rw [es]
        refine ite2 (fun h1 => ?_) (fun h1 => ?_)
        · refine ⟨_, rfl, _, _, rfl, rfl, _, rfl, ?_⟩
          refine ite2 (fun h2 => ?_) (fun h2 => ?_)
          · exfalso
            simp at h2
            omega
          · exact ⟨_, rfl, sm1.trans s2⟩
        · exfalso
          simp at h1
          omega
      · rintro σ H1 ⟨y5, rfl, sm1⟩
        exact ⟨_, _, _, _, rfl, sm1⟩
    · rintro σ H' ⟨x2, x3, x4, x5, rfl, sm⟩
      exact k _ sm
def N__law_walk : List Str := ["deck", "rules", "many", "row", "turn", "some", "place"]
theorem sc_law_walk : FnScope N__law_walk ["deck", "rules", "many"] (defScope S__law_walk) := ⟨rfl, rfl, rfl, by decide +kernel, rfl, by decide +kernel, by decide +kernel⟩
def spWalk : Sp := fun vs H Q _ => ∃ (a : Addr) (rv : V) (rs : List Rule) (many N : Int), vs = [.ref a, rv, .int many] ∧ RulesAt H rv rs ∧ RulesOk rs ∧ 0 ≤ many ∧ many ≤ 200 ∧ N < 1000000000 ∧ DeckAt H a N ∧
  ∀ v H' u, SameX [a] H H' → TS H H' → DeckAt H' a (N + many) → TupI H' v u → Fine rs u → (u.length : Int) ≤ many → Q v H'
def PvWalk (a : Addr) (rv : V) (rs : List Rule) (many N : Int) (H : Hp) (i : Nat) (σ : L2.St) (H' : Hp) : Prop :=
  ∃ v u x4 x5 x6, σ = [some (.ref a), some rv, some (.int many), some v, x4, x5, x6] ∧ SameX [a] H H' ∧ TS H H' ∧ DeckAt H' a (N + i) ∧ TupI H' v u ∧ Fine rs u ∧ u.length ≤ i
theorem mem_more1 {rs : List Rule} {u r : Row} (h : r ∈ more1 rs u) : ∃ p : Int, (p = 0 ∨ p = 1) ∧ fits rs (u ++ [p]) = true ∧ r = u ++ [p] := by
  obtain ⟨p, hp, e⟩ := List.mem_map.mp h
  obtain ⟨h1, h2⟩ := List.mem_filter.mp hp
  exact ⟨p, mem_01.mp h1, h2, e.symm⟩
theorem ok_law_walk (D : Dn K mg "_law_walk" S__law_walk) (bf : Bf mg) (C_law_fits : Cl P w K mg base 1 "_law_fits" spFits) (C_law_one : Cl P w K mg base 2 "_law_one" spOne) : Cl P w K mg base 3 "_law_walk" spWalk := by
  refine D.ok sc_law_walk (fun vs H Q E h => ?_) (fun _ _ _ _ _ _ us hl => match us, hl with | [_, _, _], _ => rfl) (fun f cdv A outer s H vs Q E hr h => ?_)
  · obtain ⟨a, rv, rs, many, N, rfl, _⟩ := h; rfl
  · obtain ⟨a, rv, rs, many, N, rfl, hR, ok, m0, m2, hN, hd, k⟩ := h
    have nd := sc_law_walk.nd
    have hr_law_fits := hr.mono (show 1 ≤ 2 by decide)
    have hr_law_one := hr
    refine ⟨_, (pss_cons (ps_set (i := 3) nd rfl (Or.inr rfl) (pe_tup pa_nil))
    (pss_cons (ps_for PassesOwn.never rfl (pi_range1 rfl bf.range (pa_cons (pv 2) pa_nil)) (pg_name (i := 4) nd rfl (Or.inl rfl))
    (pss_cons (ps_setLc (i := 5) (own := [("place", 6)]) rfl nd rfl rfl (sw_true rfl rfl rfl (by decide +kernel)) (pi_tup (pe_tup (pa_cons pe_int (pa_cons pe_int pa_nil)))) (blkOk_by (own := [("place", 6)]) (N := N__law_walk) (sc := defScope S__law_walk) (by decide +kernel)) (fun _ _ _ _ _ => (pg_name (i := 6) nd rfl (Or.inl rfl) (Or.inr rfl))) (fun _ _ _ _ _ => (pts_one (pt_val (pe_callC C_law_fits hr_law_fits rfl (pa_cons (pv 1) (pa_cons (pe_op (op_catK (K := K) rfl) (pv 3) (pe_tup (pa_cons (pv 6) pa_nil))) pa_nil)))))) (fun _ _ _ _ _ => (pe_op (op_catK (K := K) rfl) (pv 3) (pe_tup (pa_cons (pv 6) pa_nil)))))
    (pss_cons (ps_if (pt_cmpR (op_eqD hr.units) (pv 5) (pe_lst pa_nil) (nomark _))
    (pss_one (ps_ret (pv 3)))
    pss_nil)
    (pss_one (ps_set (i := 3) nd rfl (Or.inr rfl) (pe_callC C_law_one hr_law_one rfl (pa_cons (pv 0) (pa_cons (pv 5) pa_nil))))))))
    (pss_one (ps_ret (pv 3))))), ?_⟩
    refine ⟨sz (by show 0 ≤ 100000; decide), fun c0 hc0 => ?_⟩
    have s0 : Same H (upd H c0 (.tup [])) := Same.new hc0
    refine ⟨_, rfl, _, rfl, by omega, by omega, for_range (PvWalk a rv rs many N H) ⟨.ref c0, [], _, _, _, rfl, SameX.of s0, TS.of s0, (hd.same s0).mono (fun _ h => h) (by omega), ⟨c0, rfl, upd_same⟩, Fine.nil, Nat.le_refl _⟩ ?_ ?_⟩
    · rintro i σ H2 hi ⟨v, u, x4, x5, x6, rfl, sx, ts, hd2, hT, fine, lu⟩
      obtain ⟨b, rfl, hb⟩ := id hT
      have hR2 := RulesAt.mono ts hR
      refine ⟨sz (by show 2 ≤ 100000; decide), fun c5 hc5 => ⟨c5, rfl, ⟨_, SqT.of upd_same⟩, fun D hD => lc_go (walk_tup (xs := [.int 0, .int 1])) TupI (fun i => ((([0, 1] : List Int).take i).filter fun p => fits rs (u ++ [p])).map fun p => u ++ [p]) hD rfl (fun z _ => ?_) (fun _ _ _ _ e z => TupI.mono (TS.of e) z) (fun _ _ _ _ _ e z => TupI.mono (TS.lst e) z) (fun H3 e => SqT.of (e _ _ upd_same)) ?_ ?_⟩⟩
      · rw [List.length_map]
        refine Nat.lt_of_le_of_lt (List.length_filter_le _ _) ?_
        rw [List.length_take]
        exact Nat.lt_of_le_of_lt (Nat.min_le_right _ _) (by show 2 < 100000; decide)
      · rintro z x H0 H4 NT NF hz sm3 ⟨rfl, hx⟩ nt nf
        obtain ⟨p, hp, rfl⟩ : ∃ p : Int, ([0, 1] : List Int)[z]? = some p ∧ x = .int p := by
          match z, hx with
          | 0, h => cases h; exact ⟨0, rfl, rfl⟩
          | 1, h => cases h; exact ⟨1, rfl, rfl⟩
        have s6 : Same H2 H4 := (Same.new hc5).trans sm3
        have hR3 := RulesAt.mono (TS.of s6) hR2
        refine ⟨rfl, _, rfl, _, rfl, _, rfl, sz (by show 1 ≤ 100000; decide), fun c6 hc6 => ?_⟩
        have s7 : Same H4 (upd H4 c6 (.tup [.int p])) := Same.new hc6
        refine cat_any (s7 _ _ (s6 _ _ hb)) upd_same (by rw [List.length_map, List.length_singleton]; omega) fun q7 H5 s8 hq7 => ?_
        have hq7 : H5 q7 = some (.tup ((u ++ [p]).map V.int)) := by rw [List.map_append]; exact hq7
        have s9 := s7.trans s8
        refine ⟨rv, .ref q7, rs, u ++ [p], rfl, RulesAt.mono (TS.of s9) hR3, ok, ⟨q7, rfl, hq7⟩, fun H6 s10 => ⟨_, rfl, ?_⟩⟩
        have s11 := s9.trans s10
        have m1 := more1_take rs u z p hp
        refine ite2 (fun hf => ?_) (fun hf => ?_)
        · rw [if_pos hf] at m1
          refine ⟨_, rfl, _, rfl, sz (by show 1 ≤ 100000; decide), fun c7 hc7 => ?_⟩
          have s12 : Same H6 (upd H6 c7 (.tup [.int p])) := Same.new hc7
          refine cat_any (s12 _ _ (s11 _ _ (s6 _ _ hb))) upd_same (by rw [List.length_map, List.length_singleton]; omega) fun q8 H7 s13 hq8 => ?_
          have hq8 : H7 q8 = some (.tup ((u ++ [p]).map V.int)) := by rw [List.map_append]; exact hq8
          exact nt _ _ (u ++ [p]) (s11.trans (s12.trans s13)) ⟨q8, rfl, hq8⟩ m1
        · rw [if_neg hf, List.append_nil] at m1
          exact nf _ s11 m1
      · intro H3 zs sm3 hD3 pz
        have s6 : Same H2 H3 := (Same.new hc5).trans sm3
        have pz : Paired (TupI H3) zs (more1 rs u) := pz
        have lz : zs.length ≤ 2 := by
          rw [Paired.len pz]; unfold more1; rw [List.length_map]; exact List.length_filter_le _ _
        refine ⟨_, rfl, sz (by show 0 ≤ 100000; decide), fun e he => ?_⟩
        have se : Same H3 (upd H3 e (.lst [])) := Same.new he
        have s7 := s6.trans se
        refine ⟨_, _, .lst (SqL.of (se _ _ hD3)) (dp_rows (Paired.mp pz fun _ _ z => TupI.mono (TS.of se) z)), .lst (SqL.of upd_same) .nil, rowsD_shaped _, by decide +kernel, _, rfl, ?_⟩
        rw [rowsD_nil]
        refine ite2 (fun h0 => ?_) (fun h0 => ?_)
        · exact ⟨_, rfl, k _ _ u (sx.trans (SameX.of s7)) (ts.trans (TS.of s7)) ((hd2.same s7).mono (fun _ h => h) (by omega)) (TupI.mono (TS.of s7) hT) fine (by omega)⟩
        · rw [decide_eq_true_eq] at h0
          have naD : a ≠ D := fun e => by
            obtain ⟨_, _, _, h1, _⟩ := hd2
            subst e
            rw [(Same.new hc5 : Same H2 (upd H2 c5 (.tup [.int 0, .int 1]))) _ _ h1] at hD; cases hD
          refine ⟨_, rfl, _, rfl, a, D, zs, _, rfl, naD, se _ _ hD3, ?_, by omega, by omega, hd2.same s7, fun x H5 hx sx5 ts5 hd5 => ?_⟩
          · intro e; rw [e] at pz; cases h : more1 rs u with
            | nil => exact h0 h
            | cons _ _ => rw [h] at pz; cases pz
          · obtain ⟨j, hj, e⟩ := List.getElem_of_mem hx
            obtain ⟨r, hr', hrow⟩ := Paired.get pz (show zs[j]? = some x by rw [List.getElem?_eq_getElem hj, e])
            obtain ⟨p, hp, hf, rfl⟩ := mem_more1 (List.mem_of_getElem? hr')
            exact ⟨x, u ++ [p], _, _, _, rfl, sx.trans ((SameX.of s7).trans sx5), ts.trans ((TS.of s7).trans ts5), hd5.mono (fun _ h => h) (by omega), TupI.mono ((TS.of se).trans ts5) hrow, fine.snoc hp hf, by rw [List.length_append, List.length_singleton]; omega⟩
    · rintro σ H2 ⟨v, u, x4, x5, x6, rfl, sx, ts, hd2, hT, fine, lu⟩
      exact ⟨_, rfl, k _ _ u sx ts (hd2.mono (fun _ h => h) (by omega)) hT fine (by omega)⟩
end
end An
-- imports: MF
/-! ### MT: rows that keep the rules and what is told, in plain Lean -/
namespace An
open PySem L2
abbrev Told := List (Option Int)
def mt (o : Option Int) (p : Int) : Bool := match o with
  | none => true
  | some q => decide (q = p)
def nx (rs : List Rule) (o : Option Int) (t : Row) : List Row := ((waysOn rs t).filter fun e => mt o e.1).map fun e => e.2
def tails (rs : List Rule) (ds : Told) : List Row := ds.foldl (fun T o => T.flatMap (nx rs o)) [[]]
def growT (rs : List Rule) (o : Option Int) (r : Row) : List Row := (([0, 1] : List Int).filter fun p => fits rs (r ++ [p]) && mt o p).map fun p => r ++ [p]
def rowsT (rs : List Rule) (ds : Told) : List Row := ds.foldl (fun F o => F.flatMap (growT rs o)) [[]]
theorem tails_snoc (rs : List Rule) (ds : Told) (o : Option Int) : tails rs (ds ++ [o]) = (tails rs ds).flatMap (nx rs o) := by
  unfold tails; rw [List.foldl_append]; rfl
theorem rowsT_snoc (rs : List Rule) (ds : Told) (o : Option Int) : rowsT rs (ds ++ [o]) = (rowsT rs ds).flatMap (growT rs o) := by
  unfold rowsT; rw [List.foldl_append]; rfl
theorem growT_tl {rs : List Rule} (ok : RulesOk rs) (o : Option Int) (r : Row) : (growT rs o r).map (tl (wd rs)) = nx rs o (tl (wd rs) r) := by
  unfold growT nx waysOn
  rw [List.map_map, List.filter_map, List.map_map, List.filter_filter]
  have e : (fun p => fits rs (r ++ [p]) && mt o p) = fun p => ((fun e : Int × Row => mt o e.1) ∘ fun p => (p, nextTail (wd rs) (tl (wd rs) r) p)) p && freeP rs (tl (wd rs) r) p := funext fun p => by
    rw [fits_snoc ok, Bool.and_comm]; rfl
  rw [e]
  congr 1
  funext p
  exact tl_snoc ok.wide.1
theorem rowsT_tl {rs : List Rule} (ok : RulesOk rs) (ds : Told) : (rowsT rs ds).map (tl (wd rs)) = tails rs ds := by
  induction ds using snoc_ind with
  | h0 => show [tl (wd rs) []] = [[]]; rw [tl_nil]
  | h1 ds o ih =>
    rw [tails_snoc, rowsT_snoc, ← ih, List.map_flatMap, List.flatMap_map]
    congr 1
    funext r
    exact growT_tl ok o r
theorem mem_growT {rs : List Rule} {o : Option Int} {r u : Row} : u ∈ growT rs o r ↔ ∃ p : Int, (p = 0 ∨ p = 1) ∧ fits rs (r ++ [p]) = true ∧ mt o p = true ∧ u = r ++ [p] := by
  unfold growT
  constructor
  · intro h
    obtain ⟨p, hp, e⟩ := List.mem_map.mp h
    obtain ⟨h1, h2⟩ := List.mem_filter.mp hp
    obtain ⟨h3, h4⟩ := Bool.and_eq_true_iff.mp h2
    exact ⟨p, mem_01.mp h1, h3, h4, e.symm⟩
  · rintro ⟨p, h1, h2, h3, rfl⟩
    exact List.mem_map.mpr ⟨p, List.mem_filter.mpr ⟨mem_01.mpr h1, by rw [h2, h3]; rfl⟩, rfl⟩
/-- a row that keeps the rules and what is told -/
structure Fills (rs : List Rule) (ds : Told) (w : Row) : Prop where
  fine : Fine rs w
  len : w.length = ds.length
  told : ∀ (i : Nat) (o : Option Int) (p : Int), ds[i]? = some o → w[i]? = some p → mt o p = true
theorem Fine.init {rs : List Rule} {u : Row} {p : Int} (f : Fine rs (u ++ [p])) : Fine rs u ∧ (p = 0 ∨ p = 1) ∧ fits rs (u ++ [p]) = true := by
  refine ⟨⟨fun x hx => f.bits x (List.mem_append_left _ hx), fun j hj => ?_⟩, f.bits p (List.mem_append_right _ (List.mem_singleton.mpr rfl)), ?_⟩
  · have := f.fit j (by rw [List.length_append]; omega)
    rw [List.take_append_of_le_length (by omega)] at this
    exact this
  · have := f.fit u.length (by rw [List.length_append, List.length_singleton]; omega)
    rw [List.take_of_length_le (by rw [List.length_append, List.length_singleton]; omega)] at this
    exact this
theorem mem_rowsT {rs : List Rule} (ds : Told) : ∀ w, w ∈ rowsT rs ds ↔ Fills rs ds w := by
  induction ds using snoc_ind with
  | h0 =>
    intro w
    constructor
    · intro h
      rw [List.mem_singleton.mp h]
      exact ⟨Fine.nil, rfl, fun i o p h => by simp at h⟩
    · intro h
      exact List.mem_singleton.mpr (List.length_eq_zero_iff.mp h.len)
  | h1 ds o ih =>
    intro w
    rw [rowsT_snoc, List.mem_flatMap]
    constructor
    · rintro ⟨r, hr, hw⟩
      obtain ⟨p, hp, hf, hm, rfl⟩ := mem_growT.mp hw
      have f := (ih r).mp hr
      refine ⟨f.fine.snoc hp hf, by rw [List.length_append, List.length_append, f.len]; rfl, fun i o' p' h1 h2 => ?_⟩
      rcases Nat.lt_or_ge i ds.length with c | c
      · rw [List.getElem?_append_left c] at h1
        rw [List.getElem?_append_left (by rw [f.len]; exact c)] at h2
        exact f.told i o' p' h1 h2
      · rw [List.getElem?_append_right c] at h1
        rw [List.getElem?_append_right (by rw [f.len]; exact c), f.len] at h2
        have z : i - ds.length = 0 := by
          have := (List.getElem?_eq_some_iff.mp h1).1
          rw [List.length_singleton] at this; omega
        rw [z] at h1 h2
        cases h1; cases h2; exact hm
    · intro f
      have lw : w ≠ [] := fun e => by have := f.len; rw [e, List.length_append] at this; simp at this
      obtain ⟨u, p, rfl⟩ : ∃ u p, w = u ++ [p] := ⟨w.dropLast, w.getLast lw, (List.dropLast_concat_getLast lw).symm⟩
      obtain ⟨f1, f2, f3⟩ := f.fine.init
      have lu : u.length = ds.length := by have := f.len; rw [List.length_append, List.length_append, List.length_singleton, List.length_singleton] at this; omega
      refine ⟨u, (ih u).mpr ⟨f1, lu, fun i o' p' h1 h2 => f.told i o' p' ?_ ?_⟩, mem_growT.mpr ⟨p, f2, f3, f.told ds.length o p ?_ ?_, rfl⟩⟩
      · rw [List.getElem?_append_left (List.getElem?_eq_some_iff.mp h1).1]; exact h1
      · rw [List.getElem?_append_left (List.getElem?_eq_some_iff.mp h2).1]; exact h2
      · rw [List.getElem?_append_right (Nat.le_refl _), Nat.sub_self]; rfl
      · rw [← lu, List.getElem?_append_right (Nat.le_refl _), Nat.sub_self]; rfl
theorem nodup_flatMap' {α β : Type} {l : List α} {f : α → List β} (h : l.Nodup) (h1 : ∀ a ∈ l, (f a).Nodup) (h2 : ∀ a ∈ l, ∀ b ∈ l, a ≠ b → ∀ x ∈ f a, x ∉ f b) : (l.flatMap f).Nodup := by
  induction l with
  | nil => exact List.nodup_nil
  | cons a l ih =>
    obtain ⟨n1, n2⟩ := List.nodup_cons.mp h
    rw [List.flatMap_cons, List.nodup_append]
    refine ⟨h1 a List.mem_cons_self, ih n2 (fun b hb => h1 b (List.mem_cons_of_mem _ hb)) (fun b hb c hc => h2 b (List.mem_cons_of_mem _ hb) c (List.mem_cons_of_mem _ hc)), fun x hx y hy e => ?_⟩
    obtain ⟨b, hb, hy'⟩ := List.mem_flatMap.mp hy
    subst e
    exact h2 a List.mem_cons_self b (List.mem_cons_of_mem _ hb) (fun z => n1 (z ▸ hb)) x hx hy'
theorem rowsT_nodup (rs : List Rule) (ds : Told) : (rowsT rs ds).Nodup := by
  induction ds using snoc_ind with
  | h0 => show ([[]] : List Row).Nodup; simp
  | h1 ds o ih =>
    rw [rowsT_snoc]
    refine nodup_flatMap' ih (fun r _ => ?_) fun a _ b _ ne x hx hy => ?_
    · unfold growT
      refine List.Pairwise.map _ (fun p q h e => h ?_) (List.Pairwise.filter _ (show ([0, 1] : List Int).Nodup by decide))
      have := List.append_cancel_left e
      exact List.cons.inj this |>.1
    · obtain ⟨p, _, _, _, e1⟩ := mem_growT.mp hx
      obtain ⟨q, _, _, _, e2⟩ := mem_growT.mp hy
      rw [e1] at e2
      exact ne (List.append_inj_left' e2 rfl)
/-- how many -/
def manyT (rs : List Rule) (ds : Told) : Nat := (rowsT rs ds).length
theorem tails_len {rs : List Rule} (ok : RulesOk rs) (ds : Told) : (tails rs ds).length = manyT rs ds := by
  rw [← rowsT_tl ok, List.length_map]; rfl
theorem tails_ok {rs : List Rule} (ok : RulesOk rs) (ds : Told) : ∀ t ∈ tails rs ds, TailOk rs t := fun t ht => by
  rw [← rowsT_tl ok] at ht
  obtain ⟨w, hw, rfl⟩ := List.mem_map.mp ht
  exact ((mem_rowsT ds w).mp hw).fine.tail ok
/-! #### tables of how many -/
structure LayOk (kv : Rk) (T : List Row) : Prop where
  nd : (ks kv).Nodup
  val : ∀ e ∈ kv, e.2 = T.count e.1
  key : ∀ t, t ∈ ks kv ↔ t ∈ T
theorem LayOk.perm {kv : Rk} {T T' : List Row} (h : LayOk kv T) (p : T.Perm T') : LayOk kv T' :=
  ⟨h.nd, fun e he => by rw [h.val e he, p.count_eq], fun t => by rw [h.key t]; exact p.mem_iff⟩
def spread (kv : Rk) : List Row := kv.flatMap fun e => List.replicate e.2 e.1
theorem spread_count : ∀ (kv : Rk) (t : Row), (ks kv).Nodup → (spread kv).count t = if t ∈ ks kv then rkOf kv t else 0
  | [], _, _ => rfl
  | e :: kv, t, h => by
    obtain ⟨h1, h2⟩ := List.nodup_cons.mp h
    have ih := spread_count kv t h2
    unfold spread
    rw [List.flatMap_cons, List.count_append]
    have ih : (kv.flatMap fun e => List.replicate e.2 e.1).count t = _ := ih
    rw [ih, List.count_replicate, show ks (e :: kv) = e.1 :: ks kv from rfl]
    unfold rkOf
    by_cases c : e.1 = t
    · subst c
      rw [if_pos (beq_self_eq_true _), if_neg h1, if_pos List.mem_cons_self, List.find?_cons_of_pos (by simp)]; rfl
    · rw [if_neg (by simpa using c), List.find?_cons_of_neg (by simpa using c), Nat.zero_add]
      by_cases m : t ∈ ks kv
      · rw [if_pos m, if_pos (List.mem_cons_of_mem _ m)]
      · rw [if_neg m, if_neg fun z => (List.mem_cons.mp z).elim (fun q => c q.symm) m]
theorem LayOk.spread {kv : Rk} {T : List Row} (h : LayOk kv T) : (spread kv).Perm T := by
  rw [List.perm_iff_count]
  intro t
  rw [spread_count kv t h.nd]
  by_cases m : t ∈ ks kv
  · rw [if_pos m]
    exact h.val _ (rkOf_mem m)
  · rw [if_neg m]
    exact (List.count_eq_zero.mpr fun z => m ((h.key t).mpr z)).symm
theorem sum_spread : ∀ kv : Rk, (kv.map fun e => ((e.2 : Nat) : Int)).sum = ((spread kv).length : Int)
  | [] => rfl
  | e :: kv => by
    have ih := sum_spread kv
    unfold spread at *
    rw [List.map_cons, List.sum_cons, ih, List.flatMap_cons, List.length_append, List.length_replicate]; omega
/-- one more at t, m times -/
def addT (kv : Rk) (t : Row) (m : Nat) : Rk := if t ∈ ks kv then kv.map fun e => if e.1 = t then (e.1, e.2 + m) else e else kv ++ [(t, m)]
theorem LayOk.add {kv : Rk} {T : List Row} (h : LayOk kv T) (t : Row) (m : Nat) (hm : 1 ≤ m) : LayOk (addT kv t m) (T ++ List.replicate m t) := by
  have cnt : ∀ u, (T ++ List.replicate m t).count u = T.count u + if t = u then m else 0 := fun u => by
    rw [List.count_append, List.count_replicate]
    by_cases c : t = u
    · rw [if_pos c, if_pos (by simpa using c)]
    · rw [if_neg c, if_neg (by simpa using c)]
  have mm : ∀ u, u ∈ T ++ List.replicate m t ↔ u ∈ T ∨ u = t := fun u => by
    rw [List.mem_append, List.mem_replicate]
    constructor
    · rintro (z | ⟨_, z⟩)
      · exact .inl z
      · exact .inr z
    · rintro (z | z)
      · exact .inl z
      · exact .inr ⟨by omega, z⟩
  unfold addT
  by_cases c : t ∈ ks kv
  · rw [if_pos c]
    have ek : ks (kv.map fun e => if e.1 = t then (e.1, e.2 + m) else e) = ks kv := by
      unfold ks
      rw [List.map_map]
      congr 1
      funext e
      show (if e.1 = t then (e.1, e.2 + m) else e).1 = e.1
      split <;> rfl
    refine ⟨by rw [ek]; exact h.nd, fun e he => ?_, fun u => ?_⟩
    · obtain ⟨x, hx, rfl⟩ := List.mem_map.mp he
      have v := h.val x hx
      by_cases q : x.1 = t
      · rw [if_pos q, cnt, if_pos q.symm, v]
      · rw [if_neg q, cnt, if_neg (fun z => q z.symm), Nat.add_zero]; exact v
    · rw [ek, mm, h.key u]
      exact ⟨.inl, fun z => z.elim id fun e => by subst e; exact (h.key u).mp c⟩
  · rw [if_neg c]
    have nt : t ∉ T := fun z => c ((h.key t).mpr z)
    refine ⟨by rw [ks_snoc]; exact nodup_snoc h.nd c, fun e he => ?_, fun u => ?_⟩
    · rcases List.mem_append.mp he with z | z
      · rw [cnt, h.val e z]
        have ne : ¬ t = e.1 := fun q => nt (by rw [q]; exact (h.key _).mp (List.mem_map.mpr ⟨e, z, rfl⟩))
        rw [if_neg ne, Nat.add_zero]
      · rw [List.mem_singleton.mp z, cnt, if_pos rfl, List.count_eq_zero.mpr nt, Nat.zero_add]
    · rw [ks_snoc, List.mem_append, List.mem_singleton, mm, h.key u]
/-- what a layer's items lead to, item by item, way by way -/
def leads (rs : List Rule) (o : Option Int) (kv : Rk) : List Row := kv.flatMap fun e => (nx rs o e.1).flatMap fun t => List.replicate e.2 t
theorem leads_perm {rs : List Rule} {o : Option Int} {kv : Rk} {T : List Row} (h : LayOk kv T) : (leads rs o kv).Perm (T.flatMap (nx rs o)) := by
  refine List.Perm.trans ?_ (List.Perm.flatMap_right (nx rs o) h.spread)
  have e : (spread kv).flatMap (nx rs o) = kv.flatMap fun e => (List.replicate e.2 e.1).flatMap (nx rs o) := by unfold spread; rw [List.flatMap_assoc]
  rw [e]
  clear e h
  unfold leads
  induction kv with
  | nil => exact .nil
  | cons e kv ih =>
    rw [List.flatMap_cons, List.flatMap_cons]
    refine List.Perm.append ?_ ih
    rw [List.perm_iff_count]
    intro t
    have a : ∀ l : List Row, (l.flatMap fun t => List.replicate e.2 t).count t = e.2 * l.count t := fun l => by
      induction l with
      | nil => simp
      | cons u l ih =>
        rw [List.flatMap_cons, List.count_append, ih, List.count_replicate, List.count_cons, Nat.mul_add]
        by_cases q : u = t
        · rw [if_pos (by simpa using q), if_pos (by simpa using q)]; omega
        · rw [if_neg (by simpa using q), if_neg (by simpa using q)]; omega
    have b : ∀ n : Nat, ((List.replicate n e.1).flatMap (nx rs o)).count t = n * (nx rs o e.1).count t := fun n => by
      induction n with
      | zero => simp
      | succ n ih => rw [List.replicate_succ, List.flatMap_cons, List.count_append, ih, Nat.succ_mul]; omega
    rw [a, b]
theorem LayOk.next {rs : List Rule} {o : Option Int} {kv kv' : Rk} {T : List Row} (h : LayOk kv T) (h' : LayOk kv' (leads rs o kv)) : LayOk kv' (T.flatMap (nx rs o)) := h'.perm (leads_perm h)
theorem LayOk.pos {kv : Rk} {T : List Row} (h : LayOk kv T) : ∀ e ∈ kv, 1 ≤ e.2 := fun e he => by
  rw [h.val e he]
  exact List.count_pos_iff.mpr ((h.key _).mp (List.mem_map.mpr ⟨e, he, rfl⟩))
theorem LayOk.few {rs : List Rule} (ok : RulesOk rs) {kv : Rk} {T : List Row} (h : LayOk kv T) (ht : ∀ t ∈ T, TailOk rs t) : kv.length ≤ 255 := by
  have q := nodup_le (ks kv) allTails h.nd fun t m => mem_allTails ok (ht t ((h.key t).mp m))
  rw [allTails_len] at q
  unfold ks at q
  rw [List.length_map] at q; exact q
theorem LayOk.start : LayOk [([], 1)] [[]] := ⟨by show ([[]] : List Row).Nodup; simp, fun e he => by rw [List.mem_singleton.mp he]; rfl, fun t => Iff.rfl⟩
theorem LayOk.empty : LayOk [] [] := ⟨List.nodup_nil, fun e he => (by cases he), fun t => Iff.rfl⟩
end An
-- imports: B4 KE.KDictCopyH
/-! ### B5: sorted(d) of a dict whose keys are pairs of ints, dict(d) of one whose keys are tuples, sum(d.values()) -/
namespace An
open PySem PySem.Spec PyProof.Rows L2
/-- the pair of ints that a value refers to -/
def pairOf (H : Hp) : Value → Int × Int
  | .ref b => match H b with
    | some (.tup [.int i, .int j]) => (i, j)
    | _ => (0, 0)
  | _ => (0, 0)
theorem isPair_of {X : Cx} {pins : List (Addr × Obj)} {σ : L2.St} {H : Hp} {s : Shared} (I : Inv X pins σ H s) {b : Addr} {i j : Int} (h : H b = some (.tup [.int i, .int j])) : Srt.IsPair s.heap (.ref b) (pairOf H (.ref b)).1 (pairOf H (.ref b)).2 := by
  have e : pairOf H (.ref b) = (i, j) := by show (match H b with | some (.tup [.int i, .int j]) => (i, j) | _ => ((0 : Int), (0 : Int))) = _; rw [h]
  rw [e]
  obtain ⟨_, its2, r2, o, ho, hc, n, hd⟩ := I.hok _ _ h
  obtain ⟨u1, u2, rfl, ri, rj⟩ := vals2 r2
  obtain ⟨t1, rfl⟩ := ri
  obtain ⟨t2, rfl⟩ := rj
  exact ⟨b, o, t1, t2, n, rfl, ho, hc, hd⟩
theorem keys_at {X : Cx} {d : Addr} {es : Array DictEntry} {xs : List (List Key × Addr × Value)} {acc : Array Value} (he : es.toList = xs.map (entryOfKey (tupleKind (mixKind X.prog X.w))))
    (it : ItemsOf (fun i v => ∃ en : DictEntry, es[i]? = some en ∧ v = en.key) acc es.size) : acc.toList = xs.map fun x => Value.ref x.2.1 := by
  have l1 : es.size = xs.length := size_of_entries he
  have hl : acc.toList.length = xs.length := by rw [Array.length_toList, it.1]; exact l1
  apply List.ext_getElem?
  intro j
  rw [List.getElem?_map]
  cases hj : acc.toList[j]? with
  | none =>
    have h1 := List.getElem?_eq_none_iff.mp hj
    rw [List.getElem?_eq_none (by omega)]; rfl
  | some v =>
    obtain ⟨en, hen, hv⟩ := it.2 j v (by rw [← Array.getElem?_toList]; exact hj)
    have qe := entry_at he j
    rw [hen] at qe
    cases hb : xs[j]? with
    | none => rw [hb] at qe; exact nomatch (show some en = none from qe)
    | some b =>
      rw [hb] at qe
      have e2 : en = entryOfKey (tupleKind (mixKind X.prog X.w)) b := Option.some.inj qe
      rw [hv, e2]; rfl
theorem perm_map_inv {α β : Type} {f : α → β} {l l' : List β} (h : l.Perm l') : ∀ ks : List α, l = ks.map f → ∃ ks', ks.Perm ks' ∧ l' = ks'.map f := by
  induction h with
  | nil => intro ks e; exact ⟨ks, .refl _, e⟩
  | cons x _ ih =>
    intro ks e
    cases ks with
    | nil => cases e
    | cons k ks =>
      injection e with e1 e2
      obtain ⟨ks', h1, h2⟩ := ih ks e2
      exact ⟨k :: ks', h1.cons k, by rw [List.map_cons, e1, h2]⟩
  | swap x y l =>
    intro ks e
    match ks, e with
    | a :: b :: ks, e =>
      injection e with e1 e2
      injection e2 with e2 e3
      exact ⟨b :: a :: ks, .swap b a ks, by rw [List.map_cons, List.map_cons, e1, e2, e3]⟩
  | trans _ _ ih1 ih2 =>
    intro ks e
    obtain ⟨k1, h1, e1⟩ := ih1 ks e
    obtain ⟨k2, h2, e2⟩ := ih2 k1 e1
    exact ⟨k2, h1.trans h2, e2⟩
theorem Paired.perm {α β : Type} {F : α → β → Prop} {m m' : List β} (h : m.Perm m') : ∀ {l : List α}, Paired F l m → ∃ l', l.Perm l' ∧ Paired F l' m' := by
  induction h with
  | nil => intro l p; exact ⟨l, .refl _, p⟩
  | cons x _ ih =>
    intro l p
    cases p with
    | cons r t =>
      obtain ⟨l', h1, h2⟩ := ih t
      exact ⟨_, h1.cons _, .cons r h2⟩
  | swap x y l =>
    intro l p
    cases p with
    | cons r t =>
      cases t with
      | cons r2 t2 => exact ⟨_, .swap _ _ _, .cons r2 (.cons r t2)⟩
  | trans _ _ ih1 ih2 =>
    intro l p
    obtain ⟨l1, h1, p1⟩ := ih1 p
    obtain ⟨l2, h2, p2⟩ := ih2 p1
    exact ⟨l2, h1.trans h2, p2⟩
section
variable {X : Cx}
/-- sorted(d): a list of the keys, in some order (the order is not told here) -/
theorem cr_sortedDT (hcalm : X.calm = true) : CallR X (.builtin "sorted") (fun xs H Q => ∃ d kvs, xs = [V.ref d] ∧ Rd H d (.dT kvs) ∧ (∀ p ∈ kvs, ∃ i j : Int, p.1 = [Sum.inl i, Sum.inl j]) ∧
    ∀ p bs kvs', H p = none → kvs'.Perm kvs → IsKeys H kvs' bs → Q (.ref p) (upd H p (.lst (bs.map V.ref)))) := by
  intro pins s σ H xs us Q I r h
  obtain ⟨d, kvs, rfl, hd, hk2, q⟩ := h
  obtain ⟨u, rfl, rx⟩ := r.one
  cases rx
  obtain ⟨z, hs, ks, pr, o, es, ep, ho, hx, hdt, he, hn⟩ := (show ObjOk X.prog X.w H s.heap d (.dT kvs) from hd.ok I.hok)
  have l1 : es.size = ks.length := size_of_entries he
  have l2 : kvs.length = ks.length := Paired.length pr
  refine Calls.call_function_entry PyProof.Rows.kind_sorted PyProof.Rows.plain_sorted PyProof.Rows.entry_sorted (PyProof.Rows.args_sorted1 _) ?_
  unfold Builtin.«sorted»
  refine wpAny_bind (m := checkCount "sorted" 1 1 _) (wpAny_pure ?_)
  refine wpAny_bind (PySem.W.kdu_collect (A := X.A.in1) (kdl_raw hs hx hdt) (I.ok.hd hcalm) ho (by omega) fun h' tk acc hk it => ?_)
  have ea := keys_at (X := X) (d := d) he it
  have I1 : Inv X pins σ H { s with heap := h', toks := tk } := I.kept hk
  have hz : acc.toList.length ≤ sizeLine := by rw [ea, List.length_map]; omega
  have refs : ∀ v ∈ acc.toList, ∃ b i j, v = Value.ref b ∧ H b = some (.tup [.int i, .int j]) := fun v hv => by
    rw [ea] at hv
    obtain ⟨x, hxm, rfl⟩ := List.mem_map.mp hv
    obtain ⟨n, hn, e⟩ := List.getElem_of_mem hxm
    obtain ⟨p, hp, h1, h2, _⟩ := Paired.get' pr (show ks[n]? = some x by rw [List.getElem?_eq_getElem hn, e])
    obtain ⟨i, j, e2⟩ := hk2 p (List.mem_of_getElem? hp)
    refine ⟨x.2.1, i, j, rfl, ?_⟩
    rw [h2, e2]; rfl
  refine wpAny_bind (wpAny_newList ?_ hz)
  have hoL : (h'.push (seqObj "list" acc.toList.toArray 0)).get? h'.objs.size = some (seqObj "list" acc.toList.toArray 0) := Heap.get?_push_size _ rfl
  show wpAny _ _ _ _ _ { s with heap := h'.push (seqObj "list" acc.toList.toArray 0), toks := tk }
  refine wpAny_bind (wpAny_holding (wpAny_call_entry PyProof.Rows.slot_list_sort ⟨_, hoL, rfl⟩ PyProof.Rows.entry_list_sort
    (SrtO.list_sort_ord (s := { s with heap := h'.push (seqObj "list" acc.toList.toArray 0), toks := tk }) (SrtO.swo_lex (pairOf H)) hoL hz (fun h2 => ?_) fun out hs hb => ⟨_, rfl, ?_⟩) (PyProof.Rows.args_list_sort _)))
  · refine SrtO.pairs_sortableO (by omega) (fun v hv => ?_) fun o e c => ?_
    · obtain ⟨b, i, j, rfl, hb⟩ := refs v hv
      exact (isPair_of I1 hb).keeps fun b o e _ => Heap.get?_push_of_some _ e
    · have e' : some o = some (seqObj "list" acc.toList.toArray 0) := e.symm.trans hoL
      cases e'
      exact absurd (Value.type.inj c) (by decide)
  · obtain ⟨ks', hp, eo⟩ := perm_map_inv hb.perm.symm ks ea
    obtain ⟨kvs', hp2, pr'⟩ := Paired.perm hp pr
    obtain ⟨e', he'⟩ := PyProof.Rows.sortedHeap_at (vs := acc.toList) (out := out.toArray) hoL
    have eb : out = (ks'.map fun x => x.2.1).map Value.ref := by rw [eo, List.map_map]; rfl
    have rv : Vals ((ks'.map fun x => x.2.1).map V.ref) out := by rw [eb]; exact vals_refs _
    have hz2 : ((ks'.map fun x => x.2.1).map V.ref).length ≤ sizeLine := by rw [List.length_map, List.length_map, ← hp.length_eq]; omega
    refine wpAny_pure ⟨_, rfl, .ref h'.objs.size, upd H h'.objs.size (.lst ((ks'.map fun x => x.2.1).map V.ref)), I1.laid (t' := tk) (fun b u e => ?_) (Nat.le_refl _)
      (show ObjOk X.prog X.w _ _ _ (.lst ((ks'.map fun x => x.2.1).map V.ref)) from ⟨hz2, out, e', rv, he'⟩), rfl, q _ _ kvs' (I1.hok.fresh (Nat.le_refl _)) hp2.symm (isKeys_of pr')⟩
    have hb' : b < h'.objs.size := Heap.lt_size e
    rw [PyProof.Rows.sortedHeap_old (Nat.ne_of_lt hb') (by rw [size_push']; exact Nat.lt_succ_of_lt hb')]
    exact Heap.get?_push_of_some _ e
/-- dict(d): a copy, where no two keys hash alike -/
theorem call_dictDT (hu : X.A.units + 64 < cLine) : CallR X (.type "dict") (fun xs H Q => ∃ d kvs, xs = [V.ref d] ∧ Rd H d (.dT kvs) ∧ (∀ (P : Program) (w : World), (kvs.map fun p => (tupleKind (mixKind P w)).hash p.1).Nodup) ∧
    ∀ p, H p = none → Q (.ref p) (upd H p (.dT kvs))) := by
  intro pins s σ H xs us Q I r q
  obtain ⟨a, kvs, ex, hd, hh, q⟩ := q
  subst ex
  obtain ⟨u, eu, rx⟩ := vals1 r
  subst eu
  cases rx
  obtain ⟨z, lo, more, rel, dd⟩ := dt_rd I.hok hd
  have hm : (s.heap.objs.size == sysModules) = false := beq_eq_false_iff_ne.mpr (Nat.ne_of_gt I.big)
  have l2 : kvs.length = more.length := Paired.length rel
  have hkeys : more.map (fun x => (tupleKind (mixKind X.prog X.w)).hash x.1) = kvs.map fun p => (tupleKind (mixKind X.prog X.w)).hash p.1 := by
    have : ∀ {l : List (List Key × V)} {m : List (List Key × Addr × Value)}, KT H l m → m.map (fun x => (tupleKind (mixKind X.prog X.w)).hash x.1) = l.map fun p => (tupleKind (mixKind X.prog X.w)).hash p.1 := by
      intro l m q
      induction q with
      | nil => rfl
      | cons h t ih => rw [List.map_cons, List.map_cons, ih, h.1]
    exact this rel
  refine callType_codes (Q₁ := fun obj s₁ => obj = .ref s.heap.objs.size ∧ s₁ = { s with heap := s.heap.push { cls := .type "dict", data := .dict #[] } }) F.kt_called_dict (F.kt_typeCall_dict_1 _) F.entry_dict_init (kt_code_dict_new _ ⟨rfl, rfl⟩) ?_
  rintro obj s₁ ⟨rfl, rfl⟩
  have hnew : (s.heap.push { cls := .type "dict", data := .dict #[] }).DictOfH (tupleKind (mixKind X.prog X.w)) s.heap.objs.size [] := Heap.DictOfH.new s.heap
  have keep : ∀ b o, s.heap.get? b = some o → (s.heap.push { cls := .type "dict", data := .dict #[] }).get? b = some o := fun b o e => Heap.get?_push_of_some _ e
  have Ip : Inv X pins σ H { s with heap := s.heap.push { cls := .type "dict", data := .dict #[] } } := I.kept (t' := s.toks) keep
  obtain ⟨_, _, more', rel', ho'⟩ := dt_rd Ip.hok hd
  have ho : (s.heap.push { cls := .type "dict", data := .dict #[] }).DictOfH (tupleKind (mixKind X.prog X.w)) a more := by
    obtain ⟨o, es, ep, h1, h2, h3, h4, h5, h6⟩ := id dd
    refine ⟨o, es, ep, keep _ _ h1, h2, h3, h4, fun x hx => ?_, h6⟩
    obtain ⟨o2, its, n, g1, g2, g3, g4⟩ := h5 x hx
    exact ⟨o2, its, n, keep _ _ g1, g2, g3, g4⟩
  have hn : (more.map (·.1)).Nodup := dd.nodup
  have hty : ∀ x ∈ more, ({ s with heap := s.heap.push { cls := .type "dict", data := .dict #[] } } : Shared).TypeIs (.ref x.2.1) "tuple" := fun x hx => by
    obtain ⟨_, _, _, _, _, _, _, h5, _⟩ := ho
    exact (h5 x hx).typeIs (s := { s with heap := s.heap.push { cls := .type "dict", data := .dict #[] } })
  have hdo : s.heap.objs.size ≠ a := by
    obtain ⟨_, _, _, hg, _⟩ := dd
    exact fun e => absurd (Heap.lt_size hg) (by rw [e]; exact Nat.lt_irrefl _)
  refine ⟨hnew.typeIs (s := { s with heap := s.heap.push { cls := .type "dict", data := .dict #[] } }), F.args_dict_init_2 _ _, ?_⟩
  unfold Builtin.«dict.__init__»
  refine wpAny_bind ?_
  unfold Builtin.Dict.selfAndRest
  refine wpAny_bind (wpAny_notOrdered_dict (hnew.typeIs (s := { s with heap := s.heap.push { cls := .type "dict", data := .dict #[] } })) ?_)
  show wpAny _ _ (pure (s.heap.objs.size, [Value.ref a])) _ _ _
  refine wpAny_pure ?_
  show wpAny _ _ (Builtin.Dict.updateFrom "dict.__init__" s.heap.objs.size (.ref a) [] .none) _ _ _
  unfold Builtin.Dict.updateFrom
  refine wpAny_bind (wpAny_typeOf (ho.typeIs (s := { s with heap := s.heap.push { cls := .type "dict", data := .dict #[] } })) ?_)
  rw [if_neg (by decide)]
  refine wpAny_bind ?_
  unfold Builtin.Dict.merge
  refine wpAny_bind ?_
  unfold Builtin.Dict.readDirectly
  refine wpAny_bind (wpAny_isInstance (ho.typeIs (s := { s with heap := s.heap.push { cls := .type "dict", data := .dict #[] } })) isSubtype_dict_dict ?_)
  simp only [Bool.not_true, Bool.false_eq_true, if_false]
  refine wpAny_bind (wpAny_specialOf (ho.typeIs (s := { s with heap := s.heap.push { cls := .type "dict", data := .dict #[] } })) F.slot_dict_iter.lookup (wpAny_pure ?_))
  simp only [beq_self_eq_true, if_true]
  refine wpAny_bind (wpAny_pure ?_)
  refine wpAny_mergeDict_heap (s := { s with heap := s.heap.push { cls := .type "dict", data := .dict #[] } }) (hsz := by simpa [← l2] using z) (tupleKind_room_in1 (by show X.A.units + 1 + 1 < cLine; omega)) hdo lo hnew ho (.inr ⟨hty, by rw [hkeys]; exact hh _ _⟩) fun h' hd' _ hs' => ?_
  show wpAny _ _ (Builtin.Dict.addKeywords s.heap.objs.size [] >>= _) _ _ _
  rw [storedAllH_nil_of_nodup more hn] at hd'
  refine wpAny_bind (wpAny_pure (wpAny_pure ⟨rfl, ?_⟩))
  obtain ⟨o, es, ep, h1, h2, h3, h4, h5, h6⟩ := hd'
  exact ⟨.ref s.heap.objs.size, upd H s.heap.objs.size (.dT kvs), I.laid (t' := s.toks) (fun b u e => (hs'.2 b (Nat.ne_of_lt (Heap.lt_size e))).trans (keep _ _ e)) (Nat.le_refl _)
    (show ObjOk X.prog X.w _ _ _ (.dT kvs) from ⟨z, hm, more, KT.keeps rel (fun b ys e => by rw [upd_ne (fun q => by subst q; rw [I.hok.fresh (Nat.le_refl _)] at e; cases e)]; exact e), o, es, ep, h1, h2, h3, h4, h6⟩), rfl, q _ (I.hok.fresh (Nat.le_refl _))⟩
/-- sum(d.values()) of a dict whose keys are tuples, the values ints -/
def tSumV (td : TE) : TE := fun σ H Q => td σ H fun x H1 => ∃ (d : Addr) (kvs : List (List Key × V)) (ns : List Int), x = .ref d ∧ Rd H1 d (.dT kvs) ∧ kvs.map (·.2) = ns.map V.int ∧ Q (.int ns.sum) H1
theorem ints_of_vals {H : Hp} : ∀ {kvs : List (List Key × V)} {xs : List (List Key × Addr × Value)} {ns : List Int}, KT H kvs xs → kvs.map (·.2) = ns.map V.int → ∀ (i : Nat) (x : List Key × Addr × Value), xs[i]? = some x → ∃ t, x.2.2 = .int (ns.getD i 0) t
  | _, _, [], .nil, _, i, x, h => by simp at h
  | _, _, n :: ns, .cons r t, e, 0, x, h => by
    cases h
    injection e with e1 e2
    have r3 := r.2.2
    dsimp only at e1
    rw [e1] at r3
    exact r3
  | _, _, n :: ns, .cons r t, e, i + 1, x, h => by
    injection e with e1 e2
    have := ints_of_vals t e2 i x (by simpa using h)
    simpa using this
  | _, _, [], .cons r t, e, _, _, _ => by cases e
  | _, _, n :: ns, .nil, e, _, _, _ => by cases e
theorem pe_sumVals {e : Expr} {td : TE} {p pos apos cpos : Pos} (hc : X.calm = true) (hg : Gl X "sum") (hm : X.mg "sum" = none) (he : PE X e td) (hbase : attributeBase e "values" X.env (eval e X.env) = eval e X.env := by rfl) (hline : (apos.endLine == cpos.line) = true := by rfl)
    (na : starEach [.Call (.Attribute e "values" apos) [] [] cpos] X.env = (false, eval (.Call (.Attribute e "values" apos) [] [] cpos) X.env) :: starEach [] X.env := by rfl) (hpl : (backTo pos (starEach [] X.env)).any (·.1) = false := by rfl) :
    PE X (.Call (.Name "sum" p) [.Call (.Attribute e "values" apos) [] [] cpos] [] pos) (tSumV td) := by
  refine ⟨fun pins s σ H Q I h => ?_⟩
  refine wpAny_Call_Name_kw (ld_blt I hg hm bt_sum ?_ (by decide) (by decide))
  refine PyProof.Rows.callWith_builtin1 (args_cons ?_ na) na hpl
  refine wpAny_Call_method (T := "dict") (id := "dict.values") hbase rfl hline F.plainAttrs_dict F.slot_dict_values F.type_dict_values (thn (he.run pins s σ H _ I h) fun u s1 ⟨x, H1, I1, rx, d, kvs, ns, ex, hd, en, q⟩ => ?_)
  subst ex
  obtain rfl : u = Value.ref d := rx
  obtain ⟨z, hs, more, rel, o, es, ep, ho, hx, hdt, hes, _⟩ := (show ObjOk X.prog X.w H1 s1.heap d (.dT kvs) from hd.ok I1.hok)
  have hr : s1.heap.DictRaw d es ep := ⟨_, ho, hx, hdt⟩
  refine ⟨hr.typeIs, fun a ea => ⟨o, by cases ea; exact ho, hx.2.1⟩, ?_⟩
  show wpAny _ _ (callWith cpos (.builtin "dict.values") [.ref d] [] []) _ X.xe s1
  refine method_meetsIn F.slot_dict_values F.entry_dict_values rfl (PySem.evalArgs_none ⟨rfl, hr.typeIs, F.args_dict_values_1 _, _, meets_dict_values_raw d hs, ⟨es, ep, hr⟩, args_nil ?_⟩)
  have I2 : Inv X pins σ H1 { s1 with heap := s1.heap.push { cls := .type "dict_values", data := .fields #[.ref d] } } := I1.kept (t' := s1.toks) fun b ob q => Heap.get?_push_of_some _ q
  have hr2 : (s1.heap.push { cls := .type "dict_values", data := .fields #[.ref d] }).DictRaw d es ep := hr.at fun o e => Heap.get?_push_of_some _ e
  have hlt : d < (s1.heap.push { cls := .type "dict_values", data := .fields #[.ref d] }).objs.size := hr2.lt_size
  have l1 : es.size = more.length := size_of_entries hes
  have l2 : kvs.length = more.length := Paired.length rel
  have l3 : ns.length = more.length := by have := congrArg List.length en; rw [List.length_map, List.length_map] at this; omega
  refine call_sum_walkG ?_
  refine wpAny_pyIter_values_raw (v := s1.heap.objs.size) (d := d) ⟨_, Heap.get?_push_size _ rfl, rfl, rfl⟩ hr2 ?_
  refine ⟨_, _, _, _, _, _, fun i => ns.getD i 0, rfl, Walks.rawValues (A := X.A.in1) (I.ok.hd hc) _ d (Nat.ne_of_lt hlt) es ep, ⟨⟨_, Heap.get?_push_size _ rfl, rfl, rfl⟩, hr2.at fun o e => Heap.get?_push_of_some _ e⟩, fun b hb => ?_, fun i v hv => ?_, fun h' tk t' hk => ?_⟩
  · rw [show (((s1.heap.push { cls := .type "dict_values", data := .fields #[.ref d] }).push _).objs.size) = (s1.heap.push { cls := .type "dict_values", data := .fields #[.ref d] }).objs.size + 1 from Heap.size_push _ _]
    rcases List.mem_cons.mp hb with z | z
    · rw [z]; exact Nat.lt_succ_self _
    · rw [List.mem_singleton.mp z]; exact Nat.lt_succ_of_lt hlt
  · obtain ⟨hi, rfl⟩ := hv
    have hi' : i < more.length := by omega
    have q1 := entry_at hes i
    rw [List.getElem?_eq_getElem hi', Array.getElem?_eq_getElem hi] at q1
    have q2 : es[i] = entryOfKey (tupleKind (mixKind X.prog X.w)) more[i] := Option.some.inj q1
    rw [q2]
    exact ints_of_vals rel en i more[i] (List.getElem?_eq_getElem hi')
  · rw [preSum_getD, l1, ← l3, List.take_of_length_le (Nat.le_refl _)]
    refine ⟨.int ns.sum, H1, ?_, ⟨_, rfl⟩, q⟩
    exact I2.kept (t' := tk) fun b o e => hk b o (fun m => absurd (List.mem_singleton.mp m ▸ Heap.lt_size e) (Nat.lt_irrefl _)) (Heap.get?_push_of_some _ e)
end
end An
-- imports: B5 KE.KDictDisplayH
/-! ### B6: {t: v}, t a tuple -/
namespace An
open PySem PySem.Spec PyProof.Rows L2
def tDisp1T (tk tv : TE) : TE := fun σ H Q => ∀ p, H p = none → tk σ (upd H p (.dT [])) fun x H1 => tv σ H1 fun y H2 => ∃ (b : Addr) (ks : List Key), x = .ref b ∧ H2 b = some (.tup (ks.map kV)) ∧ H2 p = some (.dT []) ∧ Q (.ref p) (upd H2 p (.dT [(ks, y)]))
section
variable {X : Cx}
theorem pe_disp1T {k v : Expr} {pos : Pos} {tk tv : TE} (hu : X.A.units + 64 < cLine) (hk : PE X k tk) (hv : PE X v tv) : PE X (.Dict [some k] [v] pos) (tDisp1T tk tv) := by
  refine ⟨fun pins s σ H Q I q => ?_⟩
  have hn := I.hok.fresh (Nat.le_refl s.heap.objs.size)
  have I1 := I.laid (a := s.heap.objs.size) (o := .dT []) (h' := s.heap.push { cls := .type "dict", data := .dict #[] }) (t' := s.toks) (fun _ _ q => Heap.get?_push_of_some _ q) (Nat.le_refl _) (dt_empty s.heap I.big)
  rw [arm_eval_Dict, zip_pairTrees [some k] [v] X.env pos rfl rfl, dictDisplay_pairs (pairTrees [some k] [v] X.env pos) (fun z => by cases z) (show 1 < 17 by decide)]
  refine wpAny_bind (wpAny_standAt (wpAny_bind (wpAny_subDictH (knd := tupleKind (mixKind X.prog X.w)) (Q := fun d s' => wpAny (model X.prog X.w) X.A (pure (Value.ref d)) _ X.xe s') (by show X.A.units < cLine; omega) (show 1 ≤ 15 by decide) ?_)))
  refine pairTrees_cons_walk (thn (hk.run pins _ σ _ _ I1 (q _ hn)) fun u s1 ⟨x, H1, J1, rx, q1⟩ => thn (hv.run pins s1 σ H1 _ J1 q1) fun w2 s2 ⟨y, H2, J2, ry, b, ks, ex, hb, hp, q2⟩ => pairTrees_nil_walk ?_)
  subst ex
  obtain rfl : u = Value.ref b := rx
  obtain ⟨z, hd, xs, rel, dd⟩ := dt_of J2.hok hp
  cases rel
  refine ⟨[(ks, b, w2)], ⟨rfl, rfl, key_of J2.hok hb, trivial⟩, dd, fun h' tk dd' hs => wpAny_pure ?_⟩
  have ed : storedAllH [] [(ks, b, w2)] = [(ks, b, w2)] := rfl
  rw [ed] at dd'
  obtain ⟨o, es, ep, h1, h2, h3, h4, _, h6⟩ := dd'
  refine ⟨.ref s.heap.objs.size, upd H2 s.heap.objs.size (.dT [(ks, y)]), d_write J2 (by rw [hp]; exact True.intro) hs ⟨o, h1⟩ ⟨by show 1 ≤ sizeLine; decide, hd, [(ks, b, w2)], .cons ⟨rfl, ?_, ry⟩ .nil, o, es, ep, h1, h2, h3, h4, h6⟩, rfl, q2⟩
  rw [upd_ne (ne_of hb hp (fun z => nomatch z))]
  exact hb
end
end An
-- imports: D3 MT B6
/-! ### G1: need_told, need_both, layers_of, how_many -/
namespace An
open PySem L2
def oV : Option Int → V
  | none => .non
  | some p => .int p
def ToldAt (H : Hp) (v : V) (ds : Told) : Prop := ∃ a, v = .ref a ∧ H a = some (.tup (ds.map oV))
theorem ToldAt.mono {H H' : Hp} {v : V} {ds : Told} (t : TS H H') (h : ToldAt H v ds) : ToldAt H' v ds := let ⟨a, e, q⟩ := h; ⟨a, e, t a _ q⟩
structure ToldOk (ds : Told) : Prop where
  len : ds.length ≤ 120
  bits : ∀ o ∈ ds, o = none ∨ o = some 0 ∨ o = some 1
def DictAt (H : Hp) (v : V) (kv : Rk) : Prop := ∃ d, v = .ref d ∧ H d = some (.dT (encR kv))
theorem encR_keys (kv : Rk) (t : Row) : ((encR kv).any fun e => decide (e.1 = key t)) = decide (t ∈ ks kv) := by
  rw [valV_any, encR_isSome]
theorem enc_add {kv : Rk} (nd : (ks kv).Nodup) (t : Row) (m : Nat) : putK (encR kv) (key t) (.int (((if t ∈ ks kv then rkOf kv t else 0) + m : Nat) : Int)) = encR (addT kv t m) := by
  unfold putK addT
  rw [encR_keys]
  by_cases c : t ∈ ks kv
  · rw [if_pos (decide_eq_true c), if_pos c, if_pos c]
    unfold encR
    rw [List.map_map, List.map_map]
    refine List.map_congr_left fun e he => ?_
    show (if key e.1 = key t then (key e.1, V.int _) else (key e.1, V.int _)) = (key (if e.1 = t then (e.1, e.2 + m) else e).1, V.int _)
    by_cases q : e.1 = t
    · rw [if_pos (by rw [q]), if_pos q]
      have e2 : rkOf kv t = e.2 := by
        have m1 := rkOf_mem c
        subst q
        have : ∀ l : Rk, (ks l).Nodup → ∀ a b : Nat, (e.1, a) ∈ l → (e.1, b) ∈ l → a = b := fun l => by
          induction l with
          | nil => intro _ a b h; cases h
          | cons x l ih =>
            intro hn a b h1 h2
            obtain ⟨n1, n2⟩ := List.nodup_cons.mp hn
            rcases List.mem_cons.mp h1 with z1 | z1
            · rcases List.mem_cons.mp h2 with z2 | z2
              · rw [← z1] at z2; exact (congrArg Prod.snd z2).symm
              · exact absurd (List.mem_map.mpr ⟨_, z2, rfl⟩) (by rw [← z1] at n1; exact n1)
            · rcases List.mem_cons.mp h2 with z2 | z2
              · exact absurd (List.mem_map.mpr ⟨_, z1, rfl⟩) (by rw [← z2] at n1; exact n1)
              · exact ih n2 a b z1 z2
        exact this kv nd _ _ m1 he
      rw [e2]
      show _ = (key _, V.int (((if e.1 = t then (e.1, e.2 + m) else e).2 : Nat) : Int))
      rw [if_pos q]
    · rw [if_neg (fun z => q (key_inj z)), if_neg q]
      show _ = (key _, V.int (((if e.1 = t then (e.1, e.2 + m) else e).2 : Nat) : Int))
      rw [if_neg q]
  · rw [if_neg (by simpa using c), if_neg c, if_neg c, Nat.zero_add]
    unfold encR
    rw [List.map_append]; rfl
section
variable {P : Program} {w : World} {K : PySem.W.Frag} {mg : Str → Option Value} {base : Heap}
def N_need_told : List Str := ["told", "place"]
theorem sc_need_told : FnScope N_need_told ["told"] (defScope S_need_told) := ⟨rfl, rfl, rfl, by decide +kernel, rfl, by decide +kernel, by decide +kernel⟩
def spNeedTold : Sp := fun vs H Q _ => ∃ v ds, vs = [v] ∧ ToldAt H v ds ∧ ToldOk ds ∧ ∀ H', Same H H' → Q .non H'
theorem ok_need_told (D : Dn K mg "need_told" S_need_told) (bf : Bf mg) (c_MOST_PLACES : ∃ t, mg "MOST_PLACES" = some (.int 120 t)) (C_is_from : Cl P w K mg base 1 "is_from" spIsFrom) : Cl P w K mg base 2 "need_told" spNeedTold := by
  refine D.ok sc_need_told (fun vs H Q E h => ?_) (fun _ _ _ _ _ _ us hl => match us, hl with | [_], _ => rfl) (fun f cdv A outer s H vs Q E hr h => ?_)
  · obtain ⟨v, ds, rfl, _⟩ := h; rfl
  · obtain ⟨v, ds, rfl, ⟨a, rfl, ha⟩, ok, k⟩ := h
    have nd := sc_need_told.nd
    have hr_is_from := hr
    have hl := ok.len
    refine ⟨_, (pss_cons (ps_if (PW.pt (pw_or (pt_not (pt_val (pe_callB call_isi rfl bf.isinstance bt_isinstance (pa_cons (pv 0) (pa_cons (pe_bltn (v := .ty "tuple") rfl bf.tuple bt_tuple rfl) pa_nil))))) (pw_or1 (pt_cmpR op_gt (pe_callB call_len_seq rfl bf.len bt_len (pa_cons (pv 0) pa_nil)) (pe_gint rfl c_MOST_PLACES) (nomark _)))))
    (pss_one ps_never)
    pss_nil)
    (pss_one (ps_if (pt_not (pt_val (pe_callB (cr_all rfl) rfl bf.all bt_all (pa_cons (pe_lc (own := [("place", 1)]) rfl nd (pi_tup (pv 0)) (blkOk_by (own := [("place", 1)]) (N := N_need_told) (sc := defScope S_need_told) (by decide +kernel)) (fun _ _ _ _ _ => (pg_name (i := 1) nd rfl (Or.inl rfl) (Or.inr rfl))) (fun _ _ _ _ _ => pts_nil) (fun _ _ _ _ _ => (pe_or (pe_cmpR op_isN (pv 1) pe_non (nomark _)) (pe_one (pe_callC C_is_from hr_is_from rfl (pa_cons (pv 1) (pa_cons pe_int (pa_cons pe_int pa_nil)))))))) pa_nil))))
    (pss_one ps_never)
    pss_nil))), ?_⟩
    refine ⟨_, rfl, isi_of (.tup ha) (b := true) (by decide +kernel) ⟨_, rfl, iteF ?_⟩⟩
    refine ⟨_, rfl, a, _, rfl, .inr (SqT.of ha), _, _, rfl, rfl, _, rfl, ?_⟩
    rw [List.length_map, decide_eq_false (show ¬ (120 : Int) < ((ds.length : Nat) : Int) by omega)]
    refine iteF ?_
    refine ⟨_, rfl, a, rfl, ⟨_, SqT.of ha⟩, fun L hL => lc_it (walk_tup (xs := ds.map oV)) (fun i H' => Same H H' ∧ H L = none ∧ H' L = some (.lst (List.replicate i (V.bl true)))) ⟨Same.new hL, hL, upd_same⟩ (fun i H' _ h => SqT.of (h.1 _ _ ha)) ?_ ?_⟩
    · rintro i x H1 H' hi ⟨sm, n0, hD⟩ ⟨rfl, hx⟩
      obtain ⟨o, ho, rfl⟩ : ∃ o, ds[i]? = some o ∧ x = oV o := by
        rw [List.getElem?_map] at hx
        obtain ⟨p, hp, e⟩ := Option.map_eq_some_iff.mp hx
        exact ⟨p, hp, e.symm⟩
      rw [List.length_map] at hi
      have fin : ∃ acc, H' L = some (.lst acc) ∧ acc.length < sizeLine ∧ (Same H (upd H' L (.lst (acc ++ [.bl true]))) ∧ H L = none ∧ (upd H' L (.lst (acc ++ [.bl true]))) L = some (.lst (List.replicate (i + 1) (V.bl true)))) := by
        refine ⟨_, hD, szl (by rw [List.length_replicate]; omega), fun b o e => ?_, n0, ?_⟩
        · rw [upd_ne (ne_of_none e n0)]; exact sm _ _ e
        · rw [upd_same, ← List.replicate_succ']
      refine ⟨rfl, tYes_ ?_⟩
      rcases ok.bits o (List.mem_of_getElem? ho) with rfl | rfl | rfl
      · exact ⟨_, rfl, rfl, _, rfl, iteT fin⟩
      · refine ⟨_, rfl, rfl, _, rfl, iteF ⟨_, rfl, .int 0, _, 0, 1, rfl, .int 0, ?_⟩⟩
        exact fin
      · refine ⟨_, rfl, rfl, _, rfl, iteF ⟨_, rfl, .int 1, _, 0, 1, rfl, .int 1, ?_⟩⟩
        exact fin
    · rintro H' ⟨sm, n0, hD⟩
      refine ⟨L, List.replicate (ds.map oV).length true, rfl, SqL.of (by rw [List.map_replicate]; exact hD), _, rfl, ?_⟩
      rw [show (List.replicate (ds.map oV).length true).all id = true by rw [List.all_replicate]; simp]
      exact iteF (k H' sm)
def N_need_both : List Str := ["rules", "told"]
theorem sc_need_both : FnScope N_need_both ["rules", "told"] (defScope S_need_both) := ⟨rfl, rfl, rfl, by decide +kernel, rfl, by decide +kernel, by decide +kernel⟩
def spBoth : Sp := fun vs H Q _ => ∃ rv tv rs ds, vs = [rv, tv] ∧ RulesAt H rv rs ∧ RulesOk rs ∧ ToldAt H tv ds ∧ ToldOk ds ∧ ∀ H', Same H H' → Q .non H'
theorem ok_need_both (D : Dn K mg "need_both" S_need_both) (C_need_rules : Cl P w K mg base 4 "need_rules" spNeedRules) (C_need_told : Cl P w K mg base 2 "need_told" spNeedTold) : Cl P w K mg base 5 "need_both" spBoth := by
  refine D.ok sc_need_both (fun vs H Q E h => ?_) (fun _ _ _ _ _ _ us hl => match us, hl with | [_, _], _ => rfl) (fun f cdv A outer s H vs Q E hr h => ?_)
  · obtain ⟨rv, tv, rs, ds, rfl, _⟩ := h; rfl
  · obtain ⟨rv, tv, rs, ds, rfl, hR, ok, hT, tok, k⟩ := h
    have nd := sc_need_both.nd
    have hr_need_rules := hr
    have hr_need_told := hr.mono (show 2 ≤ 4 by decide)
    refine ⟨_, (pss_cons (ps_expr (pe_callC C_need_rules hr_need_rules rfl (pa_cons (pv 0) pa_nil)))
    (pss_one (ps_expr (pe_callC C_need_told hr_need_told rfl (pa_cons (pv 1) pa_nil))))), ?_⟩
    exact ⟨_, rfl, rv, rs, rfl, hR, ok, fun H1 s1 => ⟨_, rfl, tv, ds, rfl, ToldAt.mono (TS.of s1) hT, tok, fun H2 s2 => k _ (s1.trans s2)⟩⟩
/-! #### layers_of -/
def N_layers_of : List Str := ["rules", "told", "found", "place", "more", "tail", "many", "one", "there"]
theorem sc_layers_of : FnScope N_layers_of ["rules", "told"] (defScope S_layers_of) := ⟨rfl, rfl, rfl, by decide +kernel, rfl, by decide +kernel, by decide +kernel⟩
structure Lays (rs : List Rule) (ds : Told) (H : Hp) (L : Addr) (xs : List V) (kvs : List Rk) (n : Nat) : Prop where
  hL : H L = some (.lst xs)
  pr : Paired (DictAt H) xs kvs
  len : kvs.length = n + 1
  ok : ∀ i kv, kvs[i]? = some kv → LayOk kv (tails rs (ds.take i))
def spLayers : Sp := fun vs H Q _ => ∃ rv tv rs ds, vs = [rv, tv] ∧ RulesAt H rv rs ∧ RulesOk rs ∧ ToldAt H tv ds ∧ ToldOk ds ∧ ∀ p H' xs kvs, H p = none → Same H H' → Lays rs ds H' p xs kvs ds.length → Q (.ref p) H'
def PvLay (rs : List Rule) (ds : Told) (rv tv : V) (L : Addr) (H : Hp) (i : Nat) (σ : L2.St) (H' : Hp) : Prop :=
  ∃ xs kvs x3 x4 x5 x6 x7 x8, σ = [some rv, some tv, some (.ref L), x3, x4, x5, x6, x7, x8] ∧ Same H H' ∧ H L = none ∧ Lays rs ds H' L xs kvs i
/-- while the items of the layer at d are gone through, the next one is made at M -/
structure LI (H1 : Hp) (d : Addr) (od : Obj) (kv : Rk) (M : Addr) (H' : Hp) (mo : Rk) : Prop where
  kp : ∀ b o, b ≠ d → H1 b = some o → H' b = some o
  h1 : H1 d = some (.dT (encR kv))
  nM : H1 M = none
  hd : H' d = some (.frz od (.dT (encR kv)))
  hM : H' M = some (.dT (encR mo))
theorem LI.same {H1 : Hp} {d : Addr} {od : Obj} {kv : Rk} {M : Addr} {H' H2 : Hp} {mo : Rk} (l : LI H1 d od kv M H' mo) (e : Same H' H2) : LI H1 d od kv M H2 mo := ⟨fun b o n h => e _ _ (l.kp b o n h), l.h1, l.nM, e _ _ l.hd, e _ _ l.hM⟩
theorem LI.ts {H1 : Hp} {d : Addr} {od : Obj} {kv : Rk} {M : Addr} {H' : Hp} {mo : Rk} (l : LI H1 d od kv M H' mo) : TS H1 H' := fun b xs h => l.kp b _ (fun z => by subst z; rw [l.h1] at h; cases h) h
theorem LI.put {H1 : Hp} {d : Addr} {od : Obj} {kv : Rk} {M : Addr} {H' : Hp} {mo mo' : Rk} (l : LI H1 d od kv M H' mo) {x : List (List Key × V)} (e : x = encR mo') : LI H1 d od kv M (upd H' M (.dT x)) mo' := by
  have ne : d ≠ M := fun z => by subst z; have := l.h1; rw [l.nM] at this; cases this
  refine ⟨fun b o n h => ?_, l.h1, l.nM, ?_, by rw [upd_same, e]⟩
  · rw [upd_ne (ne_of_none h l.nM)]; exact l.kp b o n h
  · rw [upd_ne ne]; exact l.hd
def PvI1 (rs : List Rule) (o : Option Int) (rv tv : V) (L : Addr) (x : V) (H1 : Hp) (d : Addr) (od : Obj) (kv : Rk) (M : Addr) (j : Nat) (σ : L2.St) (H' : Hp) : Prop :=
  ∃ mo y5 y6 y7 y8, σ = [some rv, some tv, some (.ref L), some x, some (.ref M), y5, y6, y7, y8] ∧ LI H1 d od kv M H' mo ∧ LayOk mo (leads rs o (kv.take j))
def partW (rs : List Rule) (o : Option Int) (e : Row × Nat) (l : Nat) : List Row := ((((waysOn rs e.1).take l).filter fun w => mt o w.1).map fun w => w.2).flatMap fun t => List.replicate e.2 t
def PvI2 (rs : List Rule) (o : Option Int) (rv tv : V) (L : Addr) (x : V) (q : V) (e : Row × Nat) (W : Addr) (ws : List V) (H1 : Hp) (d : Addr) (od : Obj) (kv : Rk) (M : Addr) (j l : Nat) (σ : L2.St) (H' : Hp) : Prop :=
  ∃ mo y7 y8, σ = [some rv, some tv, some (.ref L), some x, some (.ref M), some q, some (.int (e.2 : Nat)), y7, y8] ∧ LI H1 d od kv M H' mo ∧ LayOk mo (leads rs o (kv.take j) ++ partW rs o e l) ∧ H' W = some (.lst ws) ∧ Paired (WayAt H') ws (waysOn rs e.1)
theorem oV_mt (o : Option Int) (p : Int) : (oV o = .non ∧ mt o p = true) ∨ ∃ q, o = some q ∧ oV o = .int q ∧ mt o p = decide (q = p) := by
  cases o with
  | none => exact .inl ⟨rfl, rfl⟩
  | some q => exact .inr ⟨q, rfl, rfl, rfl⟩
theorem partW_step (rs : List Rule) (o : Option Int) (e : Row × Nat) (l : Nat) (w : Int × Row) (h : (waysOn rs e.1)[l]? = some w) : partW rs o e (l + 1) = partW rs o e l ++ (if mt o w.1 = true then List.replicate e.2 w.2 else []) := by
  unfold partW
  rw [filter_take (fun w : Int × Row => mt o w.1) _ l w h, List.map_append, List.flatMap_append]
  congr 1
  by_cases c : mt o w.1 = true
  · rw [if_pos c, if_pos c]; simp
  · rw [if_neg c, if_neg c]; rfl
theorem nx_ok {rs : List Rule} (ok : RulesOk rs) {o : Option Int} {t u : Row} (h : TailOk rs t) (m : u ∈ nx rs o t) : TailOk rs u := by
  obtain ⟨w, hw, rfl⟩ := List.mem_map.mp m
  obtain ⟨h1, _⟩ := List.mem_filter.mp hw
  obtain ⟨a, b, c⟩ := mem_ways.mp h1
  rw [c]; exact nextTail_ok ok h a
theorem leads_ok {rs : List Rule} (ok : RulesOk rs) {o : Option Int} {kv : Rk} (h : ∀ t ∈ ks kv, TailOk rs t) : ∀ u ∈ leads rs o kv, TailOk rs u := fun u hu => by
  obtain ⟨e, he, hu⟩ := List.mem_flatMap.mp hu
  obtain ⟨t, ht, hu⟩ := List.mem_flatMap.mp hu
  rw [(List.mem_replicate.mp hu).2]
  exact nx_ok ok (h _ (List.mem_map.mpr ⟨e, he, rfl⟩)) ht
theorem partW_ok {rs : List Rule} (ok : RulesOk rs) {o : Option Int} {e : Row × Nat} {l : Nat} (h : TailOk rs e.1) : ∀ u ∈ partW rs o e l, TailOk rs u := fun u hu => by
  obtain ⟨t, ht, hu⟩ := List.mem_flatMap.mp hu
  rw [(List.mem_replicate.mp hu).2]
  obtain ⟨w, hw, rfl⟩ := List.mem_map.mp ht
  obtain ⟨h1, _⟩ := List.mem_filter.mp hw
  obtain ⟨a, b, c⟩ := mem_ways.mp (List.mem_of_mem_take h1)
  rw [c]; exact nextTail_ok ok h a
theorem ix_last {α : Type} {xs : List α} {i : Nat} {v : α} (hl : xs.length = i + 1) (h : xs[i]? = some v) : atI xs (-1) = some v := by
  show (ixN xs.length (-1)).bind _ = _
  have : ixN xs.length (-1) = some i := by
    unfold ixN
    rw [if_neg (by decide), if_pos (by omega)]
    congr 1; omega
  rw [this]
  exact h
theorem ok_layers_of (Dd : Dn K mg "layers_of" S_layers_of) (C_ways_on : Cl P w K mg base 2 "ways_on" spWays) : Cl P w K mg base 3 "layers_of" spLayers := by
  refine Dd.ok sc_layers_of (fun vs H Q E h => ?_) (fun _ _ _ _ _ _ us hl => match us, hl with | [_, _], _ => rfl) (fun f cdv A outer s H vs Q E hr h => ?_)
  · obtain ⟨rv, tv, rs, ds, rfl, _⟩ := h; rfl
  · obtain ⟨rv, tv, rs, ds, rfl, hR, ok, ⟨a, rfl, ha⟩, tok, k⟩ := h
    have nd := sc_layers_of.nd
    have hu := hu_of hr
    have hr_ways_on := hr
    refine ⟨_, (pss_cons (ps_set (i := 2) nd rfl (Or.inl rfl) (pe_lst (pa_cons (pe_disp1T hr.units (pe_tup pa_nil) pe_int) pa_nil)))
    (pss_cons (ps_for PassesOwn.never rfl (pi_tup (pv 1)) (pg_name (i := 3) nd rfl (Or.inl rfl))
    (pss_cons (ps_set (i := 4) nd rfl (Or.inl rfl) pe_dnewT)
    (pss_cons (ps_lock (ps_for PassesOwn.never rfl (pi_itemsT (pe_ix ix_list (pv 2) (pe_un un_neg pe_int) (fun _ _ => rfl))) (pg_tup rfl (pgs_cons (pg_name (i := 5) nd rfl (Or.inl rfl)) (pgs_cons (pg_name (i := 6) nd rfl (Or.inl rfl)) pgs_nil)))
    (pss_one (ps_for PassesOwn.never rfl (pi_list (pe_callC C_ways_on hr_ways_on rfl (pa_cons (pv 0) (pa_cons (pv 5) pa_nil)))) (pg_tup rfl (pgs_cons (pg_name (i := 7) nd rfl (Or.inl rfl)) (pgs_cons (pg_name (i := 8) nd rfl (Or.inl rfl)) pgs_nil)))
    (pss_one (ps_if (PW.pt (pw_or (pt_cmpR op_isN (pv 3) pe_non (nomark _)) (pw_or1 (pt_cmpR op_eq (pv 3) (pv 7) (nomark _)))))
    (pss_one (ps_dput hu (pv 4) (pv 8) (pe_op op_add (pe_dget2 hu (pv 4) (pv 8) pe_int ⟨rfl, rfl, rfl, rfl⟩) (pv 6)) rfl))
    pss_nil))))))
    (pss_one (ps_expr (pe_bm PySem.F.plainAttrs_list PySem.F.slot_list_append PySem.F.type_list_append mt_append (pv 2) (pa_cons (pv 4) pa_nil)))))))
    (pss_one (ps_ret (pv 2))))), ?_⟩
    refine fun D hD => ⟨sz (by show 0 ≤ 100000; decide), fun c hc => ⟨c, [], rfl, upd_same, ?_, sz (by show 1 ≤ 100000; decide), fun L hL => ?_⟩⟩
    · rw [upd_ne (ne_of_none upd_same hc)]; exact upd_same
    · have s3 : Same H (upd (upd (upd H D (.dT [])) c (.tup [])) D (.dT [([], .int 1)])) := fun b o e => by rw [upd_ne (ne_of_none e hD)]; exact ((Same.new hD).trans (Same.new hc)) _ _ e
      have s4 := s3.trans (Same.new (o := .lst [.ref D]) hL)
      have nDL : D ≠ L := fun z => by subst z; rw [upd_same] at hL; cases hL
      refine ⟨_, rfl, a, rfl, ⟨_, SqT.of (s4 _ _ ha)⟩, for_tup (xs := ds.map oV) (PvLay rs ds rv (.ref a) L H) ⟨[.ref D], [[([], 1)]], none, none, none, none, none, none, rfl, s4, s3.free hL, ⟨upd_same, .cons ⟨D, rfl, ?_⟩ .nil, rfl, fun i kv h => ?_⟩⟩ (fun i σ H' _ ⟨_, _, _, _, _, _, _, _, _, sm, _⟩ => SqT.of (sm _ _ ha)) ?_ ?_⟩
      · rw [upd_ne nDL]; exact upd_same
      · match i, h with
        | 0, h => cases h; exact LayOk.start
        | i + 1, h => simp at h
      · rintro i x σ H1 hi ⟨xs, kvs, x3, x4, x5, x6, x7, x8, rfl, sm, nL, ly⟩
        obtain ⟨o, ho, rfl⟩ : ∃ o, ds[i]? = some o ∧ x = oV o := by
          rw [List.getElem?_map] at hi
          obtain ⟨p, hp, e⟩ := Option.map_eq_some_iff.mp hi
          exact ⟨p, hp, e.symm⟩
        refine fun M hM => ?_
        have hkl : i < kvs.length := by rw [ly.len]; exact Nat.lt_succ_self _
        obtain ⟨v, hv, d, rfl, hd⟩ := Paired.get' ly.pr (List.getElem?_eq_getElem hkl)
        have lok := ly.ok i _ (List.getElem?_eq_getElem hkl)
        have hkv : kvs[i]? = some kvs[i] := List.getElem?_eq_getElem hkl
        revert hd lok hkv
        generalize kvs[i] = kv
        intro hd lok hkv
        have ttk : ∀ t ∈ tails rs (ds.take i), TailOk rs t := tails_ok ok _
        have few := lok.few ok ttk
        have sM : Same H1 (upd H1 M (.dT [])) := Same.new hM
        have ndM : d ≠ M := fun z => by subst z; rw [hd] at hM; cases hM
        have nLM : L ≠ M := fun z => by subst z; rw [ly.hL] at hM; cases hM
        have nLd : L ≠ d := fun z => by subst z; have := ly.hL; rw [hd] at this; cases this
        refine ⟨d, _, sM _ _ hd, trivial, fun od => ?_⟩
        have li0 : LI H1 d od kv M (upd (upd H1 M (.dT [])) d (.frz od (.dT (encR kv)))) [] := ⟨fun b o n e => by rw [upd_ne n]; exact sM _ _ e, hd, hM, upd_same, by rw [upd_ne (Ne.symm ndM)]; exact upd_same⟩
        refine ⟨_, rfl, _, rfl, L, xs, -1, .ref d, rfl, rfl, SqL.of (li0.kp _ _ nLd ly.hL), ix_last (i := i) (by rw [Paired.len ly.pr, ly.len]) hv, d, od, encR kv, rfl, upd_same, for_it walk_itemsT (PvI1 rs o rv (.ref a) L (oV o) H1 d od kv M) ⟨[], _, _, _, _, rfl, li0, LayOk.empty⟩ (fun j σ H2 _ ⟨_, _, _, _, _, _, h, _⟩ => h.hd) ?_ ?_⟩
        · rintro j y σ H2 H3 hj ⟨mo, y5, y6, y7, y8, rfl, li, lo⟩ ⟨T, q, kk, v, hkv', rfl, nT, hq, rfl⟩
          obtain ⟨e, he, hke⟩ : ∃ e, kv[j]? = some e ∧ (key e.1, V.int (e.2 : Nat)) = (kk, v) := by
            unfold encR at hkv'
            rw [List.getElem?_map] at hkv'
            exact Option.map_eq_some_iff.mp hkv'
          injection hke with e1 e2
          subst e1 e2
          have hem := List.mem_of_getElem? he
          have sT : Same H2 (upd H2 T (.tup [.ref q, .int (e.2 : Nat)])) := Same.new nT
          have liT := li.same sT
          have hqT := sT _ _ hq
          rw [key_map] at hqT
          have et : TailOk rs e.1 := ttk _ ((lok.key _).mp (List.mem_map.mpr ⟨e, hem, rfl⟩))
          refine ⟨T, _, rfl, SqT.of upd_same, rfl, _, _, rfl, _, _, rfl, rfl, ?_⟩
          have hR2 := RulesAt.mono ((TS.of sm).trans liT.ts) hR
          refine ⟨_, rfl, _, rfl, rv, .ref q, rs, e.1, rfl, hR2, ok, ⟨q, rfl, hqT⟩, by have := et.2; have := ok.wide; omega, fun W H3 ws nW s3 hW pw => ?_⟩
          have li3 := liT.same s3
          refine ⟨W, rfl, ⟨_, SqL.of hW⟩, for_list (xs := ws) (PvI2 rs o rv (.ref a) L (oV o) (.ref q) e W ws H1 d od kv M j) ⟨mo, _, _, rfl, li3, by rw [show partW rs o e 0 = [] from rfl, List.append_nil]; exact lo, hW, pw⟩ (fun l σ H2 _ ⟨_, _, _, _, _, _, h, _⟩ => SqL.of h) ?_ ?_⟩
          · rintro l y σ H4 hl ⟨mo, y7, y8, rfl, li4, lo4, hW4, pw4⟩
            obtain ⟨wy, hwy, a', b', rfl, ha', hb'⟩ := Paired.get pw4 hl
            have stp := partW_step rs o e l wy hwy
            refine ⟨a', _, rfl, SqT.of ha', rfl, _, _, rfl, _, _, rfl, rfl, ?_⟩
            have go : mt o wy.1 = true → PvI2 rs o rv (.ref a) L (oV o) (.ref q) e W ws H1 d od kv M j (l + 1) [some rv, some (.ref a), some (.ref L), some (oV o), some (.ref M), some (.ref q), some (.int (e.2 : Nat)), some (.int wy.1), some (.ref b')]
                (upd H4 M (.dT (putK (encR mo) (key wy.2) (.int (((if wy.2 ∈ ks mo then rkOf mo wy.2 else 0) + e.2 : Nat) : Int))))) := fun hm => by
              have tM : LTS H4 (upd H4 M (.dT (putK (encR mo) (key wy.2) (.int (((if wy.2 ∈ ks mo then rkOf mo wy.2 else 0) + e.2 : Nat) : Int))))) := LTS.dT li4.hM
              refine ⟨addT mo wy.2 e.2, _, _, rfl, li4.put (enc_add lo4.nd _ _), ?_, tM _ _ (.inl ⟨_, rfl⟩) hW4, Paired.mp pw4 fun _ _ z => WayAt.mono tM.ts z⟩
              rw [stp, if_pos hm, ← List.append_assoc]
              exact lo4.add _ _ (lok.pos e hem)
            have stay : mt o wy.1 = false → PvI2 rs o rv (.ref a) L (oV o) (.ref q) e W ws H1 d od kv M j (l + 1) [some rv, some (.ref a), some (.ref L), some (oV o), some (.ref M), some (.ref q), some (.int (e.2 : Nat)), some (.int wy.1), some (.ref b')] H4 := fun hm =>
              ⟨mo, _, _, rfl, li4, by rw [stp, hm, if_neg Bool.false_ne_true, List.append_nil]; exact lo4, hW4, pw4⟩
            have fewm : mo.length ≤ 255 := lo4.few ok fun u hu => by
              rcases List.mem_append.mp hu with z | z
              · refine leads_ok ok (fun t ht => ttk t ((lok.key t).mp ?_)) u z
                obtain ⟨x, hx, rfl⟩ := List.mem_map.mp ht
                exact List.mem_map.mpr ⟨x, List.mem_of_mem_take hx, rfl⟩
              · exact partW_ok ok et u z
            have hkey : H4 b' = some (.tup ((key wy.2).map kV)) := by rw [key_map]; exact hb'
            have put : mt o wy.1 = true → ∃ Mx Hx, (∃ (o' : Option V), DGet H4 M (.ref b') o' ∧ ∃ i j : Int, o'.getD (.int 0) = .int i ∧ V.int (e.2 : Nat) = .int j ∧ Mx = V.int (i + j) ∧ DPut H4 M (.ref b') Mx Hx) ∧ PvI2 rs o rv (.ref a) L (oV o) (.ref q) e W ws H1 d od kv M j (l + 1) [some rv, some (.ref a), some (.ref L), some (oV o), some (.ref M), some (.ref q), some (.int (e.2 : Nat)), some (.int wy.1), some (.ref b')] Hx := fun hm => by
              refine ⟨_, _, ⟨_, DGet.t (k := key wy.2) li4.hM hkey, ((if wy.2 ∈ ks mo then rkOf mo wy.2 else 0 : Nat) : Int), ((e.2 : Nat) : Int), ?_, rfl, rfl, DPut.t (k := key wy.2) li4.hM hkey (szl (by unfold encR; rw [List.length_map]; omega))⟩, go hm⟩
              by_cases c : wy.2 ∈ ks mo
              · rw [encR_some c, if_pos c]; rfl
              · rw [encR_none c, if_neg c]; rfl
            have give : mt o wy.1 = true → sDPut (tVar 4) (tVar 8) (tOp (rI0 fun i j => .int (i + j)) (tDGet2 (tVar 4) (tVar 8) (tC (.int 0))) (tVar 6)) { nx := PvI2 rs o rv (.ref a) L (oV o) (.ref q) e W ws H1 d od kv M j (l + 1), rt := fun _ _ => False, bk := fun _ _ => False, ct := fun _ _ => False }
                [some rv, some (.ref a), some (.ref L), some (oV o), some (.ref M), some (.ref q), some (.int (e.2 : Nat)), some (.int wy.1), some (.ref b')] H4 := fun hm => by
              obtain ⟨Mx, Hx, ⟨o', g1, i', j', g2, g3, rfl, g4⟩, g5⟩ := put hm
              exact ⟨_, rfl, M, rfl, .inr ⟨_, .inl li4.hM⟩, _, rfl, o', g1, _, rfl, i', j', g2, g3, _, rfl, _, rfl, M, _, rfl, g4, g5⟩
            rcases oV_mt o wy.1 with ⟨e1, e2⟩ | ⟨q', e0, e1, e2⟩
            · refine ⟨_, rfl, rfl, _, rfl, ?_⟩
              rw [e1, decide_eq_true rfl]
              refine iteT ?_
              rw [← e1]
              exact give e2
            · refine ⟨_, rfl, rfl, _, rfl, ?_⟩
              rw [e1, decide_eq_false (fun z => nomatch z)]
              refine iteF ?_
              refine ⟨_, rfl, _, rfl, rfl, _, rfl, ?_⟩
              rw [dec_int]
              by_cases c : q' = wy.1
              · rw [show (q' == wy.1) = true by simpa using c]
                refine iteT ?_
                rw [← e1]
                exact give (by rw [e2]; exact decide_eq_true c)
              · rw [show (q' == wy.1) = false by simpa using c]
                refine iteF ?_
                rw [← e1]
                exact stay (by rw [e2]; exact decide_eq_false c)
          · rintro σ H4 ⟨mo, y7, y8, rfl, li4, lo4, hW4, pw4⟩
            refine ⟨mo, _, _, _, _, rfl, li4, ?_⟩
            have el : leads rs o (kv.take (j + 1)) = leads rs o (kv.take j) ++ partW rs o e ws.length := by
              rw [List.take_add_one, he]
              unfold leads partW nx
              rw [List.flatMap_append, Paired.len pw4, List.take_of_length_le (Nat.le_refl _)]
              simp
            rw [el]; exact lo4
        · rintro σ H2 ⟨mo, y5, y6, y7, y8, rfl, li, lo⟩
          refine ⟨li.hd, ?_⟩
          have hL2 : (upd H2 d (.dT (encR kv))) L = some (.lst xs) := by rw [upd_ne nLd]; exact li.kp _ _ nLd ly.hL
          have sH : Same H1 (upd H2 d (.dT (encR kv))) := fun b o' e => by
            by_cases q : b = d
            · subst q; rw [hd] at e; cases e; exact upd_same
            · rw [upd_ne q]; exact li.kp b o' q e
          refine ⟨_, rfl, .inl ⟨rfl, _, SqL.of hL2⟩, _, rfl, L, xs, _, rfl, rfl, hL2, szl (by rw [Paired.len ly.pr, ly.len]; have := tok.len; have := (List.getElem?_eq_some_iff.mp ho).1; omega), ?_⟩
          have tL : ∀ b kv', (upd H2 d (.dT (encR kv))) b = some (.dT (encR kv')) → (upd (upd H2 d (.dT (encR kv))) L (.lst (xs ++ [.ref M]))) b = some (.dT (encR kv')) := fun b kv' e => by
            rw [upd_ne (fun z => by subst z; rw [hL2] at e; cases e)]; exact e
          refine ⟨xs ++ [.ref M], kvs ++ [mo], _, _, _, _, _, _, rfl, fun b o' e => ?_, nL, ⟨upd_same, Paired.snoc1 (Paired.mp ly.pr fun _ _ ⟨d', e1, e2⟩ => ⟨d', e1, tL _ _ (sH _ _ e2)⟩) ⟨M, rfl, tL _ _ (by rw [upd_ne (Ne.symm ndM)]; exact li.hM)⟩, by rw [List.length_append, ly.len]; rfl, fun z kv' h => ?_⟩⟩
          · rw [upd_ne (ne_of_none e nL)]; exact sH _ _ (sm _ _ e)
          · rcases Nat.lt_or_ge z kvs.length with c | c
            · rw [List.getElem?_append_left c] at h; exact ly.ok z kv' h
            · have zl : z = kvs.length := by have := (List.getElem?_eq_some_iff.mp h).1; rw [List.length_append, List.length_singleton] at this; omega
              subst zl
              rw [List.getElem?_append_right (Nat.le_refl _), Nat.sub_self] at h
              cases h
              rw [ly.len, List.take_add_one, ho]
              show LayOk mo (tails rs (ds.take i ++ [o]))
              rw [tails_snoc]
              refine lok.next ?_
              have el : kv.take (encR kv).length = kv := by unfold encR; rw [List.length_map]; exact List.take_of_length_le (Nat.le_refl _)
              rw [el] at lo; exact lo
      · rintro σ H1 ⟨xs, kvs, x3, x4, x5, x6, x7, x8, rfl, sm, nL, ly⟩
        rw [List.length_map] at ly
        exact ⟨_, rfl, k L H1 xs kvs nL sm ly⟩
end
end An
-- imports: G1
/-! ### G2: how_many -/
namespace An
open PySem L2
section
variable {P : Program} {w : World} {K : PySem.W.Frag} {mg : Str → Option Value} {base : Heap}
def N_how_many : List Str := ["rules", "told"]
theorem sc_how_many : FnScope N_how_many ["rules", "told"] (defScope S_how_many) := ⟨rfl, rfl, rfl, by decide +kernel, rfl, by decide +kernel, by decide +kernel⟩
def spMany : Sp := fun vs H Q _ => ∃ rv tv rs ds, vs = [rv, tv] ∧ RulesAt H rv rs ∧ RulesOk rs ∧ ToldAt H tv ds ∧ ToldOk ds ∧ ∀ H', Same H H' → Q (.int (manyT rs ds : Nat)) H'
theorem Lays.last {rs : List Rule} {ds : Told} {H : Hp} {L : Addr} {xs : List V} {kvs : List Rk} (ly : Lays rs ds H L xs kvs ds.length) : ∃ d kv, atI xs (-1) = some (.ref d) ∧ H d = some (.dT (encR kv)) ∧ kvs[ds.length]? = some kv ∧ LayOk kv (tails rs ds) := by
  have hkl : ds.length < kvs.length := by rw [ly.len]; exact Nat.lt_succ_self _
  obtain ⟨v, hv, d, rfl, hd⟩ := Paired.get' ly.pr (List.getElem?_eq_getElem hkl)
  have lok := ly.ok _ _ (List.getElem?_eq_getElem hkl)
  rw [List.take_of_length_le (Nat.le_refl _)] at lok
  exact ⟨d, _, ix_last (i := ds.length) (by rw [Paired.len ly.pr, ly.len]) hv, hd, List.getElem?_eq_getElem hkl, lok⟩
theorem ok_how_many (D : Dn K mg "how_many" S_how_many) (bf : Bf mg) (C_need_both : Cl P w K mg base 5 "need_both" spBoth) (C_layers_of : Cl P w K mg base 3 "layers_of" spLayers) : Cl P w K mg base 6 "how_many" spMany := by
  refine D.ok sc_how_many (fun vs H Q E h => ?_) (fun _ _ _ _ _ _ us hl => match us, hl with | [_, _], _ => rfl) (fun f cdv A outer s H vs Q E hr h => ?_)
  · obtain ⟨rv, tv, rs, ds, rfl, _⟩ := h; rfl
  · obtain ⟨rv, tv, rs, ds, rfl, hR, ok, hT, tok, k⟩ := h
    have nd := sc_how_many.nd
    have hr_need_both := hr
    have hr_layers_of := hr.mono (show 3 ≤ 5 by decide)
    refine ⟨_, (pss_cons (ps_expr (pe_callC C_need_both hr_need_both rfl (pa_cons (pv 0) (pa_cons (pv 1) pa_nil))))
    (pss_one (ps_ret (pe_sumVals rfl rfl bf.sum (pe_ix ix_list (pe_callC C_layers_of hr_layers_of rfl (pa_cons (pv 0) (pa_cons (pv 1) pa_nil))) (pe_un un_neg pe_int) (fun _ _ => rfl)))))), ?_⟩
    refine ⟨_, rfl, _, rfl, rv, tv, rs, ds, rfl, hR, ok, hT, tok, fun H1 s1 => ?_⟩
    refine ⟨_, rfl, _, rfl, rv, tv, rs, ds, rfl, RulesAt.mono (TS.of s1) hR, ok, ToldAt.mono (TS.of s1) hT, tok, fun L H2 xs kvs nL s2 ly => ?_⟩
    obtain ⟨d, kv, hx, hd, _, lok⟩ := ly.last
    refine ⟨_, rfl, L, xs, -1, .ref d, rfl, rfl, SqL.of ly.hL, hx, d, encR kv, kv.map fun e => ((e.2 : Nat) : Int), rfl, .inl hd, ?_, ?_⟩
    · unfold encR; rw [List.map_map, List.map_map]; rfl
    · rw [sum_spread, lok.spread.length_eq, tails_len ok]
      exact k _ (s1.trans s2)
end
end An
-- imports: MT B6
/-! ### MW: the first filling, in plain Lean; hashes of last places -/
namespace An
open PySem L2
/-! #### no two last places hash alike -/
def hashI (t : Row) : Int := reduceHash (Builtin.Tuple.tupleHashOf (t.map hashInt))
theorem hash_key (P : Program) (w : World) (t : Row) : (tupleKind (mixKind P w)).hash (key t) = hashI t := by
  show reduceHash (Builtin.Tuple.tupleHashOf ((key t).map (keyH w))) = _
  unfold hashI key
  rw [List.map_map]; rfl
theorem hash_apart : (allTails.map hashI).Nodup := by decide +kernel
theorem inj_of_nodup_map {α β : Type} {f : α → β} : ∀ {l : List α}, (l.map f).Nodup → ∀ a ∈ l, ∀ b ∈ l, f a = f b → a = b
  | [], _, _, h, _, _, _ => by cases h
  | x :: l, h, a, ha, b, hb, e => by
    rw [List.map_cons] at h
    obtain ⟨h1, h2⟩ := List.nodup_cons.mp h
    rcases List.mem_cons.mp ha with e1 | ha2
    · rcases List.mem_cons.mp hb with e2 | hb2
      · rw [e1, e2]
      · exact absurd (List.mem_map.mpr ⟨b, hb2, by rw [← e, e1]⟩) h1
    · rcases List.mem_cons.mp hb with e2 | hb2
      · exact absurd (List.mem_map.mpr ⟨a, ha2, by rw [e, e2]⟩) h1
      · exact inj_of_nodup_map h2 a ha2 b hb2 e
theorem hashes_nodup {kv : Rk} (nd : (ks kv).Nodup) (h : ∀ t ∈ ks kv, t ∈ allTails) (P : Program) (w : World) : ((encR kv).map fun p => (tupleKind (mixKind P w)).hash p.1).Nodup := by
  have e : ((encR kv).map fun p => (tupleKind (mixKind P w)).hash p.1) = (ks kv).map hashI := by
    unfold encR ks
    rw [List.map_map, List.map_map]
    refine List.map_congr_left fun e _ => hash_key P w e.1
  rw [e]
  have : ∀ l : List Row, l.Nodup → (∀ t ∈ l, t ∈ allTails) → (l.map hashI).Nodup := fun l => by
    induction l with
    | nil => intro _ _; exact List.nodup_nil
    | cons x l ih =>
      intro hn hm
      obtain ⟨n1, n2⟩ := List.nodup_cons.mp hn
      rw [List.map_cons]
      refine List.nodup_cons.mpr ⟨fun m => ?_, ih n2 fun t ht => hm t (List.mem_cons_of_mem _ ht)⟩
      obtain ⟨y, hy, e⟩ := List.mem_map.mp m
      have := inj_of_nodup_map hash_apart y (hm y (List.mem_cons_of_mem _ hy)) x (hm x List.mem_cons_self) e
      exact n1 (this ▸ hy)
  exact this _ nd h
/-! #### whether the rest can be filled, the first way to -/
def canT (rs : List Rule) : Told → Row → Bool
  | [], _ => true
  | o :: ds, t => (waysOn rs t).any fun e => mt o e.1 && canT rs ds e.2
def wayT (rs : List Rule) (o : Option Int) (ds : Told) (t : Row) : Option (Int × Row) := (waysOn rs t).find? fun e => mt o e.1 && canT rs ds e.2
def firstT (rs : List Rule) : Told → Row → Row
  | [], _ => []
  | o :: ds, t => match wayT rs o ds t with
    | some e => e.1 :: firstT rs ds e.2
    | none => []
theorem canT_way {rs : List Rule} {o : Option Int} {ds : Told} {t : Row} : canT rs (o :: ds) t = (wayT rs o ds t).isSome := by
  show (waysOn rs t).any _ = _
  unfold wayT
  rw [Bool.eq_iff_iff, List.any_eq_true, List.find?_isSome]
/-- the rest can be filled just where some row fills it -/
theorem canT_iff {rs : List Rule} (ok : RulesOk rs) : ∀ (ds : Told) (u : Row), canT rs ds (tl (wd rs) u) = true ↔ ∃ w : Row, w.length = ds.length ∧ (∀ x ∈ w, x = 0 ∨ x = 1) ∧ (∀ j, j < w.length → fits rs (u ++ w.take (j + 1)) = true) ∧ ∀ (i : Nat) (o : Option Int) (p : Int), ds[i]? = some o → w[i]? = some p → mt o p = true
  | [], u => ⟨fun _ => ⟨[], rfl, fun x h => (by cases h), fun j h => absurd h (Nat.not_lt_zero _), fun i o p h => by simp at h⟩, fun _ => rfl⟩
  | o :: ds, u => by
    constructor
    · intro h
      obtain ⟨e, he, h2⟩ := List.any_eq_true.mp h
      obtain ⟨h3, h4⟩ := Bool.and_eq_true_iff.mp h2
      obtain ⟨m1, m2, m3⟩ := mem_ways.mp he
      rw [m3, ← tl_snoc ok.wide.1] at h4
      obtain ⟨w, a1, a2, a3, a4⟩ := (canT_iff ok ds (u ++ [e.1])).mp h4
      refine ⟨e.1 :: w, by rw [List.length_cons, List.length_cons, a1], fun x hx => ?_, fun j hj => ?_, fun i o' p g1 g2 => ?_⟩
      · rcases List.mem_cons.mp hx with rfl | hx
        · exact m1
        · exact a2 x hx
      · match j, hj with
        | 0, _ => show fits rs (u ++ [e.1]) = true; rw [fits_snoc ok]; exact m2
        | j + 1, hj =>
          have q := a3 j (by rw [List.length_cons] at hj; omega)
          rw [List.append_assoc] at q; exact q
      · match i, g1, g2 with
        | 0, g1, g2 => cases g1; cases g2; exact h3
        | i + 1, g1, g2 => exact a4 i o' p (by simpa using g1) (by simpa using g2)
    · rintro ⟨w, a1, a2, a3, a4⟩
      match w, a1, a2, a3, a4 with
      | p :: w, a1, a2, a3, a4 =>
        have hp := a2 p List.mem_cons_self
        have hf : freeP rs (tl (wd rs) u) p = true := by
          have := a3 0 (by rw [List.length_cons]; omega)
          rw [← fits_snoc ok]; exact this
        refine List.any_eq_true.mpr ⟨(p, nextTail (wd rs) (tl (wd rs) u) p), mem_ways.mpr ⟨hp, hf, rfl⟩, ?_⟩
        have h1 := a4 0 o p rfl rfl
        have h2 : canT rs ds (nextTail (wd rs) (tl (wd rs) u) p) = true := by
          rw [← tl_snoc ok.wide.1]
          refine (canT_iff ok ds (u ++ [p])).mpr ⟨w, by simpa using a1, fun x hx => a2 x (List.mem_cons_of_mem _ hx), fun j hj => ?_, fun i o' p' g1 g2 => a4 (i + 1) o' p' (by simpa using g1) (by simpa using g2)⟩
          have := a3 (j + 1) (by rw [List.length_cons]; omega)
          rw [List.append_assoc]; exact this
        show (mt o p && canT rs ds _) = true
        rw [h1, h2]; rfl
theorem firstT_ok {rs : List Rule} (ok : RulesOk rs) : ∀ (ds : Told) (u : Row), Fine rs u → canT rs ds (tl (wd rs) u) = true →
    Fine rs (u ++ firstT rs ds (tl (wd rs) u)) ∧ (firstT rs ds (tl (wd rs) u)).length = ds.length ∧ ∀ (i : Nat) (o : Option Int) (p : Int), ds[i]? = some o → (firstT rs ds (tl (wd rs) u))[i]? = some p → mt o p = true
  | [], u, f, _ => ⟨by show Fine rs (u ++ []); rw [List.append_nil]; exact f, rfl, fun i o p h => by simp at h⟩
  | o :: ds, u, f, h => by
    rw [canT_way] at h
    obtain ⟨e, he⟩ := Option.isSome_iff_exists.mp h
    have hm := List.mem_of_find?_eq_some he
    have hc := List.find?_some he
    obtain ⟨h3, h4⟩ := Bool.and_eq_true_iff.mp hc
    obtain ⟨m1, m2, m3⟩ := mem_ways.mp hm
    have et : e.2 = tl (wd rs) (u ++ [e.1]) := by rw [m3, tl_snoc ok.wide.1]
    rw [et] at h4
    have f2 : Fine rs (u ++ [e.1]) := f.snoc m1 (by rw [fits_snoc ok]; exact m2)
    obtain ⟨g1, g2, g3⟩ := firstT_ok ok ds (u ++ [e.1]) f2 h4
    have ef : firstT rs (o :: ds) (tl (wd rs) u) = e.1 :: firstT rs ds (tl (wd rs) (u ++ [e.1])) := by
      show (match wayT rs o ds (tl (wd rs) u) with | some e => e.1 :: firstT rs ds e.2 | none => []) = _
      rw [he, ← et]
    rw [ef]
    refine ⟨by rw [List.append_assoc] at g1; exact g1, by rw [List.length_cons, List.length_cons, g2], fun i o' p k1 k2 => ?_⟩
    match i, k1, k2 with
    | 0, k1, k2 => cases k1; cases k2; exact h3
    | i + 1, k1, k2 => exact g3 i o' p (by simpa using k1) (by simpa using k2)
/-- the first filling: a mark at a place that is not told stands there because no row with the same places before, and none there, can be filled on -/
theorem firstT_least {rs : List Rule} (ok : RulesOk rs) : ∀ (ds : Told) (u : Row), Fine rs u → canT rs ds (tl (wd rs) u) = true → ∀ i, ds[i]? = some none → (firstT rs ds (tl (wd rs) u))[i]? = some 1 →
    ∀ w, Fine rs (u ++ (firstT rs ds (tl (wd rs) u)).take i ++ [0] ++ w) → w.length = ds.length - (i + 1) → (∀ (j : Nat) (o : Option Int) (p : Int), (ds.drop (i + 1))[j]? = some o → w[j]? = some p → mt o p = true) → False
  | [], u, _, _, i, hi, _, _, _, _, _ => by simp at hi
  | o :: ds, u, f, h, i, hi, h1, w, fw, lw, tw => by
    rw [canT_way] at h
    obtain ⟨e, he⟩ := Option.isSome_iff_exists.mp h
    have hm := List.mem_of_find?_eq_some he
    have hc := List.find?_some he
    obtain ⟨h3, h4⟩ := Bool.and_eq_true_iff.mp hc
    obtain ⟨m1, m2, m3⟩ := mem_ways.mp hm
    have et : e.2 = tl (wd rs) (u ++ [e.1]) := by rw [m3, tl_snoc ok.wide.1]
    have f2 : Fine rs (u ++ [e.1]) := f.snoc m1 (by rw [fits_snoc ok]; exact m2)
    have ef : firstT rs (o :: ds) (tl (wd rs) u) = e.1 :: firstT rs ds (tl (wd rs) (u ++ [e.1])) := by
      show (match wayT rs o ds (tl (wd rs) u) with | some e => e.1 :: firstT rs ds e.2 | none => []) = _
      rw [he, ← et]
    rw [ef] at h1 fw
    match i, hi, h1, fw, lw, tw with
    | 0, hi, h1, fw, lw, tw =>
      cases hi
      have e1 : e.1 = 1 := by simpa using h1
      have fw : Fine rs (u ++ [0] ++ w) := by simpa using fw
      have c0 : canT rs ds (tl (wd rs) (u ++ [0])) = true := (canT_iff ok ds (u ++ [0])).mpr ⟨w, by simpa using lw, fun x hx => fw.bits x (List.mem_append_right _ hx), fun j hj => ?_, fun j o p g1 g2 => tw j o p (by simpa using g1) g2⟩
      · have hf0 : freeP rs (tl (wd rs) u) 0 = true := by
          have := fw.fit u.length (by rw [List.length_append, List.length_append, List.length_singleton]; omega)
          rw [List.take_append_of_le_length (by rw [List.length_append, List.length_singleton]; omega), List.take_of_length_le (by rw [List.length_append, List.length_singleton]; omega)] at this
          rw [← fits_snoc ok]; exact this
        have hw0 : waysOn rs (tl (wd rs) u) = (0, nextTail (wd rs) (tl (wd rs) u) 0) :: (if freeP rs (tl (wd rs) u) 1 = true then [(1, nextTail (wd rs) (tl (wd rs) u) 1)] else []) := by
          unfold waysOn
          rw [List.filter_cons_of_pos hf0]
          by_cases c : freeP rs (tl (wd rs) u) 1 = true
          · rw [List.filter_cons_of_pos c, if_pos c]; rfl
          · rw [List.filter_cons_of_neg c, if_neg c]; rfl
        have : wayT rs none ds (tl (wd rs) u) = some (0, nextTail (wd rs) (tl (wd rs) u) 0) := by
          unfold wayT
          rw [hw0, List.find?_cons_of_pos]
          show (true && canT rs ds (nextTail (wd rs) (tl (wd rs) u) 0)) = true
          rw [← tl_snoc ok.wide.1, c0]; rfl
        rw [this] at he
        cases he
        cases e1
      · have := fw.fit (u.length + 1 + j) (by rw [List.length_append, List.length_append, List.length_singleton]; omega)
        rw [List.take_append, List.take_of_length_le (by rw [List.length_append, List.length_singleton]; omega)] at this
        rw [List.length_append, List.length_singleton, show u.length + 1 + j + 1 - (u.length + 1) = j + 1 by omega] at this
        exact this
    | i + 1, hi, h1, fw, lw, tw =>
      refine firstT_least ok ds (u ++ [e.1]) f2 (by rw [← et]; exact h4) i (by simpa using hi) (by simpa using h1) w ?_ (by simpa using lw) (by simpa using tw)
      rw [List.take_succ_cons] at fw
      simpa using fw
theorem canT_many {rs : List Rule} (ok : RulesOk rs) (ds : Told) : canT rs ds [] = true ↔ manyT rs ds ≠ 0 := by
  have e : ([] : Row) = tl (wd rs) [] := tl_nil.symm
  unfold manyT
  constructor
  · intro h z
    have hc : canT rs ds (tl (wd rs) []) = true := by rw [← e]; exact h
    obtain ⟨g1, g2, g3⟩ := firstT_ok ok ds [] Fine.nil hc
    have : firstT rs ds (tl (wd rs) []) ∈ rowsT rs ds := (mem_rowsT ds _).mpr ⟨g1, g2, g3⟩
    rw [List.length_eq_zero_iff.mp z] at this; cases this
  · intro h
    obtain ⟨w, hw⟩ := List.exists_mem_of_ne_nil _ (fun z : rowsT rs ds = [] => h (by rw [z]; rfl))
    have f := (mem_rowsT ds w).mp hw
    rw [e]
    exact (canT_iff ok ds []).mpr ⟨w, f.len, f.fine.bits, f.fine.fit, f.told⟩
end An
-- imports: G2 MW MD
/-! ### G3: first_filling -/
namespace An
open PySem L2
theorem ints_shaped (r : Row) : SeqAt.shaped (.list (r.map PyData.int)) = true := by
  have h2 : PyData.depth (.list (r.map PyData.int)) ≤ 64 := by simp only [PyData.depth, ints_depth]; decide
  show (PyData.canLay0 (.list (r.map PyData.int)) && decide (PyData.depth (.list (r.map PyData.int)) ≤ 64)) = true
  rw [Bool.and_eq_true]
  exact ⟨by simp only [PyData.canLay0]; exact ints_lay r, decide_eq_true h2⟩
theorem ints_nil (r : Row) : PyData.eqv (.list (r.map PyData.int)) (.list []) = decide (r = []) := by
  cases r with
  | nil => simp [PyData.eqv, PyData.eqvAll]
  | cons r F => simp [PyData.eqv, PyData.eqvAll]
theorem eq_of_ints : ∀ {ys : List V} {ps : Row}, Paired (fun v (q : Int) => v = .int q) ys ps → ys = ps.map V.int
  | _, _, .nil => rfl
  | _, _, .cons h t => by rw [List.map_cons, h, eq_of_ints t]
def GoodT (rs : List Rule) (ds : Told) (at_ : Nat) (kvs : List (List Key × V)) : Prop := ∀ t ∈ tails rs (ds.take at_), (canT rs (ds.drop at_) t = false → valV kvs (key t) = none) ∧
  (canT rs (ds.drop at_) t = true → ∃ v, valV kvs (key t) = some v ∧ ∀ o rest, ds.drop at_ = o :: rest → ∃ e, wayT rs o rest t = some e ∧ v = .int e.1)
theorem GoodT.isSome {rs : List Rule} {ds : Told} {at_ : Nat} {kvs : List (List Key × V)} (g : GoodT rs ds at_ kvs) {t : Row} (h : t ∈ tails rs (ds.take at_)) : (valV kvs (key t)).isSome = canT rs (ds.drop at_) t := by
  cases c : canT rs (ds.drop at_) t
  · rw [(g t h).1 c]; rfl
  · obtain ⟨v, hv, _⟩ := (g t h).2 c; rw [hv]; rfl
def aliveL (rs : List Rule) (o : Option Int) (rest : Told) (kv : Rk) : List (List Key × V) := kv.filterMap fun e => (wayT rs o rest e.1).map fun w => (key e.1, V.int w.1)
theorem aliveL_get (rs : List Rule) (o : Option Int) (rest : Told) (t : Row) : ∀ kv : Rk, valV (aliveL rs o rest kv) (key t) = if t ∈ ks kv then (wayT rs o rest t).map fun w => V.int w.1 else none
  | [] => rfl
  | e :: kv => by
    have ih := aliveL_get rs o rest t kv
    unfold aliveL at *
    rw [List.filterMap_cons, show ks (e :: kv) = e.1 :: ks kv from rfl]
    cases hw : wayT rs o rest e.1 with
    | none =>
      show valV (kv.filterMap _) (key t) = _
      rw [ih]
      by_cases c : e.1 = t
      · subst c
        rw [hw]; simp
      · by_cases m : t ∈ ks kv
        · rw [if_pos m, if_pos (List.mem_cons_of_mem _ m)]
        · rw [if_neg m, if_neg fun z => (List.mem_cons.mp z).elim (fun q => c q.symm) m]
    | some w =>
      show valV ((key e.1, V.int w.1) :: kv.filterMap _) (key t) = _
      by_cases c : e.1 = t
      · subst c
        rw [valV_pos rfl, if_pos List.mem_cons_self, hw]; rfl
      · rw [valV_neg fun z => c (key_inj z), ih]
        by_cases m : t ∈ ks kv
        · rw [if_pos m, if_pos (List.mem_cons_of_mem _ m)]
        · rw [if_neg m, if_neg fun z => (List.mem_cons.mp z).elim (fun q => c q.symm) m]
theorem head_filter {α : Type} (p : α → Bool) : ∀ l : List α, (l.filter p).head? = l.find? p
  | [] => rfl
  | a :: l => by
    cases c : p a
    · rw [List.filter_cons_of_neg (by rw [c]; exact Bool.false_ne_true), List.find?_cons_of_neg (by rw [c]; exact Bool.false_ne_true)]; exact head_filter p l
    · rw [List.filter_cons_of_pos c, List.find?_cons_of_pos c]; rfl
theorem way_tails {rs : List Rule} {ds : Told} {i : Nat} {o : Option Int} {t : Row} (ho : ds[i]? = some o) (h : t ∈ tails rs (ds.take i)) {e : Int × Row} (he : e ∈ waysOn rs t) (hm : mt o e.1 = true) : e.2 ∈ tails rs (ds.take (i + 1)) := by
  rw [List.take_add_one, ho]
  show e.2 ∈ tails rs (ds.take i ++ [o])
  rw [tails_snoc]
  exact List.mem_flatMap.mpr ⟨t, h, List.mem_map.mpr ⟨e, List.mem_filter.mpr ⟨he, hm⟩, rfl⟩⟩
/-- dict(pairs)[k] -/
theorem valV_merge_out : ∀ (kvs acc : List (Key × V)) (k : Key), k ∉ kvs.map (·.1) → valV (mergeK acc kvs) k = valV acc k
  | [], _, _, _ => rfl
  | p :: r, acc, k, h => by
    show valV (mergeK (putK acc p.1 p.2) r) k = _
    rw [valV_merge_out r _ k fun m => h (List.mem_cons_of_mem _ m), valV_put, if_neg fun z => h (by rw [z]; exact List.mem_cons_self)]
theorem valV_merge : ∀ (kvs acc : List (Key × V)) (k : Key) (v : V), (kvs.map (·.1)).Nodup → (k, v) ∈ kvs → valV (mergeK acc kvs) k = some v
  | [], _, _, _, _, h => by cases h
  | p :: r, acc, k, v, nd, h => by
    obtain ⟨n1, n2⟩ := List.nodup_cons.mp nd
    show valV (mergeK (putK acc p.1 p.2) r) k = _
    rcases List.mem_cons.mp h with e | h
    · rw [valV_merge_out r _ k (by rw [← e] at n1; exact n1), valV_put, ← e, if_pos rfl]
    · exact valV_merge r _ k v n2 h
theorem pairs_split {K : PySem.W.Frag} {H : Hp} : ∀ {xs : List V} {ws : List (Int × Row)}, Paired (WayAt H) xs ws → ∃ (ps : List Addr) (kvs : List (Key × V)), xs = ps.map V.ref ∧ Paired (fun p kv => SqT K H p [kV kv.1, kv.2]) ps kvs ∧ Paired (fun kv (w : Int × Row) => kv.1 = Sum.inl w.1 ∧ TupI H kv.2 w.2) kvs ws
  | _, _, .nil => ⟨[], [], rfl, .nil, .nil⟩
  | _, _, .cons h t => by
    obtain ⟨a, b, e1, h1, h2⟩ := h
    obtain ⟨ps, kvs, g1, g2, g3⟩ := pairs_split (K := K) t
    exact ⟨a :: ps, (Sum.inl _, .ref b) :: kvs, by rw [List.map_cons, e1, g1], .cons (SqT.of h1) g2, .cons ⟨rfl, b, rfl, h2⟩ g3⟩
theorem ways_keys {H : Hp} : ∀ {kvs : List (Key × V)} {ws : List (Int × Row)}, Paired (fun kv (w : Int × Row) => kv.1 = Sum.inl w.1 ∧ TupI H kv.2 w.2) kvs ws → kvs.map (·.1) = (ws.map (·.1)).map Sum.inl
  | _, _, .nil => rfl
  | _, _, .cons h t => by rw [List.map_cons, List.map_cons, List.map_cons, h.1, ways_keys t]
theorem ways_nodup (rs : List Rule) (t : Row) : ((waysOn rs t).map (·.1)).Nodup := by
  unfold waysOn
  rw [List.map_map]
  show (List.map (fun p => p) _).Nodup
  rw [List.map_id']
  exact List.Pairwise.filter _ (by decide)
/-- while the keys of the layer at d are gone through, the table of those that can be filled on is made at M -/
structure LA (H1 : Hp) (d : Addr) (od : Obj) (kv : Rk) (M : Addr) (H' : Hp) (al : List (List Key × V)) : Prop where
  kp : ∀ b o, b ≠ d → H1 b = some o → H' b = some o
  h1 : H1 d = some (.dT (encR kv))
  nM : H1 M = none
  hd : H' d = some (.frz od (.dT (encR kv)))
  hM : H' M = some (.dT al)
theorem LA.same {H1 : Hp} {d : Addr} {od : Obj} {kv : Rk} {M : Addr} {H' H2 : Hp} {al : List (List Key × V)} (l : LA H1 d od kv M H' al) (e : Same H' H2) : LA H1 d od kv M H2 al := ⟨fun b o n h => e _ _ (l.kp b o n h), l.h1, l.nM, e _ _ l.hd, e _ _ l.hM⟩
theorem LA.ts {H1 : Hp} {d : Addr} {od : Obj} {kv : Rk} {M : Addr} {H' : Hp} {al : List (List Key × V)} (l : LA H1 d od kv M H' al) : TS H1 H' := fun b xs h => l.kp b _ (fun z => by subst z; rw [l.h1] at h; cases h) h
theorem LA.put {H1 : Hp} {d : Addr} {od : Obj} {kv : Rk} {M : Addr} {H' : Hp} {al al' : List (List Key × V)} (l : LA H1 d od kv M H' al) : LA H1 d od kv M (upd H' M (.dT al')) al' := by
  have ne : d ≠ M := fun z => by subst z; have := l.h1; rw [l.nM] at this; cases this
  refine ⟨fun b o n h => ?_, l.h1, l.nM, ?_, upd_same⟩
  · rw [upd_ne (ne_of_none h l.nM)]; exact l.kp b o n h
  · rw [upd_ne ne]; exact l.hd
theorem inV_told (o : Option Int) (p : Int) : inV (oV o) [.non, .int p] = mt o p := by
  cases o with
  | none => rfl
  | some q =>
    show ((eqV .non (.int q)) || ((eqV (.int p) (.int q)) || false)) = decide (q = p)
    rw [Bool.or_false, show eqV .non (.int q) = false from rfl, Bool.false_or]
    show (p == q) = decide (q = p)
    rw [Bool.eq_iff_iff, decide_eq_true_eq, beq_iff_eq]
    exact ⟨fun h => h.symm, fun h => h.symm⟩
theorem nd_take {kv : Rk} {j : Nat} {e : Row × Nat} (nd : (ks kv).Nodup) (h : kv[j]? = some e) : e.1 ∉ ks (kv.take j) := fun m => by
  have h2 : (ks (kv.take (j + 1))).Nodup := by
    unfold ks at *
    rw [List.map_take]
    exact List.Sublist.nodup (List.take_sublist _ _) nd
  rw [List.take_add_one, h] at h2
  have h2 : (ks (kv.take j ++ [e])).Nodup := h2
  rw [ks_snoc, List.nodup_append] at h2
  exact h2.2.2 _ m _ (List.mem_singleton.mpr rfl) rfl
theorem aliveL_snoc (rs : List Rule) (o : Option Int) (rest : Told) {kv : Rk} {j : Nat} {e : Row × Nat} (h : kv[j]? = some e) : aliveL rs o rest (kv.take (j + 1)) = aliveL rs o rest (kv.take j) ++ (match wayT rs o rest e.1 with | some w => [(key e.1, V.int w.1)] | none => []) := by
  rw [List.take_add_one, h]
  unfold aliveL
  show List.filterMap _ (kv.take j ++ [e]) = _
  rw [List.filterMap_append, List.filterMap_cons, List.filterMap_nil]
  cases wayT rs o rest e.1 <;> rfl
theorem aliveL_len (rs : List Rule) (o : Option Int) (rest : Told) (kv : Rk) : (aliveL rs o rest kv).length ≤ kv.length := by unfold aliveL; exact List.length_filterMap_le _ _
def TabAt (H : Hp) (v : V) (kvs : List (List Key × V)) : Prop := ∃ d, v = .ref d ∧ H d = some (.dT kvs)
section
variable {P : Program} {w : World} {K : PySem.W.Frag} {mg : Str → Option Value} {base : Heap}
def N_first_filling : List Str := ["rules", "told", "layers", "good", "at", "alive", "tail", "some", "one", "there", "found", "place"]
theorem sc_first_filling : FnScope N_first_filling ["rules", "told"] (defScope S_first_filling) := ⟨rfl, rfl, rfl, by decide +kernel, rfl, by decide +kernel, by decide +kernel⟩
def FirstV (rs : List Rule) (ds : Told) (H : Hp) (v : V) : Prop := (canT rs ds [] = true ∧ TupI H v (firstT rs ds [])) ∨ (canT rs ds [] = false ∧ v = .non)
def spFirst : Sp := fun vs H Q _ => ∃ rv tv rs ds, vs = [rv, tv] ∧ RulesAt H rv rs ∧ RulesOk rs ∧ ToldAt H tv ds ∧ ToldOk ds ∧ ∀ v H', Same H H' → FirstV rs ds H' v → Q v H'
def PvG (rs : List Rule) (ds : Told) (rv tv : V) (L G : Addr) (xs : List V) (kvs : List Rk) (H : Hp) (k : Nat) (σ : L2.St) (H' : Hp) : Prop :=
  ∃ gs tabs x4 x5 x6 x7 x8 x9 x10 x11, σ = [some rv, some tv, some (.ref L), some (.ref G), x4, x5, x6, x7, x8, x9, x10, x11] ∧ Same H H' ∧ H G = none ∧ Lays rs ds H' L xs kvs ds.length ∧ H' G = some (.lst gs) ∧ Paired (TabAt H') gs tabs ∧ tabs.length = k + 1 ∧ (k ≤ ds.length → ∀ j tb, tabs[j]? = some tb → GoodT rs ds (ds.length - k + j) tb)
def PvA (rs : List Rule) (o : Option Int) (rest : Told) (rv tv : V) (L G : Addr) (x : V) (H1 : Hp) (d : Addr) (od : Obj) (kv : Rk) (M : Addr) (j : Nat) (σ : L2.St) (H' : Hp) : Prop :=
  ∃ x6 x7 x8 x9 x10 x11, σ = [some rv, some tv, some (.ref L), some (.ref G), some x, some (.ref M), x6, x7, x8, x9, x10, x11] ∧ LA H1 d od kv M H' (aliveL rs o rest (kv.take j))
def PvS (rs : List Rule) (ds : Told) (rv tv : V) (L G : Addr) (H1 : Hp) (i : Nat) (σ : L2.St) (H' : Hp) : Prop :=
  ∃ x4 x5 tv' x7 x8 x9 fv x11 t u, σ = [some rv, some tv, some (.ref L), some (.ref G), x4, x5, some tv', x7, x8, x9, some fv, x11] ∧ Same H1 H' ∧ TupI H' tv' t ∧ TupI H' fv u ∧ t ∈ tails rs (ds.take i) ∧ canT rs (ds.drop i) t = true ∧ u ++ firstT rs (ds.drop i) t = firstT rs ds [] ∧ u.length = i
theorem ok_first_filling (Dd : Dn K mg "first_filling" S_first_filling) (bf : Bf mg) (C_ways_on : Cl P w K mg base 2 "ways_on" spWays) (C_layers_of : Cl P w K mg base 3 "layers_of" spLayers) : Cl P w K mg base 4 "first_filling" spFirst := by
  refine Dd.ok sc_first_filling (fun vs H Q E h => ?_) (fun _ _ _ _ _ _ us hl => match us, hl with | [_, _], _ => rfl) (fun f cdv A outer s H vs Q E hr h => ?_)
  · obtain ⟨rv, tv, rs, ds, rfl, _⟩ := h; rfl
  · obtain ⟨rv, tv, rs, ds, rfl, hR, ok, hT, tok, k⟩ := h
    obtain ⟨ta, rfl, hta⟩ := id hT
    have nd := sc_first_filling.nd
    have hu := hu_of hr
    have hr_ways_on := hr.mono (show 2 ≤ 3 by decide)
    have hr_layers_of := hr
    have dlen := tok.len
    refine ⟨_, (pss_cons (ps_set (i := 2) nd rfl (Or.inl rfl) (pe_callC C_layers_of hr_layers_of rfl (pa_cons (pv 0) (pa_cons (pv 1) pa_nil))))
    (pss_cons (ps_set (i := 3) nd rfl (Or.inr rfl) (pe_lst (pa_cons (pe_callTy (call_dictDT hr.units) rfl bf.dict bt_dict (pa_cons (pe_ix ix_list (pv 2) (pe_un un_neg pe_int) (fun _ _ => rfl)) pa_nil)) pa_nil)))
    (pss_cons (ps_for PassesOwn.never rfl (pi_range3 rfl bf.range (pa_cons (pe_op op_sub (pe_callB call_len_seq rfl bf.len bt_len (pa_cons (pv 1) pa_nil)) pe_int) (pa_cons (pe_un un_neg pe_int) (pa_cons (pe_un un_neg pe_int) pa_nil)))) (pg_name (i := 4) nd rfl (Or.inr rfl))
    (pss_cons (ps_set (i := 5) nd rfl (Or.inl rfl) pe_dnewT)
    (pss_cons (ps_lock (ps_for PassesOwn.never rfl (pi_keys (pe_ix ix_list (pv 2) (pv 4) (fun _ _ => rfl))) (pg_name (i := 6) nd rfl (Or.inl rfl))
    (pss_cons (ps_setLc (i := 7) (own := [("one", 8), ("there", 9)]) rfl nd rfl rfl (sw_true rfl rfl rfl (by decide +kernel)) (pi_list (pe_callC C_ways_on hr_ways_on rfl (pa_cons (pv 0) (pa_cons (pv 6) pa_nil)))) (blkOk_by (own := [("one", 8), ("there", 9)]) (N := N_first_filling) (sc := defScope S_first_filling) (by decide +kernel)) (fun _ _ _ _ _ => (pg_tupK (K := K) (n := 2) rfl rfl (pgs_cons (pg_name (i := 8) nd rfl (Or.inl rfl) (Or.inr rfl)) (pgs_cons (pg_name (i := 9) nd rfl (Or.inl rfl) (Or.inr rfl)) pgs_nil)))) (fun _ _ _ _ _ => (pts_one (PW.pt (pw_and (pt_cmp (pc_din hu (pv 9) (pe_ix (ix_listK (K := K) rfl) (pv 3) pe_int (fun _ _ => rfl)))) (pw_and1 (pt_cmpR (op_inK (K := K) rfl) (pe_ix (ix_tupK (K := K) rfl) (pv 1) (pv 4) (fun _ _ => rfl)) (pe_tup (pa_cons pe_non (pa_cons (pv 8) pa_nil))) (by rfl))))))) (fun _ _ _ _ _ => (pv 8)))
    (pss_one (ps_if (pt_cmpR (op_neD hr.units) (pv 7) (pe_lst pa_nil) (nomark _))
    (pss_one (ps_dput hu (pv 5) (pv 6) (pe_ix ix_list (pv 7) pe_int (fun _ _ => rfl)) rfl))
    pss_nil)))))
    (pss_one (ps_expr (pe_bm PySem.F.plainAttrs_list PySem.F.slot_list_insert PySem.F.type_list_insert mt_insert (pv 3) (pa_cons pe_int (pa_cons (pv 5) pa_nil))))))))
    (pss_cons (ps_if (pt_cmp (pc_dnotin hu (pe_tup pa_nil) (pe_ix ix_list (pv 3) pe_int (fun _ _ => rfl))))
    (pss_one (ps_ret pe_non))
    pss_nil)
    (pss_cons (ps_set (i := 10) nd rfl (Or.inl rfl) (pe_tup pa_nil))
    (pss_cons (ps_set (i := 6) nd rfl (Or.inl rfl) (pe_tup pa_nil))
    (pss_cons (ps_for PassesOwn.never rfl (pi_range1 rfl bf.range (pa_cons (pe_callB call_len_seq rfl bf.len bt_len (pa_cons (pv 1) pa_nil)) pa_nil)) (pg_name (i := 4) nd rfl (Or.inr rfl))
    (pss_cons (ps_set (i := 11) nd rfl (Or.inl rfl) (pe_dget hu (pe_ix ix_list (pv 3) (pv 4) (fun _ _ => rfl)) (pv 6) (fun _ _ => rfl)))
    (pss_cons (ps_set (i := 6) nd rfl (Or.inl rfl) (pe_dget hu (pe_callTy (call_dictP rfl) rfl bf.dict bt_dict (pa_cons (pe_callC C_ways_on hr_ways_on rfl (pa_cons (pv 0) (pa_cons (pv 6) pa_nil))) pa_nil)) (pv 11) (fun _ _ => rfl)))
    (pss_one (ps_aug (i := 10) nd rfl (Or.inl rfl) (pe_tup (pa_cons (pv 11) pa_nil)) (ip_of iop_catA))))))
    (pss_one (ps_ret (pv 10)))))))))), ?_⟩
    refine ⟨_, rfl, _, rfl, rv, .ref ta, rs, ds, rfl, hR, ok, hT, tok, fun L H1 xs kvs nL s1 ly => ?_⟩
    obtain ⟨dl, kvl, hxl, hdl, hkl, lokl⟩ := ly.last
    refine ⟨_, rfl, _, rfl, L, xs, -1, .ref dl, rfl, rfl, SqL.of ly.hL, hxl, dl, encR kvl, rfl, .inl hdl, fun P w => hashes_nodup lokl.nd (fun t ht => mem_allTails ok (tails_ok ok _ t ((lokl.key t).mp ht))) P w, fun D0 hD0 => ⟨sz (by show 1 ≤ 100000; decide), fun G hG => ?_⟩⟩
    have s2 : Same H1 (upd H1 D0 (.dT (encR kvl))) := Same.new hD0
    have s3 : Same (upd H1 D0 (.dT (encR kvl))) (upd (upd H1 D0 (.dT (encR kvl))) G (.lst [.ref D0])) := Same.new hG
    have s4 := s2.trans s3
    have lay : ∀ H', Same H1 H' → Lays rs ds H' L xs kvs ds.length := fun H' e => ⟨e _ _ ly.hL, Paired.mp ly.pr fun _ _ ⟨d', e1, e2⟩ => ⟨d', e1, e _ _ e2⟩, ly.len, ly.ok⟩
    refine ⟨_, rfl, ta, _, rfl, .inr (SqT.of ((s1.trans s4) _ _ hta)), _, _, rfl, rfl, _, rfl, _, rfl, _, _, _, ds.length, rfl, ?_, for_rangeC (PvG rs ds rv (.ref ta) L G xs kvs H1) ⟨[.ref D0], [encR kvl], _, _, _, _, _, _, _, _, rfl, s4, s2.free hG, lay _ s4, upd_same, .cons ⟨D0, rfl, s3 _ _ upd_same⟩ .nil, rfl, fun _ j tb h => ?_⟩ ?_ ?_⟩
    · have := RgC.neg (i := ((ds.length : Nat) : Int) - 1) (j := -1) (by omega) (by omega) (by decide) (by decide)
      rw [show (((ds.length : Nat) : Int) - 1 - -1).toNat = ds.length by omega] at this
      rw [List.length_map]
      exact this
    · match j, h with
      | 0, h =>
        cases h
        intro t ht
        rw [show ds.length - 0 + 0 = ds.length by omega, List.take_of_length_le (Nat.le_refl _)] at ht
        rw [show ds.length - 0 + 0 = ds.length by omega, List.drop_of_length_le (Nat.le_refl _)]
        refine ⟨fun z => (by cases z), fun _ => ⟨_, encR_some ((lokl.key t).mpr ht), fun o rest z => (by cases z)⟩⟩
      | j + 1, h => simp at h
    · rintro k' σ Ha hk ⟨gs, tabs, x4, x5, x6, x7, x8, x9, x10, x11, rfl, sm, nG, ly2, hG2, pg, tbl, good⟩
      obtain ⟨i, hi⟩ : ∃ i : Nat, i + k' + 1 = ds.length := ⟨ds.length - 1 - k', by omega⟩
      have hil : i < ds.length := by omega
      obtain ⟨o, ho⟩ : ∃ o, ds[i]? = some o := ⟨_, List.getElem?_eq_getElem hil⟩
      have edrop : ds.drop i = o :: ds.drop (i + 1) := by
        rw [List.drop_eq_getElem_cons hil]
        rw [List.getElem?_eq_getElem hil] at ho
        rw [Option.some.inj ho]
      have eat : (((ds.map oV).length : Nat) : Int) - 1 + (k' : Nat) * -1 = (i : Nat) := by rw [List.length_map]; omega
      obtain ⟨g0, hg0⟩ : ∃ g0, tabs[0]? = some g0 := ⟨_, List.getElem?_eq_getElem (by omega)⟩
      have gd0 := good (by omega) 0 g0 hg0
      rw [show ds.length - k' + 0 = i + 1 by omega] at gd0
      obtain ⟨gv, hgv, ga, rfl, hga⟩ := Paired.get' pg hg0
      have hkl : i < kvs.length := by rw [ly2.len]; omega
      obtain ⟨v, hv, d, rfl, hd⟩ := Paired.get' ly2.pr (List.getElem?_eq_getElem hkl)
      have lok := ly2.ok i _ (List.getElem?_eq_getElem hkl)
      revert hd lok
      generalize kvs[i] = kv
      intro hd lok
      have ttk : ∀ t ∈ tails rs (ds.take i), TailOk rs t := tails_ok ok _
      have few := lok.few ok ttk
      refine fun M hM => ?_
      have sM : Same Ha (upd Ha M (.dT [])) := Same.new hM
      have ndM : d ≠ M := fun z => by subst z; rw [hd] at hM; cases hM
      have nLd : L ≠ d := fun z => by subst z; have := ly2.hL; rw [hd] at this; cases this
      have nGd : G ≠ d := fun z => by subst z; rw [hd] at hG2; cases hG2
      refine ⟨d, _, sM _ _ hd, trivial, fun od => ?_⟩
      have la0 : LA Ha d od kv M (upd (upd Ha M (.dT [])) d (.frz od (.dT (encR kv)))) [] := ⟨fun b o n e => by rw [upd_ne n]; exact sM _ _ e, hd, hM, upd_same, by rw [upd_ne (Ne.symm ndM)]; exact upd_same⟩
      refine ⟨_, rfl, _, rfl, L, xs, _, .ref d, rfl, rfl, SqL.of (la0.kp _ _ nLd ly2.hL), by rw [eat]; exact atI_nat hv, d, od, rfl, .inr ⟨encR kv, upd_same, for_it walk_keysT (PvA rs o (ds.drop (i + 1)) rv (.ref ta) L G (.int (i : Nat)) Ha d od kv M) ⟨_, _, _, _, _, _, by rw [eat]; rfl, la0⟩ (fun j σ H2 _ ⟨_, _, _, _, _, _, _, h⟩ => h.hd) ?_ ?_⟩⟩
      · rintro j y σ Hb Hc hj ⟨y6, y7, y8, y9, y10, y11, rfl, la⟩ ⟨rfl, kk, v, q, hkv', rfl, hq⟩
        obtain ⟨e, he, hke⟩ : ∃ e, kv[j]? = some e ∧ (key e.1, V.int (e.2 : Nat)) = (kk, v) := by
          unfold encR at hkv'
          rw [List.getElem?_map] at hkv'
          exact Option.map_eq_some_iff.mp hkv'
        injection hke with e1 e2
        subst e1 e2
        have hem := List.mem_of_getElem? he
        have htm : e.1 ∈ tails rs (ds.take i) := (lok.key _).mp (List.mem_map.mpr ⟨e, hem, rfl⟩)
        have et := ttk _ htm
        have hqi := hq
        rw [key_map] at hqi
        have hRc := RulesAt.mono ((TS.of (s1.trans sm)).trans la.ts) hR
        refine ⟨_, rfl, _, rfl, rv, .ref q, rs, e.1, rfl, hRc, ok, ⟨q, rfl, hqi⟩, by have := et.2; have := ok.wide; omega, fun W Hd ws nW s5 hW pw => ?_⟩
        have la5 := la.same s5
        have hG5 := la5.kp _ _ nGd hG2
        have hta5 : Hd ta = some (.tup (ds.map oV)) := la5.ts _ _ (sm _ _ (s1 _ _ hta))
        have hga5 : Rd Hd ga (.dT g0) := by
          by_cases q : ga = d
          · subst q
            rw [hd] at hga
            have e0 : encR kv = g0 := by cases hga; rfl
            rw [← e0]
            exact .inr ⟨od, la5.hd⟩
          · exact .inl (la5.kp _ _ q hga)
        refine ⟨W, rfl, ⟨_, SqL.of hW⟩, fun D hD => lc_go (walk_list (xs := ws)) (fun _ v (q : Int) => v = .int q) (fun z => (((waysOn rs e.1).take z).filter fun w => (valV g0 (key w.2)).isSome && mt o w.1).map fun w => w.1) hD rfl (fun z _ => ?_) (fun _ _ _ _ _ h => h) (fun _ _ _ _ _ _ h => h) (fun H' e => SqL.of (e _ _ hW)) ?_ ?_⟩
        · rw [List.length_map]
          refine Nat.lt_of_le_of_lt (List.length_filter_le _ _) ?_
          rw [List.length_take]
          have : (waysOn rs e.1).length ≤ 2 := by unfold waysOn; rw [List.length_map]; exact List.length_filter_le _ _
          omega
        · rintro l y He Hf NT NF hl' sm' ⟨rfl, hx⟩ nt nf
          obtain ⟨wy, hwy, a', b', rfl, ha', hb'⟩ := Paired.get pw hx
          have ft : (((waysOn rs e.1).take (l + 1)).filter fun w => (valV g0 (key w.2)).isSome && mt o w.1).map (fun w => w.1) = (((waysOn rs e.1).take l).filter fun w => (valV g0 (key w.2)).isSome && mt o w.1).map (fun w => w.1) ++ (if ((valV g0 (key wy.2)).isSome && mt o wy.1) = true then [wy.1] else []) := by
            rw [filter_take (fun w : Int × Row => (valV g0 (key w.2)).isSome && mt o w.1) _ l wy hwy, List.map_append]
            congr 1
            by_cases c : ((valV g0 (key wy.2)).isSome && mt o wy.1) = true
            · rw [if_pos c, if_pos c]; rfl
            · rw [if_neg c, if_neg c]; rfl
          refine ⟨a', _, rfl, SqT.of (sm' _ _ ha'), rfl, _, _, rfl, _, _, rfl, rfl, rfl, ?_⟩
          have hbk : Hf b' = some (.tup ((key wy.2).map kV)) := by rw [key_map]; exact sm' _ _ hb'
          have hrd : Rd Hf ga (.dT g0) := by
            rcases hga5 with z | ⟨oo, z⟩
            · exact .inl (sm' _ _ z)
            · exact .inr ⟨oo, sm' _ _ z⟩
          refine ⟨_, rfl, _, rfl, G, gs, 0, .ref ga, rfl, rfl, SqL.of (sm' _ _ hG5), atI_nat (j := 0) hgv, ga, _, rfl, .inr ⟨g0, key wy.2, b', hrd, rfl, hbk, rfl⟩, _, rfl, ?_⟩
          have no : ((valV g0 (key wy.2)).isSome && mt o wy.1) = false → ∀ H4, Same Hf H4 → NF H4 := fun z H4 s => by
            rw [z, if_neg Bool.false_ne_true, List.append_nil] at ft
            exact nf _ s ft
          refine ite2 (fun hs => ?_) (fun hs => ?_)
          · refine ⟨_, rfl, _, rfl, ta, _, _, oV o, rfl, rfl, SqT.of (sm' _ _ hta5), atI_nat (by rw [List.getElem?_map, ho]; rfl), _, rfl, sz (by show 2 ≤ 100000; decide), fun c5 hc5 => ?_⟩
            have s6 : Same Hf (upd Hf c5 (.tup [.non, .int wy.1])) := Same.new hc5
            refine ⟨c5, _, rfl, .inr (SqT.of upd_same), by cases o <;> rfl, rfl, _, rfl, ?_⟩
            show if inV (oV o) [.non, .int wy.1] = true then _ else _
            rw [inV_told]
            refine ite2 (fun hm => ?_) (fun hm => ?_)
            · rw [hs, hm, if_pos (show (true && true) = true from rfl)] at ft
              exact ⟨_, rfl, nt _ _ wy.1 s6 rfl ft⟩
            · rw [Bool.not_eq_true] at hm
              exact no (by rw [hm, Bool.and_false]) _ s6
          · rw [Bool.not_eq_true] at hs
            exact no (by rw [hs, Bool.false_and]) _ (Same.refl _)
        · intro He zs s6 hD6 pz
          rw [Paired.len pw, List.take_of_length_le (Nat.le_refl _)] at pz
          have ec : (waysOn rs e.1).filter (fun w => (valV g0 (key w.2)).isSome && mt o w.1) = (waysOn rs e.1).filter fun w => mt o w.1 && canT rs (ds.drop (i + 1)) w.2 := List.filter_congr fun w hw => by
            by_cases hm : mt o w.1 = true
            · rw [gd0.isSome (way_tails ho htm hw hm), hm, Bool.and_true, Bool.true_and]
            · rw [Bool.not_eq_true] at hm
              rw [hm, Bool.and_false, Bool.false_and]
          rw [ec] at pz
          have ez := eq_of_ints pz
          have hh := head_filter (fun w : Int × Row => mt o w.1 && canT rs (ds.drop (i + 1)) w.2) (waysOn rs e.1)
          have hh : ((waysOn rs e.1).filter fun w => mt o w.1 && canT rs (ds.drop (i + 1)) w.2).head? = wayT rs o (ds.drop (i + 1)) e.1 := hh
          have small := List.length_filter_le (fun w : Int × Row => mt o w.1 && canT rs (ds.drop (i + 1)) w.2) (waysOn rs e.1)
          revert ez hh
          generalize (waysOn rs e.1).filter (fun w => mt o w.1 && canT rs (ds.drop (i + 1)) w.2) = fs
          intro ez hh
          subst ez
          have la6 := la5.same s6
          have snc := aliveL_snoc rs o (ds.drop (i + 1)) he
          refine ⟨_, rfl, sz (by show 0 ≤ 100000; decide), fun c6 hc6 => ?_⟩
          have s7 : Same He (upd He c6 (.lst [])) := Same.new hc6
          have la7 := la6.same s7
          refine ⟨_, _, .lst (SqL.of (s7 _ _ hD6)) (dp_ints _), .lst (SqL.of upd_same) .nil, ints_shaped _, by decide +kernel, _, rfl, ?_⟩
          rw [ints_nil]
          cases fs with
          | nil =>
            refine iteF ?_
            refine ⟨_, _, _, _, _, _, rfl, ?_⟩
            rw [snc, ← hh]
            show LA Ha d od kv M _ (_ ++ [])
            rw [List.append_nil]; exact la7
          | cons w0 fs =>
            refine iteT ?_
            have hqk := s7 _ _ (s6 _ _ (s5 _ _ hq))
            have vn : valV (aliveL rs o (ds.drop (i + 1)) (kv.take j)) (key e.1) = none := by rw [aliveL_get, if_neg (nd_take lok.nd he)]
            have al := aliveL_len rs o (ds.drop (i + 1)) (kv.take j)
            rw [List.length_take] at al
            refine ⟨_, rfl, D, _, 0, .int w0.1, rfl, rfl, SqL.of (s7 _ _ hD6), atI_nat (j := 0) rfl, _, rfl, _, rfl, M, _, rfl, DPut.t (k := key e.1) la7.hM hqk (szl (by omega)), _, _, _, _, _, _, rfl, ?_⟩
            rw [putK_new _ vn, snc, ← hh]
            exact la7.put
      · rintro σ Hb ⟨y6, y7, y8, y9, y10, y11, rfl, la⟩
        refine ⟨la.hd, ?_⟩
        have ek : kv.take (encR kv).length = kv := by unfold encR; rw [List.length_map]; exact List.take_of_length_le (Nat.le_refl _)
        rw [ek] at la
        have hG6 : (upd Hb d (.dT (encR kv))) G = some (.lst gs) := by rw [upd_ne nGd]; exact la.kp _ _ nGd hG2
        have sH : Same Ha (upd Hb d (.dT (encR kv))) := fun b o' e => by
          by_cases q : b = d
          · subst q; rw [hd] at e; cases e; exact upd_same
          · rw [upd_ne q]; exact la.kp b o' q e
        have gl : gs.length = k' + 1 := by rw [Paired.len pg, tbl]
        refine ⟨_, rfl, .inl ⟨rfl, _, SqL.of hG6⟩, _, rfl, G, gs, 0, .ref M, rfl, rfl, hG6, szl (by omega), by decide, by decide, ?_⟩
        have sG : ∀ (b : Addr) (o' : HO), b ≠ G → (upd Hb d (.dT (encR kv))) b = some o' → (upd (upd Hb d (.dT (encR kv))) G (.lst (gs.take (0 : Int).toNat ++ [.ref M] ++ gs.drop (0 : Int).toNat))) b = some o' := fun b o' n e => by rw [upd_ne n]; exact e
        have nGM : M ≠ G := fun z => by subst z; rw [hG2] at hM; cases hM
        refine ⟨.ref M :: gs, aliveL rs o (ds.drop (i + 1)) kv :: tabs, _, _, _, _, _, _, _, _, rfl, fun b o' e => sG b o' (fun z => by subst z; rw [nG] at e; cases e) (sH _ _ (sm _ _ e)), nG, ⟨sG _ _ (fun z => by subst z; have := ly.hL; rw [nG] at this; cases this) (sH _ _ ly2.hL), Paired.mp ly2.pr fun _ _ ⟨d', e1, e2⟩ => ⟨d', e1, sG _ _ (fun z => by subst z; rw [hG2] at e2; cases e2) (sH _ _ e2)⟩, ly2.len, ly2.ok⟩, upd_same, .cons ⟨M, rfl, sG _ _ nGM (by rw [upd_ne (Ne.symm ndM)]; exact la.hM)⟩ (Paired.mp pg fun _ _ ⟨d', e1, e2⟩ => ⟨d', e1, sG _ _ (fun z => by subst z; rw [hG2] at e2; cases e2) (sH _ _ e2)⟩), by rw [List.length_cons, tbl], fun _ j tb h => ?_⟩
        match j, h with
        | 0, h =>
          cases h
          rw [show ds.length - (k' + 1) + 0 = i by omega]
          intro t ht
          rw [edrop, aliveL_get, if_pos ((lok.key t).mpr ht), canT_way]
          cases hw : wayT rs o (ds.drop (i + 1)) t with
          | none => exact ⟨fun _ => rfl, fun z => by cases z⟩
          | some e' =>
            refine ⟨fun z => (by cases z), fun _ => ⟨_, rfl, fun o' rest z => ?_⟩⟩
            injection z with z1 z2
            subst z1 z2
            exact ⟨e', hw, rfl⟩
        | j + 1, h =>
          have := good (by omega) j tb (by simpa using h)
          rw [show ds.length - (k' + 1) + (j + 1) = ds.length - k' + j by omega]
          exact this
    · rintro σ Ha ⟨gs, tabs, x4, x5, x6, x7, x8, x9, x10, x11, rfl, sm, nG, ly2, hG2, pg, tbl, good⟩
      have good' : ∀ j tb, tabs[j]? = some tb → GoodT rs ds j tb := fun j tb h => by
        have := good (Nat.le_refl _) j tb h
        rw [show ds.length - ds.length + j = j by omega] at this
        exact this
      obtain ⟨g0, hg0⟩ : ∃ g0, tabs[0]? = some g0 := ⟨_, List.getElem?_eq_getElem (by omega)⟩
      obtain ⟨gv, hgv, ga, rfl, hga⟩ := Paired.get' pg hg0
      refine ⟨sz (by show 0 ≤ 100000; decide), fun c hc => ?_⟩
      have s5 : Same Ha (upd Ha c (.tup [])) := Same.new hc
      refine ⟨_, rfl, G, gs, 0, .ref ga, rfl, rfl, SqL.of (s5 _ _ hG2), atI_nat (j := 0) hgv, ga, _, rfl, DGet.t (k := key []) (s5 _ _ hga) upd_same, _, rfl, ?_⟩
      have h0 : ([] : Row) ∈ tails rs (ds.take 0) := List.mem_singleton.mpr rfl
      rw [(good' 0 g0 hg0).isSome h0, List.drop_zero]
      cases hc0 : canT rs ds []
      · refine iteT ?_
        exact k _ _ ((s1.trans sm).trans s5) (.inr ⟨hc0, rfl⟩)
      · refine iteF ⟨sz (by show 0 ≤ 100000; decide), fun c1 hc1 => ⟨sz (by show 0 ≤ 100000; decide), fun c2 hc2 => ?_⟩⟩
        have s6 : Same (upd Ha c (.tup [])) (upd (upd Ha c (.tup [])) c1 (.tup [])) := Same.new hc1
        have s7 : Same (upd (upd Ha c (.tup [])) c1 (.tup [])) (upd (upd (upd Ha c (.tup [])) c1 (.tup [])) c2 (.tup [])) := Same.new hc2
        have s8 := s5.trans (s6.trans s7)
        refine ⟨_, rfl, ta, _, rfl, .inr (SqT.of (s8 _ _ (sm _ _ (s1 _ _ hta)))), _, rfl, by rw [List.length_map]; omega, by rw [List.length_map]; omega, for_range (PvS rs ds rv (.ref ta) L G Ha) ⟨_, _, .ref c2, _, _, _, .ref c1, _, [], [], rfl, s8, ⟨c2, rfl, upd_same⟩, ⟨c1, rfl, s7 _ _ upd_same⟩, h0, by rw [List.drop_zero]; exact hc0, by rw [List.drop_zero]; rfl, rfl⟩ ?_ ?_⟩
        · rintro i σ Hb hi ⟨y4, y5, tv', y7, y8, y9, fv, y11, t, u, rfl, sb, ht, hf, htm, hcn, heq, hul⟩
          rw [List.length_map] at hi
          have hil : i < ds.length := by omega
          obtain ⟨o, ho⟩ : ∃ o, ds[i]? = some o := ⟨_, List.getElem?_eq_getElem hil⟩
          have edrop : ds.drop i = o :: ds.drop (i + 1) := by
            rw [List.drop_eq_getElem_cons hil]
            rw [List.getElem?_eq_getElem hil] at ho
            rw [Option.some.inj ho]
          obtain ⟨gi, hgi⟩ : ∃ gi, tabs[i]? = some gi := ⟨_, List.getElem?_eq_getElem (by omega)⟩
          obtain ⟨gv, hgvi, gia, rfl, hgia⟩ := Paired.get' pg hgi
          obtain ⟨v, hv, hve⟩ := (good' i gi hgi t htm).2 hcn
          obtain ⟨e, hw, rfl⟩ := hve o _ edrop
          obtain ⟨tb, rfl, htb⟩ := id ht
          have hem := List.mem_of_find?_eq_some hw
          have hfs := List.find?_some hw
          obtain ⟨c3, c4⟩ := Bool.and_eq_true_iff.mp hfs
          have ttk := tails_ok ok _ t htm
          refine ⟨_, rfl, _, rfl, G, gs, _, .ref gia, rfl, rfl, SqL.of (sb _ _ hG2), by rw [Int.zero_add]; exact atI_nat hgvi, _, rfl, gia, .int e.1, rfl, by rw [← hv]; exact DGet.t (k := key t) (sb _ _ hgia) (by rw [key_map]; exact htb), ?_⟩
          have hRb := RulesAt.mono (TS.of ((s1.trans sm).trans sb)) hR
          refine ⟨_, rfl, _, rfl, rv, .ref tb, rs, t, rfl, hRb, ok, ht, by have := ttk.2; have := ok.wide; omega, fun W Hc ws nW s9 hW pw => ?_⟩
          obtain ⟨ps, kws, ew, psq, pk⟩ := pairs_split (K := (cxOf CX0 P w K mg base N_first_filling "first_filling" (defScope S_first_filling) f cdv A outer s H E).K) pw
          refine ⟨W, ps, kws, rfl, SqL.of (by rw [← ew]; exact hW), psq, fun p hp => ?_⟩
          have s10 : Same Hc (upd Hc p (.dK (mergeK [] kws))) := Same.new hp
          obtain ⟨j, hj, ej⟩ := List.getElem_of_mem hem
          obtain ⟨kw, hkw, k1, k2⟩ := Paired.get' pk (show (waysOn rs t)[j]? = some e by rw [List.getElem?_eq_getElem hj, ej])
          have nk : (kws.map (·.1)).Nodup := by
            rw [ways_keys pk]
            exact List.Pairwise.map _ (fun a b h z => h (Sum.inl.inj z)) (ways_nodup rs t)
          have vm : valV (mergeK [] kws) (Sum.inl e.1) = some kw.2 := valV_merge kws [] _ _ nk (by have := List.mem_of_getElem? hkw; rw [← k1]; exact this)
          refine ⟨_, rfl, p, kw.2, rfl, by rw [← vm]; exact DGet.k (k := Sum.inl e.1) upd_same, ?_⟩
          obtain ⟨fa, rfl, hfa⟩ := id hf
          refine ⟨_, rfl, _, rfl, sz (by show 1 ≤ 100000; decide), fun c6 hc6 => ?_⟩
          have s11 : Same (upd Hc p (.dK (mergeK [] kws))) (upd (upd Hc p (.dK (mergeK [] kws))) c6 (.tup [.int e.1])) := Same.new hc6
          have s12 := s9.trans (s10.trans s11)
          refine cat_any (s12 _ _ hfa) upd_same (by rw [List.length_map, List.length_singleton]; omega) fun q7 Hd s13 hq7 => ?_
          have hq7 : Hd q7 = some (.tup ((u ++ [e.1]).map V.int)) := by rw [List.map_append]; exact hq7
          have s14 := s12.trans s13
          refine ⟨_, _, _, _, _, _, _, _, e.2, u ++ [e.1], rfl, sb.trans s14, TupI.mono (TS.of (s10.trans (s11.trans s13))) k2, ⟨q7, rfl, hq7⟩, way_tails ho htm hem c3, c4, ?_, by rw [List.length_append, hul]; rfl⟩
          rw [← heq, edrop, List.append_assoc]
          congr 1
          show [e.1] ++ firstT rs (ds.drop (i + 1)) e.2 = (match wayT rs o (ds.drop (i + 1)) t with | some e => e.1 :: firstT rs (ds.drop (i + 1)) e.2 | none => [])
          rw [hw]; rfl
        · rintro σ Hb ⟨y4, y5, tv', y7, y8, y9, fv, y11, t, u, rfl, sb, ht, hf, htm, hcn, heq, hul⟩
          have eu : u = firstT rs ds [] := by
            rw [List.length_map, Int.toNat_natCast] at heq
            rw [List.drop_of_length_le (Nat.le_refl _)] at heq
            rw [← heq]
            show u = u ++ []
            rw [List.append_nil]
          exact ⟨_, rfl, k _ _ ((s1.trans sm).trans sb) (.inl ⟨hc0, by rw [← eu]; exact hf⟩)⟩
end
end An
-- imports: G3
/-! ### G4: filling -/
namespace An
open PySem L2
section
variable {P : Program} {w : World} {K : PySem.W.Frag} {mg : Str → Option Value} {base : Heap}
def N_filling : List Str := ["rules", "told"]
theorem sc_filling : FnScope N_filling ["rules", "told"] (defScope S_filling) := ⟨rfl, rfl, rfl, by decide +kernel, rfl, by decide +kernel, by decide +kernel⟩
theorem ok_filling (D : Dn K mg "filling" S_filling) (C_need_both : Cl P w K mg base 5 "need_both" spBoth) (C_first_filling : Cl P w K mg base 4 "first_filling" spFirst) : Cl P w K mg base 6 "filling" spFirst := by
  refine D.ok sc_filling (fun vs H Q E h => ?_) (fun _ _ _ _ _ _ us hl => match us, hl with | [_, _], _ => rfl) (fun f cdv A outer s H vs Q E hr h => ?_)
  · obtain ⟨rv, tv, rs, ds, rfl, _⟩ := h; rfl
  · obtain ⟨rv, tv, rs, ds, rfl, hR, ok, hT, tok, k⟩ := h
    have nd := sc_filling.nd
    have hr_need_both := hr
    have hr_first_filling := hr.mono (show 4 ≤ 5 by decide)
    refine ⟨_, (pss_cons (ps_expr (pe_callC C_need_both hr_need_both rfl (pa_cons (pv 0) (pa_cons (pv 1) pa_nil))))
    (pss_one (ps_ret (pe_callC C_first_filling hr_first_filling rfl (pa_cons (pv 0) (pa_cons (pv 1) pa_nil)))))), ?_⟩
    refine ⟨_, rfl, _, rfl, rv, tv, rs, ds, rfl, hR, ok, hT, tok, fun H1 s1 => ?_⟩
    exact ⟨_, rfl, _, rfl, rv, tv, rs, ds, rfl, RulesAt.mono (TS.of s1) hR, ok, ToldAt.mono (TS.of s1) hT, tok, fun v H2 s2 fv => k v H2 (s1.trans s2) fv⟩
end
end An
-- imports: G4
/-! ### G5: steps_of, where some row fills -/
namespace An
open PySem L2
def pre (w : Row) (i : Nat) : Int := (w.take i).sum
theorem pre_succ {w : Row} {i : Nat} {p : Int} (h : w[i]? = some p) : pre w (i + 1) = pre w i + p := by
  unfold pre; rw [List.take_add_one, h]
  show (w.take i ++ [p]).sum = _
  rw [List.sum_append, List.sum_singleton]
structure StepOk (w : Row) (e : Rule) : Prop where
  x0 : 0 ≤ e.1
  x1 : e.1 ≤ w.length
  y0 : 0 ≤ e.2.1
  y1 : e.2.1 ≤ w.length
  le : pre w e.1.toNat + e.2.2 ≤ pre w e.2.1.toNat
  lo : -8 ≤ e.2.2
def kk (x y : Int) : List Key := [Sum.inl x, Sum.inl y]
def TabOk (w : Row) (kvs : List (List Key × V)) : Prop := ∀ p ∈ kvs, ∃ e : Rule, p.1 = kk e.1 e.2.1 ∧ p.2 = .int e.2.2 ∧ StepOk w e
theorem valV_mem {kvs : List (List Key × V)} {k : List Key} {v : V} (h : valV kvs k = some v) : (k, v) ∈ kvs := by
  unfold valV at h
  obtain ⟨z, hz, ez⟩ := Option.map_eq_some_iff.mp h
  have h1 := List.mem_of_find?_eq_some hz
  have h2 : z.1 = k := by simpa using List.find?_some hz
  have : z = (k, v) := Prod.ext h2 ez
  rw [← this]; exact h1
theorem mem_putT {kvs : List (List Key × V)} {k : List Key} {v : V} {p : List Key × V} (h : p ∈ putK kvs k v) : p = (k, v) ∨ p ∈ kvs := by
  unfold putK at h
  by_cases a : (kvs.any fun kv => decide (kv.1 = k)) = true
  · rw [if_pos a] at h
    obtain ⟨x, hx, e⟩ := List.mem_map.mp h
    by_cases c : x.1 = k
    · rw [if_pos c, c] at e; exact .inl e.symm
    · rw [if_neg c] at e; exact .inr (e ▸ hx)
  · rw [if_neg a] at h
    rcases List.mem_append.mp h with h | h
    · exact .inr h
    · exact .inl (List.mem_singleton.mp h)
theorem put_lenT {kvs : List (List Key × V)} {k : List Key} {v : V} : (putK kvs k v).length ≤ kvs.length + 1 := by
  unfold putK
  split
  · rw [List.length_map]; omega
  · rw [List.length_append]; exact Nat.le_refl _
theorem TabOk.put {w : Row} {kvs : List (List Key × V)} (t : TabOk w kvs) {x y m : Int} (h : StepOk w (x, y, m)) : TabOk w (putK kvs (kk x y) (.int m)) := fun p hp =>
  (mem_putT hp).elim (fun e => ⟨(x, y, m), by rw [e], by rw [e], h⟩) (t p)
theorem TabOk.get {w : Row} {kvs : List (List Key × V)} (t : TabOk w kvs) {x y : Int} {v : V} (h : valV kvs (kk x y) = some v) : ∃ m, v = .int m ∧ StepOk w (x, y, m) := by
  obtain ⟨e, e1, e2, e3⟩ := t _ (valV_mem h)
  injection e1 with e1 e4
  injection e1 with e1
  injection e4 with e4 _
  injection e4 with e4
  refine ⟨e.2.2, e2, ?_⟩
  rw [e1, e4]; exact e3
def HasT (kvs : List (List Key × V)) (x y : Int) : Prop := (valV kvs (kk x y)).isSome = true
theorem HasT.put {kvs : List (List Key × V)} {x y : Int} {k : List Key} {v : V} (h : HasT kvs x y) : HasT (putK kvs k v) x y := by
  unfold HasT at *
  rw [valV_put]
  split
  · rfl
  · exact h
theorem HasT.new {kvs : List (List Key × V)} {x y : Int} {v : V} : HasT (putK kvs (kk x y) v) x y := by
  unfold HasT
  rw [valV_put, if_pos rfl]; rfl
structure StepsOk (w : Row) (T : List Rule) : Prop where
  all : ∀ e ∈ T, StepOk w e
  up : ∀ j : Nat, j < w.length → ∃ m, ((j : Int), (j : Int) + 1, m) ∈ T
  dn : ∀ j : Nat, j < w.length → ∃ m, ((j : Int) + 1, (j : Int), m) ∈ T
  few : T.length ≤ 2000
theorem TabOk.getD {w : Row} {kvs : List (List Key × V)} (t : TabOk w kvs) {x y m0 : Int} (h : StepOk w (x, y, m0)) : ∃ i, (valV kvs (kk x y)).getD (.int m0) = .int i ∧ StepOk w (x, y, if m0 > i then m0 else i) := by
  cases e : valV kvs (kk x y) with
  | none => exact ⟨m0, rfl, by rw [if_neg (by omega)]; exact h⟩
  | some v =>
    obtain ⟨m, rfl, so⟩ := t.get e
    refine ⟨m, rfl, ?_⟩
    split
    · exact h
    · exact so
theorem triples {w : Row} {kvs : List (List Key × V)} (t : TabOk w kvs) : ∀ l : List (List Key × V), (∀ p ∈ l, p ∈ kvs) → ∃ T : List Rule, Paired (fun p e => p.1 = kk e.1 e.2.1 ∧ valV kvs p.1 = some (.int e.2.2)) l T ∧ ∀ e ∈ T, StepOk w e
  | [], _ => ⟨[], .nil, fun _ h => by cases h⟩
  | p :: l, h => by
    obtain ⟨T, h1, h2⟩ := triples t l fun q hq => h q (List.mem_cons_of_mem _ hq)
    obtain ⟨e, e1, e2, e3⟩ := t p (h p List.mem_cons_self)
    have hs : (valV kvs p.1).isSome = true := by
      rw [← valV_any]
      exact List.any_eq_true.mpr ⟨p, h p List.mem_cons_self, decide_eq_true rfl⟩
    obtain ⟨v, hv⟩ := Option.isSome_iff_exists.mp hs
    obtain ⟨m, rfl, so⟩ := t.get (x := e.1) (y := e.2.1) (by rw [← e1]; exact hv)
    refine ⟨(e.1, e.2.1, m) :: T, .cons ⟨e1, hv⟩ h1, fun z hz => ?_⟩
    rcases List.mem_cons.mp hz with rfl | hz
    · exact so
    · exact h2 z hz
section
variable {P : Program} {w : World} {K : PySem.W.Frag} {mg : Str → Option Value} {base : Heap}
def N_steps_of : List Str := ["rules", "told", "found", "at", "place", "span", "least", "most", "one", "other"]
theorem sc_steps_of : FnScope N_steps_of ["rules", "told"] (defScope S_steps_of) := ⟨rfl, rfl, rfl, by decide +kernel, rfl, by decide +kernel, by decide +kernel⟩
def spSteps : Sp := fun vs H Q _ => ∃ rv tv rs ds wr, vs = [rv, tv] ∧ RulesAt H rv rs ∧ RulesOk rs ∧ ToldAt H tv ds ∧ ToldOk ds ∧ Fills rs ds wr ∧
  ∀ p H' xs T, H p = none → Same H H' → H' p = some (.lst xs) → Paired (RuleAt H') xs T → StepsOk wr T → Q (.ref p) H'
structure ST (wr : Row) (H : Hp) (F : Addr) (H' : Hp) (kvs : List (List Key × V)) (i c : Nat) : Prop where
  sm : Same H H'
  nF : H F = none
  hF : H' F = some (.dT kvs)
  ok : TabOk wr kvs
  len : kvs.length ≤ c
  has : ∀ j : Nat, j < i → HasT kvs (j : Int) ((j : Int) + 1) ∧ HasT kvs ((j : Int) + 1) (j : Int)
theorem ST.put {wr : Row} {H : Hp} {F : Addr} {H' : Hp} {kvs : List (List Key × V)} {i c : Nat} (s : ST wr H F H' kvs i c) {x y m : Int} (h : StepOk wr (x, y, m)) : ST wr H F (upd H' F (.dT (putK kvs (kk x y) (.int m)))) (putK kvs (kk x y) (.int m)) i (c + 1) :=
  ⟨fun b o e => by rw [upd_ne (ne_of_none e s.nF)]; exact s.sm _ _ e, s.nF, upd_same, s.ok.put h, Nat.le_trans put_lenT (Nat.add_le_add_right s.len 1), fun j hj => ⟨(s.has j hj).1.put, (s.has j hj).2.put⟩⟩
theorem ST.same {wr : Row} {H : Hp} {F : Addr} {H' H2 : Hp} {kvs : List (List Key × V)} {i c : Nat} (s : ST wr H F H' kvs i c) (e : Same H' H2) : ST wr H F H2 kvs i c := ⟨s.sm.trans e, s.nF, e _ _ s.hF, s.ok, s.len, s.has⟩
def PvSt1 (wr : Row) (rv tv : V) (H : Hp) (F : Addr) (i : Nat) (σ : L2.St) (H' : Hp) : Prop :=
  ∃ kvs x3 x4 x5 x6 x7 x8 x9, σ = [some rv, some tv, some (.ref F), x3, x4, x5, x6, x7, x8, x9] ∧ ST wr H F H' kvs i (2 * i)
def PvSt2 (wr : Row) (n : Nat) (rv tv : V) (H : Hp) (F : Addr) (i : Nat) (σ : L2.St) (H' : Hp) : Prop :=
  ∃ kvs x3 x4 x5 x6 x7 x8 x9, σ = [some rv, some tv, some (.ref F), x3, x4, x5, x6, x7, x8, x9] ∧ ST wr H F H' kvs n (240 + 242 * i)
def PvSt3 (wr : Row) (n : Nat) (rv tv : V) (H : Hp) (F : Addr) (r : Rule) (i j : Nat) (σ : L2.St) (H' : Hp) : Prop :=
  ∃ kvs x3 x4 x8 x9, σ = [some rv, some tv, some (.ref F), x3, x4, some (.int r.1), some (.int r.2.1), some (.int r.2.2), x8, x9] ∧ ST wr H F H' kvs n (240 + 242 * i + 2 * j)
theorem ok_steps_of (Dd : Dn K mg "steps_of" S_steps_of) (bf : Bf mg) : Cl P w K mg base 1 "steps_of" spSteps := by
  refine Dd.ok sc_steps_of (fun vs H Q E h => ?_) (fun _ _ _ _ _ _ us hl => match us, hl with | [_, _], _ => rfl) (fun f cdv A outer s H vs Q E hr h => ?_)
  · obtain ⟨rv, tv, rs, ds, wr, rfl, _⟩ := h; rfl
  · obtain ⟨rv, tv, rs, ds, wr, rfl, hR, ok, ⟨ta, rfl, hta⟩, tok, fl, k⟩ := h
    obtain ⟨a, zs, rfl, ha, pz⟩ := id hR
    have nd := sc_steps_of.nd
    have hu := hu_of hr
    have dl := tok.len
    have fll := fl.len
    refine ⟨_, (pss_cons (ps_set (i := 2) nd rfl (Or.inr rfl) pe_dnewT)
    (pss_cons (ps_for PassesOwn.never rfl (pi_enumT rfl bf.enumerate (pa_cons (pv 1) pa_nil)) (pg_tup rfl (pgs_cons (pg_name (i := 3) nd rfl (Or.inl rfl)) (pgs_cons (pg_name (i := 4) nd rfl (Or.inl rfl)) pgs_nil)))
    (pss_cons (ps_dput hu (pv 2) (pe_tup (pa_cons (pv 3) (pa_cons (pe_op op_add (pv 3) pe_int) pa_nil))) (pe_callTy call_int1 rfl bf.int bt_int (pa_cons (pe_cmpR op_eq (pv 4) pe_int (nomark _)) pa_nil)) rfl)
    (pss_one (ps_dput hu (pv 2) (pe_tup (pa_cons (pe_op op_add (pv 3) pe_int) (pa_cons (pv 3) pa_nil))) (pe_ifExp (pt_cmpR op_eq (pv 4) pe_int (nomark _)) pe_int (pe_un un_neg pe_int)) rfl))))
    (pss_cons (ps_for PassesOwn.never rfl (pi_tup (pv 0)) (pg_tup rfl (pgs_cons (pg_name (i := 5) nd rfl (Or.inl rfl)) (pgs_cons (pg_name (i := 6) nd rfl (Or.inl rfl)) (pgs_cons (pg_name (i := 7) nd rfl (Or.inl rfl)) pgs_nil))))
    (pss_one (ps_for PassesOwn.never rfl (pi_range1 rfl bf.range (pa_cons (pe_op op_sub (pe_op op_add (pe_callB call_len_seq rfl bf.len bt_len (pa_cons (pv 1) pa_nil)) pe_int) (pv 5)) pa_nil)) (pg_name (i := 3) nd rfl (Or.inl rfl))
    (pss_cons (ps_dput hu (pv 2) (pe_tup (pa_cons (pv 3) (pa_cons (pe_op op_add (pv 3) (pv 5)) pa_nil))) (pe_callB (call_max2 rfl) rfl bf.max bt_max (pa_cons (pe_dget2 hu (pv 2) (pe_tup (pa_cons (pv 3) (pa_cons (pe_op op_add (pv 3) (pv 5)) pa_nil))) (pv 6) ⟨rfl, rfl, rfl, rfl⟩) (pa_cons (pv 6) pa_nil))) rfl)
    (pss_one (ps_dput hu (pv 2) (pe_tup (pa_cons (pe_op op_add (pv 3) (pv 5)) (pa_cons (pv 3) pa_nil))) (pe_callB (call_max2 rfl) rfl bf.max bt_max (pa_cons (pe_dget2 hu (pv 2) (pe_tup (pa_cons (pe_op op_add (pv 3) (pv 5)) (pa_cons (pv 3) pa_nil))) (pe_un un_neg (pv 7)) ⟨rfl, rfl, rfl, rfl⟩) (pa_cons (pe_un un_neg (pv 7)) pa_nil))) rfl))))))
    (pss_one (ps_ret (pe_lc (own := [("one", 8), ("other", 9)]) rfl nd (pi_list (pe_callB (cr_sortedDT rfl) rfl bf.sorted bt_sorted (pa_cons (pv 2) pa_nil))) (blkOk_by (own := [("one", 8), ("other", 9)]) (N := N_steps_of) (sc := defScope S_steps_of) (by decide +kernel)) (fun _ _ _ _ _ => (pg_tupK (K := K) (n := 2) rfl rfl (pgs_cons (pg_name (i := 8) nd rfl (Or.inl rfl) (Or.inr rfl)) (pgs_cons (pg_name (i := 9) nd rfl (Or.inl rfl) (Or.inr rfl)) pgs_nil)))) (fun _ _ _ _ _ => pts_nil) (fun _ _ _ _ _ => (pe_tup (pa_cons (pv 8) (pa_cons (pv 9) (pa_cons (pe_dget hu (pv 2) (pe_tup (pa_cons (pv 8) (pa_cons (pv 9) pa_nil))) (fun _ _ => rfl)) pa_nil))))))))))), ?_⟩
    refine fun F hF => ?_
    have s1 : Same H (upd H F (.dT [])) := Same.new hF
    refine ⟨_, rfl, ta, _, rfl, SqT.of (s1 _ _ hta), for_it walk_enumT (PvSt1 wr (.ref a) (.ref ta) H F) ⟨[], _, _, _, _, _, _, _, rfl, ⟨s1, hF, upd_same, fun p hp => (by cases hp), Nat.le_refl _, fun j hj => absurd hj (Nat.not_lt_zero _)⟩⟩ (fun i σ H' _ ⟨_, _, _, _, _, _, _, _, _, st⟩ => SqT.of (st.sm _ _ hta)) ?_ ?_⟩
    · rintro i x σ H1 H2 hi ⟨kvs, x3, x4, x5, x6, x7, x8, x9, rfl, st⟩ ⟨T, y1, y2, rfl, nT, rfl, e1, e2⟩
      cases e1
      obtain ⟨o, ho, rfl⟩ : ∃ o, ds[i]? = some o ∧ y2 = oV o := by
        have e2 : (ds.map oV)[i]? = some y2 := e2
        rw [List.getElem?_map] at e2
        obtain ⟨p, hp, e⟩ := Option.map_eq_some_iff.mp e2
        exact ⟨p, hp, e.symm⟩
      have hil := (List.getElem?_eq_some_iff.mp ho).1
      obtain ⟨p, hp⟩ : ∃ p, wr[i]? = some p := ⟨_, List.getElem?_eq_getElem (by omega)⟩
      have hm := fl.told i o p ho hp
      have hp01 := fl.fine.bits p (List.mem_of_getElem? hp)
      have ps := pre_succ hp
      have sT := Same.new (o := .tup [.int (i : Nat), oV o]) nT
      have st1 := st.same sT
      refine ⟨T, _, rfl, SqT.of upd_same, rfl, _, _, rfl, _, _, rfl, rfl, ?_⟩
      have len1 := st1.len
      refine ⟨_, rfl, by cases o <;> rfl, .inr ⟨_, rfl, _, rfl, _, rfl, _, rfl, _, _, rfl, rfl, sz (by show 2 ≤ 100000; decide), fun c hc => ?_⟩⟩
      have sc := Same.new (o := .tup [.int (i : Nat), .int ((i : Nat) + 1)]) hc
      have st2 := st1.same sc
      have so1 : StepOk wr ((i : Nat), (i : Nat) + 1, if decide (oV o = .int 1) = true then 1 else 0) := by
        refine ⟨by omega, by show ((i : Nat) : Int) ≤ _; omega, by show (0 : Int) ≤ (i : Nat) + 1; omega, by show ((i : Nat) : Int) + 1 ≤ _; omega, ?_, by show (-8 : Int) ≤ if decide (oV o = .int 1) = true then 1 else 0; split <;> omega⟩
        show pre wr ((i : Nat) : Int).toNat + (if decide (oV o = .int 1) = true then (1 : Int) else 0) ≤ pre wr (((i : Nat) : Int) + 1).toNat
        rw [show (((i : Nat) : Int) + 1).toNat = i + 1 by omega, Int.toNat_natCast, ps]
        by_cases q : decide (oV o = .int 1) = true
        · rw [if_pos q]
          have : o = some 1 := by
            cases o with
            | none => simp [oV] at q
            | some z => have q := of_decide_eq_true q; injection q with q; rw [q]
          subst this
          have : (1 : Int) = p := of_decide_eq_true hm
          omega
        · rw [if_neg q]; rcases hp01 with rfl | rfl <;> omega
      have st3 := st2.put so1
      refine ⟨F, _, rfl, DPut.t (k := kk (i : Nat) ((i : Nat) + 1)) st2.hF upd_same (szl (by omega)), ?_⟩
      have len3 := st3.len
      have so2 : StepOk wr ((i : Nat) + 1, (i : Nat), if decide (oV o = .int 0) = true then 0 else -1) := by
        refine ⟨by show (0 : Int) ≤ (i : Nat) + 1; omega, by show ((i : Nat) : Int) + 1 ≤ _; omega, by show (0 : Int) ≤ (i : Nat); omega, by show ((i : Nat) : Int) ≤ _; omega, ?_, by show (-8 : Int) ≤ if decide (oV o = .int 0) = true then 0 else -1; split <;> omega⟩
        show pre wr (((i : Nat) : Int) + 1).toNat + (if decide (oV o = .int 0) = true then (0 : Int) else -1) ≤ pre wr ((i : Nat) : Int).toNat
        rw [show (((i : Nat) : Int) + 1).toNat = i + 1 by omega, Int.toNat_natCast, ps]
        by_cases q : decide (oV o = .int 0) = true
        · rw [if_pos q]
          have : o = some 0 := by
            cases o with
            | none => simp [oV] at q
            | some z => have q := of_decide_eq_true q; injection q with q; rw [q]
          subst this
          have : (0 : Int) = p := of_decide_eq_true hm
          omega
        · rw [if_neg q]; rcases hp01 with rfl | rfl <;> omega
      have fin : ∀ (H9 : Hp), Same (upd (upd (upd H1 T (.tup [.int (i : Nat), oV o])) c (.tup [.int (i : Nat), .int ((i : Nat) + 1)])) F (.dT (putK kvs (kk (i : Nat) ((i : Nat) + 1)) (.int (if decide (oV o = .int 1) = true then 1 else 0))))) H9 → ∀ c2, H9 c2 = some (.tup [.int ((i : Nat) + 1), .int (i : Nat)]) → ∀ z, z = (if decide (oV o = .int 0) = true then (0 : Int) else -1) →
          ∃ H10, DPut H9 F (.ref c2) (.int z) H10 ∧ PvSt1 wr (.ref a) (.ref ta) H F (i + 1) [some (.ref a), some (.ref ta), some (.ref F), some (.int (i : Nat)), some (oV o), x5, x6, x7, x8, x9] H10 := fun H9 s9 c2 h2 z ez => by
        subst ez
        have st4 := st3.same s9
        have len4 := st4.len
        have st5 := st4.put so2
        have st6 : ST wr H F _ _ (i + 1) (2 * (i + 1)) := ⟨st5.sm, st5.nF, st5.hF, st5.ok, by have := st5.len; omega, fun j hj => by
          rcases Nat.lt_or_ge j i with c | c
          · exact st5.has j c
          · have : j = i := by omega
            subst this
            exact ⟨HasT.put HasT.new, HasT.new⟩⟩
        exact ⟨_, DPut.t (k := kk ((i : Nat) + 1) (i : Nat)) st4.hF h2 (szl (by omega)), _, _, _, _, _, _, _, _, rfl, st6⟩
      refine ⟨_, rfl, by cases o <;> rfl, _, rfl, ?_⟩
      refine ite2 (fun q => ?_) (fun q => ?_)
      · refine ⟨_, rfl, _, rfl, _, _, rfl, rfl, _, rfl, sz (by show 2 ≤ 100000; decide), fun c2 hc2 => ?_⟩
        obtain ⟨H10, g1, g2⟩ := fin _ (Same.new hc2) c2 upd_same 0 (if_pos q).symm
        exact ⟨F, H10, rfl, g1, g2⟩
      · refine ⟨_, rfl, _, rfl, _, rfl, _, _, rfl, rfl, _, rfl, sz (by show 2 ≤ 100000; decide), fun c2 hc2 => ?_⟩
        obtain ⟨H10, g1, g2⟩ := fin _ (Same.new hc2) c2 upd_same (-1) (if_neg q).symm
        exact ⟨F, H10, rfl, g1, g2⟩
    · rintro σ H1 ⟨kvs, x3, x4, x5, x6, x7, x8, x9, rfl, st⟩
      rw [List.length_map] at st
      refine ⟨_, rfl, a, rfl, ⟨_, SqT.of (st.sm _ _ ha)⟩, for_tup (xs := zs) (PvSt2 wr ds.length (.ref a) (.ref ta) H F) ⟨kvs, _, _, _, _, _, _, _, rfl, st.sm, st.nF, st.hF, st.ok, by have := st.len; omega, st.has⟩ (fun i σ H' _ ⟨_, _, _, _, _, _, _, _, _, st⟩ => SqT.of (st.sm _ _ ha)) ?_ ?_⟩
      · rintro i x σ H2 hi ⟨kvs, x3, x4, x5, x6, x7, x8, x9, rfl, st⟩
        obtain ⟨r, hri, ⟨b, rfl, hb⟩⟩ := Paired.get pz hi
        have hrm := List.mem_of_getElem? hri
        have ro := ok.one r hrm
        have hi5 : i < 5 := by have := (List.getElem?_eq_some_iff.mp hri).1; have := ok.few; omega
        refine ⟨b, _, rfl, SqT.of (st.sm _ _ hb), rfl, _, _, rfl, _, _, rfl, _, _, rfl, rfl, ?_⟩
        refine ⟨_, rfl, ta, _, rfl, .inr (SqT.of (st.sm _ _ hta)), _, _, rfl, rfl, _, rfl, _, _, rfl, rfl, _, rfl, by rw [List.length_map]; omega, by rw [List.length_map]; omega, for_range (PvSt3 wr ds.length (.ref a) (.ref ta) H F r i) ⟨kvs, _, _, _, _, rfl, st⟩ ?_ ?_⟩
        · rintro j σ H3 hj ⟨kvs, y3, y4, y8, y9, rfl, st⟩
          rw [List.length_map] at hj
          have hjl : j + r.1.toNat ≤ wr.length := by omega
          have wn := window ok fl.fine.fit hrm j hjl
          have eq1 : (0 + (j : Nat) : Int).toNat = j := by omega
          have eq2 : (0 + (j : Nat) + r.1 : Int).toNat = j + r.1.toNat := by omega
          have soA : StepOk wr (0 + (j : Nat), 0 + (j : Nat) + r.1, r.2.1) := ⟨by show (0 : Int) ≤ 0 + (j : Nat); omega, by show (0 + (j : Nat) : Int) ≤ _; omega, by show (0 : Int) ≤ 0 + (j : Nat) + r.1; omega, by show (0 + (j : Nat) + r.1 : Int) ≤ _; omega, by
            show pre wr (0 + (j : Nat) : Int).toNat + r.2.1 ≤ pre wr (0 + (j : Nat) + r.1 : Int).toNat
            rw [eq1, eq2]; exact wn.1, by show (-8 : Int) ≤ r.2.1; omega⟩
          have soB : StepOk wr (0 + (j : Nat) + r.1, 0 + (j : Nat), -r.2.2) := ⟨by show (0 : Int) ≤ 0 + (j : Nat) + r.1; omega, by show (0 + (j : Nat) + r.1 : Int) ≤ _; omega, by show (0 : Int) ≤ 0 + (j : Nat); omega, by show (0 + (j : Nat) : Int) ≤ _; omega, by
            show pre wr (0 + (j : Nat) + r.1 : Int).toNat + -r.2.2 ≤ pre wr (0 + (j : Nat) : Int).toNat
            rw [eq1, eq2]
            have := wn.2
            unfold pre; omega, by show (-8 : Int) ≤ -r.2.2; omega⟩
          have len0 := st.len
          refine ⟨_, rfl, F, rfl, .inr ⟨_, .inl st.hF⟩, _, rfl, _, rfl, _, rfl, _, _, rfl, rfl, sz (by show 2 ≤ 100000; decide), fun c hc => ?_⟩
          have st1 := st.same (Same.new (o := .tup [.int (0 + (j : Nat)), .int (0 + (j : Nat) + r.1)]) hc)
          obtain ⟨v1, g1, so1⟩ := st1.ok.getD soA
          refine ⟨_, rfl, _, DGet.t (k := kk (0 + (j : Nat)) (0 + (j : Nat) + r.1)) st1.hF upd_same, _, rfl, v1, r.2.1, by rw [g1], _, rfl, _, rfl, _, rfl, _, rfl, _, _, rfl, rfl, sz (by show 2 ≤ 100000; decide), fun c2 hc2 => ?_⟩
          have st2 := st1.same (Same.new (o := .tup [.int (0 + (j : Nat)), .int (0 + (j : Nat) + r.1)]) hc2)
          have st3 := st2.put so1
          refine ⟨F, _, rfl, DPut.t (k := kk (0 + (j : Nat)) (0 + (j : Nat) + r.1)) st2.hF upd_same (szl (by omega)), ?_⟩
          refine ⟨_, rfl, F, rfl, .inr ⟨_, .inl st3.hF⟩, _, rfl, _, rfl, _, _, rfl, rfl, _, rfl, sz (by show 2 ≤ 100000; decide), fun c3 hc3 => ?_⟩
          have st4 := st3.same (Same.new (o := .tup [.int (0 + (j : Nat) + r.1), .int (0 + (j : Nat))]) hc3)
          obtain ⟨v2, g2, so2⟩ := st4.ok.getD soB
          refine ⟨_, rfl, _, rfl, _, DGet.t (k := kk (0 + (j : Nat) + r.1) (0 + (j : Nat))) st4.hF upd_same, _, rfl, _, rfl, v2, -r.2.2, by rw [g2], _, rfl, _, rfl, _, rfl, _, _, rfl, rfl, _, rfl, sz (by show 2 ≤ 100000; decide), fun c4 hc4 => ?_⟩
          have st5 := st4.same (Same.new (o := .tup [.int (0 + (j : Nat) + r.1), .int (0 + (j : Nat))]) hc4)
          have st6 := st5.put so2
          have len5 := st5.len
          exact ⟨F, _, rfl, DPut.t (k := kk (0 + (j : Nat) + r.1) (0 + (j : Nat))) st5.hF upd_same (szl (by omega)), _, _, _, _, _, rfl, st6.sm, st6.nF, st6.hF, st6.ok, by have := st6.len; omega, st6.has⟩
        · rintro σ H3 ⟨kvs, y3, y4, y8, y9, rfl, st⟩
          exact ⟨kvs, _, _, _, _, _, _, _, rfl, st.sm, st.nF, st.hF, st.ok, by have := st.len; rw [List.length_map] at this; omega, st.has⟩
      · rintro σ H2 ⟨kvs, x3, x4, x5, x6, x7, x8, x9, rfl, st⟩
        have zl : zs.length ≤ 5 := by rw [Paired.len pz]; exact ok.few
        have len2 := st.len
        refine ⟨_, rfl, F, kvs, rfl, .inl st.hF, fun p hp => by obtain ⟨e, e1, _⟩ := st.ok p hp; exact ⟨_, _, e1⟩, fun p bs kvs' hp perm isk => ?_⟩
        have s3 := Same.new (o := .lst (bs.map V.ref)) hp
        obtain ⟨T, pT, aT⟩ := triples st.ok kvs' fun q hq => perm.mem_iff.mp hq
        have lT : T.length = kvs.length := by rw [← Paired.len pT, perm.length_eq]
        have lb : bs.length = T.length := by rw [← Paired.len pT]; exact (Paired.len isk).symm
        have so : StepsOk wr T := by
          have has : ∀ x y : Int, HasT kvs x y → ∃ m, (x, y, m) ∈ T := fun x y h => by
            obtain ⟨v, hv⟩ := Option.isSome_iff_exists.mp h
            obtain ⟨n, hn, e⟩ := List.getElem_of_mem (perm.mem_iff.mpr (valV_mem hv))
            obtain ⟨e', he', e1, e2⟩ := Paired.get pT (show kvs'[n]? = some (kk x y, v) by rw [List.getElem?_eq_getElem hn, e])
            injection e1 with e1 e4
            injection e1 with e1
            injection e4 with e4 _
            injection e4 with e4
            exact ⟨e'.2.2, by rw [e1, e4]; exact List.mem_of_getElem? he'⟩
          exact ⟨aT, fun j hj => has _ _ (st.has j (by omega)).1, fun j hj => has _ _ (st.has j (by omega)).2, by omega⟩
        refine ⟨p, rfl, ⟨_, SqL.of upd_same⟩, fun M hM => lc_map (n := T.length) (by rw [← lb, show bs.length = (bs.map V.ref).length by rw [List.length_map]]; exact walk_list) RuleAt T hM rfl (by omega) (fun _ _ _ _ e z => TupI.mono (TS.of e) z) (fun _ _ _ _ _ e z => TupI.mono (TS.lst e) z) (fun H4 e => SqL.of (e _ _ upd_same)) ?_ (gm_two 8 9) ?_⟩
        · rintro i x H4 H5 NT hi sm' ⟨rfl, hx⟩ put
          have hti : T[i]? = some T[i] := List.getElem?_eq_getElem hi
          obtain ⟨q, hq, q1, q2⟩ := Paired.get' pT hti
          obtain ⟨bb, hbb, hbt⟩ := Paired.get isk hq
          have ex : x = .ref bb := by
            rw [List.getElem?_map, hbb] at hx
            exact (Option.some.inj hx).symm
          subst ex
          have st4 := st.same (s3.trans sm')
          have hbt' := (s3.trans sm') _ _ hbt
          rw [q1] at hbt' q2
          refine ⟨bb, _, rfl, SqT.of hbt', rfl, _, _, rfl, _, _, rfl, rfl, rfl, ?_⟩
          refine ⟨_, rfl, _, rfl, _, rfl, _, rfl, _, rfl, sz (by show 2 ≤ 100000; decide), fun c hc => ?_⟩
          have st5 := st4.same (Same.new (o := .tup [.int T[i].1, .int T[i].2.1]) hc)
          refine ⟨F, .int T[i].2.2, rfl, by rw [← q2]; exact DGet.t (k := kk T[i].1 T[i].2.1) st5.hF upd_same, sz (by show 3 ≤ 100000; decide), fun c2 hc2 => ?_⟩
          exact put _ _ T[i] ((Same.new hc).trans (Same.new hc2)) hti ⟨c2, rfl, upd_same⟩
        · intro H4 ys sm' hM4 pr
          have nM : H M = none := ((st.sm.trans s3).free hM)
          exact k M H4 ys T nM (st.sm.trans (s3.trans sm')) hM4 pr so
end
end An
-- imports: M4 B0
/-! ### MP: least potentials, in plain Lean -/
namespace An
open PySem L2
structure Pot (n : Nat) (T : List Rule) (P : Nat → Int) : Prop where
  nn : ∀ x, x ≤ n → 0 ≤ P x
  le : ∀ e ∈ T, P e.1.toNat + e.2.2 ≤ P e.2.1.toNat
theorem sm_mono {f g : Nat → Int} : ∀ {n : Nat}, (∀ x, x < n → f x ≤ g x) → sm f n ≤ sm g n
  | 0, _ => Int.le_refl _
  | n + 1, h => by
    have ih := sm_mono (f := f) (g := g) (n := n) fun x hx => h x (by omega)
    have := h n (Nat.lt_succ_self n)
    show sm f n + f n ≤ sm g n + g n
    omega
theorem sm_lt {f g : Nat → Int} : ∀ {n y : Nat}, (∀ x, x < n → f x ≤ g x) → y < n → f y + 1 ≤ g y → sm f n + 1 ≤ sm g n
  | 0, _, _, hy, _ => absurd hy (Nat.not_lt_zero _)
  | n + 1, y, h, hy, hl => by
    have hn := h n (Nat.lt_succ_self n)
    show sm f n + f n + 1 ≤ sm g n + g n
    by_cases c : y = n
    · subst c
      have := sm_mono (f := f) (g := g) (n := y) fun x hx => h x (by omega)
      omega
    · have := sm_lt (f := f) (g := g) (n := n) (y := y) (fun x hx => h x (by omega)) (by omega) hl
      omega
theorem sm_nn {f : Nat → Int} {n : Nat} (h : ∀ x, x < n → 0 ≤ f x) : 0 ≤ sm f n := by
  induction n with
  | zero => exact Int.le_refl _
  | succ n ih =>
    have := ih fun x hx => h x (by omega)
    have := h n (Nat.lt_succ_self n)
    show 0 ≤ sm f n + f n
    omega
theorem sm_one {f : Nat → Int} {n : Nat} (h : ∀ x, x < n → f x ≤ 1) : sm f n ≤ n := by
  induction n with
  | zero => exact Int.le_refl _
  | succ n ih =>
    have := ih fun x hx => h x (by omega)
    have := h n (Nat.lt_succ_self n)
    show sm f n + f n ≤ _
    omega
def Least (n : Nat) (T : List Rule) (P : Nat → Int) : Prop := Pot n T P ∧ ∀ P', Pot n T P' → sm P (n + 1) ≤ sm P' (n + 1)
theorem pot_min {n : Nat} {T : List Rule} : ∀ (m : Nat) (P : Nat → Int), Pot n T P → (sm P (n + 1)).toNat ≤ m → ∃ P, Least n T P
  | m, P, h, hm => by
    by_cases c : ∃ P', Pot n T P' ∧ sm P' (n + 1) < sm P (n + 1)
    · obtain ⟨P', h1, h2⟩ := c
      have nn := sm_nn (f := P') (n := n + 1) fun x hx => h1.nn x (by omega)
      match m, hm with
      | 0, hm => omega
      | m + 1, hm => exact pot_min m P' h1 (by omega)
    · exact ⟨P, h, fun P' h' => Int.not_lt.mp fun z => c ⟨P', h', z⟩⟩
/-- a step that is tight leads out of the settled ones -/
theorem tight_out {n : Nat} {T : List Rule} {P F : Nat → Int} (l : Least n T P) (ht : ∀ e ∈ T, e.1.toNat ≤ n ∧ e.2.1.toNat ≤ n) (h0 : ∀ x, x ≤ n → 0 ≤ F x) (h1 : ∀ x, x ≤ n → F x ≤ P x) {y : Nat} (hy : y ≤ n) (hl : F y < P y) :
    ∃ e ∈ T, F e.1.toNat = P e.1.toNat ∧ F e.2.1.toNat < P e.2.1.toNat ∧ P e.1.toNat + e.2.2 = P e.2.1.toNat := by
  refine Classical.byContradiction fun no => ?_
  have pot : Pot n T (fun x => if F x = P x then P x else P x - 1) := by
    refine ⟨fun x hx => ?_, fun e he => ?_⟩
    · have a := h0 x hx
      have b := h1 x hx
      show 0 ≤ if F x = P x then P x else P x - 1
      split <;> omega
    · have a := l.1.le e he
      have b := h1 _ (ht e he).1
      have c := h1 _ (ht e he).2
      show (if F e.1.toNat = P e.1.toNat then P e.1.toNat else P e.1.toNat - 1) + e.2.2 ≤ if F e.2.1.toNat = P e.2.1.toNat then P e.2.1.toNat else P e.2.1.toNat - 1
      by_cases q1 : F e.1.toNat = P e.1.toNat
      · rw [if_pos q1]
        by_cases q2 : F e.2.1.toNat = P e.2.1.toNat
        · rw [if_pos q2]; exact a
        · rw [if_neg q2]
          by_cases q3 : P e.1.toNat + e.2.2 = P e.2.1.toNat
          · exact absurd ⟨e, he, q1, by omega, q3⟩ no
          · omega
      · rw [if_neg q1]
        split <;> omega
  have h2 := l.2 _ pot
  have h3 := sm_lt (f := fun x => if F x = P x then P x else P x - 1) (g := P) (n := n + 1) (y := y) (fun x hx => by show (if F x = P x then P x else P x - 1) ≤ P x; split <;> omega) (by omega) (by show (if F y = P y then P y else P y - 1) + 1 ≤ P y; rw [if_neg (by omega)]; omega)
  omega
/-- how many are settled -/
def setl (n : Nat) (P F : Nat → Int) : Int := sm (fun x => if F x = P x then 1 else 0) (n + 1)
theorem setl_le (n : Nat) (P F : Nat → Int) : setl n P F ≤ n + 1 := by
  have := sm_one (f := fun x => if F x = P x then 1 else 0) (n := n + 1) fun x _ => by show (if F x = P x then (1 : Int) else 0) ≤ 1; split <;> omega
  exact this
theorem setl_nn (n : Nat) (P F : Nat → Int) : 0 ≤ setl n P F := sm_nn fun x _ => by show 0 ≤ if F x = P x then (1 : Int) else 0; split <;> omega
theorem round_more {n : Nat} {T : List Rule} {P F F' : Nat → Int} (l : Least n T P) (ht : ∀ e ∈ T, e.1.toNat ≤ n ∧ e.2.1.toNat ≤ n) (h0 : ∀ x, x ≤ n → 0 ≤ F x) (h1 : ∀ x, x ≤ n → F x ≤ F' x) (h2 : ∀ x, x ≤ n → F' x ≤ P x)
    (h3 : ∀ e ∈ T, F e.1.toNat = P e.1.toNat → P e.1.toNat + e.2.2 = P e.2.1.toNat → F' e.2.1.toNat = P e.2.1.toNat) {y : Nat} (hy : y ≤ n) (hl : F y < F' y) : setl n P F + 1 ≤ setl n P F' := by
  obtain ⟨e, he, e1, e2, e3⟩ := tight_out l ht h0 (fun x hx => Int.le_trans (h1 x hx) (h2 x hx)) hy (by have := h2 y hy; omega)
  refine sm_lt (y := e.2.1.toNat) (fun x hx => ?_) (by have := (ht e he).2; omega) ?_
  · show (if F x = P x then (1 : Int) else 0) ≤ if F' x = P x then 1 else 0
    have a := h1 x (by omega)
    have b := h2 x (by omega)
    by_cases q : F x = P x
    · rw [if_pos q, if_pos (by omega)]; exact Int.le_refl _
    · rw [if_neg q]; split <;> omega
  · show (if F e.2.1.toNat = P e.2.1.toNat then (1 : Int) else 0) + 1 ≤ if F' e.2.1.toNat = P e.2.1.toNat then 1 else 0
    rw [if_neg (by omega), if_pos (h3 e he e1 e3)]; exact Int.le_refl _
/-! #### one round over the steps -/
def gx (fs : List Int) (x : Nat) : Int := fs.getD x 0
theorem gx_set {fs : List Int} {y : Nat} {v : Int} (hy : y < fs.length) (x : Nat) : gx (fs.set y v) x = if x = y then v else gx fs x := by
  unfold gx
  rw [List.getD_eq_getElem?_getD, List.getD_eq_getElem?_getD, List.getElem?_set]
  by_cases c : y = x
  · subst c; rw [if_pos rfl, if_pos hy, if_pos rfl]; rfl
  · rw [if_neg c, if_neg fun z => c z.symm]
structure Rnd (n : Nat) (T : List Rule) (P : Nat → Int) (f0 fs : List Int) (j : Nat) : Prop where
  len : fs.length = n + 1
  ge : ∀ x, x ≤ n → gx f0 x ≤ gx fs x
  le : ∀ x, x ≤ n → gx fs x ≤ P x
  tg : ∀ e ∈ T.take j, gx f0 e.1.toNat = P e.1.toNat → P e.1.toNat + e.2.2 = P e.2.1.toNat → gx fs e.2.1.toNat = P e.2.1.toNat
theorem Rnd.start {n : Nat} {T : List Rule} {P : Nat → Int} {f0 : List Int} (hl : f0.length = n + 1) (h : ∀ x, x ≤ n → gx f0 x ≤ P x) : Rnd n T P f0 f0 0 := ⟨hl, fun _ _ => Int.le_refl _, h, fun e he => by cases he⟩
theorem mem_take_succ {α : Type} {l : List α} {j : Nat} {e x : α} (h : l[j]? = some e) (m : x ∈ l.take (j + 1)) : x ∈ l.take j ∨ x = e := by
  rw [List.take_add_one, h] at m
  rcases List.mem_append.mp m with z | z
  · exact .inl z
  · exact .inr (List.mem_singleton.mp z)
theorem Rnd.stay {n : Nat} {T : List Rule} {P : Nat → Int} {f0 fs : List Int} {j : Nat} {e : Rule} (r : Rnd n T P f0 fs j) (he : T[j]? = some e) (hx : e.1.toNat ≤ n) (hy : e.2.1.toNat ≤ n) (h : gx fs e.1.toNat + e.2.2 ≤ gx fs e.2.1.toNat) : Rnd n T P f0 fs (j + 1) := by
  refine ⟨r.len, r.ge, r.le, fun z hz h1 h2 => ?_⟩
  rcases mem_take_succ he hz with m | rfl
  · exact r.tg z m h1 h2
  · have a := r.ge _ hx
    have b := r.le _ hx
    have c := r.le _ hy
    omega
theorem Rnd.raise {n : Nat} {T : List Rule} {P : Nat → Int} {f0 fs : List Int} {j : Nat} {e : Rule} (r : Rnd n T P f0 fs j) (pt : Pot n T P) (he : T[j]? = some e) (hx : e.1.toNat ≤ n) (hy : e.2.1.toNat ≤ n) (h : gx fs e.2.1.toNat < gx fs e.1.toNat + e.2.2) :
    Rnd n T P f0 (fs.set e.2.1.toNat (gx fs e.1.toNat + e.2.2)) (j + 1) := by
  have hyl : e.2.1.toNat < fs.length := by rw [r.len]; omega
  have pl := pt.le e (List.mem_of_getElem? he)
  have b := r.le _ hx
  refine ⟨by rw [List.length_set]; exact r.len, fun x hx' => ?_, fun x hx' => ?_, fun z hz h1 h2 => ?_⟩
  · rw [gx_set hyl]
    have := r.ge x hx'
    split
    · next q => subst q; omega
    · exact this
  · rw [gx_set hyl]
    have := r.le x hx'
    split
    · next q => subst q; omega
    · exact this
  · rw [gx_set hyl]
    rcases mem_take_succ he hz with m | rfl
    · have := r.tg z m h1 h2
      split
      · next q => rw [q] at this ⊢; omega
      · exact this
    · rw [if_pos rfl]
      have a := r.ge _ hx
      omega
end An
-- imports: G5 MP
/-! ### G6: led_round, where some row fills -/
namespace An
open PySem L2
theorem rep1 {α : Type} (v : α) : ∀ m : Nat, (List.replicate m [v]).flatten = List.replicate m v
  | 0 => rfl
  | m + 1 => by rw [List.replicate_succ, List.flatten_cons, rep1 v m]; rfl
theorem at_gx {fs : List Int} {i : Int} (h0 : 0 ≤ i) (h1 : i.toNat < fs.length) : atI (fs.map V.int) i = some (.int (gx fs i.toNat)) := by
  have e : i = ((i.toNat : Nat) : Int) := by omega
  rw [show atI (fs.map V.int) i = atI (fs.map V.int) ((i.toNat : Nat) : Int) by rw [← e]]
  refine atI_nat ?_
  rw [List.getElem?_map, List.getElem?_eq_getElem h1]
  unfold gx
  rw [List.getD_eq_getElem?_getD, List.getElem?_eq_getElem h1]; rfl
theorem ixN_nn {n : Nat} {i : Int} (h0 : 0 ≤ i) (h1 : i.toNat < n) : ixN n i = some i.toNat := by
  unfold ixN
  rw [if_pos (by omega)]
  split
  · rfl
  · omega
theorem pre_nn {w : Row} (h : ∀ x ∈ w, x = 0 ∨ x = 1) (i : Nat) : 0 ≤ pre w i := by
  unfold pre
  have : ∀ l : Row, (∀ x ∈ l, x = 0 ∨ x = 1) → 0 ≤ l.sum := fun l => by
    induction l with
    | nil => intro _; exact Int.le_refl _
    | cons x l ih =>
      intro hl
      have := ih fun y hy => hl y (List.mem_cons_of_mem _ hy)
      rcases hl x List.mem_cons_self with rfl | rfl <;> (rw [List.sum_cons]; omega)
  exact this _ fun x hx => h x (List.mem_of_mem_take hx)
structure LW (H : Hp) (Sa A C : Addr) (H' : Hp) (xs : List V) (T : List Rule) (fs : List Int) (cs : List V) : Prop where
  sm : Same H H'
  nA : H A = none
  nC : H C = none
  hS : H' Sa = some (.lst xs)
  pT : Paired (RuleAt H') xs T
  hA : H' A = some (.lst (fs.map V.int))
  hC : H' C = some (.lst cs)
  sA : Sa ≠ A
  sC : Sa ≠ C
  ac : A ≠ C
theorem LW.setA {H : Hp} {Sa A C : Addr} {H' : Hp} {xs : List V} {T : List Rule} {fs gs : List Int} {cs : List V} {ys : List V} (l : LW H Sa A C H' xs T fs cs) (e : ys = gs.map V.int) : LW H Sa A C (upd H' A (.lst ys)) xs T gs cs :=
  ⟨fun b o z => by rw [upd_ne (ne_of_none z l.nA)]; exact l.sm _ _ z, l.nA, l.nC, by rw [upd_ne l.sA]; exact l.hS, Paired.mp l.pT fun _ _ z => TupI.mono (TS.lst l.hA) z, by rw [upd_same, e], by rw [upd_ne (Ne.symm l.ac)]; exact l.hC, l.sA, l.sC, l.ac⟩
theorem LW.setC {H : Hp} {Sa A C : Addr} {H' : Hp} {xs : List V} {T : List Rule} {fs : List Int} {cs : List V} {ys : List V} (l : LW H Sa A C H' xs T fs cs) : LW H Sa A C (upd H' C (.lst ys)) xs T fs ys :=
  ⟨fun b o z => by rw [upd_ne (ne_of_none z l.nC)]; exact l.sm _ _ z, l.nA, l.nC, by rw [upd_ne l.sC]; exact l.hS, Paired.mp l.pT fun _ _ z => TupI.mono (TS.lst l.hC) z, by rw [upd_ne l.ac]; exact l.hA, upd_same, l.sA, l.sC, l.ac⟩
section
variable {P : Program} {w : World} {K : PySem.W.Frag} {mg : Str → Option Value} {base : Heap}
def N_led_round : List Str := ["rules", "told", "steps", "far", "came", "changed", "turn", "one", "other", "more", "here", "found"]
theorem sc_led_round : FnScope N_led_round ["rules", "told"] (defScope S_led_round) := ⟨rfl, rfl, rfl, by decide +kernel, rfl, by decide +kernel, by decide +kernel⟩
def spLed : Sp := fun vs H Q _ => ∃ rv tv rs ds wr, vs = [rv, tv] ∧ RulesAt H rv rs ∧ RulesOk rs ∧ ToldAt H tv ds ∧ ToldOk ds ∧ Fills rs ds wr ∧ ∀ H', Same H H' → Q .non H'
def PvLed (n : Nat) (Pt : Nat → Int) (rv tv : V) (H : Hp) (Sa A C : Addr) (xs : List V) (T : List Rule) (k : Nat) (σ : L2.St) (H' : Hp) : Prop :=
  ∃ fs cs x5 x6 x7 x8 x9 x10 x11, σ = [some rv, some tv, some (.ref Sa), some (.ref A), some (.ref C), x5, x6, x7, x8, x9, x10, x11] ∧ LW H Sa A C H' xs T fs cs ∧ cs.length = n + 1 ∧ fs.length = n + 1 ∧ (∀ x, x ≤ n → 0 ≤ gx fs x) ∧ (∀ x, x ≤ n → gx fs x ≤ Pt x) ∧ (k : Int) ≤ setl n Pt (gx fs)
def PvRnd (n : Nat) (Pt : Nat → Int) (rv tv : V) (H : Hp) (Sa A C : Addr) (xs : List V) (T : List Rule) (f0 : List Int) (j : Nat) (σ : L2.St) (H' : Hp) : Prop :=
  ∃ fs cs cv x6 x7 x8 x9 x10 x11, σ = [some rv, some tv, some (.ref Sa), some (.ref A), some (.ref C), some cv, x6, x7, x8, x9, x10, x11] ∧ LW H Sa A C H' xs T fs cs ∧ cs.length = n + 1 ∧ Rnd n T Pt f0 fs j ∧ ((cv = .non ∧ fs = f0) ∨ ((∃ z, cv = .int z) ∧ ∃ y, y ≤ n ∧ gx f0 y < gx fs y))
theorem ok_led_round (Dd : Dn K mg "led_round" S_led_round) (bf : Bf mg) (C_steps_of : Cl P w K mg base 1 "steps_of" spSteps) : Cl P w K mg base 2 "led_round" spLed := by
  refine Dd.ok sc_led_round (fun vs H Q E h => ?_) (fun _ _ _ _ _ _ us hl => match us, hl with | [_, _], _ => rfl) (fun f cdv A0 outer s H vs Q E hr h => ?_)
  · obtain ⟨rv, tv, rs, ds, wr, rfl, _⟩ := h; rfl
  · obtain ⟨rv, tv, rs, ds, wr, rfl, hR, ok, hT, tok, fl, k⟩ := h
    obtain ⟨ta, rfl, hta⟩ := id hT
    have nd := sc_led_round.nd
    have hr_steps_of := hr
    have dl := tok.len
    have fll := fl.len
    refine ⟨_, (pss_cons (ps_set (i := 2) nd rfl (Or.inl rfl) (pe_callC C_steps_of hr_steps_of rfl (pa_cons (pv 0) (pa_cons (pv 1) pa_nil))))
    (pss_cons (ps_set (i := 3) nd rfl (Or.inl rfl) (pe_op op_rep (pe_lst (pa_cons pe_int pa_nil)) (pe_op op_add (pe_callB call_len_seq rfl bf.len bt_len (pa_cons (pv 1) pa_nil)) pe_int)))
    (pss_cons (ps_set (i := 4) nd rfl (Or.inl rfl) (pe_op op_rep (pe_lst (pa_cons pe_non pa_nil)) (pe_op op_add (pe_callB call_len_seq rfl bf.len bt_len (pa_cons (pv 1) pa_nil)) pe_int)))
    (pss_cons (ps_set (i := 5) nd rfl (Or.inl rfl) pe_non)
    (pss_cons (ps_for PassesOwn.never rfl (pi_range1 rfl bf.range (pa_cons (pe_op op_add (pe_callB call_len_seq rfl bf.len bt_len (pa_cons (pv 1) pa_nil)) pe_int) pa_nil)) (pg_name (i := 6) nd rfl (Or.inl rfl))
    (pss_cons (ps_set (i := 5) nd rfl (Or.inl rfl) pe_non)
    (pss_cons (ps_for PassesOwn.never rfl (pi_list (pv 2)) (pg_tup rfl (pgs_cons (pg_name (i := 7) nd rfl (Or.inl rfl)) (pgs_cons (pg_name (i := 8) nd rfl (Or.inl rfl)) (pgs_cons (pg_name (i := 9) nd rfl (Or.inl rfl)) pgs_nil))))
    (pss_one (ps_if (pt_cmpR op_gt (pe_op op_add (pe_ix ix_list (pv 3) (pv 7) (fun _ _ => rfl)) (pv 9)) (pe_ix ix_list (pv 3) (pv 8) (fun _ _ => rfl)) (nomark _))
    (pss_cons (ps_asg (pe_op op_add (pe_ix ix_list (pv 3) (pv 7) (fun _ _ => rfl)) (pv 9)) (pg_sub (pv 3) (pv 8) set_list))
    (pss_cons (ps_asg (pv 7) (pg_sub (pv 4) (pv 8) set_list))
    (pss_one (ps_set (i := 5) nd rfl (Or.inl rfl) (pv 8)))))
    pss_nil)))
    (pss_one (ps_if (pt_cmpR op_isN (pv 5) pe_non (nomark _))
    (pss_one (ps_ret pe_non))
    pss_nil)))))
    (pss_cons (ps_set (i := 10) nd rfl (Or.inl rfl) (pv 5))
    (pss_cons (ps_for PassesOwn.never rfl (pi_range1 rfl bf.range (pa_cons (pe_op op_add (pe_callB call_len_seq rfl bf.len bt_len (pa_cons (pv 1) pa_nil)) pe_int) pa_nil)) (pg_name (i := 6) nd rfl (Or.inl rfl))
    (pss_one (ps_set (i := 10) nd rfl (Or.inl rfl) (pe_ix ix_list (pv 4) (pv 10) (fun _ _ => rfl)))))
    (pss_cons (ps_set (i := 11) nd rfl (Or.inl rfl) (pe_lst (pa_cons (pv 10) pa_nil)))
    (pss_cons (ps_while PassesOwn.never (pt_cmpR (op_neD hr.units) (pe_ix ix_list (pv 4) (pe_ix ix_list (pv 11) (pe_un un_neg pe_int) (fun _ _ => rfl)) (fun _ _ => rfl)) (pv 10) (nomark _))
    (pss_one (ps_expr (pe_bm PySem.F.plainAttrs_list PySem.F.slot_list_append PySem.F.type_list_append mt_append (pv 11) (pa_cons (pe_ix ix_list (pv 4) (pe_ix ix_list (pv 11) (pe_un un_neg pe_int) (fun _ _ => rfl)) (fun _ _ => rfl)) pa_nil)))))
    (pss_cons (ps_expr (pe_bm PySem.F.plainAttrs_list PySem.F.slot_list_append PySem.F.type_list_append mt_append (pv 11) (pa_cons (pv 10) pa_nil)))
    (pss_one (ps_ret (pe_revL (pv 11)))))))))))))), ?_⟩
    refine ⟨_, rfl, _, rfl, rv, .ref ta, rs, ds, wr, rfl, hR, ok, hT, tok, fl, fun Sa H1 xs T nS s1 hS pT so => ?_⟩
    have ht : ∀ e ∈ T, e.1.toNat ≤ wr.length ∧ e.2.1.toNat ≤ wr.length ∧ 0 ≤ e.1 ∧ 0 ≤ e.2.1 := fun e he => by
      have q := so.all e he
      exact ⟨by have := q.x1; have := q.x0; omega, by have := q.y1; have := q.y0; omega, q.x0, q.y0⟩
    obtain ⟨Pt, lst⟩ := pot_min (n := wr.length) (T := T) (sm (pre wr) (wr.length + 1)).toNat (pre wr) ⟨fun x _ => pre_nn fl.fine.bits x, fun e he => (so.all e he).le⟩ (Nat.le_refl _)
    refine ⟨sz (by show 1 ≤ 100000; decide), fun l0 hl0 => ⟨_, rfl, ta, _, rfl, .inr (SqT.of (((Same.new hl0 : Same H1 (upd H1 l0 (.lst [.int 0])))) _ _ (s1 _ _ hta))), _, _, rfl, rfl, l0, _, [.int 0], rfl, rfl, upd_same, by rw [List.length_map]; omega, by rw [List.length_map]; omega, sz (by rw [List.length_map]; show 1 * _ ≤ 100000; omega), fun A hA => ?_⟩⟩
    have s2 : Same H1 (upd H1 l0 (.lst [.int 0])) := Same.new hl0
    generalize hG1 : upd H1 l0 (.lst [.int 0]) = G1 at *
    have s3 : Same G1 (upd G1 A (.lst (List.replicate (((((ds.map oV).length : Nat) : Int) + 1).toNat) [V.int 0]).flatten)) := Same.new hA
    have hA3 : (upd G1 A (.lst (List.replicate (((((ds.map oV).length : Nat) : Int) + 1).toNat) [V.int 0]).flatten)) A = some (.lst ((List.replicate (wr.length + 1) (0 : Int)).map V.int)) := by
      rw [upd_same, rep1, List.map_replicate, List.length_map, show (((ds.length : Nat) : Int) + 1).toNat = wr.length + 1 by omega]
    generalize hG2 : upd G1 A (.lst (List.replicate (((((ds.map oV).length : Nat) : Int) + 1).toNat) [V.int 0]).flatten) = G2 at *
    refine ⟨sz (by show 1 ≤ 100000; decide), fun l1 hl1 => ?_⟩
    have s4 : Same G2 (upd G2 l1 (.lst [.non])) := Same.new hl1
    refine ⟨_, rfl, ta, _, rfl, .inr (SqT.of (s4 _ _ (s3 _ _ (s2 _ _ (s1 _ _ hta))))), _, _, rfl, rfl, l1, _, [.non], rfl, rfl, upd_same, by rw [List.length_map]; omega, by rw [List.length_map]; omega, sz (by rw [List.length_map]; show 1 * _ ≤ 100000; omega), fun C hC => ?_⟩
    have s5 : Same (upd G2 l1 (.lst [.non])) (upd (upd G2 l1 (.lst [.non])) C (.lst (List.replicate (((((ds.map oV).length : Nat) : Int) + 1).toNat) [V.non]).flatten)) := Same.new hC
    have hC5 : (upd (upd G2 l1 (.lst [.non])) C (.lst (List.replicate (((((ds.map oV).length : Nat) : Int) + 1).toNat) [V.non]).flatten)) C = some (.lst (List.replicate (wr.length + 1) V.non)) := by
      rw [upd_same, rep1, List.length_map, show (((ds.length : Nat) : Int) + 1).toNat = wr.length + 1 by omega]
    have s6 := s4.trans s5
    have sAll := (s1.trans (s2.trans s3)).trans s6
    have lw0 : LW H Sa A C (upd (upd G2 l1 (.lst [.non])) C (.lst (List.replicate (((((ds.map oV).length : Nat) : Int) + 1).toNat) [V.non]).flatten)) xs T (List.replicate (wr.length + 1) (0 : Int)) (List.replicate (wr.length + 1) V.non) :=
      ⟨sAll, (s1.trans s2).free hA, ((s1.trans (s2.trans s3)).trans s4).free hC, s6 _ _ (s3 _ _ (s2 _ _ hS)), Paired.mp pT fun _ _ z => TupI.mono (TS.of ((s2.trans s3).trans s6)) z, s6 _ _ hA3, hC5, (fun z => by subst z; rw [s2 _ _ hS] at hA; cases hA), (fun z => by subst z; rw [s4 _ _ (s3 _ _ (s2 _ _ hS))] at hC; cases hC), (fun z => by subst z; rw [s4 _ _ hA3] at hC; cases hC)⟩
    have g0 : ∀ x, gx (List.replicate (wr.length + 1) (0 : Int)) x = 0 := fun x => by
      unfold gx
      rw [List.getD_eq_getElem?_getD, List.getElem?_replicate]
      split <;> rfl
    refine ⟨_, rfl, ta, _, rfl, .inr (SqT.of (sAll _ _ hta)), _, _, rfl, rfl, _, rfl, by rw [List.length_map]; omega, by rw [List.length_map]; omega, for_range (PvLed wr.length Pt rv (.ref ta) H Sa A C xs T) ⟨_, _, _, _, _, _, _, _, _, rfl, lw0, List.length_replicate, List.length_replicate, fun x _ => by rw [g0]; exact Int.le_refl _, fun x hx => by rw [g0]; exact lst.1.nn x hx, setl_nn _ _ _⟩ ?_ ?_⟩
    · rintro kr σ Ha hk ⟨f0, cs, x5, x6, x7, x8, x9, x10, x11, rfl, lw, lc, lf, f0n, f0l, hset⟩
      refine ⟨_, rfl, Sa, rfl, ⟨_, SqL.of lw.hS⟩, for_list (xs := xs) (PvRnd wr.length Pt rv (.ref ta) H Sa A C xs T f0) ⟨f0, cs, _, _, _, _, _, _, _, rfl, lw, lc, Rnd.start lf f0l, .inl ⟨rfl, rfl⟩⟩ (fun i σ H' _ ⟨_, _, _, _, _, _, _, _, _, _, l, _⟩ => SqL.of l.hS) ?_ ?_⟩
      · rintro j x σ Hb hj ⟨fs, cs, cv, x6, x7, x8, x9, x10, x11, rfl, lw, lc, rd, ch⟩
        obtain ⟨e, he, ⟨b, rfl, hb⟩⟩ := Paired.get lw.pT hj
        obtain ⟨h1, h2, h3, h4⟩ := ht e (List.mem_of_getElem? he)
        have lf := rd.len
        have ax := at_gx (fs := fs) h3 (by omega)
        have ay := at_gx (fs := fs) h4 (by omega)
        refine ⟨b, _, rfl, SqT.of hb, rfl, _, _, rfl, _, _, rfl, _, _, rfl, rfl, ?_⟩
        refine ⟨_, rfl, _, rfl, A, _, _, _, rfl, rfl, SqL.of lw.hA, ax, _, rfl, _, _, rfl, rfl, _, rfl, _, rfl, A, _, _, _, rfl, rfl, SqL.of lw.hA, ay, _, _, rfl, rfl, _, rfl, ?_⟩
        refine ite2 (fun hg => ?_) (fun hg => ?_)
        · rw [decide_eq_true_eq] at hg
          refine ⟨_, rfl, _, rfl, A, _, _, _, rfl, rfl, SqL.of lw.hA, ax, _, rfl, _, _, rfl, rfl, _, rfl, _, rfl, A, _, _, e.2.1.toNat, rfl, rfl, lw.hA, ixN_nn h4 (by rw [List.length_map]; omega), ?_⟩
          have lw2 := lw.setA (gs := fs.set e.2.1.toNat (gx fs e.1.toNat + e.2.2)) (ys := (fs.map V.int).set e.2.1.toNat (.int (gx fs e.1.toNat + e.2.2))) (by rw [List.map_set])
          refine ⟨_, rfl, _, rfl, _, rfl, C, cs, _, e.2.1.toNat, rfl, rfl, lw2.hC, ixN_nn h4 (by omega), ?_⟩
          have lw3 := lw2.setC (ys := cs.set e.2.1.toNat (.int e.1))
          refine ⟨_, rfl, _, _, _, _, _, _, _, _, _, rfl, lw3, by rw [List.length_set]; exact lc, rd.raise lst.1 he h1 h2 hg, .inr ⟨⟨_, rfl⟩, e.2.1.toNat, h2, ?_⟩⟩
          rw [gx_set (by omega), if_pos rfl]
          have := rd.ge _ h2
          omega
        · rw [decide_eq_true_eq] at hg
          exact ⟨fs, cs, cv, _, _, _, _, _, _, rfl, lw, lc, rd.stay he h1 h2 (by omega), ch⟩
      · rintro σ Hb ⟨fs, cs, cv, x6, x7, x8, x9, x10, x11, rfl, lw', lc', rd, ch⟩
        rcases ch with ⟨rfl, rfl⟩ | ⟨⟨z, rfl⟩, y, hy, hl⟩
        · exact ⟨_, rfl, rfl, _, rfl, iteT (k _ lw'.sm)⟩
        · refine ⟨_, rfl, rfl, _, rfl, iteF ?_⟩
          have more := round_more lst (fun e he => ⟨(ht e he).1, (ht e he).2.1⟩) f0n rd.ge rd.le (fun e he => by
            refine rd.tg e ?_
            rw [Paired.len lw'.pT, List.take_of_length_le (Nat.le_refl _)]; exact he) hy hl
          exact ⟨fs, cs, _, _, _, _, _, _, _, rfl, lw', lc', rd.len, fun x hx => Int.le_trans (f0n x hx) (rd.ge x hx), rd.le, by omega⟩
    · rintro σ Ha ⟨f0, cs, x5, x6, x7, x8, x9, x10, x11, rfl, lw, lc, lf, f0n, f0l, hset⟩
      exfalso
      have := setl_le wr.length Pt (gx f0)
      rw [List.length_map] at hset
      omega
end
end An
-- imports: MP
/-! ### MQ: farthest ways, in plain Lean -/
namespace An
open PySem L2
/-- the chain of where one came from ends -/
inductive LedN (Ca : Nat → Option (Option Nat)) : Nat → Nat → Prop where
  | base {x : Nat} (h : Ca x = some none) : LedN Ca x 0
  | step {x u d : Nat} (h : Ca x = some (some u)) (l : LedN Ca u d) : LedN Ca x (d + 1)
def upF {α : Type} (f : Nat → α) (y : Nat) (v : α) : Nat → α := fun x => if x = y then v else f x
theorem upF_self {α : Type} {f : Nat → α} {y : Nat} {v : α} : upF f y v y = v := if_pos rfl
theorem upF_ne {α : Type} {f : Nat → α} {y x : Nat} {v : α} (h : x ≠ y) : upF f y v x = f x := if_neg h
def mis (n : Nat) (Fa : Nat → Option Int) : Int := sm (fun x => if Fa x = none then 1 else 0) (n + 1)
structure Far (n b : Nat) (S : Nat → Int) (Fa : Nat → Option Int) (Ca : Nat → Option (Option Nat)) : Prop where
  le : ∀ x v, Fa x = some v → v ≤ S x - S b
  lo : ∀ x v, Fa x = some v → -8 * ((n : Int) + 1 - mis n Fa) ≤ v
  dom : ∀ x v, Fa x = some v → x ≤ n
  cam : ∀ x, Fa x ≠ none → Ca x ≠ none
  led : ∀ x, Fa x ≠ none → ∃ d, LedN Ca x d
  mono : ∀ x u, Ca x = some (some u) → ∃ v v', Fa x = some v ∧ Fa u = some v' ∧ v - S x ≤ v' - S u
theorem mis_nn (n : Nat) (Fa : Nat → Option Int) : 0 ≤ mis n Fa := sm_nn fun x _ => by show 0 ≤ if Fa x = none then (1 : Int) else 0; split <;> omega
theorem mis_le (n : Nat) (Fa : Nat → Option Int) : mis n Fa ≤ n + 1 := by
  have := sm_one (f := fun x => if Fa x = none then 1 else 0) (n := n + 1) fun x _ => by show (if Fa x = none then (1 : Int) else 0) ≤ 1; split <;> omega
  exact this
theorem Far.start {n b : Nat} {S : Nat → Int} (hb : b ≤ n) : Far n b S (upF (fun _ => none) b (some 0)) (upF (fun _ => none) b (some none)) := by
  have one : ∀ x v, upF (fun _ => (none : Option Int)) b (some 0) x = some v → x = b ∧ v = 0 := fun x v h => by
    unfold upF at h
    split at h
    · next q => cases h; exact ⟨q, rfl⟩
    · cases h
  refine ⟨fun x v h => ?_, fun x v h => ?_, fun x v h => ?_, fun x h => ?_, fun x h => ?_, fun x u h => ?_⟩
  · obtain ⟨rfl, rfl⟩ := one x v h; omega
  · obtain ⟨rfl, rfl⟩ := one x v h
    have := mis_le n (upF (fun _ => none) x (some 0))
    omega
  · rw [(one x v h).1]; exact hb
  · unfold upF at *
    by_cases q : x = b
    · rw [if_pos q]; exact fun z => by cases z
    · rw [if_neg q] at h; exact absurd rfl h
  · by_cases q : x = b
    · subst q; exact ⟨0, .base upF_self⟩
    · rw [upF_ne q] at h; exact absurd rfl h
  · unfold upF at h
    split at h <;> cases h
section
variable {n b : Nat} {S : Nat → Int} {Fa : Nat → Option Int} {Ca : Nat → Option (Option Nat)}
/-- a step raises y by way of x -/
theorem Far.raise (f : Far n b S Fa Ca) {x y : Nat} {m vx : Int} (hx : Fa x = some vx) (hy : y ≤ n) (hs : S x + m ≤ S y) (hm : -8 ≤ m) (h : Fa y = none ∨ ∃ vy, Fa y = some vy ∧ vy < vx + m) : Far n b S (upF Fa y (some (vx + m))) (upF Ca y (some (some x))) := by
  have ne : x ≠ y := fun z => by
    subst z
    rcases h with h | ⟨vy, h1, h2⟩
    · rw [hx] at h; cases h
    · rw [hx] at h1; cases h1; omega
  have av : ∀ z d, LedN Ca z d → ∀ vz, Fa z = some vz → vx - S x ≤ vz - S z → z ≠ y ∧ LedN (upF Ca y (some (some x))) z d := fun z d l => by
    induction l with
    | @base z h0 =>
      intro vz hz hl
      have q : z ≠ y := fun e => by
        subst e
        rcases h with h | ⟨vy, h1, h2⟩
        · rw [hz] at h; cases h
        · rw [hz] at h1; cases h1; omega
      exact ⟨q, .base (by rw [upF_ne q]; exact h0)⟩
    | @step z u d h0 l ih =>
      intro vz hz hl
      have q : z ≠ y := fun e => by
        subst e
        rcases h with h | ⟨vy, h1, h2⟩
        · rw [hz] at h; cases h
        · rw [hz] at h1; cases h1; omega
      obtain ⟨v, v', g1, g2, g3⟩ := f.mono z u h0
      rw [hz] at g1; cases g1
      exact ⟨q, .step (by rw [upF_ne q]; exact h0) (ih v' g2 (by omega)).2⟩
  obtain ⟨dx, lx⟩ := f.led x (by rw [hx]; exact fun z => by cases z)
  have lx' := (av x dx lx vx hx (Int.le_refl _)).2
  have ly : LedN (upF Ca y (some (some x))) y (dx + 1) := .step upF_self lx'
  have all : ∀ z d, LedN Ca z d → ∃ d', LedN (upF Ca y (some (some x))) z d' := fun z d l => by
    induction l with
    | @base z h0 =>
      by_cases q : z = y
      · subst q; exact ⟨_, ly⟩
      · exact ⟨0, .base (by rw [upF_ne q]; exact h0)⟩
    | @step z u d h0 l ih =>
      by_cases q : z = y
      · subst q; exact ⟨_, ly⟩
      · obtain ⟨d', l'⟩ := ih
        exact ⟨d' + 1, .step (by rw [upF_ne q]; exact h0) l'⟩
  have misle : mis n (upF Fa y (some (vx + m))) ≤ mis n Fa := sm_mono fun z _ => by
    show (if upF Fa y (some (vx + m)) z = none then (1 : Int) else 0) ≤ if Fa z = none then 1 else 0
    by_cases q : z = y
    · subst q; rw [upF_self, if_neg (fun z => by cases z)]; split <;> omega
    · rw [upF_ne q]; exact Int.le_refl _
  have mislt : Fa y = none → mis n (upF Fa y (some (vx + m))) + 1 ≤ mis n Fa := fun hn => sm_lt (y := y) (fun z _ => by
    show (if upF Fa y (some (vx + m)) z = none then (1 : Int) else 0) ≤ if Fa z = none then 1 else 0
    by_cases q : z = y
    · subst q; rw [upF_self, if_neg (fun z => by cases z)]; split <;> omega
    · rw [upF_ne q]; exact Int.le_refl _) (by omega) (by
    show (if upF Fa y (some (vx + m)) y = none then (1 : Int) else 0) + 1 ≤ if Fa y = none then 1 else 0
    rw [upF_self, if_neg (fun z => by cases z), if_pos hn]; exact Int.le_refl _)
  refine ⟨fun z v hz => ?_, fun z v hz => ?_, fun z v hz => ?_, fun z hz => ?_, fun z hz => ?_, fun z u hz => ?_⟩
  · by_cases q : z = y
    · subst q; rw [upF_self] at hz; cases hz
      have := f.le x vx hx; omega
    · rw [upF_ne q] at hz; exact f.le z v hz
  · by_cases q : z = y
    · subst q
      rw [upF_self] at hz; cases hz
      have lx := f.lo x vx hx
      rcases h with h | ⟨vy, h1, h2⟩
      · have := mislt h; omega
      · have := f.lo z vy h1; omega
    · rw [upF_ne q] at hz
      have := f.lo z v hz
      omega
  · by_cases q : z = y
    · rw [q]; exact hy
    · rw [upF_ne q] at hz; exact f.dom z v hz
  · by_cases q : z = y
    · subst q; rw [upF_self]; exact fun z => by cases z
    · rw [upF_ne q] at hz ⊢; exact f.cam z hz
  · by_cases q : z = y
    · subst q; exact ⟨_, ly⟩
    · rw [upF_ne q] at hz
      obtain ⟨d, l⟩ := f.led z hz
      exact all z d l
  · by_cases q : z = y
    · subst q
      rw [upF_self] at hz
      cases hz
      exact ⟨vx + m, vx, upF_self, by rw [upF_ne ne]; exact hx, by omega⟩
    · rw [upF_ne q] at hz
      obtain ⟨v, v', g1, g2, g3⟩ := f.mono z u hz
      by_cases q2 : u = y
      · subst q2
        refine ⟨v, vx + m, by rw [upF_ne q]; exact g1, upF_self, ?_⟩
        rcases h with h | ⟨vy, h1, h2⟩
        · rw [g2] at h; cases h
        · rw [g2] at h1; cases h1; omega
      · exact ⟨v, v', by rw [upF_ne q]; exact g1, by rw [upF_ne q2]; exact g2, g3⟩
/-- what is still to be raised at most -/
def rem (n b : Nat) (S : Nat → Int) (Fa : Nat → Option Int) : Int := sm (fun x => match Fa x with | none => 8 * ((n : Int) + 1) + 1 + (S x - S b + 8 * ((n : Int) + 1)).toNat | some v => S x - S b - v) (n + 1)
theorem rem_nn (f : Far n b S Fa Ca) : 0 ≤ rem n b S Fa := sm_nn fun x _ => by
  cases e : Fa x with
  | none => show (0 : Int) ≤ 8 * ((n : Int) + 1) + 1 + ((S x - S b + 8 * ((n : Int) + 1)).toNat : Int); omega
  | some v => have := f.le x v e; show (0 : Int) ≤ S x - S b - v; omega
theorem rem_lt (f : Far n b S Fa Ca) {y : Nat} {v : Int} (hy : y ≤ n) (hv : v ≤ S y - S b) (hlo : -8 * ((n : Int) + 1) ≤ v) (h : Fa y = none ∨ ∃ vy, Fa y = some vy ∧ vy < v) : rem n b S (upF Fa y (some v)) + 1 ≤ rem n b S Fa := by
  refine sm_lt (y := y) (fun z hz => ?_) (by omega) ?_
  · by_cases q : z = y
    · subst q
      rw [upF_self]
      rcases h with h | ⟨vy, h1, h2⟩
      · rw [h]
        show S z - S b - v ≤ 8 * ((n : Int) + 1) + 1 + ((S z - S b + 8 * ((n : Int) + 1)).toNat : Int)
        omega
      · rw [h1]; show S z - S b - v ≤ S z - S b - vy; omega
    · rw [upF_ne q]; exact Int.le_refl _
  · rw [upF_self]
    rcases h with h | ⟨vy, h1, h2⟩
    · rw [h]
      show S y - S b - v + 1 ≤ 8 * ((n : Int) + 1) + 1 + ((S y - S b + 8 * ((n : Int) + 1)).toNat : Int)
      omega
    · rw [h1]; show S y - S b - v + 1 ≤ S y - S b - vy; omega
theorem LedN.uniq {x d d' : Nat} (h : LedN Ca x d) : LedN Ca x d' → d = d' := by
  induction h generalizing d' with
  | base h0 =>
    intro h'
    cases h' with
    | base _ => rfl
    | step h1 _ => rw [h0] at h1; cases h1
  | step h0 _ ih =>
    intro h'
    cases h' with
    | base h1 => rw [h0] at h1; cases h1
    | step h1 l => rw [h0] at h1; cases h1; rw [ih l]
theorem led_few (f : Far n b S Fa Ca) : ∀ (d x : Nat), Fa x ≠ none → LedN Ca x d → ∃ l : List Nat, l.length = d + 1 ∧ l.Nodup ∧ ∀ z ∈ l, z ≤ n ∧ ∃ k, k ≤ d ∧ LedN Ca z k
  | 0, x, hx, l => by
    obtain ⟨v, hv⟩ := Option.ne_none_iff_exists'.mp hx
    exact ⟨[x], rfl, by simp, fun z hz => by rw [List.mem_singleton.mp hz]; exact ⟨f.dom x v hv, 0, Nat.le_refl _, l⟩⟩
  | d + 1, x, hx, l => by
    obtain ⟨v, hv⟩ := Option.ne_none_iff_exists'.mp hx
    cases l with
    | @step _ u _ h0 l' =>
      obtain ⟨_, v', _, g2, _⟩ := f.mono x u h0
      obtain ⟨m, e1, e2, e3⟩ := led_few f d u (by rw [g2]; exact fun z => by cases z) l'
      refine ⟨x :: m, by rw [List.length_cons, e1], List.nodup_cons.mpr ⟨fun hm => ?_, e2⟩, fun z hz => ?_⟩
      · obtain ⟨_, k, hk, lk⟩ := e3 x hm
        have := LedN.uniq (.step h0 l') lk
        omega
      · rcases List.mem_cons.mp hz with rfl | hz
        · exact ⟨f.dom z v hv, d + 1, Nat.le_refl _, .step h0 l'⟩
        · obtain ⟨a, k, hk, lk⟩ := e3 z hz
          exact ⟨a, k, by omega, lk⟩
theorem led_depth (f : Far n b S Fa Ca) {d x : Nat} (hx : Fa x ≠ none) (l : LedN Ca x d) : d ≤ n := by
  obtain ⟨m, e1, e2, e3⟩ := led_few f d x hx l
  have q := nodup_le m (List.range (n + 1)) e2 fun z hz => List.mem_range.mpr (by have := (e3 z hz).1; omega)
  rw [e1, List.length_range] at q
  omega
end
end An
-- imports: G6 MQ E3
/-! ### G7: farthest, where some row fills -/
namespace An
open PySem L2
def FarAt (fk : List (Key × V)) (Fa : Nat → Option Int) : Prop := ∀ x : Nat, valV fk (Sum.inl (x : Int)) = (Fa x).map V.int
def cV : Option Nat → V
  | none => .non
  | some u => .int (u : Nat)
def CaAt (ck : List (Key × V)) (Ca : Nat → Option (Option Nat)) : Prop := ∀ x : Nat, valV ck (Sum.inl (x : Int)) = (Ca x).map cV
theorem nat_inj {x y : Nat} (h : (Sum.inl (x : Int) : Key) = Sum.inl (y : Int)) : x = y := by
  injection h with h; omega
theorem FarAt.put {fk : List (Key × V)} {Fa : Nat → Option Int} (h : FarAt fk Fa) (y : Nat) (v : Int) : FarAt (putK fk (Sum.inl (y : Int)) (.int v)) (upF Fa y (some v)) := fun x => by
  rw [valV_put]
  by_cases q : x = y
  · subst q; rw [if_pos rfl, upF_self]; rfl
  · rw [if_neg fun z => q (nat_inj z), upF_ne q]; exact h x
theorem CaAt.put {ck : List (Key × V)} {Ca : Nat → Option (Option Nat)} (h : CaAt ck Ca) (y : Nat) (u : Option Nat) : CaAt (putK ck (Sum.inl (y : Int)) (cV u)) (upF Ca y (some u)) := fun x => by
  rw [valV_put]
  by_cases q : x = y
  · subst q; rw [if_pos rfl, upF_self]; rfl
  · rw [if_neg fun z => q (nat_inj z), upF_ne q]; exact h x
structure KeysOk (n : Nat) (fk : List (Key × V)) : Prop where
  nd : (fk.map (·.1)).Nodup
  all : ∀ p ∈ fk, ∃ x : Nat, x ≤ n ∧ p.1 = Sum.inl (x : Int)
theorem KeysOk.put {n : Nat} {fk : List (Key × V)} (h : KeysOk n fk) {y : Nat} (hy : y ≤ n) (v : V) : KeysOk n (putK fk (Sum.inl (y : Int)) v) :=
  ⟨keys_put h.nd, fun p hp => (mem_put hp).elim (fun e => ⟨y, hy, by rw [e]⟩) (h.all p)⟩
theorem KeysOk.few {n : Nat} {fk : List (Key × V)} (h : KeysOk n fk) : fk.length ≤ n + 1 := by
  have q := nodup_le (fk.map (·.1)) ((List.range (n + 1)).map fun (x : Nat) => (Sum.inl (x : Int) : Key)) h.nd fun k hk => by
    obtain ⟨p, hp, rfl⟩ := List.mem_map.mp hk
    obtain ⟨x, hx, e⟩ := h.all p hp
    exact List.mem_map.mpr ⟨x, List.mem_range.mpr (by omega), e.symm⟩
  rw [List.length_map, List.length_map, List.length_range] at q
  exact q
structure FW (H : Hp) (Sa F C : Addr) (H' : Hp) (xs : List V) (T : List Rule) (fk ck : List (Key × V)) : Prop where
  sm : Same H H'
  nF : H F = none
  nC : H C = none
  hS : H' Sa = some (.lst xs)
  pT : Paired (RuleAt H') xs T
  hF : H' F = some (.dK fk)
  hC : H' C = some (.dK ck)
  fc : F ≠ C
theorem FW.setF {H : Hp} {Sa F C : Addr} {H' : Hp} {xs : List V} {T : List Rule} {fk ck fk' : List (Key × V)} (l : FW H Sa F C H' xs T fk ck) : FW H Sa F C (upd H' F (.dK fk')) xs T fk' ck :=
  ⟨fun b o z => by rw [upd_ne (ne_of_none z l.nF)]; exact l.sm _ _ z, l.nF, l.nC, by rw [upd_ne (fun z => by subst z; have := l.hF; rw [l.hS] at this; cases this)]; exact l.hS, Paired.mp l.pT fun _ _ z => TupI.mono (TS.dK l.hF) z, upd_same, by rw [upd_ne (Ne.symm l.fc)]; exact l.hC, l.fc⟩
theorem FW.setC {H : Hp} {Sa F C : Addr} {H' : Hp} {xs : List V} {T : List Rule} {fk ck ck' : List (Key × V)} (l : FW H Sa F C H' xs T fk ck) : FW H Sa F C (upd H' C (.dK ck')) xs T fk ck' :=
  ⟨fun b o z => by rw [upd_ne (ne_of_none z l.nC)]; exact l.sm _ _ z, l.nF, l.nC, by rw [upd_ne (fun z => by subst z; have := l.hC; rw [l.hS] at this; cases this)]; exact l.hS, Paired.mp l.pT fun _ _ z => TupI.mono (TS.dK l.hC) z, by rw [upd_ne l.fc]; exact l.hF, upd_same, l.fc⟩
/-- the state of the tables: far and came -/
structure FS (n b : Nat) (wr : Row) (H : Hp) (Sa F C : Addr) (H' : Hp) (xs : List V) (T : List Rule) (fk ck : List (Key × V)) (Fa : Nat → Option Int) (Ca : Nat → Option (Option Nat)) : Prop where
  fw : FW H Sa F C H' xs T fk ck
  fa : FarAt fk Fa
  ca : CaAt ck Ca
  kf : KeysOk n fk
  kc : KeysOk n ck
  far : Far n b (pre wr) Fa Ca
  beg : Fa b ≠ none
def Stable (T : List Rule) (Fa : Nat → Option Int) : Prop := ∀ e ∈ T, Fa e.1.toNat ≠ none → Fa e.2.1.toNat ≠ none
def WFar (n b : Nat) (wr : Row) (rv tv : V) (bi ei : Int) (H : Hp) (Sa F C : Addr) (xs : List V) (T : List Rule) (m : Nat) (σ : L2.St) (H' : Hp) : Prop :=
  ∃ fk ck Fa Ca g x8 x9 x10 x11, σ = [some rv, some tv, some (.int bi), some (.int ei), some (.ref Sa), some (.ref F), some (.ref C), some (.bl g), x8, x9, x10, x11] ∧ FS n b wr H Sa F C H' xs T fk ck Fa Ca ∧ (g = false → Stable T Fa) ∧ m = (rem n b (pre wr) Fa).toNat + (if g = true then 1 else 0)
def PvFarr (n b : Nat) (wr : Row) (rv tv : V) (bi ei : Int) (H : Hp) (Sa F C : Addr) (xs : List V) (T : List Rule) (Fa0 : Nat → Option Int) (j : Nat) (σ : L2.St) (H' : Hp) : Prop :=
  ∃ fk ck Fa Ca g x8 x9 x10 x11, σ = [some rv, some tv, some (.int bi), some (.int ei), some (.ref Sa), some (.ref F), some (.ref C), some (.bl g), x8, x9, x10, x11] ∧ FS n b wr H Sa F C H' xs T fk ck Fa Ca ∧
    ((g = false ∧ Fa = Fa0 ∧ Stable (T.take j) Fa) ∨ (g = true ∧ rem n b (pre wr) Fa + 1 ≤ rem n b (pre wr) Fa0))
def WChain (n : Nat) (rv tv : V) (bi ei : Int) (H : Hp) (Sa F C Gf : Addr) (fk ck : List (Key × V)) (Fa : Nat → Option Int) (Ca : Nat → Option (Option Nat)) (m : Nat) (σ : L2.St) (H' : Hp) : Prop :=
  ∃ (gs : List V) (xn : Nat) (x8 x9 x10 : Option V) (L : Nat), σ = [some rv, some tv, some (.int bi), some (.int ei), some (.ref Sa), some (.ref F), some (.ref C), some (.bl false), x8, x9, x10, some (.ref Gf)] ∧ Same H H' ∧ H' F = some (.dK fk) ∧ H' C = some (.dK ck) ∧ H' Gf = some (.lst gs) ∧
    gs.length = L + 1 ∧ gs[L]? = some (.int (xn : Nat)) ∧ Fa xn ≠ none ∧ LedN Ca xn m ∧ L + m ≤ n + 130
section
variable {P : Program} {w : World} {K : PySem.W.Frag} {mg : Str → Option Value} {base : Heap}
def N_farthest : List Str := ["rules", "told", "begin", "end", "steps", "far", "came", "going", "one", "other", "more", "found"]
theorem sc_farthest : FnScope N_farthest ["rules", "told", "begin", "end"] (defScope S_farthest) := ⟨rfl, rfl, rfl, by decide +kernel, rfl, by decide +kernel, by decide +kernel⟩
def spFarthest : Sp := fun vs H Q _ => ∃ (rv tv : V) (rs : List Rule) (ds : Told) (wr : Row) (b e : Nat), vs = [rv, tv, .int (b : Nat), .int (e : Nat)] ∧ RulesAt H rv rs ∧ RulesOk rs ∧ ToldAt H tv ds ∧ ToldOk ds ∧ Fills rs ds wr ∧ ((b = 0 ∧ e = wr.length) ∨ (b = wr.length ∧ e = 0)) ∧
  ∀ p H' v pv, Same H H' → H' p = some (.tup [.int v, pv]) → v ≤ pre wr e - pre wr b → Q (.ref p) H'
theorem reach_end {wr : Row} {T : List Rule} (so : StepsOk wr T) {b e : Nat} (he : (b = 0 ∧ e = wr.length) ∨ (b = wr.length ∧ e = 0)) {Fa : Nat → Option Int} (hb : Fa b ≠ none) (st : Stable T Fa) : Fa e ≠ none := by
  rcases he with ⟨rfl, rfl⟩ | ⟨rfl, rfl⟩
  · have : ∀ i, i ≤ wr.length → Fa i ≠ none := fun i => by
      induction i with
      | zero => exact fun _ => hb
      | succ i ih =>
        intro hi
        obtain ⟨m, hm⟩ := so.up i (by omega)
        have := st _ hm (by show Fa ((i : Nat) : Int).toNat ≠ none; rw [Int.toNat_natCast]; exact ih (by omega))
        rw [show ((i : Nat) : Int) + 1 = ((i + 1 : Nat) : Int) by omega] at this
        exact this
    exact this _ (Nat.le_refl _)
  · have : ∀ i, i ≤ wr.length → Fa (wr.length - i) ≠ none := fun i => by
      induction i with
      | zero => exact fun _ => hb
      | succ i ih =>
        intro hi
        obtain ⟨m, hm⟩ := so.dn (wr.length - (i + 1)) (by omega)
        have := st _ hm (by
          show Fa (((wr.length - (i + 1) : Nat) : Int) + 1).toNat ≠ none
          rw [show (((wr.length - (i + 1) : Nat) : Int) + 1).toNat = wr.length - i by omega]
          exact ih (by omega))
        have h2 : Fa ((wr.length - (i + 1) : Nat) : Int).toNat ≠ none := this
        rw [Int.toNat_natCast] at h2
        exact h2
    have := this wr.length (Nat.le_refl _)
    rw [Nat.sub_self] at this
    exact this
theorem ok_farthest (Dd : Dn K mg "farthest" S_farthest) (C_steps_of : Cl P w K mg base 1 "steps_of" spSteps) : Cl P w K mg base 2 "farthest" spFarthest := by
  refine Dd.ok sc_farthest (fun vs H Q E h => ?_) (fun _ _ _ _ _ _ us hl => match us, hl with | [_, _, _, _], _ => rfl) (fun f cdv A0 outer s H vs Q E hr h => ?_)
  · obtain ⟨rv, tv, rs, ds, wr, b, e, rfl, _⟩ := h; rfl
  · obtain ⟨rv, tv, rs, ds, wr, b, e, rfl, hR, ok, hT, tok, fl, hbe, k⟩ := h
    have nd := sc_farthest.nd
    have hu := hu_of hr
    have hr_steps_of := hr
    have dl := tok.len
    have fll := fl.len
    have hbn : b ≤ wr.length := by omega
    refine ⟨_, (pss_cons (ps_set (i := 4) nd rfl (Or.inl rfl) (pe_callC C_steps_of hr_steps_of rfl (pa_cons (pv 0) (pa_cons (pv 1) pa_nil))))
    (pss_cons (ps_set (i := 5) nd rfl (Or.inl rfl) (pe_disp (pps_cons (pv 2) pe_int pps_nil) (by rfl) (by rfl) (fun z => by cases z) (by decide)))
    (pss_cons (ps_set (i := 6) nd rfl (Or.inl rfl) (pe_disp (pps_cons (pv 2) pe_non pps_nil) (by rfl) (by rfl) (fun z => by cases z) (by decide)))
    (pss_cons (ps_set (i := 7) nd rfl (Or.inl rfl) pe_bl)
    (pss_cons (ps_while PassesOwn.never (pt_val (pv 7))
    (pss_cons (ps_set (i := 7) nd rfl (Or.inl rfl) pe_bl)
    (pss_one (ps_for PassesOwn.never rfl (pi_list (pv 4)) (pg_tup rfl (pgs_cons (pg_name (i := 8) nd rfl (Or.inl rfl)) (pgs_cons (pg_name (i := 9) nd rfl (Or.inl rfl)) (pgs_cons (pg_name (i := 10) nd rfl (Or.inl rfl)) pgs_nil))))
    (pss_one (ps_if (PW.pt (pw_and (pt_cmp (pc_din hu (pv 8) (pv 5))) (pw_and1 (PW.pt (pw_or (pt_cmp (pc_dnotin hu (pv 9) (pv 5))) (pw_or1 (pt_cmpR op_gt (pe_op op_add (pe_dget hu (pv 5) (pv 8) (fun _ _ => rfl)) (pv 10)) (pe_dget hu (pv 5) (pv 9) (fun _ _ => rfl)) (nomark _))))))))
    (pss_cons (ps_dput hu (pv 5) (pv 9) (pe_op op_add (pe_dget hu (pv 5) (pv 8) (fun _ _ => rfl)) (pv 10)) rfl)
    (pss_cons (ps_dput hu (pv 6) (pv 9) (pv 8) rfl)
    (pss_one (ps_set (i := 7) nd rfl (Or.inl rfl) pe_bl))))
    pss_nil))))))
    (pss_cons (ps_set (i := 11) nd rfl (Or.inl rfl) (pe_lst (pa_cons (pv 3) pa_nil)))
    (pss_cons (ps_while PassesOwn.never (pt_cmpR op_notN (pe_dget hu (pv 6) (pe_ix ix_list (pv 11) (pe_un un_neg pe_int) (fun _ _ => rfl)) (fun _ _ => rfl)) pe_non (nomark _))
    (pss_one (ps_expr (pe_bm PySem.F.plainAttrs_list PySem.F.slot_list_append PySem.F.type_list_append mt_append (pv 11) (pa_cons (pe_dget hu (pv 6) (pe_ix ix_list (pv 11) (pe_un un_neg pe_int) (fun _ _ => rfl)) (fun _ _ => rfl)) pa_nil)))))
    (pss_one (ps_ret (pe_tup (pa_cons (pe_dget hu (pv 5) (pv 3) (fun _ _ => rfl)) (pa_cons (pe_revL (pv 11)) pa_nil)))))))))))), ?_⟩
    refine ⟨_, rfl, _, rfl, rv, tv, rs, ds, wr, rfl, hR, ok, hT, tok, fl, fun Sa H1 xs T nS s1 hS pT so => ?_⟩
    refine fun F hF => ⟨_, rfl, upd_same, [(Sum.inl (b : Int), .int 0)], rfl, (show 1 ≤ 15 by decide), ?_⟩
    have s2 : Same H1 (upd (upd H1 F (.dK [])) F (.dK (mergeK [] [(Sum.inl (b : Int), .int 0)]))) := fun z o e => by rw [upd_ne (ne_of_none e hF)]; exact (Same.new hF) _ _ e
    have hF2 : (upd (upd H1 F (.dK [])) F (.dK (mergeK [] [(Sum.inl (b : Int), .int 0)]))) F = some (.dK [(Sum.inl (b : Int), .int 0)]) := upd_same
    generalize hG : upd (upd H1 F (.dK [])) F (.dK (mergeK [] [(Sum.inl (b : Int), .int 0)])) = G at *
    refine fun C hC => ⟨_, rfl, upd_same, [(Sum.inl (b : Int), .non)], rfl, (show 1 ≤ 15 by decide), ?_⟩
    have s3 : Same G (upd (upd G C (.dK [])) C (.dK (mergeK [] [(Sum.inl (b : Int), .non)]))) := fun z o e => by rw [upd_ne (ne_of_none e hC)]; exact (Same.new hC) _ _ e
    have hC3 : (upd (upd G C (.dK [])) C (.dK (mergeK [] [(Sum.inl (b : Int), .non)]))) C = some (.dK [(Sum.inl (b : Int), .non)]) := upd_same
    generalize hG2 : upd (upd G C (.dK [])) C (.dK (mergeK [] [(Sum.inl (b : Int), .non)])) = G2 at *
    have sAll := s1.trans (s2.trans s3)
    have fs0 : FS wr.length b wr H Sa F C G2 xs T [(Sum.inl (b : Int), .int 0)] [(Sum.inl (b : Int), .non)] (upF (fun _ => none) b (some 0)) (upF (fun _ => none) b (some none)) := by
      refine ⟨⟨sAll, s1.free hF, (s1.trans s2).free hC, s3 _ _ (s2 _ _ hS), Paired.mp pT fun _ _ z => TupI.mono (TS.of (s2.trans s3)) z, s3 _ _ hF2, hC3, (fun z => by subst z; rw [hF2] at hC; cases hC)⟩, fun x => ?_, fun x => ?_, ⟨by simp, fun p hp => ⟨b, hbn, by rw [List.mem_singleton.mp hp]⟩⟩, ⟨by simp, fun p hp => ⟨b, hbn, by rw [List.mem_singleton.mp hp]⟩⟩, Far.start hbn, by rw [upF_self]; exact fun z => by cases z⟩
      · by_cases q : x = b
        · subst q; rw [valV_pos rfl, upF_self]; rfl
        · rw [valV_neg fun z => q (nat_inj z).symm, upF_ne q]; rfl
      · by_cases q : x = b
        · subst q; rw [valV_pos rfl, upF_self]; rfl
        · rw [valV_neg fun z => q (nat_inj z).symm, upF_ne q]; rfl
    refine ⟨WFar wr.length b wr rv tv (b : Nat) (e : Nat) H Sa F C xs T, ⟨_, _, _, _, _, true, _, _, _, _, rfl, fs0, (fun z => by cases z), rfl⟩, ?_⟩
    rintro m σ Ha ⟨fk, ck, Fa, Ca, g, x8, x9, x10, x11, rfl, fs, stb, rfl⟩
    refine ⟨_, rfl, _, rfl, ?_⟩
    cases g with
    | true =>
      refine iteT ⟨fun σ2 H2 => ∃ m', m' < (rem wr.length b (pre wr) Fa).toNat + (if true = true then 1 else 0) ∧ WFar wr.length b wr rv tv (b : Nat) (e : Nat) H Sa F C xs T m' σ2 H2, fun _ _ h => h, ?_⟩
      refine ⟨_, rfl, Sa, rfl, ⟨_, SqL.of fs.fw.hS⟩, for_list (xs := xs) (PvFarr wr.length b wr rv tv (b : Nat) (e : Nat) H Sa F C xs T Fa) ⟨fk, ck, Fa, Ca, false, _, _, _, _, rfl, fs, .inl ⟨rfl, rfl, fun e he => by cases he⟩⟩ (fun i σ H' _ ⟨_, _, _, _, _, _, _, _, _, _, l, _⟩ => SqL.of l.fw.hS) ?_ ?_⟩
      · rintro j x σ Hb hj ⟨fk, ck, Fb, Cb, g, x8, x9, x10, x11, rfl, fs, ch⟩
        obtain ⟨st, he, ⟨bb, rfl, hb⟩⟩ := Paired.get fs.fw.pT hj
        have ss := so.all st (List.mem_of_getElem? he)
        obtain ⟨xn, hxn⟩ : ∃ xn : Nat, st.1 = (xn : Int) := ⟨st.1.toNat, by have := ss.x0; omega⟩
        obtain ⟨yn, hyn⟩ : ∃ yn : Nat, st.2.1 = (yn : Int) := ⟨st.2.1.toNat, by have := ss.y0; omega⟩
        have hxl : xn ≤ wr.length := by have := ss.x1; omega
        have hyl : yn ≤ wr.length := by have := ss.y1; omega
        have gx' : DGet Hb F (.int st.1) ((Fb xn).map V.int) := by rw [← fs.fa xn, hxn]; exact DGet.k (k := Sum.inl (xn : Int)) fs.fw.hF
        have gy' : DGet Hb F (.int st.2.1) ((Fb yn).map V.int) := by rw [← fs.fa yn, hyn]; exact DGet.k (k := Sum.inl (yn : Int)) fs.fw.hF
        have sle : pre wr xn + st.2.2 ≤ pre wr yn := by
          have := ss.le
          rw [hxn, hyn, Int.toNat_natCast, Int.toNat_natCast] at this
          exact this
        have stay : (Fb xn ≠ none → Fb yn ≠ none) → PvFarr wr.length b wr rv tv (b : Nat) (e : Nat) H Sa F C xs T Fa (j + 1) [some rv, some tv, some (.int (b : Nat)), some (.int (e : Nat)), some (.ref Sa), some (.ref F), some (.ref C), some (.bl g), some (.int st.1), some (.int st.2.1), some (.int st.2.2), x11] Hb := fun hh => by
          refine ⟨fk, ck, Fb, Cb, g, _, _, _, _, rfl, fs, ?_⟩
          rcases ch with ⟨c1, c2, c3⟩ | c
          · refine .inl ⟨c1, c2, fun z hz => ?_⟩
            rcases mem_take_succ he hz with q | rfl
            · exact c3 z q
            · rw [hxn, hyn, Int.toNat_natCast, Int.toNat_natCast]; exact hh
          · exact .inr c
        refine ⟨bb, _, rfl, SqT.of hb, rfl, _, _, rfl, _, _, rfl, _, _, rfl, rfl, ?_⟩
        refine ⟨_, rfl, _, rfl, F, _, rfl, gx', _, rfl, ?_⟩
        cases hfx : Fb xn with
        | none =>
          refine iteF ?_
          exact stay fun z => absurd hfx z
        | some vx =>
          refine iteT ?_
          have gx2 : DGet Hb F (.int st.1) (some (.int vx)) := by rw [hfx] at gx'; exact gx'
          have lenf := fs.kf.few
          have lenc := fs.kc.few
          have fin : (Fb yn = none ∨ ∃ vy, Fb yn = some vy ∧ vy < vx + st.2.2) → PvFarr wr.length b wr rv tv (b : Nat) (e : Nat) H Sa F C xs T Fa (j + 1) [some rv, some tv, some (.int (b : Nat)), some (.int (e : Nat)), some (.ref Sa), some (.ref F), some (.ref C), some (.bl true), some (.int st.1), some (.int st.2.1), some (.int st.2.2), x11]
              (upd (upd Hb F (.dK (putK fk (Sum.inl st.2.1) (.int (vx + st.2.2))))) C (.dK (putK ck (Sum.inl st.2.1) (.int st.1)))) := fun cond => by
            have far' := fs.far.raise hfx hyl sle ss.lo cond
            have vle := far'.le yn (vx + st.2.2) upF_self
            have vlo := far'.lo yn (vx + st.2.2) upF_self
            have mn := mis_nn wr.length (upF Fb yn (some (vx + st.2.2)))
            have rl := rem_lt fs.far hyl vle (by omega) cond
            refine ⟨_, _, upF Fb yn (some (vx + st.2.2)), upF Cb yn (some (some xn)), true, _, _, _, _, rfl, ⟨fs.fw.setF.setC, by rw [hyn]; exact fs.fa.put yn _, by rw [hyn, hxn]; exact fs.ca.put yn (some xn), by rw [hyn]; exact fs.kf.put hyl _, by rw [hyn]; exact fs.kc.put hyl _, far', ?_⟩, .inr ⟨rfl, ?_⟩⟩
            · by_cases q : b = yn
              · rw [q, upF_self]; exact fun z => by cases z
              · rw [upF_ne q]; exact fs.beg
            · rcases ch with ⟨_, c2, _⟩ | ⟨_, c2⟩
              · rw [← c2]; exact rl
              · omega
          refine ⟨_, rfl, _, rfl, F, _, rfl, gy', _, rfl, ?_⟩
          cases hfy : Fb yn with
          | none =>
            refine iteT ?_
            exact ⟨_, rfl, _, rfl, F, .int vx, rfl, gx2, _, rfl, _, _, rfl, rfl, _, rfl, _, rfl, F, _, rfl, DPut.k (k := Sum.inl st.2.1) fs.fw.hF (szl (by omega)), _, rfl, _, rfl, _, rfl, C, _, rfl, DPut.k (k := Sum.inl st.2.1) (fs.fw.setF (fk' := putK fk (Sum.inl st.2.1) (.int (vx + st.2.2)))).hC (szl (by omega)), fin (.inl hfy)⟩
          | some vy =>
            refine iteF ?_
            have gy2 : DGet Hb F (.int st.2.1) (some (.int vy)) := by rw [hfy] at gy'; exact gy'
            refine ⟨_, rfl, _, rfl, F, .int vx, rfl, gx2, _, rfl, _, _, rfl, rfl, _, rfl, _, rfl, F, .int vy, rfl, gy2, _, _, rfl, rfl, _, rfl, ?_⟩
            refine ite2 (fun hg => ?_) (fun hg => ?_)
            · rw [decide_eq_true_eq] at hg
              exact ⟨_, rfl, _, rfl, F, .int vx, rfl, gx2, _, rfl, _, _, rfl, rfl, _, rfl, _, rfl, F, _, rfl, DPut.k (k := Sum.inl st.2.1) fs.fw.hF (szl (by omega)), _, rfl, _, rfl, _, rfl, C, _, rfl, DPut.k (k := Sum.inl st.2.1) (fs.fw.setF (fk' := putK fk (Sum.inl st.2.1) (.int (vx + st.2.2)))).hC (szl (by omega)), fin (.inr ⟨vy, hfy, hg⟩)⟩
            · exact stay fun _ => by rw [hfy]; exact fun z => by cases z
      · rintro σ Hb ⟨fk, ck, Fb, Cb, g, x8, x9, x10, x11, rfl, fs, ch⟩
        have rn := rem_nn fs.far
        refine ⟨(rem wr.length b (pre wr) Fb).toNat + (if g = true then 1 else 0), ?_, fk, ck, Fb, Cb, g, _, _, _, _, rfl, fs, fun hg => ?_, rfl⟩
        · rcases ch with ⟨rfl, rfl, _⟩ | ⟨rfl, c2⟩
          · rw [if_neg Bool.false_ne_true, if_pos rfl]; omega
          · rw [if_pos rfl]; omega
        · rcases ch with ⟨_, _, c3⟩ | ⟨c1, _⟩
          · rw [Paired.len fs.fw.pT, List.take_of_length_le (Nat.le_refl _)] at c3; exact c3
          · rw [hg] at c1; cases c1
    | false =>
      refine iteF ?_
      have hend := reach_end so hbe fs.beg (stb rfl)
      refine ⟨_, rfl, sz (by show 1 ≤ 100000; decide), fun Gf hGf => ?_⟩
      have sG : Same Ha (upd Ha Gf (.lst [.int (e : Nat)])) := Same.new hGf
      obtain ⟨d0, l0⟩ := fs.far.led e hend
      have dd0 := led_depth fs.far hend l0
      have nGf : H Gf = none := fs.fw.sm.free hGf
      refine ⟨WChain wr.length rv tv (b : Nat) (e : Nat) H Sa F C Gf fk ck Fa Ca, ⟨d0, [.int (e : Nat)], e, _, _, _, 0, rfl, fs.fw.sm.trans sG, sG _ _ fs.fw.hF, sG _ _ fs.fw.hC, upd_same, rfl, rfl, hend, l0, by omega⟩, ?_⟩
      rintro m σ Hb ⟨gs, xn, y8, y9, y10, L, rfl, smb, hFb, hCb, hGb, gl, glast, hxn, lx, small⟩
      have gc : ∀ c, Ca xn = some c → DGet Hb C (.int (xn : Nat)) (some (cV c)) := fun c hc => by
        have := fs.ca xn
        rw [hc] at this
        have this : valV ck (Sum.inl (xn : Int)) = some (cV c) := this
        rw [← this]; exact DGet.k (k := Sum.inl (xn : Int)) hCb
      cases lx with
      | base h0 =>
        refine ⟨_, rfl, _, rfl, _, rfl, Gf, gs, -1, .int (xn : Nat), rfl, rfl, SqL.of hGb, ix_last (i := L) gl glast, C, _, rfl, gc none h0, rfl, _, rfl, ?_⟩
        refine iteF ?_
        obtain ⟨v, hv⟩ := Option.ne_none_iff_exists'.mp hend
        have ge : DGet Hb F (.int (e : Nat)) (some (.int v)) := by
          have := fs.fa e
          rw [hv] at this
          have this : valV fk (Sum.inl (e : Int)) = some (.int v) := this
          rw [← this]; exact DGet.k (k := Sum.inl (e : Int)) hFb
        refine ⟨_, rfl, _, rfl, F, .int v, rfl, ge, _, rfl, Gf, gs, rfl, SqL.of hGb, fun q hq => ⟨sz (by show 2 ≤ 100000; decide), fun p hp => ?_⟩⟩
        exact k p _ v (.ref q) (smb.trans ((Same.new hq).trans (Same.new hp))) upd_same (fs.far.le e v hv)
      | @step _ u d h0 l' =>
        refine ⟨_, rfl, _, rfl, _, rfl, Gf, gs, -1, .int (xn : Nat), rfl, rfl, SqL.of hGb, ix_last (i := L) gl glast, C, _, rfl, gc (some u) h0, rfl, _, rfl, ?_⟩
        refine iteT ⟨fun σ2 H2 => ∃ m', m' < d + 1 ∧ WChain wr.length rv tv (b : Nat) (e : Nat) H Sa F C Gf fk ck Fa Ca m' σ2 H2, fun _ _ h => h, ?_⟩
        obtain ⟨_, v', _, g2, _⟩ := fs.far.mono xn u h0
        refine ⟨_, rfl, .inl ⟨rfl, _, SqL.of hGb⟩, _, rfl, _, rfl, _, rfl, Gf, gs, -1, .int (xn : Nat), rfl, rfl, SqL.of hGb, ix_last (i := L) gl glast, C, _, rfl, gc (some u) h0, Gf, gs, _, rfl, rfl, hGb, szl (by omega), ?_⟩
        have nFG : F ≠ Gf := fun z => by subst z; rw [hFb] at hGb; cases hGb
        have nCG : C ≠ Gf := fun z => by subst z; rw [hCb] at hGb; cases hGb
        refine ⟨d, Nat.lt_succ_self _, gs ++ [.int (u : Nat)], u, _, _, _, L + 1, rfl, fun z o ez => ?_, by rw [upd_ne nFG]; exact hFb, by rw [upd_ne nCG]; exact hCb, upd_same, by rw [List.length_append, gl]; rfl, by rw [List.getElem?_append_right (by omega), gl, Nat.sub_self]; rfl, (by rw [g2]; exact fun z => (by cases z)), l', by omega⟩
        rw [upd_ne (ne_of_none ez nGf)]; exact smb _ _ ez
end
end An
-- imports: G7
/-! ### G8: marks, where some row fills -/
namespace An
open PySem L2
section
variable {P : Program} {w : World} {K : PySem.W.Frag} {mg : Str → Option Value} {base : Heap}
def N_marks : List Str := ["rules", "told"]
theorem sc_marks : FnScope N_marks ["rules", "told"] (defScope S_marks) := ⟨rfl, rfl, rfl, by decide +kernel, rfl, by decide +kernel, by decide +kernel⟩
def spMarks : Sp := fun vs H Q _ => ∃ (rv tv : V) (rs : List Rule) (ds : Told) (wr : Row), vs = [rv, tv] ∧ RulesAt H rv rs ∧ RulesOk rs ∧ ToldAt H tv ds ∧ ToldOk ds ∧ Fills rs ds wr ∧
  ∀ p H' lo hi, Same H H' → H' p = some (.tup [.int lo, .int hi]) → lo ≤ wr.sum → wr.sum ≤ hi → Q (.ref p) H'
theorem ok_marks (Dd : Dn K mg "marks" S_marks) (bf : Bf mg) (C_need_both : Cl P w K mg base 5 "need_both" spBoth) (C_led_round : Cl P w K mg base 2 "led_round" spLed) (C_farthest : Cl P w K mg base 2 "farthest" spFarthest) : Cl P w K mg base 6 "marks" spMarks := by
  refine Dd.ok sc_marks (fun vs H Q E h => ?_) (fun _ _ _ _ _ _ us hl => match us, hl with | [_, _], _ => rfl) (fun f cdv A0 outer s H vs Q E hr h => ?_)
  · obtain ⟨rv, tv, rs, ds, wr, rfl, _⟩ := h; rfl
  · obtain ⟨rv, tv, rs, ds, wr, rfl, hR, ok, hT, tok, fl, k⟩ := h
    obtain ⟨ta, rfl, hta⟩ := id hT
    have nd := sc_marks.nd
    have hr_need_both := hr
    have hr_led_round := hr.mono (show 2 ≤ 5 by decide)
    have hr_farthest := hr.mono (show 2 ≤ 5 by decide)
    have el : (ds.map oV).length = wr.length := by rw [List.length_map, fl.len]
    have ep : pre wr wr.length = wr.sum := by unfold pre; rw [List.take_of_length_le (Nat.le_refl _)]
    have e0 : pre wr 0 = 0 := rfl
    refine ⟨_, (pss_cons (ps_expr (pe_callC C_need_both hr_need_both rfl (pa_cons (pv 0) (pa_cons (pv 1) pa_nil))))
    (pss_cons (ps_if (pt_cmpR op_notN (pe_callC C_led_round hr_led_round rfl (pa_cons (pv 0) (pa_cons (pv 1) pa_nil))) pe_non (nomark _))
    (pss_one (ps_ret pe_non))
    pss_nil)
    (pss_one (ps_ret (pe_tup (pa_cons (pe_ix ix_tup (pe_callC C_farthest hr_farthest rfl (pa_cons (pv 0) (pa_cons (pv 1) (pa_cons pe_int (pa_cons (pe_callB call_len_seq rfl bf.len bt_len (pa_cons (pv 1) pa_nil)) pa_nil))))) pe_int (fun _ _ => rfl)) (pa_cons (pe_un un_neg (pe_ix ix_tup (pe_callC C_farthest hr_farthest rfl (pa_cons (pv 0) (pa_cons (pv 1) (pa_cons (pe_callB call_len_seq rfl bf.len bt_len (pa_cons (pv 1) pa_nil)) (pa_cons pe_int pa_nil))))) pe_int (fun _ _ => rfl))) pa_nil))))))), ?_⟩
    refine ⟨_, rfl, _, rfl, rv, .ref ta, rs, ds, rfl, hR, ok, hT, tok, fun H1 s1 => ?_⟩
    refine ⟨_, rfl, _, rfl, rv, .ref ta, rs, ds, wr, rfl, RulesAt.mono (TS.of s1) hR, ok, ToldAt.mono (TS.of s1) hT, tok, fl, fun H2 s2 => ⟨rfl, _, rfl, iteNS rfl ?_⟩⟩
    have s3 := s1.trans s2
    refine ⟨_, rfl, _, rfl, _, rfl, ta, _, rfl, .inr (SqT.of (s3 _ _ hta)), rv, .ref ta, rs, ds, wr, 0, (ds.map oV).length, rfl, RulesAt.mono (TS.of s3) hR, ok, ToldAt.mono (TS.of s3) hT, tok, fl, .inl ⟨rfl, el⟩, fun p1 H3 v1 pv1 s4 h1 l1 => ?_⟩
    have s5 := s3.trans s4
    refine ⟨p1, _, 0, .int v1, rfl, rfl, SqT.of h1, rfl, ?_⟩
    refine ⟨_, rfl, _, rfl, _, rfl, ta, _, rfl, .inr (SqT.of (s5 _ _ hta)), rv, .ref ta, rs, ds, wr, (ds.map oV).length, 0, rfl, RulesAt.mono (TS.of s5) hR, ok, ToldAt.mono (TS.of s5) hT, tok, fl, .inr ⟨el, rfl⟩, fun p2 H4 v2 pv2 s6 h2 l2 => ?_⟩
    refine ⟨p2, _, 0, .int v2, rfl, rfl, SqT.of h2, rfl, _, rfl, sz (by show 2 ≤ 100000; decide), fun p hp => ?_⟩
    rw [el, ep, e0] at l1 l2
    exact k p _ v1 (-v2) (s5.trans (s6.trans (Same.new hp))) upd_same (by omega) (by omega)
end
end An
-- imports: F3 E3 G8
/-! ### G9: made told rows -/
namespace An
open PySem L2
section
variable {P : Program} {w : World} {K : PySem.W.Frag} {mg : Str → Option Value} {base : Heap}
def N__law_even : List Str := ["part", "many", "found", "at"]
theorem sc_law_even : FnScope N__law_even ["part", "many"] (defScope S__law_even) := ⟨rfl, rfl, rfl, by decide +kernel, rfl, by decide +kernel, by decide +kernel⟩
def spEven : Sp := fun vs H Q _ => ∃ (pa : Addr) (x many : Int), vs = [.ref pa, .int many] ∧ H pa = some (.tup [.int x, .int 6]) ∧ 0 ≤ x ∧ x ≤ 6 ∧ 0 ≤ many ∧ many ≤ 200 ∧ ∀ v H', Same H H' → TupI H' v (evenR x 6 many.toNat) → Q v H'
def PvEven (pa : Addr) (x many : Int) (H : Hp) (G : Addr) (i : Nat) (σ : L2.St) (H' : Hp) : Prop :=
  ∃ x3, σ = [some (.ref pa), some (.int many), some (.ref G), x3] ∧ Same H H' ∧ H G = none ∧ H' G = some (.lst ((evenR x 6 i).map V.int))
theorem ok_law_even (Dd : Dn K mg "_law_even" S__law_even) (bf : Bf mg) : Cl P w K mg base 1 "_law_even" spEven := by
  refine Dd.ok sc_law_even (fun vs H Q E h => ?_) (fun _ _ _ _ _ _ us hl => match us, hl with | [_, _], _ => rfl) (fun f cdv A0 outer s H vs Q E hr h => ?_)
  · obtain ⟨pa, x, many, rfl, _⟩ := h; rfl
  · obtain ⟨pa, x, many, rfl, hp, x0, x6, m0, m2, k⟩ := h
    have nd := sc_law_even.nd
    refine ⟨_, (pss_cons (ps_set (i := 2) nd rfl (Or.inl rfl) (pe_lst pa_nil))
    (pss_cons (ps_for PassesOwn.never rfl (pi_range1 rfl bf.range (pa_cons (pv 1) pa_nil)) (pg_name (i := 3) nd rfl (Or.inl rfl))
    (pss_one (ps_expr (pe_bm PySem.F.plainAttrs_list PySem.F.slot_list_append PySem.F.type_list_append mt_append (pv 2) (pa_cons (pe_op op_sub (pe_op op_fdiv (pe_op op_mul (pe_op op_add (pv 3) pe_int) (pe_ix ix_tup (pv 0) pe_int (fun _ _ => rfl))) (pe_ix ix_tup (pv 0) pe_int (fun _ _ => rfl))) (pe_op op_fdiv (pe_op op_mul (pv 3) (pe_ix ix_tup (pv 0) pe_int (fun _ _ => rfl))) (pe_ix ix_tup (pv 0) pe_int (fun _ _ => rfl)))) pa_nil)))))
    (pss_one (ps_ret (pe_callTy call_tuple_of rfl bf.tuple bt_tuple (pa_cons (pv 2) pa_nil)))))), ?_⟩
    refine ⟨sz (by show 0 ≤ 100000; decide), fun G hG => ?_⟩
    refine ⟨_, rfl, _, rfl, by omega, by omega, for_range (PvEven pa x many H G) ⟨_, rfl, Same.new hG, hG, upd_same⟩ ?_ ?_⟩
    · rintro i σ H1 hi ⟨x3, rfl, sm, nG, hG1⟩
      have hp1 := sm _ _ hp
      refine ⟨_, rfl, .inl ⟨rfl, _, SqL.of hG1⟩, ?_⟩
      refine ⟨_, rfl, _, _, rfl, rfl, _, rfl, pa, _, 0, .int x, rfl, rfl, SqT.of hp1, rfl, _, _, rfl, rfl, .inr ⟨by omega, by omega⟩, _, rfl, pa, _, 1, .int 6, rfl, rfl, SqT.of hp1, rfl, _, _, rfl, rfl, ⟨by decide, by decide⟩, ?_⟩
      refine ⟨_, rfl, _, rfl, pa, _, 0, .int x, rfl, rfl, SqT.of hp1, rfl, _, _, rfl, rfl, .inr ⟨by omega, by omega⟩, _, rfl, pa, _, 1, .int 6, rfl, rfl, SqT.of hp1, rfl, _, _, rfl, rfl, ⟨by decide, by decide⟩, ?_⟩
      refine ⟨_, _, rfl, rfl, G, _, _, rfl, rfl, hG1, szl (by rw [List.length_map, even_len]; omega), ?_⟩
      refine ⟨_, rfl, fun b o e => by rw [upd_ne (ne_of_none e nG)]; exact sm _ _ e, nG, ?_⟩
      rw [upd_same, even_snoc, List.map_append, Int.zero_add]; rfl
    · rintro σ H1 ⟨x3, rfl, sm, nG, hG1⟩
      refine ⟨_, rfl, G, _, rfl, .inl ⟨SqL.of hG1, fun l hl => ?_⟩⟩
      exact k _ _ (sm.trans (Same.new hl)) ⟨l, rfl, upd_same⟩
theorem DeckAt.ne {H : Hp} {a b : Addr} {N : Int} (d : DeckAt H a N) (h : H b = none) : a ≠ b := fun e => by subst e; obtain ⟨_, _, _, z, _⟩ := d; rw [z] at h; cases h
theorem none_x {as : List Addr} {H H' : Hp} {b : Addr} (s : SameX as H H') (n : b ∉ as) (h : H' b = none) : H b = none := by
  cases q : H b with
  | none => rfl
  | some o => rw [s _ _ n q] at h; cases h
def N__law_told : List Str := ["deck", "rules", "many", "row", "hidden", "at"]
theorem sc_law_told : FnScope N__law_told ["deck", "rules", "many"] (defScope S__law_told) := ⟨rfl, rfl, rfl, by decide +kernel, rfl, by decide +kernel, by decide +kernel⟩
def spTold : Sp := fun vs H Q _ => ∃ (a : Addr) (rv : V) (rs : List Rule) (many N : Int), vs = [.ref a, rv, .int many] ∧ RulesAt H rv rs ∧ RulesOk rs ∧ 0 ≤ many ∧ many ≤ 120 ∧ N < 900000000 ∧ DeckAt H a N ∧
  ∀ v H' ds, SameX [a] H H' → TS H H' → DeckAt H' a (N + 500) → ToldAt H' v ds → ToldOk ds → Q v H'
structure TL (H : Hp) (a R : Addr) (N : Int) (n : Nat) (H' : Hp) (os : Told) (i : Nat) : Prop where
  sx : SameX [a] H H'
  ts : TS H H'
  dk : DeckAt H' a N
  nR : H R = none
  aR : a ≠ R
  hR : H' R = some (.lst (os.map oV))
  len : os.length = n
  bits : ∀ o ∈ os, o = none ∨ o = some 0 ∨ o = some 1
  rest : ∀ j, i ≤ j → j < n → ∃ p : Int, os[j]? = some (some p)
theorem TL.move {H : Hp} {a R : Addr} {N : Int} {n : Nat} {H' H2 : Hp} {os : Told} {i : Nat} (t : TL H a R N n H' os i) {M : Int} (sx : SameX [a] H' H2) (ts : TS H' H2) (dk : DeckAt H2 a M) : TL H a R M n H2 os i :=
  ⟨t.sx.trans sx, t.ts.trans ts, dk, t.nR, t.aR, sx _ _ (by simpa using Ne.symm t.aR) t.hR, t.len, t.bits, t.rest⟩
theorem TL.set {H : Hp} {a R : Addr} {N : Int} {n : Nat} {H' : Hp} {os : Told} {i : Nat} (t : TL H a R N n H' os i) {o : Option Int} (ho : o = none ∨ o = some 0 ∨ o = some 1) {ys : List V} (e : ys = (os.map oV).set i (oV o)) : TL H a R N n (upd H' R (.lst ys)) (os.set i o) (i + 1) :=
  ⟨SameX.upd_new t.sx t.nR, t.ts.trans (TS.lst t.hR), t.dk.mono (fun xs h => by rw [upd_ne t.aR]; exact h) (Int.le_refl _), t.nR, t.aR, by rw [upd_same, e, List.map_set], by rw [List.length_set]; exact t.len, fun x hx => (List.mem_or_eq_of_mem_set hx).elim (t.bits x) (fun h => by rw [h]; exact ho), fun j hj hn => by
    rw [List.getElem?_set, if_neg (by omega)]
    exact t.rest j (by omega) hn⟩
theorem TL.keep {H : Hp} {a R : Addr} {N : Int} {n : Nat} {H' : Hp} {os : Told} {i : Nat} (t : TL H a R N n H' os i) : TL H a R N n H' os (i + 1) := ⟨t.sx, t.ts, t.dk, t.nR, t.aR, t.hR, t.len, t.bits, fun j hj hn => t.rest j (by omega) hn⟩
theorem TL.mono {H : Hp} {a R : Addr} {N M : Int} {n : Nat} {H' : Hp} {os : Told} {i : Nat} (t : TL H a R N n H' os i) (h : N ≤ M) : TL H a R M n H' os i := ⟨t.sx, t.ts, t.dk.mono (fun _ e => e) h, t.nR, t.aR, t.hR, t.len, t.bits, t.rest⟩
theorem TL.row {H : Hp} {a R : Addr} {N : Int} {H' : Hp} {u : Row} (sx : SameX [a] H H') (ts : TS H H') (dk : DeckAt H' a N) (nR : H' R = none) (hb : ∀ x ∈ u, x = 0 ∨ x = 1) : TL H a R N u.length (upd H' R (.lst (u.map V.int))) (u.map some) 0 :=
  ⟨sx.trans (SameX.of (Same.new nR)), ts.trans (TS.new nR), dk.same (Same.new nR), none_x sx (by simpa using Ne.symm (dk.ne nR)) nR, dk.ne nR, by rw [upd_same, List.map_map]; rfl, List.length_map _, fun o ho => by
    obtain ⟨x, hx, rfl⟩ := List.mem_map.mp ho
    rcases hb x hx with rfl | rfl
    · exact .inr (.inl rfl)
    · exact .inr (.inr rfl), fun j _ hj => ⟨u[j], by rw [List.getElem?_map, List.getElem?_eq_getElem hj]; rfl⟩⟩
def PvTold (a : Addr) (rv : V) (many hid N : Int) (H : Hp) (R : Addr) (n : Nat) (i : Nat) (σ : L2.St) (H' : Hp) : Prop :=
  ∃ os x5, σ = [some (.ref a), some rv, some (.int many), some (.ref R), some (.int hid), x5] ∧ TL H a R (N + 2 * i) n H' os i
theorem ok_law_told (Dd : Dn K mg "_law_told" S__law_told) (bf : Bf mg) (C_law_pick : Cl P w K mg base 1 "_law_pick" spPick) (C_law_one : Cl P w K mg base 2 "_law_one" spOne) (C_law_walk : Cl P w K mg base 3 "_law_walk" spWalk) (C_law_even : Cl P w K mg base 1 "_law_even" spEven) : Cl P w K mg base 4 "_law_told" spTold := by
  refine Dd.ok sc_law_told (fun vs H Q E h => ?_) (fun _ _ _ _ _ _ us hl => match us, hl with | [_, _, _], _ => rfl) (fun f cdv A0 outer s H vs Q E hr h => ?_)
  · obtain ⟨a, rv, rs, many, N, rfl, _⟩ := h; rfl
  · obtain ⟨a, rv, rs, many, N, rfl, hR, ok, m0, m2, hN, hd, k⟩ := h
    have nd := sc_law_told.nd
    have hr_law_pick := hr.mono (show 1 ≤ 3 by decide)
    have hr_law_one := hr.mono (show 2 ≤ 3 by decide)
    have hr_law_walk := hr
    have hr_law_even := hr.mono (show 1 ≤ 3 by decide)
    refine ⟨_, (pss_cons (ps_set (i := 3) nd rfl (Or.inl rfl) (pe_callTy call_list_of rfl bf.list bt_list (pa_cons (pe_callC C_law_walk hr_law_walk rfl (pa_cons (pv 0) (pa_cons (pv 1) (pa_cons (pv 2) pa_nil)))) pa_nil)))
    (pss_cons (ps_if (pt_cmpR op_lt (pe_callB call_len_seq rfl bf.len bt_len (pa_cons (pv 3) pa_nil)) (pv 2) (nomark _))
    (pss_one (ps_set (i := 3) nd rfl (Or.inl rfl) (pe_callTy call_list_of rfl bf.list bt_list (pa_cons (pe_callC C_law_even hr_law_even rfl (pa_cons (pe_tup (pa_cons (pe_callC C_law_pick hr_law_pick rfl (pa_cons (pv 0) (pa_cons pe_int pa_nil))) (pa_cons pe_int pa_nil))) (pa_cons (pv 2) pa_nil))) pa_nil))))
    pss_nil)
    (pss_cons (ps_set (i := 4) nd rfl (Or.inl rfl) (pe_callC C_law_one hr_law_one rfl (pa_cons (pv 0) (pa_cons (pe_lst (pa_cons pe_int (pa_cons pe_int (pa_cons pe_int pa_nil)))) pa_nil))))
    (pss_cons (ps_for PassesOwn.never rfl (pi_range1 rfl bf.range (pa_cons (pv 2) pa_nil)) (pg_name (i := 5) nd rfl (Or.inl rfl))
    (pss_one (ps_if (pt_cmpR op_gt (pe_callC C_law_pick hr_law_pick rfl (pa_cons (pv 0) (pa_cons (pv 4) pa_nil))) pe_int (nomark _))
    (pss_one (ps_asg pe_non (pg_sub (pv 3) (pv 5) set_list)))
    (pss_one (ps_if (pt_cmpR op_eq (pe_callC C_law_pick hr_law_pick rfl (pa_cons (pv 0) (pa_cons pe_int pa_nil))) pe_int (nomark _))
    (pss_one (ps_asg (pe_op op_sub pe_int (pe_ix ix_list (pv 3) (pv 5) (fun _ _ => rfl))) (pg_sub (pv 3) (pv 5) set_list)))
    pss_nil)))))
    (pss_one (ps_ret (pe_callTy call_tuple_of rfl bf.tuple bt_tuple (pa_cons (pv 3) pa_nil)))))))), ?_⟩
    refine ⟨_, rfl, _, rfl, _, rfl, a, rv, rs, many, N, rfl, hR, ok, m0, by omega, by omega, hd, fun v H1 u sx ts hd1 hT fine lu => ?_⟩
    obtain ⟨ub, rfl, hub⟩ := id hT
    refine ⟨ub, _, rfl, .inr (SqT.of hub), fun R hR1 => ?_⟩
    have t0 := TL.row sx ts hd1 hR1 fine.bits
    have hl : (u.length : Int) ≤ many := lu
    refine ⟨_, rfl, R, _, rfl, .inl (SqL.of upd_same), _, rfl, _, _, rfl, rfl, _, rfl, ?_⟩
    refine if_join (fun σ H' => ∃ R os x4 x5, σ = [some (.ref a), some rv, some (.int many), some (.ref R), x4, x5] ∧ TL H a R (N + many + 1) many.toNat H' os 0) ?_ (fun hg hF => ?_) (fun hg => ?_)
    · rintro σ H2 ⟨R, os, x4, x5, rfl, t⟩
      refine ⟨_, rfl, sz (by show 3 ≤ 100000; decide), fun c3 hc3 => ?_⟩
      have q3 : Same H2 (upd H2 c3 (.lst [.int 2, .int 4, .int 10])) := Same.new hc3
      refine ⟨a, c3, _, _, rfl, t.dk.ne hc3, upd_same, (fun e => by cases e), (by decide), by omega, t.dk.same q3, fun x1 H3 hx1 sx3 ts3 hd3 => ?_⟩
      obtain ⟨hid, rfl, u1, u2⟩ : ∃ m : Int, x1 = .int m ∧ 1 ≤ m ∧ m ≤ 10 := by
        simp only [List.mem_cons, List.not_mem_nil, or_false] at hx1
        rcases hx1 with rfl | rfl | rfl <;> exact ⟨_, rfl, by decide, by decide⟩
      have t3 := t.move ((SameX.of q3).trans sx3) ((TS.of q3).trans ts3) hd3
      refine ⟨_, rfl, _, rfl, by omega, by omega, for_range (PvTold a rv many hid (N + many + 2) H R many.toNat) ⟨os, _, rfl, t3.mono (by omega)⟩ ?_ ?_⟩
      · rintro i σ H4 hi ⟨os, x5, rfl, t⟩
        have ei : (0 + (i : Int)).toNat = i := by omega
        have ol : (os.map oV).length = many.toNat := by rw [List.length_map]; exact t.len
        have ixn : ixN (os.map oV).length (0 + (i : Int)) = some i := by
          have := ixN_nn (n := (os.map oV).length) (i := 0 + (i : Int)) (by omega) (by omega)
          rw [ei] at this; exact this
        refine ⟨_, rfl, _, rfl, a, hid, _, rfl, by omega, by omega, by omega, t.dk, fun r H5 r0 r1 sx5 ts5 hd5 => ?_⟩
        have t5 := t.move sx5 ts5 hd5
        refine ⟨_, _, rfl, rfl, _, rfl, ite2 (fun _ => ?_) (fun _ => ?_)⟩
        · refine ⟨_, rfl, _, rfl, R, _, _, i, rfl, rfl, t5.hR, ixn, ?_⟩
          exact ⟨_, _, rfl, (t5.set (o := none) (.inl rfl) rfl).mono (by omega)⟩
        · refine ⟨_, rfl, a, 12, _, rfl, by decide, by decide, by omega, t5.dk, fun r2 H6 _ _ sx6 ts6 hd6 => ?_⟩
          have t6 := t5.move sx6 ts6 hd6
          obtain ⟨p, hp⟩ := t6.rest i (Nat.le_refl _) (by omega)
          have hpb := t6.bits _ (List.mem_of_getElem? hp)
          refine ⟨rfl, _, rfl, ite2 (fun _ => ?_) (fun _ => ?_)⟩
          · refine ⟨_, rfl, _, rfl, R, _, _, .int p, rfl, rfl, SqL.of t6.hR, by rw [Int.zero_add]; exact atI_nat (by rw [List.getElem?_map, hp]; rfl), _, _, rfl, rfl, _, rfl, _, rfl, R, _, _, i, rfl, rfl, t6.hR, ixn, ?_⟩
            refine ⟨_, _, rfl, (t6.set (o := some (1 - p)) ?_ rfl).mono (by omega)⟩
            rcases hpb with z | z | z
            · cases z
            · cases z; exact .inr (.inr rfl)
            · cases z; exact .inr (.inl rfl)
          · exact ⟨_, _, rfl, t6.keep.mono (by omega)⟩
      · rintro σ H4 ⟨os, x5, rfl, t⟩
        refine ⟨_, rfl, R, _, rfl, .inl ⟨SqL.of t.hR, fun l hl => ?_⟩⟩
        have q := Same.new (o := .tup (os.map oV)) hl
        exact k _ _ os (t.sx.trans (SameX.of q)) (t.ts.trans (TS.of q)) ((t.dk.same q).mono (fun _ e => e) (by omega)) ⟨l, rfl, upd_same⟩ ⟨by rw [t.len]; omega, t.bits⟩
    · refine ⟨_, rfl, a, 7, _, rfl, by decide, by decide, by omega, t0.dk, fun r H3 r0 r1 sx3 ts3 hd3 => ?_⟩
      have t3 := t0.move sx3 ts3 hd3
      refine ⟨sz (by show 2 ≤ 100000; decide), fun pa hpa => ?_⟩
      have q3 := Same.new (o := .tup [.int r, .int 6]) hpa
      refine ⟨_, rfl, pa, r, many, rfl, upd_same, r0, by omega, m0, by omega, fun v4 H4 s4 hT4 => ?_⟩
      obtain ⟨eb, rfl, heb⟩ := id hT4
      refine ⟨eb, _, rfl, .inr (SqT.of heb), fun R2 hR2 => hF _ _ ?_⟩
      have s5 := q3.trans s4
      have t6 := TL.row (u := evenR r 6 many.toNat) (t3.sx.trans (SameX.of s5)) (t3.ts.trans (TS.of s5)) (t3.dk.same s5) hR2 (fun x hx => by
        unfold evenR at hx
        obtain ⟨j, _, rfl⟩ := List.mem_map.mp hx
        exact even_bit (by decide) r0 (by omega) j)
      rw [even_len] at t6
      exact ⟨R2, _, _, _, rfl, t6.mono (by omega)⟩
    · have e : u.length = many.toNat := by
        rw [decide_eq_true_eq, List.length_map] at hg
        omega
      rw [e] at t0
      exact ⟨R, _, _, _, rfl, t0.mono (by omega)⟩
end
end An
-- imports: G9
/-! ### G10: the law k06 -/
namespace An
open PySem L2
theorem len_eq_of_mem {α : Type} [DecidableEq α] {l m : List α} (hl : l.Nodup) (hm : m.Nodup) (h : ∀ x, x ∈ l ↔ x ∈ m) : l.length = m.length :=
  Nat.le_antisymm (nodup_le l m hl fun x hx => (h x).mp hx) (nodup_le m l hm fun x hx => (h x).mpr hx)
theorem fills_set {rs : List Rule} {ds : Told} {i : Nat} (hi : ds[i]? = some none) (p : Int) (w : Row) : Fills rs (ds.set i (some p)) w ↔ Fills rs ds w ∧ w[i]? = some p := by
  have hil := (List.getElem?_eq_some_iff.mp hi).1
  constructor
  · intro f
    have lw : w.length = ds.length := by rw [f.len, List.length_set]
    obtain ⟨q, hq⟩ : ∃ q, w[i]? = some q := ⟨_, List.getElem?_eq_getElem (by omega)⟩
    have hp := f.told i (some p) q (by rw [List.getElem?_set, if_pos rfl, if_pos hil]) hq
    have hp : p = q := of_decide_eq_true hp
    refine ⟨⟨f.fine, lw, fun j o z h1 h2 => ?_⟩, by rw [hq, hp]⟩
    by_cases c : i = j
    · subst c; rw [hi] at h1; cases h1; rfl
    · exact f.told j o z (by rw [List.getElem?_set, if_neg c]; exact h1) h2
  · rintro ⟨f, hw⟩
    refine ⟨f.fine, by rw [List.length_set]; exact f.len, fun j o z h1 h2 => ?_⟩
    rw [List.getElem?_set] at h1
    by_cases c : i = j
    · subst c
      rw [if_pos rfl, if_pos hil] at h1
      cases h1
      rw [hw] at h2; cases h2
      exact decide_eq_true rfl
    · rw [if_neg c] at h1; exact f.told j o z h1 h2
theorem many_set {rs : List Rule} {ds : Told} {i : Nat} (hi : ds[i]? = some none) : manyT rs (ds.set i (some 0)) + manyT rs (ds.set i (some 1)) = manyT rs ds := by
  have hil := (List.getElem?_eq_some_iff.mp hi).1
  have one : ∀ p : Int, manyT rs (ds.set i (some p)) = ((rowsT rs ds).filter fun w => decide (w[i]? = some p)).length := fun p => by
    refine len_eq_of_mem (rowsT_nodup _ _) (List.Pairwise.filter _ (rowsT_nodup _ _)) fun w => ?_
    rw [mem_rowsT, fills_set hi, List.mem_filter, mem_rowsT, decide_eq_true_eq]
  rw [one, one]
  unfold manyT
  have : ∀ l : List Row, (∀ w ∈ l, w[i]? = some 0 ∨ w[i]? = some 1) → (l.filter fun w => decide (w[i]? = some 0)).length + (l.filter fun w => decide (w[i]? = some 1)).length = l.length := fun l => by
    induction l with
    | nil => intro _; rfl
    | cons w l ih =>
      intro h
      have := ih fun v hv => h v (List.mem_cons_of_mem _ hv)
      rcases h w List.mem_cons_self with e | e
      · rw [List.filter_cons_of_pos (by rw [e]; rfl), List.filter_cons_of_neg (by rw [e]; decide), List.length_cons, List.length_cons]; omega
      · rw [List.filter_cons_of_neg (by rw [e]; decide), List.filter_cons_of_pos (by rw [e]; rfl), List.length_cons, List.length_cons]; omega
  refine this _ fun w hw => ?_
  have f := (mem_rowsT ds w).mp hw
  have hlt : i < w.length := by rw [f.len]; exact hil
  rcases f.fine.bits w[i] (List.getElem_mem hlt) with e | e
  · exact .inl (by rw [List.getElem?_eq_getElem hlt, e])
  · exact .inr (by rw [List.getElem?_eq_getElem hlt, e])
theorem first_fills {rs : List Rule} (ok : RulesOk rs) {ds : Told} (h : canT rs ds [] = true) : Fills rs ds (firstT rs ds []) := by
  have e : ([] : Row) = tl (wd rs) [] := tl_nil.symm
  have h' : canT rs ds (tl (wd rs) []) = true := by rw [← e]; exact h
  obtain ⟨g1, g2, g3⟩ := firstT_ok ok ds [] Fine.nil h'
  rw [← e] at g1 g2 g3
  exact ⟨g1, g2, g3⟩
theorem first_least {rs : List Rule} (ok : RulesOk rs) {ds : Told} (h : canT rs ds [] = true) {i : Nat} (hi : ds[i]? = some none) (h1 : (firstT rs ds [])[i]? = some 1) : manyT rs (((firstT rs ds []).take i).map some ++ [some 0] ++ ds.drop (i + 1)) = 0 := by
  have e : ([] : Row) = tl (wd rs) [] := tl_nil.symm
  have h' : canT rs ds (tl (wd rs) []) = true := by rw [← e]; exact h
  have ff := first_fills ok h
  have hil := (List.getElem?_eq_some_iff.mp hi).1
  have lt : ((firstT rs ds []).take i).length = i := by rw [List.length_take, ff.len]; omega
  refine Classical.byContradiction fun ne => ?_
  obtain ⟨w, hw⟩ := List.exists_mem_of_ne_nil _ (fun z : rowsT rs (((firstT rs ds []).take i).map some ++ [some 0] ++ ds.drop (i + 1)) = [] => ne (by unfold manyT; rw [z]; rfl))
  have f := (mem_rowsT _ w).mp hw
  have lw : w.length = ds.length := by
    rw [f.len, List.length_append, List.length_append, List.length_map, lt, List.length_drop, List.length_singleton]; omega
  have ew : w = (firstT rs ds []).take i ++ [0] ++ w.drop (i + 1) := by
    have a1 : w.take i = (firstT rs ds []).take i := by
      apply List.ext_getElem?
      intro j
      by_cases c : j < i
      · rw [List.getElem?_take, if_pos c]
        obtain ⟨q, hq⟩ : ∃ q, w[j]? = some q := ⟨_, List.getElem?_eq_getElem (by omega)⟩
        obtain ⟨z, hz⟩ : ∃ z, ((firstT rs ds []).take i)[j]? = some z := ⟨_, List.getElem?_eq_getElem (by omega)⟩
        have := f.told j (some z) q (by rw [List.append_assoc, List.getElem?_append_left (by rw [List.length_map]; omega), List.getElem?_map, hz]; rfl) hq
        have : z = q := of_decide_eq_true this
        rw [hq, hz, this]
      · rw [List.getElem?_eq_none (by rw [List.length_take]; omega), List.getElem?_eq_none (by omega)]
    have a2 : w[i]? = some 0 := by
      obtain ⟨q, hq⟩ : ∃ q, w[i]? = some q := ⟨_, List.getElem?_eq_getElem (by omega)⟩
      have := f.told i (some 0) q (by rw [List.append_assoc, List.getElem?_append_right (by rw [List.length_map]; omega), List.length_map, lt, Nat.sub_self]; rfl) hq
      have : (0 : Int) = q := of_decide_eq_true this
      rw [hq, this]
    rw [← a1]
    have a3 : w.take (i + 1) = w.take i ++ [0] := by rw [List.take_add_one, a2]; rfl
    rw [← a3, List.take_append_drop]
  refine firstT_least ok ds [] Fine.nil h' i hi (by rw [← e]; exact h1) (w.drop (i + 1)) ?_ (by rw [List.length_drop, lw]) fun j o p g1 g2 => ?_
  · rw [← e, List.nil_append, ← ew]; exact f.fine
  · refine f.told (i + 1 + j) o p ?_ ?_
    · rw [List.getElem?_append_right (by rw [List.length_append, List.length_map, lt, List.length_singleton]; omega), List.length_append, List.length_map, lt, List.length_singleton, show i + 1 + j - (i + 1) = j by omega]; exact g1
    · rw [List.getElem?_drop] at g2; exact g2
theorem same_x {a : Addr} {H H1 H2 : Hp} (s : Same H H1) (h : H a = none) (e : SameX [a] H1 H2) : Same H H2 := fun b o z => e b o (by simpa using fun q : b = a => by subst q; rw [h] at z; cases z) (s b o z)
/-- a list made by a test that is never met -/
theorem lc_none {J : It} {n : Nat} {G : Hp → Prop} {Y : Nat → Hp → V → Hp → Prop} (wk : Walk J n G Y) {g : TG} {tt : TT} {te : TE} {vs : List Nat} {σ : L2.St} {H1 : Hp} {D : Addr} {Qd : Hp → Prop}
    (hD : H1 D = none) (hG : ∀ H', Same H1 H' → G H')
    (hs : ∀ i x H H' (NF : Hp → Prop), i < n → Same H1 H → Y i H x H' → (∀ H4, Same H H4 → NF H4) → ∀ NT : V → Hp → Prop,
      g x (wipe σ vs) H' fun σ2 H2 => wipe σ2 vs = wipe σ vs ∧ tt σ2 H2 fun b H3 => if b = true then te σ2 H3 NT else NF H3)
    (hd : ∀ H', Same H1 H' → H' D = some (.lst []) → Qd H') :
    ∃ W : Nat → Nat → Hp → Prop, (∃ m, W 0 m (upd H1 D (.lst []))) ∧ ∀ i m H, W i m H →
      (J.stop i H ∧ Qd H) ∨ (J.go i H ∧ ∃ Nx : Hp → Prop, (∀ H', Nx H' → ∃ m', m' < m ∧ W (i + 1) m' H') ∧ ∀ x H', J.yld i H x H' → g x (wipe σ vs) H' fun σ2 H2 => wipe σ2 vs = wipe σ vs ∧ tt σ2 H2 fun b H3 =>
        if b = true then te σ2 H3 fun y H4 => ∃ acc, H4 D = some (.lst acc) ∧ acc.length < sizeLine ∧ Nx (upd H4 D (.lst (acc ++ [y]))) else Nx H3) :=
  lc_go wk (fun (_ : Hp) (_ : V) (_ : Unit) => True) (fun _ => []) hD rfl (fun _ _ => by show 0 < 100000; decide) (fun _ _ _ _ _ h => h) (fun _ _ _ _ _ _ h => h) hG
    (fun i x H H' NT NF hi sm y _ hf => hs i x H H' NF hi sm y (fun H4 s => hf H4 s rfl) NT) fun H' ys s e p => by cases p; exact hd H' s e
/-- the places that are not told -/
def hid (ds : Told) (n : Nat) : List Nat := (List.range n).filter fun j => decide (ds[j]? = some none)
theorem hid_step (ds : Told) (n : Nat) : hid ds (n + 1) = hid ds n ++ (if ds[n]? = some none then [n] else []) := by
  unfold hid
  rw [List.range_succ, List.filter_append]
  congr 1
  by_cases c : ds[n]? = some none
  · rw [if_pos c]; simp [c]
  · rw [if_neg c]; simp [c]
theorem hid_len (ds : Told) (n : Nat) : (hid ds n).length ≤ n := by
  unfold hid
  refine Nat.le_trans (List.length_filter_le _ _) ?_
  rw [List.length_range]; exact Nat.le_refl _
theorem mem_hid {ds : Told} {n j : Nat} (h : j ∈ hid ds n) : ds[j]? = some none := of_decide_eq_true (List.mem_filter.mp h).2
def PlV (v : V) (j : Nat) : Prop := v = .int (j : Nat)
theorem eq_of_pl : ∀ {ys : List V} {ps : List Nat}, Paired PlV ys ps → ys = ps.map fun j => .int (j : Nat)
  | _, _, .nil => rfl
  | _, _, .cons h t => by rw [List.map_cons, show _ = _ from h, eq_of_pl t]
theorem FirstV.mono {rs : List Rule} {ds : Told} {H H' : Hp} {v : V} (t : TS H H') (h : FirstV rs ds H v) : FirstV rs ds H' v := h.imp (fun ⟨a, b⟩ => ⟨a, TupI.mono t b⟩) id
theorem FirstV.non {rs : List Rule} {ds : Told} {H : Hp} {v : V} (ok : RulesOk rs) (h : FirstV rs ds H v) : decide (v = .non) = decide (V.int (manyT rs ds : Nat) = .int 0) := by
  rcases h with ⟨h1, ⟨a, rfl, _⟩⟩ | ⟨h1, rfl⟩
  · rw [decide_eq_false (fun z => nomatch z), decide_eq_false]
    intro z
    injection z with z
    exact (canT_many ok ds).mp h1 (by omega)
  · rw [decide_eq_true rfl, decide_eq_true]
    have : manyT rs ds = 0 := Classical.byContradiction fun ne => by
      rw [(canT_many ok ds).mpr ne] at h1; cases h1
    rw [this]; rfl
theorem min3 (n : Nat) (c : Int) (h0 : 0 ≤ c) (hc : c ≤ 100) : 0 ≤ (if (n : Int) < c then (n : Int) else c) ∧ (if (n : Int) < c then (n : Int) else c) ≤ 100 ∧ (if (n : Int) < c then (n : Int) else c) ≤ n := by split <;> omega
section
variable {P : Program} {w : World} {K : PySem.W.Frag} {mg : Str → Option Value} {base : Heap}
def N_law : List Str := ["script", "cell", "deck", "rules", "told", "row", "many", "hidden", "at", "place", "turn", "some", "few", "most", "ones"]
theorem sc_law : FnScope N_law ["script"] (defScope S_law) := ⟨rfl, rfl, rfl, by decide +kernel, rfl, by decide +kernel, by decide +kernel⟩
def spLaw (K : PySem.W.Frag) : Sp := fun vs H Q _ => ∃ (a : Addr) (ns : List Int), vs = [.ref a] ∧ SqL K H a (ns.map V.int) ∧ ns.length ≤ 63 ∧ ∀ H', Q (.bl true) H'
def PvL1 (sv : V) (H : Hp) (σ : L2.St) (H' : Hp) : Prop := ∃ x1 x2 x3 x4 x5 x6 x7 x8 x9 x10 x11 x12 x13 x14, σ = [some sv, x1, x2, x3, x4, x5, x6, x7, x8, x9, x10, x11, x12, x13, x14] ∧ Same H H'
structure LK (H1 H5 : Hp) (a : Addr) (N : Int) (H' : Hp) : Prop where
  sm : Same H1 H'
  ts : TS H5 H'
  dk : DeckAt H' a N
theorem LK.same {H1 H5 : Hp} {a : Addr} {N : Int} {H' H2 : Hp} (l : LK H1 H5 a N H') (e : Same H' H2) : LK H1 H5 a N H2 := ⟨l.sm.trans e, l.ts.trans (TS.of e), l.dk.same e⟩
def PvA1 (sv : V) (c : Int) (a : Addr) (rv tv fv : V) (mn : Int) (Hd : Addr) (hs : List Nat) (H1 H5 : Hp) (N : Int) (Fp : Hp → Prop) (i : Nat) (σ : L2.St) (H' : Hp) : Prop :=
  ∃ x8 x9 x10 x11 x12 x13 x14, σ = [some sv, some (.int c), some (.ref a), some rv, some tv, some fv, some (.int mn), some (.ref Hd), x8, x9, x10, x11, x12, x13, x14] ∧ LK H1 H5 a (N + i) H' ∧ H' Hd = some (.lst (hs.map fun j => .int (j : Nat))) ∧ Fp H'
def PvB1 (sv : V) (c : Int) (a : Addr) (rv tv fv : V) (mn : Int) (On : Addr) (os : List Nat) (H1 H5 : Hp) (N : Int) (Fp : Hp → Prop) (i : Nat) (σ : L2.St) (H' : Hp) : Prop :=
  ∃ x7 x8 x9 x10 x11 x12 x13, σ = [some sv, some (.int c), some (.ref a), some rv, some tv, some fv, some (.int mn), x7, x8, x9, x10, x11, x12, x13, some (.ref On)] ∧ LK H1 H5 a (N + i) H' ∧ H' On = some (.lst (os.map fun j => .int (j : Nat))) ∧ Fp H'
theorem ok_law {f0 : Addr} {fd0 : FuncData} (F0 : FunD K "law" "law" (defArgs S_law) (defBody S_law) (defScope S_law) [] [] f0 fd0) (bf : Bf mg) (C_law_deck : Cl P w K mg base 1 "_law_deck" spDeck) (C_law_pick : Cl P w K mg base 1 "_law_pick" spPick) (C_law_one : Cl P w K mg base 2 "_law_one" spOne)
    (C_law_rules : Cl P w K mg base 3 "_law_rules" spRulesL) (C_law_told : Cl P w K mg base 4 "_law_told" spTold) (C_law_keeps : Cl P w K mg base 1 "_law_keeps" spKeeps) (C_filling : Cl P w K mg base 6 "filling" spFirst) (C_how_many : Cl P w K mg base 6 "how_many" spMany) (C_marks : Cl P w K mg base 6 "marks" spMarks) :
    FnOk P w K mg base CX0 7 f0 fd0 ["script"] (spLaw K) := by
  refine fun_ok F0 sc_law (fun vs H Q E h => ?_) (fun f cdv A outer s H vs Q E hr h => ?_)
  · obtain ⟨a, ns, rfl, _⟩ := h; rfl
  · obtain ⟨sa, ns, rfl, hS, hn, k⟩ := h
    have nd := sc_law.nd
    have hr_law_deck := hr.mono (show 1 ≤ 6 by decide)
    have hr_law_pick := hr.mono (show 1 ≤ 6 by decide)
    have hr_law_one := hr.mono (show 2 ≤ 6 by decide)
    have hr_law_rules := hr.mono (show 3 ≤ 6 by decide)
    have hr_law_told := hr.mono (show 4 ≤ 6 by decide)
    have hr_law_keeps := hr.mono (show 1 ≤ 6 by decide)
    have hr_filling := hr
    have hr_how_many := hr
    have hr_marks := hr
    refine ⟨_, (pss_cons (ps_for PassesOwn.never rfl (pi_list (pe_slice sl_list (pe_op op_catS (pe_lst (pa_cons pe_int pa_nil)) (pv 0)) po_none (po_some pe_int))) (pg_name (i := 1) nd rfl (Or.inl rfl))
    (pss_cons (ps_set (i := 2) nd rfl (Or.inl rfl) (pe_callC C_law_deck hr_law_deck rfl (pa_cons (pv 1) (pa_cons pe_int pa_nil))))
    (pss_cons (ps_set (i := 3) nd rfl (Or.inr rfl) (pe_callC C_law_rules hr_law_rules rfl (pa_cons (pv 2) (pa_cons pe_int (pa_cons pe_int pa_nil)))))
    (pss_cons (ps_set (i := 4) nd rfl (Or.inr rfl) (pe_callC C_law_told hr_law_told rfl (pa_cons (pv 2) (pa_cons (pv 3) (pa_cons (pe_callC C_law_pick hr_law_pick rfl (pa_cons (pv 2) (pa_cons pe_int pa_nil))) pa_nil)))))
    (pss_cons (ps_asg (pe_tup (pa_cons (pe_callC C_filling hr_filling rfl (pa_cons (pv 3) (pa_cons (pv 4) pa_nil))) (pa_cons (pe_callC C_how_many hr_how_many rfl (pa_cons (pv 3) (pa_cons (pv 4) pa_nil))) pa_nil))) (pg_tup rfl (pgs_cons (pg_name (i := 5) nd rfl (Or.inr rfl)) (pgs_cons (pg_name (i := 6) nd rfl (Or.inl rfl)) pgs_nil))))
    (pss_cons (ps_if (pt_cmpR op_ne (pe_cmpR op_isN (pv 5) pe_non (nomark _)) (pe_cmpR op_eq (pv 6) pe_int (nomark _)) (nomark _))
    (pss_one (ps_ret pe_bl))
    pss_nil)
    (pss_cons (ps_setLc (i := 7) (own := [("at", 8), ("place", 9)]) rfl nd rfl rfl (sw_true rfl rfl rfl (by decide +kernel)) (pi_enumT rfl bf.enumerate (pa_cons (pv 4) pa_nil)) (blkOk_by (own := [("at", 8), ("place", 9)]) (N := N_law) (sc := defScope S_law) (by decide +kernel)) (fun _ _ _ _ _ => (pg_tupK (K := K) (n := 2) rfl rfl (pgs_cons (pg_name (i := 8) nd rfl (Or.inl rfl) (Or.inr rfl)) (pgs_cons (pg_name (i := 9) nd rfl (Or.inl rfl) (Or.inr rfl)) pgs_nil)))) (fun _ _ _ _ _ => (pts_one (pt_cmpR op_isN (pv 9) pe_non (nomark _)))) (fun _ _ _ _ _ => (pv 8)))
    (pss_cons (ps_for PassesOwn.never rfl (pi_range1 rfl bf.range (pa_cons (pe_callB (call_min2 rfl) rfl bf.min bt_min (pa_cons pe_int (pa_cons (pe_callB call_len_seq rfl bf.len bt_len (pa_cons (pv 7) pa_nil)) pa_nil))) pa_nil)) (pg_name (i := 10) nd rfl (Or.inl rfl))
    (pss_cons (ps_set (i := 8) nd rfl (Or.inr rfl) (pe_callC C_law_one hr_law_one rfl (pa_cons (pv 2) (pa_cons (pv 7) pa_nil))))
    (pss_cons (ps_setLc (i := 11) (own := [("place", 9)]) rfl nd rfl rfl (sw_true rfl rfl rfl (by decide +kernel)) (pi_tup (pe_tup (pa_cons pe_int (pa_cons pe_int pa_nil)))) (blkOk_by (own := [("place", 9)]) (N := N_law) (sc := defScope S_law) (by decide +kernel)) (fun _ _ _ _ _ => (pg_name (i := 9) nd rfl (Or.inl rfl) (Or.inr rfl))) (fun _ _ _ _ _ => pts_nil) (fun _ _ _ _ _ => (pe_callC C_how_many hr_how_many rfl (pa_cons (pv 3) (pa_cons (pe_op (op_catK (K := K) rfl) (pe_op (op_catK (K := K) rfl) (pe_slice (sl_tupK (K := K) rfl) (pv 4) po_none (po_some (pv 8))) (pe_tup (pa_cons (pv 9) pa_nil))) (pe_slice (sl_tupK (K := K) rfl) (pv 4) (po_some (pe_op op_add (pv 8) pe_int)) po_none)) pa_nil)))))
    (pss_one (ps_if (pt_cmpR op_ne (pe_callB (cr_sum rfl) rfl bf.sum bt_sum (pa_cons (pv 11) pa_nil)) (pv 6) (nomark _))
    (pss_one (ps_ret pe_bl))
    pss_nil)))))
    (pss_one (ps_if (pt_cmpR op_notN (pv 5) pe_non (nomark _))
    (pss_cons (ps_if (PW.pt (pw_or (pt_cmpR op_ne (pe_callB call_len_seq rfl bf.len bt_len (pa_cons (pv 5) pa_nil)) (pe_callB call_len_seq rfl bf.len bt_len (pa_cons (pv 4) pa_nil)) (nomark _)) (pw_or1 (pt_not (pt_val (pe_callC C_law_keeps hr_law_keeps rfl (pa_cons (pv 3) (pa_cons (pv 5) pa_nil))))))))
    (pss_one (ps_ret pe_bl))
    pss_nil)
    (pss_cons (ps_if (pt_cmpR (op_neD hr.units) (pe_lc (own := [("at", 8), ("place", 9)]) rfl nd (pi_enumT rfl bf.enumerate (pa_cons (pv 4) pa_nil)) (blkOk_by (own := [("at", 8), ("place", 9)]) (N := N_law) (sc := defScope S_law) (by decide +kernel)) (fun _ _ _ _ _ => (pg_tupK (K := K) (n := 2) rfl rfl (pgs_cons (pg_name (i := 8) nd rfl (Or.inl rfl) (Or.inr rfl)) (pgs_cons (pg_name (i := 9) nd rfl (Or.inl rfl) (Or.inr rfl)) pgs_nil)))) (fun _ _ _ _ _ => (pts_one (PW.pt (pw_and (pt_cmpR op_notN (pv 9) pe_non (nomark _)) (pw_and1 (pt_cmpR op_ne (pe_ix (ix_tupK (K := K) rfl) (pv 5) (pv 8) (fun _ _ => rfl)) (pv 9) (nomark _))))))) (fun _ _ _ _ _ => (pv 8))) (pe_lst pa_nil) (nomark _))
    (pss_one (ps_ret pe_bl))
    pss_nil)
    (pss_cons (ps_asg (pe_callC C_marks hr_marks rfl (pa_cons (pv 3) (pa_cons (pv 4) pa_nil))) (pg_tup rfl (pgs_cons (pg_name (i := 12) nd rfl (Or.inl rfl)) (pgs_cons (pg_name (i := 13) nd rfl (Or.inl rfl)) pgs_nil))))
    (pss_cons (ps_if (pt_not (pt_chain op_le op_le (pv 12) (pe_callB (cr_sumT rfl) rfl bf.sum bt_sum (pa_cons (pv 5) pa_nil)) (pv 13)))
    (pss_one (ps_ret pe_bl))
    pss_nil)
    (pss_cons (ps_setLc (i := 14) (own := [("at", 8)]) rfl nd rfl rfl (sw_true rfl rfl rfl (by decide +kernel)) (pi_list (pv 7)) (blkOk_by (own := [("at", 8)]) (N := N_law) (sc := defScope S_law) (by decide +kernel)) (fun _ _ _ _ _ => (pg_name (i := 8) nd rfl (Or.inl rfl) (Or.inr rfl))) (fun _ _ _ _ _ => (pts_one (pt_cmpR op_eq (pe_ix (ix_tupK (K := K) rfl) (pv 5) (pv 8) (fun _ _ => rfl)) pe_int (nomark _)))) (fun _ _ _ _ _ => (pv 8)))
    (pss_one (ps_for PassesOwn.never rfl (pi_range1 rfl bf.range (pa_cons (pe_callB (call_min2 rfl) rfl bf.min bt_min (pa_cons pe_int (pa_cons (pe_callB call_len_seq rfl bf.len bt_len (pa_cons (pv 14) pa_nil)) pa_nil))) pa_nil)) (pg_name (i := 10) nd rfl (Or.inl rfl))
    (pss_cons (ps_set (i := 8) nd rfl (Or.inr rfl) (pe_callC C_law_one hr_law_one rfl (pa_cons (pv 2) (pa_cons (pv 14) pa_nil))))
    (pss_one (ps_if (pt_cmpR op_ne (pe_callC C_how_many hr_how_many rfl (pa_cons (pv 3) (pa_cons (pe_op op_catA (pe_op op_catA (pe_slice sl_tupA (pv 5) po_none (po_some (pv 8))) (pe_tup (pa_cons pe_int pa_nil))) (pe_slice sl_tupA (pv 4) (po_some (pe_op op_add (pv 8) pe_int)) po_none)) pa_nil))) pe_int (nomark _))
    (pss_one (ps_ret pe_bl))
    pss_nil))))))))))
    pss_nil))))))))))
    (pss_one (ps_ret pe_bl))), ?_⟩
    refine ⟨sz (by show 1 ≤ 100000; decide), fun c0 hc0 => ⟨_, rfl, c0, sa, [.int 0], ns.map V.int, rfl, rfl, SqL.of upd_same, SqL_same hS (Same.new hc0), sz (by rw [List.length_map, List.length_singleton]; omega), fun c1 hc1 => ?_⟩⟩
    refine ⟨_, rfl, sll_to (H := upd (upd H c0 (.lst [.int 0])) c1 (.lst ([.int 0] ++ ns.map V.int))) (j := 6) (SqL.of upd_same) fun L hL => ?_⟩
    have isI : ∀ x ∈ (([.int 0] : List V) ++ ns.map V.int).take 6, ∃ c : Int, x = .int c := fun x hx => by
      rcases List.mem_append.mp (List.mem_of_mem_take hx) with z | z
      · exact ⟨0, List.mem_singleton.mp z⟩
      · obtain ⟨c, _, e⟩ := List.mem_map.mp z; exact ⟨c, e.symm⟩
    generalize hxs : (([.int 0] : List V) ++ ns.map V.int).take 6 = xs at *
    generalize hG : upd (upd (upd H c0 (.lst [.int 0])) c1 (.lst ([.int 0] ++ ns.map V.int))) L (.lst xs) = G at *
    have gL : G L = some (.lst xs) := by rw [← hG]; exact upd_same
    refine ⟨L, rfl, ⟨_, SqL.of gL⟩, for_list (xs := xs) (fun _ => PvL1 (.ref sa) G) ⟨_, _, _, _, _, _, _, _, _, _, _, _, _, _, rfl, Same.refl G⟩ (fun i σ H' _ ⟨_, _, _, _, _, _, _, _, _, _, _, _, _, _, _, sm⟩ => SqL.of (sm _ _ gL)) ?_ ?_⟩
    · rintro i x σ H1 hi ⟨x1, x2, x3, x4, x5, x6, x7, x8, x9, x10, x11, x12, x13, x14, rfl, smG⟩
      obtain ⟨c, rfl⟩ := isI x (List.mem_of_getElem? hi)
      refine ⟨_, rfl, c, 6, rfl, by decide, fun a H2 s2 ha hd => ?_⟩
      refine ⟨_, rfl, a, 8, 9, 6, rfl, by decide, by decide, by decide, by decide, by decide, hd, fun rv H3 rs sx3 ts3 hd3 hR ok _ _ => ?_⟩
      refine ⟨_, rfl, _, rfl, _, rfl, a, 121, _, rfl, by decide, by decide, by decide, hd3, fun m H4 m0 m1 sx4 ts4 hd4 => ?_⟩
      refine ⟨a, rv, rs, m, _, rfl, RulesAt.mono ts4 hR, ok, m0, by omega, by decide, hd4, fun tv H5 ds sx5 ts5 hd5 hT tok => ?_⟩
      have sm5 : Same H1 H5 := same_x (same_x (same_x s2 ha sx3) ha sx4) ha sx5
      have hR5 := RulesAt.mono (ts4.trans ts5) hR
      have tlen := tok.len
      refine ⟨_, rfl, _, rfl, rv, tv, rs, ds, rfl, hR5, ok, hT, tok, fun fv H6 s6 fvv => ?_⟩
      refine ⟨_, rfl, _, rfl, rv, tv, rs, ds, rfl, RulesAt.mono (TS.of s6) hR5, ok, ToldAt.mono (TS.of s6) hT, tok, fun H7 s7 => ?_⟩
      refine ⟨sz (by show 2 ≤ 100000; decide), fun c2 hc2 => ?_⟩
      have s8 : Same H7 (upd H7 c2 (.tup [fv, .int (manyT rs ds : Nat)])) := Same.new hc2
      refine ⟨c2, _, rfl, SqT.of upd_same, rfl, _, _, rfl, _, _, rfl, rfl, ?_⟩
      have s9 := s6.trans (s7.trans s8)
      have l9 : LK H1 H5 a _ (upd H7 c2 (.tup [fv, .int (manyT rs ds : Nat)])) := ⟨sm5.trans s9, TS.of s9, hd5.same s9⟩
      have en := fvv.non ok
      refine ⟨_, rfl, rfl, _, rfl, rfl, rfl, _, rfl, ?_⟩
      rw [en, decide_eq_true rfl]
      refine iteF ?_
      obtain ⟨ta, rfl, hta⟩ := id hT
      refine ⟨_, rfl, ta, _, rfl, SqT.of (l9.ts _ _ hta), fun Hd hHd => lc_go walk_enumT (fun _ v j => PlV v j) (hid ds) hHd rfl (fun z hz => by have := hid_len ds z; rw [List.length_map] at hz; omega) (fun _ _ _ _ _ h => h) (fun _ _ _ _ _ _ h => h) (fun H' e => SqT.of (e _ _ (l9.ts _ _ hta))) ?_ ?_⟩
      · rintro j y He Hf NT NF hj sm' ⟨T, y1, y2, rfl, nT, rfl, e1, e2⟩ nt nf
        cases e1
        obtain ⟨o, ho, rfl⟩ : ∃ o, ds[j]? = some o ∧ y2 = oV o := by
          have e2 : (ds.map oV)[j]? = some y2 := e2
          rw [List.getElem?_map] at e2
          obtain ⟨p, hp, e⟩ := Option.map_eq_some_iff.mp e2
          exact ⟨p, hp, e.symm⟩
        have st := hid_step ds j
        refine ⟨T, _, rfl, SqT.of upd_same, rfl, _, _, rfl, _, _, rfl, rfl, rfl, ?_⟩
        cases o with
        | none =>
          rw [if_pos ho] at st
          exact ⟨_, rfl, rfl, _, rfl, iteT ⟨_, rfl, nt _ _ j (Same.new nT) rfl st⟩⟩
        | some q =>
          rw [if_neg (by rw [ho]; exact fun z => by cases z), List.append_nil] at st
          exact ⟨_, rfl, rfl, _, rfl, iteF (nf _ (Same.new nT) st)⟩
      · intro He zs sm' hHd' pz
        have ez := eq_of_pl pz
        subst ez
        have l10 := l9.same sm'
        have hmem : ∀ j ∈ hid ds (ds.map oV).length, ds[j]? = some none := fun j hj => mem_hid hj
        have hlen : (hid ds (ds.map oV).length).length ≤ ds.length := Nat.le_trans (hid_len _ _) (by rw [List.length_map]; exact Nat.le_refl _)
        revert hHd' hmem hlen
        generalize hid ds (ds.map oV).length = hs
        intro hHd' hmem hlen
        obtain ⟨b1, b2, b3⟩ := min3 hs.length 3 (by decide) (by decide)
        refine ⟨_, rfl, Hd, _, rfl, .inl (SqL.of hHd'), _, _, rfl, _, rfl, by rw [List.length_map]; omega, by rw [List.length_map]; omega, for_range (PvA1 (.ref sa) c a rv (.ref ta) fv (manyT rs ds : Nat) Hd hs H1 H5 (6 + 40 + 1 + 500) (fun H' => FirstV rs ds H' fv)) ⟨_, _, _, _, _, _, _, rfl, ⟨l10.sm, l10.ts, l10.dk.mono (fun _ e => e) (by omega)⟩, hHd', fvv.mono (TS.of ((s7.trans s8).trans sm'))⟩ ?_ ?_⟩
        · rintro z σ Ha hz ⟨y8, y9, y10, y11, y12, y13, y14, rfl, lk, hHa, fva⟩
          have naH : a ≠ Hd := l9.dk.ne hHd
          have ne : hs ≠ [] := fun e => by subst e; simp at hz
          rw [List.length_map] at hz
          refine ⟨_, rfl, _, rfl, a, Hd, (hs.map fun j => .int (j : Nat)), _, rfl, naH, hHa, fun e => ne (List.map_eq_nil_iff.mp e), (by have : (hs.map fun j => V.int (j : Nat)).length = hs.length := List.length_map _; omega), by omega, lk.dk, fun x Hb hx sx ts hdb => ?_⟩
          obtain ⟨j, hj, rfl⟩ := List.mem_map.mp hx
          have hdj := hmem j hj
          have hjl := (List.getElem?_eq_some_iff.mp hdj).1
          have lk2 : LK H1 H5 a _ Hb := ⟨same_x lk.sm ha sx, lk.ts.trans ts, hdb⟩
          have hHb := sx _ _ (by simpa using Ne.symm naH) hHa
          refine ⟨sz (by show 2 ≤ 100000; decide), fun c5 hc5 => ⟨c5, rfl, ⟨_, SqT.of upd_same⟩, fun D hD => lc_map (n := 2) (walk_tup (xs := [.int 0, .int 1])) (fun _ v (b : Int) => v = .int b) [((manyT rs (ds.set j (some 0)) : Nat) : Int), ((manyT rs (ds.set j (some 1)) : Nat) : Int)] hD rfl (by decide) (fun _ _ _ _ _ h => h) (fun _ _ _ _ _ _ h => h) (fun H3 e => SqT.of (e _ _ upd_same)) ?_ (gm_name 9) ?_⟩⟩
          · rintro t y Hc Hc2 NT ht sm2 ⟨rfl, hy⟩ put
            obtain ⟨p, hp, rfl⟩ : ∃ p : Int, ([0, 1] : List Int)[t]? = some p ∧ y = .int p := by
              match t, hy with
              | 0, h => cases h; exact ⟨0, rfl, rfl⟩
              | 1, h => cases h; exact ⟨1, rfl, rfl⟩
            have hms : ([((manyT rs (ds.set j (some 0)) : Nat) : Int), ((manyT rs (ds.set j (some 1)) : Nat) : Int)] : List Int)[t]? = some ((manyT rs (ds.set j (some p)) : Nat) : Int) := by
              match t, hp with
              | 0, h => cases h; rfl
              | 1, h => cases h; rfl
            have hp01 := mem_01.mp (List.mem_of_getElem? hp)
            have sB : Same Hb Hc2 := (Same.new hc5).trans sm2
            have tB := lk2.ts.trans (TS.of sB)
            refine ⟨rfl, _, rfl, _, rfl, _, rfl, _, rfl, slt_to (j := j) rfl (tB _ _ hta) fun q Hq sq hq => ?_⟩
            refine ⟨_, rfl, sz (by show 1 ≤ 100000; decide), fun c6 hc6 => ?_⟩
            have s6' : Same Hq (upd Hq c6 (.tup [.int p])) := Same.new hc6
            refine cat_any (s6' _ _ hq) upd_same (by rw [List.length_take, List.length_map, List.length_singleton]; omega) fun q2 Hq2 sq2 hq2 => ?_
            have sQ := sq.trans (s6'.trans sq2)
            refine ⟨_, rfl, _, rfl, _, _, rfl, rfl, _, rfl, ?_⟩
            refine sl_fromN (k := j + 1) (by omega) (TS.of sQ _ _ (tB _ _ hta)) fun q3 Hq3 sq3 hq3 => ?_
            refine cat_any (sq3 _ _ hq2) hq3 (by rw [List.length_append, List.length_take, List.length_drop, List.length_map, List.length_singleton]; omega) fun q4 Hq4 sq4 hq4 => ?_
            have sR := sQ.trans (sq3.trans sq4)
            have eds : (ds.set j (some p)).map oV = (ds.map oV).take j ++ [.int p] ++ (ds.map oV).drop (j + 1) := by
              rw [List.set_eq_take_append_cons_drop, if_pos hjl, List.map_append, List.map_cons, List.map_take, List.map_drop, List.append_assoc]; rfl
            refine ⟨rv, .ref q4, rs, ds.set j (some p), rfl, RulesAt.mono (tB.trans (TS.of sR)) hR5, ok, ⟨q4, rfl, by rw [hq4, eds]⟩, ⟨by rw [List.length_set]; exact tlen, fun o ho => (List.mem_or_eq_of_mem_set ho).elim (tok.bits o) fun e => by rw [e]; rcases hp01 with rfl | rfl <;> simp⟩, fun H' s' => ?_⟩
            exact put _ _ _ (sR.trans s') hms rfl
          · intro Hc ys sm2 hD2 pr
            have ey : ys = ([((manyT rs (ds.set j (some 0)) : Nat) : Int), ((manyT rs (ds.set j (some 1)) : Nat) : Int)] : List Int).map V.int := eq_of_ints pr
            subst ey
            have sB : Same Hb Hc := (Same.new hc5).trans sm2
            have ms := many_set (rs := rs) hdj
            refine ⟨_, rfl, D, _, rfl, SqL.of hD2, _, rfl, rfl, _, rfl, ?_⟩
            rw [show ([((manyT rs (ds.set j (some 0)) : Nat) : Int), ((manyT rs (ds.set j (some 1)) : Nat) : Int)] : List Int).sum = ((manyT rs ds : Nat) : Int) by simp; omega, decide_eq_true rfl]
            refine iteF ⟨_, _, _, _, _, _, _, rfl, ⟨(lk2.same sB).sm, (lk2.same sB).ts, (lk2.same sB).dk.mono (fun _ e => e) (by omega)⟩, sB _ _ hHb, fva.mono (ts.trans (TS.of sB))⟩
        · rintro σ Ha ⟨y8, y9, y10, y11, y12, y13, y14, rfl, lk, hHa, fva⟩
          have naH : a ≠ Hd := l9.dk.ne hHd
          refine ⟨_, rfl, rfl, _, rfl, ?_⟩
          rcases fva with ⟨hc, ⟨fa, rfl, hfa⟩⟩ | ⟨hc, rfl⟩
          · rw [decide_eq_false (fun z => nomatch z)]
            refine iteT ?_
            have ff := first_fills ok hc
            have least := fun (j : Nat) (h1 : ds[j]? = some none) => first_least (rs := rs) ok hc h1
            revert hfa ff least
            generalize firstT rs ds [] = r
            intro hfa ff least
            have rl := ff.len
            have hta2 := lk.ts _ _ hta
            refine ⟨_, rfl, fa, _, rfl, .inr (SqT.of hfa), _, rfl, ta, _, rfl, .inr (SqT.of hta2), rfl, _, rfl, ?_⟩
            rw [List.length_map, List.length_map, rl, decide_eq_true rfl]
            refine iteF ?_
            refine ⟨_, rfl, _, rfl, rv, .ref fa, rs, r, rfl, RulesAt.mono lk.ts hR5, ok, ⟨fa, rfl, hfa⟩, ff.fine, by omega, fun Hb sb => ⟨_, rfl, iteF ?_⟩⟩
            have lkb := lk.same sb
            have hfb := sb _ _ hfa
            have htb := sb _ _ hta2
            refine ⟨_, rfl, ta, _, rfl, SqT.of htb, fun M hM => lc_none walk_enumT hM (fun H' e => SqT.of (e _ _ htb)) ?_ ?_⟩
            · rintro j y Hc Hd2 NF hj sm' ⟨T, y1, y2, rfl, nT, rfl, e1, e2⟩ nf NT
              cases e1
              obtain ⟨o, ho, rfl⟩ : ∃ o, ds[j]? = some o ∧ y2 = oV o := by
                have e2 : (ds.map oV)[j]? = some y2 := e2
                rw [List.getElem?_map] at e2
                obtain ⟨p, hp, e⟩ := Option.map_eq_some_iff.mp e2
                exact ⟨p, hp, e.symm⟩
              have sT := Same.new (o := .tup [.int (j : Nat), oV o]) nT
              have hjl := (List.getElem?_eq_some_iff.mp ho).1
              obtain ⟨p, hp⟩ : ∃ p, r[j]? = some p := ⟨_, List.getElem?_eq_getElem (by omega)⟩
              have mtp := ff.told j o p ho hp
              refine ⟨T, _, rfl, SqT.of upd_same, rfl, _, _, rfl, _, _, rfl, rfl, rfl, ?_⟩
              cases o with
              | none => exact ⟨_, rfl, rfl, _, rfl, iteNS rfl (nf _ sT)⟩
              | some q =>
                have : q = p := of_decide_eq_true mtp
                subst this
                refine ⟨_, rfl, rfl, _, rfl, iteT ⟨_, rfl, _, rfl, fa, _, _, .int q, rfl, rfl, SqT.of (sT _ _ (sm' _ _ hfb)), atI_nat (by rw [List.getElem?_map, hp]; rfl), _, rfl, rfl, _, rfl, iteNS rfl (nf _ sT)⟩⟩
            · intro Hc sm' hM'
              refine ⟨sz (by show 0 ≤ 100000; decide), fun e he => ?_⟩
              have se : Same Hc (upd Hc e (.lst [])) := Same.new he
              refine ⟨.list [], .list [], .lst (SqL.of (se _ _ hM')) .nil, .lst (SqL.of upd_same) .nil, by decide +kernel, by decide +kernel, _, rfl, iteF ?_⟩
              have s2' := sm'.trans se
              have lkc := lkb.same s2'
              refine ⟨_, rfl, _, rfl, rv, .ref ta, rs, ds, r, rfl, RulesAt.mono lkc.ts hR5, ok, ⟨ta, rfl, lkc.ts _ _ hta⟩, tok, ff, fun p Hm lo hi sm3 hp l1 l2 => ?_⟩
              have lkm := lkc.same sm3
              have hfm := sm3 _ _ (s2' _ _ hfb)
              refine ⟨p, _, rfl, SqT.of hp, rfl, _, _, rfl, _, _, rfl, rfl, ?_⟩
              refine ⟨_, rfl, _, rfl, fa, r, rfl, SqT.of hfm, _, _, rfl, rfl, _, rfl, ?_⟩
              rw [decide_eq_true l1]
              refine iteT ⟨_, rfl, _, _, rfl, rfl, _, rfl, ?_⟩
              rw [decide_eq_true l2]
              refine iteF ?_
              have hHm : Hm Hd = some (.lst (hs.map fun j => .int (j : Nat))) := sm3 _ _ (s2' _ _ (sb _ _ hHa))
              refine ⟨_, rfl, Hd, rfl, ⟨_, SqL.of hHm⟩, fun On hOn => lc_go (walk_list (xs := hs.map fun j => .int (j : Nat))) (fun _ v j => PlV v j) (fun i => (hs.take i).filter fun j => decide (r[j]? = some 1)) hOn rfl (fun z hz => ?_) (fun _ _ _ _ _ h => h) (fun _ _ _ _ _ _ h => h) (fun H' e => SqL.of (e _ _ hHm)) ?_ ?_⟩
              · refine Nat.lt_of_le_of_lt (List.length_filter_le _ _) ?_
                rw [List.length_take]
                omega
              · rintro z y Hc3 Hd3 NT NF hz sm' ⟨rfl, hx⟩ nt nf
                obtain ⟨j, hj, rfl⟩ : ∃ j, hs[z]? = some j ∧ y = .int (j : Nat) := by
                  rw [List.getElem?_map] at hx
                  obtain ⟨p, hp, e⟩ := Option.map_eq_some_iff.mp hx
                  exact ⟨p, hp, e.symm⟩
                have ft := filter_take (fun j => decide (r[j]? = some 1)) hs z j hj
                have hjl := (List.getElem?_eq_some_iff.mp (hmem j (List.mem_of_getElem? hj))).1
                obtain ⟨p, hp⟩ : ∃ p, r[j]? = some p := ⟨_, List.getElem?_eq_getElem (by omega)⟩
                refine ⟨rfl, _, rfl, _, rfl, fa, _, _, .int p, rfl, rfl, SqT.of (sm' _ _ hfm), atI_nat (by rw [List.getElem?_map, hp]; rfl), rfl, _, rfl, ?_⟩
                rw [dec_int]
                by_cases c1 : p = 1
                · subst c1
                  rw [hp] at ft
                  exact iteT ⟨_, rfl, nt _ _ j (Same.refl _) rfl (by rw [ft]; rfl)⟩
                · rw [show (p == 1) = false by simpa using c1]
                  refine iteF (nf _ (Same.refl _) ?_)
                  rw [ft, hp, if_neg (by simpa using c1), List.append_nil]
              · intro Hc3 ys sm' hOn' pz
                rw [List.length_map, List.take_of_length_le (Nat.le_refl _)] at pz
                have ez := eq_of_pl pz
                subst ez
                have hone : ∀ j ∈ hs.filter (fun j => decide (r[j]? = some 1)), ds[j]? = some none ∧ r[j]? = some 1 := fun j hj => ⟨hmem j (List.mem_filter.mp hj).1, of_decide_eq_true (List.mem_filter.mp hj).2⟩
                have olen : (hs.filter (fun j => decide (r[j]? = some 1))).length ≤ hs.length := List.length_filter_le _ _
                revert hOn' hone olen
                generalize hs.filter (fun j => decide (r[j]? = some 1)) = os
                intro hOn' hone olen
                have lkn := lkm.same sm'
                have naO : a ≠ On := lkm.dk.ne hOn
                obtain ⟨b1, b2, b3⟩ := min3 os.length 4 (by decide) (by decide)
                refine ⟨_, rfl, On, _, rfl, .inl (SqL.of hOn'), _, _, rfl, _, rfl, by rw [List.length_map]; omega, by rw [List.length_map]; omega, for_range (PvB1 (.ref sa) c a rv (.ref ta) (.ref fa) (manyT rs ds : Nat) On os H1 H5 1000 (fun H' => H' fa = some (.tup (r.map V.int)))) ⟨_, _, _, _, _, _, _, rfl, ⟨lkn.sm, lkn.ts, lkn.dk.mono (fun _ e => e) (by rw [List.length_map]; omega)⟩, hOn', sm' _ _ hfm⟩ ?_ ?_⟩
                · rintro z σ Hx hz ⟨y7, y8, y9, y10, y11, y12, y13, rfl, lk9, hOx, hfx⟩
                  have ne : os ≠ [] := fun e => by subst e; simp at hz
                  rw [List.length_map] at hz
                  refine ⟨_, rfl, _, rfl, a, On, (os.map fun j => .int (j : Nat)), _, rfl, naO, hOx, fun e => ne (List.map_eq_nil_iff.mp e), (by have : (os.map fun j => V.int (j : Nat)).length = os.length := List.length_map _; omega), by omega, lk9.dk, fun x Hy hx sx ts hdy => ?_⟩
                  obtain ⟨j, hj, rfl⟩ := List.mem_map.mp hx
                  obtain ⟨hdj, hrj⟩ := hone j hj
                  have hjl := (List.getElem?_eq_some_iff.mp hdj).1
                  have lky : LK H1 H5 a _ Hy := ⟨same_x lk9.sm ha sx, lk9.ts.trans ts, hdy⟩
                  have hfy := ts _ _ hfx
                  have hOy := sx _ _ (by simpa using Ne.symm naO) hOx
                  refine ⟨_, rfl, _, rfl, _, rfl, _, rfl, slt_to (j := j) rfl hfy fun q Hq sq hq => ?_⟩
                  refine ⟨sz (by show 1 ≤ 100000; decide), fun c6 hc6 => ?_⟩
                  have s6' : Same Hq (upd Hq c6 (.tup [.int 0])) := Same.new hc6
                  refine cat_any (s6' _ _ hq) upd_same (by rw [List.length_take, List.length_map, List.length_singleton]; omega) fun q2 Hq2 sq2 hq2 => ?_
                  have sQ := sq.trans (s6'.trans sq2)
                  refine ⟨_, rfl, _, rfl, _, _, rfl, rfl, _, rfl, ?_⟩
                  refine sl_fromN (k := j + 1) (by omega) (TS.of sQ _ _ (lky.ts _ _ hta)) fun q3 Hq3 sq3 hq3 => ?_
                  refine cat_any (sq3 _ _ hq2) hq3 (by rw [List.length_append, List.length_take, List.length_drop, List.length_map, List.length_map, List.length_singleton]; omega) fun q4 Hq4 sq4 hq4 => ?_
                  have sR := sQ.trans (sq3.trans sq4)
                  have eds : ((r.take j).map some ++ [some 0] ++ ds.drop (j + 1)).map oV = (r.map V.int).take j ++ [.int 0] ++ (ds.map oV).drop (j + 1) := by
                    rw [List.map_append, List.map_append, List.map_map, ← List.map_take, ← List.map_drop]; rfl
                  refine ⟨rv, .ref q4, rs, (r.take j).map some ++ [some 0] ++ ds.drop (j + 1), rfl, RulesAt.mono (lky.ts.trans (TS.of sR)) hR5, ok, ⟨q4, rfl, by rw [hq4, eds]⟩, ⟨by rw [List.length_append, List.length_append, List.length_map, List.length_take, List.length_drop, List.length_singleton]; omega, fun o ho => ?_⟩, fun H' s' => ?_⟩
                  · rcases List.mem_append.mp ho with h1 | h1
                    · rcases List.mem_append.mp h1 with h2 | h2
                      · obtain ⟨y, hy, rfl⟩ := List.mem_map.mp h2
                        rcases ff.fine.bits y (List.mem_of_mem_take hy) with rfl | rfl
                        · exact .inr (.inl rfl)
                        · exact .inr (.inr rfl)
                      · rw [List.mem_singleton.mp h2]; exact .inr (.inl rfl)
                    · exact tok.bits o (List.mem_of_mem_drop h1)
                  · rw [least j hdj hrj]
                    have sF := sR.trans s'
                    exact ⟨rfl, _, rfl, iteNS rfl ⟨_, _, _, _, _, _, _, rfl, ⟨(lky.same sF).sm, (lky.same sF).ts, (lky.same sF).dk.mono (fun _ e => e) (by omega)⟩, sF _ _ hOy, sF _ _ hfy⟩⟩
                · rintro σ He2 ⟨y7, y8, y9, y10, y11, y12, y13, rfl, lk9, _, _⟩
                  exact ⟨_, _, _, _, _, _, _, _, _, _, _, _, _, _, rfl, smG.trans lk9.sm⟩
          · rw [decide_eq_true rfl]
            refine iteF ?_
            exact ⟨_, _, _, _, _, _, _, _, _, _, _, _, _, _, rfl, smG.trans lk.sm⟩
    · rintro σ H1 ⟨x1, x2, x3, x4, x5, x6, x7, x8, x9, x10, x11, x12, x13, x14, rfl, sm⟩
      exact k _
end
end An
namespace An
open PySem PySem.Spec PyProof.Rows L2
def d_is_from : He.DefD := ⟨("is_from", none), "is_from", "is_from", defArgs S_is_from, defBody S_is_from, defScope S_is_from, [], []⟩
def d_is_rule : He.DefD := ⟨("is_rule", none), "is_rule", "is_rule", defArgs S_is_rule, defBody S_is_rule, defScope S_is_rule, [], []⟩
def d_are_rules : He.DefD := ⟨("are_rules", none), "are_rules", "are_rules", defArgs S_are_rules, defBody S_are_rules, defScope S_are_rules, [], []⟩
def d_need_rules : He.DefD := ⟨("need_rules", none), "need_rules", "need_rules", defArgs S_need_rules, defBody S_need_rules, defScope S_need_rules, [], []⟩
def d_need_told : He.DefD := ⟨("need_told", none), "need_told", "need_told", defArgs S_need_told, defBody S_need_told, defScope S_need_told, [], []⟩
def d_widest : He.DefD := ⟨("widest", none), "widest", "widest", defArgs S_widest, defBody S_widest, defScope S_widest, [], []⟩
def d_broken_by : He.DefD := ⟨("broken_by", none), "broken_by", "broken_by", defArgs S_broken_by, defBody S_broken_by, defScope S_broken_by, [], []⟩
def d_next_tail : He.DefD := ⟨("next_tail", none), "next_tail", "next_tail", defArgs S_next_tail, defBody S_next_tail, defScope S_next_tail, [], []⟩
def d_ways_on : He.DefD := ⟨("ways_on", none), "ways_on", "ways_on", defArgs S_ways_on, defBody S_ways_on, defScope S_ways_on, [], []⟩
def d_layers_of : He.DefD := ⟨("layers_of", none), "layers_of", "layers_of", defArgs S_layers_of, defBody S_layers_of, defScope S_layers_of, [], []⟩
def d_first_filling : He.DefD := ⟨("first_filling", none), "first_filling", "first_filling", defArgs S_first_filling, defBody S_first_filling, defScope S_first_filling, [], []⟩
def d_need_both : He.DefD := ⟨("need_both", none), "need_both", "need_both", defArgs S_need_both, defBody S_need_both, defScope S_need_both, [], []⟩
def d_filling : He.DefD := ⟨("filling", none), "filling", "filling", defArgs S_filling, defBody S_filling, defScope S_filling, [], []⟩
def d_how_many : He.DefD := ⟨("how_many", none), "how_many", "how_many", defArgs S_how_many, defBody S_how_many, defScope S_how_many, [], []⟩
def d_steps_of : He.DefD := ⟨("steps_of", none), "steps_of", "steps_of", defArgs S_steps_of, defBody S_steps_of, defScope S_steps_of, [], []⟩
def d_led_round : He.DefD := ⟨("led_round", none), "led_round", "led_round", defArgs S_led_round, defBody S_led_round, defScope S_led_round, [], []⟩
def d_farthest : He.DefD := ⟨("farthest", none), "farthest", "farthest", defArgs S_farthest, defBody S_farthest, defScope S_farthest, [], []⟩
def d_marks : He.DefD := ⟨("marks", none), "marks", "marks", defArgs S_marks, defBody S_marks, defScope S_marks, [], []⟩
def d__law_deck : He.DefD := ⟨("_law_deck", none), "_law_deck", "_law_deck", defArgs S__law_deck, defBody S__law_deck, defScope S__law_deck, [], []⟩
def d__law_pick : He.DefD := ⟨("_law_pick", none), "_law_pick", "_law_pick", defArgs S__law_pick, defBody S__law_pick, defScope S__law_pick, [], []⟩
def d__law_one : He.DefD := ⟨("_law_one", none), "_law_one", "_law_one", defArgs S__law_one, defBody S__law_one, defScope S__law_one, [], []⟩
def d__law_rules : He.DefD := ⟨("_law_rules", none), "_law_rules", "_law_rules", defArgs S__law_rules, defBody S__law_rules, defScope S__law_rules, [], []⟩
def d__law_keeps : He.DefD := ⟨("_law_keeps", none), "_law_keeps", "_law_keeps", defArgs S__law_keeps, defBody S__law_keeps, defScope S__law_keeps, [], []⟩
def d__law_fits : He.DefD := ⟨("_law_fits", none), "_law_fits", "_law_fits", defArgs S__law_fits, defBody S__law_fits, defScope S__law_fits, [], []⟩
def d__law_walk : He.DefD := ⟨("_law_walk", none), "_law_walk", "_law_walk", defArgs S__law_walk, defBody S__law_walk, defScope S__law_walk, [], []⟩
def d__law_even : He.DefD := ⟨("_law_even", none), "_law_even", "_law_even", defArgs S__law_even, defBody S__law_even, defScope S__law_even, [], []⟩
def d__law_told : He.DefD := ⟨("_law_told", none), "_law_told", "_law_told", defArgs S__law_told, defBody S__law_told, defScope S__law_told, [], []⟩
def d_law : He.DefD := ⟨("law", none), "law", "law", defArgs S_law, defBody S_law, defScope S_law, [], []⟩
def fn : List He.DefD := [d_is_from, d_is_rule, d_are_rules, d_need_rules, d_need_told, d_widest, d_broken_by, d_next_tail, d_ways_on, d_layers_of, d_first_filling, d_need_both, d_filling, d_how_many, d_steps_of, d_led_round, d_farthest, d_marks, d__law_deck, d__law_pick, d__law_one, d__law_rules, d__law_keeps, d__law_fits, d__law_walk, d__law_even, d__law_told, d_law]
def fa1 : List He.Fa := [.glo "is_from", .glo "is_rule", .glo "are_rules", .glo "need_rules", .glo "need_told", .glo "widest", .glo "broken_by", .glo "next_tail", .glo "ways_on", .glo "layers_of", .glo "first_filling", .glo "need_both", .glo "filling", .glo "how_many", .glo "steps_of", .glo "led_round", .glo "farthest", .glo "marks", .glo "_law_deck", .glo "_law_pick", .glo "_law_one", .glo "_law_rules", .glo "_law_keeps"]
def fa2 : List He.Fa := [.glo "_law_fits", .glo "_law_walk", .glo "_law_even", .glo "_law_told", .glo "law", .free "len", .free "sum", .free "max", .free "min", .free "range", .free "zip", .free "all", .free "isinstance", .free "tuple", .free "list", .free "int", .free "bool", .free "str", .free "sorted", .free "enumerate", .free "dict", .int "MOST_SPAN" 8, .int "MOST_RULES" 5, .int "MOST_PLACES" 120]
def fa : List He.Fa := fa1 ++ fa2
def loose1 : List Str := ["SpanError", "NoRules", "NoTold", "MOST_SPAN", "MOST_RULES", "MOST_PLACES", "is_from", "is_rule", "are_rules", "need_rules", "need_told", "widest", "broken_by", "next_tail", "ways_on", "layers_of"]
def loose2 : List Str := ["first_filling", "need_both", "filling", "how_many", "steps_of", "led_round", "farthest", "marks", "_law_deck", "_law_pick", "_law_one", "_law_rules", "_law_keeps", "_law_fits", "_law_walk", "_law_even", "_law_told"]
def loose : List Str := loose1 ++ loose2
abbrev R : PySem.W.OpenRow := PySem.W.OpenLaw.row PySem.Challenge.rw_anyspan_k06_whole_fillings_of_long_rows
abbrev hk : PySem.W.Hook := He.hookD 4 fa fn
def ob (s : PySem.W.SharedT) : He.AlD := He.obsDG 4 fa fn (HandSHeadRun.getT s)
theorem ob_eq (s : PySem.W.SharedT) : ob s = hk.obs s.abs := He.obsDG_eq (HandSHeadRun.getT_eq s)
theorem run (w : World) : HandSHeadRun.RunEq R (PySem.W.view R.prog [39]) hk ob 2200 loose w := by
  intro os
  kernel_rfl
theorem facts {P : Program} {w : World} {K : PySem.W.Frag} {h : Heap} {mg : Str → Option Value} {f : Addr} (X : K.In h) (G : h.Ns mainGlobals mg) (hfa : mg ("law" : Str) = some (.ref f)) (c : He.SaysD fa fn K) :
    ∃ fd : FuncData, (∀ (s : Shared) (v : Value), BindsTo s fd ⟨[v], []⟩ [("script", v)]) ∧ ∀ base : Heap, K.In base → base.Ns mainGlobals mg → FnOk P w K mg base CX0 7 f fd ["script"] (spLaw K) := by
  obtain ⟨fd_is_from, F_is_from⟩ := c.def_ 0 (d := d_is_from) rfl
  have D_is_from : Dn K mg "is_from" S_is_from := dn_of F_is_from (He.glo_ok X G (c.fact 0 (f := .glo "is_from") rfl))
  obtain ⟨fd_is_rule, F_is_rule⟩ := c.def_ 1 (d := d_is_rule) rfl
  have D_is_rule : Dn K mg "is_rule" S_is_rule := dn_of F_is_rule (He.glo_ok X G (c.fact 1 (f := .glo "is_rule") rfl))
  obtain ⟨fd_are_rules, F_are_rules⟩ := c.def_ 2 (d := d_are_rules) rfl
  have D_are_rules : Dn K mg "are_rules" S_are_rules := dn_of F_are_rules (He.glo_ok X G (c.fact 2 (f := .glo "are_rules") rfl))
  obtain ⟨fd_need_rules, F_need_rules⟩ := c.def_ 3 (d := d_need_rules) rfl
  have D_need_rules : Dn K mg "need_rules" S_need_rules := dn_of F_need_rules (He.glo_ok X G (c.fact 3 (f := .glo "need_rules") rfl))
  obtain ⟨fd_need_told, F_need_told⟩ := c.def_ 4 (d := d_need_told) rfl
  have D_need_told : Dn K mg "need_told" S_need_told := dn_of F_need_told (He.glo_ok X G (c.fact 4 (f := .glo "need_told") rfl))
  obtain ⟨fd_widest, F_widest⟩ := c.def_ 5 (d := d_widest) rfl
  have D_widest : Dn K mg "widest" S_widest := dn_of F_widest (He.glo_ok X G (c.fact 5 (f := .glo "widest") rfl))
  obtain ⟨fd_broken_by, F_broken_by⟩ := c.def_ 6 (d := d_broken_by) rfl
  have D_broken_by : Dn K mg "broken_by" S_broken_by := dn_of F_broken_by (He.glo_ok X G (c.fact 6 (f := .glo "broken_by") rfl))
  obtain ⟨fd_next_tail, F_next_tail⟩ := c.def_ 7 (d := d_next_tail) rfl
  have D_next_tail : Dn K mg "next_tail" S_next_tail := dn_of F_next_tail (He.glo_ok X G (c.fact 7 (f := .glo "next_tail") rfl))
  obtain ⟨fd_ways_on, F_ways_on⟩ := c.def_ 8 (d := d_ways_on) rfl
  have D_ways_on : Dn K mg "ways_on" S_ways_on := dn_of F_ways_on (He.glo_ok X G (c.fact 8 (f := .glo "ways_on") rfl))
  obtain ⟨fd_layers_of, F_layers_of⟩ := c.def_ 9 (d := d_layers_of) rfl
  have D_layers_of : Dn K mg "layers_of" S_layers_of := dn_of F_layers_of (He.glo_ok X G (c.fact 9 (f := .glo "layers_of") rfl))
  obtain ⟨fd_first_filling, F_first_filling⟩ := c.def_ 10 (d := d_first_filling) rfl
  have D_first_filling : Dn K mg "first_filling" S_first_filling := dn_of F_first_filling (He.glo_ok X G (c.fact 10 (f := .glo "first_filling") rfl))
  obtain ⟨fd_need_both, F_need_both⟩ := c.def_ 11 (d := d_need_both) rfl
  have D_need_both : Dn K mg "need_both" S_need_both := dn_of F_need_both (He.glo_ok X G (c.fact 11 (f := .glo "need_both") rfl))
  obtain ⟨fd_filling, F_filling⟩ := c.def_ 12 (d := d_filling) rfl
  have D_filling : Dn K mg "filling" S_filling := dn_of F_filling (He.glo_ok X G (c.fact 12 (f := .glo "filling") rfl))
  obtain ⟨fd_how_many, F_how_many⟩ := c.def_ 13 (d := d_how_many) rfl
  have D_how_many : Dn K mg "how_many" S_how_many := dn_of F_how_many (He.glo_ok X G (c.fact 13 (f := .glo "how_many") rfl))
  obtain ⟨fd_steps_of, F_steps_of⟩ := c.def_ 14 (d := d_steps_of) rfl
  have D_steps_of : Dn K mg "steps_of" S_steps_of := dn_of F_steps_of (He.glo_ok X G (c.fact 14 (f := .glo "steps_of") rfl))
  obtain ⟨fd_led_round, F_led_round⟩ := c.def_ 15 (d := d_led_round) rfl
  have D_led_round : Dn K mg "led_round" S_led_round := dn_of F_led_round (He.glo_ok X G (c.fact 15 (f := .glo "led_round") rfl))
  obtain ⟨fd_farthest, F_farthest⟩ := c.def_ 16 (d := d_farthest) rfl
  have D_farthest : Dn K mg "farthest" S_farthest := dn_of F_farthest (He.glo_ok X G (c.fact 16 (f := .glo "farthest") rfl))
  obtain ⟨fd_marks, F_marks⟩ := c.def_ 17 (d := d_marks) rfl
  have D_marks : Dn K mg "marks" S_marks := dn_of F_marks (He.glo_ok X G (c.fact 17 (f := .glo "marks") rfl))
  obtain ⟨fd__law_deck, F__law_deck⟩ := c.def_ 18 (d := d__law_deck) rfl
  have D__law_deck : Dn K mg "_law_deck" S__law_deck := dn_of F__law_deck (He.glo_ok X G (c.fact 18 (f := .glo "_law_deck") rfl))
  obtain ⟨fd__law_pick, F__law_pick⟩ := c.def_ 19 (d := d__law_pick) rfl
  have D__law_pick : Dn K mg "_law_pick" S__law_pick := dn_of F__law_pick (He.glo_ok X G (c.fact 19 (f := .glo "_law_pick") rfl))
  obtain ⟨fd__law_one, F__law_one⟩ := c.def_ 20 (d := d__law_one) rfl
  have D__law_one : Dn K mg "_law_one" S__law_one := dn_of F__law_one (He.glo_ok X G (c.fact 20 (f := .glo "_law_one") rfl))
  obtain ⟨fd__law_rules, F__law_rules⟩ := c.def_ 21 (d := d__law_rules) rfl
  have D__law_rules : Dn K mg "_law_rules" S__law_rules := dn_of F__law_rules (He.glo_ok X G (c.fact 21 (f := .glo "_law_rules") rfl))
  obtain ⟨fd__law_keeps, F__law_keeps⟩ := c.def_ 22 (d := d__law_keeps) rfl
  have D__law_keeps : Dn K mg "_law_keeps" S__law_keeps := dn_of F__law_keeps (He.glo_ok X G (c.fact 22 (f := .glo "_law_keeps") rfl))
  obtain ⟨fd__law_fits, F__law_fits⟩ := c.def_ 23 (d := d__law_fits) rfl
  have D__law_fits : Dn K mg "_law_fits" S__law_fits := dn_of F__law_fits (He.glo_ok X G (c.fact 23 (f := .glo "_law_fits") rfl))
  obtain ⟨fd__law_walk, F__law_walk⟩ := c.def_ 24 (d := d__law_walk) rfl
  have D__law_walk : Dn K mg "_law_walk" S__law_walk := dn_of F__law_walk (He.glo_ok X G (c.fact 24 (f := .glo "_law_walk") rfl))
  obtain ⟨fd__law_even, F__law_even⟩ := c.def_ 25 (d := d__law_even) rfl
  have D__law_even : Dn K mg "_law_even" S__law_even := dn_of F__law_even (He.glo_ok X G (c.fact 25 (f := .glo "_law_even") rfl))
  obtain ⟨fd__law_told, F__law_told⟩ := c.def_ 26 (d := d__law_told) rfl
  have D__law_told : Dn K mg "_law_told" S__law_told := dn_of F__law_told (He.glo_ok X G (c.fact 26 (f := .glo "_law_told") rfl))
  obtain ⟨fd, F⟩ := c.def_ 27 (d := d_law) rfl
  have e := hfa.symm.trans (He.glo_ok X G (c.fact 27 (f := .glo "law") rfl))
  cases e
  have b := FunD.bindsA (ps := ["script"]) F fun _ _ _ _ _ _ us hl => match us, hl with | [_], _ => rfl
  have bf : Bf mg := ⟨He.free_ok X G (c.fact 28 (f := .free "len") rfl), He.free_ok X G (c.fact 29 (f := .free "sum") rfl), He.free_ok X G (c.fact 30 (f := .free "max") rfl), He.free_ok X G (c.fact 31 (f := .free "min") rfl), He.free_ok X G (c.fact 32 (f := .free "range") rfl), He.free_ok X G (c.fact 33 (f := .free "zip") rfl), He.free_ok X G (c.fact 34 (f := .free "all") rfl), He.free_ok X G (c.fact 35 (f := .free "isinstance") rfl), He.free_ok X G (c.fact 36 (f := .free "tuple") rfl), He.free_ok X G (c.fact 37 (f := .free "list") rfl), He.free_ok X G (c.fact 38 (f := .free "int") rfl), He.free_ok X G (c.fact 39 (f := .free "bool") rfl), He.free_ok X G (c.fact 40 (f := .free "str") rfl), He.free_ok X G (c.fact 41 (f := .free "sorted") rfl), He.free_ok X G (c.fact 42 (f := .free "enumerate") rfl), He.free_ok X G (c.fact 43 (f := .free "dict") rfl)⟩
  have c_MOST_SPAN := He.int_ok X G (c.fact 44 (f := .int "MOST_SPAN" 8) rfl)
  have c_MOST_RULES := He.int_ok X G (c.fact 45 (f := .int "MOST_RULES" 5) rfl)
  have c_MOST_PLACES := He.int_ok X G (c.fact 46 (f := .int "MOST_PLACES" 120) rfl)
  refine ⟨fd, fun s v => b s [v] rfl, fun base _ _ => ?_⟩
  have C_is_from := (ok_is_from D_is_from bf : Cl P w K mg base _ "is_from" _)
  have C_is_rule := (ok_is_rule D_is_rule bf c_MOST_SPAN C_is_from : Cl P w K mg base _ "is_rule" _)
  have C_are_rules := (ok_are_rules D_are_rules bf c_MOST_RULES C_is_rule : Cl P w K mg base _ "are_rules" _)
  have C_need_rules := (ok_need_rules D_need_rules C_are_rules : Cl P w K mg base _ "need_rules" _)
  have C_need_told := (ok_need_told D_need_told bf c_MOST_PLACES C_is_from : Cl P w K mg base _ "need_told" _)
  have C_widest := (ok_widest D_widest : Cl P w K mg base _ "widest" _)
  have C_broken_by := (ok_broken_by D_broken_by bf : Cl P w K mg base _ "broken_by" _)
  have C_next_tail := (ok_next_tail D_next_tail bf : Cl P w K mg base _ "next_tail" _)
  have C_ways_on := (ok_ways_on D_ways_on bf C_broken_by C_next_tail C_widest : Cl P w K mg base _ "ways_on" _)
  have C_layers_of := (ok_layers_of D_layers_of C_ways_on : Cl P w K mg base _ "layers_of" _)
  have C_first_filling := (ok_first_filling D_first_filling bf C_ways_on C_layers_of : Cl P w K mg base _ "first_filling" _)
  have C_need_both := (ok_need_both D_need_both C_need_rules C_need_told : Cl P w K mg base _ "need_both" _)
  have C_filling := (ok_filling D_filling C_need_both C_first_filling : Cl P w K mg base _ "filling" _)
  have C_how_many := (ok_how_many D_how_many bf C_need_both C_layers_of : Cl P w K mg base _ "how_many" _)
  have C_steps_of := (ok_steps_of D_steps_of bf : Cl P w K mg base _ "steps_of" _)
  have C_led_round := (ok_led_round D_led_round bf C_steps_of : Cl P w K mg base _ "led_round" _)
  have C_farthest := (ok_farthest D_farthest C_steps_of : Cl P w K mg base _ "farthest" _)
  have C_marks := (ok_marks D_marks bf C_need_both C_led_round C_farthest : Cl P w K mg base _ "marks" _)
  have C_law_deck := (ok_law_deck D__law_deck : Cl P w K mg base _ "_law_deck" _)
  have C_law_pick := (ok_law_pick D__law_pick : Cl P w K mg base _ "_law_pick" _)
  have C_law_one := (ok_law_one D__law_one bf C_law_pick : Cl P w K mg base _ "_law_one" _)
  have C_law_rules := (ok_law_rules D__law_rules bf C_law_pick C_law_one : Cl P w K mg base _ "_law_rules" _)
  have C_law_keeps := (ok_law_keeps D__law_keeps bf : Cl P w K mg base _ "_law_keeps" _)
  have C_law_fits := (ok_law_fits D__law_fits bf : Cl P w K mg base _ "_law_fits" _)
  have C_law_walk := (ok_law_walk D__law_walk bf C_law_fits C_law_one : Cl P w K mg base _ "_law_walk" _)
  have C_law_even := (ok_law_even D__law_even bf : Cl P w K mg base _ "_law_even" _)
  have C_law_told := (ok_law_told D__law_told bf C_law_pick C_law_one C_law_walk C_law_even : Cl P w K mg base _ "_law_told" _)
  exact ok_law F bf C_law_deck C_law_pick C_law_one C_law_rules C_law_told C_law_keeps C_filling C_how_many C_marks
end An
open PySem PySem.W PySem.Calls PyProof.Rows
set_option maxHeartbeats 0 in
theorem PySem.Challenge.cw_anyspan_k06_whole_fillings_of_long_rows_holds : PySem.Challenge.rw_anyspan_k06_whole_fillings_of_long_rows.Holds := by
  w_on; o_law
  refine HandSHeadRun.head_any (r := OpenLaw.row PySem.Challenge.rw_anyspan_k06_whole_fillings_of_long_rows) (q := view (OpenLaw.row PySem.Challenge.rw_anyspan_k06_whole_fillings_of_long_rows).prog [39]) (H := An.hk) (ob := An.ob) (M := 2200) (loose := An.loose) (d := HandSHeadRun.topDef (OpenLaw.row PySem.Challenge.rw_anyspan_k06_whole_fillings_of_long_rows).prog 39) (kwd := []) An.ob_eq
    (by kernel_rfl) (fun s => by kernel_rfl) An.run (by kernel_rfl) (by kernel_rfl) (by kernel_rfl) (by rfl) (by first | assumption | decide +kernel) (by decide +kernel) ⟨rfl, rfl, rfl, rfl, rfl, by decide +kernel⟩ ?hw ?hc
  case hw => w_witness2
  case hc =>
    refine L2.walk_ofE (l := PySem.Challenge.rw_anyspan_k06_whole_fillings_of_long_rows) (n := 63) (k := 7) (x := "script") (CX := L2.CX0) rfl (by decide) (by kernel_rfl) ⟨rfl, by decide, by decide⟩ ?F (fun _ _ _ _ z => z)
    intro w mg fa h Y G hmg0
    obtain ⟨K, KX, c⟩ := Y
    have hmg : mg ("law" : PySem.Str) = some (.ref fa) := by
      have e : (HandSHeadRun.topDef (OpenLaw.row PySem.Challenge.rw_anyspan_k06_whole_fillings_of_long_rows).prog 39).name = ("law" : PySem.Str) := by kernel_rfl
      rw [← e]
      exact hmg0
    obtain ⟨fd, hb, hF⟩ := An.facts (P := (PySem.Challenge.rw_anyspan_k06_whole_fillings_of_long_rows).prog) (w := w) KX G hmg c
    exact ⟨K, fd, An.spLaw K, KX, hb, fun H a ns hl _ hS => ⟨a, ns, rfl, hS, hl, fun _ => rfl⟩, hF⟩
