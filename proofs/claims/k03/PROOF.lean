import PyProof.Rows.All
import Wide.All
import OpenK.AllK
import Wide.FinOn
import HandS.ForMost
import HandS.ForExc
import HandS.TupAny
import HandS.TupMul
import HandS.Zip
import HandS.Style
import HandS.More
import HandS.Conv
import HandS.IsInst
import HandS.SortKw
import HandS.SortRule
import HandS.Wide
import HandS.Walk
import HandS.Defaults
import KE.KDictWalk
import KE.DataMinMax
import KE.SortData
import KE.GoesMore
import KE.GoesEnum
import HandS.Head0
import HandS.Head1
import HandS.Head2
import HandS.HeadEnd
import HandS.HeadHook1
import HandS.HeadHook2
import PySem.Challenge.RW_anyspan_k03_whole_longest_rows
set_option Elab.async false
set_option linter.all false
set_option maxRecDepth 100000
set_option maxHeartbeats 4000000
/-! ### B0: words over the hand layer: what stays, rows, rules, calls of own defs -/
namespace An
open PySem PySem.Spec PyProof.Rows L2

abbrev Rule := Int × Int × Int
abbrev Row := List Int

/-! #### tuples stay -/
def TS (H H' : Hp) : Prop := ∀ b xs, H b = some (.tup xs) → H' b = some (.tup xs)
theorem TS.refl (H : Hp) : TS H H := fun _ _ h => h
theorem TS.trans {H H1 H2 : Hp} (a : TS H H1) (b : TS H1 H2) : TS H H2 := fun c xs h => b c xs (a c xs h)
theorem TS.of {H H' : Hp} (e : Same H H') : TS H H' := fun b xs h => e b _ h
theorem TS.updA {H : Hp} {p : Addr} {o : HO} (h : ∀ xs, H p ≠ some (.tup xs)) : TS H (L2.upd H p o) := fun b xs e => by
  have nb : b ≠ p := fun z => h xs (by rw [← z]; exact e)
  rw [upd_ne nb]; exact e
theorem TS.new {H : Hp} {p : Addr} {o : HO} (h : H p = none) : TS H (L2.upd H p o) := TS.updA fun xs e => by rw [h] at e; cases e
theorem TS.mut {H : Hp} {p : Addr} {o u : HO} (h : H p = some u) (hu : ∀ xs, u ≠ .tup xs) : TS H (L2.upd H p o) := TS.updA fun xs e => by
  rw [h] at e; exact hu xs (Option.some.inj e)
theorem TS.lst {H : Hp} {p : Addr} {o : HO} {ys : List V} (h : H p = some (.lst ys)) : TS H (L2.upd H p o) := TS.mut h fun _ e => nomatch e
theorem TS.dT {H : Hp} {p : Addr} {o : HO} {ys} (h : H p = some (.dT ys)) : TS H (L2.upd H p o) := TS.mut h fun _ e => nomatch e
theorem TS.dK {H : Hp} {p : Addr} {o : HO} {ys} (h : H p = some (.dK ys)) : TS H (L2.upd H p o) := TS.mut h fun _ e => nomatch e
theorem Same.new {H : Hp} {p : Addr} {o : HO} (h : H p = none) : Same H (L2.upd H p o) := fun b u e => by
  rw [upd_ne (ne_of_none e h)]; exact e
/-- all but the objects at as stands as before -/
def SameX (as : List Addr) (H H' : Hp) : Prop := ∀ b o, b ∉ as → H b = some o → H' b = some o
theorem SameX.refl {as : List Addr} {H : Hp} : SameX as H H := fun _ _ _ h => h
theorem SameX.trans {as : List Addr} {H H1 H2 : Hp} (a : SameX as H H1) (b : SameX as H1 H2) : SameX as H H2 := fun c o n h => b c o n (a c o n h)
theorem SameX.of {as : List Addr} {H H' : Hp} (e : Same H H') : SameX as H H' := fun b o _ h => e b o h
theorem SameX.updA {as : List Addr} {H : Hp} {p : Addr} {o : HO} (h : p ∈ as) : SameX as H (L2.upd H p o) := fun b u n e => by
  rw [upd_ne (fun z : b = p => n (by rw [z]; exact h))]; exact e
theorem SameX.mono {as bs : List Addr} {H H' : Hp} (e : SameX as H H') (h : ∀ a ∈ as, a ∈ bs) : SameX bs H H' := fun b o n q => e b o (fun z => n (h b z)) q

/-! #### rows, rules -/
def TupI (H : Hp) (v : V) (r : List Int) : Prop := ∃ a, v = .ref a ∧ H a = some (.tup (r.map V.int))
theorem TupI.mono {H H' : Hp} {v : V} {r : List Int} (t : TS H H') (h : TupI H v r) : TupI H' v r := let ⟨a, e, q⟩ := h; ⟨a, e, t a _ q⟩
def tri (r : Rule) : List Int := [r.1, r.2.1, r.2.2]
def RuleAt (H : Hp) (v : V) (r : Rule) : Prop := TupI H v (tri r)
def RulesAt (H : Hp) (v : V) (rs : List Rule) : Prop := ∃ a vs, v = .ref a ∧ H a = some (.tup vs) ∧ Paired (RuleAt H) vs rs
theorem Paired.mp {α β : Type} {F G : α → β → Prop} : ∀ {l : List α} {m : List β}, Paired F l m → (∀ a b, F a b → G a b) → Paired G l m
  | _, _, .nil, _ => .nil
  | _, _, .cons r t, f => .cons (f _ _ r) (Paired.mp t f)
theorem RulesAt.mono {H H' : Hp} {v : V} {rs : List Rule} (t : TS H H') (h : RulesAt H v rs) : RulesAt H' v rs :=
  let ⟨a, vs, e, q, p⟩ := h; ⟨a, vs, e, t a _ q, Paired.mp p fun _ _ z => TupI.mono t z⟩
theorem Paired.get {α β : Type} {F : α → β → Prop} : ∀ {l : List α} {m : List β} {i : Nat} {a : α}, Paired F l m → l[i]? = some a → ∃ b, m[i]? = some b ∧ F a b
  | _, _, _, _, .nil, e => by cases e
  | _, _, 0, _, .cons r _, e => by cases e; exact ⟨_, rfl, r⟩
  | _, _, i + 1, _, .cons _ t, e => by
    obtain ⟨b, h1, h2⟩ := Paired.get (i := i) t (by simpa using e)
    exact ⟨b, by simpa using h1, h2⟩
theorem Paired.get' {α β : Type} {F : α → β → Prop} : ∀ {l : List α} {m : List β} {i : Nat} {b : β}, Paired F l m → m[i]? = some b → ∃ a, l[i]? = some a ∧ F a b
  | _, _, _, _, .nil, e => by cases e
  | _, _, 0, _, .cons r _, e => by cases e; exact ⟨_, rfl, r⟩
  | _, _, i + 1, _, .cons _ t, e => by
    obtain ⟨b, h1, h2⟩ := Paired.get' (i := i) t (by simpa using e)
    exact ⟨b, by simpa using h1, h2⟩
theorem Paired.len {α β : Type} {F : α → β → Prop} : ∀ {l : List α} {m : List β}, Paired F l m → l.length = m.length
  | _, _, .nil => rfl
  | _, _, .cons _ t => by rw [List.length_cons, List.length_cons, Paired.len t]
theorem Paired.app {α β : Type} {F : α → β → Prop} : ∀ {l l' : List α} {m m' : List β}, Paired F l m → Paired F l' m' → Paired F (l ++ l') (m ++ m')
  | _, _, _, _, .nil, q => q
  | _, _, _, _, .cons r t, q => .cons r (Paired.app t q)
theorem Paired.one {α β : Type} {F : α → β → Prop} {a : α} {b : β} (h : F a b) : Paired F [a] [b] := .cons h .nil
theorem Paired.snoc1 {α β : Type} {F : α → β → Prop} {l : List α} {m : List β} {a : α} {b : β} (p : Paired F l m) (h : F a b) : Paired F (l ++ [a]) (m ++ [b]) := Paired.app p (Paired.one h)
theorem Paired.drop {α β : Type} {F : α → β → Prop} : ∀ {l : List α} {m : List β} (n : Nat), Paired F l m → Paired F (l.drop n) (m.drop n)
  | _, _, 0, p => p
  | _, _, _ + 1, .nil => .nil
  | _, _, n + 1, .cons _ t => Paired.drop n t
theorem Paired.take {α β : Type} {F : α → β → Prop} : ∀ {l : List α} {m : List β} (n : Nat), Paired F l m → Paired F (l.take n) (m.take n)
  | _, _, 0, _ => .nil
  | _, _, _ + 1, .nil => .nil
  | _, _, n + 1, .cons r t => .cons r (Paired.take n t)
theorem Paired.rev {α β : Type} {F : α → β → Prop} : ∀ {l : List α} {m : List β}, Paired F l m → Paired F l.reverse m.reverse
  | _, _, .nil => .nil
  | _, _, .cons r t => by rw [List.reverse_cons, List.reverse_cons]; exact Paired.snoc1 (Paired.rev t) r
theorem Paired.mapR {α β γ : Type} {F : α → β → Prop} {G : α → γ → Prop} (f : β → γ) (h : ∀ a b, F a b → G a (f b)) : ∀ {l : List α} {m : List β}, Paired F l m → Paired G l (m.map f)
  | _, _, .nil => .nil
  | _, _, .cons r t => .cons (h _ _ r) (Paired.mapR f h t)
/-- rules as the document says -/
structure RulesOk (rs : List Rule) : Prop where
  some : rs ≠ []
  few : rs.length ≤ 5
  one : ∀ r ∈ rs, 1 ≤ r.1 ∧ r.1 ≤ 8 ∧ 0 ≤ r.2.1 ∧ r.2.1 ≤ r.2.2 ∧ r.2.2 ≤ r.1
  up : rs.Pairwise fun a b => a.1 < b.1
/-- the widest span -/
def wd (rs : List Rule) : Int := (rs.getLast?.map (·.1)).getD 0
theorem wd_mem {rs : List Rule} (h : rs ≠ []) : ∃ r ∈ rs, wd rs = r.1 ∧ rs.getLast? = some r := by
  refine ⟨rs.getLast h, List.getLast_mem h, ?_, List.getLast?_eq_some_getLast h⟩
  unfold wd
  rw [List.getLast?_eq_some_getLast h]; rfl
theorem RulesOk.wide {rs : List Rule} (h : RulesOk rs) : 1 ≤ wd rs ∧ wd rs ≤ 8 := by
  obtain ⟨r, hr, e, _⟩ := wd_mem h.some
  have := h.one r hr
  omega

/-! #### lists of such things -/
def LstAt {α : Type} (H : Hp) (R : V → α → Prop) (a : Addr) (ds : List α) : Prop := ∃ xs, H a = some (.lst xs) ∧ Paired R xs ds

/-! #### a def that stands, a def that keeps its promise -/
section
variable {P : Program} {w : World} {K : PySem.W.Frag} {mg : Str → Option Value} {base : Heap}
structure Dn (K : PySem.W.Frag) (mg : Str → Option Value) (x : Str) (st : Stmt) : Prop where
  ex : ∃ f fd, FunD K x x (defArgs st) (defBody st) (defScope st) [] [] f fd ∧ mg x = some (.ref f)
structure Cl (P : Program) (w : World) (K : PySem.W.Frag) (mg : Str → Option Value) (base : Heap) (k : Nat) (x : Str) (sp : Sp) : Prop where
  ex : ∃ f fd ps, FnOk P w K mg base CX0 k f fd ps sp ∧ mg x = some (.ref f) ∧ PySem.W.keepIn K (.ref f) = true ∧ Binds K fd ps []
theorem Cl.imp {k : Nat} {x : Str} {sp sp' : Sp} (C : Cl P w K mg base k x sp) (h : ∀ vs H Q E, sp' vs H Q E → sp vs H Q E) : Cl P w K mg base k x sp' :=
  let ⟨f, fd, ps, a, b, c, d⟩ := C.ex; ⟨f, fd, ps, a.imp h, b, c, d⟩
theorem Dn.ok {x : Str} {st : Stmt} {N ps : List Str} {k : Nat} {sp : Sp} (D : Dn K mg x st) (S : FnScope N ps (defScope st)) (len : ∀ vs H Q E, sp vs H Q E → vs.length = ps.length)
    (hb : ∀ (kV doc pm : Value) (an : Option Addr) (cdv ct : Value) (us : List Value), us.length = ps.length → bindArgs (PySem.W.fnOf x x (defArgs st) (defBody st) (defScope st) .none kV doc pm an cdv ct) ⟨us, []⟩ = pure (ps.zip us))
    (hbody : ∀ (f : Addr) (cdv : Value) (A : Around) (outer : List Env) (s : Shared) (H : Hp) (vs : List V) (Q : VK) (E : XK), Room k (A.deeper (envOfC x (defScope st) s.heap.objs.size f cdv)) → sp vs H Q E →
      ∃ t, PSs (cxOf CX0 P w K mg base N x (defScope st) f cdv A outer s H E).nox (defBody st) t ∧ t { nx := fun _ H' => Q .non H', rt := Q } (start N vs) H) : Cl P w K mg base (k + 1) x sp := by
  obtain ⟨f, fd, F, m⟩ := D.ex
  refine ⟨f, fd, ps, F.ok S len (fun cdv A outer s H vs Q E hr h => ?_), m, F.kp, F.bindsN hb⟩
  obtain ⟨t, h1, h2⟩ := hbody f cdv A outer s H vs Q E hr h
  exact ⟨t, h1.nox, h2⟩
end
section
variable {X : Cx}
theorem pe_callC {k : Nat} {x : Str} {sp : Sp} {e : Expr} {es : List Expr} {t : TA} {p pos : Pos} (C : Cl X.prog X.w X.K X.mg X.base k x sp) (hr : Room k X.A) (hg : Gl X x) (ha : PA X (e :: es) t)
    (hdb : (x == ("__debug__" : Str)) = false := by decide) (h2 : starEach (e :: es) X.env = (false, eval e X.env) :: starEach es X.env := by rfl) (h3 : (backTo pos (starEach es X.env)).any (fun z => z.1) = false := by rfl) :
    PE X (.Call (.Name x p) (e :: es) [] pos) (tCall sp [] E0 t) := by
  obtain ⟨f, fd, ps, F, m, kp, b⟩ := C.ex
  exact pe_call F hr hg m kp b .nil pass0 ha hdb h2 h3
theorem pe_gint {x : Str} {i : Int} {pos : Pos} (hg : Gl X x) (hm : ∃ t, X.mg x = some (.int i t)) (hd : (x == ("__debug__" : Str)) = false := by decide) : PE X (.Name x pos) (tC (.int i)) :=
  let ⟨t, e⟩ := hm; pe_glob (v := .int i) hg e ⟨t, rfl⟩ hd
theorem ip_of {op : Operator} {r : R2} (h : OpR X (inplaceOp op) r) : PIp X op r := h
end

/-! #### built-in names that stand for themselves -/
structure Bf (mg : Str → Option Value) : Prop where
  len : mg "len" = none
  sum : mg "sum" = none
  max : mg "max" = none
  min : mg "min" = none
  range : mg "range" = none
  zip : mg "zip" = none
  all : mg "all" = none
  isinstance : mg "isinstance" = none
  tuple : mg "tuple" = none
  list : mg "list" = none
  int : mg "int" = none
  bool : mg "bool" = none
  str : mg "str" = none
  sorted : mg "sorted" = none
  enumerate : mg "enumerate" = none
  dict : mg "dict" = none
theorem bt_len : bootBuiltins "len" = some (.builtin "len") := by decide +kernel
theorem bt_sum : bootBuiltins "sum" = some (.builtin "sum") := by decide +kernel
theorem bt_max : bootBuiltins "max" = some (.builtin "max") := by decide +kernel
theorem bt_min : bootBuiltins "min" = some (.builtin "min") := by decide +kernel
theorem bt_all : bootBuiltins "all" = some (.builtin "all") := by decide +kernel
theorem bt_isinstance : bootBuiltins "isinstance" = some (.builtin "isinstance") := by decide +kernel
theorem bt_sorted : bootBuiltins "sorted" = some (.builtin "sorted") := by decide +kernel
theorem bt_tuple : bootBuiltins "tuple" = some (.type "tuple") := by decide +kernel
theorem bt_list : bootBuiltins "list" = some (.type "list") := by decide +kernel
theorem bt_int : bootBuiltins "int" = some (.type "int") := by decide +kernel
theorem bt_bool : bootBuiltins "bool" = some (.type "bool") := by decide +kernel
theorem bt_str : bootBuiltins "str" = some (.type "str") := by decide +kernel
theorem bt_dict : bootBuiltins "dict" = some (.type "dict") := by decide +kernel
end An
-- imports: B0
/-! ### B1: rules that the layer lacks: sum of a tuple, t += u, max(.., default=..), items of a dict with tuple keys, enumerate(tuple) -/
namespace An
open PySem PySem.Spec PyProof.Rows L2
section
variable {X : Cx}
/-! #### sum of a tuple of ints -/
theorem sumT_raw {prog : Program} {w : World} {A : Around} {E : Value → Shared → Prop} {s : Shared} {l : Addr} {its : List Value} {ns : List Int} {Q : Value → Shared → Prop} (hh : A.handled = none) (hl : s.heap.IsTuple l its.toArray) (hi : IntsAre its ns)
    (h : ∀ h' tk t', (∀ b o, s.heap.get? b = some o → h'.get? b = some o) → Q (.int ns.sum t') { s with heap := h', toks := tk }) : wpAny (model prog w) A (call (.builtin "sum") [.ref l]) Q E s := by
  obtain ⟨xs, e⟩ := hi.allInts.items
  have hn : numsOf (intItems xs).toList = ns := by rw [← e]; exact hi.numsOf
  rw [nums_intItems] at hn
  rw [e] at hl
  have hlt : l < s.heap.objs.size := by obtain ⟨_, q, _⟩ := hl; exact Heap.lt_size q
  refine call_sum_walkG (wpAny_pyIter_tuple hl ?_)
  refine ⟨_, _, _, _, _, _, numAt xs, rfl, Walks.tuple (A := A.in1) hh s.heap.objs.size l (Nat.ne_of_lt hlt) (intItems xs), ⟨⟨_, Heap.get?_push_size _ rfl, rfl, rfl⟩, hl.push _⟩, fun b hb => ?_, (fun _ _ => intItems_at), fun h' tk t' hk => ?_⟩
  · rw [show (s.heap.push _).objs.size = s.heap.objs.size + 1 from Heap.size_push _ _]
    rcases List.mem_cons.mp hb with z | z
    · rw [z]; exact Nat.lt_succ_self _
    · rw [List.mem_singleton.mp z]; exact Nat.lt_succ_of_lt hlt
  · have q := h h' tk t' fun b o e => hk b o (fun hm => absurd (List.mem_singleton.mp hm ▸ Heap.lt_size e) (Nat.lt_irrefl _)) (Heap.get?_push_of_some _ e)
    have sz : (intItems xs).size = xs.size := by simp [intItems]
    rw [sz, preSum_eq, List.take_of_length_le (by simp), hn]
    exact q
def rSumT (K : PySem.W.Frag) : List V → Hp → VK → Prop := fun vs H Q => ∃ (a : Addr) (ns : List Int), vs = [V.ref a] ∧ SqT K H a (ns.map V.int) ∧ Q (.int ns.sum) H
theorem cr_sumT (hc : X.calm = true) : CallR X (.builtin "sum") (rSumT X.K) := by
  intro pins s σ H vs us Q I r h
  obtain ⟨a, ns, rfl, hs, q⟩ := h
  obtain ⟨its, rv, hl, _⟩ := I.tuple hs
  rw [Vals.ref1 r]
  exact sumT_raw (I.ok.hd hc) hl rv.ints fun h' tk t' hk => ⟨.int _, H, I.kept hk, ⟨_, rfl⟩, q⟩
/-! #### t += u -/
theorem noI_tuple : typeLookup (.type "tuple") (dunderI "add") = pure none := by rfl
/-- any way the library has of making the sum, for t += u too -/
theorem icat_tup {prog : Program} {w : World} {A : Around} {E : Value → Shared → Prop} {s : Shared} {t b : Addr} {vs ws : List Value} {Q : Value → Shared → Prop} (ht : IsTup s.heap t vs.toArray) (hb : IsTup s.heap b ws.toArray)
    (h0 : vs = [] → Q (.ref b) s) (h1 : vs ≠ [] → ws = [] → Q (.ref t) s) (h2 : vs ≠ [] → ws ≠ [] → Q (.ref s.heap.objs.size) { s with heap := s.heap.push { cls := .type "tuple", data := .seq (vs ++ ws).toArray } })
    (hsz : vs.length + ws.length ≤ sizeLine) : wpAny (model prog w) A (inplaceOp .Add (.ref t) (.ref b)) Q E s := by
  obtain ⟨⟨c1, d1, x1, sl1⟩, ho1, hc1, n1, hd1⟩ := id ht
  obtain ⟨⟨c2, d2, x2, sl2⟩, ho2, hc2, n2, hd2⟩ := id hb
  simp only at hc1 hd1 hc2 hd2
  subst hc1 hd1 hc2 hd2
  have cat : vs.toArray ++ ws.toArray = (vs ++ ws).toArray := by simp
  refine wpAny_inplaceOp_concat ⟨_, ho1, rfl⟩ ⟨_, ho2, rfl⟩ noI_tuple noFill_tuple_add seq_tuple_add ?_
  by_cases hv : vs = []
  · subst hv
    exact call_meets PySem.F.slot_tuple_add ⟨_, ho1, rfl⟩ PySem.F.entry_tuple_add (PySem.F.args_tuple_add_2 _ _) (tuple_addW0 t b ([] : List Value).toArray ws.toArray n1 n2 d1 d2 sl1 sl2 (by simp)) ⟨ho1, ho2, h0 rfl⟩
  · by_cases hw : ws = []
    · exact call_meets PySem.F.slot_tuple_add ⟨_, ho1, rfl⟩ PySem.F.entry_tuple_add (PySem.F.args_tuple_add_2 _ _) (tuple_addW1 t b vs.toArray ws.toArray n1 n2 d1 d2 sl1 sl2 (by simpa using hv) (by simp [hw])) ⟨ho1, ho2, h1 hv hw⟩
    · refine call_meets PySem.F.slot_tuple_add ⟨_, ho1, rfl⟩ PySem.F.entry_tuple_add (PySem.F.args_tuple_add_2 _ _) (tuple_addW2 t b vs.toArray ws.toArray n1 n2 d1 d2 sl1 sl2 (by simpa using hv) (by simpa using hw) (by rw [List.size_toArray, List.size_toArray]; exact hsz)) ⟨ho1, ho2, ?_⟩
      rw [cat]
      exact h2 hv hw
theorem iop_catA : OpR X (inplaceOp .Add) (rCatA X.K) := by
  intro pins s σ H x y v u Q I rx ry h
  obtain ⟨a, b, xs, ys, rfl, rfl, ha, hb, hz, q0, q1, q2⟩ := h
  cases rx
  cases ry
  obtain ⟨its, r1, p1, _⟩ := I.tuple ha
  obtain ⟨jts, r2, p2, _⟩ := I.tuple hb
  refine icat_tup p1 p2 (fun z => ⟨.ref b, H, I, rfl, q0 (r1.nil_iff.mp z)⟩) (fun z z' => ⟨.ref a, H, I, rfl, q1 (fun q => z (r1.nil_iff.mpr q)) (r2.nil_iff.mp z')⟩) (fun z z' => ?_) (by rw [← r1.length, ← r2.length]; exact hz)
  refine ⟨.ref s.heap.objs.size, _, I.laid (t' := s.toks) (o := .tup (xs ++ ys)) (fun b ob q => Heap.get?_push_of_some _ q) (Nat.le_refl _) ?_, rfl, q2 (fun w => z (r1.nil_iff.mpr w)) (fun w => z' (r2.nil_iff.mpr w)) _ (I.hok.fresh (Nat.le_refl _))⟩
  exact ⟨by rw [List.length_append]; exact hz, _, r1.append r2, IsTup.new _ _⟩
/-! #### max(list of ints, default=d) -/
theorem maxD_mem : ∀ (ns : List Int) (n : Int), ns.foldl max n ∈ n :: ns ∧ ∀ y ∈ n :: ns, y ≤ ns.foldl max n
  | [], n => ⟨List.mem_cons_self, fun y h => by rw [List.mem_singleton.mp h]; exact Int.le_refl _⟩
  | k :: r, n => by
    obtain ⟨h1, h2⟩ := maxD_mem r (max n k)
    rw [List.foldl_cons]
    have m1 := h2 (max n k) List.mem_cons_self
    refine ⟨?_, fun y hy => ?_⟩
    · rcases List.mem_cons.mp h1 with z | z
      · rw [z]
        by_cases hk : n ≤ k
        · rw [Int.max_eq_right hk]; exact List.mem_cons_of_mem _ List.mem_cons_self
        · rw [Int.max_eq_left (by omega)]; exact List.mem_cons_self
      · exact List.mem_cons_of_mem _ (List.mem_cons_of_mem _ z)
    · rcases List.mem_cons.mp hy with z | z
      · have := Int.le_max_left n k; omega
      · rcases List.mem_cons.mp z with z | z
        · have := Int.le_max_right n k; omega
        · exact h2 y (List.mem_cons_of_mem _ z)
theorem reads_ints {h : Heap} : ∀ {vs : List Value} {ns : List Int}, IntsAre vs ns → ∃ as, ReadsAll h vs (ns.map PyData.int) as := by
  intro vs ns hi
  induction ns generalizing vs with
  | nil => cases vs with
    | nil => exact ⟨[], .nil⟩
    | cons v r => exact absurd hi.length (by simp)
  | cons n ns ih => cases vs with
    | nil => exact absurd hi.length (by simp)
    | cons v r =>
      cases hi with
      | cons rest => obtain ⟨as, q⟩ := ih (by assumption); exact ⟨_, .cons (.int _ _) q⟩
def rMaxD (K : PySem.W.Frag) : List V → List V → Hp → VK → Prop := fun vs zs H Q => ∃ (a : Addr) (ns : List Int) (d : V), vs = [V.ref a] ∧ zs = [d] ∧ SqL K H a (ns.map V.int) ∧
  (ns = [] → Q d H) ∧ ∀ m, m ∈ ns → (∀ y ∈ ns, y ≤ m) → Q (.int m) H
theorem alike_int : ∀ ns : List Int, PySem.W.AlikeAll (ns.map PyData.int) := fun ns => by
  refine ⟨fun x hx y hy => ?_, fun x hx e => ?_⟩
  · obtain ⟨i, _, rfl⟩ := List.mem_map.mp hx
    obtain ⟨j, _, rfl⟩ := List.mem_map.mp hy
    simp [PySem.W.alike]
  · obtain ⟨i, _, rfl⟩ := List.mem_map.mp hx
    cases e
theorem cr_maxD (hc : X.calm = true) (hu : X.A.units + 64 < cLine) : CallRK X (.builtin "max") [Str.ofString "default"] (rMaxD X.K) := by
  intro pins s σ H vs zs us ws Q I r r' h
  obtain ⟨a, ns, d, rfl, rfl, hs, q0, q1⟩ := h
  obtain ⟨its, rv, hl, _⟩ := I.list hs
  rw [Vals.ref1 r]
  obtain ⟨u, rfl, ru⟩ := vals1 r'
  obtain ⟨as, hr⟩ := reads_ints rv.ints
  have hd : PyData.depthAll (ns.map PyData.int) = 0 := PySem.W.depth_ints ns
  refine PySem.W.max_list_default (I.ok.hd hc) hl.isList (as := as) (xs := ns.map PyData.int) (by simpa using hr) (alike_int ns) (by rw [hd]; omega) (fun e h' tk hk => ?_) fun y ys i v h' tk bs e hi hrd hk => ?_
  · exact ⟨d, H, I.kept hk, ru, q0 (List.map_eq_nil_iff.mp e)⟩
  · cases ns with
    | nil => cases e
    | cons n ns =>
      rw [List.map_cons] at e
      injection e with e1 e2
      subst e1 e2
      rw [PySem.W.maxD_ints] at hrd
      obtain ⟨h1, h2⟩ := maxD_mem ns n
      cases hrd with
      | int _ t => exact ⟨.int _, H, I.kept hk, ⟨_, rfl⟩, q1 _ h1 h2⟩
end
end An
-- imports: B1
/-! ### B2: enumerate(tuple), the items of a dict with tuple keys -/
namespace An
open PySem PySem.Spec PyProof.Rows L2
/-! #### enumerate of a tuple -/
set_option maxHeartbeats 1000000 in
theorem enum_new1 {v : Value} {o : Obj} {G : Heap → Prop} (B : Begins v o G) :
    Meets (Builtin.«enumerate.__new__» ⟨[.type "enumerate", v], []⟩) (fun _ R s => G s.heap ∧
      R (.ok (.ret (.ref (s.heap.push o).objs.size))) { s with heap := (s.heap.push o).push { cls := .type "enumerate", data := .fields #[.none, .bool false, .ref s.heap.objs.size, rawInt 0, .none, .none] } }) :=
  .of_wp fun prog w A R s h => by
    obtain ⟨hp, g, d, tk, os⟩ := s
    obtain ⟨h1, h⟩ := h
    have hsub := sub_enumerate
    have q1 : ∀ {B' : Around} {E : Value → Shared → Prop} {Q : Value → Shared → Prop}, Q (.ref hp.objs.size) ⟨hp.push o, g, d, tk, os⟩ → wpAny (model prog w) B' (pyIter v) Q E ⟨hp, g, d, tk, os⟩ :=
      fun q => B.iter prog w _ _ ⟨hp, g, d, tk, os⟩ _ h1 q
    wp_walk using q1
    refine wpAny_stack_any fun st => wpAny_pure ?_
    split
    · rename_i c _ _ _ _ _
      cases (c == Value.type "enumerate")
      · wp_walk using q1
        exact ⟨_, rfl, h⟩
      · wp_walk using q1
        exact ⟨_, rfl, h⟩
    · wp_walk using q1
      exact ⟨_, rfl, h⟩
theorem enum_call1 {prog : Program} {w : World} {A : Around} {E : Value → Shared → Prop} {s : Shared} {v : Value} {o : Obj} {G : Heap → Prop} {Q : Value → Shared → Prop} (B : Begins v o G) (h1 : G s.heap)
    (h : ∀ h', IsEnum h' (s.heap.objs.size + 1) s.heap.objs.size 0 .none → h'.get? s.heap.objs.size = some o → h'.objs.size = s.heap.objs.size + 2 → (∀ b u, s.heap.get? b = some u → h'.get? b = some u) → Q (.ref (s.heap.objs.size + 1)) { s with heap := h' }) :
    wpAny (model prog w) A (call (.type "enumerate") [v]) Q E s := by
  refine callType_new F.called_enumerate (by decide) (F.typeCall_enumerate_1 _) (F.newCall_enumerate_1 _) (fun obj => F.args_object_init_2 obj _) F.entry_enumerate_new (enum_new1 B) ⟨h1, ?_⟩
  have z1 : (s.heap.push o).objs.size = s.heap.objs.size + 1 := Heap.size_push _ _
  show _ ∧ _
  rw [z1]
  have he : IsEnum ((s.heap.push o).push { cls := .type "enumerate", data := .fields #[.none, .bool false, .ref s.heap.objs.size, rawInt 0, .none, .none] }) (s.heap.objs.size + 1) s.heap.objs.size 0 .none := by
    have q := Heap.get?_push_size (s.heap.push o) (o := { cls := .type "enumerate", data := .fields #[.none, .bool false, .ref s.heap.objs.size, rawInt 0, .none, .none] }) rfl
    rw [z1] at q
    exact q
  exact ⟨⟨_, he, rfl⟩, h _ he (Heap.get?_push_of_some _ (Heap.get?_push_size _ B.free)) (by rw [Heap.size_push, z1]) fun b u x => Heap.get?_push_of_some _ (Heap.get?_push_of_some _ x)⟩
def IteT (K : PySem.W.Frag) (a : Addr) : It where
  go := fun i H => ∃ (xs : List V) (x : V), SqT K H a xs ∧ xs[i]? = some x
  yld := fun i H v H' => ∃ T x, v = .ref T ∧ H T = none ∧ H' = upd H T (.tup [.int (i : Nat), x]) ∧ ∀ xs, SqT K H a xs → xs[i]? = some x
  stop := fun i H => ∃ xs : List V, SqT K H a xs ∧ xs.length = i
theorem turn_enumT {P : Program} {w : World} {K : PySem.W.Frag} {elts : List Expr} {kk : Nat} {tpos : Pos} (a e it : Addr) :
    Turn P w K (.Tuple elts kk tpos) (IteT K a) [e, it] e (fun i h => (∃ old, IsEnum h e it ((i : Nat) : Int) old) ∧ h.IsTupleIter it a i ∧ e ≠ it) where
  mem := by simp
  obj := fun i h st b hb => by
    obtain ⟨⟨old, he⟩, ⟨o, ho, _, hd⟩, _⟩ := st
    rcases (show b = e ∨ b = it by simpa using hb) with z | z
    · rw [z]; exact ⟨_, he, fun v q => nomatch q⟩
    · rw [z]; exact ⟨o, ho, fun v q => by rw [hd] at q; cases q⟩
  keep := fun i h h' st k => by
    obtain ⟨⟨old, he⟩, hi, hne⟩ := st
    exact ⟨⟨old, k e (by simp) _ he⟩, hi.at fun o q => k it (by simp) o q, hne⟩
  item := by
    intro X hP hw hK hc i pins s σ H E I hf st hg
    subst hP hw hK
    obtain ⟨⟨old, he⟩, hit, hne⟩ := st
    obtain ⟨xs, x, hq, hx⟩ := hg
    obtain ⟨its, rv, p, hz⟩ := I.tuple hq
    obtain ⟨u, hu, ru⟩ := rv.get hx
    have p' : s.heap.IsTuple a its.toArray := p
    have hel : e < s.heap.objs.size := Heap.lt_size he
    have hil : it < s.heap.objs.size := by obtain ⟨_, q, _⟩ := hit; exact Heap.lt_size q
    have tne : ∀ {b : Addr} {o : Obj} {n : String}, s.heap.get? b = some o → o.cls = .type n → n ≠ "tuple" → a ≠ b := fun {b o n} q1 q2 q3 z => by
      obtain ⟨oa, q4, q5, _⟩ := p'
      rw [z, q1] at q4; cases q4
      rw [q2] at q5; injection q5 with q6; exact q3 q6
    have hae : a ≠ e := tne he rfl (by decide)
    have hai : a ≠ it := by obtain ⟨o, q1, q2, _⟩ := hit; exact tne q1 q2 (by decide)
    have D := Draws.tuple (prog := X.prog) (w := X.w) (A := X.A.in1) (I.ok.hd hc) it a hai its.toArray
    have hi : i < its.toArray.size := by
      have := (List.getElem?_eq_some_iff.mp hu).1
      simpa using this
    refine wpAny_pyNext_enum_itemD D he ⟨hit, p'⟩ hi hne (fun m => ?_) fun x' h' tk hx' ho hst hT hsz hk => ?_
    · rcases (show e = it ∨ e = a by simpa using m) with z | z
      · exact hne z
      · exact hae z.symm
    have ex : x' = u := by
      have q : its.toArray[i]? = some x' := hx'
      rw [List.getElem?_toArray] at q
      rw [hu] at q; exact (Option.some.inj q).symm
    subst ex
    refine ⟨_, rfl, wpAny_letOwnedTupleGo_enum (s := { s with heap := h', toks := tk + 1 }) ho fun h'' he' sb => ?_⟩
    have hT2 : h''.get? s.heap.objs.size = some { cls := .type "tuple", data := .seq #[.int i tk, x'] } := (sb.2 _ (Nat.ne_of_gt hel)).trans hT
    have new : ObjOk X.prog X.w (upd H s.heap.objs.size (.tup [.int (i : Nat), x])) h'' s.heap.objs.size (.tup [.int (i : Nat), x]) :=
      ⟨by show 2 ≤ sizeLine; decide, [.int i tk, x'], .cons ⟨_, rfl⟩ (.cons ru .nil), ⟨_, hT2, rfl, _, rfl⟩⟩
    have I1 : Inv X pins σ (upd H s.heap.objs.size (.tup [.int (i : Nat), x])) { s with heap := h'', toks := tk + 1 } :=
      I.turnedNew (ch := [e, it]) (fun b ob hb q => (sb.2 b (fun z => hb (by simp [z]))).trans (hk b ob (fun z => hb (by simp [z])) (fun z => hb (by simp [z])) q)) hf (Nat.le_refl _) new
    refine ⟨.ref s.heap.objs.size, _, I1, rfl, ⟨_, x, rfl, I.hok.fresh (Nat.le_refl _), rfl, fun ys hy => by rw [I.tuple_inj hy hq]; exact hx⟩, ⟨⟨x', ?_⟩, hst.1.at fun o q => (sb.2 it (Ne.symm hne)).trans q, hne⟩, fun b hb => ?_⟩
    · have e1 : ((i + 1 : Nat) : Int) = (i : Int) + 1 := by omega
      rw [e1]; exact he'
    · have hb' : b < s.heap.objs.size := by
        rcases (show b = e ∨ b = it by simpa using hb) with z | z
        · rw [z]; exact hel
        · rw [z]; exact hil
      rw [upd_ne (Nat.ne_of_lt hb')]
      exact (hf b hb).1
  done := by
    intro X hP hw hK hc i pins s σ H E I hf st hg
    subst hP hw hK
    obtain ⟨⟨old, he⟩, hit, hne⟩ := st
    obtain ⟨xs, hq, hx⟩ := hg
    obtain ⟨its, rv, p, hz⟩ := I.tuple hq
    obtain ⟨f0, f1, f2, f3, f4, f5⟩ := hf it (by simp)
    have p' : s.heap.IsTuple a its.toArray := p
    have hl := rv.length
    have hai : a ≠ it := fun z => by
      obtain ⟨o, q1, q2, _⟩ := hit
      obtain ⟨oa, q4, q5, _⟩ := p'
      rw [z, q1] at q4; cases q4
      rw [q2] at q5; injection q5 with q6; exact absurd q6 (by decide)
    have D := Draws.tuple (prog := X.prog) (w := X.w) (A := X.A.in1) (I.ok.hd hc) it a hai its.toArray
    have en : i = its.toArray.size := by
      rw [List.size_toArray, ← hl]
      exact hx.symm
    subst en
    exact wpAny_pyNext_enum_endD D he ⟨hit, p'⟩ fun h' eb => ⟨rfl, I.turned (t' := s.toks) (fun b o hb q => eb b o hb q) f0 f1 f3 f4 f5⟩
  self := fun A i s Q E st h => let ⟨⟨_, he⟩, _⟩ := st; wpAny_pyIter_enum he h
def iEnumT (K : PySem.W.Frag) (ta : TA) : TI := fun σ H R => ta σ H fun vs H1 => ∃ a xs, vs = [.ref a] ∧ SqT K H1 a xs ∧ R (IteT K a) H1
theorem pi_enumT {X : Cx} {e : Expr} {ta : TA} {p pos tpos : Pos} {elts : List Expr} {kk : Nat} (hg : Gl X "enumerate") (hm : X.mg "enumerate" = none) (ha : PA X [e] ta) (hs : starEach [e] X.env = [(false, eval e X.env)] := by rfl) :
    PI X (.Tuple elts kk tpos) (.Call (.Name "enumerate" p) [e] [] pos) (iEnumT X.K ta) := by
  refine ⟨fun pins s σ H R I h => ?_⟩
  refine Call_ (ld_blt I hg hm boot_enumerate (PyProof.Rows.callWith_type1 (thn (ha.run pos pins s σ H _ I h) fun us s1 ⟨vs, H1, I1, r1, q1⟩ => ?_) hs rfl))
  obtain ⟨a, xs, ex, hq, q⟩ := q1
  subst ex
  rw [Vals.ref1 r1]
  obtain ⟨its, rv, p', hz⟩ := I1.tuple hq
  refine enum_call1 (begins_tuple a its.toArray) p' fun h' he hit hsz hk => wpAny_pyIter_enum he ?_
  have I2 : Inv X pins σ H1 { s1 with heap := h' } := I1.kept (t' := s1.toks) hk
  refine ⟨s1.heap.objs.size + 1, [s1.heap.objs.size + 1, s1.heap.objs.size], _, _, H1, rfl, I2, turn_enumT a (s1.heap.objs.size + 1) s1.heap.objs.size, ⟨⟨.none, he⟩, ⟨_, hit, rfl, rfl⟩, Nat.succ_ne_self _⟩, fun b hb => ?_, q⟩
  have hle : s1.heap.objs.size ≤ b := by
    rcases (show b = s1.heap.objs.size + 1 ∨ b = s1.heap.objs.size by simpa using hb) with z | z
    · rw [z]; exact Nat.le_add_right _ _
    · rw [z]; exact Nat.le_refl _
  exact I1.fpOk hle (I1.hok.fresh hle)
theorem walk_enumT {K : PySem.W.Frag} {a : Addr} {xs : List V} : Walk (IteT K a) xs.length (fun H => SqT K H a xs) (YPair (fun i => some (.int (i : Nat))) (fun i => xs[i]?)) := by
  refine ⟨fun i _ hi q => ⟨xs, xs[i], q, by simp [hi]⟩, fun _ q => ⟨xs, q, rfl⟩, fun i H v H' _ q y => ?_⟩
  obtain ⟨T, x, h1, h2, h3, h4⟩ := y
  exact ⟨T, .int (i : Nat), x, h1, h2, h3, rfl, h4 xs q⟩

/-! #### the items of a locked dict whose keys are tuples: each a new pair of the key's own tuple and the value -/
theorem frzT_val {X : Cx} {pins : List (Addr × Obj)} {σ : L2.St} {H : Hp} {s : Shared} {d : Addr} {o : Obj} {kvs : List (List Key × V)} (I : Inv X pins σ H s) (h : H d = some (.frz o (.dT kvs))) :
    (d == sysModules) = false ∧ s.heap.get? d = some o ∧ o.ExactDict ∧ ∃ (es : Array DictEntry) (ep : Nat), o.data = .dict es ep ∧ es.size = kvs.length ∧
      ∀ (i : Nat) (k : List Key) (v : V), kvs[i]? = some (k, v) → ∃ (en : DictEntry) (q : Addr), es[i]? = some en ∧ en.key = .ref q ∧ H q = some (.tup (k.map kV)) ∧ RelV v en.val := by
  obtain ⟨hd, z, hs, xs, pr, o', es, ep, ho, hx, hdt, he, _⟩ := I.hok d _ h
  rw [hd] at ho
  cases ho
  refine ⟨hs, hd, hx, es, ep, hdt, ?_, fun i k v e => ?_⟩
  · have l1 : es.size = xs.length := size_of_entries he
    have l2 : kvs.length = xs.length := Paired.len pr
    omega
  · obtain ⟨b, hb, e1, e2, e3⟩ := Paired.get pr e
    have q := entry_at he i
    rw [hb] at q
    exact ⟨_, b.2.1, q, rfl, e2, e3⟩
def ItiT (d : Addr) (o : Obj) (kvs : List (List Key × V)) : It where
  go := fun i H => H d = some (.frz o (.dT kvs)) ∧ i < kvs.length
  yld := fun i H x H' => ∃ T q k v, kvs[i]? = some (k, v) ∧ x = .ref T ∧ H T = none ∧ H q = some (.tup (k.map kV)) ∧ H' = upd H T (.tup [.ref q, v])
  stop := fun i H => H d = some (.frz o (.dT kvs)) ∧ kvs.length ≤ i
theorem turn_itemsT {P : Program} {w : World} {K : PySem.W.Frag} {d : Addr} {o : Obj} {es : Array DictEntry} {ep : Nat} {kvs : List (List Key × V)} {elts : List Expr} {kk : Nat} {tpos : Pos} (it : Addr) (hod : o.data = .dict es ep) :
    Turn P w K (.Tuple elts kk tpos) (ItiT d o kvs) [it] it (fun i h => ∃ ok ov, IsItemIter h it d i es.size ep ok ov) where
  mem := by simp
  obj := fun i h st b hb => by
    obtain ⟨ok, ov, e⟩ := st
    rw [show b = it by simpa using hb]
    exact ⟨_, e, fun v z => nomatch z⟩
  keep := fun i h h' st k => let ⟨ok, ov, e⟩ := st; ⟨ok, ov, k it (by simp) _ e⟩
  item := by
    intro X hP hw hK hc i pins s σ H E I hf st hg
    subst hP hw hK
    obtain ⟨hd, hi⟩ := hg
    obtain ⟨hs, hgd, hx, es', ep', hdt, hsz, ent⟩ := frzT_val I hd
    obtain ⟨rfl, rfl⟩ := dict_ep hod hdt
    obtain ⟨⟨k, v⟩, hkv⟩ : ∃ p, kvs[i]? = some p := ⟨kvs[i], List.getElem?_eq_getElem hi⟩
    obtain ⟨en, q, hen, hkey, hq, rv⟩ := ent i k v hkv
    obtain ⟨hlt0, ee⟩ := Array.getElem?_eq_some_iff.mp hen
    obtain ⟨ok, ov, he⟩ := st
    have hlt : it < s.heap.objs.size := Heap.lt_size he
    refine wpAny_pyNext_items_item_raw he ⟨_, hgd, hx, hdt⟩ hlt0 fun h' ho hT hz hk => ?_
    rw [ee, hkey] at ho hT
    refine ⟨_, rfl, wpAny_letOwnedTupleGo_items (s := { s with heap := h' }) ho fun h'' he' sb => ?_⟩
    have hT2 : h''.get? s.heap.objs.size = some { cls := .type "tuple", data := .seq #[.ref q, en.val] } := (sb.2 _ (Nat.ne_of_gt hlt)).trans hT
    have new : ObjOk X.prog X.w (upd H s.heap.objs.size (.tup [.ref q, v])) h'' s.heap.objs.size (.tup [.ref q, v]) :=
      ⟨by show 2 ≤ sizeLine; decide, [.ref q, en.val], .cons rfl (.cons rv .nil), ⟨_, hT2, rfl, _, rfl⟩⟩
    have I1 : Inv X pins σ (upd H s.heap.objs.size (.tup [.ref q, v])) { s with heap := h'' } :=
      I.turnedNew (t' := s.toks) (ch := [it]) (fun b ob hb e => (sb.2 b (by simpa using hb)).trans (hk b ob (by simpa using hb) e)) hf (Nat.le_refl _) new
    refine ⟨.ref s.heap.objs.size, _, I1, rfl, ⟨_, q, k, v, hkv, rfl, I.hok.fresh (Nat.le_refl _), hq, rfl⟩, ⟨_, _, he'⟩, fun b hb => ?_⟩
    rw [show b = it by simpa using hb, upd_ne (Nat.ne_of_lt hlt)]
    exact (hf it (by simp)).1
  done := by
    intro X hP hw hK hc i pins s σ H E I hf st hg
    subst hP hw hK
    obtain ⟨hd, hi⟩ := hg
    obtain ⟨f0, f1, f2, f3, f4, f5⟩ := hf it (by simp)
    obtain ⟨hs, hgd, hx, es', ep', hdt, hsz, ent⟩ := frzT_val I hd
    obtain ⟨rfl, rfl⟩ := dict_ep hod hdt
    obtain ⟨ok, ov, he⟩ := st
    exact wpAny_pyNext_items_end_raw (I.ok.hd hc) he ⟨_, hgd, hx, hdt⟩ (by omega) fun h' eb => ⟨rfl, I.turned (t' := s.toks) (fun b ob hb e => eb b ob hb e) f0 f1 f3 f4 f5⟩
  self := fun A i s Q E st h => let ⟨_, _, e⟩ := st; wpAny_pyIter_itemiter e h
def iItemsT (td : TE) : TI := fun σ H R => td σ H fun x H1 => ∃ d o kvs, x = .ref d ∧ H1 d = some (.frz o (.dT kvs)) ∧ R (ItiT d o kvs) H1
theorem pi_itemsT {X : Cx} {e : Expr} {td : TE} {apos cpos tpos : Pos} {elts : List Expr} {kk : Nat} (he : PE X e td) (h1 : attributeBase e "items" X.env (eval e X.env) = eval e X.env := by rfl) (h2 : (apos.endLine == cpos.line) = true := by rfl) :
    PI X (.Tuple elts kk tpos) (.Call (.Attribute e "items" apos) [] [] cpos) (iItemsT td) := by
  refine ⟨fun pins s σ H R I h => ?_⟩
  refine wpAny_Call_method (T := "dict") (id := "dict.items") h1 rfl h2 F.plainAttrs_dict F.slot_dict_items F.type_dict_items (thn (he.run pins s σ H _ I h) fun u s1 ⟨x, H1, I1, rx, d, o, kvs, ex, hd, q⟩ => ?_)
  subst ex
  obtain rfl : u = Value.ref d := rx
  obtain ⟨hs, hgd, hx, es, ep, hdt, hsz, ent⟩ := frzT_val I1 hd
  have hr : s1.heap.DictRaw d es ep := ⟨_, hgd, hx, hdt⟩
  refine ⟨hr.typeIs, fun a ea => ⟨o, by cases ea; exact hgd, hx.2.1⟩, ?_⟩
  have I2 : Inv X pins σ H1 { s1 with heap := s1.heap.push { cls := .type "dict_items", data := .fields #[.ref d] } } := I1.kept (t' := s1.toks) fun b ob q => Heap.get?_push_of_some _ q
  have fin : wpAny (model X.prog X.w) X.A (pyIter (.ref s1.heap.objs.size)) (PIE X pins σ (.Tuple elts kk tpos) R) X.xe { s1 with heap := s1.heap.push { cls := .type "dict_items", data := .fields #[.ref d] } } := by
    refine wpAny_pyIter_items_raw (d := d) ⟨_, Heap.get?_push_size _ rfl, rfl, rfl⟩ (hr.at fun o e => Heap.get?_push_of_some _ e) (pi_one (tk := s1.toks) I2 _ (turn_itemsT _ hdt) ⟨.none, .none, ?_⟩ q)
    exact Heap.get?_push_size _ rfl
  show wpAny _ _ (callWith cpos (.builtin "dict.items") [.ref d] [] []) _ X.xe s1
  exact method_meetsIn F.slot_dict_items F.entry_dict_items rfl (PySem.evalArgs_none ⟨rfl, hr.typeIs, F.args_dict_items_1 _, _, meets_dict_items_raw d hs, ⟨es, ep, hr⟩, fin⟩)
theorem walk_itemsT {d : Addr} {o : Obj} {kvs : List (List Key × V)} : Walk (ItiT d o kvs) kvs.length (fun H => H d = some (.frz o (.dT kvs)))
    (fun i H x H' => ∃ T q k v, kvs[i]? = some (k, v) ∧ x = .ref T ∧ H T = none ∧ H q = some (.tup (k.map kV)) ∧ H' = upd H T (.tup [.ref q, v])) :=
  ⟨fun _ _ hi q => ⟨q, hi⟩, fun _ q => ⟨q, Nat.le_refl _⟩, fun _ _ _ _ _ _ y => y⟩
/-! #### zip of two tuples -/
theorem walk_zipT {K : PySem.W.Frag} {a b : Addr} {xs ys : List V} {n : Nat} (hn : n = min xs.length ys.length) : Walk (RZ.ItzT K a b) n (fun H => SqT K H a xs ∧ SqT K H b ys) (YPair (fun i => xs[i]?) (fun i => ys[i]?)) := by
  subst hn
  refine ⟨fun i _ hi q => ?_, fun _ q => ⟨xs, ys, q.1, q.2, by omega⟩, fun i H v H' _ q y => ?_⟩
  · have h1 : i < xs.length := by omega
    have h2 : i < ys.length := by omega
    exact ⟨xs, ys, xs[i], ys[i], q.1, q.2, by simp [h1], by simp [h2]⟩
  · obtain ⟨T, x, z, h1, h2, h3, h4, h5⟩ := y
    exact ⟨T, x, z, h1, h2, h3, h4 xs q.1, h5 ys q.2⟩
end An
-- imports: B2
/-! ### B3: readings in short: slices, sums of tuples -/
namespace An
open PySem PySem.Spec PyProof.Rows L2
section
variable {K : PySem.W.Frag} {H : Hp} {Q : VK}
theorem cut_from (xs : List V) (k : Nat) : cutV xs (some (k : Int)) none = xs.drop k := by
  unfold cutV
  rw [HT.sIx_nat, HT.sIx_none]
  by_cases h : k ≤ xs.length
  · rw [Nat.min_eq_left h, List.take_of_length_le (by rw [List.length_drop]; omega)]
  · rw [Nat.min_eq_right (show xs.length ≤ k by omega), List.drop_of_length_le (Nat.le_refl _), List.drop_of_length_le (show xs.length ≤ k by omega), List.take_nil]
theorem cut_mid (xs : List V) (k j : Nat) : cutV xs (some (k : Int)) (some (j : Int)) = (xs.take j).drop k := by
  unfold cutV
  rw [HT.sIx_nat, HT.sIx_nat, List.drop_take]
  by_cases h : k ≤ xs.length
  · rw [Nat.min_eq_left h]
    by_cases h2 : j ≤ xs.length
    · rw [Nat.min_eq_left h2]
    · rw [Nat.min_eq_right (show xs.length ≤ j by omega), List.take_of_length_le (by rw [List.length_drop]; omega), List.take_of_length_le (by rw [List.length_drop]; omega)]
  · rw [Nat.min_eq_right (show xs.length ≤ k by omega), List.drop_of_length_le (Nat.le_refl _), List.drop_of_length_le (show xs.length ≤ k by omega), List.take_nil, List.take_nil]
theorem cut_to (xs : List V) (j : Nat) : cutV xs none (some (j : Int)) = xs.take j := by
  unfold cutV
  rw [HT.sIx_none, HT.sIx_nat, List.drop_zero, Nat.sub_zero]
  by_cases h2 : j ≤ xs.length
  · rw [Nat.min_eq_left h2]
  · rw [Nat.min_eq_right (by omega), List.take_of_length_le (Nat.le_refl _), List.take_of_length_le (by omega)]
theorem cut_whole (xs : List V) (lo hi : Option Int) (h : HT.sIx xs.length 0 lo = 0 ∧ HT.sIx xs.length xs.length hi = xs.length) : cutV xs lo hi = xs := by
  unfold cutV
  rw [h.1, h.2, List.drop_zero, Nat.sub_zero, List.take_of_length_le (Nat.le_refl _)]
/-- a slice of a tuple: it stands somewhere, old or new -/
theorem sl_any {c : Addr} {xs : List V} {lo hi : Option Int} (hc : H c = some (.tup xs)) (h : ∀ q H', Same H H' → H' q = some (.tup (cutV xs lo hi)) → Q (.ref q) H') : rSlA K (.ref c) lo hi H Q :=
  ⟨c, xs, rfl, SqT.of hc, fun e => h c H (Same.refl H) (by rw [cut_whole xs lo hi e]; exact hc), fun _ p hp => h p _ (Same.new hp) upd_same⟩
theorem sl_from {c : Addr} {xs : List V} {i : Int} {k : Nat} (e : i = (k : Int)) (hc : H c = some (.tup xs)) (h : ∀ q H', Same H H' → H' q = some (.tup (xs.drop k)) → Q (.ref q) H') : rSlA K (.ref c) (some i) none H Q := by
  subst e
  exact sl_any hc fun q H' s e => h q H' s (by rw [← cut_from]; exact e)
theorem sl_fromN {σ : L2.St} {c : Addr} {xs : List V} {i : Int} {k : Nat} (e : i = (k : Int)) (hc : H c = some (.tup xs)) (h : ∀ q H', Same H H' → H' q = some (.tup (xs.drop k)) → Q (.ref q) H') : tNoPart σ H fun u H3 => rSlA K (.ref c) (some i) u H3 Q := sl_from e hc h
/-- a slice of a list: a new list -/
theorem sll_fromN {σ : L2.St} {c : Addr} {xs : List V} {i : Int} {k : Nat} (e : i = (k : Int)) (hc : SqL K H c xs) (h : ∀ q, H q = none → Q (.ref q) (upd H q (.lst (xs.drop k)))) : tNoPart σ H fun u H3 => rSlL K (.ref c) (some i) u H3 Q := by
  subst e
  exact ⟨c, xs, rfl, hc, fun q hq => by rw [cut_from]; exact h q hq⟩
theorem sll_to {c : Addr} {xs : List V} {j : Nat} (hc : SqL K H c xs) (h : ∀ q, H q = none → Q (.ref q) (upd H q (.lst (xs.take j)))) : rSlL K (.ref c) none (some (j : Int)) H Q :=
  ⟨c, xs, rfl, hc, fun q hq => by rw [cut_to]; exact h q hq⟩
theorem slt_to {c : Addr} {xs : List V} {i : Int} {j : Nat} (e : i = (j : Int)) (hc : H c = some (.tup xs)) (h : ∀ q H', Same H H' → H' q = some (.tup (xs.take j)) → Q (.ref q) H') : rSlA K (.ref c) none (some i) H Q := by
  subst e
  exact sl_any hc fun q H' s e => h q H' s (by rw [← cut_to]; exact e)
theorem slt_mid {c : Addr} {xs : List V} {i1 i2 : Int} {k j : Nat} (e1 : i1 = (k : Int)) (e2 : i2 = (j : Int)) (hc : H c = some (.tup xs)) (h : ∀ q H', Same H H' → H' q = some (.tup ((xs.take j).drop k)) → Q (.ref q) H') : rSlA K (.ref c) (some i1) (some i2) H Q := by
  subst e1 e2
  exact sl_any hc fun q H' s e => h q H' s (by rw [← cut_mid]; exact e)
/-- t + u of tuples: it stands somewhere -/
theorem cat_any {a b : Addr} {xs ys : List V} (ha : H a = some (.tup xs)) (hb : H b = some (.tup ys)) (hz : xs.length + ys.length ≤ 100000) (h : ∀ q H', Same H H' → H' q = some (.tup (xs ++ ys)) → Q (.ref q) H') : rCatA K (.ref a) (.ref b) H Q := by
  refine ⟨a, b, xs, ys, rfl, rfl, SqT.of ha, SqT.of hb, Nat.le_trans hz (by decide), fun e => h b H (Same.refl H) (by rw [e]; exact hb), fun _ e => h a H (Same.refl H) (by rw [e, List.append_nil]; exact ha), fun _ _ p hp => h p _ (Same.new hp) upd_same⟩
theorem sz {n : Nat} (h : n ≤ 100000) : n ≤ sizeLine := Nat.le_trans h (by decide)
theorem szl {n : Nat} (h : n < 100000) : n < sizeLine := Nat.lt_of_lt_of_le h (by decide)
end
/-! #### lists and tuples stay -/
def LTS (H H' : Hp) : Prop := ∀ b o, ((∃ xs, o = .lst xs) ∨ ∃ xs, o = .tup xs) → H b = some o → H' b = some o
theorem LTS.refl (H : Hp) : LTS H H := fun _ _ _ h => h
theorem LTS.trans {H H1 H2 : Hp} (a : LTS H H1) (b : LTS H1 H2) : LTS H H2 := fun c o k h => b c o k (a c o k h)
theorem LTS.of {H H' : Hp} (e : Same H H') : LTS H H' := fun b o _ h => e b o h
theorem LTS.ts {H H' : Hp} (e : LTS H H') : TS H H' := fun b xs h => e b _ (.inr ⟨xs, rfl⟩) h
theorem LTS.updA {H : Hp} {p : Addr} {o u : HO} (h : H p = some u) (hu : ∀ xs, u ≠ .lst xs ∧ u ≠ .tup xs) : LTS H (upd H p o) := fun b v k e => by
  have nb : b ≠ p := fun z => by
    rw [z, h] at e
    cases e
    rcases k with ⟨xs, e⟩ | ⟨xs, e⟩
    · exact (hu xs).1 e
    · exact (hu xs).2 e
  rw [upd_ne nb]; exact e
theorem LTS.dT {H : Hp} {p : Addr} {o : HO} {ys} (h : H p = some (.dT ys)) : LTS H (upd H p o) := LTS.updA h fun _ => ⟨(fun e => by cases e), (fun e => by cases e)⟩
theorem LTS.dK {H : Hp} {p : Addr} {o : HO} {ys} (h : H p = some (.dK ys)) : LTS H (upd H p o) := LTS.updA h fun _ => ⟨(fun e => by cases e), (fun e => by cases e)⟩
theorem LTS.frz {H : Hp} {p : Addr} {o u : HO} {od} (h : H p = some (.frz od u)) : LTS H (upd H p o) := LTS.updA h fun _ => ⟨(fun e => by cases e), (fun e => by cases e)⟩
theorem LTS.new {H : Hp} {p : Addr} {o : HO} (h : H p = none) : LTS H (upd H p o) := LTS.of (Same.new h)
theorem LstAt.mono {α : Type} {R : Hp → V → α → Prop} {H H' : Hp} {l : Addr} {ds : List α} (e : LTS H H') (m : ∀ v d, R H v d → R H' v d) (h : LstAt H (R H) l ds) : LstAt H' (R H') l ds :=
  let ⟨xs, h1, h2⟩ := h; ⟨xs, e _ _ (.inl ⟨xs, rfl⟩) h1, Paired.mp h2 m⟩
/-! #### a comprehension that changes nothing: what it makes, told by the turn -/
theorem lc_go {J : It} {n : Nat} {G : Hp → Prop} {Y : Nat → Hp → V → Hp → Prop} (wk : Walk J n G Y) {g : TG} {tt : TT} {te : TE} {vs : List Nat} {σ : L2.St} {H1 : Hp} {D : Addr} {Qd : Hp → Prop} {β : Type} (S : Hp → V → β → Prop) (ac : Nat → List β)
    (hD : H1 D = none) (h0 : ac 0 = []) (hz : ∀ i, i ≤ n → (ac i).length < 100000) (mono : ∀ H H' v b, Same H H' → S H v b → S H' v b) (mD : ∀ H v b ys zs, H D = some (.lst ys) → S H v b → S (upd H D (.lst zs)) v b) (hG : ∀ H', Same H1 H' → G H')
    (hs : ∀ i x H H' (NT : V → Hp → Prop) (NF : Hp → Prop), i < n → Same H1 H → Y i H x H' → (∀ y H4 b, Same H H4 → S H4 y b → ac (i + 1) = ac i ++ [b] → NT y H4) → (∀ H4, Same H H4 → ac (i + 1) = ac i → NF H4) →
      g x (wipe σ vs) H' fun σ2 H2 => wipe σ2 vs = wipe σ vs ∧ tt σ2 H2 fun b H3 => if b = true then te σ2 H3 NT else NF H3)
    (hd : ∀ H' ys, Same H1 H' → H' D = some (.lst ys) → Paired (S H') ys (ac n) → Qd H') :
    ∃ W : Nat → Nat → Hp → Prop, (∃ m, W 0 m (upd H1 D (.lst []))) ∧ ∀ i m H, W i m H →
      (J.stop i H ∧ Qd H) ∨ (J.go i H ∧ ∃ Nx : Hp → Prop, (∀ H', Nx H' → ∃ m', m' < m ∧ W (i + 1) m' H') ∧ ∀ x H', J.yld i H x H' → g x (wipe σ vs) H' fun σ2 H2 => wipe σ2 vs = wipe σ vs ∧ tt σ2 H2 fun b H3 =>
        if b = true then te σ2 H3 fun y H4 => ∃ acc, H4 D = some (.lst acc) ∧ acc.length < sizeLine ∧ Nx (upd H4 D (.lst (acc ++ [y]))) else Nx H3) := by
  have pres : ∀ {H4 : Hp} {ys : List V}, Same H1 H4 → Same H1 (upd H4 D (.lst ys)) := fun {H4 ys} s b o e => by
    rw [upd_ne (ne_of_none e hD)]; exact s b o e
  refine lc_it wk (fun i H => Same H1 H ∧ ∃ ys, H D = some (.lst ys) ∧ Paired (S H) ys (ac i)) ⟨Same.new hD, [], upd_same, by rw [h0]; exact .nil⟩ (fun i H _ h => hG H h.1) ?_ ?_
  · rintro i x H H' hi ⟨sm, ys, hy, pr⟩ y
    have len : ys.length < sizeLine := szl (by rw [Paired.len pr]; exact hz i (Nat.le_of_lt hi))
    refine hs i x H H' _ _ hi sm y (fun y H4 b s4 sb e => ⟨ys, s4 _ _ hy, len, pres (sm.trans s4), ys ++ [y], upd_same, ?_⟩) fun H4 s4 e => ⟨sm.trans s4, ys, s4 _ _ hy, by rw [e]; exact Paired.mp pr fun _ _ z => mono _ _ _ _ s4 z⟩
    rw [e]
    exact Paired.snoc1 (Paired.mp pr fun _ _ z => mD _ _ _ _ _ (s4 _ _ hy) (mono _ _ _ _ s4 z)) (mD _ _ _ _ _ (s4 _ _ hy) sb)
  · rintro H ⟨sm, ys, hy, pr⟩
    exact hd H ys sm hy pr
/-- no test: a map -/
theorem lc_map {J : It} {n : Nat} {G : Hp → Prop} {Y : Nat → Hp → V → Hp → Prop} (wk : Walk J n G Y) {g : TG} {te : TE} {vs : List Nat} {σ : L2.St} {H1 : Hp} {D : Addr} {Qd : Hp → Prop} {β : Type} (S : Hp → V → β → Prop) (ms : List β)
    (hD : H1 D = none) (hn : ms.length = n) (hz : n < 100000) (mono : ∀ H H' v b, Same H H' → S H v b → S H' v b) (mD : ∀ H v b ys zs, H D = some (.lst ys) → S H v b → S (upd H D (.lst zs)) v b) (hG : ∀ H', Same H1 H' → G H')
    (hs : ∀ i x H H' (NT : V → Hp → Prop), i < n → Same H1 H → Y i H x H' → (∀ y H4 b, Same H H4 → ms[i]? = some b → S H4 y b → NT y H4) → g x (wipe σ vs) H' fun σ2 H2 => wipe σ2 vs = wipe σ vs ∧ te σ2 H2 NT)
    (gm : ∀ x σ H Q Q', (∀ σ2 H2, Q σ2 H2 → Q' σ2 H2) → g x σ H Q → g x σ H Q')
    (hd : ∀ H' ys, Same H1 H' → H' D = some (.lst ys) → Paired (S H') ys ms → Qd H') :
    ∃ W : Nat → Nat → Hp → Prop, (∃ m, W 0 m (upd H1 D (.lst []))) ∧ ∀ i m H, W i m H →
      (J.stop i H ∧ Qd H) ∨ (J.go i H ∧ ∃ Nx : Hp → Prop, (∀ H', Nx H' → ∃ m', m' < m ∧ W (i + 1) m' H') ∧ ∀ x H', J.yld i H x H' → g x (wipe σ vs) H' fun σ2 H2 => wipe σ2 vs = wipe σ vs ∧ tYes σ2 H2 fun b H3 =>
        if b = true then te σ2 H3 fun y H4 => ∃ acc, H4 D = some (.lst acc) ∧ acc.length < sizeLine ∧ Nx (upd H4 D (.lst (acc ++ [y]))) else Nx H3) := by
  refine lc_go wk S (fun i => ms.take i) hD rfl (fun i hi => by rw [List.length_take, hn]; omega) mono mD hG (fun i x H H' NT NF hi sm y ht _ => ?_) fun H' ys sm hy pr => hd H' ys sm hy (by rw [← hn, List.take_of_length_le (Nat.le_refl _)] at pr; exact pr)
  refine gm _ _ _ _ _ (fun σ2 H2 h => ⟨h.1, (iteT h.2 : if true = true then te σ2 H2 NT else NF H2)⟩) (hs i x H H' NT hi sm y fun y H4 b s4 hb sb => ht y H4 b s4 sb ?_)
  show ms.take (i + 1) = ms.take i ++ [b]
  rw [List.take_add_one, hb]; rfl
theorem gm_name (j : Nat) : ∀ x σ H (Q Q' : L2.St → Hp → Prop), (∀ σ2 H2, Q σ2 H2 → Q' σ2 H2) → gName j x σ H Q → gName j x σ H Q' := fun _ _ _ _ _ f h => f _ _ h
theorem gm_two {K : PySem.W.Frag} (j k : Nat) : ∀ x σ H (Q Q' : L2.St → Hp → Prop), (∀ σ2 H2, Q σ2 H2 → Q' σ2 H2) → gTup K 2 (gCons (gName j) (gCons (gName k) gNil)) x σ H Q → gTup K 2 (gCons (gName j) (gCons (gName k) gNil)) x σ H Q' := fun _ _ _ _ _ f h => by
  obtain ⟨a, xs, e1, e2, e3, v, r, e4, v2, r2, e5, e6, q⟩ := h
  exact ⟨a, xs, e1, e2, e3, v, r, e4, v2, r2, e5, e6, f _ _ q⟩
theorem gm_tri {K : PySem.W.Frag} (j k l : Nat) : ∀ x σ H (Q Q' : L2.St → Hp → Prop), (∀ σ2 H2, Q σ2 H2 → Q' σ2 H2) → gTup K 3 (gCons (gName j) (gCons (gName k) (gCons (gName l) gNil))) x σ H Q → gTup K 3 (gCons (gName j) (gCons (gName k) (gCons (gName l) gNil))) x σ H Q' := fun _ _ _ _ _ f h => by
  obtain ⟨a, xs, e1, e2, e3, v, r, e4, v2, r2, e5, v3, r3, e7, e6, q⟩ := h
  exact ⟨a, xs, e1, e2, e3, v, r, e4, v2, r2, e5, v3, r3, e7, e6, f _ _ q⟩
theorem tYes_ {σ : L2.St} {H : Hp} {A B : Hp → Prop} (h : A H) : tYes σ H fun b H3 => if b = true then A H3 else B H3 := (iteT h : if true = true then A H else B H)
/-! #### the same rules, the written part told by its name (within a comprehension) -/
section
variable {X : Cx} {K : PySem.W.Frag}
theorem ix_tupK (h : X.K = K) : IxR X (rIxT K) := h ▸ ix_tup
theorem ix_listK (h : X.K = K) : IxR X (rIxL K) := h ▸ ix_list
theorem sl_tupK (h : X.K = K) : SlR X (rSlA K) := h ▸ sl_tupA
theorem sl_listK (h : X.K = K) : SlR X (rSlL K) := h ▸ sl_list
theorem op_catK (h : X.K = K) : OpR X (binaryOp .Add) (rCatA K) := h ▸ op_catA
theorem op_inK (h : X.K = K) : OpR X (compareOp .In) (rIn K false) := h ▸ op_in_seq
theorem op_notInK (h : X.K = K) : OpR X (compareOp .NotIn) (rIn K true) := h ▸ op_notIn_seq
theorem op_eqDK (h : X.K = K) (hu : X.A.units + 64 < cLine) : OpR X (compareOp .Eq) (rEqD K) := h ▸ op_eqD hu
theorem op_neDK (h : X.K = K) (hu : X.A.units + 64 < cLine) : OpR X (compareOp .NotEq) (rNeD K) := h ▸ op_neD hu
theorem pg_tupK {es : List Expr} {k : Nat} {pos : Pos} {t : TGs} {n : Nat} (hK : X.K = K) (hc : X.calm = true) (h : PGs X es t)
    (hn : (assignEach es X.env).length = n := by rfl) (hst : (assignEach es X.env).findIdx? (fun z => z.1) = none := by rfl) : PG X (.Tuple es k pos) (gTup K n t) := hK ▸ pg_tup hc h hn hst
end
end An
namespace An
open PySem L2
def topS (i : Nat) : Stmt := PySem.Challenge.pw_anyspan_k03_whole_longest_rows.main.body.getD i (.Pass ⟨0, 0, 0, 0⟩)
abbrev S_SpanError : Stmt := topS 1
abbrev S_NoRules : Stmt := topS 2
abbrev S_is_from : Stmt := topS 6
abbrev S_is_rule : Stmt := topS 7
abbrev S_are_rules : Stmt := topS 8
abbrev S_need_rules : Stmt := topS 9
abbrev S_widest : Stmt := topS 10
abbrev S_broken_by : Stmt := topS 11
abbrev S_next_tail : Stmt := topS 12
abbrev S_ways_on : Stmt := topS 14
abbrev S_ranks_from : Stmt := topS 15
abbrev S_longest : Stmt := topS 17
abbrev S_longest_row : Stmt := topS 18
abbrev S__law_deck : Stmt := topS 20
abbrev S__law_pick : Stmt := topS 21
abbrev S__law_one : Stmt := topS 22
abbrev S__law_sort : Stmt := topS 23
abbrev S__law_same : Stmt := topS 24
abbrev S__law_rules : Stmt := topS 25
abbrev S__law_fits : Stmt := topS 26
abbrev S__law_ends_at : Stmt := topS 27
abbrev S__law_thinned : Stmt := topS 28
abbrev S_law : Stmt := topS 29
end An
-- imports: X0 B3
/-! ### D1: widest, broken_by, next_tail -/
namespace An
open PySem L2
section
variable {P : Program} {w : World} {K : PySem.W.Frag} {mg : Str → Option Value} {base : Heap}
/-! #### widest -/
def N_widest : List Str := ["rules"]
theorem sc_widest : FnScope N_widest ["rules"] (defScope S_widest) := ⟨rfl, rfl, rfl, by decide +kernel, rfl, by decide +kernel, by decide +kernel⟩
def spWidest : Sp := fun vs H Q _ => ∃ rv rs, vs = [rv] ∧ RulesAt H rv rs ∧ RulesOk rs ∧ Q (.int (wd rs)) H
theorem ok_widest (D : Dn K mg "widest" S_widest) : Cl P w K mg base 1 "widest" spWidest := by
  refine D.ok sc_widest (fun vs H Q E h => ?_) (fun _ _ _ _ _ _ us hl => match us, hl with | [_], _ => rfl) (fun f cdv A outer s H vs Q E hr h => ?_)
  · obtain ⟨rv, rs, rfl, _⟩ := h; rfl
  · obtain ⟨rv, rs, rfl, ⟨a, xs, rfl, ha, pr⟩, ok, k⟩ := h
    have nd := sc_widest.nd
    refine ⟨_, (pss_one (ps_ret (pe_ix ix_tup (pe_ix ix_tup (pv 0) (pe_un un_neg pe_int) (fun _ _ => rfl)) pe_int (fun _ _ => rfl)))), ?_⟩
    obtain ⟨r, hr, e, hl⟩ := wd_mem ok.some
    have hlen := Paired.len pr
    have hne : 0 < rs.length := List.length_pos_iff.mpr ok.some
    have hrl : rs[rs.length - 1]? = some r := by rw [← hl, List.getLast?_eq_getElem?]
    obtain ⟨v, hv, ⟨b, rfl, hb⟩⟩ := Paired.get' pr hrl
    refine ⟨_, rfl, _, rfl, a, xs, -1, .ref b, rfl, rfl, SqT.of ha, ?_, ?_⟩
    · rw [← hlen] at hv
      show (ixN xs.length (-1)).bind _ = _
      have : ixN xs.length (-1) = some (xs.length - 1) := by
        unfold ixN
        rw [if_neg (by decide), if_pos (by omega)]
        congr 1; omega
      rw [this]
      exact hv
    · refine ⟨b, _, 0, .int r.1, rfl, rfl, SqT.of hb, rfl, ?_⟩
      show Q (.int r.1) H
      rw [← e]; exact k
/-! #### broken_by -/
/-- the marks of the window that a place behind the last ones ends -/
def cnt (t : Row) (p s : Int) : Int := (t.drop (t.length + 1 - s.toNat)).sum + p
def bad (t : Row) (p : Int) (r : Rule) : Bool := decide (r.1 ≤ (t.length : Int) + 1) && !(decide (r.2.1 ≤ cnt t p r.1) && decide (cnt t p r.1 ≤ r.2.2))
def brokenBy (rs : List Rule) (t : Row) (p : Int) : Option Rule := rs.find? (bad t p)
def OptRule (H : Hp) (v : V) : Option Rule → Prop
  | none => v = .non
  | some r => RuleAt H v r
theorem find_at {α : Type} {f : α → Bool} : ∀ {l : List α} {i : Nat} {x : α}, l[i]? = some x → f x = true → (∀ (j : Nat) (y : α), j < i → l[j]? = some y → f y = false) → l.find? f = some x
  | [], _, _, h, _, _ => by cases h
  | a :: l, 0, x, h, hx, _ => by cases h; rw [List.find?_cons_of_pos hx]
  | a :: l, i + 1, x, h, hx, hb => by
    rw [List.find?_cons_of_neg (by rw [hb 0 a (Nat.succ_pos _) rfl]; exact Bool.false_ne_true)]
    exact find_at (i := i) (by simpa using h) hx fun j y hj hy => hb (j + 1) y (Nat.succ_lt_succ hj) (by simpa using hy)
def N_broken_by : List Str := ["rules", "tail", "place", "span", "least", "most", "count"]
theorem sc_broken_by : FnScope N_broken_by ["rules", "tail", "place"] (defScope S_broken_by) := ⟨rfl, rfl, rfl, by decide +kernel, rfl, by decide +kernel, by decide +kernel⟩
def spBroken : Sp := fun vs H Q _ => ∃ rv tv rs t p, vs = [rv, tv, .int p] ∧ RulesAt H rv rs ∧ RulesOk rs ∧ TupI H tv t ∧ ∀ v H', Same H H' → OptRule H' v (brokenBy rs t p) → Q v H'
def PvBroken (rs : List Rule) (a c : Addr) (t : Row) (p : Int) (H : Hp) (i : Nat) (σ : L2.St) (H' : Hp) : Prop :=
  Same H H' ∧ (∃ x3 x4 x5 x6, σ = [some (.ref a), some (.ref c), some (.int p), x3, x4, x5, x6]) ∧ ∀ (j : Nat) (r : Rule), j < i → rs[j]? = some r → bad t p r = false
theorem PvBroken.next {rs : List Rule} {a c : Addr} {t : Row} {p : Int} {H : Hp} {i : Nat} {H' : Hp} {r : Rule} {x3 x4 x5 x6 : Option V} (sm : Same H H') (bd : ∀ (j : Nat) (r : Rule), j < i → rs[j]? = some r → bad t p r = false) (hr : rs[i]? = some r) (hb : bad t p r = false) :
    PvBroken rs a c t p H (i + 1) [some (.ref a), some (.ref c), some (.int p), x3, x4, x5, x6] H' := by
  refine ⟨sm, ⟨_, _, _, _, rfl⟩, fun j r' hj hr' => ?_⟩
  by_cases e : j = i
  · subst e; rw [hr] at hr'; cases hr'; exact hb
  · exact bd j r' (by omega) hr'
theorem ok_broken_by (D : Dn K mg "broken_by" S_broken_by) (bf : Bf mg) : Cl P w K mg base 1 "broken_by" spBroken := by
  refine D.ok sc_broken_by (fun vs H Q E h => ?_) (fun _ _ _ _ _ _ us hl => match us, hl with | [_, _, _], _ => rfl) (fun f cdv A outer s H vs Q E hr h => ?_)
  · obtain ⟨rv, tv, rs, t, p, rfl, _⟩ := h; rfl
  · obtain ⟨rv, tv, rs, t, p, rfl, ⟨a, xs, rfl, ha, pr⟩, ok, ⟨c, rfl, hc⟩, k⟩ := h
    have nd := sc_broken_by.nd
    refine ⟨_, (pss_cons (ps_for PassesOwn.never rfl (pi_tup (pv 0)) (pg_tup rfl (pgs_cons (pg_name (i := 3) nd rfl (Or.inl rfl)) (pgs_cons (pg_name (i := 4) nd rfl (Or.inl rfl)) (pgs_cons (pg_name (i := 5) nd rfl (Or.inl rfl)) pgs_nil))))
    (pss_one (ps_if (pt_cmpR op_ge (pe_op op_add (pe_callB call_len_seq rfl bf.len bt_len (pa_cons (pv 1) pa_nil)) pe_int) (pv 3) (nomark _))
    (pss_cons (ps_set (i := 6) nd rfl (Or.inl rfl) (pe_op op_add (pe_callB (cr_sumT rfl) rfl bf.sum bt_sum (pa_cons (pe_slice sl_tupA (pv 1) (po_some (pe_op op_sub (pe_op op_add (pe_callB call_len_seq rfl bf.len bt_len (pa_cons (pv 1) pa_nil)) pe_int) (pv 3))) po_none) pa_nil)) (pv 2)))
    (pss_one (ps_if (pt_not (pt_chain op_le op_le (pv 4) (pv 6) (pv 5)))
    (pss_one (ps_ret (pe_tup (pa_cons (pv 3) (pa_cons (pv 4) (pa_cons (pv 5) pa_nil))))))
    pss_nil)))
    pss_nil)))
    (pss_one (ps_ret pe_non))), ?_⟩
    refine ⟨_, rfl, a, rfl, ⟨_, SqT.of ha⟩, for_tup (xs := xs) (PvBroken rs a c t p H) ⟨Same.refl H, ⟨none, none, none, none, rfl⟩, fun j r hj => absurd hj (Nat.not_lt_zero _)⟩ (fun i σ H' _ h => SqT.of (h.1 _ _ ha)) ?_ ?_⟩
    · rintro i x σ H' hi ⟨sm, ⟨x3, x4, x5, x6, rfl⟩, bd⟩
      obtain ⟨r, hri, ⟨b, rfl, hb⟩⟩ := Paired.get pr hi
      have hc' := sm _ _ hc
      have ro := ok.one r (List.mem_of_getElem? hri)
      refine ⟨b, _, rfl, SqT.of (sm _ _ hb), rfl, _, _, rfl, _, _, rfl, _, _, rfl, rfl, ?_⟩
      refine ⟨_, rfl, c, _, rfl, .inr (SqT.of hc'), _, _, rfl, rfl, _, rfl, _, _, rfl, rfl, _, rfl, ?_⟩
      refine ite2 (fun hge => ?_) (fun hlt => ?_)
      · rw [List.length_map, decide_eq_true_eq] at hge
        refine ⟨_, rfl, _, rfl, c, _, rfl, .inr (SqT.of hc'), _, _, rfl, rfl, _, rfl, _, _, rfl, rfl, _, rfl, ?_⟩
        refine sl_fromN (k := t.length + 1 - r.1.toNat) ?e hc' fun q H2 sm2 hq => ?_
        case e => rw [List.length_map]; omega
        rw [← List.map_drop] at hq
        refine ⟨q, _, rfl, SqT.of hq, _, rfl, _, _, rfl, rfl, ?_⟩
        have sm3 := sm.trans sm2
        have eb : bad t p r = !(decide (r.2.1 ≤ cnt t p r.1) && decide (cnt t p r.1 ≤ r.2.2)) := by
          unfold bad
          rw [decide_eq_true hge, Bool.true_and]
        have give : bad t p r = true → ∀ q, H2 q = none → Q (.ref q) (upd H2 q (.tup [.int r.1, .int r.2.1, .int r.2.2])) := fun hb q hq => by
          refine k _ _ (sm3.trans (Same.new hq)) ?_
          rw [show brokenBy rs t p = some r from find_at hri hb bd]
          exact ⟨q, rfl, upd_same⟩
        refine ⟨_, rfl, _, rfl, _, _, rfl, rfl, _, rfl, ?_⟩
        show if decide (r.2.1 ≤ cnt t p r.1) = true then _ else _
        refine ite2 (fun h1 => ?_) (fun h1 => ?_)
        · refine ⟨_, rfl, _, _, rfl, rfl, _, rfl, ?_⟩
          show if (!decide (cnt t p r.1 ≤ r.2.2)) = true then _ else _
          refine ite2 (fun h2 => ?_) (fun h2 => ?_)
          · refine ⟨_, rfl, _, rfl, _, rfl, sz (by show 3 ≤ 100000; decide), give ?_⟩
            rw [eb, h1, Bool.true_and]; exact h2
          · exact PvBroken.next sm3 bd hri (by rw [eb, h1]; simpa using h2)
        · refine ⟨_, rfl, iteT ⟨_, rfl, _, rfl, _, rfl, sz (by show 3 ≤ 100000; decide), give ?_⟩⟩
          rw [eb, Bool.not_eq_true] at *
          rw [h1]; rfl
      · rw [List.length_map, decide_eq_true_eq] at hlt
        refine PvBroken.next sm bd hri ?_
        unfold bad
        rw [decide_eq_false (by omega)]; rfl
    · rintro σ H' ⟨sm, _, bd⟩
      refine k _ _ sm ?_
      have : brokenBy rs t p = none := by
        unfold brokenBy
        rw [List.find?_eq_none]
        intro r hr
        obtain ⟨j, hj, e⟩ := List.getElem_of_mem hr
        rw [bd j r (by rw [Paired.len pr]; exact hj) (by rw [List.getElem?_eq_getElem hj, e])]; exact Bool.false_ne_true
      rw [this]; rfl
/-! #### next_tail -/
def nextTail (wide : Int) (t : Row) (p : Int) : Row := (t ++ [p]).drop (t.length + 2 - wide.toNat)
def N_next_tail : List Str := ["wide", "tail", "place", "more"]
theorem sc_next_tail : FnScope N_next_tail ["wide", "tail", "place"] (defScope S_next_tail) := ⟨rfl, rfl, rfl, by decide +kernel, rfl, by decide +kernel, by decide +kernel⟩
def spNext : Sp := fun vs H Q _ => ∃ tv wide t p, vs = [.int wide, tv, .int p] ∧ TupI H tv t ∧ t.length ≤ 1000 ∧ 1 ≤ wide ∧ wide ≤ 8 ∧ ∀ v H', Same H H' → TupI H' v (nextTail wide t p) → Q v H'
theorem ok_next_tail (D : Dn K mg "next_tail" S_next_tail) (bf : Bf mg) : Cl P w K mg base 1 "next_tail" spNext := by
  refine D.ok sc_next_tail (fun vs H Q E h => ?_) (fun _ _ _ _ _ _ us hl => match us, hl with | [_, _, _], _ => rfl) (fun f cdv A outer s H vs Q E hr h => ?_)
  · obtain ⟨tv, wide, t, p, rfl, _⟩ := h; rfl
  · obtain ⟨tv, wide, t, p, rfl, ⟨c, rfl, hc⟩, hz, h1, h8, k⟩ := h
    have nd := sc_next_tail.nd
    refine ⟨_, (pss_cons (ps_set (i := 3) nd rfl (Or.inl rfl) (pe_op op_catA (pv 1) (pe_tup (pa_cons (pv 2) pa_nil))))
    (pss_one (ps_ret (pe_slice sl_tupA (pv 3) (po_some (pe_callB (call_max2 rfl) rfl bf.max bt_max (pa_cons pe_int (pa_cons (pe_op op_add (pe_op op_sub (pe_callB call_len_seq rfl bf.len bt_len (pa_cons (pv 3) pa_nil)) (pv 0)) pe_int) pa_nil)))) po_none)))), ?_⟩
    refine ⟨_, rfl, _, rfl, sz (by show 1 ≤ 100000; decide), fun q hq => ?_⟩
    have sm := Same.new (o := .tup [.int p]) hq
    refine cat_any (sm _ _ hc) upd_same (by rw [List.length_map, List.length_singleton]; omega) fun q2 H2 sm2 h2 => ?_
    have h2 : H2 q2 = some (.tup ((t ++ [p]).map V.int)) := by rw [List.map_append]; exact h2
    refine ⟨_, rfl, _, rfl, q2, _, rfl, .inr (SqT.of h2), _, rfl, _, _, rfl, rfl, _, _, rfl, rfl, _, _, rfl, _, rfl, ?_⟩
    refine sl_fromN (k := t.length + 2 - wide.toNat) ?e h2 fun q3 H3 sm3 h3 => ?_
    case e =>
      rw [List.length_map, List.length_append, List.length_singleton]
      split <;> omega
    refine k _ _ ((sm.trans sm2).trans sm3) ⟨q3, rfl, ?_⟩
    rw [h3]; unfold nextTail; rw [List.map_drop]
end
end An
-- imports: D1
/-! ### D2: is_from, is_rule, are_rules, need_rules -/
namespace An
open PySem L2
/-! #### the kinds that are asked for -/
inductive Kd (H : Hp) : V → String → Prop where
  | non : Kd H .non "NoneType"
  | bl (b : Bool) : Kd H (.bl b) "bool"
  | int (i : Int) : Kd H (.int i) "int"
  | str (x : Str) : Kd H (.str x) "str"
  | lst {a : Addr} {xs : List V} (e : H a = some (.lst xs)) : Kd H (.ref a) "list"
  | tup {a : Addr} {xs : List V} (e : H a = some (.tup xs)) : Kd H (.ref a) "tuple"
theorem Kd.ty {K : PySem.W.Frag} {H : Hp} {x : V} {t : String} (k : Kd H x t) : TyX K H x (.type t) := by
  cases k with
  | non => exact .base .non
  | bl b => exact .base (.bl b)
  | int i => exact .base (.int i)
  | str s => exact .base (.str s)
  | lst e => exact .base (.lst e)
  | tup e => exact .base (.tup e)
theorem isi_of {K : PySem.W.Frag} {σ : L2.St} {H : Hp} {x : V} {t c : String} {b : Bool} {Q : VK} (k : Kd H x t) (h : kitB t c = some b) (q : Q (.bl b) H) : tCons (tC (.ty c)) tNil σ H fun xs H2 => rIsi K (x :: xs) H2 Q :=
  ⟨x, .ty c, .type t, .type c, b, rfl, .ty c, k.ty, kit_ty h, q⟩
section
variable {P : Program} {w : World} {K : PySem.W.Frag} {mg : Str → Option Value} {base : Heap}
/-! #### is_from -/
def isFrom (x : V) (lo hi : Int) : Bool := match x with
  | .int n => decide (lo ≤ n) && decide (n ≤ hi)
  | _ => false
def N_is_from : List Str := ["thing", "low", "high"]
theorem sc_is_from : FnScope N_is_from ["thing", "low", "high"] (defScope S_is_from) := ⟨rfl, rfl, rfl, by decide +kernel, rfl, by decide +kernel, by decide +kernel⟩
def spIsFrom : Sp := fun vs H Q _ => ∃ x t lo hi, vs = [x, .int lo, .int hi] ∧ Kd H x t ∧ Q (.bl (isFrom x lo hi)) H
theorem ok_is_from (D : Dn K mg "is_from" S_is_from) (bf : Bf mg) : Cl P w K mg base 1 "is_from" spIsFrom := by
  refine D.ok sc_is_from (fun vs H Q E h => ?_) (fun _ _ _ _ _ _ us hl => match us, hl with | [_, _, _], _ => rfl) (fun f cdv A outer s H vs Q E hr h => ?_)
  · obtain ⟨x, t, lo, hi, rfl, _⟩ := h; rfl
  · obtain ⟨x, t, lo, hi, rfl, kd, k⟩ := h
    have nd := sc_is_from.nd
    refine ⟨_, (pss_one (ps_ret (pe_and (pe_callB call_isi rfl bf.isinstance bt_isinstance (pa_cons (pv 0) (pa_cons (pe_bltn (v := .ty "int") rfl bf.int bt_int rfl) pa_nil))) (pe_and (pe_not (pe_callB call_isi rfl bf.isinstance bt_isinstance (pa_cons (pv 0) (pa_cons (pe_bltn (v := .ty "bool") rfl bf.bool bt_bool rfl) pa_nil)))) (pe_one (pe_chain op_le op_le (pv 1) (pv 0) (pv 2))))))), ?_⟩
    cases kd with
    | non => exact ⟨_, rfl, isi_of .non (b := false) (by decide +kernel) ⟨_, rfl, k⟩⟩
    | str z => exact ⟨_, rfl, isi_of (.str z) (b := false) (by decide +kernel) ⟨_, rfl, k⟩⟩
    | lst e => exact ⟨_, rfl, isi_of (.lst e) (b := false) (by decide +kernel) ⟨_, rfl, k⟩⟩
    | tup e => exact ⟨_, rfl, isi_of (.tup e) (b := false) (by decide +kernel) ⟨_, rfl, k⟩⟩
    | bl b => exact ⟨_, rfl, isi_of (.bl b) (b := true) (by decide +kernel) ⟨_, rfl, iteT ⟨_, rfl, isi_of (.bl b) (b := true) (by decide +kernel) ⟨_, rfl, _, rfl, iteF k⟩⟩⟩⟩
    | int n =>
      refine ⟨_, rfl, isi_of (.int n) (b := true) (by decide +kernel) ⟨_, rfl, iteT ⟨_, rfl, isi_of (.int n) (b := false) (by decide +kernel) ⟨_, rfl, _, rfl, iteT ?_⟩⟩⟩⟩
      refine ⟨_, rfl, _, rfl, _, _, rfl, rfl, _, rfl, ?_⟩
      have k : Q (.bl (decide (lo ≤ n) && decide (n ≤ hi))) H := k
      refine ite2 (fun h1 => ?_) (fun h1 => ?_)
      · rw [h1, Bool.true_and] at k
        exact ⟨_, rfl, _, _, rfl, rfl, k⟩
      · rw [Bool.not_eq_true] at h1
        rw [h1, Bool.false_and] at k
        exact k
/-! #### is_rule -/
def N_is_rule : List Str := ["thing"]
theorem sc_is_rule : FnScope N_is_rule ["thing"] (defScope S_is_rule) := ⟨rfl, rfl, rfl, by decide +kernel, rfl, by decide +kernel, by decide +kernel⟩
def spIsRule : Sp := fun vs H Q _ => ∃ v r, vs = [v] ∧ RuleAt H v r ∧ (1 ≤ r.1 ∧ r.1 ≤ 8 ∧ 0 ≤ r.2.1 ∧ r.2.1 ≤ r.2.2 ∧ r.2.2 ≤ r.1) ∧ ∀ H', Same H H' → Q (.bl true) H'
theorem ok_is_rule (D : Dn K mg "is_rule" S_is_rule) (bf : Bf mg) (c_MOST_SPAN : ∃ t, mg "MOST_SPAN" = some (.int 8 t)) (C_is_from : Cl P w K mg base 1 "is_from" spIsFrom) : Cl P w K mg base 2 "is_rule" spIsRule := by
  refine D.ok sc_is_rule (fun vs H Q E h => ?_) (fun _ _ _ _ _ _ us hl => match us, hl with | [_], _ => rfl) (fun f cdv A outer s H vs Q E hr h => ?_)
  · obtain ⟨v, r, rfl, _⟩ := h; rfl
  · obtain ⟨v, r, rfl, ⟨a, rfl, ha⟩, ⟨r1, r2, r3, r4, r5⟩, k⟩ := h
    have nd := sc_is_rule.nd
    have hr_is_from := hr
    refine ⟨_, (pss_cons (ps_if (PW.pt (pw_or (pt_not (pt_val (pe_callB call_isi rfl bf.isinstance bt_isinstance (pa_cons (pv 0) (pa_cons (pe_bltn (v := .ty "tuple") rfl bf.tuple bt_tuple rfl) pa_nil))))) (pw_or (pt_cmpR op_ne (pe_callB call_len_seq rfl bf.len bt_len (pa_cons (pv 0) pa_nil)) pe_int (nomark _)) (pw_or1 (pt_not (pt_val (pe_callC C_is_from hr_is_from rfl (pa_cons (pe_ix ix_tup (pv 0) pe_int (fun _ _ => rfl)) (pa_cons pe_int (pa_cons (pe_gint rfl c_MOST_SPAN) pa_nil))))))))))
    (pss_one (ps_ret pe_bl))
    pss_nil)
    (pss_one (ps_ret (pe_and (pe_callC C_is_from hr_is_from rfl (pa_cons (pe_ix ix_tup (pv 0) pe_int (fun _ _ => rfl)) (pa_cons pe_int (pa_cons (pe_ix ix_tup (pv 0) pe_int (fun _ _ => rfl)) pa_nil)))) (pe_one (pe_callC C_is_from hr_is_from rfl (pa_cons (pe_ix ix_tup (pv 0) pe_int (fun _ _ => rfl)) (pa_cons pe_int (pa_cons (pe_ix ix_tup (pv 0) pe_int (fun _ _ => rfl)) pa_nil))))))))), ?_⟩
    have yes : ∀ {n lo hi : Int}, lo ≤ n → n ≤ hi → isFrom (.int n) lo hi = true := fun h1 h2 => by
      show (decide _ && decide _) = true
      rw [decide_eq_true h1, decide_eq_true h2]; rfl
    refine ⟨_, rfl, isi_of (.tup ha) (b := true) (by decide +kernel) ⟨_, rfl, iteF ?_⟩⟩
    refine ⟨_, rfl, a, _, rfl, .inr (SqT.of ha), rfl, _, rfl, iteNS rfl ?_⟩
    refine ⟨_, rfl, a, _, 0, .int r.1, rfl, rfl, SqT.of ha, rfl, _, _, _, _, rfl, .int _, _, rfl, ?_⟩
    rw [yes r1 r2]
    refine iteF ?_
    refine ⟨_, rfl, a, _, 2, .int r.2.2, rfl, rfl, SqT.of ha, rfl, _, rfl, a, _, 0, .int r.1, rfl, rfl, SqT.of ha, rfl, _, _, _, _, rfl, .int _, _, rfl, ?_⟩
    rw [yes (Int.le_trans r3 r4) r5]
    refine iteT ?_
    refine ⟨_, rfl, a, _, 1, .int r.2.1, rfl, rfl, SqT.of ha, rfl, _, rfl, a, _, 2, .int r.2.2, rfl, rfl, SqT.of ha, rfl, _, _, _, _, rfl, .int _, ?_⟩
    rw [yes r3 r4]
    exact k H (Same.refl H)
/-! #### are_rules -/
def N_are_rules : List Str := ["thing", "one", "other"]
theorem sc_are_rules : FnScope N_are_rules ["thing"] (defScope S_are_rules) := ⟨rfl, rfl, rfl, by decide +kernel, rfl, by decide +kernel, by decide +kernel⟩
def spAreRules : Sp := fun vs H Q _ => ∃ v rs, vs = [v] ∧ RulesAt H v rs ∧ RulesOk rs ∧ ∀ H', Same H H' → Q (.bl true) H'
theorem ok_are_rules (D : Dn K mg "are_rules" S_are_rules) (bf : Bf mg) (c_MOST_RULES : ∃ t, mg "MOST_RULES" = some (.int 5 t)) (C_is_rule : Cl P w K mg base 2 "is_rule" spIsRule) : Cl P w K mg base 3 "are_rules" spAreRules := by
  refine D.ok sc_are_rules (fun vs H Q E h => ?_) (fun _ _ _ _ _ _ us hl => match us, hl with | [_], _ => rfl) (fun f cdv A outer s H vs Q E hr h => ?_)
  · obtain ⟨v, rs, rfl, _⟩ := h; rfl
  · obtain ⟨v, rs, rfl, ⟨a, xs, rfl, ha, pr⟩, ok, k⟩ := h
    have nd := sc_are_rules.nd
    have hr_is_rule := hr
    refine ⟨_, (pss_cons (ps_if (PW.pt (pw_or (pt_not (pt_val (pe_callB call_isi rfl bf.isinstance bt_isinstance (pa_cons (pv 0) (pa_cons (pe_bltn (v := .ty "tuple") rfl bf.tuple bt_tuple rfl) pa_nil))))) (pw_or (pt_not (pt_chain op_le op_le pe_int (pe_callB call_len_seq rfl bf.len bt_len (pa_cons (pv 0) pa_nil)) (pe_gint rfl c_MOST_RULES))) (pw_or1 (pt_not (pt_val (pe_callB (cr_all rfl) rfl bf.all bt_all (pa_cons (pe_lc (own := [("one", 1)]) rfl nd (pi_tup (pv 0)) (blkOk_by (own := [("one", 1)]) (N := N_are_rules) (sc := defScope S_are_rules) (by decide +kernel)) (fun _ _ _ _ _ => (pg_name (i := 1) nd rfl (Or.inl rfl) (Or.inr rfl))) (fun _ _ _ _ _ => pts_nil) (fun _ _ _ _ _ => (pe_callC C_is_rule hr_is_rule rfl (pa_cons (pv 1) pa_nil)))) pa_nil))))))))
    (pss_one (ps_ret pe_bl))
    pss_nil)
    (pss_one (ps_ret (pe_callB (cr_all rfl) rfl bf.all bt_all (pa_cons (pe_lc (own := [("one", 1), ("other", 2)]) rfl nd (RZ.pi_zipA rfl bf.zip (pa_cons (pv 0) (pa_cons (pe_slice sl_tupA (pv 0) (po_some pe_int) po_none) pa_nil))) (blkOk_by (own := [("one", 1), ("other", 2)]) (N := N_are_rules) (sc := defScope S_are_rules) (by decide +kernel)) (fun _ _ _ _ _ => (pg_tupK (K := K) (n := 2) rfl rfl (pgs_cons (pg_name (i := 1) nd rfl (Or.inl rfl) (Or.inr rfl)) (pgs_cons (pg_name (i := 2) nd rfl (Or.inl rfl) (Or.inr rfl)) pgs_nil)))) (fun _ _ _ _ _ => pts_nil) (fun _ _ _ _ _ => (pe_cmpR op_lt (pe_ix (ix_tupK (K := K) rfl) (pv 1) pe_int (fun _ _ => rfl)) (pe_ix (ix_tupK (K := K) rfl) (pv 2) pe_int (fun _ _ => rfl)) (nomark _)))) pa_nil))))), ?_⟩
    have hl := Paired.len pr
    have h1 := List.length_pos_iff.mpr ok.some
    have h5 := ok.few
    refine ⟨_, rfl, isi_of (.tup ha) (b := true) (by decide +kernel) ⟨_, rfl, iteF ?_⟩⟩
    refine ⟨_, rfl, a, _, rfl, .inr (SqT.of ha), _, _, rfl, rfl, _, rfl, ?_⟩
    rw [decide_eq_true (show (1 : Int) ≤ (xs.length : Nat) by omega)]
    refine iteT ⟨_, _, rfl, rfl, _, rfl, ?_⟩
    rw [decide_eq_true (show ((xs.length : Nat) : Int) ≤ 5 by omega)]
    refine iteF ?_
    refine ⟨_, rfl, a, rfl, ⟨_, SqT.of ha⟩, fun L hL => lc_it (walk_tup (xs := xs)) (fun i H' => Same H H' ∧ H L = none ∧ H' L = some (.lst (List.replicate i (V.bl true)))) ⟨Same.new hL, hL, upd_same⟩ (fun i H' _ h => SqT.of (h.1 _ _ ha)) ?_ ?_⟩
    · rintro i x H1 H' hi ⟨sm, n0, hD⟩ ⟨rfl, hx⟩
      obtain ⟨r, hri, hrule⟩ := Paired.get pr hx
      refine ⟨rfl, tYes_ ?_⟩
      refine ⟨_, rfl, x, r, rfl, TupI.mono (TS.of sm) hrule, ok.one r (List.mem_of_getElem? hri), fun H2 sm2 => ?_⟩
      refine ⟨_, sm2 _ _ hD, szl (by rw [List.length_replicate]; omega), fun b o e => ?_, n0, ?_⟩
      · rw [upd_ne (ne_of_none e n0)]; exact sm2 _ _ (sm _ _ e)
      · rw [upd_same, ← List.replicate_succ']
    · rintro H' ⟨sm, n0, hD⟩
      refine ⟨L, List.replicate xs.length true, rfl, SqL.of (by rw [List.map_replicate]; exact hD), _, rfl, ?_⟩
      rw [show (List.replicate xs.length true).all id = true by rw [List.all_replicate]; simp]
      refine iteF ?_
      refine ⟨_, rfl, _, rfl, _, rfl, ?_⟩
      refine sl_fromN (k := 1) rfl (sm _ _ ha) fun q H2 sm2 hq => ?_
      have sm3 := sm.trans sm2
      refine ⟨a, q, xs, xs.drop 1, rfl, .inr ⟨SqT.of (sm3 _ _ ha), SqT.of hq, fun M hM => lc_it (walk_zipT rfl) (fun i H' => Same H2 H' ∧ H2 M = none ∧ H' M = some (.lst (List.replicate i (V.bl true)))) ⟨Same.new hM, hM, upd_same⟩ (fun i H' _ h => ⟨SqT.of (h.1 _ _ (sm3 _ _ ha)), SqT.of (h.1 _ _ hq)⟩) ?_ ?_⟩⟩
      · rintro i x H1 H4 hi ⟨s4, n4, hD4⟩ ⟨T, x1, x2, rfl, nT, rfl, e1, e2⟩
        have sT : Same H1 (upd H1 T (.tup [x1, x2])) := Same.new nT
        obtain ⟨r1, g1, b1, rfl, p1⟩ := Paired.get pr e1
        obtain ⟨r2, g2, b2, rfl, p2⟩ := Paired.get pr (show xs[1 + i]? = some x2 by rw [← List.getElem?_drop]; exact e2)
        have up : r1.1 < r2.1 := by
          have h1 := List.getElem?_eq_some_iff.mp g1
          have h2 := List.getElem?_eq_some_iff.mp g2
          obtain ⟨l1, rfl⟩ := h1
          obtain ⟨l2, rfl⟩ := h2
          exact List.pairwise_iff_getElem.mp ok.up i (1 + i) l1 l2 (by omega)
        refine ⟨T, _, rfl, SqT.of upd_same, rfl, _, _, rfl, _, _, rfl, rfl, rfl, tYes_ ?_⟩
        refine ⟨_, rfl, b1, _, 0, .int r1.1, rfl, rfl, SqT.of (sT _ _ (s4 _ _ (sm3 _ _ p1))), rfl, _, rfl, b2, _, 0, .int r2.1, rfl, rfl, SqT.of (sT _ _ (s4 _ _ (sm3 _ _ p2))), rfl, _, _, rfl, rfl, ?_⟩
        dsimp only
        rw [decide_eq_true up]
        refine ⟨_, sT _ _ hD4, szl (by rw [List.length_replicate]; have := Nat.min_le_left xs.length (xs.drop 1).length; omega), fun b o e => ?_, n4, ?_⟩
        · rw [upd_ne (ne_of_none e n4)]; exact sT _ _ (s4 _ _ e)
        · rw [upd_same, ← List.replicate_succ']
      · rintro H4 ⟨s4, n4, hD4⟩
        refine ⟨M, List.replicate _ true, rfl, SqL.of (by rw [List.map_replicate]; exact hD4), ?_⟩
        rw [List.all_replicate]
        have e : (if min xs.length (xs.drop 1).length = 0 then true else id true) = true := by split <;> rfl
        rw [e]
        exact k H4 (sm3.trans s4)
/-! #### need_rules -/
def N_need_rules : List Str := ["rules"]
theorem sc_need_rules : FnScope N_need_rules ["rules"] (defScope S_need_rules) := ⟨rfl, rfl, rfl, by decide +kernel, rfl, by decide +kernel, by decide +kernel⟩
def spNeedRules : Sp := fun vs H Q _ => ∃ v rs, vs = [v] ∧ RulesAt H v rs ∧ RulesOk rs ∧ ∀ H', Same H H' → Q .non H'
theorem ok_need_rules (D : Dn K mg "need_rules" S_need_rules) (C_are_rules : Cl P w K mg base 3 "are_rules" spAreRules) : Cl P w K mg base 4 "need_rules" spNeedRules := by
  refine D.ok sc_need_rules (fun vs H Q E h => ?_) (fun _ _ _ _ _ _ us hl => match us, hl with | [_], _ => rfl) (fun f cdv A outer s H vs Q E hr h => ?_)
  · obtain ⟨v, rs, rfl, _⟩ := h; rfl
  · obtain ⟨v, rs, rfl, hv, ok, k⟩ := h
    have nd := sc_need_rules.nd
    have hr_are_rules := hr
    refine ⟨_, (pss_one (ps_if (pt_not (pt_val (pe_callC C_are_rules hr_are_rules rfl (pa_cons (pv 0) pa_nil))))
    (pss_one ps_never)
    pss_nil)), ?_⟩
    exact ⟨_, rfl, v, rs, rfl, hv, ok, fun H' sm => ⟨_, rfl, iteF (k H' sm)⟩⟩
end
end An
-- imports: D2
/-! ### D3: ways_on -/
namespace An
open PySem L2
def freeP (rs : List Rule) (t : Row) (p : Int) : Bool := (brokenBy rs t p).isNone
def waysOn (rs : List Rule) (t : Row) : List (Int × Row) := (([0, 1] : List Int).filter (freeP rs t)).map fun p => (p, nextTail (wd rs) t p)
def WayAt (H : Hp) (v : V) (e : Int × Row) : Prop := ∃ a b, v = .ref a ∧ H a = some (.tup [.int e.1, .ref b]) ∧ H b = some (.tup (e.2.map V.int))
theorem WayAt.mono {H H' : Hp} {v : V} {e : Int × Row} (t : TS H H') (h : WayAt H v e) : WayAt H' v e := let ⟨a, b, e1, h1, h2⟩ := h; ⟨a, b, e1, t _ _ h1, t _ _ h2⟩
theorem OptRule.isN {H : Hp} {v : V} {o : Option Rule} (h : OptRule H v o) : decide (v = .non) = o.isNone := by
  cases o with
  | none => have e : v = .non := h; subst e; exact decide_eq_true rfl
  | some r => obtain ⟨a, e, _⟩ := h; subst e; exact decide_eq_false fun z => nomatch z
theorem filter_take {α : Type} (f : α → Bool) (l : List α) (i : Nat) (x : α) (h : l[i]? = some x) : (l.take (i + 1)).filter f = (l.take i).filter f ++ (if f x then [x] else []) := by
  rw [List.take_add_one, h, List.filter_append]
  congr 1
  cases e : f x
  · simp [e]
  · simp [e]
section
variable {P : Program} {w : World} {K : PySem.W.Frag} {mg : Str → Option Value} {base : Heap}
def N_ways_on : List Str := ["rules", "tail", "found", "place"]
theorem sc_ways_on : FnScope N_ways_on ["rules", "tail"] (defScope S_ways_on) := ⟨rfl, rfl, rfl, by decide +kernel, rfl, by decide +kernel, by decide +kernel⟩
def spWays : Sp := fun vs H Q _ => ∃ rv tv rs t, vs = [rv, tv] ∧ RulesAt H rv rs ∧ RulesOk rs ∧ TupI H tv t ∧ t.length ≤ 1000 ∧
  ∀ p H' xs, H p = none → Same H H' → H' p = some (.lst xs) → Paired (WayAt H') xs (waysOn rs t) → Q (.ref p) H'
def PvWays (rs : List Rule) (t : Row) (rv tv : V) (L c : Addr) (H : Hp) (i : Nat) (σ : L2.St) (H' : Hp) : Prop :=
  ∃ xs x3, Same H H' ∧ H L = none ∧ σ = [some rv, some tv, some (.ref L), x3] ∧ H' c = some (.tup [.int 0, .int 1]) ∧ H' L = some (.lst xs) ∧ Paired (WayAt H') xs (((([0, 1] : List Int).take i).filter (freeP rs t)).map fun p => (p, nextTail (wd rs) t p))
theorem ok_ways_on (D : Dn K mg "ways_on" S_ways_on) (bf : Bf mg) (C_broken_by : Cl P w K mg base 1 "broken_by" spBroken) (C_next_tail : Cl P w K mg base 1 "next_tail" spNext) (C_widest : Cl P w K mg base 1 "widest" spWidest) :
    Cl P w K mg base 2 "ways_on" spWays := by
  refine D.ok sc_ways_on (fun vs H Q E h => ?_) (fun _ _ _ _ _ _ us hl => match us, hl with | [_, _], _ => rfl) (fun f cdv A outer s H vs Q E hr h => ?_)
  · obtain ⟨rv, tv, rs, t, rfl, _⟩ := h; rfl
  · obtain ⟨rv, tv, rs, t, rfl, hR, ok, hT, hz, k⟩ := h
    have nd := sc_ways_on.nd
    have hr_broken_by := hr
    have hr_next_tail := hr
    have hr_widest := hr
    refine ⟨_, (pss_cons (ps_set (i := 2) nd rfl (Or.inl rfl) (pe_lst pa_nil))
    (pss_cons (ps_for PassesOwn.never rfl (pi_tup (pe_tup (pa_cons pe_int (pa_cons pe_int pa_nil)))) (pg_name (i := 3) nd rfl (Or.inl rfl))
    (pss_one (ps_if (pt_cmpR op_isN (pe_callC C_broken_by hr_broken_by rfl (pa_cons (pv 0) (pa_cons (pv 1) (pa_cons (pv 3) pa_nil)))) pe_non (nomark _))
    (pss_one (ps_expr (pe_bm PySem.F.plainAttrs_list PySem.F.slot_list_append PySem.F.type_list_append mt_append (pv 2) (pa_cons (pe_tup (pa_cons (pv 3) (pa_cons (pe_callC C_next_tail hr_next_tail rfl (pa_cons (pe_callC C_widest hr_widest rfl (pa_cons (pv 0) pa_nil)) (pa_cons (pv 1) (pa_cons (pv 3) pa_nil)))) pa_nil))) pa_nil))))
    pss_nil)))
    (pss_one (ps_ret (pv 2))))), ?_⟩
    refine ⟨sz (by show 0 ≤ 100000; decide), fun L hL => ?_⟩
    have s1 : Same H (upd H L (.lst [])) := Same.new hL
    refine ⟨sz (by show 2 ≤ 100000; decide), fun c hc => ?_⟩
    have s2 := s1.trans (Same.new (o := .tup [.int 0, .int 1]) hc)
    have hL2 : upd (upd H L (.lst [])) c (.tup [.int 0, .int 1]) L = some (.lst []) := by
      rw [upd_ne (ne_of_none upd_same hc)]; exact upd_same
    refine ⟨c, rfl, ⟨_, SqT.of upd_same⟩, for_tup (xs := [.int 0, .int 1]) (PvWays rs t rv tv L c H) ⟨[], none, s2, hL, rfl, upd_same, hL2, .nil⟩ (fun i σ H' _ ⟨_, _, _, _, _, h, _⟩ => SqT.of h) ?_ ?_⟩
    · rintro i x σ H' hi ⟨xs, x3, sm, hL0, rfl, hc', hL', pr⟩
      obtain ⟨p, hp, rfl⟩ : ∃ p : Int, ([0, 1] : List Int)[i]? = some p ∧ x = .int p := by
        match i, hi with
        | 0, h => cases h; exact ⟨0, rfl, rfl⟩
        | 1, h => cases h; exact ⟨1, rfl, rfl⟩
      have hl2 : i < 2 := (List.getElem?_eq_some_iff.mp hp).1
      have hxl : xs.length ≤ 2 := by
        rw [Paired.len pr, List.length_map]
        exact Nat.le_trans (List.length_filter_le _ _) (by rw [List.length_take]; exact Nat.min_le_right _ _)
      have hR' := RulesAt.mono (TS.of sm) hR
      have hT' := TupI.mono (TS.of sm) hT
      have ft := filter_take (freeP rs t) _ i p hp
      refine ⟨_, rfl, _, rfl, _, rfl, rv, tv, rs, t, p, rfl, hR', ok, hT', fun v H2 sm2 ov => ⟨rfl, _, rfl, ?_⟩⟩
      rw [OptRule.isN ov]
      have sm3 := sm.trans sm2
      refine ite2 (fun hf => ?_) (fun hf => ?_)
      · have hf' : freeP rs t p = true := hf
        have wide := ok.wide
        refine ⟨_, rfl, .inl ⟨rfl, _, SqL.of (sm2 _ _ hL')⟩, _, rfl, _, rfl, rv, rs, rfl, RulesAt.mono (TS.of sm2) hR', ok, _, rfl, _, rfl, tv, wd rs, t, p, rfl, TupI.mono (TS.of sm2) hT', hz, wide.1, wide.2, fun v3 H3 sm4 hv3 => ?_⟩
        obtain ⟨b, rfl, hb⟩ := hv3
        refine ⟨sz (by show 2 ≤ 100000; decide), fun q hq => ?_⟩
        have sq : Same H3 (upd H3 q (.tup [.int p, .ref b])) := Same.new hq
        have hL3 := sq _ _ (sm4 _ _ (sm2 _ _ hL'))
        have tq : TS (upd H3 q (.tup [.int p, .ref b])) (upd (upd H3 q (.tup [.int p, .ref b])) L (.lst (xs ++ [.ref q]))) := TS.lst hL3
        refine ⟨L, xs, _, rfl, rfl, hL3, szl (by omega), xs ++ [.ref q], _, fun z o e => ?_, hL0, rfl, tq _ _ (sq _ _ (sm4 _ _ (sm2 _ _ hc'))), upd_same, ?_⟩
        · rw [upd_ne (ne_of_none e hL0)]; exact sq _ _ (sm4 _ _ (sm3 _ _ e))
        · rw [ft, hf', if_pos rfl, List.map_append]
          refine Paired.snoc1 (Paired.mp pr fun _ _ z => WayAt.mono (TS.trans (TS.of (sm2.trans (sm4.trans sq))) tq) z) ⟨q, b, rfl, tq _ _ upd_same, tq _ _ (sq _ _ hb)⟩
      · have hf' : freeP rs t p = false := by rw [Bool.not_eq_true] at hf; exact hf
        refine ⟨xs, _, sm3, hL0, rfl, sm2 _ _ hc', sm2 _ _ hL', ?_⟩
        rw [ft, hf', if_neg Bool.false_ne_true, List.append_nil]
        exact Paired.mp pr fun _ _ z => WayAt.mono (TS.of sm2) z
    · rintro σ H' ⟨xs, x3, sm, hL0, rfl, hc', hL', pr⟩
      exact ⟨_, rfl, k L H' xs hL0 sm hL' pr⟩
end
end An
-- imports: D3
/-! ### M1: what can follow some last places, in plain Lean -/
namespace An
open PySem L2
def succs (rs : List Rule) (t : Row) : List Row := (waysOn rs t).map (fun e => e.2)
/-- whether n places can follow -/
def ext (rs : List Rule) : Nat → Row → Bool
  | 0, _ => true
  | n + 1, t => (succs rs t).any (ext rs n)
theorem ext_pred (rs : List Rule) : ∀ (n : Nat) (t : Row), ext rs (n + 1) t = true → ext rs n t = true
  | 0, _, _ => rfl
  | n + 1, t, h => by
    obtain ⟨u, hu, e⟩ := List.any_eq_true.mp (show (succs rs t).any (ext rs (n + 1)) = true from h)
    exact List.any_eq_true.mpr ⟨u, hu, ext_pred rs n u e⟩
theorem ext_le (rs : List Rule) {n : Nat} (t : Row) (h : ext rs n t = true) : ∀ {m : Nat}, m ≤ n → ext rs m t = true := by
  induction n with
  | zero => intro m hm; rw [Nat.le_zero.mp hm]; rfl
  | succ n ih =>
    intro m hm
    rcases Nat.lt_or_ge m (n + 1) with z | z
    · exact ih (ext_pred rs n t h) (Nat.le_of_lt_succ z)
    · rw [Nat.le_antisymm hm z]; exact h
def IsRk (rs : List Rule) (t : Row) (n : Nat) : Prop := ext rs n t = true ∧ ext rs (n + 1) t = false
theorem IsRk.uniq {rs : List Rule} {t : Row} {n m : Nat} (a : IsRk rs t n) (b : IsRk rs t m) : n = m := by
  rcases Nat.lt_trichotomy n m with z | z | z
  · have := ext_le rs t b.1 z
    rw [a.2] at this; cases this
  · exact z
  · have := ext_le rs t a.1 z
    rw [b.2] at this; cases this
theorem IsRk.not_inf {rs : List Rule} {t : Row} {n : Nat} (a : IsRk rs t n) (h : ∀ n, ext rs n t = true) : False := by
  have := h (n + 1)
  rw [a.2] at this; cases this
/-- the rank by those of what comes -/
theorem IsRk.of_succs {rs : List Rule} {t : Row} {r : Row → Nat} {m : Nat} (h : ∀ u ∈ succs rs t, IsRk rs u (r u)) (h0 : succs rs t = [] → m = 0) (h1 : ∀ u ∈ succs rs t, r u + 1 ≤ m) (h2 : succs rs t ≠ [] → ∃ u ∈ succs rs t, m = r u + 1) : IsRk rs t m := by
  by_cases e : succs rs t = []
  · rw [h0 e]
    exact ⟨rfl, by show (succs rs t).any _ = false; rw [e]; rfl⟩
  · obtain ⟨u, hu, rfl⟩ := h2 e
    refine ⟨List.any_eq_true.mpr ⟨u, hu, (h u hu).1⟩, ?_⟩
    show (succs rs t).any _ = false
    rw [List.any_eq_false]
    intro v hv hx
    have l := h1 v hv
    have q := ext_le rs v hx (show r v + 1 ≤ r u + 1 by omega)
    rw [(h v hv).2] at q; cases q
theorem ext_inf {rs : List Rule} (S : Row → Prop) (h : ∀ t, S t → ∃ u ∈ succs rs t, S u) : ∀ (n : Nat) (t : Row), S t → ext rs n t = true
  | 0, _, _ => rfl
  | n + 1, t, ht => by
    obtain ⟨u, hu, su⟩ := h t ht
    exact List.any_eq_true.mpr ⟨u, hu, ext_inf S h n u su⟩
inductive Reach (rs : List Rule) (t0 : Row) : Row → Prop where
  | refl : Reach rs t0 t0
  | step {u v : Row} : Reach rs t0 u → v ∈ succs rs u → Reach rs t0 v
theorem Reach.trans {rs : List Rule} {a b c : Row} (h : Reach rs a b) (k : Reach rs b c) : Reach rs a c := by
  induction k with
  | refl => exact h
  | step _ hv ih => exact .step ih hv
/-- last places that count -/
def TailOk (rs : List Rule) (t : Row) : Prop := (∀ x ∈ t, x = 0 ∨ x = 1) ∧ (t.length : Int) + 1 ≤ wd rs
theorem mem_ways {rs : List Rule} {t : Row} {e : Int × Row} : e ∈ waysOn rs t ↔ (e.1 = 0 ∨ e.1 = 1) ∧ freeP rs t e.1 = true ∧ e.2 = nextTail (wd rs) t e.1 := by
  unfold waysOn
  constructor
  · intro h
    obtain ⟨p, hp, rfl⟩ := List.mem_map.mp h
    obtain ⟨h1, h2⟩ := List.mem_filter.mp hp
    exact ⟨by simpa using h1, h2, rfl⟩
  · rintro ⟨h1, h2, h3⟩
    exact List.mem_map.mpr ⟨e.1, List.mem_filter.mpr ⟨by simpa using h1, h2⟩, by rw [← h3]⟩
theorem mem_succs {rs : List Rule} {t u : Row} : u ∈ succs rs t ↔ ∃ p : Int, (p = 0 ∨ p = 1) ∧ freeP rs t p = true ∧ u = nextTail (wd rs) t p := by
  unfold succs
  constructor
  · intro h
    obtain ⟨e, he, rfl⟩ := List.mem_map.mp h
    exact ⟨e.1, mem_ways.mp he⟩
  · rintro ⟨p, h⟩
    exact List.mem_map.mpr ⟨(p, u), mem_ways.mpr h, rfl⟩
theorem nextTail_ok {rs : List Rule} {t : Row} {p : Int} (ok : RulesOk rs) (h : TailOk rs t) (hp : p = 0 ∨ p = 1) : TailOk rs (nextTail (wd rs) t p) := by
  have w := ok.wide
  unfold nextTail
  refine ⟨fun x hx => ?_, ?_⟩
  · have hx := List.mem_of_mem_drop hx
    rcases List.mem_append.mp hx with z | z
    · exact h.1 x z
    · rw [List.mem_singleton.mp z]; exact hp
  · rw [List.length_drop, List.length_append, List.length_singleton]
    have := h.2
    omega
theorem Reach.ok {rs : List Rule} {t0 u : Row} (ok : RulesOk rs) (h0 : TailOk rs t0) (h : Reach rs t0 u) : TailOk rs u := by
  induction h with
  | refl => exact h0
  | step _ hv ih =>
    obtain ⟨p, hp, _, rfl⟩ := mem_succs.mp hv
    exact nextTail_ok ok ih hp
theorem succs_len (rs : List Rule) (t : Row) : (succs rs t).length ≤ 2 := by
  unfold succs waysOn
  rw [List.length_map, List.length_map]
  exact Nat.le_trans (List.length_filter_le _ _) (Nat.le_refl _)
/-! #### how many there are -/
def bitRows : Nat → List Row
  | 0 => [[]]
  | n + 1 => (bitRows n).flatMap fun r => [0 :: r, 1 :: r]
theorem mem_bitRows : ∀ (t : Row), (∀ x ∈ t, x = 0 ∨ x = 1) → t ∈ bitRows t.length
  | [], _ => List.mem_singleton.mpr rfl
  | x :: t, h => by
    show x :: t ∈ (bitRows t.length).flatMap _
    refine List.mem_flatMap.mpr ⟨t, mem_bitRows t fun y hy => h y (List.mem_cons_of_mem _ hy), ?_⟩
    rcases h x List.mem_cons_self with z | z
    · rw [z]; exact List.mem_cons_self
    · rw [z]; exact List.mem_cons_of_mem _ List.mem_cons_self
def allTails : List Row := (List.range 8).flatMap bitRows
theorem allTails_len : allTails.length = 255 := by decide +kernel
theorem mem_allTails {rs : List Rule} {t : Row} (ok : RulesOk rs) (h : TailOk rs t) : t ∈ allTails := by
  have w := ok.wide
  have := h.2
  exact List.mem_flatMap.mpr ⟨t.length, List.mem_range.mpr (by omega), mem_bitRows t h.1⟩
theorem nodup_le {α : Type} [DecidableEq α] : ∀ (l m : List α), l.Nodup → (∀ x ∈ l, x ∈ m) → l.length ≤ m.length
  | [], _, _, _ => Nat.zero_le _
  | a :: l, m, h, hs => by
    obtain ⟨h1, h2⟩ := List.nodup_cons.mp h
    have ha := hs a List.mem_cons_self
    have q := nodup_le l (m.erase a) h2 fun x hx => by
      have ne : x ≠ a := fun e => h1 (e ▸ hx)
      exact (List.mem_erase_of_ne ne).mpr (hs x (List.mem_cons_of_mem _ hx))
    rw [List.length_erase_of_mem ha] at q
    have : 0 < m.length := List.length_pos_of_mem ha
    rw [List.length_cons]; omega
/-! #### tables by last places -/
def key (u : Row) : List Key := u.map Sum.inl
theorem key_map (u : Row) : (key u).map kV = u.map V.int := by
  unfold key; rw [List.map_map]; rfl
theorem key_inj : ∀ {u v : Row}, key u = key v → u = v
  | [], [], _ => rfl
  | [], _ :: _, h => by cases h
  | _ :: _, [], h => by cases h
  | a :: u, b :: v, h => by
    injection h with h1 h2
    injection h1 with h1
    rw [h1, key_inj h2]
end An
-- imports: M1
/-! ### M2: all that comes, and the ranks: the states of both loops, in plain Lean -/
namespace An
open PySem L2
abbrev Lt := List (Row × List Row)
abbrev ks {α : Type} (l : List (Row × α)) : List Row := l.map (fun e => e.1)
theorem ks_snoc {α : Type} (l : List (Row × α)) (e : Row × α) : ks (l ++ [e]) = ks l ++ [e.1] := by simp [ks]
theorem nodup_snoc {α : Type} {l : List α} {a : α} (h : l.Nodup) (n : a ∉ l) : (l ++ [a]).Nodup := by
  rw [List.nodup_append]
  exact ⟨h, List.nodup_cons.mpr ⟨List.not_mem_nil, List.nodup_nil⟩, fun x hx y hy e => n (by rw [List.mem_singleton.mp hy] at e; rw [← e]; exact hx)⟩
structure Bfs (rs : List Rule) (t0 : Row) (ln : List Row) (i : Nat) (lat : Lt) : Prop where
  le : i ≤ ln.length
  nd : (ks lat).Nodup
  val : ∀ e ∈ lat, e.2 = succs rs e.1
  inl : ∀ u ∈ ks lat, u ∈ ln
  reach : ∀ u ∈ ln, Reach rs t0 u
  done : ∀ (j : Nat) (u : Row), j < i → ln[j]? = some u → u ∈ ks lat
  sub : ∀ e ∈ lat, ∀ u ∈ e.2, u ∈ ln
  beg : ln[0]? = some t0
  len : ln.length ≤ 1 + 2 * lat.length
theorem Bfs.start (rs : List Rule) (t0 : Row) : Bfs rs t0 [t0] 0 [] := by
  refine ⟨Nat.zero_le _, List.nodup_nil, fun e h => (by cases h), fun u h => (by cases h), fun u h => ?_, fun j u h => absurd h (Nat.not_lt_zero _), fun e h => (by cases h), rfl, Nat.le_refl _⟩
  rw [List.mem_singleton.mp h]; exact .refl
section
variable {rs : List Rule} {t0 u : Row} {ln : List Row} {i : Nat} {lat : Lt}
theorem Bfs.old (b : Bfs rs t0 ln i lat) (h : ln[i]? = some u) (m : u ∈ ks lat) : Bfs rs t0 ln (i + 1) lat := by
  have hi := (List.getElem?_eq_some_iff.mp h).1
  refine ⟨hi, b.nd, b.val, b.inl, b.reach, fun j v hj hv => ?_, b.sub, b.beg, b.len⟩
  by_cases e : j = i
  · subst e; rw [h] at hv; cases hv; exact m
  · exact b.done j v (by omega) hv
theorem Bfs.new (b : Bfs rs t0 ln i lat) (h : ln[i]? = some u) (m : u ∉ ks lat) : Bfs rs t0 (ln ++ succs rs u) (i + 1) (lat ++ [(u, succs rs u)]) := by
  have hi := (List.getElem?_eq_some_iff.mp h).1
  have hu : u ∈ ln := List.mem_of_getElem? h
  refine ⟨by rw [List.length_append]; omega, ?_, fun e he => ?_, fun v hv => ?_, fun v hv => ?_, fun j v hj hv => ?_, fun e he v hv => ?_, ?_, ?_⟩
  · rw [ks_snoc]; exact nodup_snoc b.nd m
  · rcases List.mem_append.mp he with z | z
    · exact b.val e z
    · rw [List.mem_singleton.mp z]
  · rw [ks_snoc] at hv
    rcases List.mem_append.mp hv with z | z
    · exact List.mem_append_left _ (b.inl v z)
    · rw [List.mem_singleton.mp z]; exact List.mem_append_left _ hu
  · rcases List.mem_append.mp hv with z | z
    · exact b.reach v z
    · exact .step (b.reach u hu) z
  · rw [List.getElem?_append_left (by omega)] at hv
    rw [ks_snoc]
    by_cases e : j = i
    · subst e; rw [h] at hv; cases hv; exact List.mem_append_right _ (List.mem_singleton.mpr rfl)
    · exact List.mem_append_left _ (b.done j v (by omega) hv)
  · rcases List.mem_append.mp he with z | z
    · exact List.mem_append_left _ (b.sub e z v hv)
    · rw [List.mem_singleton.mp z] at hv; exact List.mem_append_right _ hv
  · rw [List.getElem?_append_left (by omega)]; exact b.beg
  · have := b.len
    have := succs_len rs u
    rw [List.length_append, List.length_append, List.length_singleton]; omega
theorem Bfs.few (b : Bfs rs t0 ln i lat) (ok : RulesOk rs) (h0 : TailOk rs t0) : lat.length ≤ 255 := by
  have q := nodup_le (ks lat) allTails b.nd fun x hx => mem_allTails ok (Reach.ok ok h0 (b.reach x (b.inl x hx)))
  rw [allTails_len, List.length_map] at q
  exact q
end
/-- all that comes, each with what comes next -/
structure Closed (rs : List Rule) (t0 : Row) (lat : Lt) : Prop where
  nd : (ks lat).Nodup
  val : ∀ e ∈ lat, e.2 = succs rs e.1
  beg : t0 ∈ ks lat
  sub : ∀ e ∈ lat, ∀ u ∈ e.2, u ∈ ks lat
  few : lat.length ≤ 255
theorem Bfs.closed {rs : List Rule} {t0 : Row} {ln : List Row} {lat : Lt} (b : Bfs rs t0 ln ln.length lat) (ok : RulesOk rs) (h0 : TailOk rs t0) : Closed rs t0 lat := by
  have all : ∀ u ∈ ln, u ∈ ks lat := fun u hu => by
    obtain ⟨j, hj, e⟩ := List.getElem_of_mem hu
    exact b.done j u hj (by rw [List.getElem?_eq_getElem hj, e])
  exact ⟨b.nd, b.val, all _ (List.mem_of_getElem? b.beg), fun e he u hu => all u (b.sub e he u hu), b.few ok h0⟩
theorem Closed.reach {rs : List Rule} {t0 u : Row} {lat : Lt} (c : Closed rs t0 lat) (h : Reach rs t0 u) : u ∈ ks lat := by
  induction h with
  | refl => exact c.beg
  | step _ hv ih =>
    obtain ⟨e, he, rfl⟩ := List.mem_map.mp ih
    exact c.sub e he _ (by rw [c.val e he]; exact hv)
/-! #### ranks -/
abbrev Rk := List (Row × Nat)
structure RkOk (rs : List Rule) (lat : Lt) (rk : Rk) : Prop where
  nd : (ks rk).Nodup
  sub : ∀ u ∈ ks rk, u ∈ ks lat
  val : ∀ e ∈ rk, IsRk rs e.1 e.2
  lt : ∀ e ∈ rk, e.2 < rk.length
theorem RkOk.start (rs : List Rule) (lat : Lt) : RkOk rs lat [] :=
  ⟨List.nodup_nil, fun u h => (by cases h), fun e h => (by cases h), fun e h => (by cases h)⟩
def rkOf (rk : Rk) (u : Row) : Nat := ((rk.find? fun e => decide (e.1 = u)).map (fun e => e.2)).getD 0
theorem rkOf_mem : ∀ {rk : Rk} {u : Row}, u ∈ ks rk → (u, rkOf rk u) ∈ rk
  | [], _, h => by cases h
  | e :: r, u, h => by
    unfold rkOf
    by_cases q : e.1 = u
    · rw [List.find?_cons_of_pos (by simpa using q)]
      show (u, e.2) ∈ e :: r
      rw [← q]; exact List.mem_cons_self
    · rw [List.find?_cons_of_neg (by simpa using q)]
      have hm : u ∈ ks r := by
        rcases List.mem_cons.mp h with z | z
        · exact absurd z.symm q
        · exact z
      exact List.mem_cons_of_mem _ (rkOf_mem hm)
section
variable {rs : List Rule} {t0 u : Row} {lat : Lt} {rk : Rk}
theorem RkOk.at (r : RkOk rs lat rk) (h : u ∈ ks rk) : IsRk rs u (rkOf rk u) ∧ rkOf rk u < rk.length := ⟨r.val _ (rkOf_mem h), r.lt _ (rkOf_mem h)⟩
theorem RkOk.le (r : RkOk rs lat rk) : rk.length ≤ lat.length := by
  have q := nodup_le (ks rk) (ks lat) r.nd r.sub
  rw [List.length_map, List.length_map] at q; exact q
theorem RkOk.new {m : Nat} (r : RkOk rs lat rk) (hl : u ∈ ks lat) (hn : u ∉ ks rk) (hs : ∀ v ∈ succs rs u, v ∈ ks rk) (h0 : succs rs u = [] → m = 0) (h1 : ∀ v ∈ succs rs u, rkOf rk v + 1 ≤ m) (h2 : succs rs u ≠ [] → ∃ v ∈ succs rs u, m = rkOf rk v + 1) :
    RkOk rs lat (rk ++ [(u, m)]) := by
  have hm : m ≤ rk.length := by
    by_cases e : succs rs u = []
    · rw [h0 e]; exact Nat.zero_le _
    · obtain ⟨v, hv, rfl⟩ := h2 e
      exact (r.at (hs v hv)).2
  refine ⟨by rw [ks_snoc]; exact nodup_snoc r.nd hn, fun v hv => ?_, fun e he => ?_, fun e he => ?_⟩
  · rw [ks_snoc] at hv
    rcases List.mem_append.mp hv with z | z
    · exact r.sub v z
    · rw [List.mem_singleton.mp z]; exact hl
  · rcases List.mem_append.mp he with z | z
    · exact r.val e z
    · rw [List.mem_singleton.mp z]
      exact IsRk.of_succs (r := rkOf rk) (fun v hv => (r.at (hs v hv)).1) h0 h1 h2
  · rw [List.length_append, List.length_singleton]
    rcases List.mem_append.mp he with z | z
    · have := r.lt e z; omega
    · rw [List.mem_singleton.mp z]
      show m < _
      omega
/-- where a whole turn told nothing new, what is left out goes on for ever -/
theorem RkOk.inf (r : RkOk rs lat rk) (c : Closed rs t0 lat) (h : ∀ e ∈ lat, e.1 ∈ ks rk ∨ ∃ v ∈ e.2, v ∉ ks rk) {u : Row} (hu : u ∈ ks lat) (hn : u ∉ ks rk) : ∀ n, ext rs n u = true := fun n => by
  refine ext_inf (fun t => t ∈ ks lat ∧ t ∉ ks rk) (fun t ht => ?_) n u ⟨hu, hn⟩
  obtain ⟨e, he, rfl⟩ := List.mem_map.mp ht.1
  rcases h e he with z | ⟨v, hv, nv⟩
  · exact absurd z ht.2
  · exact ⟨v, by rw [← c.val e he]; exact hv, c.sub e he v hv, nv⟩
end
/-- what the ranks tell -/
structure RanksOk (rs : List Rule) (t0 : Row) (rk : Rk) : Prop where
  nd : (ks rk).Nodup
  val : ∀ e ∈ rk, IsRk rs e.1 e.2
  lt : ∀ e ∈ rk, e.2 < 255
  inf : ∀ u, Reach rs t0 u → u ∉ ks rk → ∀ n, ext rs n u = true
  few : rk.length ≤ 255
theorem RkOk.fin {rs : List Rule} {t0 : Row} {lat : Lt} {rk : Rk} (r : RkOk rs lat rk) (c : Closed rs t0 lat) (h : ∀ e ∈ lat, e.1 ∈ ks rk ∨ ∃ v ∈ e.2, v ∉ ks rk) : RanksOk rs t0 rk :=
  ⟨r.nd, r.val, fun e he => by have := r.lt e he; have := r.le; have := c.few; omega, fun u hu hn => r.inf c h (c.reach hu) hn, by have := r.le; have := c.few; omega⟩
/-! #### as dicts -/
def encR (rk : Rk) : List (List Key × V) := rk.map fun e => (key e.1, V.int (e.2 : Nat))
theorem valV_enc {α : Type} (f : α → V) : ∀ (l : List (Row × α)) (u : Row), valV (l.map fun e => (key e.1, f e.2)) (key u) = (l.find? fun e => decide (e.1 = u)).map fun e => f e.2
  | [], _ => rfl
  | e :: r, u => by
    rw [List.map_cons]
    by_cases q : e.1 = u
    · rw [valV_pos (by show key e.1 = key u; rw [q]), List.find?_cons_of_pos (by simpa using q)]; rfl
    · rw [valV_neg (fun z => q (key_inj z)), List.find?_cons_of_neg (by simpa using q)]; exact valV_enc f r u
theorem encR_some {rk : Rk} {u : Row} (h : u ∈ ks rk) : valV (encR rk) (key u) = some (.int (rkOf rk u : Nat)) := by
  unfold encR
  rw [valV_enc fun n : Nat => V.int n]
  unfold rkOf
  cases q : rk.find? fun e => decide (e.1 = u) with
  | none =>
    obtain ⟨e, he, rfl⟩ := List.mem_map.mp h
    have := List.find?_eq_none.mp q e he
    simp at this
  | some e => rfl
theorem encR_none {rk : Rk} {u : Row} (h : u ∉ ks rk) : valV (encR rk) (key u) = none := by
  unfold encR
  rw [valV_enc fun n : Nat => V.int n]
  have : rk.find? (fun e => decide (e.1 = u)) = none := List.find?_eq_none.mpr fun e he q => h (by
    rw [← of_decide_eq_true q]; exact List.mem_map.mpr ⟨e, he, rfl⟩)
  rw [this]; rfl
theorem encR_isSome (rk : Rk) (u : Row) : (valV (encR rk) (key u)).isSome = decide (u ∈ ks rk) := by
  by_cases h : u ∈ ks rk
  · rw [encR_some h, decide_eq_true h]; rfl
  · rw [encR_none h, decide_eq_false h]; rfl
/-- a dict from last places to lists of such -/
def LatE (H : Hp) (L : Addr) (kv : List Key × V) (e : Row × List Row) : Prop := kv.1 = key e.1 ∧ ∃ l, kv.2 = .ref l ∧ l ≠ L ∧ LstAt H (TupI H) l e.2
theorem latV {H : Hp} {L : Addr} : ∀ {kvs : List (List Key × V)} {lat : Lt} (u : Row), Paired (LatE H L) kvs lat → (u ∉ ks lat ∧ valV kvs (key u) = none) ∨ ∃ kv e, e ∈ lat ∧ e.1 = u ∧ LatE H L kv e ∧ valV kvs (key u) = some kv.2
  | _, _, u, .nil => .inl ⟨List.not_mem_nil, rfl⟩
  | _, _, u, .cons (a := kv) (b := e) (l₁ := r) (l₂ := m) h t => by
    by_cases q : e.1 = u
    · exact .inr ⟨kv, e, List.mem_cons_self, q, h, valV_pos (by rw [h.1, q])⟩
    · have ne : ¬ kv.1 = key u := fun z => q (key_inj (by rw [← z]; exact h.1.symm))
      rw [valV_neg ne]
      rcases latV u t with ⟨h1, h2⟩ | ⟨kv', e', h1, h2, h3, h4⟩
      · refine .inl ⟨fun hm => ?_, h2⟩
        rcases List.mem_cons.mp hm with z | z
        · exact q z.symm
        · exact h1 z
      · exact .inr ⟨kv', e', List.mem_cons_of_mem _ h1, h2, h3, h4⟩
theorem LatE.mono {H H' : Hp} {L : Addr} {kv : List Key × V} {e : Row × List Row} (x : LTS H H') (h : LatE H L kv e) : LatE H' L kv e :=
  let ⟨h1, l, h2, h3, h4⟩ := h; ⟨h1, l, h2, h3, LstAt.mono (R := TupI) x (fun _ _ z => TupI.mono x.ts z) h4⟩
/-- where only the list at L changes -/
theorem LatE.but {H H' : Hp} {L : Addr} {kv : List Key × V} {e : Row × List Row} (x : ∀ b o, b ≠ L → ((∃ xs, o = .lst xs) ∨ ∃ xs, o = .tup xs) → H b = some o → H' b = some o) (t : TS H H') (h : LatE H L kv e) : LatE H' L kv e :=
  let ⟨h1, l, h2, h3, xs, h4, h5⟩ := h; ⟨h1, l, h2, h3, xs, x l _ h3 (.inl ⟨xs, rfl⟩) h4, Paired.mp h5 fun _ _ z => TupI.mono t z⟩
end An
-- imports: M2
/-! ### D4: ranks_from -/
namespace An
open PySem L2
section
variable {P : Program} {w : World} {K : PySem.W.Frag} {mg : Str → Option Value} {base : Heap}
def N_ranks_from : List Str := ["rules", "begin", "line", "later", "at", "place", "there", "ranks", "going", "tail", "nexts_so"]
theorem sc_ranks_from : FnScope N_ranks_from ["rules", "begin"] (defScope S_ranks_from) := ⟨rfl, rfl, rfl, by decide +kernel, rfl, by decide +kernel, by decide +kernel⟩
def spRanks : Sp := fun vs H Q _ => ∃ rv tv rs t, vs = [rv, tv] ∧ RulesAt H rv rs ∧ RulesOk rs ∧ TupI H tv t ∧ TailOk rs t ∧
  ∀ p H' rk, H p = none → Same H H' → H' p = some (.dT (encR rk)) → RanksOk rs t rk → Q (.ref p) H'
/-- between two turns of the first while -/
structure P1 (rs : List Rule) (t : Row) (H : Hp) (L D : Addr) (H' : Hp) (ln : List Row) (i : Nat) (lat : Lt) (vs : List V) (kvs : List (List Key × V)) : Prop where
  sm : Same H H'
  nL : H L = none
  nD : H D = none
  hL : H' L = some (.lst vs)
  pL : Paired (TupI H') vs ln
  hD : H' D = some (.dT kvs)
  pD : Paired (LatE H' L) kvs lat
  bf : Bfs rs t ln i lat
theorem P1.same {rs : List Rule} {t : Row} {H : Hp} {L D : Addr} {H1 H2 : Hp} {ln : List Row} {i : Nat} {lat : Lt} {vs : List V} {kvs : List (List Key × V)} (h : P1 rs t H L D H1 ln i lat vs kvs) (e : Same H1 H2) : P1 rs t H L D H2 ln i lat vs kvs :=
  ⟨h.sm.trans e, h.nL, h.nD, e _ _ h.hL, Paired.mp h.pL fun _ _ z => TupI.mono (TS.of e) z, e _ _ h.hD, Paired.mp h.pD fun _ _ z => LatE.mono (LTS.of e) z, h.bf⟩
def W1 (rs : List Rule) (t : Row) (H : Hp) (rv tv : V) (L D : Addr) (m : Nat) (σ : L2.St) (H' : Hp) : Prop :=
  ∃ ln i lat vs kvs x5 x6 x7 x8 x9 x10, σ = [some rv, some tv, some (.ref L), some (.ref D), some (.int (i : Nat)), x5, x6, x7, x8, x9, x10] ∧ P1 rs t H L D H' ln i lat vs kvs ∧ m = 3 * (255 - lat.length) + (ln.length - i)
/-- the second while: R the ranks, D what comes (locked within the for) -/
structure P2 (rs : List Rule) (t : Row) (H : Hp) (L D R : Addr) (uD : HO) (H' : Hp) (lat : Lt) (kvs : List (List Key × V)) (rk : Rk) : Prop where
  sm : Same H H'
  nD : H D = none
  nR : H R = none
  ne : R ≠ D
  hD : H' D = some uD
  pD : Paired (LatE H' L) kvs lat
  hR : H' R = some (.dT (encR rk))
  ok : RkOk rs lat rk
theorem P2.same {rs : List Rule} {t : Row} {H : Hp} {L D R : Addr} {uD : HO} {H1 H2 : Hp} {lat : Lt} {kvs : List (List Key × V)} {rk : Rk} (h : P2 rs t H L D R uD H1 lat kvs rk) (e : Same H1 H2) : P2 rs t H L D R uD H2 lat kvs rk :=
  ⟨h.sm.trans e, h.nD, h.nR, h.ne, e _ _ h.hD, Paired.mp h.pD fun _ _ z => LatE.mono (LTS.of e) z, e _ _ h.hR, h.ok⟩
def told (lat : Lt) (rk : Rk) : Prop := ∀ e ∈ lat, e.1 ∈ ks rk ∨ ∃ v ∈ e.2, v ∉ ks rk
def W2 (rs : List Rule) (t : Row) (H : Hp) (rv tv : V) (L D R : Addr) (lat : Lt) (kvs : List (List Key × V)) (m : Nat) (σ : L2.St) (H' : Hp) : Prop :=
  ∃ rk g x4 x5 x6 x9 x10, σ = [some rv, some tv, some (.ref L), some (.ref D), x4, x5, x6, some (.ref R), some (.bl g), x9, x10] ∧ P2 rs t H L D R (.dT kvs) H' lat kvs rk ∧ (g = false → told lat rk) ∧ m = 2 * (lat.length - rk.length) + (if g then 1 else 0)
def W3 (rs : List Rule) (t : Row) (H : Hp) (rv tv : V) (L D R : Addr) (od : Obj) (lat : Lt) (kvs : List (List Key × V)) (rk0 : Rk) (i : Nat) (σ : L2.St) (H' : Hp) : Prop :=
  ∃ rk g x4 x5 x6 x9 x10, σ = [some rv, some tv, some (.ref L), some (.ref D), x4, x5, x6, some (.ref R), some (.bl g), x9, x10] ∧ P2 rs t H L D R (.frz od (.dT kvs)) H' lat kvs rk ∧
    ((g = false ∧ rk = rk0 ∧ ∀ (j : Nat) (e : Row × List Row), j < i → lat[j]? = some e → e.1 ∈ ks rk0 ∨ ∃ v ∈ e.2, v ∉ ks rk0) ∨ (g = true ∧ rk0.length < rk.length))
theorem Paired.eqmap {β : Type} {f : β → V} : ∀ {ys : List V} {bs : List β}, Paired (fun y b => y = f b) ys bs → ys = bs.map f
  | _, _, .nil => rfl
  | _, _, .cons h t => by rw [h, Paired.eqmap t]; rfl
theorem encR_put {rk : Rk} {u : Row} (m : Nat) (h : u ∉ ks rk) : putK (encR rk) (key u) (.int (m : Nat)) = encR (rk ++ [(u, m)]) := by
  rw [putK_new _ (encR_none h)]
  unfold encR
  rw [List.map_append]; rfl
theorem W3.keep {rs : List Rule} {t : Row} {H : Hp} {rv tv : V} {L D R : Addr} {od : Obj} {lat : Lt} {kvs : List (List Key × V)} {rk0 rk : Rk} {i : Nat} {H' : Hp} {g : Bool} {x4 x5 x6 x9 x10 : Option V} {e : Row × List Row}
    (p : P2 rs t H L D R (.frz od (.dT kvs)) H' lat kvs rk) (c : (g = false ∧ rk = rk0 ∧ ∀ (j : Nat) (e : Row × List Row), j < i → lat[j]? = some e → e.1 ∈ ks rk0 ∨ ∃ v ∈ e.2, v ∉ ks rk0) ∨ (g = true ∧ rk0.length < rk.length))
    (he : lat[i]? = some e) (h : e.1 ∈ ks rk ∨ ∃ v ∈ e.2, v ∉ ks rk) : W3 rs t H rv tv L D R od lat kvs rk0 (i + 1) [some rv, some tv, some (.ref L), some (.ref D), x4, x5, x6, some (.ref R), some (.bl g), x9, x10] H' := by
  refine ⟨rk, g, x4, x5, x6, x9, x10, rfl, p, ?_⟩
  rcases c with ⟨c1, c2, c3⟩ | c
  · subst c2
    refine .inl ⟨c1, rfl, fun j e' hj hj' => ?_⟩
    by_cases q : j = i
    · subst q; rw [he] at hj'; cases hj'; exact h
    · exact c3 j e' (by omega) hj'
  · exact .inr c
theorem ok_ranks_from (Dd : Dn K mg "ranks_from" S_ranks_from) (bf : Bf mg) (C_ways_on : Cl P w K mg base 2 "ways_on" spWays) : Cl P w K mg base 3 "ranks_from" spRanks := by
  refine Dd.ok sc_ranks_from (fun vs H Q E h => ?_) (fun _ _ _ _ _ _ us hl => match us, hl with | [_, _], _ => rfl) (fun f cdv A outer s H vs Q E hr h => ?_)
  · obtain ⟨rv, tv, rs, t, rfl, _⟩ := h; rfl
  · obtain ⟨rv, tv, rs, t, rfl, hR, ok, hT, h0, k⟩ := h
    have nd := sc_ranks_from.nd
    have hu := hu_of hr
    have hr_ways_on := hr
    refine ⟨_, (pss_cons (ps_set (i := 2) nd rfl (Or.inl rfl) (pe_lst (pa_cons (pv 1) pa_nil)))
    (pss_cons (ps_set (i := 3) nd rfl (Or.inl rfl) pe_dnewT)
    (pss_cons (ps_set (i := 4) nd rfl (Or.inl rfl) pe_int)
    (pss_cons (ps_while PassesOwn.never (pt_cmpR op_lt (pv 4) (pe_callB call_len_seq rfl bf.len bt_len (pa_cons (pv 2) pa_nil)) (nomark _))
    (pss_cons (ps_if (pt_cmp (pc_dnotin hu (pe_ix ix_list (pv 2) (pv 4) (fun _ _ => rfl)) (pv 3)))
    (pss_cons (ps_dput hu (pv 3) (pe_ix ix_list (pv 2) (pv 4) (fun _ _ => rfl)) (pe_lc (own := [("place", 5), ("there", 6)]) rfl nd (pi_list (pe_callC C_ways_on hr_ways_on rfl (pa_cons (pv 0) (pa_cons (pe_ix ix_list (pv 2) (pv 4) (fun _ _ => rfl)) pa_nil)))) (blkOk_by (own := [("place", 5), ("there", 6)]) (N := N_ranks_from) (sc := defScope S_ranks_from) (by decide +kernel)) (fun _ _ _ _ _ => (pg_tupK (K := K) (n := 2) rfl rfl (pgs_cons (pg_name (i := 5) nd rfl (Or.inl rfl) (Or.inr rfl)) (pgs_cons (pg_name (i := 6) nd rfl (Or.inl rfl) (Or.inr rfl)) pgs_nil)))) (fun _ _ _ _ _ => pts_nil) (fun _ _ _ _ _ => (pv 6))) rfl)
    (pss_one (ps_aug (i := 2) nd rfl (Or.inl rfl) (pe_dget hu (pv 3) (pe_ix ix_list (pv 2) (pv 4) (fun _ _ => rfl)) (fun _ _ => rfl)) (ip_of iop_ext))))
    pss_nil)
    (pss_one (ps_aug (i := 4) nd rfl (Or.inl rfl) pe_int ip_add))))
    (pss_cons (ps_set (i := 7) nd rfl (Or.inr rfl) pe_dnewT)
    (pss_cons (ps_set (i := 8) nd rfl (Or.inl rfl) pe_bl)
    (pss_cons (ps_while PassesOwn.never (pt_val (pv 8))
    (pss_cons (ps_set (i := 8) nd rfl (Or.inl rfl) pe_bl)
    (pss_one (ps_lock (ps_for PassesOwn.never rfl (pi_itemsT (pv 3)) (pg_tup rfl (pgs_cons (pg_name (i := 9) nd rfl (Or.inl rfl)) (pgs_cons (pg_name (i := 10) nd rfl (Or.inl rfl)) pgs_nil)))
    (pss_one (ps_if (PW.pt (pw_and (pt_cmp (pc_dnotin hu (pv 9) (pv 7))) (pw_and1 (pt_val (pe_callB (cr_all rfl) rfl bf.all bt_all (pa_cons (pe_lc (own := [("there", 6)]) rfl nd (pi_list (pv 10)) (blkOk_by (own := [("there", 6)]) (N := N_ranks_from) (sc := defScope S_ranks_from) (by decide +kernel)) (fun _ _ _ _ _ => (pg_name (i := 6) nd rfl (Or.inl rfl) (Or.inr rfl))) (fun _ _ _ _ _ => pts_nil) (fun _ _ _ _ _ => (pe_cmp (pc_din hu (pv 6) (pv 7))))) pa_nil))))))
    (pss_cons (ps_dput hu (pv 7) (pv 9) (pe_callBK (cr_maxD rfl hr.units) rfl bf.max bt_max (pa_cons (pe_lc (own := [("there", 6)]) rfl nd (pi_list (pv 10)) (blkOk_by (own := [("there", 6)]) (N := N_ranks_from) (sc := defScope S_ranks_from) (by decide +kernel)) (fun _ _ _ _ _ => (pg_name (i := 6) nd rfl (Or.inl rfl) (Or.inr rfl))) (fun _ _ _ _ _ => pts_nil) (fun _ _ _ _ _ => (pe_op op_add (pe_dget hu (pv 7) (pv 6) (fun _ _ => rfl)) pe_int))) pa_nil) (pk_cons pe_int pk_nil)) rfl)
    (pss_one (ps_set (i := 8) nd rfl (Or.inl rfl) pe_bl)))
    pss_nil)))))))
    (pss_one (ps_ret (pv 7)))))))))), ?_⟩
    refine ⟨_, rfl, sz (by show 1 ≤ 100000; decide), fun L hL => fun D hD => ?_⟩
    have s1 : Same H (upd H L (.lst [tv])) := Same.new hL
    have s2 : Same (upd H L (.lst [tv])) (upd (upd H L (.lst [tv])) D (.dT [])) := Same.new hD
    have nD : H D = none := s1.free hD
    refine ⟨W1 rs t H rv tv L D, ⟨_, [t], 0, [], [tv], [], none, none, none, none, none, none, rfl, ⟨s1.trans s2, hL, nD, s2 _ _ upd_same, .cons (TupI.mono (TS.of (s1.trans s2)) hT) .nil, upd_same, .nil, Bfs.start rs t⟩, rfl⟩, ?_⟩
    rintro m σ H' ⟨ln, i, lat, vs, kvs, x5, x6, x7, x8, x9, x10, rfl, p1, rfl⟩
    have hlen := Paired.len p1.pL
    refine ⟨_, rfl, _, rfl, L, _, rfl, .inl (SqL.of p1.hL), _, _, rfl, rfl, _, rfl, ite2 (fun hlt => ?_) (fun hge => ?_)⟩
    · rw [decide_eq_true_eq] at hlt
      have hi : i < vs.length := by omega
      obtain ⟨u, hu', ⟨q, eq, hq⟩⟩ := Paired.get p1.pL (List.getElem?_eq_getElem hi)
      have hvi : vs[i]? = some (.ref q) := by rw [List.getElem?_eq_getElem hi, eq]
      have hqk : H' q = some (.tup ((key u).map kV)) := by rw [key_map]; exact hq
      refine ⟨fun σ2 H2 => ∃ m', m' < 3 * (255 - lat.length) + (ln.length - i) ∧ W1 rs t H rv tv L D m' σ2 H2, fun _ _ h => h, ?_⟩
      refine ⟨_, rfl, _, rfl, L, vs, _, .ref q, rfl, rfl, SqL.of p1.hL, atI_nat hvi, _, rfl, D, _, rfl, DGet.t p1.hD hqk, _, rfl, ?_⟩
      rcases latV u p1.pD with ⟨hno, hv⟩ | ⟨kv, e, he, heu, hle, hv⟩
      · rw [hv]
        refine iteT ?_
        have hR' := RulesAt.mono (TS.of p1.sm) hR
        have tok : TailOk rs u := Reach.ok ok h0 (p1.bf.reach u (List.mem_of_getElem? hu'))
        have wide := ok.wide
        refine ⟨_, rfl, _, rfl, _, rfl, L, vs, _, .ref q, rfl, rfl, SqL.of p1.hL, atI_nat hvi, rv, .ref q, rs, u, rfl, hR', ok, ⟨q, rfl, hq⟩, by have := tok.2; omega, fun W0 H2 ws hW0 sm2 hW pw => ?_⟩
        have wlen : ws.length ≤ 2 := by
          rw [Paired.len pw]
          have := succs_len rs u
          unfold succs at this
          rw [List.length_map] at this; exact this
        refine ⟨W0, rfl, ⟨_, SqL.of hW⟩, fun M hM => lc_map (n := ws.length) (walk_list (xs := ws)) TupI (succs rs u) hM (by unfold succs; rw [List.length_map, Paired.len pw]) (by omega) (fun _ _ _ _ e z => TupI.mono (TS.of e) z) (fun _ _ _ _ _ e z => TupI.mono (TS.lst e) z) (fun H3 e => SqL.of (e _ _ hW)) ?_ (gm_two 5 6) ?_⟩
        · rintro j x H3 H4 NT hj sm3 ⟨rfl, hx⟩ hNT
          obtain ⟨e, he, ⟨a, b, rfl, ha, hb⟩⟩ := Paired.get pw hx
          refine ⟨a, _, rfl, SqT.of (sm3 _ _ ha), rfl, _, _, rfl, _, _, rfl, rfl, rfl, _, rfl, hNT _ _ e.2 (Same.refl _) ?_ ⟨b, rfl, sm3 _ _ hb⟩⟩
          unfold succs
          rw [List.getElem?_map, he]; rfl
        · intro H3 us sm3 hM3 pus
          have p3 := (p1.same sm2).same sm3
          have hq3 := sm3 _ _ (sm2 _ _ hqk)
          have klen : kvs.length < sizeLine := szl (by rw [Paired.len p1.pD]; have := p1.bf.few ok h0; omega)
          have neML : M ≠ L := fun e => by rw [e] at hM; rw [sm2 _ _ p1.hL] at hM; cases hM
          have neDL : D ≠ L := ne_of p3.hD p3.hL (fun e => by cases e)
          have tD : LTS H3 (upd H3 D (.dT (putK kvs (key u) (.ref M)))) := LTS.dT p3.hD
          have hL4 := tD _ _ (.inl ⟨_, rfl⟩) p3.hL
          have hM4 := tD _ _ (.inl ⟨_, rfl⟩) hM3
          refine ⟨_, rfl, _, rfl, _, rfl, L, vs, _, .ref q, rfl, rfl, SqL.of p3.hL, atI_nat hvi, D, _, rfl, DPut.t p3.hD hq3 klen, ?_⟩
          rw [putK_new _ hv] at hL4 hM4 tD ⊢
          have hv4 : valV (kvs ++ [(key u, V.ref M)]) (key u) = some (.ref M) := by
            rw [valV_snoc _ _ _ _ hv, if_pos rfl]
          refine ⟨_, rfl, _, rfl, _, rfl, _, rfl, L, vs, _, .ref q, rfl, rfl, SqL.of hL4, atI_nat hvi, D, .ref M, rfl, ?_, L, M, vs, us, rfl, rfl, hL4, hM4, ?_, ?_⟩
          · rw [← hv4]; exact DGet.t upd_same (tD _ _ (.inr ⟨_, rfl⟩) hq3)
          · refine sz ?_
            have h1 := p1.bf.len
            have h2 := p1.bf.few ok h0
            have h3 := Paired.len pus
            have h4 := succs_len rs u
            omega
          · have t5 : TS H3 (upd (upd H3 D (.dT (kvs ++ [(key u, V.ref M)]))) L (.lst (vs ++ us))) := TS.trans tD.ts (TS.lst hL4)
            have bn := p1.bf.new hu' hno
            have few := bn.few ok h0
            rw [List.length_append, List.length_singleton] at few
            have sl := succs_len rs u
            refine ⟨_, rfl, _, _, rfl, rfl, 3 * (255 - (lat ++ [(u, succs rs u)]).length) + ((ln ++ succs rs u).length - (i + 1)), ?_, ln ++ succs rs u, i + 1, lat ++ [(u, succs rs u)], vs ++ us, kvs ++ [(key u, V.ref M)], x5, x6, x7, x8, x9, x10, rfl, ⟨fun b o e => ?_, p1.nL, p1.nD, upd_same, ?_, ?_, ?_, bn⟩, rfl⟩
            · rw [List.length_append, List.length_append, List.length_singleton]; omega
            · rw [upd_ne (ne_of_none e p1.nL), upd_ne (ne_of_none e p1.nD)]; exact p3.sm _ _ e
            · exact Paired.app (Paired.mp p3.pL fun _ _ z => TupI.mono t5 z) (Paired.mp pus fun _ _ z => TupI.mono t5 z)
            · rw [upd_ne neDL]; exact upd_same
            · refine Paired.snoc1 (Paired.mp p3.pD fun _ _ z => LatE.but (fun b o nb lt e => ?_) t5 z) ⟨rfl, M, rfl, neML, us, ?_, Paired.mp pus fun _ _ z => TupI.mono t5 z⟩
              · rw [upd_ne nb]; exact tD _ _ lt e
              · rw [upd_ne neML]; exact hM4
      · rw [hv]
        refine iteF ?_
        have hm : u ∈ ks lat := by rw [← heu]; exact List.mem_map.mpr ⟨e, he, rfl⟩
        refine ⟨_, rfl, _, _, rfl, rfl, _, ?_, ln, i + 1, lat, vs, kvs, x5, x6, x7, x8, x9, x10, rfl, ⟨p1.sm, p1.nL, p1.nD, p1.hL, p1.pL, p1.hD, p1.pD, p1.bf.old hu' hm⟩, rfl⟩
        omega
    · rw [decide_eq_true_eq] at hge
      have ei : i = ln.length := by have := p1.bf.le; omega
      have cl : Closed rs t lat := (show Bfs rs t ln ln.length lat by rw [← ei]; exact p1.bf).closed ok h0
      refine fun R hR' => ?_
      have sR : Same H' (upd H' R (.dT [])) := Same.new hR'
      have p3 := p1.same sR
      have neRD : R ≠ D := fun e => by rw [e, p1.hD] at hR'; cases hR'
      refine ⟨W2 rs t H rv tv L D R lat kvs, ⟨_, [], true, some (.int (i : Nat)), x5, x6, x9, x10, rfl, ⟨p3.sm, p3.nD, p1.sm.free hR', neRD, p3.hD, p3.pD, upd_same, RkOk.start rs lat⟩, (fun e => by cases e), rfl⟩, ?_⟩
      rintro m σ H1 ⟨rk, g, y4, y5, y6, y9, y10, rfl, p4, tg, rfl⟩
      refine ⟨_, rfl, _, rfl, ?_⟩
      cases g with
      | false =>
        refine iteF ?_
        exact ⟨_, rfl, k R H1 rk p4.nR p4.sm p4.hR (p4.ok.fin cl (tg rfl))⟩
      | true =>
        refine iteT ⟨fun σ2 H2 => ∃ m', m' < 2 * (lat.length - rk.length) + (if true then 1 else 0) ∧ W2 rs t H rv tv L D R lat kvs m' σ2 H2, fun _ _ h => h, ?_⟩
        refine ⟨D, _, p4.hD, trivial, fun od => ?_⟩
        have lt : LTS H1 (upd H1 D (.frz od (.dT kvs))) := LTS.dT p4.hD
        refine ⟨_, rfl, D, od, kvs, rfl, upd_same, for_it walk_itemsT (W3 rs t H rv tv L D R od lat kvs rk) ⟨rk, false, y4, y5, y6, y9, y10, rfl, ⟨fun b o e => ?_, p4.nD, p4.nR, p4.ne, upd_same, Paired.mp p4.pD fun _ _ z => LatE.mono lt z, ?_, p4.ok⟩, .inl ⟨rfl, rfl, fun j e hj => absurd hj (Nat.not_lt_zero _)⟩⟩ (fun i σ H2 _ ⟨_, _, _, _, _, _, _, _, h, _⟩ => h.hD) ?_ ?_⟩
        · rw [upd_ne (ne_of_none e p4.nD)]; exact p4.sm _ _ e
        · rw [upd_ne p4.ne]; exact p4.hR
        · rintro i x σ H2 H3 hi ⟨rk', g', z4, z5, z6, z9, z10, rfl, p5, cse⟩ ⟨T, q, kk, v, hkv, rfl, nT, hq, rfl⟩
          have sT : Same H2 (upd H2 T (.tup [.ref q, v])) := Same.new nT
          have p6 := p5.same sT
          obtain ⟨e, he, hk, l, hv, hl, ys, hys, pys⟩ := Paired.get p6.pD hkv
          have hk : kk = key e.1 := hk
          have hv : v = .ref l := hv
          subst hk hv
          have hqk := sT _ _ hq
          have small : ys.length < 100000 := by
            rw [Paired.len pys]
            have hem := List.mem_of_getElem? he
            rw [cl.val e hem]
            have := succs_len rs e.1
            omega
          have hem := List.mem_of_getElem? he
          refine ⟨T, _, rfl, SqT.of upd_same, rfl, _, _, rfl, _, _, rfl, rfl, ?_⟩
          refine ⟨_, rfl, _, rfl, R, _, rfl, DGet.t p6.hR hqk, _, rfl, ?_⟩
          rw [encR_isSome]
          by_cases hm : e.1 ∈ ks rk'
          · rw [decide_eq_true hm]
            refine iteF (show if false = true then _ else _ from iteF ?_)
            exact W3.keep p6 cse he (.inl hm)
          · rw [decide_eq_false hm]
            refine iteT ?_
            refine ⟨_, rfl, l, rfl, ⟨_, SqL.of hys⟩, fun M hM => lc_map (n := ys.length) (walk_list (xs := ys)) (fun _ y (b : Bool) => y = .bl b) (e.2.map fun v => decide (v ∈ ks rk')) hM (by rw [List.length_map, Paired.len pys]) small (fun _ _ _ _ _ z => z) (fun _ _ _ _ _ _ z => z) (fun H3 e => SqL.of (e _ _ hys)) ?_ (gm_name 6) ?_⟩
            · rintro j x H4 H5 NT hj sm4 ⟨rfl, hx⟩ hNT
              obtain ⟨v, hv, b, rfl, hb⟩ := Paired.get pys hx
              have hb4 : H5 b = some (.tup ((key v).map kV)) := by rw [key_map]; exact sm4 _ _ hb
              refine ⟨rfl, _, rfl, _, rfl, R, _, rfl, DGet.t (sm4 _ _ p6.hR) hb4, hNT _ _ (decide (v ∈ ks rk')) (Same.refl _) ?_ ?_⟩
              · rw [List.getElem?_map, hv]; rfl
              · rw [encR_isSome]
            · intro H4 bs sm4 hM4 pbs
              have p7 := p6.same sm4
              rw [Paired.eqmap pbs] at hM4
              refine ⟨M, e.2.map fun v => decide (v ∈ ks rk'), rfl, SqL.of hM4, _, rfl, ?_⟩
              refine ite2 (fun hall => ?_) (fun hall => ?_)
              · have hs : ∀ v ∈ e.2, v ∈ ks rk' := fun v hv => by
                  have := List.all_eq_true.mp hall _ (List.mem_map.mpr ⟨v, hv, rfl⟩)
                  simpa using this
                have hs' : ∀ v ∈ succs rs e.1, v ∈ ks rk' := by rw [← cl.val e hem]; exact hs
                have hys4 := sm4 _ _ hys
                refine ⟨_, rfl, l, rfl, ⟨_, SqL.of hys4⟩, fun M2 hM2 => lc_map (n := ys.length) (walk_list (xs := ys)) (fun _ y (n : Int) => y = .int n) (e.2.map fun v => ((rkOf rk' v + 1 : Nat) : Int)) hM2 (by rw [List.length_map, Paired.len pys]) small (fun _ _ _ _ _ z => z) (fun _ _ _ _ _ _ z => z) (fun H3 e => SqL.of (e _ _ hys4)) ?_ (gm_name 6) ?_⟩
                · rintro j x H5 H6 NT hj sm5 ⟨rfl, hx⟩ hNT
                  obtain ⟨v, hv, b, rfl, hb⟩ := Paired.get pys hx
                  have hb5 : H6 b = some (.tup ((key v).map kV)) := by rw [key_map]; exact sm5 _ _ (sm4 _ _ hb)
                  have hg : DGet H6 R (.ref b) (some (.int (rkOf rk' v : Nat))) := by
                    rw [← encR_some (hs v (List.mem_of_getElem? hv))]; exact DGet.t (sm5 _ _ p7.hR) hb5
                  refine ⟨rfl, _, rfl, _, rfl, R, _, rfl, hg, _, _, rfl, rfl, hNT _ _ ((rkOf rk' v + 1 : Nat) : Int) (Same.refl _) ?_ rfl⟩
                  rw [List.getElem?_map, hv]; rfl
                · intro H5 ns sm5 hM5 pns
                  have p8 := p7.same sm5
                  rw [Paired.eqmap pns] at hM5
                  have hq8 := sm5 _ _ (sm4 _ _ hqk)
                  have len8 : (encR rk').length < sizeLine := szl (by unfold encR; rw [List.length_map]; have := p8.ok.le; have := cl.few; omega)
                  have fin : ∀ m : Nat, (succs rs e.1 = [] → m = 0) → (∀ v ∈ succs rs e.1, rkOf rk' v + 1 ≤ m) → (succs rs e.1 ≠ [] → ∃ v ∈ succs rs e.1, m = rkOf rk' v + 1) →
                      W3 rs t H rv tv L D R od lat kvs rk (i + 1) [some rv, some tv, some (.ref L), some (.ref D), z4, z5, z6, some (.ref R), some (.bl true), some (.ref q), some (.ref l)] (upd H5 R (.dT (putK (encR rk') (key e.1) (.int (m : Nat))))) := fun m h1 h2 h3 => by
                    have lt : LTS H5 (upd H5 R (.dT (putK (encR rk') (key e.1) (.int (m : Nat))))) := LTS.dT p8.hR
                    refine ⟨rk' ++ [(e.1, m)], true, z4, z5, z6, _, _, rfl, ⟨fun b o e => by rw [upd_ne (ne_of_none e p8.nR)]; exact p8.sm _ _ e, p8.nD, p8.nR, p8.ne, by rw [upd_ne (Ne.symm p8.ne)]; exact p8.hD, Paired.mp p8.pD fun _ _ z => LatE.mono lt z, by rw [upd_same, encR_put m hm], ?_⟩, .inr ⟨rfl, ?_⟩⟩
                    · exact p8.ok.new (List.mem_map.mpr ⟨e, hem, rfl⟩) hm hs' h1 h2 h3
                    · rw [List.length_append, List.length_singleton]
                      rcases cse with ⟨_, c2, _⟩ | ⟨_, c2⟩
                      · rw [c2]; omega
                      · omega
                  refine ⟨M2, _, .int 0, rfl, rfl, SqL.of hM5, fun e0 => ?_, fun mx hmx hle => ?_⟩
                  · have e0' : succs rs e.1 = [] := by rw [← cl.val e hem]; exact List.map_eq_nil_iff.mp e0
                    refine ⟨_, rfl, _, rfl, R, _, rfl, DPut.t p8.hR hq8 len8, ?_⟩
                    exact fin 0 (fun _ => rfl) (fun v hv => by rw [e0'] at hv; cases hv) (fun h => absurd e0' h)
                  · obtain ⟨v0, hv0, rfl⟩ := List.mem_map.mp hmx
                    refine ⟨_, rfl, _, rfl, R, _, rfl, DPut.t p8.hR hq8 len8, ?_⟩
                    refine fin (rkOf rk' v0 + 1) (fun h => ?_) (fun v hv => ?_) fun _ => ⟨v0, by rw [← cl.val e hem]; exact hv0, rfl⟩
                    · rw [← cl.val e hem] at h; rw [h] at hv0; cases hv0
                    · have := hle _ (List.mem_map.mpr ⟨v, by rw [cl.val e hem]; exact hv, rfl⟩)
                      omega
              · refine W3.keep p7 cse he (.inr ?_)
                rw [Bool.not_eq_true, List.all_eq_false] at hall
                obtain ⟨b, hb, hb2⟩ := hall
                obtain ⟨v, hv, rfl⟩ := List.mem_map.mp hb
                exact ⟨v, hv, by simpa using hb2⟩
        · rintro σ H2 ⟨rk', g', z4, z5, z6, z9, z10, rfl, p5, cse⟩
          refine ⟨p5.hD, ?_⟩
          have lt2 : LTS H2 (upd H2 D (.dT kvs)) := LTS.frz p5.hD
          have klen := Paired.len p5.pD
          have fin : P2 rs t H L D R (.dT kvs) (upd H2 D (.dT kvs)) lat kvs rk' := ⟨fun b o e => by rw [upd_ne (ne_of_none e p5.nD)]; exact p5.sm _ _ e, p5.nD, p5.nR, p5.ne, upd_same, Paired.mp p5.pD fun _ _ z => LatE.mono lt2 z, by rw [upd_ne p5.ne]; exact p5.hR, p5.ok⟩
          have le := p5.ok.le
          rcases cse with ⟨rfl, rfl, hj⟩ | ⟨rfl, hj⟩
          · refine ⟨2 * (lat.length - rk'.length) + 0, by simp, rk', false, z4, z5, z6, z9, z10, rfl, fin, fun _ e he => ?_, by simp⟩
            obtain ⟨j, hjl, ej⟩ := List.getElem_of_mem he
            exact hj j e (by omega) (by rw [List.getElem?_eq_getElem hjl, ej])
          · exact ⟨2 * (lat.length - rk'.length) + 1, by simp; omega, rk', true, z4, z5, z6, z9, z10, rfl, fin, (fun e => by cases e), by simp⟩
end
end An
-- imports: D4
/-! ### D5: longest -/
namespace An
open PySem L2
section
variable {P : Program} {w : World} {K : PySem.W.Frag} {mg : Str → Option Value} {base : Heap}
/-- a rank as it is told: a number, None where for ever -/
def RankV (rs : List Rule) (t : Row) (v : V) : Prop := (∃ n : Nat, IsRk rs t n ∧ n < 255 ∧ v = .int n) ∨ ((∀ n, ext rs n t = true) ∧ v = .non)
theorem RanksOk.v {rs : List Rule} {t u : Row} {rk : Rk} (r : RanksOk rs t rk) (h : Reach rs t u) : RankV rs u ((valV (encR rk) (key u)).getD .non) := by
  by_cases m : u ∈ ks rk
  · rw [encR_some m]
    exact .inl ⟨_, r.val _ (rkOf_mem m), r.lt _ (rkOf_mem m), rfl⟩
  · rw [encR_none m]
    exact .inr ⟨r.inf u h m, rfl⟩
theorem TailOk.nil {rs : List Rule} (ok : RulesOk rs) : TailOk rs [] := ⟨fun x h => (by cases h), by have := ok.wide; show (0 : Int) + 1 ≤ _; omega⟩
def N_longest : List Str := ["rules"]
theorem sc_longest : FnScope N_longest ["rules"] (defScope S_longest) := ⟨rfl, rfl, rfl, by decide +kernel, rfl, by decide +kernel, by decide +kernel⟩
def spLongest : Sp := fun vs H Q _ => ∃ rv rs, vs = [rv] ∧ RulesAt H rv rs ∧ RulesOk rs ∧ ∀ v H', Same H H' → RankV rs [] v → Q v H'
theorem ok_longest (D : Dn K mg "longest" S_longest) (C_need_rules : Cl P w K mg base 4 "need_rules" spNeedRules) (C_ranks_from : Cl P w K mg base 3 "ranks_from" spRanks) : Cl P w K mg base 5 "longest" spLongest := by
  refine D.ok sc_longest (fun vs H Q E h => ?_) (fun _ _ _ _ _ _ us hl => match us, hl with | [_], _ => rfl) (fun f cdv A outer s H vs Q E hr h => ?_)
  · obtain ⟨rv, rs, rfl, _⟩ := h; rfl
  · obtain ⟨rv, rs, rfl, hR, ok, k⟩ := h
    have nd := sc_longest.nd
    have hu := hu_of hr
    have hr_need_rules := hr
    have hr_ranks_from := hr.mono (show 3 ≤ 4 by decide)
    refine ⟨_, (pss_cons (ps_expr (pe_callC C_need_rules hr_need_rules rfl (pa_cons (pv 0) pa_nil)))
    (pss_one (ps_ret (pe_dget2 hu (pe_callC C_ranks_from hr_ranks_from rfl (pa_cons (pv 0) (pa_cons (pe_tup pa_nil) pa_nil))) (pe_tup pa_nil) pe_non ⟨rfl, rfl, rfl, rfl⟩)))), ?_⟩
    refine ⟨_, rfl, rv, rs, rfl, hR, ok, fun H1 s1 => ?_⟩
    refine ⟨_, rfl, sz (by show 0 ≤ 100000; decide), fun c hc => ?_⟩
    have s2 : Same H1 (upd H1 c (.tup [])) := Same.new hc
    have s3 := s1.trans s2
    refine ⟨rv, .ref c, rs, [], rfl, RulesAt.mono (TS.of s3) hR, ok, ⟨c, rfl, upd_same⟩, TailOk.nil ok, fun R H2 rk nR s4 hR2 rko => ?_⟩
    refine ⟨R, rfl, .inr ⟨_, .inl hR2⟩, sz (by show 0 ≤ 100000; decide), fun c2 hc2 => ?_⟩
    have s5 : Same H2 (upd H2 c2 (.tup [])) := Same.new hc2
    refine ⟨_, DGet.t (k := key []) (s5 _ _ hR2) upd_same, ?_⟩
    exact k _ _ ((s3.trans s4).trans s5) (rko.v .refl)
end
end An
-- imports: D5
/-! ### D6: longest_row -/
namespace An
open PySem L2
/-- one step of the first of the longest rows: 0 where that is as long, else 1 -/
def rowStep (rs : List Rule) (n : Nat) (t : Row) : Int := if freeP rs t 0 = true ∧ ext rs n (nextTail (wd rs) t 0) = true then 0 else 1
def rowFrom (rs : List Rule) : Nat → Row → Row
  | 0, _ => []
  | n + 1, t => rowStep rs n t :: rowFrom rs n (nextTail (wd rs) t (rowStep rs n t))
section
variable {P : Program} {w : World} {K : PySem.W.Frag} {mg : Str → Option Value} {base : Heap}
def N_longest_row : List Str := ["rules", "ranks", "found", "tail", "place", "there", "best"]
theorem sc_longest_row : FnScope N_longest_row ["rules"] (defScope S_longest_row) := ⟨rfl, rfl, rfl, by decide +kernel, rfl, by decide +kernel, by decide +kernel⟩
def RowV (H : Hp) (rs : List Rule) (v : V) : Prop := (∃ n : Nat, IsRk rs [] n ∧ n < 255 ∧ TupI H v (rowFrom rs n [])) ∨ ((∀ n, ext rs n [] = true) ∧ v = .non)
def spLongestRow : Sp := fun vs H Q _ => ∃ rv rs, vs = [rv] ∧ RulesAt H rv rs ∧ RulesOk rs ∧ ∀ v H', Same H H' → RowV H' rs v → Q v H'
/-- of a rank that is not nought: some step leads on, to one less; and no step leads to more -/
theorem IsRk.step {rs : List Rule} {t : Row} {n : Nat} (h : IsRk rs t (n + 1)) : (freeP rs t (rowStep rs n t) = true ∧ IsRk rs (nextTail (wd rs) t (rowStep rs n t)) n) ∧ (rowStep rs n t = 0 ∨ rowStep rs n t = 1) := by
  have no : ∀ p : Int, (p = 0 ∨ p = 1) → freeP rs t p = true → ext rs (n + 1) (nextTail (wd rs) t p) = false := fun p hp hf => by
    cases e : ext rs (n + 1) (nextTail (wd rs) t p)
    · rfl
    · have : ext rs (n + 2) t = true := List.any_eq_true.mpr ⟨_, mem_succs.mpr ⟨p, hp, hf, rfl⟩, e⟩
      rw [h.2] at this; cases this
  unfold rowStep
  by_cases c : freeP rs t 0 = true ∧ ext rs n (nextTail (wd rs) t 0) = true
  · rw [if_pos c]
    exact ⟨⟨c.1, c.2, no 0 (.inl rfl) c.1⟩, .inl rfl⟩
  · rw [if_neg c]
    obtain ⟨u, hu, e⟩ := List.any_eq_true.mp (show (succs rs t).any (ext rs n) = true from h.1)
    obtain ⟨p, hp, hf, rfl⟩ := mem_succs.mp hu
    rcases hp with rfl | rfl
    · exact absurd ⟨hf, e⟩ c
    · exact ⟨⟨hf, e, no 1 (.inr rfl) hf⟩, .inr rfl⟩
/-- between two turns of the while: n places still to come -/
structure PR (rs : List Rule) (H : Hp) (R : Addr) (rk : Rk) (fv tv : V) (H' : Hp) (n : Nat) (fd t : Row) (all : Row) : Prop where
  sm : Same H H'
  hR : H' R = some (.dT (encR rk))
  hf : TupI H' fv fd
  ht : TupI H' tv t
  re : Reach rs [] t
  rk : IsRk rs t n
  eq : fd ++ rowFrom rs n t = all
  ln : fd.length + n < 255
theorem PR.same {rs : List Rule} {H : Hp} {R : Addr} {rk : Rk} {fv tv : V} {H1 H2 : Hp} {n : Nat} {fd t all : Row} (h : PR rs H R rk fv tv H1 n fd t all) (e : Same H1 H2) : PR rs H R rk fv tv H2 n fd t all :=
  ⟨h.sm.trans e, e _ _ h.hR, TupI.mono (TS.of e) h.hf, TupI.mono (TS.of e) h.ht, h.re, h.rk, h.eq, h.ln⟩
def WR (rs : List Rule) (H : Hp) (rv : V) (R : Addr) (rk : Rk) (all : Row) (m : Nat) (σ : L2.St) (H' : Hp) : Prop :=
  ∃ fv tv fd t x4 x5 x6, σ = [some rv, some (.ref R), some fv, some tv, x4, x5, x6] ∧ PR rs H R rk fv tv H' m fd t all
theorem RanksOk.get {rs : List Rule} {t u : Row} {rk : Rk} {n : Nat} (r : RanksOk rs t rk) (h : Reach rs t u) (k : IsRk rs u n) : valV (encR rk) (key u) = some (.int (n : Nat)) := by
  by_cases m : u ∈ ks rk
  · have e : rkOf rk u = n := IsRk.uniq (r.val _ (rkOf_mem m)) k
    rw [encR_some m, e]
  · exact (k.not_inf (r.inf u h m)).elim
theorem RanksOk.fin {rs : List Rule} {t u : Row} {rk : Rk} {n : Nat} (r : RanksOk rs t rk) (h : Reach rs t u) (k : ext rs n u = false) : ∃ m, IsRk rs u m ∧ valV (encR rk) (key u) = some (.int (m : Nat)) := by
  by_cases m : u ∈ ks rk
  · exact ⟨_, r.val _ (rkOf_mem m), encR_some m⟩
  · have := r.inf u h m n
    rw [k] at this; cases this
def best (rs : List Rule) (n : Nat) (t : Row) (p : Int) : Prop := freeP rs t p = true ∧ ext rs n (nextTail (wd rs) t p) = true
/-- between two turns of the for over (1, 0) -/
def WF (rs : List Rule) (H : Hp) (rv : V) (R : Addr) (rk : Rk) (all : Row) (n : Nat) (c5 : Addr) (fv tv : V) (fd t : Row) (i : Nat) (σ : L2.St) (H' : Hp) : Prop :=
  ∃ x4 x5 x6, σ = [some rv, some (.ref R), some fv, some tv, x4, x5, x6] ∧ PR rs H R rk fv tv H' (n + 1) fd t all ∧ H' c5 = some (.tup [.int 1, .int 0]) ∧ (i = 1 → best rs n t 1 → x6 = some (.int 1)) ∧ (i = 2 → x6 = some (.int (rowStep rs n t)))
theorem ok_longest_row (D : Dn K mg "longest_row" S_longest_row) (C_need_rules : Cl P w K mg base 4 "need_rules" spNeedRules) (C_ranks_from : Cl P w K mg base 3 "ranks_from" spRanks) (C_broken_by : Cl P w K mg base 1 "broken_by" spBroken) (C_next_tail : Cl P w K mg base 1 "next_tail" spNext) (C_widest : Cl P w K mg base 1 "widest" spWidest) : Cl P w K mg base 5 "longest_row" spLongestRow := by
  refine D.ok sc_longest_row (fun vs H Q E h => ?_) (fun _ _ _ _ _ _ us hl => match us, hl with | [_], _ => rfl) (fun f cdv A outer s H vs Q E hr h => ?_)
  · obtain ⟨rv, rs, rfl, _⟩ := h; rfl
  · obtain ⟨rv, rs, rfl, hR, ok, k⟩ := h
    have nd := sc_longest_row.nd
    have hu := hu_of hr
    have hr_need_rules := hr
    have hr_ranks_from := hr.mono (show 3 ≤ 4 by decide)
    have hr_broken_by := hr.mono (show 1 ≤ 4 by decide)
    have hr_next_tail := hr.mono (show 1 ≤ 4 by decide)
    have hr_widest := hr.mono (show 1 ≤ 4 by decide)
    have wide := ok.wide
    refine ⟨_, (pss_cons (ps_expr (pe_callC C_need_rules hr_need_rules rfl (pa_cons (pv 0) pa_nil)))
    (pss_cons (ps_set (i := 1) nd rfl (Or.inl rfl) (pe_callC C_ranks_from hr_ranks_from rfl (pa_cons (pv 0) (pa_cons (pe_tup pa_nil) pa_nil))))
    (pss_cons (ps_if (pt_cmp (pc_dnotin hu (pe_tup pa_nil) (pv 1)))
    (pss_one (ps_ret pe_non))
    pss_nil)
    (pss_cons (ps_set (i := 2) nd rfl (Or.inl rfl) (pe_tup pa_nil))
    (pss_cons (ps_set (i := 3) nd rfl (Or.inl rfl) (pe_tup pa_nil))
    (pss_cons (ps_while PassesOwn.never (pt_cmpR op_gt (pe_dget hu (pv 1) (pv 3) (fun _ _ => rfl)) pe_int (nomark _))
    (pss_cons (ps_for PassesOwn.never rfl (pi_tup (pe_tup (pa_cons pe_int (pa_cons pe_int pa_nil)))) (pg_name (i := 4) nd rfl (Or.inl rfl))
    (pss_cons (ps_set (i := 5) nd rfl (Or.inl rfl) (pe_callC C_next_tail hr_next_tail rfl (pa_cons (pe_callC C_widest hr_widest rfl (pa_cons (pv 0) pa_nil)) (pa_cons (pv 3) (pa_cons (pv 4) pa_nil)))))
    (pss_one (ps_if (PW.pt (pw_and (pt_cmpR op_isN (pe_callC C_broken_by hr_broken_by rfl (pa_cons (pv 0) (pa_cons (pv 3) (pa_cons (pv 4) pa_nil)))) pe_non (nomark _)) (pw_and1 (pt_cmpR op_eq (pe_dget hu (pv 1) (pv 5) (fun _ _ => rfl)) (pe_op op_sub (pe_dget hu (pv 1) (pv 3) (fun _ _ => rfl)) pe_int) (nomark _)))))
    (pss_one (ps_set (i := 6) nd rfl (Or.inl rfl) (pv 4)))
    pss_nil))))
    (pss_cons (ps_aug (i := 2) nd rfl (Or.inl rfl) (pe_tup (pa_cons (pv 6) pa_nil)) (ip_of iop_catA))
    (pss_one (ps_set (i := 3) nd rfl (Or.inl rfl) (pe_callC C_next_tail hr_next_tail rfl (pa_cons (pe_callC C_widest hr_widest rfl (pa_cons (pv 0) pa_nil)) (pa_cons (pv 3) (pa_cons (pv 6) pa_nil)))))))))
    (pss_one (ps_ret (pv 2))))))))), ?_⟩
    refine ⟨_, rfl, rv, rs, rfl, hR, ok, fun H1 s1 => ?_⟩
    refine ⟨_, rfl, sz (by show 0 ≤ 100000; decide), fun c hc => ?_⟩
    have s3 := s1.trans (Same.new (o := .tup []) hc)
    refine ⟨rv, .ref c, rs, [], rfl, RulesAt.mono (TS.of s3) hR, ok, ⟨c, rfl, upd_same⟩, TailOk.nil ok, fun R H2 rk nR s4 hR2 rko => ?_⟩
    have s5 := s3.trans s4
    refine ⟨sz (by show 0 ≤ 100000; decide), fun c2 hc2 => ?_⟩
    have s6 : Same H2 (upd H2 c2 (.tup [])) := Same.new hc2
    refine ⟨_, rfl, R, _, rfl, DGet.t (k := key []) (s6 _ _ hR2) upd_same, _, rfl, ?_⟩
    by_cases hm : ([] : Row) ∈ ks rk
    · rw [encR_some hm]
      refine iteF ?_
      have ir := rko.val _ (rkOf_mem hm)
      have il := rko.lt _ (rkOf_mem hm)
      refine ⟨sz (by show 0 ≤ 100000; decide), fun c3 hc3 => ⟨sz (by show 0 ≤ 100000; decide), fun c4 hc4 => ?_⟩⟩
      have s7 : Same (upd H2 c2 (.tup [])) (upd (upd (upd H2 c2 (.tup [])) c3 (.tup [])) c4 (.tup [])) := (Same.new hc3).trans (Same.new hc4)
      have s8 := s6.trans s7
      have s9 : Same (upd (upd H2 c2 (.tup [])) c3 (.tup [])) (upd (upd (upd H2 c2 (.tup [])) c3 (.tup [])) c4 (.tup [])) := Same.new hc4
      refine ⟨WR rs H rv R rk (rowFrom rs (rkOf rk []) []), ⟨rkOf rk [], .ref c3, .ref c4, [], [], none, none, none, rfl, ⟨s5.trans s8, s8 _ _ hR2, ⟨c3, rfl, s9 _ _ upd_same⟩, ⟨c4, rfl, upd_same⟩, .refl, ir, rfl, by show 0 + _ < _; omega⟩⟩, ?_⟩
      rintro m σ H3 ⟨fv, tv, fd, t, x4, x5, x6, rfl, p⟩
      obtain ⟨ta, rfl, hta⟩ := id p.ht
      have htk : H3 ta = some (.tup ((key t).map kV)) := by rw [key_map]; exact hta
      have hgt : DGet H3 R (.ref ta) (some (.int (m : Nat))) := by rw [← rko.get p.re p.rk]; exact DGet.t p.hR htk
      refine ⟨_, rfl, _, rfl, R, _, rfl, hgt, _, _, rfl, rfl, _, rfl, ite2 (fun hlt => ?_) (fun hge => ?_)⟩
      · rw [decide_eq_true_eq] at hlt
        obtain ⟨n, rfl⟩ : ∃ n, m = n + 1 := ⟨m - 1, by omega⟩
        obtain ⟨⟨hfree, hrk⟩, h01⟩ := IsRk.step p.rk
        refine ⟨fun σ2 H4 => ∃ m', m' < n + 1 ∧ WR rs H rv R rk (rowFrom rs (rkOf rk []) []) m' σ2 H4, fun _ _ h => h, ?_⟩
        refine ⟨sz (by show 2 ≤ 100000; decide), fun c5 hc5 => ?_⟩
        have p1 := p.same (Same.new (o := .tup [.int 1, .int 0]) hc5)
        have tok : TailOk rs t := Reach.ok ok (TailOk.nil ok) p.re
        have tlen : t.length ≤ 1000 := by have := tok.2; omega
        refine ⟨c5, rfl, ⟨_, SqT.of upd_same⟩, for_tup (xs := [.int 1, .int 0]) (WF rs H rv R rk (rowFrom rs (rkOf rk []) []) n c5 fv (.ref ta) fd t) ⟨x4, x5, x6, rfl, p1, upd_same, (fun e => by cases e), (fun e => by cases e)⟩ (fun i σ H' _ ⟨_, _, _, _, _, h, _⟩ => SqT.of h) ?_ ?_⟩
        · rintro i x σ H4 hi ⟨y4, y5, y6, rfl, p2, hc5', b1, b2⟩
          obtain ⟨pl, hp, rfl⟩ : ∃ p : Int, ([1, 0] : List Int)[i]? = some p ∧ x = .int p := by
            match i, hi with
            | 0, h => cases h; exact ⟨1, rfl, rfl⟩
            | 1, h => cases h; exact ⟨0, rfl, rfl⟩
          have hp01 : pl = 0 ∨ pl = 1 := by
            match i, hp with
            | 0, h => cases h; exact .inr rfl
            | 1, h => cases h; exact .inl rfl
          have step : ∀ (H5 : Hp) (z5 z6 : Option V), PR rs H R rk fv (.ref ta) H5 (n + 1) fd t (rowFrom rs (rkOf rk []) []) → H5 c5 = some (.tup [.int 1, .int 0]) → (best rs n t pl → z6 = some (.int pl)) → (¬ best rs n t pl → z6 = y6) →
              WF rs H rv R rk (rowFrom rs (rkOf rk []) []) n c5 fv (.ref ta) fd t (i + 1) [some rv, some (.ref R), some fv, some (.ref ta), some (.int pl), z5, z6] H5 := fun H5 z5 z6 q1 q2 q3 q4 => by
            refine ⟨_, _, _, rfl, q1, q2, fun e hb => ?_, fun e => ?_⟩
            · have : i = 0 := by omega
              subst this; cases hp; exact q3 hb
            · have : i = 1 := by omega
              subst this; cases hp
              by_cases c : best rs n t 0
              · have e1 : rowStep rs n t = 0 := if_pos c
                rw [q3 c, e1]
              · have e1 : rowStep rs n t = 1 := if_neg c
                rw [q4 c, e1]
                exact b1 rfl ⟨e1 ▸ hfree, e1 ▸ hrk.1⟩
          have hR4 := RulesAt.mono (TS.of p2.sm) hR
          refine ⟨_, rfl, rv, rs, rfl, hR4, ok, _, rfl, _, rfl, .ref ta, wd rs, t, pl, rfl, p2.ht, tlen, wide.1, wide.2, fun v5 H5 s5' hv5 => ?_⟩
          have p3 := p2.same s5'
          refine ⟨_, rfl, _, rfl, _, rfl, rv, .ref ta, rs, t, pl, rfl, RulesAt.mono (TS.of s5') hR4, ok, p3.ht, fun v6 H6 s6' ov => ⟨rfl, _, rfl, ?_⟩⟩
          have p4 := p3.same s6'
          have hc6 := s6' _ _ (s5' _ _ hc5')
          rw [OptRule.isN ov]
          refine ite2 (fun hf => ?_) (fun hf => ?_)
          · have hf' : freeP rs t pl = true := hf
            have hre : Reach rs [] (nextTail (wd rs) t pl) := .step p.re (mem_succs.mpr ⟨pl, hp01, hf', rfl⟩)
            have hno : ext rs (n + 1) (nextTail (wd rs) t pl) = false := by
              cases e : ext rs (n + 1) (nextTail (wd rs) t pl)
              · rfl
              · have : ext rs (n + 2) t = true := List.any_eq_true.mpr ⟨_, mem_succs.mpr ⟨pl, hp01, hf', rfl⟩, e⟩
                rw [p.rk.2] at this; cases this
            obtain ⟨m', hm', hv'⟩ := rko.fin hre hno
            obtain ⟨b5, rfl, hb5⟩ := TupI.mono (TS.of s6') hv5
            obtain ⟨tb, etb, htb⟩ := p4.ht
            cases etb
            have hg5 : DGet H6 R (.ref b5) (some (.int (m' : Nat))) := by
              rw [← hv']; exact DGet.t p4.hR (by rw [key_map]; exact hb5)
            have hgt' : DGet H6 R (.ref ta) (some (.int ((n + 1 : Nat) : Nat))) := by
              rw [← rko.get p.re p.rk]; exact DGet.t p4.hR (by rw [key_map]; exact htb)
            refine ⟨_, rfl, _, rfl, R, _, rfl, hg5, _, rfl, _, rfl, R, _, rfl, hgt', _, _, rfl, rfl, rfl, _, rfl, ?_⟩
            refine ite2 (fun he => ?_) (fun he => ?_)
            · have em : m' = n := by
                have : V.int ((m' : Nat) : Int) = V.int (((n + 1 : Nat) : Int) - 1) := of_decide_eq_true he
                injection this with this; omega
              subst em
              exact ⟨_, rfl, step H6 _ _ p4 hc6 (fun _ => rfl) fun c => absurd ⟨hf', hm'.1⟩ c⟩
            · refine step H6 _ _ p4 hc6 (fun c => ?_) fun _ => rfl
              exfalso
              refine he (decide_eq_true ?_)
              have em : m' = n := by
                rcases Nat.lt_trichotomy m' n with z | z | z
                · have := ext_le rs _ c.2 z
                  rw [hm'.2] at this; cases this
                · exact z
                · have := ext_le rs _ hm'.1 z
                  rw [hno] at this; cases this
              rw [em]
              show V.int _ = V.int _
              congr 1; omega
          · refine step H6 _ _ p4 hc6 (fun c => ?_) fun _ => rfl
            exact absurd c.1 hf
        · rintro σ H4 ⟨y4, y5, y6, rfl, p2, hc5', b1, b2⟩
          have e6 := b2 rfl
          subst e6
          obtain ⟨fa, rfl, hfa⟩ := id p2.hf
          refine ⟨_, rfl, _, rfl, sz (by show 1 ≤ 100000; decide), fun c6 hc6 => ?_⟩
          have s6' : Same H4 (upd H4 c6 (.tup [.int (rowStep rs n t)])) := Same.new hc6
          refine cat_any (s6' _ _ hfa) upd_same (by have := p2.ln; rw [List.length_map, List.length_singleton]; omega) fun q7 H7 s7' hq7 => ?_
          have hq7 : H7 q7 = some (.tup ((fd ++ [rowStep rs n t]).map V.int)) := by rw [List.map_append]; exact hq7
          have p3 := p2.same (s6'.trans s7')
          have hR7 := RulesAt.mono (TS.of p3.sm) hR
          refine ⟨_, rfl, rv, rs, rfl, hR7, ok, _, rfl, _, rfl, .ref ta, wd rs, t, _, rfl, p3.ht, tlen, wide.1, wide.2, fun v8 H8 s8' hv8 => ?_⟩
          have p4 := p3.same s8'
          refine ⟨n, Nat.lt_succ_self _, .ref q7, v8, fd ++ [rowStep rs n t], nextTail (wd rs) t (rowStep rs n t), _, _, _, rfl, ⟨p4.sm, p4.hR, ⟨q7, rfl, s8' _ _ hq7⟩, hv8, .step p.re (mem_succs.mpr ⟨_, h01, hfree, rfl⟩), hrk, ?_, ?_⟩⟩
          · rw [List.append_assoc, ← p.eq]; rfl
          · rw [List.length_append, List.length_singleton]; have := p.ln; omega
      · rw [decide_eq_true_eq] at hge
        have e0 : m = 0 := by omega
        subst e0
        refine ⟨_, rfl, k _ _ p.sm (.inl ⟨_, ir, il, ?_⟩)⟩
        rw [← p.eq]
        show TupI H3 fv (fd ++ [])
        rw [List.append_nil]; exact p.hf
    · rw [encR_none hm]
      refine iteT ?_
      exact k _ _ (s5.trans s6) (.inr ⟨rko.inf _ .refl hm, rfl⟩)
end
end An
-- imports: D6
/-! ### M3: rows that fit, the first of them, and when they end, in plain Lean -/
namespace An
open PySem L2
/-- the last places of a row that count -/
def tl (wide : Int) (u : Row) : Row := u.drop (u.length + 1 - wide.toNat)
def endSum (u : Row) (s : Int) : Int := (u.drop (u.length - s.toNat)).sum
def okRule (u : Row) (r : Rule) : Bool := !(decide (r.1 ≤ (u.length : Int))) || (decide (r.2.1 ≤ endSum u r.1) && decide (endSum u r.1 ≤ r.2.2))
def fits (rs : List Rule) (u : Row) : Bool := rs.all (okRule u)
theorem span_le {rs : List Rule} (ok : RulesOk rs) {r : Rule} (h : r ∈ rs) : r.1 ≤ wd rs := by
  obtain ⟨z, hz, e, hl⟩ := wd_mem ok.some
  rw [e]
  obtain ⟨i, hi, rfl⟩ := List.getElem_of_mem h
  rw [List.getLast?_eq_getElem?] at hl
  obtain ⟨hj, rfl⟩ := List.getElem?_eq_some_iff.mp hl
  rcases Nat.lt_or_ge i (rs.length - 1) with c | c
  · exact Int.le_of_lt (List.pairwise_iff_getElem.mp ok.up i (rs.length - 1) hi hj c)
  · have : i = rs.length - 1 := by omega
    subst this; exact Int.le_refl _
theorem tl_len {wide : Int} {u : Row} (h : 1 ≤ wide) : ((tl wide u).length : Int) + 1 ≤ wide := by
  unfold tl; rw [List.length_drop]; omega
theorem tl_snoc {wide : Int} {u : Row} {p : Int} (h : 1 ≤ wide) : tl wide (u ++ [p]) = nextTail wide (tl wide u) p := by
  unfold tl nextTail
  rw [List.length_append, List.length_singleton, List.length_drop]
  have k : u.length + 1 - wide.toNat ≤ u.length := by omega
  rw [← List.drop_append_of_le_length k, List.drop_drop]
  congr 1; omega
theorem fits_snoc {rs : List Rule} (ok : RulesOk rs) (u : Row) (p : Int) : fits rs (u ++ [p]) = freeP rs (tl (wd rs) u) p := by
  have w := ok.wide
  unfold fits freeP brokenBy
  rw [Bool.eq_iff_iff, List.all_eq_true, Option.isNone_iff_eq_none, List.find?_eq_none]
  have key : ∀ r ∈ rs, (okRule (u ++ [p]) r = true ↔ ¬ bad (tl (wd rs) u) p r = true) := fun r hr => by
    have ro := ok.one r hr
    have rw' := span_le ok hr
    have el : (tl (wd rs) u).length = u.length - (u.length + 1 - (wd rs).toNat) := by unfold tl; rw [List.length_drop]
    unfold okRule bad
    rw [List.length_append, List.length_singleton]
    by_cases c : r.1 ≤ (u.length : Int) + 1
    · have c2 : r.1 ≤ ((tl (wd rs) u).length : Int) + 1 := by rw [el]; omega
      have e : endSum (u ++ [p]) r.1 = cnt (tl (wd rs) u) p r.1 := by
        unfold endSum cnt
        rw [List.length_append, List.length_singleton, List.drop_append_of_le_length (by omega), List.sum_append]
        have : (tl (wd rs) u).drop ((tl (wd rs) u).length + 1 - r.1.toNat) = u.drop (u.length + 1 - r.1.toNat) := by
          rw [el]
          unfold tl
          rw [List.drop_drop]
          congr 1; omega
        rw [this]; simp
      rw [e, decide_eq_true c2, decide_eq_true (show r.1 ≤ ((u.length + 1 : Nat) : Int) by omega)]
      simp
    · have c2 : ¬ r.1 ≤ ((tl (wd rs) u).length : Int) + 1 := by rw [el]; omega
      rw [decide_eq_false c2, decide_eq_false (show ¬ r.1 ≤ ((u.length + 1 : Nat) : Int) by omega)]
      simp
  constructor
  · intro h r hr; exact (key r hr).mp (h r hr)
  · intro h r hr; exact (key r hr).mpr (h r hr)
/-! #### the words that can follow, in order -/
def words (rs : List Rule) : Nat → Row → List Row
  | 0, _ => [[]]
  | n + 1, t => (([0, 1] : List Int).filter (freeP rs t)).flatMap fun p => (words rs n (nextTail (wd rs) t p)).map (p :: ·)
theorem mem_01 {p : Int} : p ∈ ([0, 1] : List Int) ↔ p = 0 ∨ p = 1 := by simp
theorem ext_words (rs : List Rule) : ∀ (n : Nat) (t : Row), ext rs n t = true ↔ words rs n t ≠ []
  | 0, _ => ⟨fun _ e => (by cases e), fun _ => rfl⟩
  | n + 1, t => by
    constructor
    · intro h
      obtain ⟨u, hu, e⟩ := List.any_eq_true.mp (show (succs rs t).any (ext rs n) = true from h)
      obtain ⟨p, hp, hf, rfl⟩ := mem_succs.mp hu
      have ne := (ext_words rs n _).mp e
      obtain ⟨w, hw⟩ := List.exists_mem_of_ne_nil _ ne
      intro z
      have : p :: w ∈ words rs (n + 1) t := List.mem_flatMap.mpr ⟨p, List.mem_filter.mpr ⟨mem_01.mpr hp, hf⟩, List.mem_map.mpr ⟨w, hw, rfl⟩⟩
      rw [z] at this; cases this
    · intro h
      obtain ⟨w, hw⟩ := List.exists_mem_of_ne_nil _ h
      obtain ⟨p, hp, hm⟩ := List.mem_flatMap.mp (show w ∈ List.flatMap _ _ from hw)
      obtain ⟨h1, h2⟩ := List.mem_filter.mp hp
      obtain ⟨v, hv, _⟩ := List.mem_map.mp hm
      exact List.any_eq_true.mpr ⟨_, mem_succs.mpr ⟨p, mem_01.mp h1, h2, rfl⟩, (ext_words rs n _).mpr fun z => by rw [z] at hv; cases hv⟩
theorem words_head (rs : List Rule) : ∀ (n : Nat) (t : Row), words rs n t ≠ [] → (words rs n t).head? = some (rowFrom rs n t)
  | 0, _, _ => rfl
  | n + 1, t, h => by
    have e : words rs (n + 1) t = (if freeP rs t 0 = true then (words rs n (nextTail (wd rs) t 0)).map (0 :: ·) else []) ++ (if freeP rs t 1 = true then (words rs n (nextTail (wd rs) t 1)).map (1 :: ·) else []) := by
      show List.flatMap _ _ = _
      by_cases a : freeP rs t 0 = true <;> by_cases b : freeP rs t 1 = true <;> simp [a, b, List.filter_cons]
    by_cases c : freeP rs t 0 = true ∧ ext rs n (nextTail (wd rs) t 0) = true
    · have ne := (ext_words rs n _).mp c.2
      have s : rowStep rs n t = 0 := if_pos c
      show _ = some (rowStep rs n t :: rowFrom rs n (nextTail (wd rs) t (rowStep rs n t)))
      rw [e, if_pos c.1, s, List.head?_append, List.head?_map, words_head rs n _ ne]; rfl
    · have s : rowStep rs n t = 1 := if_neg c
      have z : (if freeP rs t 0 = true then (words rs n (nextTail (wd rs) t 0)).map (0 :: ·) else []) = [] := by
        by_cases a : freeP rs t 0 = true
        · rw [if_pos a]
          have : words rs n (nextTail (wd rs) t 0) = [] := Classical.byContradiction fun ne => c ⟨a, (ext_words rs n _).mpr ne⟩
          rw [this]; rfl
        · rw [if_neg a]
      rw [z, List.nil_append] at e
      show _ = some (rowStep rs n t :: rowFrom rs n (nextTail (wd rs) t (rowStep rs n t)))
      rw [e] at h ⊢
      by_cases b : freeP rs t 1 = true
      · rw [if_pos b] at h ⊢
        have ne : words rs n (nextTail (wd rs) t 1) ≠ [] := fun q => h (by rw [q]; rfl)
        rw [s, List.head?_map, words_head rs n _ ne]; rfl
      · rw [if_neg b] at h; exact absurd rfl h
/-- a word's beginnings all fit -/
theorem words_fit {rs : List Rule} (ok : RulesOk rs) : ∀ (n : Nat) (u w : Row), w ∈ words rs n (tl (wd rs) u) → w.length = n ∧ (∀ x ∈ w, x = 0 ∨ x = 1) ∧ ∀ j, j < n → fits rs (u ++ w.take (j + 1)) = true
  | 0, _, w, h => by
    rw [List.mem_singleton.mp h]
    exact ⟨rfl, fun x hx => (by cases hx), fun j hj => absurd hj (Nat.not_lt_zero _)⟩
  | n + 1, u, w, h => by
    obtain ⟨p, hp, hm⟩ := List.mem_flatMap.mp (show w ∈ List.flatMap _ _ from h)
    obtain ⟨h1, h2⟩ := List.mem_filter.mp hp
    obtain ⟨v, hv, rfl⟩ := List.mem_map.mp hm
    rw [← tl_snoc ok.wide.1] at hv
    obtain ⟨a, b, c⟩ := words_fit ok n (u ++ [p]) v hv
    refine ⟨by rw [List.length_cons, a], fun x hx => ?_, fun j hj => ?_⟩
    · rcases List.mem_cons.mp hx with rfl | hx
      · exact mem_01.mp h1
      · exact b x hx
    · match j, hj with
      | 0, _ =>
        show fits rs (u ++ [p]) = true
        rw [fits_snoc ok]; exact h2
      | j + 1, hj =>
        have q := c j (by omega)
        rw [List.append_assoc] at q
        exact q
/-! #### rows that share their last places -/
def grown (rs : List Rule) (n : Nat) (F : List Row) : List Row := F.flatMap fun r => (words rs n (tl (wd rs) r)).map (r ++ ·)
def more1 (rs : List Rule) (r : Row) : List Row := (([0, 1] : List Int).filter fun p => fits rs (r ++ [p])).map fun p => r ++ [p]
def moreF (rs : List Rule) (F : List Row) : List Row := F.flatMap (more1 rs)
theorem grown_succ {rs : List Rule} (ok : RulesOk rs) (n : Nat) (F : List Row) : grown rs (n + 1) F = grown rs n (moreF rs F) := by
  unfold grown moreF
  rw [List.flatMap_assoc]
  congr 1
  funext r
  unfold more1
  rw [List.flatMap_map]
  show List.map _ (List.flatMap _ _) = _
  rw [List.map_flatMap]
  have e : (fun p => fits rs (r ++ [p])) = freeP rs (tl (wd rs) r) := funext fun p => fits_snoc ok r p
  rw [e]
  congr 1
  funext p
  rw [List.map_map, tl_snoc ok.wide.1]
  congr 1
  funext w
  show r ++ p :: w = r ++ [p] ++ w
  rw [List.append_assoc]; rfl
def thinStep (wide : Int) (found : List Row) (r : Row) : List Row := if tl wide r ∈ found.map (tl wide) then found else found ++ [r]
def thin (wide : Int) (F : List Row) : List Row := F.foldl (thinStep wide) []
theorem thin_snoc (wide : Int) (F : List Row) (r : Row) : thin wide (F ++ [r]) = thinStep wide (thin wide F) r := by
  unfold thin; rw [List.foldl_append]; rfl
theorem snoc_ind {α : Type} {C : List α → Prop} (h0 : C []) (h1 : ∀ l a, C l → C (l ++ [a])) (l : List α) : C l := by
  rw [← List.reverse_reverse l]
  induction l.reverse with
  | nil => exact h0
  | cons a m ih => rw [List.reverse_cons]; exact h1 _ _ ih
theorem thin_sub (wide : Int) (F : List Row) : ∀ r ∈ thin wide F, r ∈ F := by
  induction F using snoc_ind with
  | h0 => exact fun r h => h
  | h1 F a ih =>
    intro r h
    rw [thin_snoc] at h
    unfold thinStep at h
    split at h
    · exact List.mem_append_left _ (ih r h)
    · rcases List.mem_append.mp h with z | z
      · exact List.mem_append_left _ (ih r z)
      · exact List.mem_append_right _ z
theorem thin_nd (wide : Int) (F : List Row) : ((thin wide F).map (tl wide)).Nodup := by
  induction F using snoc_ind with
  | h0 => exact List.nodup_nil
  | h1 F a ih =>
    rw [thin_snoc]
    unfold thinStep
    split
    · exact ih
    · next h => rw [List.map_append]; exact nodup_snoc ih h
theorem thin_ne (wide : Int) (F : List Row) (h : F ≠ []) : thin wide F ≠ [] := by
  induction F using snoc_ind with
  | h0 => exact absurd rfl h
  | h1 F a _ =>
    rw [thin_snoc]
    unfold thinStep
    split
    · next m => intro e; rw [e] at m; cases m
    · intro e; exact absurd (congrArg List.length e) (by rw [List.length_append, List.length_singleton]; exact Nat.succ_ne_zero _)
theorem thin_head (rs : List Rule) (n : Nat) (F : List Row) : (grown rs n (thin (wd rs) F)).head? = (grown rs n F).head? := by
  induction F using snoc_ind with
  | h0 => rfl
  | h1 F a ih =>
    have app : ∀ A : List Row, grown rs n (A ++ [a]) = grown rs n A ++ (words rs n (tl (wd rs) a)).map (a ++ ·) := fun A => by
      unfold grown; rw [List.flatMap_append]; simp
    rw [thin_snoc]
    unfold thinStep
    split
    · next m =>
      rw [app, List.head?_append, ← ih]
      cases e : (grown rs n (thin (wd rs) F)).head? with
      | some x => rfl
      | none =>
        obtain ⟨b, hb, eb⟩ := List.mem_map.mp m
        have z : words rs n (tl (wd rs) b) = [] := by
          have : grown rs n (thin (wd rs) F) = [] := List.head?_eq_none_iff.mp e
          have q := List.flatMap_eq_nil_iff.mp this b hb
          exact List.map_eq_nil_iff.mp q
        rw [eb] at z
        rw [z]; rfl
    · rw [app, app, List.head?_append, List.head?_append, ih]
structure Front (rs : List Rule) (k : Nat) (F : List Row) : Prop where
  hd : ∀ n, k ≤ n → (words rs n []).head? = (grown rs (n - k) F).head?
  ne : F ≠ []
  ln : ∀ r ∈ F, r.length = k ∧ ∀ x ∈ r, x = 0 ∨ x = 1
  nd : (F.map (tl (wd rs))).Nodup
theorem tl_nil {wide : Int} : tl wide [] = [] := by unfold tl; exact List.drop_nil
theorem Front.start (rs : List Rule) : Front rs 0 [[]] := by
  refine ⟨fun n _ => ?_, (fun e => by cases e), fun r h => ?_, List.nodup_cons.mpr ⟨List.not_mem_nil, List.nodup_nil⟩⟩
  · unfold grown
    rw [List.flatMap_cons, List.flatMap_nil, tl_nil, List.append_nil, Nat.sub_zero]
    rw [show (fun x : Row => ([] : Row) ++ x) = id from rfl, List.map_id]
  · rw [List.mem_singleton.mp h]; exact ⟨rfl, fun x hx => by cases hx⟩
theorem mem_moreF {rs : List Rule} {F : List Row} {u : Row} (h : u ∈ moreF rs F) : ∃ r ∈ F, ∃ p : Int, (p = 0 ∨ p = 1) ∧ u = r ++ [p] := by
  obtain ⟨r, hr, hu⟩ := List.mem_flatMap.mp h
  obtain ⟨p, hp, e⟩ := List.mem_map.mp hu
  exact ⟨r, hr, p, mem_01.mp (List.mem_filter.mp hp).1, e.symm⟩
theorem Front.next {rs : List Rule} {k : Nat} {F : List Row} (ok : RulesOk rs) (f : Front rs k F) (h : moreF rs F ≠ []) : Front rs (k + 1) (thin (wd rs) (moreF rs F)) := by
  refine ⟨fun n hn => ?_, thin_ne _ _ h, fun r hr => ?_, thin_nd _ _⟩
  · rw [thin_head, f.hd n (by omega), show n - k = (n - (k + 1)) + 1 by omega, grown_succ ok]
  · obtain ⟨q, hq, p, hp, rfl⟩ := mem_moreF (thin_sub _ _ _ hr)
    obtain ⟨a, b⟩ := f.ln q hq
    refine ⟨by rw [List.length_append, a]; rfl, fun x hx => ?_⟩
    rcases List.mem_append.mp hx with z | z
    · exact b x z
    · rw [List.mem_singleton.mp z]; exact hp
theorem grown_zero (rs : List Rule) (F : List Row) : grown rs 0 F = F := by
  unfold grown
  induction F with
  | nil => rfl
  | cons r F ih => rw [List.flatMap_cons, ih]; show [r ++ []] ++ F = r :: F; rw [List.append_nil]; rfl
theorem Front.ext {rs : List Rule} {k : Nat} {F : List Row} (f : Front rs k F) : An.ext rs k [] = true ∧ F.head? = some (rowFrom rs k []) := by
  have h := f.hd k (Nat.le_refl _)
  rw [Nat.sub_self, grown_zero] at h
  have ne : words rs k [] ≠ [] := fun e => f.ne (List.head?_eq_none_iff.mp (by rw [← h, e]; rfl))
  exact ⟨(ext_words rs k []).mpr ne, by rw [← h]; exact words_head rs k [] ne⟩
theorem Front.stop {rs : List Rule} {k : Nat} {F : List Row} (ok : RulesOk rs) (f : Front rs k F) (h : moreF rs F = []) : IsRk rs [] k := by
  refine ⟨f.ext.1, ?_⟩
  have q := f.hd (k + 1) (by omega)
  rw [show k + 1 - k = 0 + 1 by omega, grown_succ ok, h] at q
  cases e : An.ext rs (k + 1) []
  · rfl
  · exact absurd (List.head?_eq_none_iff.mp q) ((ext_words rs _ _).mp e)
theorem Front.few {rs : List Rule} {k : Nat} {F : List Row} (ok : RulesOk rs) (f : Front rs k F) : F.length ≤ 255 := by
  have q := nodup_le (F.map (tl (wd rs))) allTails f.nd fun x hx => by
    obtain ⟨r, hr, rfl⟩ := List.mem_map.mp hx
    exact mem_allTails ok ⟨fun x hx => (f.ln r hr).2 x (List.mem_of_mem_drop hx), tl_len ok.wide.1⟩
  rw [List.length_map, allTails_len] at q
  exact q
theorem moreF_len (rs : List Rule) (F : List Row) : (moreF rs F).length ≤ 2 * F.length := by
  unfold moreF
  induction F with
  | nil => exact Nat.le_refl _
  | cons r F ih =>
    rw [List.flatMap_cons, List.length_append, List.length_cons]
    have : (more1 rs r).length ≤ 2 := by
      unfold more1; rw [List.length_map]; exact List.length_filter_le _ _
    omega
end An
-- imports: M3
/-! ### M4: rows end within 15 places, or never -/
namespace An
open PySem L2
def sm (f : Nat → Int) : Nat → Int
  | 0 => 0
  | n + 1 => sm f n + f n
theorem sm_add (f : Nat → Int) (a : Nat) : ∀ b, sm f (a + b) = sm f a + sm (fun x => f (a + x)) b
  | 0 => by show sm f a = sm f a + 0; omega
  | b + 1 => by
    show sm f (a + b) + f (a + b) = sm f a + (sm (fun x => f (a + x)) b + f (a + b))
    rw [sm_add f a b]; omega
theorem sm_ge (f g : Nat → Int) (c : Int) : ∀ n : Nat, (∀ x, x < n → f x + c ≤ g x) → sm f n + n * c ≤ sm g n
  | 0, _ => by show (0:Int) + ((0 : Nat) : Int) * c ≤ 0; simp
  | n + 1, h => by
    have ih := sm_ge f g c n fun x hx => h x (by omega)
    have hn := h n (Nat.lt_succ_self n)
    show sm f n + f n + ((n + 1 : Nat) : Int) * c ≤ sm g n + g n
    have : ((n + 1 : Nat) : Int) * c = (n : Int) * c + c := by rw [Int.natCast_add, Int.add_mul]; simp
    rw [this]; omega
theorem sm_le (f g : Nat → Int) (c : Int) : ∀ n : Nat, (∀ x, x < n → g x ≤ f x + c) → sm g n ≤ sm f n + n * c
  | 0, _ => by show (0:Int) ≤ 0 + ((0 : Nat) : Int) * c; simp
  | n + 1, h => by
    have ih := sm_le f g c n fun x hx => h x (by omega)
    have hn := h n (Nat.lt_succ_self n)
    show sm g n + g n ≤ sm f n + f n + ((n + 1 : Nat) : Int) * c
    have : ((n + 1 : Nat) : Int) * c = (n : Int) * c + c := by rw [Int.natCast_add, Int.add_mul]; simp
    rw [this]; omega
/-- two windows' sums bind each other -/
theorem no_clash (f : Nat → Int) (s1 s2 : Nat) (l m : Int) (h1 : ∀ x, x < s2 → f x + l ≤ f (s1 + x)) (h2 : ∀ x, x < s1 → f (s2 + x) ≤ f x + m) : (s2 : Int) * l ≤ s1 * m := by
  have a := sm_add f s1 s2
  have b := sm_add f s2 s1
  rw [Nat.add_comm s2 s1] at b
  have c := sm_ge f (fun x => f (s1 + x)) l s2 h1
  have d := sm_le f (fun x => f (s2 + x)) m s1 h2
  omega
theorem take_sum (w : Row) (i s : Nat) : ((w.take (i + s)).drop i).sum = (w.take (i + s)).sum - (w.take i).sum := by
  have e : (w.take (i + s)).take i ++ (w.take (i + s)).drop i = w.take (i + s) := List.take_append_drop _ _
  have := congrArg List.sum e
  rw [List.sum_append, List.take_take, Nat.min_eq_left (Nat.le_add_right _ _)] at this
  omega
/-- the windows of a row whose beginnings fit -/
theorem window {rs : List Rule} (ok : RulesOk rs) {w : Row} (h : ∀ j, j < w.length → fits rs (w.take (j + 1)) = true) {r : Rule} (hr : r ∈ rs) (i : Nat) (hi : i + r.1.toNat ≤ w.length) :
    (w.take i).sum + r.2.1 ≤ (w.take (i + r.1.toNat)).sum ∧ (w.take (i + r.1.toNat)).sum ≤ (w.take i).sum + r.2.2 := by
  have ro := ok.one r hr
  have q := h (i + r.1.toNat - 1) (by omega)
  rw [show i + r.1.toNat - 1 + 1 = i + r.1.toNat by omega] at q
  have z := List.all_eq_true.mp q r hr
  unfold okRule endSum at z
  rw [List.length_take, Nat.min_eq_left hi, decide_eq_true (show r.1 ≤ ((i + r.1.toNat : Nat) : Int) by omega), show i + r.1.toNat - r.1.toNat = i by omega, take_sum] at z
  simp only [Bool.not_true, Bool.false_or, Bool.and_eq_true, decide_eq_true_eq] at z
  omega
/-- no two rules clash, if 15 places are to be had -/
theorem agree {rs : List Rule} (ok : RulesOk rs) (h : ext rs 15 [] = true) {a b : Rule} (ha : a ∈ rs) (hb : b ∈ rs) : b.1 * a.2.1 ≤ a.1 * b.2.2 := by
  obtain ⟨w, hw⟩ := List.exists_mem_of_ne_nil _ ((ext_words rs 15 []).mp h)
  rw [show ([] : Row) = tl (wd rs) [] from tl_nil.symm] at hw
  obtain ⟨hl, _, hf⟩ := words_fit ok 15 [] w hw
  have hf' : ∀ j, j < w.length → fits rs (w.take (j + 1)) = true := fun j hj => hf j (by omega)
  have oa := ok.one a ha
  have ob := ok.one b hb
  have q := no_clash (fun i => (w.take i).sum) a.1.toNat b.1.toNat a.2.1 b.2.2 (fun x hx => ?_) (fun x hx => ?_)
  · rw [show ((b.1.toNat : Nat) : Int) = b.1 by omega, show ((a.1.toNat : Nat) : Int) = a.1 by omega] at q
    exact q
  · have := (window ok hf' ha x (by omega)).1
    rw [Nat.add_comm]; exact this
  · have := (window ok hf' hb x (by omega)).2
    rw [Nat.add_comm]; exact this
/-! #### the even row -/
def evenR (a b : Int) (n : Nat) : Row := (List.range n).map fun (j : Nat) => ((j : Int) + 1) * a / b - (j : Int) * a / b
theorem even_snoc (a b : Int) (n : Nat) : evenR a b (n + 1) = evenR a b n ++ [((n : Int) + 1) * a / b - (n : Int) * a / b] := by
  unfold evenR; rw [List.range_succ, List.map_append]; rfl
theorem even_len (a b : Int) (n : Nat) : (evenR a b n).length = n := by unfold evenR; rw [List.length_map, List.length_range]
theorem even_sum (a b : Int) : ∀ n : Nat, (evenR a b n).sum = (n : Int) * a / b
  | 0 => by show (0 : Int) = ((0 : Nat) : Int) * a / b; simp
  | n + 1 => by
    rw [even_snoc, List.sum_append, even_sum a b n, List.sum_singleton]
    have : ((n + 1 : Nat) : Int) = (n : Int) + 1 := by omega
    rw [this]; omega
theorem even_take (a b : Int) (n i : Nat) (h : i ≤ n) : (evenR a b n).take i = evenR a b i := by
  unfold evenR; rw [← List.map_take, List.take_range, Nat.min_eq_left h]
theorem even_end (a b : Int) (n s : Nat) (h : s ≤ n) : ((evenR a b n).drop (n - s)).sum = (n : Int) * a / b - ((n - s : Nat) : Int) * a / b := by
  have e : (evenR a b n).take (n - s) ++ (evenR a b n).drop (n - s) = evenR a b n := List.take_append_drop _ _
  have := congrArg List.sum e
  rw [List.sum_append, even_take a b n (n - s) (by omega), even_sum, even_sum] at this
  omega
/-- whole parts of even steps -/
theorem even_step {a b : Int} (hb : 0 < b) (x s l : Int) (h : l * b ≤ s * a) : x * a / b + l ≤ (x + s) * a / b := by
  rw [← Int.add_mul_ediv_right _ _ (Int.ne_of_gt hb)]
  refine Int.ediv_le_ediv hb ?_
  rw [Int.add_mul]; omega
theorem even_step' {a b : Int} (hb : 0 < b) (x s m : Int) (h : s * a ≤ m * b) : (x + s) * a / b ≤ x * a / b + m := by
  rw [← Int.add_mul_ediv_right _ _ (Int.ne_of_gt hb)]
  refine Int.ediv_le_ediv hb ?_
  rw [Int.add_mul]; omega
theorem even_bit {a b : Int} (hb : 0 < b) (ha : 0 ≤ a) (hab : a ≤ b) (n : Nat) : ((n : Int) + 1) * a / b - (n : Int) * a / b = 0 ∨ ((n : Int) + 1) * a / b - (n : Int) * a / b = 1 := by
  have h1 := even_step (a := a) hb (n : Int) 1 0 (by omega)
  have h2 := even_step' (a := a) hb (n : Int) 1 1 (by omega)
  omega
/-- a share that all rules allow -/
structure Share (rs : List Rule) (a b : Int) : Prop where
  pos : 0 < b
  lo : 0 ≤ a
  hi : a ≤ b
  all : ∀ r ∈ rs, r.2.1 * b ≤ r.1 * a ∧ r.1 * a ≤ r.2.2 * b
theorem even_fits {rs : List Rule} {a b : Int} (ok : RulesOk rs) (s : Share rs a b) (n : Nat) : fits rs (evenR a b n) = true := by
  refine List.all_eq_true.mpr fun r hr => ?_
  have ro := ok.one r hr
  obtain ⟨h1, h2⟩ := s.all r hr
  unfold okRule endSum
  rw [even_len]
  by_cases c : r.1 ≤ (n : Int)
  · rw [even_end a b n r.1.toNat (by omega)]
    have e1 := even_step s.pos (((n - r.1.toNat : Nat) : Int)) r.1 r.2.1 h1
    have e2 := even_step' s.pos (((n - r.1.toNat : Nat) : Int)) r.1 r.2.2 h2
    rw [show ((n - r.1.toNat : Nat) : Int) + r.1 = (n : Int) by omega] at e1 e2
    rw [decide_eq_true (show r.2.1 ≤ _ by omega), decide_eq_true (show _ ≤ r.2.2 by omega)]
    simp
  · rw [decide_eq_false c]; rfl
theorem even_ext {rs : List Rule} {a b : Int} (ok : RulesOk rs) (s : Share rs a b) (n : Nat) : ext rs n [] = true := by
  refine ext_inf (fun t => ∃ k, t = tl (wd rs) (evenR a b k)) (fun t ht => ?_) n [] ⟨0, tl_nil.symm⟩
  obtain ⟨k, rfl⟩ := ht
  refine ⟨_, mem_succs.mpr ⟨_, even_bit s.pos s.lo s.hi k, ?_, rfl⟩, k + 1, ?_⟩
  · rw [← fits_snoc ok, ← even_snoc]; exact even_fits ok s _
  · rw [even_snoc, tl_snoc ok.wide.1]
/-- the rule that asks most -/
theorem most_asking : ∀ (rs : List Rule), rs ≠ [] → (∀ r ∈ rs, 1 ≤ r.1) → ∃ a ∈ rs, ∀ r ∈ rs, r.2.1 * a.1 ≤ r.1 * a.2.1
  | [], h, _ => absurd rfl h
  | [r], _, _ => ⟨r, List.mem_singleton.mpr rfl, fun q hq => by rw [List.mem_singleton.mp hq, Int.mul_comm]; exact Int.le_refl _⟩
  | r :: r2 :: rs, _, hp => by
    obtain ⟨a, ha, h⟩ := most_asking (r2 :: rs) (fun e => by cases e) fun q hq => hp q (List.mem_cons_of_mem _ hq)
    have pa := hp a (List.mem_cons_of_mem _ ha)
    have pr := hp r List.mem_cons_self
    by_cases c : r.2.1 * a.1 ≤ r.1 * a.2.1
    · refine ⟨a, List.mem_cons_of_mem _ ha, fun q hq => ?_⟩
      rcases List.mem_cons.mp hq with rfl | hq
      · exact c
      · exact h q hq
    · refine ⟨r, List.mem_cons_self, fun q hq => ?_⟩
      rcases List.mem_cons.mp hq with rfl | hq
      · rw [Int.mul_comm]; exact Int.le_refl _
      · have hq1 := h q hq
        have pq := hp q (List.mem_cons_of_mem _ hq)
        have c' : r.1 * a.2.1 ≤ r.2.1 * a.1 := by omega
        have e1 : q.2.1 * a.1 * r.1 ≤ q.1 * a.2.1 * r.1 := Int.mul_le_mul_of_nonneg_right hq1 (by omega)
        have e2 : r.1 * a.2.1 * q.1 ≤ r.2.1 * a.1 * q.1 := Int.mul_le_mul_of_nonneg_right c' (by omega)
        refine Int.le_of_mul_le_mul_right (a := a.1) ?_ (by omega)
        have f1 : q.2.1 * r.1 * a.1 = q.2.1 * a.1 * r.1 := by rw [Int.mul_assoc, Int.mul_comm r.1, ← Int.mul_assoc]
        have f2 : q.1 * a.2.1 * r.1 = r.1 * a.2.1 * q.1 := by rw [Int.mul_comm q.1, Int.mul_assoc, Int.mul_comm q.1, ← Int.mul_assoc, Int.mul_comm a.2.1 r.1]
        have f3 : q.1 * r.2.1 * a.1 = r.2.1 * a.1 * q.1 := by rw [Int.mul_assoc, Int.mul_comm q.1]
        omega
theorem share_of {rs : List Rule} (ok : RulesOk rs) (h : ∀ a ∈ rs, ∀ b ∈ rs, b.1 * a.2.1 ≤ a.1 * b.2.2) : ∃ a b, Share rs a b := by
  obtain ⟨a, ha, m⟩ := most_asking rs ok.some fun r hr => (ok.one r hr).1
  have oa := ok.one a ha
  refine ⟨a.2.1, a.1, ⟨by omega, by omega, by omega, fun r hr => ⟨m r hr, ?_⟩⟩⟩
  have := h a ha r hr
  rw [Int.mul_comm r.2.2]; exact this
theorem forever {rs : List Rule} (ok : RulesOk rs) (h : ext rs 15 [] = true) (n : Nat) : ext rs n [] = true := by
  obtain ⟨a, b, s⟩ := share_of ok fun a ha b hb => agree ok h ha hb
  exact even_ext ok s n
end An
-- imports: X0 B3
/-! ### E1: the deck of picks -/
namespace An
open PySem L2
/-- a deck: picks told in order, then made -/
def DeckAt (H : Hp) (a : Addr) (N : Int) : Prop := ∃ d0 d1 d2 : Int, H a = some (.lst [.int d0, .int d1, .int d2]) ∧ 0 ≤ d0 ∧ 0 ≤ d1 ∧ d1 < 2147483648 ∧ 0 ≤ d2 ∧ d2 ≤ N
theorem DeckAt.mono {H H' : Hp} {a : Addr} {N M : Int} (h : DeckAt H a N) (e : ∀ xs, H a = some (.lst xs) → H' a = some (.lst xs)) (le : N ≤ M) : DeckAt H' a M :=
  let ⟨d0, d1, d2, h1, h2, h3, h4, h5, h6⟩ := h; ⟨d0, d1, d2, e _ h1, h2, h3, h4, h5, Int.le_trans h6 le⟩
theorem DeckAt.same {H H' : Hp} {a : Addr} {N : Int} (h : DeckAt H a N) (e : Same H H') : DeckAt H' a N := h.mono (fun _ => e _ _) (Int.le_refl _)
theorem TS.deck {H : Hp} {a : Addr} {N : Int} {o : HO} (h : DeckAt H a N) : TS H (upd H a o) := let ⟨_, _, _, h1, _⟩ := h; TS.lst h1
section
variable {P : Program} {w : World} {K : PySem.W.Frag} {mg : Str → Option Value} {base : Heap}
def N__law_deck : List Str := ["cell", "turn"]
theorem sc_law_deck : FnScope N__law_deck ["cell", "turn"] (defScope S__law_deck) := ⟨rfl, rfl, rfl, by decide +kernel, rfl, by decide +kernel, by decide +kernel⟩
def spDeck : Sp := fun vs H Q _ => ∃ c t : Int, vs = [.int c, .int t] ∧ 0 ≤ t ∧ ∀ p H', Same H H' → H p = none → DeckAt H' p t → Q (.ref p) H'
theorem ok_law_deck (D : Dn K mg "_law_deck" S__law_deck) : Cl P w K mg base 1 "_law_deck" spDeck := by
  refine D.ok sc_law_deck (fun vs H Q E h => ?_) (fun _ _ _ _ _ _ us hl => match us, hl with | [_, _], _ => rfl) (fun f cdv A outer s H vs Q E hr h => ?_)
  · obtain ⟨c, t, rfl, _⟩ := h; rfl
  · obtain ⟨c, t, rfl, ht, k⟩ := h
    have nd := sc_law_deck.nd
    refine ⟨_, (pss_cons (ps_if (pt_cmpR op_ge (pv 0) (pe_op op_pow pe_int pe_int) (nomark _))
    (pss_one (ps_ret (pe_lst (pa_cons (pe_op op_sub (pv 0) (pe_op op_pow pe_int pe_int)) (pa_cons (pe_op op_mod (pv 0) pe_int) (pa_cons (pv 1) pa_nil))))))
    pss_nil)
    (pss_one (ps_ret (pe_lst (pa_cons pe_int (pa_cons (pe_op op_mod (pv 0) pe_int) (pa_cons (pv 1) pa_nil))))))), ?_⟩
    refine ⟨_, rfl, _, _, rfl, rfl, ⟨by decide, by decide, by decide⟩, _, _, rfl, rfl, _, rfl, ?_⟩
    refine ite2 (fun h1 => ?_) (fun h1 => ?_)
    · rw [decide_eq_true_eq] at h1
      refine ⟨_, rfl, _, _, rfl, rfl, ⟨by decide, by decide, by decide⟩, _, _, rfl, rfl, _, rfl, _, _, rfl, rfl, (by decide : (0:Int) < 2147483579), _, rfl, sz (by show 3 ≤ 100000; decide), fun p hp => ?_⟩
      exact k p _ (Same.new hp) hp ⟨_, _, _, upd_same, Int.sub_nonneg_of_le h1, Int.emod_nonneg _ (by decide), by have := Int.emod_lt_of_pos c (b := 2147483579) (by decide); omega, ht, Int.le_refl _⟩
    · refine ⟨_, rfl, _, _, rfl, rfl, (by decide : (0:Int) < 2147483579), _, rfl, sz (by show 3 ≤ 100000; decide), fun p hp => ?_⟩
      exact k p _ (Same.new hp) hp ⟨_, _, _, upd_same, by decide, Int.emod_nonneg _ (by decide), by have := Int.emod_lt_of_pos c (b := 2147483579) (by decide); omega, ht, Int.le_refl _⟩
def N__law_pick : List Str := ["deck", "size", "found", "number"]
theorem sc_law_pick : FnScope N__law_pick ["deck", "size"] (defScope S__law_pick) := ⟨rfl, rfl, rfl, by decide +kernel, rfl, by decide +kernel, by decide +kernel⟩
def spPick : Sp := fun vs H Q _ => ∃ (a : Addr) (size N : Int), vs = [.ref a, .int size] ∧ 0 < size ∧ size < 1073741824 ∧ N < 1073741824 ∧ DeckAt H a N ∧ ∀ (r : Int) H', 0 ≤ r → r < size → SameX [a] H H' → TS H H' → DeckAt H' a (N + 1) → Q (.int r) H'
theorem ok_law_pick (D : Dn K mg "_law_pick" S__law_pick) : Cl P w K mg base 1 "_law_pick" spPick := by
  refine D.ok sc_law_pick (fun vs H Q E h => ?_) (fun _ _ _ _ _ _ us hl => match us, hl with | [_, _], _ => rfl) (fun f cdv A outer s H vs Q E hr h => ?_)
  · obtain ⟨a, size, N, rfl, _⟩ := h; rfl
  · obtain ⟨a, size, N, rfl, hs, hs2, hN, ⟨d0, d1, d2, ha, h0, h1, h2, h3, h4⟩, k⟩ := h
    have nd := sc_law_pick.nd
    refine ⟨_, (pss_cons (ps_if (pt_cmpR op_gt (pe_ix ix_list (pv 0) pe_int (fun _ _ => rfl)) pe_int (nomark _))
    (pss_cons (ps_set (i := 2) nd rfl (Or.inl rfl) (pe_op op_mod (pe_ix ix_list (pv 0) pe_int (fun _ _ => rfl)) (pv 1)))
    (pss_cons (ps_asg (pe_op op_fdiv (pe_ix ix_list (pv 0) pe_int (fun _ _ => rfl)) (pv 1)) (pg_sub (pv 0) pe_int set_list))
    (pss_one (ps_ret (pv 2)))))
    pss_nil)
    (pss_cons (ps_asg (pe_op op_add (pe_ix ix_list (pv 0) pe_int (fun _ _ => rfl)) pe_int) (pg_sub (pv 0) pe_int set_list))
    (pss_cons (ps_set (i := 3) nd rfl (Or.inl rfl) (pe_op op_mod (pe_op op_pow (pe_op op_add (pe_ix ix_list (pv 0) pe_int (fun _ _ => rfl)) (pe_op op_mul pe_int (pe_ix ix_list (pv 0) pe_int (fun _ _ => rfl)))) pe_int) pe_int))
    (pss_cons (ps_set (i := 2) nd rfl (Or.inl rfl) (pe_op op_fdiv (pe_op op_mod (pe_op op_pow (pe_op op_add (pv 3) (pe_op op_mul pe_int (pe_ix ix_list (pv 0) pe_int (fun _ _ => rfl)))) pe_int) pe_int) pe_int))
    (pss_one (ps_ret (pe_op op_mod (pv 2) (pv 1)))))))), ?_⟩
    have key : ∀ e0 e2 : Int, 0 ≤ e0 → 0 ≤ e2 → e2 ≤ N + 1 → ∀ r : Int, 0 ≤ r → r < size → Q (.int r) (upd H a (.lst [.int e0, .int d1, .int e2])) := fun e0 e2 z0 z1 z2 r r1 r2 =>
      k r _ r1 r2 (SameX.updA (List.mem_singleton.mpr rfl)) (TS.lst ha) ⟨_, _, _, upd_same, z0, h1, h2, z1, z2⟩
    refine ⟨_, rfl, a, _, 0, _, rfl, rfl, SqL.of ha, rfl, _, _, rfl, rfl, _, rfl, ?_⟩
    refine ite2 (fun g => ?_) (fun g => ?_)
    · refine ⟨_, rfl, a, _, 0, _, rfl, rfl, SqL.of ha, rfl, _, rfl, _, _, rfl, rfl, hs, ?_⟩
      refine ⟨_, rfl, a, _, 0, _, rfl, rfl, SqL.of ha, rfl, _, rfl, _, _, rfl, rfl, ⟨hs, hs2⟩, ?_⟩
      refine ⟨_, rfl, a, _, 0, 0, rfl, rfl, ha, rfl, _, rfl, ?_⟩
      exact key _ _ (Int.ediv_nonneg h0 (Int.le_of_lt hs)) h3 (by omega) _ (Int.emod_nonneg _ (by omega)) (Int.emod_lt_of_pos _ hs)
    · refine ⟨_, rfl, a, _, 2, _, rfl, rfl, SqL.of ha, rfl, _, _, rfl, rfl, ?_⟩
      refine ⟨_, rfl, a, _, 2, 2, rfl, rfl, ha, rfl, ?_⟩
      have ha' : upd H a (.lst (([.int d0, .int d1, .int d2] : List V).set 2 (.int (d2 + 1)))) a = some (.lst [.int d0, .int d1, .int (d2 + 1)]) := upd_same
      refine ⟨_, rfl, a, _, 1, _, rfl, rfl, SqL.of ha', rfl, _, rfl, a, _, 2, _, rfl, rfl, SqL.of ha', rfl, _, _, rfl, rfl, .inl ⟨by decide, by decide⟩, _, _, rfl, rfl, ?_⟩
      refine ⟨_, _, rfl, rfl, ⟨by decide, by decide, by omega⟩, _, _, rfl, rfl, (by decide : (0:Int) < 2147483647), ?_⟩
      have n0 : 0 ≤ (d1 + 15485867 * (d2 + 1)) ^ (5:Int).toNat % 2147483647 := Int.emod_nonneg _ (by decide)
      have n1 : (d1 + 15485867 * (d2 + 1)) ^ (5:Int).toNat % 2147483647 < 2147483647 := Int.emod_lt_of_pos _ (by decide)
      revert n0 n1
      generalize (d1 + 15485867 * (d2 + 1)) ^ (5:Int).toNat % 2147483647 = num
      intro n0 n1
      refine ⟨_, rfl, _, rfl, a, _, 2, _, rfl, rfl, SqL.of ha', rfl, _, _, rfl, rfl, .inl ⟨by decide, by decide⟩, _, _, rfl, rfl, ?_⟩
      refine ⟨_, _, rfl, rfl, ⟨by decide, by decide, by omega⟩, _, _, rfl, rfl, (by decide : (0:Int) < 2147483629), _, _, rfl, rfl, ⟨by decide, by decide⟩, ?_⟩
      refine ⟨_, rfl, _, rfl, _, _, rfl, rfl, hs, ?_⟩
      exact key _ _ h0 (by omega) (by omega) _ (Int.emod_nonneg _ (by omega)) (Int.emod_lt_of_pos _ hs)
/-- one of a list of numbers -/
def N__law_one : List Str := ["deck", "some"]
theorem sc_law_one : FnScope N__law_one ["deck", "some"] (defScope S__law_one) := ⟨rfl, rfl, rfl, by decide +kernel, rfl, by decide +kernel, by decide +kernel⟩
def spOne : Sp := fun vs H Q _ => ∃ (a b : Addr) (xs : List V) (N : Int), vs = [.ref a, .ref b] ∧ a ≠ b ∧ H b = some (.lst xs) ∧ xs ≠ [] ∧ xs.length < 1000 ∧ N < 1073741824 ∧ DeckAt H a N ∧ ∀ x H', x ∈ xs → SameX [a] H H' → TS H H' → DeckAt H' a (N + 1) → Q x H'
theorem ok_law_one (D : Dn K mg "_law_one" S__law_one) (bf : Bf mg) (C_law_pick : Cl P w K mg base 1 "_law_pick" spPick) : Cl P w K mg base 2 "_law_one" spOne := by
  refine D.ok sc_law_one (fun vs H Q E h => ?_) (fun _ _ _ _ _ _ us hl => match us, hl with | [_, _], _ => rfl) (fun f cdv A outer s H vs Q E hr h => ?_)
  · obtain ⟨a, b, xs, N, rfl, _⟩ := h; rfl
  · obtain ⟨a, b, xs, N, rfl, nab, hb, ne, hl, hN, hd, k⟩ := h
    have nd := sc_law_one.nd
    have hr_law_pick := hr
    refine ⟨_, (pss_one (ps_ret (pe_ix ix_list (pv 1) (pe_callC C_law_pick hr_law_pick rfl (pa_cons (pv 0) (pa_cons (pe_callB call_len_seq rfl bf.len bt_len (pa_cons (pv 1) pa_nil)) pa_nil))) (fun _ _ => rfl)))), ?_⟩
    have pos := List.length_pos_iff.mpr ne
    refine ⟨_, rfl, _, rfl, _, rfl, b, xs, rfl, .inl (SqL.of hb), a, (xs.length : Int), N, rfl, by omega, by omega, hN, hd, fun r H' h0 h1 sx ts hd' => ?_⟩
    obtain ⟨j, rfl⟩ : ∃ j : Nat, r = (j : Int) := ⟨r.toNat, by omega⟩
    have hj : j < xs.length := by omega
    refine ⟨b, xs, _, xs[j], rfl, rfl, SqL.of (sx _ _ (by simpa using fun e : b = a => nab e.symm) hb), atI_nat (List.getElem?_eq_getElem hj), ?_⟩
    exact k _ _ (List.getElem_mem hj) sx ts hd'
end
end An
-- imports: D2
/-! ### E2: the same answer: sort and same -/
namespace An
open PySem L2
theorem Kd.lts {H H' : Hp} {v : V} {t : String} (e : LTS H H') (h : Kd H v t) : Kd H' v t := by
  cases h with
  | non => exact .non
  | bl b => exact .bl b
  | int i => exact .int i
  | str x => exact .str x
  | lst q => exact .lst (e _ _ (.inl ⟨_, rfl⟩) q)
  | tup q => exact .tup (e _ _ (.inr ⟨_, rfl⟩) q)
/-- the same data, lists and tuples at most n deep -/
inductive Flat : V → Prop where
  | non : Flat .non
  | bl (b : Bool) : Flat (.bl b)
  | int (i : Int) : Flat (.int i)
inductive SeqLike (H : Hp) (a b : Addr) (xs ys : List V) : Prop where
  | l (h1 : H a = some (.lst xs)) (h2 : H b = some (.lst ys))
  | t (h1 : H a = some (.tup xs)) (h2 : H b = some (.tup ys))
def SameT : Nat → Hp → V → V → Prop
  | 0, _, v, u => v = u ∧ Flat v
  | n + 1, H, v, u => (v = u ∧ Flat v) ∨ ∃ a b xs ys, v = .ref a ∧ u = .ref b ∧ SeqLike H a b xs ys ∧ xs.length < 1000 ∧ Paired (SameT n H) xs ys
theorem SameT.mono : ∀ {n : Nat} {H H' : Hp} {v u : V}, LTS H H' → SameT n H v u → SameT n H' v u
  | 0, _, _, _, _, _, h => h
  | _ + 1, _, _, _, _, e, h => by
    rcases h with h | ⟨a, b, xs, ys, h1, h2, h3, h4, h5⟩
    · exact .inl h
    · refine .inr ⟨a, b, xs, ys, h1, h2, ?_, h4, Paired.mp h5 fun _ _ z => SameT.mono e z⟩
      cases h3 with
      | l p q => exact .l (e _ _ (.inl ⟨_, rfl⟩) p) (e _ _ (.inl ⟨_, rfl⟩) q)
      | t p q => exact .t (e _ _ (.inr ⟨_, rfl⟩) p) (e _ _ (.inr ⟨_, rfl⟩) q)
theorem SameT.row {n : Nat} {H : Hp} {v u : V} {r : Row} (h1 : TupI H v r) (h2 : TupI H u r) (hl : r.length < 1000) : SameT (n + 1) H v u := by
  obtain ⟨a, rfl, ha⟩ := h1
  obtain ⟨b, rfl, hb⟩ := h2
  refine .inr ⟨a, b, _, _, rfl, rfl, .t ha hb, by rw [List.length_map]; exact hl, ?_⟩
  clear ha hb hl
  induction r with
  | nil => exact .nil
  | cons x r ih =>
    refine .cons ?_ ih
    cases n with
    | zero => exact ⟨rfl, .int x⟩
    | succ n => exact .inl ⟨rfl, .int x⟩
def sortOf (t : String) : Int := if t = "bool" then 1 else if t = "int" then 2 else if t = "str" then 3 else if t = "list" then 4 else if t = "tuple" then 5 else 6
section
variable {P : Program} {w : World} {K : PySem.W.Frag} {mg : Str → Option Value} {base : Heap}
def N__law_sort : List Str := ["thing"]
theorem sc_law_sort : FnScope N__law_sort ["thing"] (defScope S__law_sort) := ⟨rfl, rfl, rfl, by decide +kernel, rfl, by decide +kernel, by decide +kernel⟩
def spSort : Sp := fun vs H Q _ => ∃ x t, vs = [x] ∧ Kd H x t ∧ Q (.int (sortOf t)) H
theorem ok_law_sort (D : Dn K mg "_law_sort" S__law_sort) (bf : Bf mg) : Cl P w K mg base 1 "_law_sort" spSort := by
  refine D.ok sc_law_sort (fun vs H Q E h => ?_) (fun _ _ _ _ _ _ us hl => match us, hl with | [_], _ => rfl) (fun f cdv A outer s H vs Q E hr h => ?_)
  · obtain ⟨x, t, rfl, _⟩ := h; rfl
  · obtain ⟨x, t, rfl, kd, k⟩ := h
    have nd := sc_law_sort.nd
    refine ⟨_, (pss_cons (ps_if (pt_val (pe_callB call_isi rfl bf.isinstance bt_isinstance (pa_cons (pv 0) (pa_cons (pe_bltn (v := .ty "bool") rfl bf.bool bt_bool rfl) pa_nil))))
    (pss_one (ps_ret pe_int))
    pss_nil)
    (pss_cons (ps_if (pt_val (pe_callB call_isi rfl bf.isinstance bt_isinstance (pa_cons (pv 0) (pa_cons (pe_bltn (v := .ty "int") rfl bf.int bt_int rfl) pa_nil))))
    (pss_one (ps_ret pe_int))
    pss_nil)
    (pss_cons (ps_if (pt_val (pe_callB call_isi rfl bf.isinstance bt_isinstance (pa_cons (pv 0) (pa_cons (pe_bltn (v := .ty "str") rfl bf.str bt_str rfl) pa_nil))))
    (pss_one (ps_ret pe_int))
    pss_nil)
    (pss_cons (ps_if (pt_val (pe_callB call_isi rfl bf.isinstance bt_isinstance (pa_cons (pv 0) (pa_cons (pe_bltn (v := .ty "list") rfl bf.list bt_list rfl) pa_nil))))
    (pss_one (ps_ret pe_int))
    pss_nil)
    (pss_one (ps_ret (pe_ifExp (pt_val (pe_callB call_isi rfl bf.isinstance bt_isinstance (pa_cons (pv 0) (pa_cons (pe_bltn (v := .ty "tuple") rfl bf.tuple bt_tuple rfl) pa_nil)))) pe_int pe_int))))))), ?_⟩
    cases kd with
    | non => exact ⟨_, rfl, isi_of .non (b := false) (by decide +kernel) ⟨_, rfl, iteF ⟨_, rfl, isi_of .non (b := false) (by decide +kernel) ⟨_, rfl, iteF ⟨_, rfl, isi_of .non (b := false) (by decide +kernel) ⟨_, rfl, iteF ⟨_, rfl, isi_of .non (b := false) (by decide +kernel) ⟨_, rfl, iteF ⟨_, rfl, isi_of .non (b := false) (by decide +kernel) ⟨_, rfl, iteF k⟩⟩⟩⟩⟩⟩⟩⟩⟩⟩
    | bl b => exact ⟨_, rfl, isi_of (.bl b) (b := true) (by decide +kernel) ⟨_, rfl, iteT k⟩⟩
    | int n => exact ⟨_, rfl, isi_of (.int n) (b := false) (by decide +kernel) ⟨_, rfl, iteF ⟨_, rfl, isi_of (.int n) (b := true) (by decide +kernel) ⟨_, rfl, iteT k⟩⟩⟩⟩
    | str z => exact ⟨_, rfl, isi_of (.str z) (b := false) (by decide +kernel) ⟨_, rfl, iteF ⟨_, rfl, isi_of (.str z) (b := false) (by decide +kernel) ⟨_, rfl, iteF ⟨_, rfl, isi_of (.str z) (b := true) (by decide +kernel) ⟨_, rfl, iteT k⟩⟩⟩⟩⟩⟩
    | lst e => exact ⟨_, rfl, isi_of (.lst e) (b := false) (by decide +kernel) ⟨_, rfl, iteF ⟨_, rfl, isi_of (.lst e) (b := false) (by decide +kernel) ⟨_, rfl, iteF ⟨_, rfl, isi_of (.lst e) (b := false) (by decide +kernel) ⟨_, rfl, iteF ⟨_, rfl, isi_of (.lst e) (b := true) (by decide +kernel) ⟨_, rfl, iteT k⟩⟩⟩⟩⟩⟩⟩⟩
    | tup e => exact ⟨_, rfl, isi_of (.tup e) (b := false) (by decide +kernel) ⟨_, rfl, iteF ⟨_, rfl, isi_of (.tup e) (b := false) (by decide +kernel) ⟨_, rfl, iteF ⟨_, rfl, isi_of (.tup e) (b := false) (by decide +kernel) ⟨_, rfl, iteF ⟨_, rfl, isi_of (.tup e) (b := false) (by decide +kernel) ⟨_, rfl, iteF ⟨_, rfl, isi_of (.tup e) (b := true) (by decide +kernel) ⟨_, rfl, iteT k⟩⟩⟩⟩⟩⟩⟩⟩⟩⟩
/-! #### same -/
def N__law_same : List Str := ["told", "due", "k", "part"]
theorem sc_law_same : FnScope N__law_same ["told", "due"] (defScope S__law_same) := ⟨rfl, rfl, rfl, by decide +kernel, rfl, by decide +kernel, by decide +kernel⟩
def spSame (n : Nat) : Sp := fun vs H Q _ => ∃ v u, vs = [v, u] ∧ SameT n H v u ∧ ∀ H', Same H H' → Q (.bl true) H'
def spNo : Sp := fun _ _ _ _ => False
theorem ok_no_same (D : Dn K mg "_law_same" S__law_same) : Cl P w K mg base 1 "_law_same" spNo :=
  D.ok sc_law_same (fun _ _ _ _ h => h.elim) (fun _ _ _ _ _ _ us hl => match us, hl with | [_, _], _ => rfl) (fun _ _ _ _ _ _ _ _ _ _ h => h.elim)
/-- a list made by a test that is never met -/
theorem lc_none {J : It} {n : Nat} {G : Hp → Prop} {Y : Nat → Hp → V → Hp → Prop} (wk : Walk J n G Y) {g : TG} {tt : TT} {te : TE} {vs : List Nat} {σ : L2.St} {H1 : Hp} {D : Addr} {Qd : Hp → Prop}
    (hD : H1 D = none) (hG : ∀ H', Same H1 H' → G H')
    (hs : ∀ i x H H' (NF : Hp → Prop), i < n → Same H1 H → Y i H x H' → (∀ H4, Same H H4 → NF H4) → ∀ NT : V → Hp → Prop,
      g x (wipe σ vs) H' fun σ2 H2 => wipe σ2 vs = wipe σ vs ∧ tt σ2 H2 fun b H3 => if b = true then te σ2 H3 NT else NF H3)
    (hd : ∀ H', Same H1 H' → H' D = some (.lst []) → Qd H') :
    ∃ W : Nat → Nat → Hp → Prop, (∃ m, W 0 m (upd H1 D (.lst []))) ∧ ∀ i m H, W i m H →
      (J.stop i H ∧ Qd H) ∨ (J.go i H ∧ ∃ Nx : Hp → Prop, (∀ H', Nx H' → ∃ m', m' < m ∧ W (i + 1) m' H') ∧ ∀ x H', J.yld i H x H' → g x (wipe σ vs) H' fun σ2 H2 => wipe σ2 vs = wipe σ vs ∧ tt σ2 H2 fun b H3 =>
        if b = true then te σ2 H3 fun y H4 => ∃ acc, H4 D = some (.lst acc) ∧ acc.length < sizeLine ∧ Nx (upd H4 D (.lst (acc ++ [y]))) else Nx H3) :=
  lc_go wk (fun (_ : Hp) (_ : V) (_ : Unit) => True) (fun _ => []) hD rfl (fun _ _ => by show 0 < 100000; decide) (fun _ _ _ _ _ h => h) (fun _ _ _ _ _ _ h => h) hG
    (fun i x H H' NT NF hi sm y _ hf => hs i x H H' NF hi sm y (fun H4 s => hf H4 s rfl) NT) fun H' ys s e p => by cases p; exact hd H' s e
theorem SameT.get {n : Nat} {H : Hp} {xs ys : List V} {i : Nat} {x : V} (p : Paired (SameT n H) xs ys) (h : xs[i]? = some x) : ∃ y, ys[i]? = some y ∧ SameT n H x y := Paired.get p h
theorem ok_same_step {k n : Nat} {sp' : Sp} (D : Dn K mg "_law_same" S__law_same) (bf : Bf mg) (C_law_sort : Cl P w K mg base 1 "_law_sort" spSort) (C_law_same : Cl P w K mg base (k + 1) "_law_same" sp')
    (h' : n = 0 ∨ ∃ m, n = m + 1 ∧ sp' = spSame m) : Cl P w K mg base (k + 2) "_law_same" (spSame n) := by
  refine D.ok sc_law_same (fun vs H Q E h => ?_) (fun _ _ _ _ _ _ us hl => match us, hl with | [_, _], _ => rfl) (fun f cdv A outer s H vs Q E hr h => ?_)
  · obtain ⟨v, u, rfl, _⟩ := h; rfl
  · obtain ⟨v, u, rfl, st, kk⟩ := h
    have nd := sc_law_same.nd
    have hr_law_sort := hr.mono (show 1 ≤ k + 1 by omega)
    have hr_law_same := hr
    have hf : (v = u ∧ Flat v) ∨ ∃ m, n = m + 1 ∧ sp' = spSame m ∧ ∃ a b xs ys, v = .ref a ∧ u = .ref b ∧ SeqLike H a b xs ys ∧ xs.length < 1000 ∧ Paired (SameT m H) xs ys := by
      rcases h' with rfl | ⟨m, rfl, e⟩
      · exact .inl st
      · rcases st with st | st
        · exact .inl st
        · exact .inr ⟨m, rfl, e, st⟩
    clear st h'
    rcases hf with ⟨rfl, fl⟩ | ⟨m, rfl, rfl, a, b, xs, ys, rfl, rfl, sl, hl, pr⟩
    · have dp : ∃ d t, Kd H v t ∧ Dp K H v d ∧ SeqAt.shaped d = true ∧ PyData.eqv d d = true ∧ (sortOf t < 4 ∨ sortOf t = 6) := by
        cases fl with
        | non => exact ⟨.none, "NoneType", .non, .non, by decide +kernel, by decide +kernel, .inr rfl⟩
        | bl b => exact ⟨.bool b, "bool", .bl b, .bl b, by cases b <;> decide +kernel, by cases b <;> decide +kernel, .inl (by decide)⟩
        | int i => exact ⟨.int i, "int", .int i, .int i, by simp [SeqAt.shaped, PyData.canLay0, PyData.depth], by simp [PyData.eqv], .inl (by decide)⟩
      obtain ⟨d, t, kd, hd, hs, he, ht⟩ := dp
      refine ⟨_, (pss_cons (ps_if (pt_cmpR op_ne (pe_callC C_law_sort hr_law_sort rfl (pa_cons (pv 0) pa_nil)) (pe_callC C_law_sort hr_law_sort rfl (pa_cons (pv 1) pa_nil)) (nomark _))
    (pss_one (ps_ret pe_bl))
    pss_nil)
    (pss_cons (ps_if (PW.pt (pw_and (pt_cmpR op_gt (pe_callC C_law_sort hr_law_sort rfl (pa_cons (pv 0) pa_nil)) pe_int (nomark _)) (pw_and1 (pt_cmpR op_lt (pe_callC C_law_sort hr_law_sort rfl (pa_cons (pv 0) pa_nil)) pe_int (nomark _)))))
    (pss_cons (ps_if (pt_cmpR op_ne (pe_callB call_len_seq rfl bf.len bt_len (pa_cons (pv 0) pa_nil)) (pe_callB call_len_seq rfl bf.len bt_len (pa_cons (pv 1) pa_nil)) (nomark _))
    (pss_one (ps_ret pe_bl))
    pss_nil)
    (pss_one (ps_ret (pe_cmpR (op_eqD hr.units) (pe_lc (own := [("k", 2), ("part", 3)]) rfl nd (pi_enumT rfl bf.enumerate (pa_cons (pv 0) pa_nil)) (blkOk_by (own := [("k", 2), ("part", 3)]) (N := N__law_same) (sc := defScope S__law_same) (by decide +kernel)) (fun _ _ _ _ _ => (pg_tupK (K := K) (n := 2) rfl rfl (pgs_cons (pg_name (i := 2) nd rfl (Or.inl rfl) (Or.inr rfl)) (pgs_cons (pg_name (i := 3) nd rfl (Or.inl rfl) (Or.inr rfl)) pgs_nil)))) (fun _ _ _ _ _ => (pts_one (pt_not (pt_val (pe_callC C_law_same hr_law_same rfl (pa_cons (pv 3) (pa_cons (pe_ix (ix_tupK (K := K) rfl) (pv 1) (pv 2) (fun _ _ => rfl)) pa_nil))))))) (fun _ _ _ _ _ => (pv 2))) (pe_lst pa_nil) (nomark _)))))
    pss_nil)
    (pss_one (ps_ret (pe_cmpR (op_eqD hr.units) (pv 0) (pv 1) (nomark _)))))), ?_⟩
      refine ⟨_, rfl, v, t, rfl, kd, _, rfl, v, t, rfl, kd, rfl, _, rfl, ?_⟩
      rw [decide_eq_true rfl]
      refine iteF ?_
      have last : rEqD K v v H fun y H4 => Q y H4 := ⟨d, d, hd, hd, hs, hs, by rw [he]; exact kk H (Same.refl H)⟩
      refine ⟨_, rfl, v, t, rfl, kd, _, _, rfl, rfl, _, rfl, ite2 (fun h3 => ?_) (fun h3 => ?_)⟩
      · refine ⟨_, rfl, v, t, rfl, kd, _, _, rfl, rfl, _, rfl, ite2 (fun h4 => ?_) (fun h4 => ?_)⟩
        · exfalso
          rw [decide_eq_true_eq] at h3 h4
          omega
        · exact ⟨_, rfl, _, rfl, last⟩
      · exact ⟨_, rfl, _, rfl, last⟩
    · have hlen := Paired.len pr
      cases sl with
      | t ha hb =>
        refine ⟨_, (pss_cons (ps_if (pt_cmpR op_ne (pe_callC C_law_sort hr_law_sort rfl (pa_cons (pv 0) pa_nil)) (pe_callC C_law_sort hr_law_sort rfl (pa_cons (pv 1) pa_nil)) (nomark _))
    (pss_one (ps_ret pe_bl))
    pss_nil)
    (pss_cons (ps_if (PW.pt (pw_and (pt_cmpR op_gt (pe_callC C_law_sort hr_law_sort rfl (pa_cons (pv 0) pa_nil)) pe_int (nomark _)) (pw_and1 (pt_cmpR op_lt (pe_callC C_law_sort hr_law_sort rfl (pa_cons (pv 0) pa_nil)) pe_int (nomark _)))))
    (pss_cons (ps_if (pt_cmpR op_ne (pe_callB call_len_seq rfl bf.len bt_len (pa_cons (pv 0) pa_nil)) (pe_callB call_len_seq rfl bf.len bt_len (pa_cons (pv 1) pa_nil)) (nomark _))
    (pss_one (ps_ret pe_bl))
    pss_nil)
    (pss_one (ps_ret (pe_cmpR (op_eqD hr.units) (pe_lc (own := [("k", 2), ("part", 3)]) rfl nd (pi_enumT rfl bf.enumerate (pa_cons (pv 0) pa_nil)) (blkOk_by (own := [("k", 2), ("part", 3)]) (N := N__law_same) (sc := defScope S__law_same) (by decide +kernel)) (fun _ _ _ _ _ => (pg_tupK (K := K) (n := 2) rfl rfl (pgs_cons (pg_name (i := 2) nd rfl (Or.inl rfl) (Or.inr rfl)) (pgs_cons (pg_name (i := 3) nd rfl (Or.inl rfl) (Or.inr rfl)) pgs_nil)))) (fun _ _ _ _ _ => (pts_one (pt_not (pt_val (pe_callC C_law_same hr_law_same rfl (pa_cons (pv 3) (pa_cons (pe_ix (ix_tupK (K := K) rfl) (pv 1) (pv 2) (fun _ _ => rfl)) pa_nil))))))) (fun _ _ _ _ _ => (pv 2))) (pe_lst pa_nil) (nomark _)))))
    pss_nil)
    (pss_one (ps_ret (pe_cmpR (op_eqD hr.units) (pv 0) (pv 1) (nomark _)))))), ?_⟩
        refine ⟨_, rfl, _, _, rfl, .tup ha, _, rfl, _, _, rfl, .tup hb, rfl, _, rfl, ?_⟩
        rw [decide_eq_true rfl]
        refine iteF ⟨_, rfl, _, _, rfl, .tup ha, _, _, rfl, rfl, _, rfl, iteT ⟨_, rfl, _, _, rfl, .tup ha, _, _, rfl, rfl, _, rfl, iteT ?_⟩⟩
        refine ⟨_, rfl, a, xs, rfl, .inr (SqT.of ha), _, rfl, b, ys, rfl, .inr (SqT.of hb), rfl, _, rfl, ?_⟩
        rw [decide_eq_true (by rw [hlen])]
        refine iteF ?_
        refine ⟨_, rfl, a, xs, rfl, SqT.of ha, fun M hM => lc_none walk_enumT hM (fun H' e => SqT.of (e _ _ ha)) ?_ ?_⟩
        · rintro i x H1 H2 NF hi sm ⟨T, x1, x2, rfl, nT, rfl, e1, e2⟩ nf NT
          cases e1
          obtain ⟨y2, f1, f2⟩ := Paired.get pr e2
          have sT : Same H1 (upd H1 T (.tup [.int (i : Nat), x2])) := Same.new nT
          have s3 := sm.trans sT
          refine ⟨T, _, rfl, SqT.of upd_same, rfl, _, _, rfl, _, _, rfl, rfl, rfl, ?_⟩
          refine ⟨_, rfl, _, rfl, _, rfl, b, ys, _, y2, rfl, rfl, SqT.of (s3 _ _ hb), atI_nat f1, x2, y2, rfl, SameT.mono (LTS.of s3) f2, fun H3 sm3 => ⟨_, rfl, ?_⟩⟩
          exact iteF (nf _ (sT.trans sm3))
        · intro H' sm hM'
          refine ⟨sz (by show 0 ≤ 100000; decide), fun q hq => ?_⟩
          have sq : Same H' (upd H' q (.lst [])) := Same.new hq
          refine ⟨.list [], .list [], .lst (SqL.of (sq _ _ hM')) .nil, .lst (SqL.of upd_same) .nil, by decide +kernel, by decide +kernel, ?_⟩
          exact kk _ (sm.trans sq)
      | l ha hb =>
        refine ⟨_, (pss_cons (ps_if (pt_cmpR op_ne (pe_callC C_law_sort hr_law_sort rfl (pa_cons (pv 0) pa_nil)) (pe_callC C_law_sort hr_law_sort rfl (pa_cons (pv 1) pa_nil)) (nomark _))
    (pss_one (ps_ret pe_bl))
    pss_nil)
    (pss_cons (ps_if (PW.pt (pw_and (pt_cmpR op_gt (pe_callC C_law_sort hr_law_sort rfl (pa_cons (pv 0) pa_nil)) pe_int (nomark _)) (pw_and1 (pt_cmpR op_lt (pe_callC C_law_sort hr_law_sort rfl (pa_cons (pv 0) pa_nil)) pe_int (nomark _)))))
    (pss_cons (ps_if (pt_cmpR op_ne (pe_callB call_len_seq rfl bf.len bt_len (pa_cons (pv 0) pa_nil)) (pe_callB call_len_seq rfl bf.len bt_len (pa_cons (pv 1) pa_nil)) (nomark _))
    (pss_one (ps_ret pe_bl))
    pss_nil)
    (pss_one (ps_ret (pe_cmpR (op_eqD hr.units) (pe_lc (own := [("k", 2), ("part", 3)]) rfl nd (pi_enum rfl bf.enumerate (pa_cons (pv 0) pa_nil)) (blkOk_by (own := [("k", 2), ("part", 3)]) (N := N__law_same) (sc := defScope S__law_same) (by decide +kernel)) (fun _ _ _ _ _ => (pg_tupK (K := K) (n := 2) rfl rfl (pgs_cons (pg_name (i := 2) nd rfl (Or.inl rfl) (Or.inr rfl)) (pgs_cons (pg_name (i := 3) nd rfl (Or.inl rfl) (Or.inr rfl)) pgs_nil)))) (fun _ _ _ _ _ => (pts_one (pt_not (pt_val (pe_callC C_law_same hr_law_same rfl (pa_cons (pv 3) (pa_cons (pe_ix (ix_listK (K := K) rfl) (pv 1) (pv 2) (fun _ _ => rfl)) pa_nil))))))) (fun _ _ _ _ _ => (pv 2))) (pe_lst pa_nil) (nomark _)))))
    pss_nil)
    (pss_one (ps_ret (pe_cmpR (op_eqD hr.units) (pv 0) (pv 1) (nomark _)))))), ?_⟩
        refine ⟨_, rfl, _, _, rfl, .lst ha, _, rfl, _, _, rfl, .lst hb, rfl, _, rfl, ?_⟩
        rw [decide_eq_true rfl]
        refine iteF ⟨_, rfl, _, _, rfl, .lst ha, _, _, rfl, rfl, _, rfl, iteT ⟨_, rfl, _, _, rfl, .lst ha, _, _, rfl, rfl, _, rfl, iteT ?_⟩⟩
        refine ⟨_, rfl, a, xs, rfl, .inl (SqL.of ha), _, rfl, b, ys, rfl, .inl (SqL.of hb), rfl, _, rfl, ?_⟩
        rw [decide_eq_true (by rw [hlen])]
        refine iteF ?_
        refine ⟨_, rfl, a, xs, rfl, SqL.of ha, fun M hM => lc_none walk_enum hM (fun H' e => SqL.of (e _ _ ha)) ?_ ?_⟩
        · rintro i x H1 H2 NF hi sm ⟨T, x1, x2, rfl, nT, rfl, e1, e2⟩ nf NT
          cases e1
          obtain ⟨y2, f1, f2⟩ := Paired.get pr e2
          have sT : Same H1 (upd H1 T (.tup [.int (i : Nat), x2])) := Same.new nT
          have s3 := sm.trans sT
          refine ⟨T, _, rfl, SqT.of upd_same, rfl, _, _, rfl, _, _, rfl, rfl, rfl, ?_⟩
          refine ⟨_, rfl, _, rfl, _, rfl, b, ys, _, y2, rfl, rfl, SqL.of (s3 _ _ hb), atI_nat f1, x2, y2, rfl, SameT.mono (LTS.of s3) f2, fun H3 sm3 => ⟨_, rfl, ?_⟩⟩
          exact iteF (nf _ (sT.trans sm3))
        · intro H' sm hM'
          refine ⟨sz (by show 0 ≤ 100000; decide), fun q hq => ?_⟩
          have sq : Same H' (upd H' q (.lst [])) := Same.new hq
          refine ⟨.list [], .list [], .lst (SqL.of (sq _ _ hM')) .nil, .lst (SqL.of upd_same) .nil, by decide +kernel, by decide +kernel, ?_⟩
          exact kk _ (sm.trans sq)
theorem ok_law_same (D : Dn K mg "_law_same" S__law_same) (bf : Bf mg) (C_law_sort : Cl P w K mg base 1 "_law_sort" spSort) : ∀ n : Nat, Cl P w K mg base (n + 2) "_law_same" (spSame n)
  | 0 => ok_same_step D bf C_law_sort (ok_no_same D) (.inl rfl)
  | n + 1 => ok_same_step D bf C_law_sort (ok_law_same D bf C_law_sort n) (.inr ⟨n, rfl, rfl⟩)
end
end An
-- imports: E1
/-! ### E3: made rules -/
namespace An
open PySem L2
/-- an if whose ways meet again -/
theorem if_join {c : Prop} [Decidable c] {A : Prop} {F : L2.St → Hp → Prop} {σ : L2.St} {H : Hp} (M : L2.St → Hp → Prop) (hF : ∀ σ H, M σ H → F σ H) (h1 : c → (∀ σ H, M σ H → F σ H) → A) (h2 : ¬ c → M σ H) : if c then A else F σ H := by
  by_cases h : c
  · rw [if_pos h]; exact h1 h hF
  · rw [if_neg h]; exact hF _ _ (h2 h)
def GoodR (so : Int) (r : Rule) : Prop := 1 ≤ r.1 ∧ r.1 ≤ so ∧ 0 ≤ r.2.1 ∧ r.2.1 ≤ r.2.2 ∧ r.2.2 ≤ r.1
theorem keys_put {kvs : List (Key × V)} {k : Key} {v : V} (h : (kvs.map (·.1)).Nodup) : ((putK kvs k v).map (·.1)).Nodup := by
  unfold putK
  by_cases a : (kvs.any fun kv => decide (kv.1 = k)) = true
  · rw [if_pos a, List.map_map]
    have : ((fun x : Key × V => x.1) ∘ fun kv => if kv.1 = k then (kv.1, v) else kv) = fun x : Key × V => x.1 := funext fun x => by
      show (if x.1 = k then (x.1, v) else x).1 = x.1
      split <;> rfl
    rw [this]; exact h
  · rw [if_neg a, List.map_append, List.nodup_append]
    refine ⟨h, by simp, fun x hx y hy e => ?_⟩
    rw [List.map_cons, List.map_nil, List.mem_singleton] at hy
    subst e
    obtain ⟨p, hp, e⟩ := List.mem_map.mp hx
    exact a (List.any_eq_true.mpr ⟨p, hp, decide_eq_true (e.trans hy)⟩)
theorem mem_put {kvs : List (Key × V)} {k : Key} {v : V} {p : Key × V} (h : p ∈ putK kvs k v) : p = (k, v) ∨ p ∈ kvs := by
  unfold putK at h
  by_cases a : (kvs.any fun kv => decide (kv.1 = k)) = true
  · rw [if_pos a] at h
    obtain ⟨x, hx, e⟩ := List.mem_map.mp h
    by_cases c : x.1 = k
    · rw [if_pos c, c] at e; exact .inl e.symm
    · rw [if_neg c] at e; exact .inr (e ▸ hx)
  · rw [if_neg a] at h
    rcases List.mem_append.mp h with h | h
    · exact .inr h
    · exact .inl (List.mem_singleton.mp h)
theorem put_len {kvs : List (Key × V)} {k : Key} {v : V} : (putK kvs k v).length ≤ kvs.length + 1 := by
  unfold putK
  split
  · rw [List.length_map]; omega
  · rw [List.length_append]; exact Nat.le_refl _
structure Found (H : Hp) (so : Int) (kvs : List (Key × V)) : Prop where
  nd : (kvs.map (·.1)).Nodup
  all : ∀ p ∈ kvs, ∃ r : Rule, p.1 = Sum.inl r.1 ∧ RuleAt H p.2 r ∧ GoodR so r
theorem Found.mono {H H' : Hp} {so : Int} {kvs : List (Key × V)} (f : Found H so kvs) (e : TS H H') : Found H' so kvs := ⟨f.nd, fun p hp => let ⟨r, h1, h2, h3⟩ := f.all p hp; ⟨r, h1, TupI.mono e h2, h3⟩⟩
theorem Found.put {H : Hp} {so : Int} {kvs : List (Key × V)} {v : V} {r : Rule} (f : Found H so kvs) (h : RuleAt H v r) (g : GoodR so r) : Found H so (putK kvs (Sum.inl r.1) v) :=
  ⟨keys_put f.nd, fun p hp => (mem_put hp).elim (fun e => by subst e; exact ⟨r, rfl, h, g⟩) fun h => f.all p h⟩
theorem Found.ints {H : Hp} {so : Int} {kvs : List (Key × V)} (f : Found H so kvs) : ∃ ks : List Int, kvs.map (·.1) = ks.map Sum.inl ∧ ks.Nodup ∧ ks.length = kvs.length := by
  have : ∀ l : List (Key × V), (∀ p ∈ l, ∃ r : Rule, p.1 = Sum.inl r.1 ∧ RuleAt H p.2 r ∧ GoodR so r) → ∃ ks : List Int, l.map (·.1) = ks.map Sum.inl := fun l => by
    induction l with
    | nil => exact fun _ => ⟨[], rfl⟩
    | cons p l ih =>
      intro h
      obtain ⟨ks, e⟩ := ih fun q hq => h q (List.mem_cons_of_mem _ hq)
      obtain ⟨r, e1, _⟩ := h p List.mem_cons_self
      exact ⟨r.1 :: ks, by rw [List.map_cons, List.map_cons, e, e1]⟩
  obtain ⟨ks, e⟩ := this kvs f.all
  refine ⟨ks, e, ?_, by have := congrArg List.length e; simpa using this.symm⟩
  have := f.nd
  rw [e] at this
  exact List.Pairwise.of_map Sum.inl (fun a b h e => h (congrArg Sum.inl e)) this
theorem Found.get {H : Hp} {so : Int} {kvs : List (Key × V)} (f : Found H so kvs) {y : Int} (h : Sum.inl y ∈ kvs.map (·.1)) : ∃ v r, valV kvs (Sum.inl y) = some v ∧ r.1 = y ∧ RuleAt H v r ∧ GoodR so r := by
  obtain ⟨p, hp, e⟩ := List.mem_map.mp h
  have q : (kvs.any fun kv => decide (kv.1 = Sum.inl y)) = true := List.any_eq_true.mpr ⟨p, hp, decide_eq_true e⟩
  rw [valV_any] at q
  obtain ⟨v, hv⟩ := Option.isSome_iff_exists.mp q
  refine ⟨v, ?_⟩
  unfold valV at hv
  obtain ⟨z, hz, ez⟩ := Option.map_eq_some_iff.mp hv
  have h1 := List.mem_of_find?_eq_some hz
  have h2 : z.1 = Sum.inl y := of_decide_eq_true (by simpa using List.find?_some hz)
  obtain ⟨r, e1, e2, e3⟩ := f.all z h1
  refine ⟨r, by unfold valV; rw [hz]; exact congrArg some ez, ?_, by rw [← ez]; exact e2, e3⟩
  rw [e1] at h2
  exact Sum.inl.inj h2
theorem Found.rules {H : Hp} {so : Int} {kvs : List (Key × V)} (f : Found H so kvs) : ∀ ys : List Int, (∀ y ∈ ys, Sum.inl y ∈ kvs.map (·.1)) → ∃ rs : List Rule, rs.map (·.1) = ys ∧ ∀ r ∈ rs, GoodR so r ∧ ∃ v, valV kvs (Sum.inl r.1) = some v ∧ RuleAt H v r
  | [], _ => ⟨[], rfl, fun _ h => by cases h⟩
  | y :: ys, h => by
    obtain ⟨rs, e1, e2⟩ := Found.rules f ys fun z hz => h z (List.mem_cons_of_mem _ hz)
    obtain ⟨v, r, h1, h2, h3, h4⟩ := f.get (h y List.mem_cons_self)
    refine ⟨r :: rs, by rw [List.map_cons, e1, h2], fun q hq => ?_⟩
    rcases List.mem_cons.mp hq with rfl | hq
    · exact ⟨h4, v, by rw [h2]; exact h1, h3⟩
    · exact e2 q hq
section
variable {P : Program} {w : World} {K : PySem.W.Frag} {mg : Str → Option Value} {base : Heap}
def N__law_rules : List Str := ["deck", "spans_so", "close", "top", "found", "turn", "span", "low", "high", "more", "less"]
theorem sc_law_rules : FnScope N__law_rules ["deck", "spans_so", "close"] (defScope S__law_rules) := ⟨rfl, rfl, rfl, by decide +kernel, rfl, by decide +kernel, by decide +kernel⟩
def spRulesL : Sp := fun vs H Q _ => ∃ (a : Addr) (so close N : Int), vs = [.ref a, .int so, .int close] ∧ 1 ≤ so ∧ so ≤ 8 ∧ 1 ≤ close ∧ close < 1000 ∧ N < 1000000000 ∧ DeckAt H a N ∧
  ∀ v H' rs, SameX [a] H H' → TS H H' → DeckAt H' a (N + 40) → RulesAt H' v rs → RulesOk rs → rs.length ≤ 4 → (∀ r ∈ rs, r.1 ≤ so) → Q v H'
/-- between two rounds -/
def PvRules (a D : Addr) (so close top N : Int) (H : Hp) (i : Nat) (σ : L2.St) (H' : Hp) : Prop :=
  ∃ kvs x5 x6 x7 x8 x9 x10, σ = [some (.ref a), some (.int so), some (.int close), some (.int top), some (.ref D), x5, x6, x7, x8, x9, x10] ∧ H D = none ∧ a ≠ D ∧ SameX [a] H H' ∧ TS H H' ∧ DeckAt H' a (N + 2 + 8 * i) ∧ H' D = some (.dK kvs) ∧ Found H' so kvs ∧ kvs.length ≤ i ∧ (0 < i → kvs ≠ [])
theorem SameX.upd_new {as : List Addr} {H H' : Hp} {p : Addr} {o : HO} (e : SameX as H H') (h : H p = none) : SameX as H (upd H' p o) := fun b u n q => by
  rw [upd_ne (ne_of_none q h)]; exact e b u n q
theorem ok_law_rules (D : Dn K mg "_law_rules" S__law_rules) (bf : Bf mg) (C_law_pick : Cl P w K mg base 1 "_law_pick" spPick) (C_law_one : Cl P w K mg base 2 "_law_one" spOne) : Cl P w K mg base 3 "_law_rules" spRulesL := by
  refine D.ok sc_law_rules (fun vs H Q E h => ?_) (fun _ _ _ _ _ _ us hl => match us, hl with | [_, _, _], _ => rfl) (fun f cdv A outer s H vs Q E hr h => ?_)
  · obtain ⟨a, so, close, N, rfl, _⟩ := h; rfl
  · obtain ⟨a, so, close, N, rfl, s1, s8, c1, c2, hN, hd, k⟩ := h
    have nd := sc_law_rules.nd
    have hu := hu_of hr
    have hr_law_pick := hr.mono (show 1 ≤ 2 by decide)
    have hr_law_one := hr
    refine ⟨_, (pss_cons (ps_asg (pe_tup (pa_cons (pe_callC C_law_pick hr_law_pick rfl (pa_cons (pv 0) (pa_cons pe_int pa_nil))) (pa_cons pe_dnewK pa_nil))) (pg_tup rfl (pgs_cons (pg_name (i := 3) nd rfl (Or.inl rfl)) (pgs_cons (pg_name (i := 4) nd rfl (Or.inr rfl)) pgs_nil))))
    (pss_cons (ps_for PassesOwn.never rfl (pi_range1 rfl bf.range (pa_cons (pe_op op_add pe_int (pe_callC C_law_pick hr_law_pick rfl (pa_cons (pv 0) (pa_cons pe_int pa_nil)))) pa_nil)) (pg_name (i := 5) nd rfl (Or.inl rfl))
    (pss_cons (ps_set (i := 6) nd rfl (Or.inl rfl) (pe_op op_add pe_int (pe_callC C_law_pick hr_law_pick rfl (pa_cons (pv 0) (pa_cons (pv 1) pa_nil)))))
    (pss_cons (ps_par (i := 7) (j := 8) rfl nd rfl rfl (by decide) rfl rfl (pa_cons (pe_op op_fdiv (pe_op op_mul (pv 6) (pv 3)) pe_int) (pa_cons (pe_op op_fdiv (pe_op op_add (pe_op op_mul (pv 6) (pv 3)) pe_int) pe_int) pa_nil)) (by rfl))
    (pss_cons (ps_if (pt_cmpR op_eq (pe_callC C_law_pick hr_law_pick rfl (pa_cons (pv 0) (pa_cons (pv 2) pa_nil))) pe_int (nomark _))
    (pss_cons (ps_set (i := 7) nd rfl (Or.inl rfl) (pe_callC C_law_pick hr_law_pick rfl (pa_cons (pv 0) (pa_cons (pe_op op_add (pv 6) pe_int) pa_nil))))
    (pss_one (ps_set (i := 8) nd rfl (Or.inl rfl) (pe_op op_add (pv 7) (pe_callC C_law_pick hr_law_pick rfl (pa_cons (pv 0) (pa_cons (pe_op op_sub (pe_op op_add (pv 6) pe_int) (pv 7)) pa_nil)))))))
    pss_nil)
    (pss_cons (ps_par (i := 9) (j := 10) rfl nd rfl rfl (by decide) rfl rfl (pa_cons (pe_callC C_law_one hr_law_one rfl (pa_cons (pv 0) (pa_cons (pe_lst (pa_cons pe_int (pa_cons pe_int (pa_cons pe_int (pa_cons pe_int pa_nil))))) pa_nil))) (pa_cons (pe_callC C_law_one hr_law_one rfl (pa_cons (pv 0) (pa_cons (pe_lst (pa_cons pe_int (pa_cons pe_int (pa_cons pe_int (pa_cons pe_int pa_nil))))) pa_nil))) pa_nil)) (by rfl))
    (pss_one (ps_dput hu (pv 4) (pv 6) (pe_tup (pa_cons (pv 6) (pa_cons (pe_callB (call_max2 rfl) rfl bf.max bt_max (pa_cons pe_int (pa_cons (pe_op op_sub (pv 7) (pv 10)) pa_nil))) (pa_cons (pe_callB (call_min2 rfl) rfl bf.min bt_min (pa_cons (pv 6) (pa_cons (pe_op op_add (pv 8) (pv 9)) pa_nil))) pa_nil)))) rfl)))))))
    (pss_one (ps_ret (pe_callTy call_tuple_of rfl bf.tuple bt_tuple (pa_cons (pe_lc (own := [("span", 6)]) rfl nd (pi_list (pe_callB (call_sortedDI rfl) rfl bf.sorted bt_sorted (pa_cons (pv 4) pa_nil))) (blkOk_by (own := [("span", 6)]) (N := N__law_rules) (sc := defScope S__law_rules) (by decide +kernel)) (fun _ _ _ _ _ => (pg_name (i := 6) nd rfl (Or.inl rfl) (Or.inr rfl))) (fun _ _ _ _ _ => pts_nil) (fun _ _ _ _ _ => (pe_dget hu (pv 4) (pv 6) (fun _ _ => rfl)))) pa_nil)))))), ?_⟩
    refine ⟨_, rfl, a, 13, N, rfl, by decide, by decide, by omega, hd, fun top H1 t0 t1 sx1 ts1 hd1 => fun D hD => ?_⟩
    have nDa : a ≠ D := fun e => by subst e; obtain ⟨_, _, _, h1, _⟩ := hd1; rw [h1] at hD; cases hD
    have nD0 : H D = none := by
      cases e : H D with
      | none => rfl
      | some o => rw [sx1 D o (by simpa using fun z : D = a => nDa z.symm) e] at hD; cases hD
    have nDa' : D ∉ [a] := by simpa using fun z : D = a => nDa z.symm
    have tsD : TS H1 (upd H1 D (.dK [])) := TS.new hD
    refine ⟨sz (by show 2 ≤ 100000; decide), fun T hT => ?_⟩
    have tsT : TS (upd H1 D (.dK [])) (upd (upd H1 D (.dK [])) T (.tup [.int top, .ref D])) := TS.new hT
    have sT : Same H1 (upd (upd H1 D (.dK [])) T (.tup [.int top, .ref D])) := (Same.new hD).trans (Same.new hT)
    refine ⟨T, _, rfl, SqT.of upd_same, rfl, _, _, rfl, _, _, rfl, rfl, ?_⟩
    refine ⟨_, rfl, a, 4, N + 1, rfl, by decide, by decide, by omega, hd1.same sT, fun n4 H2 n0 n1 sx2 ts2 hd2 => ?_⟩
    refine ⟨_, _, rfl, rfl, _, rfl, by omega, by omega, for_range (PvRules a D so close top N H) ?_ ?_ ?_⟩
    · have hD2 : (upd (upd H1 D (.dK [])) T (.tup [.int top, .ref D])) D = some (.dK []) := by rw [upd_ne (ne_of_none upd_same hT)]; exact upd_same
      exact ⟨[], none, none, none, none, none, none, rfl, nD0, nDa, (sx1.trans (SameX.of sT)).trans sx2, (ts1.trans (TS.of sT)).trans ts2, hd2.mono (fun _ h => h) (by omega), sx2 _ _ nDa' hD2, ⟨List.nodup_nil, fun p hp => by cases hp⟩, Nat.le_refl _, fun h => absurd h (Nat.lt_irrefl _)⟩
    · rintro i σ H3 hi ⟨kvs, x5, x6, x7, x8, x9, x10, rfl, _, _, sx3, ts3, hd3, hD3, fo, hl, _⟩
      have hi4 : i < 4 := by omega
      refine ⟨_, rfl, _, rfl, a, so, _, rfl, by omega, by omega, by omega, hd3, fun sp H4 p0 p1 sx4 ts4 hd4 => ?_⟩
      refine ⟨_, _, rfl, rfl, ?_⟩
      have b1 : 0 ≤ (1 + sp) * top := Int.mul_nonneg (by omega) t0
      have b2 : (1 + sp) * top ≤ (1 + sp) * 12 := Int.mul_le_mul_of_nonneg_left (by omega) (by omega)
      have b3 : (1 + sp) * top < 1000 := by omega
      refine ⟨_, rfl, _, rfl, _, _, rfl, rfl, .inl ⟨by omega, by omega⟩, _, _, rfl, rfl, ⟨by decide, by decide⟩, ?_⟩
      refine ⟨_, rfl, _, rfl, _, _, rfl, rfl, .inl ⟨by omega, by omega⟩, _, _, rfl, rfl, _, _, rfl, rfl, ⟨by decide, by decide⟩, _, _, rfl, ?_⟩
      have g1 : 0 ≤ (1 + sp) * top / 12 := by omega
      have g2 : (1 + sp) * top / 12 ≤ 1 + sp := by omega
      have g3 : (1 + sp) * top / 12 ≤ ((1 + sp) * top + 11) / 12 := by omega
      refine ⟨_, rfl, _, rfl, a, close, _, rfl, by omega, by omega, by omega, hd4, fun cl H5 _ _ sx5 ts5 hd5 => ?_⟩
      refine ⟨rfl, _, rfl, ?_⟩
      refine if_join (fun σ H6 => ∃ low high : Int, ∃ x5, σ = [some (.ref a), some (.int so), some (.int close), some (.int top), some (.ref D), x5, some (.int (1 + sp)), some (.int low), some (.int high), x9, x10] ∧ SameX [a] H3 H6 ∧ TS H3 H6 ∧ DeckAt H6 a (N + 2 + 8 * i + 4) ∧ 0 ≤ low ∧ low ≤ 1 + sp ∧ low ≤ high) ?_ (fun _ hF => ?_) (fun _ => ⟨_, _, _, rfl, sx4.trans sx5, ts4.trans ts5, hd5.mono (fun _ h => h) (by omega), g1, g2, g3⟩)
      · rintro σ H6 ⟨low, high, x5, rfl, sx6, ts6, hd6, g1, g2, g3⟩
        refine ⟨_, rfl, sz (by show 4 ≤ 100000; decide), fun c1 hc1 => ?_⟩
        have q1 : Same H6 (upd H6 c1 (.lst [.int 0, .int 0, .int 1, .int 2])) := Same.new hc1
        have na1 : a ≠ c1 := fun e => by subst e; obtain ⟨_, _, _, z, _⟩ := hd6; rw [z] at hc1; cases hc1
        refine ⟨a, c1, _, _, rfl, na1, upd_same, (fun e => by cases e), (by decide), by omega, hd6.same q1, fun x1 H7 hx1 sx7 ts7 hd7 => ?_⟩
        refine ⟨_, rfl, sz (by show 4 ≤ 100000; decide), fun c2 hc2 => ?_⟩
        have q2 : Same H7 (upd H7 c2 (.lst [.int 0, .int 0, .int 1, .int 2])) := Same.new hc2
        have na2 : a ≠ c2 := fun e => by subst e; obtain ⟨_, _, _, z, _⟩ := hd7; rw [z] at hc2; cases hc2
        refine ⟨a, c2, _, _, rfl, na2, upd_same, (fun e => by cases e), (by decide), by omega, hd7.same q2, fun x2 H8 hx2 sx8 ts8 hd8 => ⟨_, _, rfl, ?_⟩⟩
        have small : ∀ x ∈ ([.int 0, .int 0, .int 1, .int 2] : List V), ∃ m : Int, x = .int m ∧ 0 ≤ m ∧ m ≤ 2 := by
          intro x hx
          simp only [List.mem_cons, List.not_mem_nil, or_false] at hx
          rcases hx with rfl | rfl | rfl | rfl <;> exact ⟨_, rfl, by decide, by decide⟩
        obtain ⟨m1, rfl, u1, u2⟩ := small _ hx1
        obtain ⟨m2, rfl, u3, u4⟩ := small _ hx2
        have sx9 := sx6.trans ((SameX.of q1).trans (sx7.trans ((SameX.of q2).trans sx8)))
        have ts9 := ts6.trans ((TS.of q1).trans (ts7.trans ((TS.of q2).trans ts8)))
        refine ⟨_, rfl, _, rfl, _, rfl, _, _, rfl, rfl, _, _, rfl, _, rfl, _, rfl, _, rfl, _, _, rfl, rfl, _, _, rfl, sz (by show 3 ≤ 100000; decide), fun p hp => ?_⟩
        have hD8 := sx9 _ _ nDa' hD3
        have qp : ∀ o, Same H8 (upd H8 p o) := fun o => Same.new hp
        refine ⟨_, rfl, _, rfl, D, _, rfl, DPut.k (k := Sum.inl (1 + sp)) (qp _ _ _ hD8) (szl (by omega)), ?_⟩
        have tsd : ∀ o u, TS (upd H8 p o) (upd (upd H8 p o) D u) := fun o u => TS.dK (qp _ _ _ hD8)
        refine ⟨_, _, _, _, _, _, _, rfl, nD0, nDa, ?_, ?_, ?_, upd_same, ?_, ?_, fun _ e => ?_⟩
        · exact SameX.upd_new ((sx3.trans sx9).trans (SameX.of (qp _))) nD0
        · exact ((ts3.trans ts9).trans (TS.of (qp _))).trans (tsd _ _)
        · exact (hd8.same (qp _)).mono (fun xs e => by rw [upd_ne nDa]; exact e) (by omega)
        · refine Found.put (r := (1 + sp, _, _)) ((fo.mono ts9).mono ((TS.of (qp _)).trans (tsd _ _))) ⟨p, rfl, tsd _ _ _ _ upd_same⟩ ⟨by omega, by show 1 + sp ≤ so; omega, ?_, ?_, ?_⟩
          · show (0:Int) ≤ if low - m2 > 0 then low - m2 else 0
            split <;> omega
          · show (if low - m2 > 0 then low - m2 else 0) ≤ if high + m1 < 1 + sp then high + m1 else 1 + sp
            split <;> split <;> omega
          · show (if high + m1 < 1 + sp then high + m1 else 1 + sp) ≤ 1 + sp
            split <;> omega
        · exact Nat.le_trans put_len (by omega)
        · have := DGet.k (H := upd H D (.dK (putK kvs (Sum.inl (1 + sp)) (V.ref p)))) (a := D) (k := Sum.inl (1 + sp)) upd_same
          have v := valV_put kvs (Sum.inl (1 + sp)) (Sum.inl (1 + sp)) (.ref p)
          rw [e, if_pos rfl] at v
          cases v
      · refine ⟨_, rfl, _, rfl, _, _, rfl, rfl, a, _, _, rfl, by omega, by omega, by omega, hd5, fun lo H6 q0 q1 sx6 ts6 hd6 => ?_⟩
        refine ⟨_, rfl, _, rfl, _, rfl, _, _, rfl, rfl, _, rfl, _, _, rfl, rfl, a, _, _, rfl, by omega, by omega, by omega, hd6, fun hh H7 r0 r1 sx7 ts7 hd7 => ?_⟩
        refine ⟨_, _, rfl, rfl, hF _ _ ?_⟩
        exact ⟨lo, lo + hh, _, rfl, sx4.trans (sx5.trans (sx6.trans sx7)), ts4.trans (ts5.trans (ts6.trans ts7)), hd7.mono (fun _ h => h) (by omega), q0, by omega, by omega⟩
    · rintro σ H3 ⟨kvs, x5, x6, x7, x8, x9, x10, rfl, _, _, sx3, ts3, hd3, hD3, fo, hl, ne⟩
      obtain ⟨ks, ek, kn, kl⟩ := fo.ints
      refine ⟨_, rfl, D, kvs, ks, rfl, .inl hD3, ek, by omega, fun ys p perm sorted hp => ?_⟩
      obtain ⟨rs, ers, hrs⟩ := fo.rules ys fun y hy => by rw [ek]; exact List.mem_map.mpr ⟨y, perm.mem_iff.mp hy, rfl⟩
      have q1 : Same H3 (upd H3 p (.lst (ys.map V.int))) := Same.new hp
      have lenr : rs.length = kvs.length := by rw [← kl, ← perm.length_eq, ← ers, List.length_map]
      have ynd : ys.Nodup := perm.nodup_iff.mpr kn
      have up : rs.Pairwise fun a b => a.1 < b.1 := by
        have h1 : ys.Pairwise fun a b => a < b := by
          refine List.Pairwise.imp₂ (R := fun a b => a ≤ b) (S := fun a b => a ≠ b) (fun a b h1 h2 => ?_) sorted ynd
          omega
        rw [← ers] at h1
        exact List.pairwise_map.mp h1
      have ok : RulesOk rs := ⟨fun e => ne (by omega) (List.length_eq_zero_iff.mp (by rw [← lenr, e]; rfl)), by omega, fun r hr => let ⟨⟨h1, h2, h3, h4, h5⟩, _⟩ := hrs r hr; ⟨h1, by omega, h3, h4, h5⟩, up⟩
      refine ⟨p, rfl, ⟨_, SqL.of upd_same⟩, fun M hM => lc_map (n := rs.length) (by rw [show rs.length = (ys.map V.int).length by rw [List.length_map, ← ers, List.length_map]]; exact walk_list) RuleAt rs hM rfl (by omega) (fun _ _ _ _ e z => TupI.mono (TS.of e) z) (fun _ _ _ _ _ e z => TupI.mono (TS.lst e) z) (fun H4 e => SqL.of (e _ _ upd_same)) ?_ (gm_name 6) ?_⟩
      · rintro i x H4 H5 NT hi sm ⟨rfl, hx⟩ put
        have hri : rs[i]? = some rs[i] := List.getElem?_eq_getElem hi
        have ex : x = .int rs[i].1 := by
          rw [List.getElem?_map, ← ers, List.getElem?_map, hri] at hx
          exact (Option.some.inj hx).symm
        subst ex
        obtain ⟨v, hv, hrule⟩ := (hrs rs[i] (List.getElem_mem hi)).2
        refine ⟨rfl, _, rfl, _, rfl, D, v, rfl, ?_, put v _ rs[i] (Same.refl _) hri (TupI.mono (TS.of (q1.trans sm)) hrule)⟩
        rw [← hv]
        exact DGet.k (k := Sum.inl rs[i].1) (sm _ _ (q1 _ _ hD3))
      · intro H4 zs sm hM pr
        refine ⟨M, zs, rfl, .inl ⟨SqL.of hM, fun l hl => ?_⟩⟩
        have q2 : Same H4 (upd H4 l (.tup zs)) := Same.new hl
        have q3 := (q1.trans sm).trans q2
        exact k _ _ rs (sx3.trans (SameX.of q3)) (ts3.trans (TS.of q3)) ((hd3.same q3).mono (fun _ h => h) (by omega)) ⟨l, zs, rfl, upd_same, Paired.mp pr fun _ _ z => TupI.mono (TS.of q2) z⟩ ok (by omega) (fun r hr => (hrs r hr).1.2.1)
end
end An
-- imports: M4
/-! ### E4: fits, thinned -/
namespace An
open PySem L2
section
variable {P : Program} {w : World} {K : PySem.W.Frag} {mg : Str → Option Value} {base : Heap}
def N__law_fits : List Str := ["rules", "row", "span", "least", "most"]
theorem sc_law_fits : FnScope N__law_fits ["rules", "row"] (defScope S__law_fits) := ⟨rfl, rfl, rfl, by decide +kernel, rfl, by decide +kernel, by decide +kernel⟩
def spFits : Sp := fun vs H Q _ => ∃ rv tv rs u, vs = [rv, tv] ∧ RulesAt H rv rs ∧ RulesOk rs ∧ TupI H tv u ∧ ∀ H', Same H H' → Q (.bl (fits rs u)) H'
def PvFits (rs : List Rule) (a c : Addr) (u : Row) (H : Hp) (i : Nat) (σ : L2.St) (H' : Hp) : Prop :=
  Same H H' ∧ (∃ x2 x3 x4, σ = [some (.ref a), some (.ref c), x2, x3, x4]) ∧ ∀ (j : Nat) (r : Rule), j < i → rs[j]? = some r → okRule u r = true
theorem PvFits.next {rs : List Rule} {a c : Addr} {u : Row} {H : Hp} {i : Nat} {H' : Hp} {r : Rule} {x2 x3 x4 : Option V} (sm : Same H H') (bd : ∀ (j : Nat) (r : Rule), j < i → rs[j]? = some r → okRule u r = true) (hr : rs[i]? = some r) (hb : okRule u r = true) :
    PvFits rs a c u H (i + 1) [some (.ref a), some (.ref c), x2, x3, x4] H' := by
  refine ⟨sm, ⟨_, _, _, rfl⟩, fun j r' hj hr' => ?_⟩
  by_cases e : j = i
  · subst e; rw [hr] at hr'; cases hr'; exact hb
  · exact bd j r' (by omega) hr'
theorem ok_law_fits (D : Dn K mg "_law_fits" S__law_fits) (bf : Bf mg) : Cl P w K mg base 1 "_law_fits" spFits := by
  refine D.ok sc_law_fits (fun vs H Q E h => ?_) (fun _ _ _ _ _ _ us hl => match us, hl with | [_, _], _ => rfl) (fun f cdv A outer s H vs Q E hr h => ?_)
  · obtain ⟨rv, tv, rs, u, rfl, _⟩ := h; rfl
  · obtain ⟨rv, tv, rs, u, rfl, ⟨a, xs, rfl, ha, pr⟩, ok, ⟨c, rfl, hc⟩, k⟩ := h
    have nd := sc_law_fits.nd
    refine ⟨_, (pss_cons (ps_for PassesOwn.never rfl (pi_tup (pv 0)) (pg_tup rfl (pgs_cons (pg_name (i := 2) nd rfl (Or.inl rfl)) (pgs_cons (pg_name (i := 3) nd rfl (Or.inl rfl)) (pgs_cons (pg_name (i := 4) nd rfl (Or.inl rfl)) pgs_nil))))
    (pss_one (ps_if (PW.pt (pw_and (pt_cmpR op_ge (pe_callB call_len_seq rfl bf.len bt_len (pa_cons (pv 1) pa_nil)) (pv 2) (nomark _)) (pw_and1 (pt_not (pt_chain op_le op_le (pv 3) (pe_callB (cr_sumT rfl) rfl bf.sum bt_sum (pa_cons (pe_slice sl_tupA (pv 1) (po_some (pe_op op_sub (pe_callB call_len_seq rfl bf.len bt_len (pa_cons (pv 1) pa_nil)) (pv 2))) po_none) pa_nil)) (pv 4))))))
    (pss_one (ps_ret pe_bl))
    pss_nil)))
    (pss_one (ps_ret pe_bl))), ?_⟩
    refine ⟨_, rfl, a, rfl, ⟨_, SqT.of ha⟩, for_tup (xs := xs) (PvFits rs a c u H) ⟨Same.refl H, ⟨none, none, none, rfl⟩, fun j r hj => absurd hj (Nat.not_lt_zero _)⟩ (fun i σ H' _ h => SqT.of (h.1 _ _ ha)) ?_ ?_⟩
    · rintro i x σ H' hi ⟨sm, ⟨x2, x3, x4, rfl⟩, bd⟩
      obtain ⟨r, hri, ⟨b, rfl, hb⟩⟩ := Paired.get pr hi
      have hc' := sm _ _ hc
      have ro := ok.one r (List.mem_of_getElem? hri)
      have no : okRule u r = false → ∀ H2, Same H H2 → Q (.bl false) H2 := fun e H2 s2 => by
        have : fits rs u = false := by
          cases q : fits rs u
          · rfl
          · have := List.all_eq_true.mp q r (List.mem_of_getElem? hri)
            rw [e] at this; cases this
        rw [← this]; exact k H2 s2
      refine ⟨b, _, rfl, SqT.of (sm _ _ hb), rfl, _, _, rfl, _, _, rfl, _, _, rfl, rfl, ?_⟩
      refine ⟨_, rfl, c, _, rfl, .inr (SqT.of hc'), _, rfl, _, _, rfl, rfl, _, rfl, ?_⟩
      refine ite2 (fun hge => ?_) (fun hlt => ?_)
      · rw [List.length_map, decide_eq_true_eq] at hge
        refine ⟨_, rfl, _, rfl, _, rfl, c, _, rfl, .inr (SqT.of hc'), _, rfl, _, _, rfl, rfl, _, rfl, ?_⟩
        refine sl_fromN (k := u.length - r.1.toNat) ?e hc' fun q H2 sm2 hq => ?_
        case e => rw [List.length_map]; omega
        rw [← List.map_drop] at hq
        have sm3 := sm.trans sm2
        have eb : okRule u r = (decide (r.2.1 ≤ endSum u r.1) && decide (endSum u r.1 ≤ r.2.2)) := by
          unfold okRule
          rw [decide_eq_true hge]; rfl
        refine ⟨q, _, rfl, SqT.of hq, _, _, rfl, rfl, _, rfl, ?_⟩
        show if decide (r.2.1 ≤ endSum u r.1) = true then _ else _
        refine ite2 (fun h1 => ?_) (fun h1 => ?_)
        · refine ⟨_, rfl, _, _, rfl, rfl, _, rfl, ?_⟩
          show if (!decide (endSum u r.1 ≤ r.2.2)) = true then _ else _
          refine ite2 (fun h2 => ?_) (fun h2 => ?_)
          · refine no ?_ _ sm3
            rw [eb, h1, Bool.true_and]; simpa using h2
          · exact PvFits.next sm3 bd hri (by rw [eb, h1]; simpa using h2)
        · refine ⟨_, rfl, iteT (no ?_ _ sm3)⟩
          rw [eb, Bool.not_eq_true] at *
          rw [h1]; rfl
      · rw [List.length_map, decide_eq_true_eq] at hlt
        refine PvFits.next sm bd hri ?_
        unfold okRule
        rw [decide_eq_false (by omega)]; rfl
    · rintro σ H' ⟨sm, _, bd⟩
      have : fits rs u = true := List.all_eq_true.mpr fun r hr => by
        obtain ⟨j, hj, e⟩ := List.getElem_of_mem hr
        exact bd j r (by rw [Paired.len pr]; exact hj) (by rw [List.getElem?_eq_getElem hj, e])
      rw [this] at k
      exact k _ sm
/-! #### thinned -/
def encS (ss : List Row) : List (List Key × V) := ss.map fun t => (key t, V.bl true)
theorem encS_get (ss : List Row) (u : Row) : valV (encS ss) (key u) = if u ∈ ss then some (.bl true) else none := by
  induction ss with
  | nil => rfl
  | cons t ss ih =>
    show valV ((key t, V.bl true) :: encS ss) (key u) = _
    by_cases e : t = u
    · subst e; rw [valV_pos rfl, if_pos List.mem_cons_self]
    · rw [valV_neg fun z => e (key_inj z), ih]
      by_cases m : u ∈ ss
      · rw [if_pos m, if_pos (List.mem_cons_of_mem _ m)]
      · rw [if_neg m, if_neg fun z => (List.mem_cons.mp z).elim (fun q => e q.symm) m]
def N__law_thinned : List Str := ["rules", "rows", "wide", "seen", "found", "row", "tail"]
theorem sc_law_thinned : FnScope N__law_thinned ["rules", "rows"] (defScope S__law_thinned) := ⟨rfl, rfl, rfl, by decide +kernel, rfl, by decide +kernel, by decide +kernel⟩
def spThin : Sp := fun vs H Q _ => ∃ rv rs L xs F, vs = [rv, .ref L] ∧ RulesAt H rv rs ∧ RulesOk rs ∧ H L = some (.lst xs) ∧ Paired (TupI H) xs F ∧ F.length ≤ 2000 ∧ (∀ r ∈ F, r.length ≤ 1000) ∧
  ∀ p H' ys, Same H H' → H' p = some (.lst ys) → Paired (TupI H') ys (thin (wd rs) F) → Q (.ref p) H'
def PvThin (rs : List Rule) (rv : V) (L S M : Addr) (F : List Row) (H : Hp) (i : Nat) (σ : L2.St) (H' : Hp) : Prop :=
  ∃ ys x5 x6, σ = [some rv, some (.ref L), some (.int (wd rs)), some (.ref S), some (.ref M), x5, x6] ∧ Same H H' ∧ H S = none ∧ H M = none ∧ S ≠ M ∧
    H' S = some (.dT (encS ((thin (wd rs) (F.take i)).map (tl (wd rs))))) ∧ H' M = some (.lst ys) ∧ Paired (TupI H') ys (thin (wd rs) (F.take i))
theorem ok_law_thinned (D : Dn K mg "_law_thinned" S__law_thinned) (bf : Bf mg) : Cl P w K mg base 1 "_law_thinned" spThin := by
  refine D.ok sc_law_thinned (fun vs H Q E h => ?_) (fun _ _ _ _ _ _ us hl => match us, hl with | [_, _], _ => rfl) (fun f cdv A outer s H vs Q E hr h => ?_)
  · obtain ⟨rv, rs, L, xs, F, rfl, _⟩ := h; rfl
  · obtain ⟨rv, rs, L, xs, F, rfl, hR, ok, hL, pr, hF, hrl, k⟩ := h
    obtain ⟨a, zs, rfl, ha, pz⟩ := id hR
    have nd := sc_law_thinned.nd
    have hu := hu_of hr
    have wide := ok.wide
    refine ⟨_, (pss_cons (ps_par3 (i := 2) (j := 3) (l := 4) rfl nd rfl rfl rfl (by decide) (by decide) (by decide) rfl rfl rfl (pa_cons (pe_ix ix_tup (pe_ix ix_tup (pv 0) (pe_un un_neg pe_int) (fun _ _ => rfl)) pe_int (fun _ _ => rfl)) (pa_cons pe_dnewT (pa_cons (pe_lst pa_nil) pa_nil))) (by rfl))
    (pss_cons (ps_for PassesOwn.never rfl (pi_list (pv 1)) (pg_name (i := 5) nd rfl (Or.inl rfl))
    (pss_cons (ps_set (i := 6) nd rfl (Or.inl rfl) (pe_slice sl_tupA (pv 5) (po_some (pe_callB (call_max2 rfl) rfl bf.max bt_max (pa_cons pe_int (pa_cons (pe_op op_sub (pe_op op_add (pe_callB call_len_seq rfl bf.len bt_len (pa_cons (pv 5) pa_nil)) pe_int) (pv 2)) pa_nil)))) po_none))
    (pss_one (ps_if (pt_cmp (pc_dnotin hu (pv 6) (pv 3)))
    (pss_cons (ps_dput hu (pv 3) (pv 6) pe_bl rfl)
    (pss_one (ps_expr (pe_bm PySem.F.plainAttrs_list PySem.F.slot_list_append PySem.F.type_list_append mt_append (pv 4) (pa_cons (pv 5) pa_nil)))))
    pss_nil))))
    (pss_one (ps_ret (pv 4))))), ?_⟩
    obtain ⟨r, hrm, e, hl⟩ := wd_mem ok.some
    have hlen := Paired.len pz
    have hne : 0 < rs.length := List.length_pos_iff.mpr ok.some
    have hrl' : rs[rs.length - 1]? = some r := by rw [← hl, List.getLast?_eq_getElem?]
    obtain ⟨v, hv, ⟨b, rfl, hb⟩⟩ := Paired.get' pz hrl'
    refine ⟨_, rfl, _, rfl, a, zs, -1, .ref b, rfl, rfl, SqT.of ha, ?_, ?_⟩
    · rw [← hlen] at hv
      show (ixN zs.length (-1)).bind _ = _
      have : ixN zs.length (-1) = some (zs.length - 1) := by
        unfold ixN
        rw [if_neg (by decide), if_pos (by omega)]
        congr 1; omega
      rw [this]
      exact hv
    · refine ⟨b, _, 0, .int r.1, rfl, rfl, SqT.of hb, rfl, fun S hS => ?_⟩
      have s1 : Same H (upd H S (.dT [])) := Same.new hS
      refine ⟨sz (by show 0 ≤ 100000; decide), fun M hM => ⟨_, _, _, rfl, ?_⟩⟩
      have s2 := s1.trans (Same.new (o := .lst []) hM)
      have nM : H M = none := by
        cases q : H M with
        | none => rfl
        | some o => rw [s1 _ _ q] at hM; cases hM
      have nSM : S ≠ M := fun z => by subst z; rw [upd_same] at hM; cases hM
      rw [← e]
      refine ⟨_, rfl, L, rfl, ⟨_, SqL.of (s2 _ _ hL)⟩, for_list (xs := xs) (PvThin rs (.ref a) L S M F H) ⟨[], none, none, rfl, s2, hS, nM, nSM, by rw [upd_ne nSM]; exact upd_same, upd_same, .nil⟩ (fun i σ H' _ ⟨_, _, _, _, sm, _⟩ => SqL.of (sm _ _ hL)) ?_ ?_⟩
      · rintro i x σ H' hi ⟨ys, x5, x6, rfl, sm, nS, nM, nSM, hS', hM', py⟩
        obtain ⟨u, hu', ⟨c, rfl, hc⟩⟩ := Paired.get pr hi
        have hc' := sm _ _ hc
        have hul := hrl u (List.mem_of_getElem? hu')
        have et : F.take (i + 1) = F.take i ++ [u] := by rw [List.take_add_one, hu']; rfl
        refine ⟨_, rfl, _, rfl, c, _, rfl, .inr (SqT.of hc'), _, _, rfl, rfl, _, rfl, _, _, rfl, rfl, _, _, rfl, _, rfl, ?_⟩
        refine sl_fromN (k := u.length + 1 - (wd rs).toNat) ?e hc' fun q H2 sm2 hq => ?_
        case e =>
          rw [List.length_map]
          split <;> omega
        rw [← List.map_drop] at hq
        have hq : H2 q = some (.tup ((tl (wd rs) u).map V.int)) := hq
        have hS2 := sm2 _ _ hS'
        have hqk : H2 q = some (.tup ((key (tl (wd rs) u)).map kV)) := by rw [key_map]; exact hq
        refine ⟨_, rfl, _, rfl, S, _, rfl, DGet.t (k := key (tl (wd rs) u)) hS2 hqk, _, rfl, ?_⟩
        rw [encS_get]
        by_cases m : tl (wd rs) u ∈ (thin (wd rs) (F.take i)).map (tl (wd rs))
        · rw [if_pos m]
          refine iteF ⟨ys, _, _, rfl, sm.trans sm2, nS, nM, nSM, ?_⟩
          rw [et, thin_snoc]
          unfold thinStep
          rw [if_pos m]
          exact ⟨hS2, sm2 _ _ hM', Paired.mp py fun _ _ z => TupI.mono (TS.of sm2) z⟩
        · rw [if_neg m]
          have small : (thin (wd rs) (F.take i)).length ≤ 2000 := by
            have : ∀ G : List Row, (thin (wd rs) G).length ≤ G.length := fun G => by
              induction G using snoc_ind with
              | h0 => exact Nat.le_refl _
              | h1 G a ih =>
                rw [thin_snoc, List.length_append]
                unfold thinStep
                split
                · exact Nat.le_succ_of_le ih
                · rw [List.length_append]; exact Nat.add_le_add_right ih _
            refine Nat.le_trans (this _) ?_
            rw [List.length_take]; omega
          refine iteT ⟨_, rfl, _, rfl, S, _, rfl, DPut.t (k := key (tl (wd rs) u)) hS2 hqk (szl (by unfold encS; rw [List.length_map, List.length_map]; omega)), ?_⟩
          have t2 : LTS H2 (upd H2 S (.dT (putK (encS ((thin (wd rs) (F.take i)).map (tl (wd rs)))) (key (tl (wd rs) u)) (.bl true)))) := LTS.dT hS2
          have hM2 := sm2 _ _ hM'
          have hM3 := t2 _ _ (.inl ⟨_, rfl⟩) hM2
          refine ⟨_, rfl, .inl ⟨rfl, _, SqL.of hM3⟩, _, rfl, M, ys, _, rfl, rfl, hM3, szl (by rw [Paired.len py]; omega), ys ++ [.ref c], _, _, rfl, fun z o ez => ?_, nS, nM, nSM, ?_⟩
          · rw [upd_ne (ne_of_none ez nM), upd_ne (ne_of_none ez nS)]; exact sm2 _ _ (sm _ _ ez)
          · rw [et, thin_snoc]
            unfold thinStep
            rw [if_neg m, upd_ne nSM, upd_same, upd_same]
            refine ⟨?_, rfl, ?_⟩
            · rw [putK_new _ (by rw [encS_get, if_neg m])]
              unfold encS
              rw [List.map_append, List.map_append]; rfl
            · have t3 : TS H2 (upd (upd H2 S (.dT (putK (encS ((thin (wd rs) (F.take i)).map (tl (wd rs)))) (key (tl (wd rs) u)) (.bl true)))) M (.lst (ys ++ [.ref c]))) := t2.ts.trans (TS.lst hM3)
              exact Paired.snoc1 (Paired.mp py fun _ _ z => TupI.mono ((TS.of sm2).trans t3) z) ⟨c, rfl, t3 _ _ (sm2 _ _ hc')⟩
      · rintro σ H' ⟨ys, x5, x6, rfl, sm, nS, nM, nSM, hS', hM', py⟩
        rw [Paired.len pr, List.take_of_length_le (Nat.le_refl _)] at py
        exact ⟨_, rfl, k M H' ys sm hM' py⟩
end
end An
-- imports: E4
/-! ### E5: where rows end -/
namespace An
open PySem L2
/-! #### rows as data -/
def rowD (r : Row) : PyData := .tuple (r.map PyData.int)
theorem ints_lay : ∀ r : Row, PyData.canLayAll0 (r.map PyData.int) = true
  | [] => by simp [PyData.canLayAll0]
  | x :: r => by
    have := ints_lay r
    simp only [List.map_cons, PyData.canLayAll0, PyData.canLay0, Bool.true_and]
    exact this
theorem ints_depth : ∀ r : Row, PyData.depthAll (r.map PyData.int) = 0
  | [] => by simp [PyData.depthAll]
  | x :: r => by
    have := ints_depth r
    simp only [List.map_cons, PyData.depthAll, PyData.depth, this]; rfl
theorem rowD_lay (r : Row) : PyData.canLay0 (rowD r) = true := by
  unfold rowD; simp only [PyData.canLay0]; exact ints_lay r
theorem rowD_depth (r : Row) : PyData.depth (rowD r) = 1 := by
  unfold rowD; simp only [PyData.depth, ints_depth]
theorem rowD_shaped (r : Row) : SeqAt.shaped (rowD r) = true := by
  show ((rowD r).canLay0 && decide ((rowD r).depth ≤ 64)) = true
  rw [rowD_lay, rowD_depth]; rfl
theorem rowsD_lay : ∀ F : List Row, PyData.canLayAll0 (F.map rowD) = true
  | [] => by simp [PyData.canLayAll0]
  | x :: r => by
    have := rowsD_lay r
    simp only [List.map_cons, PyData.canLayAll0, rowD_lay, Bool.true_and]
    exact this
theorem rowsD_depth : ∀ F : List Row, PyData.depthAll (F.map rowD) ≤ 1
  | [] => by simp [PyData.depthAll]
  | x :: r => by
    have := rowsD_depth r
    simp only [List.map_cons, PyData.depthAll, rowD_depth]
    omega
theorem rowsD_shaped (F : List Row) : SeqAt.shaped (.list (F.map rowD)) = true := by
  have h := rowsD_depth F
  have h2 : PyData.depth (.list (F.map rowD)) ≤ 64 := by
    simp only [PyData.depth]
    omega
  show (PyData.canLay0 (.list (F.map rowD)) && decide (PyData.depth (.list (F.map rowD)) ≤ 64)) = true
  rw [Bool.and_eq_true]
  exact ⟨by simp only [PyData.canLay0]; exact rowsD_lay F, decide_eq_true h2⟩
theorem rowsD_nil (F : List Row) : PyData.eqv (.list (F.map rowD)) (.list []) = decide (F = []) := by
  cases F with
  | nil => simp [PyData.eqv, PyData.eqvAll]
  | cons r F => simp [PyData.eqv, PyData.eqvAll]
theorem dp_ints {K : PySem.W.Frag} {H : Hp} : ∀ r : Row, DpAll K H (r.map V.int) (r.map PyData.int)
  | [] => .nil
  | x :: r => .cons (.int x) (dp_ints r)
theorem dp_row {K : PySem.W.Frag} {H : Hp} {v : V} {r : Row} (h : TupI H v r) : Dp K H v (rowD r) := by
  obtain ⟨a, rfl, ha⟩ := h
  exact .tup (SqT.of ha) (dp_ints r)
theorem dp_rows {K : PySem.W.Frag} {H : Hp} : ∀ {xs : List V} {F : List Row}, Paired (TupI H) xs F → DpAll K H xs (F.map rowD)
  | _, _, .nil => .nil
  | _, _, .cons h t => .cons (dp_row h) (dp_rows t)
section
variable {P : Program} {w : World} {K : PySem.W.Frag} {mg : Str → Option Value} {base : Heap}
def N__law_ends_at : List Str := ["rules", "found", "row", "many", "more", "one", "place"]
theorem sc_law_ends_at : FnScope N__law_ends_at ["rules"] (defScope S__law_ends_at) := ⟨rfl, rfl, rfl, by decide +kernel, rfl, by decide +kernel, by decide +kernel⟩
def EndV (H : Hp) (rs : List Rule) (v : V) : Prop := (∃ (n : Nat) (a : Addr) (u : V), IsRk rs [] n ∧ n < 255 ∧ v = .ref a ∧ H a = some (.tup [.int (n : Nat), u]) ∧ TupI H u (rowFrom rs n [])) ∨ ((∀ n, ext rs n [] = true) ∧ v = .non)
def spEnds : Sp := fun vs H Q _ => ∃ rv rs, vs = [rv] ∧ RulesAt H rv rs ∧ RulesOk rs ∧ ∀ v H', Same H H' → EndV H' rs v → Q v H'
/-- between two rounds -/
def PvEnds (rs : List Rule) (rv : V) (H : Hp) (i : Nat) (σ : L2.St) (H' : Hp) : Prop :=
  ∃ L x2 x3 x4 x5 x6 xs F, σ = [some rv, some (.ref L), x2, x3, x4, x5, x6] ∧ Same H H' ∧ H' L = some (.lst xs) ∧ Paired (TupI H') xs F ∧ Front rs i F
/-- within a round -/
def PvIn (rs : List Rule) (rv : V) (L q : Addr) (x2 x3 : Option V) (H1 : Hp) (xs : List V) (F : List Row) (i : Nat) (σ : L2.St) (H' : Hp) : Prop :=
  ∃ M x5 x6 ys, σ = [some rv, some (.ref L), x2, x3, some (.ref M), x5, x6] ∧ Same H1 H' ∧ H' q = some (.lst xs) ∧ H' M = some (.lst ys) ∧ Paired (TupI H') ys (moreF rs (F.take i))
theorem more1_take (rs : List Rule) (r : Row) (i : Nat) (p : Int) (h : ([0, 1] : List Int)[i]? = some p) :
    ((([0, 1] : List Int).take (i + 1)).filter fun p => fits rs (r ++ [p])).map (fun p => r ++ [p]) = (((([0, 1] : List Int).take i).filter fun p => fits rs (r ++ [p])).map fun p => r ++ [p]) ++ (if fits rs (r ++ [p]) = true then [r ++ [p]] else []) := by
  rw [filter_take _ _ i p h, List.map_append]
  congr 1
  by_cases c : fits rs (r ++ [p]) = true
  · rw [if_pos c, if_pos c]; rfl
  · rw [if_neg c, if_neg c]; rfl
theorem ok_law_ends_at (D : Dn K mg "_law_ends_at" S__law_ends_at) (bf : Bf mg) (C_law_fits : Cl P w K mg base 1 "_law_fits" spFits) (C_law_thinned : Cl P w K mg base 1 "_law_thinned" spThin) : Cl P w K mg base 2 "_law_ends_at" spEnds := by
  refine D.ok sc_law_ends_at (fun vs H Q E h => ?_) (fun _ _ _ _ _ _ us hl => match us, hl with | [_], _ => rfl) (fun f cdv A outer s H vs Q E hr h => ?_)
  · obtain ⟨rv, rs, rfl, _⟩ := h; rfl
  · obtain ⟨rv, rs, rfl, hR, ok, k⟩ := h
    have nd := sc_law_ends_at.nd
    have hr_law_fits := hr
    have hr_law_thinned := hr
    have wide := ok.wide
    refine ⟨_, (pss_cons (ps_par (i := 1) (j := 2) rfl nd rfl rfl (by decide) rfl rfl (pa_cons (pe_lst (pa_cons (pe_tup pa_nil) pa_nil)) (pa_cons (pe_tup pa_nil) pa_nil)) (by rfl))
    (pss_cons (ps_for PassesOwn.never rfl (pi_range1 rfl bf.range (pa_cons pe_int pa_nil)) (pg_name (i := 3) nd rfl (Or.inl rfl))
    (pss_cons (ps_set (i := 4) nd rfl (Or.inl rfl) (pe_lst pa_nil))
    (pss_cons (ps_for PassesOwn.never rfl (pi_list (pe_slice sl_list (pv 1) po_none (po_some pe_int))) (pg_name (i := 5) nd rfl (Or.inr rfl))
    (pss_one (ps_set (i := 4) nd rfl (Or.inl rfl) (pe_op op_cat (pv 4) (pe_lc (own := [("place", 6)]) rfl nd (pi_tup (pe_tup (pa_cons pe_int (pa_cons pe_int pa_nil)))) (blkOk_by (own := [("place", 6)]) (N := N__law_ends_at) (sc := defScope S__law_ends_at) (by decide +kernel)) (fun _ _ _ _ _ => (pg_name (i := 6) nd rfl (Or.inl rfl) (Or.inr rfl))) (fun _ _ _ _ _ => (pts_one (pt_val (pe_callC C_law_fits hr_law_fits rfl (pa_cons (pv 0) (pa_cons (pe_op (op_catK (K := K) rfl) (pv 5) (pe_tup (pa_cons (pv 6) pa_nil))) pa_nil)))))) (fun _ _ _ _ _ => (pe_op (op_catK (K := K) rfl) (pv 5) (pe_tup (pa_cons (pv 6) pa_nil)))))))))
    (pss_cons (ps_if (pt_cmpR (op_eqD hr.units) (pv 4) (pe_lst pa_nil) (nomark _))
    (pss_one (ps_ret (pe_tup (pa_cons (pv 3) (pa_cons (pe_ix ix_list (pv 1) pe_int (fun _ _ => rfl)) pa_nil)))))
    pss_nil)
    (pss_one (ps_set (i := 1) nd rfl (Or.inl rfl) (pe_callC C_law_thinned hr_law_thinned rfl (pa_cons (pv 0) (pa_cons (pv 4) pa_nil)))))))))
    (pss_one (ps_ret pe_non)))), ?_⟩
    refine ⟨sz (by show 0 ≤ 100000; decide), fun c hc => ⟨sz (by show 1 ≤ 100000; decide), fun L hL => ⟨sz (by show 0 ≤ 100000; decide), fun c2 hc2 => ⟨_, _, rfl, ?_⟩⟩⟩⟩
    have s1 : Same H (upd H c (.tup [])) := Same.new hc
    have s2 : Same (upd H c (.tup [])) (upd (upd H c (.tup [])) L (.lst [.ref c])) := Same.new hL
    have s3 : Same (upd (upd H c (.tup [])) L (.lst [.ref c])) (upd (upd (upd H c (.tup [])) L (.lst [.ref c])) c2 (.tup [])) := Same.new hc2
    refine ⟨_, rfl, by decide, by decide, for_range (PvEnds rs rv H) ?_ ?_ ?_⟩
    · exact ⟨L, _, _, _, _, _, _, [[]], rfl, s1.trans (s2.trans s3), s3 _ _ upd_same, .cons ⟨c, rfl, s3 _ _ (s2 _ _ upd_same)⟩ .nil, Front.start rs⟩
    · rintro i σ H1 hi ⟨L, x2, x3, x4, x5, x6, xs, F, rfl, sm, hL1, prF, fr⟩
      refine ⟨sz (by show 0 ≤ 100000; decide), fun M0 hM0 => ?_⟩
      have s4 : Same H1 (upd H1 M0 (.lst [])) := Same.new hM0
      refine ⟨_, rfl, _, rfl, sll_to (j := 3000) (SqL.of (s4 _ _ hL1)) fun q hq => ?_⟩
      have lenF := fr.few ok
      rw [List.take_of_length_le (by rw [Paired.len prF]; omega)]
      have s5 : Same (upd H1 M0 (.lst [])) (upd (upd H1 M0 (.lst [])) q (.lst xs)) := Same.new hq
      refine ⟨q, rfl, ⟨_, SqL.of upd_same⟩, for_list (xs := xs) (PvIn rs rv L q x2 (some (.int (0 + (i : Nat)))) H1 xs F) ⟨M0, _, _, [], rfl, s4.trans s5, upd_same, s5 _ _ upd_same, .nil⟩ (fun i σ H' _ ⟨_, _, _, _, _, _, h, _⟩ => SqL.of h) ?_ ?_⟩
      · rintro j x σ H2 hj ⟨M, x5, x6, ys, rfl, sm2, hq2, hM2, pm⟩
        obtain ⟨r, hrj, hrow⟩ := Paired.get prF hj
        obtain ⟨b, rfl, hb⟩ := TupI.mono (TS.of sm2) hrow
        have lr := (fr.ln r (List.mem_of_getElem? hrj)).1
        have hR2 := RulesAt.mono (TS.of (sm.trans sm2)) hR
        refine ⟨_, rfl, sz (by show 2 ≤ 100000; decide), fun c5 hc5 => ⟨c5, rfl, ⟨_, SqT.of upd_same⟩, fun D hD => lc_go (walk_tup (xs := [.int 0, .int 1])) TupI (fun i => ((([0, 1] : List Int).take i).filter fun p => fits rs (r ++ [p])).map fun p => r ++ [p]) hD rfl (fun z _ => ?_) (fun _ _ _ _ e z => TupI.mono (TS.of e) z) (fun _ _ _ _ _ e z => TupI.mono (TS.lst e) z) (fun H3 e => SqT.of (e _ _ upd_same)) ?_ ?_⟩⟩
        · rw [List.length_map]
          refine Nat.lt_of_le_of_lt (List.length_filter_le _ _) ?_
          rw [List.length_take]
          exact Nat.lt_of_le_of_lt (Nat.min_le_right _ _) (by show 2 < 100000; decide)
        · rintro z x H0 H4 NT NF hz sm3 ⟨rfl, hx⟩ nt nf
          obtain ⟨p, hp, rfl⟩ : ∃ p : Int, ([0, 1] : List Int)[z]? = some p ∧ x = .int p := by
            match z, hx with
            | 0, h => cases h; exact ⟨0, rfl, rfl⟩
            | 1, h => cases h; exact ⟨1, rfl, rfl⟩
          have s6 : Same H2 H4 := (Same.new hc5).trans sm3
          have hR3 := RulesAt.mono (TS.of s6) hR2
          refine ⟨rfl, _, rfl, _, rfl, _, rfl, sz (by show 1 ≤ 100000; decide), fun c6 hc6 => ?_⟩
          have s7 : Same H4 (upd H4 c6 (.tup [.int p])) := Same.new hc6
          refine cat_any (s7 _ _ (s6 _ _ hb)) upd_same (by rw [List.length_map, List.length_singleton]; omega) fun q7 H5 s8 hq7 => ?_
          have hq7 : H5 q7 = some (.tup ((r ++ [p]).map V.int)) := by rw [List.map_append]; exact hq7
          have s9 := s7.trans s8
          refine ⟨rv, .ref q7, rs, r ++ [p], rfl, RulesAt.mono (TS.of s9) hR3, ok, ⟨q7, rfl, hq7⟩, fun H6 s10 => ⟨_, rfl, ?_⟩⟩
          have s11 := s9.trans s10
          have m1 := more1_take rs r z p hp
          refine ite2 (fun hf => ?_) (fun hf => ?_)
          · rw [if_pos hf] at m1
            refine ⟨_, rfl, _, rfl, sz (by show 1 ≤ 100000; decide), fun c7 hc7 => ?_⟩
            have s12 : Same H6 (upd H6 c7 (.tup [.int p])) := Same.new hc7
            refine cat_any (s12 _ _ (s11 _ _ (s6 _ _ hb))) upd_same (by rw [List.length_map, List.length_singleton]; omega) fun q8 H7 s13 hq8 => ?_
            have hq8 : H7 q8 = some (.tup ((r ++ [p]).map V.int)) := by rw [List.map_append]; exact hq8
            exact nt _ _ (r ++ [p]) (s11.trans (s12.trans s13)) ⟨q8, rfl, hq8⟩ m1
          · rw [if_neg hf, List.append_nil] at m1
            exact nf _ s11 m1
        · intro H3 zs sm3 hD3 pz
          have s6 : Same H2 H3 := (Same.new hc5).trans sm3
          have hM3 := s6 _ _ hM2
          have et : F.take (j + 1) = F.take j ++ [r] := by rw [List.take_add_one, hrj]; rfl
          have em : moreF rs (F.take (j + 1)) = moreF rs (F.take j) ++ more1 rs r := by
            unfold moreF; rw [et, List.flatMap_append]; simp
          have pz : Paired (TupI H3) zs (more1 rs r) := pz
          have ly : ys.length ≤ 1000 := by
            rw [Paired.len pm]
            refine Nat.le_trans (moreF_len rs _) ?_
            rw [List.length_take]; omega
          have lz : zs.length ≤ 2 := by
            rw [Paired.len pz]; unfold more1; rw [List.length_map]; exact List.length_filter_le _ _
          refine ⟨M, D, ys, zs, rfl, rfl, hM3, hD3, sz (by omega), fun p hp => ?_⟩
          have s7 : Same H3 (upd H3 p (.lst (ys ++ zs))) := Same.new hp
          refine ⟨p, _, _, ys ++ zs, rfl, sm2.trans (s6.trans s7), s7 _ _ (s6 _ _ hq2), upd_same, ?_⟩
          rw [em]
          exact Paired.app (Paired.mp pm fun _ _ z => TupI.mono (TS.of (s6.trans s7)) z) (Paired.mp pz fun _ _ z => TupI.mono (TS.of s7) z)
      · rintro σ H2 ⟨M, x5, x6, ys, rfl, sm2, hq2, hM2, pm⟩
        rw [Paired.len prF, List.take_of_length_le (Nat.le_refl _)] at pm
        have sm3 := sm.trans sm2
        have hR2 := RulesAt.mono (TS.of sm3) hR
        refine ⟨_, rfl, sz (by show 0 ≤ 100000; decide), fun e he => ?_⟩
        have se : Same H2 (upd H2 e (.lst [])) := Same.new he
        refine ⟨_, _, .lst (SqL.of (se _ _ hM2)) (dp_rows (Paired.mp pm fun _ _ z => TupI.mono (TS.of se) z)), .lst (SqL.of upd_same) .nil, rowsD_shaped _, by decide +kernel, _, rfl, ?_⟩
        rw [rowsD_nil]
        refine ite2 (fun h0 => ?_) (fun h0 => ?_)
        · rw [decide_eq_true_eq] at h0
          have hs := fr.stop ok h0
          have hh := fr.ext.2
          rw [List.head?_eq_getElem?] at hh
          obtain ⟨x0, g0, g1⟩ := Paired.get' prF hh
          have s4' := sm2.trans se
          refine ⟨_, rfl, _, rfl, L, xs, 0, x0, rfl, rfl, SqL.of (s4' _ _ hL1), atI_nat (j := 0) g0, sz (by show 2 ≤ 100000; decide), fun p hp => ?_⟩
          have sp : ∀ o, Same (upd H2 e (.lst [])) (upd (upd H2 e (.lst [])) p o) := fun o => Same.new hp
          refine k _ _ ((sm3.trans se).trans (sp _)) (.inl ⟨i, p, x0, hs, by omega, rfl, ?_, TupI.mono (TS.of (s4'.trans (sp _))) g1⟩)
          rw [upd_same, Int.zero_add]
        · rw [decide_eq_true_eq] at h0
          have lF := moreF_len rs F
          refine ⟨_, rfl, _, rfl, rv, rs, M, ys, moreF rs F, rfl, RulesAt.mono (TS.of se) hR2, ok, se _ _ hM2, Paired.mp pm (fun _ _ z => TupI.mono (TS.of se) z), by omega, fun u hu => ?_, fun p H4 zs s6 hp pz => ?_⟩
          · obtain ⟨v, hv, pl, _, rfl⟩ := mem_moreF hu
            have := (fr.ln v hv).1
            rw [List.length_append, List.length_singleton]; omega
          · exact ⟨p, _, _, _, _, _, zs, _, rfl, sm3.trans (se.trans s6), hp, pz, fr.next ok h0⟩
    · rintro σ H1 ⟨L, x2, x3, x4, x5, x6, xs, F, rfl, sm, hL1, prF, fr⟩
      exact k _ _ sm (.inr ⟨forever ok (ext_le rs [] fr.ext.1 (by decide)), rfl⟩)
end
end An
-- imports: B3
/-! ### B4: list + a list that is read -/
namespace An
open PySem PySem.Spec PyProof.Rows L2
section
variable {X : Cx}
def rCatS (K : PySem.W.Frag) : R2 := fun x y H Q => ∃ l b xs zs, x = .ref l ∧ y = .ref b ∧ SqL K H l xs ∧ SqL K H b zs ∧ xs.length + zs.length ≤ sizeLine ∧ ∀ p, H p = none → Q (.ref p) (upd H p (.lst (xs ++ zs)))
theorem op_catS : OpR X (binaryOp .Add) (rCatS X.K) := by
  intro pins s σ H x y v u Q I rx ry h
  obtain ⟨l, b, xs, zs, rfl, rfl, hH, hB, hz, q⟩ := h
  cases rx
  cases ry
  obtain ⟨its, r, ⟨⟨c1, d1, x1, sl1⟩, n1, ho1, hc1, _, hd1⟩, _⟩ := I.list hH
  obtain ⟨its2, r2, ⟨⟨c2, d2, x2, sl2⟩, n2, ho2, hc2, _, hd2⟩, _⟩ := I.list hB
  simp only at hc1 hd1 hc2 hd2
  subst hc1 hd1 hc2 hd2
  have hl : xs.length = its.length := r.length
  have hl2 : zs.length = its2.length := r2.length
  refine concat_meets ⟨_, ho1, rfl⟩ ⟨_, ho2, rfl⟩ noFill_list_add seq_list_add F.slot_list_add F.entry_list_add (F.args_list_add_2 _ _) (list_addW l b its.toArray its2.toArray n1 n2 d1 d2 sl1 sl2 (by rw [List.size_toArray, List.size_toArray]; omega)) ⟨ho1, ho2, ?_⟩
  have ea : its.toArray ++ its2.toArray = (its ++ its2).toArray := by simp
  rw [ea]
  exact ⟨.ref _, _, I.lnew (t' := s.toks) (r.append r2) (by rw [List.length_append]; omega), rfl, q _ I.fresh⟩
end
section
variable {P : Program} {w : World} {K : PySem.W.Frag} {mg : Str → Option Value} {base : Heap}
theorem fun_ok {x : Str} {st : Stmt} {N ps : List Str} {k : Nat} {sp : Sp} {f : Addr} {fd : FuncData} (F : FunD K x x (defArgs st) (defBody st) (defScope st) [] [] f fd) (S : FnScope N ps (defScope st)) (len : ∀ vs H Q E, sp vs H Q E → vs.length = ps.length)
    (hbody : ∀ (f : Addr) (cdv : Value) (A : Around) (outer : List Env) (s : Shared) (H : Hp) (vs : List V) (Q : VK) (E : XK), Room k (A.deeper (envOfC x (defScope st) s.heap.objs.size f cdv)) → sp vs H Q E →
      ∃ t, PSs (cxOf CX0 P w K mg base N x (defScope st) f cdv A outer s H E).nox (defBody st) t ∧ t { nx := fun _ H' => Q .non H', rt := Q } (start N vs) H) : FnOk P w K mg base CX0 (k + 1) f fd ps sp :=
  F.ok S len fun cdv A outer s H vs Q E hr h => by
    obtain ⟨t, h1, h2⟩ := hbody f cdv A outer s H vs Q E hr h
    exact ⟨t, h1.nox, h2⟩
theorem dn_of {x : Str} {st : Stmt} {f : Addr} {fd : FuncData} (F : FunD K x x (defArgs st) (defBody st) (defScope st) [] [] f fd) (m : mg x = some (.ref f)) : Dn K mg x st := ⟨f, fd, F, m⟩
end
end An
-- imports: E5 E3 E2 B4
/-! ### E6: the law -/
namespace An
open PySem L2
section
variable {P : Program} {w : World} {K : PySem.W.Frag} {mg : Str → Option Value} {base : Heap}
def N_law : List Str := ["script", "cell", "deck", "turn", "rules", "due"]
theorem sc_law : FnScope N_law ["script"] (defScope S_law) := ⟨rfl, rfl, rfl, by decide +kernel, rfl, by decide +kernel, by decide +kernel⟩
def spLaw (K : PySem.W.Frag) : Sp := fun vs H Q _ => ∃ (a : Addr) (ns : List Int), vs = [.ref a] ∧ SqL K H a (ns.map V.int) ∧ ns.length ≤ 63 ∧ ∀ H', Q (.bl true) H'
def PvL1 (sv : V) (H : Hp) (σ : L2.St) (H' : Hp) : Prop := ∃ x1 x2 x3 x4 x5, σ = [some sv, x1, x2, x3, x4, x5] ∧ Same H H'
def PvL2 (sv : V) (c : Int) (a : Addr) (H : Hp) (j : Nat) (σ : L2.St) (H' : Hp) : Prop := ∃ x3 x4 x5, σ = [some sv, some (.int c), some (.ref a), x3, x4, x5] ∧ H a = none ∧ SameX [a] H H' ∧ DeckAt H' a (3 + 100 * j)
theorem SameX.fresh {a : Addr} {H H' : Hp} (h : H a = none) (e : SameX [a] H H') : Same H H' := fun b o z => e b o (by simpa using fun q : b = a => by subst q; rw [h] at z; cases z) z
theorem SqL_same {K : PySem.W.Frag} {H H' : Hp} {a : Addr} {xs : List V} (h : SqL K H a xs) (e : Same H H') : SqL K H' a xs := by
  rcases h with (h | ⟨o, h⟩) | h
  · exact .inl (.inl (e _ _ h))
  · exact .inl (.inr ⟨o, e _ _ h⟩)
  · exact .inr h
theorem rowFrom_len (rs : List Rule) : ∀ (n : Nat) (t : Row), (rowFrom rs n t).length = n
  | 0, _ => rfl
  | n + 1, t => by show (_ :: rowFrom rs n _).length = n + 1; rw [List.length_cons, rowFrom_len rs n]
def rsX : List Rule := [(2, 2, 2), (3, 0, 0)]
theorem rsX_ok : RulesOk rsX := ⟨(fun e => by cases e), by decide, by decide, by decide⟩
theorem ok_law {f0 : Addr} {fd0 : FuncData} (F0 : FunD K "law" "law" (defArgs S_law) (defBody S_law) (defScope S_law) [] [] f0 fd0) (bf : Bf mg) (C_law_deck : Cl P w K mg base 1 "_law_deck" spDeck) (C_law_one : Cl P w K mg base 2 "_law_one" spOne) (C_law_rules : Cl P w K mg base 3 "_law_rules" spRulesL)
    (C_law_ends_at : Cl P w K mg base 2 "_law_ends_at" spEnds) (C_law_same : Cl P w K mg base 3 "_law_same" (spSame 1)) (C_longest : Cl P w K mg base 5 "longest" spLongest) (C_longest_row : Cl P w K mg base 5 "longest_row" spLongestRow) :
    FnOk P w K mg base CX0 6 f0 fd0 ["script"] (spLaw K) := by
  refine fun_ok F0 sc_law (fun vs H Q E h => ?_) (fun f cdv A outer s H vs Q E hr h => ?_)
  · obtain ⟨a, ns, rfl, _⟩ := h; rfl
  · obtain ⟨sa, ns, rfl, hS, hn, k⟩ := h
    have nd := sc_law.nd
    have hr_law_deck := hr.mono (show 1 ≤ 5 by decide)
    have hr_law_one := hr.mono (show 2 ≤ 5 by decide)
    have hr_law_rules := hr.mono (show 3 ≤ 5 by decide)
    have hr_law_ends_at := hr.mono (show 2 ≤ 5 by decide)
    have hr_law_same := hr.mono (show 3 ≤ 5 by decide)
    have hr_longest := hr
    have hr_longest_row := hr
    refine ⟨_, (pss_cons (ps_for PassesOwn.never rfl (pi_list (pe_slice sl_list (pe_op op_catS (pe_lst (pa_cons pe_int pa_nil)) (pv 0)) po_none (po_some pe_int))) (pg_name (i := 1) nd rfl (Or.inl rfl))
    (pss_cons (ps_set (i := 2) nd rfl (Or.inl rfl) (pe_callC C_law_deck hr_law_deck rfl (pa_cons (pv 1) (pa_cons pe_int pa_nil))))
    (pss_one (ps_for PassesOwn.never rfl (pi_range1 rfl bf.range (pa_cons pe_int pa_nil)) (pg_name (i := 3) nd rfl (Or.inl rfl))
    (pss_cons (ps_set (i := 4) nd rfl (Or.inl rfl) (pe_callC C_law_rules hr_law_rules rfl (pa_cons (pv 2) (pa_cons pe_int (pa_cons (pe_callC C_law_one hr_law_one rfl (pa_cons (pv 2) (pa_cons (pe_lst (pa_cons pe_int (pa_cons pe_int (pa_cons pe_int pa_nil)))) pa_nil))) pa_nil)))))
    (pss_cons (ps_set (i := 5) nd rfl (Or.inl rfl) (pe_callC C_law_ends_at hr_law_ends_at rfl (pa_cons (pv 4) pa_nil)))
    (pss_cons (ps_if (pt_not (pt_val (pe_callC C_law_same hr_law_same rfl (pa_cons (pe_callC C_longest hr_longest rfl (pa_cons (pv 4) pa_nil)) (pa_cons (pe_ifExp (pt_cmpR op_notN (pv 5) pe_non (nomark _)) (pe_ix ix_tup (pv 5) pe_int (fun _ _ => rfl)) pe_non) pa_nil)))))
    (pss_one (ps_ret pe_bl))
    pss_nil)
    (pss_one (ps_if (pt_not (pt_val (pe_callC C_law_same hr_law_same rfl (pa_cons (pe_callC C_longest_row hr_longest_row rfl (pa_cons (pv 4) pa_nil)) (pa_cons (pe_ifExp (pt_cmpR op_notN (pv 5) pe_non (nomark _)) (pe_ix ix_tup (pv 5) pe_int (fun _ _ => rfl)) pe_non) pa_nil)))))
    (pss_one (ps_ret pe_bl))
    pss_nil)))))))))
    (pss_one (ps_ret (pe_and (pe_cmpR (op_eqD hr.units) (pe_callC C_longest hr_longest rfl (pa_cons (pe_tup (pa_cons (pe_tup (pa_cons pe_int (pa_cons pe_int (pa_cons pe_int pa_nil)))) (pa_cons (pe_tup (pa_cons pe_int (pa_cons pe_int (pa_cons pe_int pa_nil)))) pa_nil))) pa_nil)) pe_int (nomark _)) (pe_one (pe_cmpR (op_eqD hr.units) (pe_callC C_longest_row hr_longest_row rfl (pa_cons (pe_tup (pa_cons (pe_tup (pa_cons pe_int (pa_cons pe_int (pa_cons pe_int pa_nil)))) (pa_cons (pe_tup (pa_cons pe_int (pa_cons pe_int (pa_cons pe_int pa_nil)))) pa_nil))) pa_nil)) (pe_tup (pa_cons pe_int (pa_cons pe_int pa_nil))) (nomark _))))))), ?_⟩
    refine ⟨sz (by show 1 ≤ 100000; decide), fun c0 hc0 => ⟨_, rfl, c0, sa, [.int 0], ns.map V.int, rfl, rfl, SqL.of upd_same, SqL_same hS (Same.new hc0), sz (by rw [List.length_map, List.length_singleton]; omega), fun c1 hc1 => ?_⟩⟩
    refine ⟨_, rfl, sll_to (H := upd (upd H c0 (.lst [.int 0])) c1 (.lst ([.int 0] ++ ns.map V.int))) (j := 8) (SqL.of upd_same) fun L hL => ?_⟩
    have isI : ∀ x ∈ (([.int 0] : List V) ++ ns.map V.int).take 8, ∃ c : Int, x = .int c := fun x hx => by
      rcases List.mem_append.mp (List.mem_of_mem_take hx) with z | z
      · exact ⟨0, List.mem_singleton.mp z⟩
      · obtain ⟨c, _, e⟩ := List.mem_map.mp z; exact ⟨c, e.symm⟩
    generalize hxs : (([.int 0] : List V) ++ ns.map V.int).take 8 = xs at *
    generalize hG : upd (upd (upd H c0 (.lst [.int 0])) c1 (.lst ([.int 0] ++ ns.map V.int))) L (.lst xs) = G at *
    have gL : G L = some (.lst xs) := by rw [← hG]; exact upd_same
    refine ⟨L, rfl, ⟨_, SqL.of gL⟩, for_list (xs := xs) (fun _ => PvL1 (.ref sa) G) ⟨_, _, _, _, _, rfl, Same.refl G⟩ (fun i σ H' _ ⟨_, _, _, _, _, _, sm⟩ => SqL.of (sm _ _ gL)) ?_ ?_⟩
    · rintro i x σ H1 hi ⟨x1, x2, x3, x4, x5, rfl, sm⟩
      obtain ⟨c, rfl⟩ := isI x (List.mem_of_getElem? hi)
      refine ⟨_, rfl, c, 3, rfl, by decide, fun a H2 s2 ha hd => ?_⟩
      refine ⟨_, rfl, by decide, by decide, for_range (PvL2 (.ref sa) c a H1) ⟨_, _, _, rfl, ha, SameX.of s2, hd⟩ ?_ ?_⟩
      · rintro j σ H3 hj ⟨y3, y4, y5, rfl, _, sx, hd⟩
        have hj3 : j < 3 := hj
        refine ⟨_, rfl, _, rfl, sz (by show 3 ≤ 100000; decide), fun c3 hc3 => ?_⟩
        have q3 : Same H3 (upd H3 c3 (.lst [.int 1, .int 2, .int 5])) := Same.new hc3
        have na3 : a ≠ c3 := fun e => by subst e; obtain ⟨_, _, _, z, _⟩ := hd; rw [z] at hc3; cases hc3
        refine ⟨a, c3, _, _, rfl, na3, upd_same, (fun e => by cases e), (by decide), by omega, hd.same q3, fun x1 H4 hx1 sx4 ts4 hd4 => ?_⟩
        obtain ⟨cl, rfl, u1, u2⟩ : ∃ m : Int, x1 = .int m ∧ 1 ≤ m ∧ m ≤ 5 := by
          simp only [List.mem_cons, List.not_mem_nil, or_false] at hx1
          rcases hx1 with rfl | rfl | rfl <;> exact ⟨_, rfl, by decide, by decide⟩
        refine ⟨a, 8, cl, _, rfl, by decide, by decide, by omega, by omega, by omega, hd4, fun rv H5 rs sx5 ts5 hd5 hR ok _ _ => ?_⟩
        have sx6 := sx.trans ((SameX.of q3).trans (sx4.trans sx5))
        refine ⟨_, rfl, rv, rs, rfl, hR, ok, fun dv H6 s6 ev => ?_⟩
        have fin : ∀ H7, Same H6 H7 → PvL2 (.ref sa) c a H1 (j + 1) [some (.ref sa), some (.int c), some (.ref a), some (.int (0 + (j : Nat))), some rv, some dv] H7 := fun H7 s7 =>
          ⟨_, _, _, rfl, ha, sx6.trans (SameX.of (s6.trans s7)), (hd5.same (s6.trans s7)).mono (fun _ h => h) (by omega)⟩
        have hR6 := RulesAt.mono (TS.of s6) hR
        refine ⟨_, rfl, rv, rs, rfl, hR6, ok, fun lv H7 s7 rk => ?_⟩
        have hR7 := RulesAt.mono (TS.of s7) hR6
        rcases ev with ⟨n, b, u, irk, _, rfl, hb, hu⟩ | ⟨inf, rfl⟩
        · have elv : lv = .int (n : Nat) := by
            rcases rk with ⟨m, im, _, e⟩ | ⟨inf, _⟩
            · rw [e, im.uniq irk]
            · exact (irk.not_inf inf).elim
          subst elv
          refine ⟨_, rfl, rfl, _, rfl, iteT ⟨_, rfl, b, _, 0, _, rfl, rfl, SqT.of (s7 _ _ hb), rfl, ?_⟩⟩
          refine ⟨.int (n : Nat), .int (n : Nat), rfl, .inl ⟨rfl, .int _⟩, fun H8 s8 => ⟨_, rfl, iteF ?_⟩⟩
          refine ⟨_, rfl, rv, rs, rfl, RulesAt.mono (TS.of s8) hR7, ok, fun wv H9 s9 rw' => ?_⟩
          have s10 := s7.trans (s8.trans s9)
          have hw : TupI H9 wv (rowFrom rs n []) := by
            rcases rw' with ⟨m, im, _, e⟩ | ⟨inf, _⟩
            · rw [irk.uniq im]; exact e
            · exact (irk.not_inf inf).elim
          refine ⟨_, rfl, rfl, _, rfl, iteT ⟨_, rfl, b, _, 1, _, rfl, rfl, SqT.of (s10 _ _ hb), rfl, ?_⟩⟩
          refine ⟨wv, u, rfl, SameT.row hw (TupI.mono (TS.of s10) hu) (by rw [rowFrom_len]; omega), fun H10 s11 => ⟨_, rfl, iteF (fin _ (s10.trans s11))⟩⟩
        · have elv : lv = .non := by
            rcases rk with ⟨m, im, _, _⟩ | ⟨_, e⟩
            · exact (im.not_inf inf).elim
            · exact e
          subst elv
          refine ⟨_, rfl, rfl, _, rfl, iteF ?_⟩
          refine ⟨.non, .non, rfl, .inl ⟨rfl, .non⟩, fun H8 s8 => ⟨_, rfl, iteF ?_⟩⟩
          refine ⟨_, rfl, rv, rs, rfl, RulesAt.mono (TS.of s8) hR7, ok, fun wv H9 s9 rw' => ?_⟩
          have s10 := s7.trans (s8.trans s9)
          have hw : wv = .non := by
            rcases rw' with ⟨m, im, _, _⟩ | ⟨_, e⟩
            · exact (im.not_inf inf).elim
            · exact e
          subst hw
          refine ⟨_, rfl, rfl, _, rfl, iteF ?_⟩
          exact ⟨.non, .non, rfl, .inl ⟨rfl, .non⟩, fun H10 s11 => ⟨_, rfl, iteF (fin _ (s10.trans s11))⟩⟩
      · rintro σ H3 ⟨y3, y4, y5, rfl, _, sx, hd⟩
        exact ⟨_, _, _, _, _, rfl, sm.trans (SameX.fresh ha sx)⟩
    · rintro σ H1 ⟨x1, x2, x3, x4, x5, rfl, sm⟩
      have rk2 : IsRk rsX [] 2 := ⟨by decide +kernel, by decide +kernel⟩
      have row2 : rowFrom rsX 2 [] = [1, 1] := by decide +kernel
      refine ⟨sz (by show 3 ≤ 100000; decide), fun p1 e1 => ⟨sz (by show 3 ≤ 100000; decide), fun p2 e2 => ⟨sz (by show 2 ≤ 100000; decide), fun p3 e3 => ?_⟩⟩⟩
      have s1 : Same H1 (upd H1 p1 (.tup [.int 2, .int 2, .int 2])) := Same.new e1
      have s2 : Same (upd H1 p1 (.tup [.int 2, .int 2, .int 2])) (upd (upd H1 p1 (.tup [.int 2, .int 2, .int 2])) p2 (.tup [.int 3, .int 0, .int 0])) := Same.new e2
      have s3 : Same (upd (upd H1 p1 (.tup [.int 2, .int 2, .int 2])) p2 (.tup [.int 3, .int 0, .int 0])) (upd (upd (upd H1 p1 (.tup [.int 2, .int 2, .int 2])) p2 (.tup [.int 3, .int 0, .int 0])) p3 (.tup [.ref p1, .ref p2])) := Same.new e3
      refine ⟨.ref p3, rsX, rfl, ⟨p3, _, rfl, upd_same, .cons ⟨p1, rfl, s3 _ _ (s2 _ _ upd_same)⟩ (.cons ⟨p2, rfl, s3 _ _ upd_same⟩ .nil)⟩, rsX_ok, fun v H2 s4 rk => ?_⟩
      have ev : v = .int 2 := by
        rcases rk with ⟨m, im, _, e⟩ | ⟨inf, _⟩
        · rw [e, im.uniq rk2]; rfl
        · exact (rk2.not_inf inf).elim
      subst ev
      refine ⟨.int 2, .int 2, .int 2, .int 2, by decide +kernel, by decide +kernel, _, rfl, ?_⟩
      rw [show PyData.eqv (.int 2) (.int 2) = true by decide +kernel]
      refine iteT ?_
      refine ⟨sz (by show 3 ≤ 100000; decide), fun p1 e1 => ⟨sz (by show 3 ≤ 100000; decide), fun p2 e2 => ⟨sz (by show 2 ≤ 100000; decide), fun p3 e3 => ?_⟩⟩⟩
      have s1 : Same H2 (upd H2 p1 (.tup [.int 2, .int 2, .int 2])) := Same.new e1
      have s2 : Same (upd H2 p1 (.tup [.int 2, .int 2, .int 2])) (upd (upd H2 p1 (.tup [.int 2, .int 2, .int 2])) p2 (.tup [.int 3, .int 0, .int 0])) := Same.new e2
      have s3 : Same (upd (upd H2 p1 (.tup [.int 2, .int 2, .int 2])) p2 (.tup [.int 3, .int 0, .int 0])) (upd (upd (upd H2 p1 (.tup [.int 2, .int 2, .int 2])) p2 (.tup [.int 3, .int 0, .int 0])) p3 (.tup [.ref p1, .ref p2])) := Same.new e3
      refine ⟨.ref p3, rsX, rfl, ⟨p3, _, rfl, upd_same, .cons ⟨p1, rfl, s3 _ _ (s2 _ _ upd_same)⟩ (.cons ⟨p2, rfl, s3 _ _ upd_same⟩ .nil)⟩, rsX_ok, fun wv H3 s4 rw' => ?_⟩
      have hw : TupI H3 wv [1, 1] := by
        rcases rw' with ⟨m, im, _, e⟩ | ⟨inf, _⟩
        · rw [← row2, rk2.uniq im]; exact e
        · exact (rk2.not_inf inf).elim
      refine ⟨sz (by show 2 ≤ 100000; decide), fun p4 e4 => ?_⟩
      have s5 : Same H3 (upd H3 p4 (.tup [.int 1, .int 1])) := Same.new e4
      refine ⟨rowD [1, 1], rowD [1, 1], dp_row (TupI.mono (TS.of s5) hw), dp_row ⟨p4, rfl, upd_same⟩, rowD_shaped _, rowD_shaped _, ?_⟩
      rw [show PyData.eqv (rowD [1, 1]) (rowD [1, 1]) = true by decide +kernel]
      exact k _
end
end An
namespace An
open PySem PySem.Spec PyProof.Rows L2
def d_is_from : He.DefD := ⟨("is_from", none), "is_from", "is_from", defArgs S_is_from, defBody S_is_from, defScope S_is_from, [], []⟩
def d_is_rule : He.DefD := ⟨("is_rule", none), "is_rule", "is_rule", defArgs S_is_rule, defBody S_is_rule, defScope S_is_rule, [], []⟩
def d_are_rules : He.DefD := ⟨("are_rules", none), "are_rules", "are_rules", defArgs S_are_rules, defBody S_are_rules, defScope S_are_rules, [], []⟩
def d_need_rules : He.DefD := ⟨("need_rules", none), "need_rules", "need_rules", defArgs S_need_rules, defBody S_need_rules, defScope S_need_rules, [], []⟩
def d_widest : He.DefD := ⟨("widest", none), "widest", "widest", defArgs S_widest, defBody S_widest, defScope S_widest, [], []⟩
def d_broken_by : He.DefD := ⟨("broken_by", none), "broken_by", "broken_by", defArgs S_broken_by, defBody S_broken_by, defScope S_broken_by, [], []⟩
def d_next_tail : He.DefD := ⟨("next_tail", none), "next_tail", "next_tail", defArgs S_next_tail, defBody S_next_tail, defScope S_next_tail, [], []⟩
def d_ways_on : He.DefD := ⟨("ways_on", none), "ways_on", "ways_on", defArgs S_ways_on, defBody S_ways_on, defScope S_ways_on, [], []⟩
def d_ranks_from : He.DefD := ⟨("ranks_from", none), "ranks_from", "ranks_from", defArgs S_ranks_from, defBody S_ranks_from, defScope S_ranks_from, [], []⟩
def d_longest : He.DefD := ⟨("longest", none), "longest", "longest", defArgs S_longest, defBody S_longest, defScope S_longest, [], []⟩
def d_longest_row : He.DefD := ⟨("longest_row", none), "longest_row", "longest_row", defArgs S_longest_row, defBody S_longest_row, defScope S_longest_row, [], []⟩
def d__law_deck : He.DefD := ⟨("_law_deck", none), "_law_deck", "_law_deck", defArgs S__law_deck, defBody S__law_deck, defScope S__law_deck, [], []⟩
def d__law_pick : He.DefD := ⟨("_law_pick", none), "_law_pick", "_law_pick", defArgs S__law_pick, defBody S__law_pick, defScope S__law_pick, [], []⟩
def d__law_one : He.DefD := ⟨("_law_one", none), "_law_one", "_law_one", defArgs S__law_one, defBody S__law_one, defScope S__law_one, [], []⟩
def d__law_sort : He.DefD := ⟨("_law_sort", none), "_law_sort", "_law_sort", defArgs S__law_sort, defBody S__law_sort, defScope S__law_sort, [], []⟩
def d__law_same : He.DefD := ⟨("_law_same", none), "_law_same", "_law_same", defArgs S__law_same, defBody S__law_same, defScope S__law_same, [], []⟩
def d__law_rules : He.DefD := ⟨("_law_rules", none), "_law_rules", "_law_rules", defArgs S__law_rules, defBody S__law_rules, defScope S__law_rules, [], []⟩
def d__law_fits : He.DefD := ⟨("_law_fits", none), "_law_fits", "_law_fits", defArgs S__law_fits, defBody S__law_fits, defScope S__law_fits, [], []⟩
def d__law_thinned : He.DefD := ⟨("_law_thinned", none), "_law_thinned", "_law_thinned", defArgs S__law_thinned, defBody S__law_thinned, defScope S__law_thinned, [], []⟩
def d__law_ends_at : He.DefD := ⟨("_law_ends_at", none), "_law_ends_at", "_law_ends_at", defArgs S__law_ends_at, defBody S__law_ends_at, defScope S__law_ends_at, [], []⟩
def d_law : He.DefD := ⟨("law", none), "law", "law", defArgs S_law, defBody S_law, defScope S_law, [], []⟩
def fn : List He.DefD := [d_is_from, d_is_rule, d_are_rules, d_need_rules, d_widest, d_broken_by, d_next_tail, d_ways_on, d_ranks_from, d_longest, d_longest_row, d__law_deck, d__law_pick, d__law_one, d__law_sort, d__law_same, d__law_rules, d__law_fits, d__law_thinned, d__law_ends_at, d_law]
def fa1 : List He.Fa := [.glo "is_from", .glo "is_rule", .glo "are_rules", .glo "need_rules", .glo "widest", .glo "broken_by", .glo "next_tail", .glo "ways_on", .glo "ranks_from", .glo "longest", .glo "longest_row", .glo "_law_deck", .glo "_law_pick", .glo "_law_one", .glo "_law_sort", .glo "_law_same", .glo "_law_rules", .glo "_law_fits", .glo "_law_thinned"]
def fa2 : List He.Fa := [.glo "_law_ends_at", .glo "law", .free "len", .free "sum", .free "max", .free "min", .free "range", .free "zip", .free "all", .free "isinstance", .free "tuple", .free "list", .free "int", .free "bool", .free "str", .free "sorted", .free "enumerate", .free "dict", .int "MOST_SPAN" 8, .int "MOST_RULES" 5]
def fa : List He.Fa := fa1 ++ fa2
def loose1 : List Str := ["SpanError", "NoRules", "MOST_SPAN", "MOST_RULES", "is_from", "is_rule", "are_rules", "need_rules", "widest", "broken_by", "next_tail", "ways_on"]
def loose2 : List Str := ["ranks_from", "longest", "longest_row", "_law_deck", "_law_pick", "_law_one", "_law_sort", "_law_same", "_law_rules", "_law_fits", "_law_ends_at", "_law_thinned"]
def loose : List Str := loose1 ++ loose2
abbrev R : PySem.W.OpenRow := PySem.W.OpenLaw.row PySem.Challenge.rw_anyspan_k03_whole_longest_rows
abbrev hk : PySem.W.Hook := He.hookD 4 fa fn
def ob (s : PySem.W.SharedT) : He.AlD := He.obsDG 4 fa fn (HandSHeadRun.getT s)
theorem ob_eq (s : PySem.W.SharedT) : ob s = hk.obs s.abs := He.obsDG_eq (HandSHeadRun.getT_eq s)
theorem run (w : World) : HandSHeadRun.RunEq R (PySem.W.view R.prog [29]) hk ob 1600 loose w := by
  intro os
  kernel_rfl
theorem facts {P : Program} {w : World} {K : PySem.W.Frag} {h : Heap} {mg : Str → Option Value} {f : Addr} (X : K.In h) (G : h.Ns mainGlobals mg) (hfa : mg ("law" : Str) = some (.ref f)) (c : He.SaysD fa fn K) :
    ∃ fd : FuncData, (∀ (s : Shared) (v : Value), BindsTo s fd ⟨[v], []⟩ [("script", v)]) ∧ ∀ base : Heap, K.In base → base.Ns mainGlobals mg → FnOk P w K mg base CX0 6 f fd ["script"] (spLaw K) := by
  obtain ⟨fd_is_from, F_is_from⟩ := c.def_ 0 (d := d_is_from) rfl
  have D_is_from : Dn K mg "is_from" S_is_from := dn_of F_is_from (He.glo_ok X G (c.fact 0 (f := .glo "is_from") rfl))
  obtain ⟨fd_is_rule, F_is_rule⟩ := c.def_ 1 (d := d_is_rule) rfl
  have D_is_rule : Dn K mg "is_rule" S_is_rule := dn_of F_is_rule (He.glo_ok X G (c.fact 1 (f := .glo "is_rule") rfl))
  obtain ⟨fd_are_rules, F_are_rules⟩ := c.def_ 2 (d := d_are_rules) rfl
  have D_are_rules : Dn K mg "are_rules" S_are_rules := dn_of F_are_rules (He.glo_ok X G (c.fact 2 (f := .glo "are_rules") rfl))
  obtain ⟨fd_need_rules, F_need_rules⟩ := c.def_ 3 (d := d_need_rules) rfl
  have D_need_rules : Dn K mg "need_rules" S_need_rules := dn_of F_need_rules (He.glo_ok X G (c.fact 3 (f := .glo "need_rules") rfl))
  obtain ⟨fd_widest, F_widest⟩ := c.def_ 4 (d := d_widest) rfl
  have D_widest : Dn K mg "widest" S_widest := dn_of F_widest (He.glo_ok X G (c.fact 4 (f := .glo "widest") rfl))
  obtain ⟨fd_broken_by, F_broken_by⟩ := c.def_ 5 (d := d_broken_by) rfl
  have D_broken_by : Dn K mg "broken_by" S_broken_by := dn_of F_broken_by (He.glo_ok X G (c.fact 5 (f := .glo "broken_by") rfl))
  obtain ⟨fd_next_tail, F_next_tail⟩ := c.def_ 6 (d := d_next_tail) rfl
  have D_next_tail : Dn K mg "next_tail" S_next_tail := dn_of F_next_tail (He.glo_ok X G (c.fact 6 (f := .glo "next_tail") rfl))
  obtain ⟨fd_ways_on, F_ways_on⟩ := c.def_ 7 (d := d_ways_on) rfl
  have D_ways_on : Dn K mg "ways_on" S_ways_on := dn_of F_ways_on (He.glo_ok X G (c.fact 7 (f := .glo "ways_on") rfl))
  obtain ⟨fd_ranks_from, F_ranks_from⟩ := c.def_ 8 (d := d_ranks_from) rfl
  have D_ranks_from : Dn K mg "ranks_from" S_ranks_from := dn_of F_ranks_from (He.glo_ok X G (c.fact 8 (f := .glo "ranks_from") rfl))
  obtain ⟨fd_longest, F_longest⟩ := c.def_ 9 (d := d_longest) rfl
  have D_longest : Dn K mg "longest" S_longest := dn_of F_longest (He.glo_ok X G (c.fact 9 (f := .glo "longest") rfl))
  obtain ⟨fd_longest_row, F_longest_row⟩ := c.def_ 10 (d := d_longest_row) rfl
  have D_longest_row : Dn K mg "longest_row" S_longest_row := dn_of F_longest_row (He.glo_ok X G (c.fact 10 (f := .glo "longest_row") rfl))
  obtain ⟨fd__law_deck, F__law_deck⟩ := c.def_ 11 (d := d__law_deck) rfl
  have D__law_deck : Dn K mg "_law_deck" S__law_deck := dn_of F__law_deck (He.glo_ok X G (c.fact 11 (f := .glo "_law_deck") rfl))
  obtain ⟨fd__law_pick, F__law_pick⟩ := c.def_ 12 (d := d__law_pick) rfl
  have D__law_pick : Dn K mg "_law_pick" S__law_pick := dn_of F__law_pick (He.glo_ok X G (c.fact 12 (f := .glo "_law_pick") rfl))
  obtain ⟨fd__law_one, F__law_one⟩ := c.def_ 13 (d := d__law_one) rfl
  have D__law_one : Dn K mg "_law_one" S__law_one := dn_of F__law_one (He.glo_ok X G (c.fact 13 (f := .glo "_law_one") rfl))
  obtain ⟨fd__law_sort, F__law_sort⟩ := c.def_ 14 (d := d__law_sort) rfl
  have D__law_sort : Dn K mg "_law_sort" S__law_sort := dn_of F__law_sort (He.glo_ok X G (c.fact 14 (f := .glo "_law_sort") rfl))
  obtain ⟨fd__law_same, F__law_same⟩ := c.def_ 15 (d := d__law_same) rfl
  have D__law_same : Dn K mg "_law_same" S__law_same := dn_of F__law_same (He.glo_ok X G (c.fact 15 (f := .glo "_law_same") rfl))
  obtain ⟨fd__law_rules, F__law_rules⟩ := c.def_ 16 (d := d__law_rules) rfl
  have D__law_rules : Dn K mg "_law_rules" S__law_rules := dn_of F__law_rules (He.glo_ok X G (c.fact 16 (f := .glo "_law_rules") rfl))
  obtain ⟨fd__law_fits, F__law_fits⟩ := c.def_ 17 (d := d__law_fits) rfl
  have D__law_fits : Dn K mg "_law_fits" S__law_fits := dn_of F__law_fits (He.glo_ok X G (c.fact 17 (f := .glo "_law_fits") rfl))
  obtain ⟨fd__law_thinned, F__law_thinned⟩ := c.def_ 18 (d := d__law_thinned) rfl
  have D__law_thinned : Dn K mg "_law_thinned" S__law_thinned := dn_of F__law_thinned (He.glo_ok X G (c.fact 18 (f := .glo "_law_thinned") rfl))
  obtain ⟨fd__law_ends_at, F__law_ends_at⟩ := c.def_ 19 (d := d__law_ends_at) rfl
  have D__law_ends_at : Dn K mg "_law_ends_at" S__law_ends_at := dn_of F__law_ends_at (He.glo_ok X G (c.fact 19 (f := .glo "_law_ends_at") rfl))
  obtain ⟨fd, F⟩ := c.def_ 20 (d := d_law) rfl
  have e := hfa.symm.trans (He.glo_ok X G (c.fact 20 (f := .glo "law") rfl))
  cases e
  have b := FunD.bindsA (ps := ["script"]) F fun _ _ _ _ _ _ us hl => match us, hl with | [_], _ => rfl
  have bf : Bf mg := ⟨He.free_ok X G (c.fact 21 (f := .free "len") rfl), He.free_ok X G (c.fact 22 (f := .free "sum") rfl), He.free_ok X G (c.fact 23 (f := .free "max") rfl), He.free_ok X G (c.fact 24 (f := .free "min") rfl), He.free_ok X G (c.fact 25 (f := .free "range") rfl), He.free_ok X G (c.fact 26 (f := .free "zip") rfl), He.free_ok X G (c.fact 27 (f := .free "all") rfl), He.free_ok X G (c.fact 28 (f := .free "isinstance") rfl), He.free_ok X G (c.fact 29 (f := .free "tuple") rfl), He.free_ok X G (c.fact 30 (f := .free "list") rfl), He.free_ok X G (c.fact 31 (f := .free "int") rfl), He.free_ok X G (c.fact 32 (f := .free "bool") rfl), He.free_ok X G (c.fact 33 (f := .free "str") rfl), He.free_ok X G (c.fact 34 (f := .free "sorted") rfl), He.free_ok X G (c.fact 35 (f := .free "enumerate") rfl), He.free_ok X G (c.fact 36 (f := .free "dict") rfl)⟩
  have c_MOST_SPAN := He.int_ok X G (c.fact 37 (f := .int "MOST_SPAN" 8) rfl)
  have c_MOST_RULES := He.int_ok X G (c.fact 38 (f := .int "MOST_RULES" 5) rfl)
  refine ⟨fd, fun s v => b s [v] rfl, fun base _ _ => ?_⟩
  have C_is_from := (ok_is_from D_is_from bf : Cl P w K mg base _ "is_from" _)
  have C_is_rule := (ok_is_rule D_is_rule bf c_MOST_SPAN C_is_from : Cl P w K mg base _ "is_rule" _)
  have C_are_rules := (ok_are_rules D_are_rules bf c_MOST_RULES C_is_rule : Cl P w K mg base _ "are_rules" _)
  have C_need_rules := (ok_need_rules D_need_rules C_are_rules : Cl P w K mg base _ "need_rules" _)
  have C_widest := (ok_widest D_widest : Cl P w K mg base _ "widest" _)
  have C_broken_by := (ok_broken_by D_broken_by bf : Cl P w K mg base _ "broken_by" _)
  have C_next_tail := (ok_next_tail D_next_tail bf : Cl P w K mg base _ "next_tail" _)
  have C_ways_on := (ok_ways_on D_ways_on bf C_broken_by C_next_tail C_widest : Cl P w K mg base _ "ways_on" _)
  have C_ranks_from := (ok_ranks_from D_ranks_from bf C_ways_on : Cl P w K mg base _ "ranks_from" _)
  have C_longest := (ok_longest D_longest C_need_rules C_ranks_from : Cl P w K mg base _ "longest" _)
  have C_longest_row := (ok_longest_row D_longest_row C_need_rules C_ranks_from C_broken_by C_next_tail C_widest : Cl P w K mg base _ "longest_row" _)
  have C_law_deck := (ok_law_deck D__law_deck : Cl P w K mg base _ "_law_deck" _)
  have C_law_pick := (ok_law_pick D__law_pick : Cl P w K mg base _ "_law_pick" _)
  have C_law_one := (ok_law_one D__law_one bf C_law_pick : Cl P w K mg base _ "_law_one" _)
  have C_law_sort := (ok_law_sort D__law_sort bf : Cl P w K mg base _ "_law_sort" _)
  have C_law_same := (ok_law_same D__law_same bf C_law_sort 1 : Cl P w K mg base _ "_law_same" _)
  have C_law_rules := (ok_law_rules D__law_rules bf C_law_pick C_law_one : Cl P w K mg base _ "_law_rules" _)
  have C_law_fits := (ok_law_fits D__law_fits bf : Cl P w K mg base _ "_law_fits" _)
  have C_law_thinned := (ok_law_thinned D__law_thinned bf : Cl P w K mg base _ "_law_thinned" _)
  have C_law_ends_at := (ok_law_ends_at D__law_ends_at bf C_law_fits C_law_thinned : Cl P w K mg base _ "_law_ends_at" _)
  exact ok_law F bf C_law_deck C_law_one C_law_rules C_law_ends_at C_law_same C_longest C_longest_row
end An
open PySem PySem.W PySem.Calls PyProof.Rows
set_option maxHeartbeats 0 in
theorem PySem.Challenge.cw_anyspan_k03_whole_longest_rows_holds : PySem.Challenge.rw_anyspan_k03_whole_longest_rows.Holds := by
  w_on; o_law
  refine HandSHeadRun.head_any (r := OpenLaw.row PySem.Challenge.rw_anyspan_k03_whole_longest_rows) (q := view (OpenLaw.row PySem.Challenge.rw_anyspan_k03_whole_longest_rows).prog [29]) (H := An.hk) (ob := An.ob) (M := 1600) (loose := An.loose) (d := HandSHeadRun.topDef (OpenLaw.row PySem.Challenge.rw_anyspan_k03_whole_longest_rows).prog 29) (kwd := []) An.ob_eq
    (by kernel_rfl) (fun s => by kernel_rfl) An.run (by kernel_rfl) (by kernel_rfl) (by kernel_rfl) (by rfl) (by first | assumption | decide +kernel) (by decide +kernel) ⟨rfl, rfl, rfl, rfl, rfl, by decide +kernel⟩ ?hw ?hc
  case hw => w_witness2
  case hc =>
    refine L2.walk_ofE (l := PySem.Challenge.rw_anyspan_k03_whole_longest_rows) (n := 63) (k := 6) (x := "script") (CX := L2.CX0) rfl (by decide) (by kernel_rfl) ⟨rfl, by decide, by decide⟩ ?F (fun _ _ _ _ z => z)
    intro w mg fa h Y G hmg0
    obtain ⟨K, KX, c⟩ := Y
    have hmg : mg ("law" : PySem.Str) = some (.ref fa) := by
      have e : (HandSHeadRun.topDef (OpenLaw.row PySem.Challenge.rw_anyspan_k03_whole_longest_rows).prog 29).name = ("law" : PySem.Str) := by kernel_rfl
      rw [← e]
      exact hmg0
    obtain ⟨fd, hb, hF⟩ := An.facts (P := (PySem.Challenge.rw_anyspan_k03_whole_longest_rows).prog) (w := w) KX G hmg c
    exact ⟨K, fd, An.spLaw K, KX, hb, fun H a ns hl _ hS => ⟨a, ns, rfl, hS, hl, fun _ => rfl⟩, hF⟩
