import PyProof.Rows.All
import Wide.All
import OpenK.AllK
import Wide.FinOn
import HandS.ForMost
import HandS.Wide
import HandS.IsInst
import HandS.Style
import HandS.Flow
import HandS.TupLe
import HandS.More
import KE.KUnpackStar
import KE.GoesEnum
import PyProof.RulesMatch
import PyProof.ReprRoads
import PyProof.ReprBulk
import PySem.Challenge.RW_touchcontest_k10_whole_members_and_paths
import HandS.Walk
set_option Elab.async false
set_option linter.all false
set_option maxRecDepth 100000
set_option maxHeartbeats 4000000
/-! Rules of our own over the hand layer: ** of a wide base, a starred target, match, repr of data, enumerate from 1. -/
namespace TC
open PySem PySem.Spec PyProof.Rows L2

/-! ### a wide base -/
def CPowW (i j : Int) : Prop := 0 ≤ j ∧ j ≤ 4 ∧ i.natAbs.log2 < 1000000
theorem op_powW {X : Cx} : OpR X (binaryOp .Pow) (rI CPowW fun i j => .int (i ^ j.toNat)) := opI fun i j _ _ _ _ _ hc q => by
  have h0 : 0 ≤ j := hc.1
  have h4 : j ≤ 4 := hc.2.1
  have hl : i.natAbs.log2 < 1000000 := hc.2.2
  have hb : Builtin.Int.intBits i ≤ i.natAbs.log2 + 1 := by
    unfold Builtin.Int.intBits
    split <;> omega
  refine pow_int h0 ?_ q
  have h1 : (Builtin.Int.intBits i : Int) ≤ 1000000 := by omega
  have h2 : (Builtin.Int.intBits i : Int) * j ≤ 1000000 * 4 := Int.mul_le_mul h1 h4 h0 (by decide)
  have e : (2 : Int) ^ 27 = 134217728 := by decide
  omega

/-! ### word, *parts = a tuple -/
def gStar1 (K : PySem.W.Frag) (i j : Nat) : TG := fun v σ H Q => ∃ (a : Addr) (x : V) (xs : List V), v = .ref a ∧ SqT K H a (x :: xs) ∧
  ∀ p, H p = none → Q ((σ.set i (some x)).set j (some (.ref p))) (upd H p (.lst xs))
theorem unpack_star1 {prog : Program} {w : World} {A : Around} {E : Value → Shared → Prop} {s : Shared} {l : Addr} {items : Array Value} {x : Value} {xs : List Value} {Q : List Value → Shared → Prop}
    (hh : A.handled = none) (hl : IsTup s.heap l items) (he : items.toList = x :: xs) (hz : items.size ≤ sizeLine)
    (h : ∀ (h' : Heap) (tk : Nat), (∀ b o, s.heap.get? b = some o → h'.get? b = some o) → Q [x, .ref h'.objs.size] { s with heap := h'.push { cls := .type "list", data := .seq xs.toArray }, toks := tk }) :
    wpAny (model prog w) A (unpackItems (.ref l) 2 (some 1)) Q E s := by
  obtain ⟨o0, ho0, _⟩ := id hl
  have lt0 : l < s.heap.objs.size := Heap.lt_size ho0
  have ne0 : l ≠ s.heap.objs.size := Nat.ne_of_lt lt0
  have sz1 : items.size = xs.length + 1 := by
    rw [← Array.length_toList, he]
    all_goals rfl
  unfold unpackItems
  refine wpAny_bind ?_
  unfold notIterableAtAll
  refine wpAny_bind (wpAny_specialOf hl.typeIs slot_tuple_iter.lookup (wpAny_pure ?_))
  simp only [Bool.false_eq_true, if_false]
  refine wpAny_bind (wpAny_holding (iter_tuple hl (wpAny_bind (wpAny_holding (draw_tuple ne0 1 0 _ _ ⟨_, Heap.get?_push_size _ rfl, rfl, rfl⟩ (hl.push _) (by omega) fun g1 it1 sb1 => ?_)))))
  have hl1 : IsTup g1 l items := (hl.push _).extBut sb1.extBut ne0
  rw [Nat.zero_add] at it1
  obtain ⟨o1, ho1, _⟩ := id it1
  obtain ⟨o2, ho2, _⟩ := id hl1
  have e1 : (items.toList.drop 0).take 1 = [x] := by rw [he]; rfl
  rw [e1, if_neg (show ¬ ([x] : List Value).length < 1 from Nat.lt_irrefl 1)]
  refine wpAny_bind (wpAny_holding (PySem.W.kun_collect (s := { s with heap := g1 }) (T := "tuple_iterator") (.inr (.inr (.inr rfl))) (Walks.tuple (A := A.in1) hh s.heap.objs.size l ne0 items) (fun j u st => st.1.typeIs)
    (k := 1) (by omega) ⟨it1, hl1⟩ (Heap.lt_size ho1) (Heap.lt_size ho2) (fun g2 tk hk => ?_) hz))
  have e2 : items.toList.drop 1 = xs := by rw [he]; rfl
  rw [e2]
  have keep : ∀ b o, s.heap.get? b = some o → g2.get? b = some o := fun b o q =>
    have nb : b ≠ s.heap.objs.size := Nat.ne_of_lt (Heap.lt_size q)
    hk b o nb (sb1.extBut b o nb (Heap.get?_push_of_some _ q))
  show wpAny _ _ (if xs.length < 2 - 1 - 1 then _ else _) _ _ _
  rw [if_neg (by omega)]
  show wpAny _ _ (newList (xs.take (xs.length - 0)) >>= fun d => pure ([x] ++ [d] ++ xs.drop (xs.length - 0))) _ _ _
  have e3 : xs.take (xs.length - 0) = xs := List.take_of_length_le (Nat.le_refl _)
  have e4 : xs.drop (xs.length - 0) = [] := List.drop_of_length_le (Nat.le_refl _)
  rw [e3, e4]
  refine wpAny_bind (wpAny_newList (wpAny_pure ?_) (by omega))
  exact h g2 tk keep
theorem pg_star1 {X : Cx} {i j : Nat} {x y : Str} {px py ps pt : Pos} {kt : Nat} (hc : X.calm = true) (hN : X.N.Nodup) (hi : X.N[i]? = some x) (hj : X.N[j]? = some y) (hx : Loc X.env.scope x) (hy : Loc X.env.scope y)
    (fx : X.fn x = true ∨ X.env.scope.names.lookup x = some .local := by first | exact .inl rfl | exact .inr rfl) (fy : X.fn y = true ∨ X.env.scope.names.lookup y = some .local := by first | exact .inl rfl | exact .inr rfl) :
    PG X (.Tuple [.Name x px, .Starred (.Name y py) ps] kt pt) (gStar1 X.K i j) := by
  refine ⟨fun pins s σ H v u Q I r hw => ?_⟩
  obtain ⟨a, z, zs, rfl, hq, q⟩ := hw
  cases r
  obtain ⟨its, rv, ht, hz⟩ := I.tuple hq
  cases rv with
  | @cons _ u1 _ us r1 r2 =>
    rw [assign_Tuple]
    refine wpAny_bind (wpAny_standAt ?_)
    show wpAny _ _ (unpack (.ref a) [(false, assign (.Name x px) X.env), (true, assign (.Name y py) X.env)]) _ _ _
    unfold unpack
    have hl := r2.length
    have hz1 : zs.length + 1 ≤ sizeLine := hz
    refine wpAny_bind (wpAny_holding (unpack_star1 (x := u1) (xs := us) (I.ok.hd hc) ht (by simp) (by simp; omega) fun h' tk hk => ?_))
    have I1 : Inv X pins σ H { s with heap := h', toks := tk } := I.kept (t' := tk) hk
    have hf : H h'.objs.size = none := I1.hok.fresh (Nat.le_refl _)
    have I2 : Inv X pins σ (upd H h'.objs.size (.lst zs)) { s with heap := h'.push { cls := .type "list", data := .seq us.toArray }, toks := tk } :=
      I1.laid (t' := tk) (o := .lst zs) (fun b o q => Heap.get?_push_of_some _ q) (Nat.le_refl _) ⟨by omega, us, 0, r2, Heap.get?_push_size _ rfl⟩
    show wpAny _ _ (assignInOrder [assign (.Name x px) X.env, assign (.Name y py) X.env] [u1, .ref h'.objs.size]) _ _ _
    refine assignInOrder_cons (wpAny_assign_Name (store_ok I2 hN hi hx r1 (fun s2 I3 => ?_) fx))
    refine assignInOrder_cons (wpAny_assign_Name (store_ok (v := .ref h'.objs.size) I3 hN hj hy rfl (fun s3 I4 => assignInOrder_nil ?_) fy))
    exact ⟨_, _, I4, q _ hf⟩

/-! ### match upon a text, cases written texts -/
structure PMC (X : Cx) (cases : List MatchCase) (t : V → TS) : Prop where
  run : ∀ (first : Bool) (pins : List (Addr × Obj)) (s : Shared) (σ : L2.St) (H : Hp) (v : V) (u : Value) (D : Ends), Inv X pins σ H s → RelV v u → t v D σ H →
    wpAny (model X.prog X.w) X.A (matchCases cases X.env u first) (SP X pins D) X.xe s
def tCase (c : List Str) (t : TS) (r : V → TS) : V → TS := fun v D σ H => ∃ z : Str, v = .str z ∧ (if z ∈ c then t D σ H else r v D σ H)
section
variable {X : Cx} {body : List Stmt} {rest : List MatchCase} {t : TS} {r : V → TS} {c c1 c2 : Str} {k k1 k2 : _} {p q p1 p2 q1 q2 : Pos}
theorem pmc_nil : PMC X [] (fun _ => tNext) := ⟨fun first pins s σ H v u D I rv h => wpAny_matchCases_nil ⟨σ, H, I, h⟩⟩
theorem pat_str {pins : List (Addr × Obj)} {s : Shared} {σ : L2.St} {H : Hp} {z : Str} {tk : Tok} {Q : Option (List (Str × Value)) → Shared → Prop} {E : Value → Shared → Prop} (I : Inv X pins σ H s)
    (h : ∀ s', Inv X pins σ H s' → Q (if z = c then some [] else none) s') : wpAny (model X.prog X.w) X.A (matchPattern (.MatchValue (.Constant (.str c) k p) q) X.env (.str z tk)) Q E s := by
  refine wpAny_matchPattern_Value (Calls.Constant_str (eq_str (wpAny_truthy_bool ?_)))
  have hh := h _ (I.tok (s.toks + 1))
  by_cases e : z = c
  · subst e
    rw [if_pos rfl] at hh
    exact (if_pos (show (z == z) = true by simp)).mpr hh
  · rw [if_neg e] at hh
    exact (if_neg (show ¬ (z == c) = true by simpa using e)).mpr hh
theorem pmc_val (hb : PSs X body t) (hr : PMC X rest r) : PMC X (⟨.MatchValue (.Constant (.str c) k p) q, none, body⟩ :: rest) (tCase [c] t r) := by
  refine ⟨fun first pins s σ H v u D I rv h => ?_⟩
  obtain ⟨z, rfl, h⟩ := h
  obtain ⟨tk, rfl⟩ := id rv
  refine wpAny_matchCases_cons (pat_str I fun s1 I1 => ?_)
  by_cases e : z = c
  · rw [if_pos (List.mem_singleton.mpr e)] at h
    rw [if_pos e]
    exact wpAny_assignInOrder_none (hb.run pins s1 σ H D I1 h)
  · rw [if_neg (fun w => e (List.mem_singleton.mp w))] at h
    rw [if_neg e]
    exact hr.run false pins s1 σ H _ _ D I1 rv h
theorem pmc_or (hb : PSs X body t) (hr : PMC X rest r) :
    PMC X (⟨.MatchOr [.MatchValue (.Constant (.str c1) k1 p1) q1, .MatchValue (.Constant (.str c2) k2 p2) q2] q, none, body⟩ :: rest) (tCase [c1, c2] t r) := by
  refine ⟨fun first pins s σ H v u D I rv h => ?_⟩
  obtain ⟨z, rfl, h⟩ := h
  obtain ⟨tk, rfl⟩ := id rv
  refine wpAny_matchCases_cons (wpAny_matchPattern_Or (wpAny_matchFirst_cons (pat_str I fun s1 I1 => ?_)))
  by_cases e : z = c1
  · rw [if_pos (by rw [e]; exact List.mem_cons_self)] at h
    rw [if_pos e]
    exact wpAny_assignInOrder_none (hb.run pins s1 σ H D I1 h)
  · rw [if_neg e]
    refine wpAny_matchFirst_cons (pat_str I1 fun s2 I2 => ?_)
    by_cases e2 : z = c2
    · rw [if_pos (by rw [e2]; exact List.mem_cons_of_mem _ List.mem_cons_self)] at h
      rw [if_pos e2]
      exact wpAny_assignInOrder_none (hb.run pins s2 σ H D I2 h)
    · rw [if_neg (fun w => (List.mem_cons.mp w).elim e fun w' => e2 (List.mem_singleton.mp w'))] at h
      rw [if_neg e2]
      exact wpAny_matchFirst_nil (hr.run false pins s2 σ H _ _ D I2 rv h)
def tMatch (te : TE) (t : V → TS) : TS := fun D σ H => te σ H fun v H1 => t v D σ H1
theorem ps_match {e : Expr} {te : TE} {cases : List MatchCase} {tm : V → TS} {pos : Pos} (he : PE X e te) (hm : PMC X cases tm) : PS X (.Match e cases pos) (tMatch te tm) :=
  ⟨fun pins s σ H D I h => wpAny_Match (thn (he.run pins s σ H _ I h) fun u s1 ⟨v, H1, I1, r1, q1⟩ => hm.run true pins s1 σ H1 v u D I1 r1 q1)⟩
end

/-! ### repr of data -/
def rRepr (K : PySem.W.Frag) : List V → Hp → VK → Prop := fun xs H Q => ∃ (a : Addr) (d : PyData), xs = [.ref a] ∧ Dp K H (.ref a) d ∧ d.showable = true ∧ d.hasDict = false ∧ d.depth ≤ 60 ∧ d.shown.length ≤ sizeLine ∧ Q (.str d.shown) H
theorem call_reprD {X : Cx} (hg : X.A.guards = some []) (hu : X.A.units + 64 < cLine) : CallR X (.builtin "repr") (rRepr X.K) := by
  intro pins s σ H xs us Q I r h
  obtain ⟨a, d, rfl, hd, h1, h2, h3, h4, q⟩ := h
  cases r with
  | cons r1 r2 =>
    cases r2
    cases r1
    obtain ⟨as, rd⟩ := Dp.reads I d _ _ hd rfl
    refine repr_of_reads' rd h1 (PyData.noDict_hsm h2) hg (by omega) (fun b o e => e) (fun h' u tk hk => ?_) h4
    exact ⟨.str d.shown, H, I.kept (t' := tk) hk, ⟨u, rfl⟩, q⟩
end TC

/-! Defs called where no repr is under way (guards = some []); the law's end for such a def; enumerate from 1; data that stays. -/
namespace TC
open PySem PySem.Spec PySem.Calls PyProof.Rows L2

/-! ### a def's promise where no guard is under way -/
structure FnG (P : Program) (w : World) (K : PySem.W.Frag) (mg : Str → Option Value) (base : Heap) (k : Nat) (f : Addr) (fd : FuncData) (ps : List Str) (sp : Sp) : Prop where
  len : ∀ vs H Q E, sp vs H Q E → vs.length = ps.length
  run : ∀ (A : Around) (outer : List Env) (s : Shared) (H : Hp) (args : Args) (us : List Value) (vs : List V) (Q : VK) (E : XK), A.guards = some [] → Room k A → Env0 P w K mg base A outer s H → BindsTo s fd args (ps.zip us) →
    Vals vs us → sp vs H Q E → codeAny (model P w) A (.call (.ref f) args) (CR CX0 outer P w H s Q E) s
section
variable {P : Program} {w : World} {K : PySem.W.Frag} {mg : Str → Option Value} {base : Heap}
/-- the rule for such a def, by its body -/
theorem funG {x qual : Str} {st : Stmt} {f : Addr} {fd : FuncData} {N ps : List Str} {k : Nat} {sp : Sp} (F : Fun K x qual st f fd) (S : FnScope N ps (defScope st)) (len : ∀ vs H Q E, sp vs H Q E → vs.length = ps.length)
    (body : ∀ (cdv : Value) (A : Around) (outer : List Env) (s : Shared) (H : Hp) (vs : List V) (Q : VK) (E : XK), A.guards = some [] → Room k (A.deeper (envOfC qual (defScope st) s.heap.objs.size f cdv)) → sp vs H Q E →
      ∃ t, PSs (cxOf CX0 P w K mg base N qual (defScope st) f cdv A outer s H E).nox (defBody st) t ∧ t { nx := fun _ H' => Q .non H', rt := Q } (start N vs) H) : FnG P w K mg base (k + 1) f fd ps sp := by
  obtain ⟨c1, d1, k1, doc1, pm1, an1, code, ct1, sl1, rfl, look, hcode⟩ := F.ex
  constructor
  · exact len
  intro A outer s H args us vs Q E hG room env bnd rel hs
  have vl := len _ _ _ _ hs
  have stays : ∀ b o, base.get? b = some o → s.heap.get? b = some o := fun b o e => (env.bs b o e).1
  have KH : K.In s.heap := env.mod.kin.keeps stays
  refine codeAny_call_function room.depth (KH _ _ look) rfl S.co S.gen rfl (PySem.W.codeRec_of KH hcode) (bnd _ _ _ _ ?_)
  refine wpAny_newFunctionEnv_cells S.kind ?_ fun en he s1 inC => ?_
  · rintro ⟨y, z⟩ hm
    rcases S.par y (List.of_mem_zip hm).1 with q | q
    · exact Or.inl q
    · exact Or.inr ⟨q, PySem.W.cellsFrom_some _ _ _ (Or.inl q)⟩
  subst he
  refine ⟨(env.mod.nolimit.keeps stays).keeps inC.toInCall.keep, codeAny_func ?_⟩
  obtain ⟨t, ht, hq⟩ := body code A outer s H vs Q E hG (room.deeper _) hs
  have I0 := inv_start (CX := CX0) (qual := qual) (f := f) (cd := code) (E := E) S room.hd env vl rel inC
  refine wpAny_mono (ht.nox.run [] s1 (start N vs) H _ I0 hq) ?_ (fun e s' h => h)
  rintro fl s' h
  cases fl with
  | ret u =>
    obtain ⟨v, σ', H', J, rv, q⟩ := h
    exact ⟨v, H', J.os, J.bare, J.base, J.hok, rv, q⟩
  | next =>
    obtain ⟨σ', H', J, q⟩ := h
    exact ⟨.non, H', J.os, J.bare, J.base, J.hok, rfl, q⟩
  | brk => exact h.elim fun _ h2 => h2.elim fun _ h3 => h3.2.elim
  | cont => exact h.elim fun _ h2 => h2.elim fun _ h3 => h3.2.elim
end
section
variable {X : Cx} {k : Nat} {f : Addr} {fd : FuncData} {ps : List Str} {sp : Sp} {x : Str} {p pos : Pos} {e : Expr} {es : List Expr} {t : TA}
/-- f(e, ..) of such a def -/
theorem pe_callG (hG : X.A.guards = some []) (F : FnG X.prog X.w X.K X.mg X.base k f fd ps sp) (hr : Room k X.A) (hg : Gl X x) (hm : X.mg x = some (.ref f)) (hk : PySem.W.keepIn X.K (.ref f) = true) (hb : Binds X.K fd ps [])
    (ha : PA X (e :: es) t) (hdb : (x == ("__debug__" : Str)) = false := by decide) (he : starEach (e :: es) X.env = (false, eval e X.env) :: starEach es X.env := by rfl) (hpl : (backTo pos (starEach es X.env)).any (·.1) = false := by rfl) :
    PE X (.Call (.Name x p) (e :: es) [] pos) (tCall sp [] E0 t) := by
  constructor
  intro pins s σ H Q I h
  refine wpAny_Call_Name_kw (ld_glob I hg hm ?_ hdb)
  refine PySem.W.callWith_K (h₀ := X.base) I.ok.mod.kin hk (thn (ha.run pos pins s σ H _ I h) fun us s1 h1 => ?_) he hpl
  obtain ⟨vs, H1, I1, r, q⟩ := h1
  refine ⟨I1.kIn, ?_⟩
  rw [List.append_nil] at q
  have hl : (us ++ []).length = ps.length := by
    rw [List.append_nil, ← r.length]
    exact F.len _ _ _ _ q
  have bn := hb s1 us I1.kIn hl
  rw [List.append_nil] at bn
  refine wpAny_call (codeAny_mono (F.run X.A X.stack s1 H1 ⟨us, []⟩ us vs Q E0 hG hr I1.env0 bn r q) ?_)
  rintro (er | fl) s' hq
  · exact hq.elim
  · cases fl with
    | ret u => exact I1.after hq
    | next => exact hq.elim
    | brk => exact hq.elim
    | cont => exact hq.elim
end

/-! ### the law's end -/
theorem law_callG {P : Program} {w : World} {K : PySem.W.Frag} {mg mb : Str → Option Value} {k : Nat} {fa a : Addr} {fd : FuncData} {x : Str} {sp : Sp} {s₁ : Shared} {vs : List Value} {ns : List Int}
    (KX : K.In s₁.heap) (hns : s₁.heap.Ns mainGlobals mg) (hb : s₁.heap.Ns builtinsNs mb) (hbb : ∀ x : Str, x ≠ "__name__" → mb x = bootBuiltins x) (hlim : s₁.heap.NoLimit) (hg : s₁.gens = #[])
    (ha : s₁.heap.get? a = some { cls := .type "list", data := .seq vs.toArray }) (hi : IntsAre vs ns) (hl : ns.length ≤ sizeLine) (hr : Room k callerA)
    (F : ∀ base : Heap, K.In base → base.Ns mainGlobals mg → FnG P w K mg base k fa fd [x] sp) (hbind : ∀ (s : Shared) (u : Value), BindsTo s fd ⟨[u], []⟩ [(x, u)])
    (hsp : ∀ H : Hp, SqL K H a (ns.map V.int) → sp [.ref a] H (fun v _ => v = .bl true) E0) :
    codeAny (model P w) callerA (.call (.ref fa) ⟨[.ref a], []⟩) (fun r s' => r = .ok (.ret (.bool true)) ∧ OldK s₁.heap s'.heap ∧ s'.os = s₁.os ∧ AllBare s'.gens) s₁ := by
  have rv := vals_ints hi
  have lv := hi.length
  let o0 : Obj := { cls := .type "list", data := .seq vs.toArray }
  -- what is tracked: nothing, or the script, locked
  have go : ∀ H : Hp, SqL K H a (ns.map V.int) → (∀ b u, H b = some u → b = a ∧ u = .frz o0 (.lst (ns.map V.int)) ∧ K.lookup a = none) →
      codeAny (model P w) callerA (.call (.ref fa) ⟨[.ref a], []⟩) (fun r s' => r = .ok (.ret (.bool true)) ∧ OldK s₁.heap s'.heap ∧ s'.os = s₁.os ∧ AllBare s'.gens) s₁ := by
    intro H hS hT
    have hok : HOk P w H s₁.heap := by
      intro b u e
      obtain ⟨rfl, rfl, _⟩ := hT b u e
      exact ⟨ha, by rw [List.length_map]; exact hl, vs, 0, rv, ha⟩
    have free : ∀ {b : Addr} {o : Obj} {es : Array DictEntry} {n : Nat}, s₁.heap.get? b = some o → o.data = .dict es n → H b = none := by
      intro b o es n e d
      cases q : H b with
      | none => rfl
      | some u =>
        obtain ⟨rfl, _⟩ := hT b u q
        rw [ha] at e
        cases e
        cases d
    have nsT : ∀ {b : Addr} {m : Str → Option Value}, s₁.heap.Ns b m → (hidT s₁.heap H).Ns b m := by
      rintro b m ⟨o, es, n, e, d, r⟩
      exact ⟨o, es, n, hidT_get e (free e d), d, r⟩
    have kin : K.In (hidT s₁.heap H) := by
      intro b o e
      refine hidT_get (KX b o e) ?_
      cases q : H b with
      | none => rfl
      | some u =>
        obtain ⟨rfl, _, z⟩ := hT b u q
        rw [z] at e
        cases e
    obtain ⟨mc, l1, l2⟩ := hlim
    have md : Mod K mg (hidT s₁.heap H) := ⟨kin, nsT hns, ⟨mb, nsT hb, hbb⟩, ⟨mc, nsT l1, l2⟩⟩
    have en : Env0 P w K mg (hidT s₁.heap H) callerA [] s₁ H :=
      ⟨rfl, md, fun b o e => of_hidT e, Nat.le_of_eq (hidT_size _ _), trivial, fun b hb => absurd hb List.not_mem_nil, hok, .of_eq hg⟩
    refine codeAny_mono ((F _ kin (nsT hns)).run callerA [] s₁ H ⟨[.ref a], []⟩ [.ref a] [.ref a] _ E0 rfl hr en (hbind s₁ (.ref a)) (.cons rfl .nil) (hsp H hS)) ?_
    rintro (er | fl) s' h
    · exact h.elim
    cases fl with
    | next => exact h.elim
    | brk => exact h.elim
    | cont => exact h.elim
    | ret u =>
      obtain ⟨v, H', os, bare, un, hok', r', q⟩ := h
      have q' : v = .bl true := q
      subst q'
      have hu : u = Value.bool true := r'
      subst hu
      refine ⟨rfl, .of_keep ?_, os, bare⟩
      intro b o e
      cases q : H b with
      | none => exact un.keep b o e q (fun z => absurd z List.not_mem_nil) List.not_mem_nil
      | some u =>
        obtain ⟨rfl, rfl, _⟩ := hT b u q
        have e2 := (hok' b _ (un.frzs b _ _ q)).1
        rw [ha] at e
        cases e
        exact e2
  cases hk : K.lookup a with
  | some o =>
    have e := KX a o hk
    rw [ha] at e
    cases e
    refine go (fun _ => none) (.inr ⟨_, vs.toArray, _, hk, rfl, rfl, rfl, ?_, by simpa using rv⟩) (fun b u z => by cases z)
    rw [List.size_toArray, lv]
    exact hl
  | none =>
    refine go (fun b => if b = a then some (.frz o0 (.lst (ns.map V.int))) else none) (.inl (.inr ⟨o0, if_pos rfl⟩)) ?_
    intro b u z
    by_cases hb : b = a
    · rw [if_pos hb] at z
      cases z
      exact ⟨hb, rfl, hk⟩
    · rw [if_neg hb] at z
      cases z
theorem walk_ofG {l : PySem.W.OpenLaw} {n k : Nat} {q : Program} {loose : List Str} {XP : (Str → Option Value) → Heap → Prop} {YP : World → Heap → Prop} {d : DefRec} {K : Params → PySem.W.Frag} {sp : PySem.W.Frag → Sp} {x : Str}
    (hn : l.most = some n) (hn2 : n ≤ sizeLine) (hdf : d.params.defaults = []) (hr : Room k callerA) (hY : ∀ (w : World) (h : Heap), YP w h → (K w.params).In h)
    (F : ∀ (w : World) (mg : Str → Option Value) (fa : Addr) (h : Heap), (K w.params).In h → h.Ns mainGlobals mg → mg d.name = some (.ref fa) →
      ∃ fd : FuncData, (∀ (s : Shared) (u : Value), BindsTo s fd ⟨[u], []⟩ [(x, u)]) ∧ ∀ base : Heap, (K w.params).In base → base.Ns mainGlobals mg → FnG l.prog w (K w.params) mg base k fa fd [x] (sp (K w.params)))
    (hsp : ∀ (K : PySem.W.Frag) (H : Hp) (a : Addr) (ns : List Int), ns.length ≤ n → SqL K H a (ns.map V.int) → sp K [.ref a] H (fun v _ => v = .bl true) E0) :
    PySem.W.WalkO q loose XP YP l.row.toRowW d [] (fun f vs => PySem.call f vs) := by
  refine Att.attach_call hn hdf ?_
  intro w s0 s1 mg mb fa o pm cd doc a vs ns G Y ho hd hcd hmg hobj hints hlen hg
  obtain ⟨fd, hb, hF⟩ := F w mg fa _ (hY w _ Y) G.T.g hmg
  exact law_callG (hY w _ Y) G.T.g G.T.b G.T.builtins G.T.nolimit hg hobj hints (Nat.le_trans hlen hn2) hr hF hb fun H hS => hsp _ H a ns hlen hS
end TC

/-! enumerate(xs, c) with a written c; data that stays while other objects change. -/
namespace TC
open PySem PySem.Spec PySem.Calls PyProof.Rows L2

/-! ### enumerate(list, c) -/
def IteF (K : PySem.W.Frag) (a : Addr) (c : Int) : It :=
  ⟨fun i H => ∃ (xs : List V) (x : V), SqL K H a xs ∧ xs[i]? = some x, fun i H v H' => ∃ T x, v = .ref T ∧ H T = none ∧ H' = upd H T (.tup [.int (c + (i : Nat)), x]) ∧ ∀ xs, SqL K H a xs → xs[i]? = some x, fun i H => ∃ xs : List V, SqL K H a xs ∧ xs.length ≤ i⟩
theorem turn_enumF {P : Program} {w : World} {K : PySem.W.Frag} {elts : List Expr} {kk : Nat} {tpos : Pos} (a e it : Addr) (c : Int) :
    Turn P w K (.Tuple elts kk tpos) (IteF K a c) [e, it] e (fun i h => (∃ old, IsEnum h e it (c + (i : Nat)) old) ∧ h.IsListIter it a i ∧ e ≠ it) where
  mem := List.mem_cons_self
  obj := by
    rintro i h ⟨⟨old, he⟩, ⟨o, ho, hc, hd⟩, _⟩ b hb
    rcases List.mem_cons.mp hb with rfl | hb
    · exact ⟨_, he, fun v q => nomatch q⟩
    · rw [List.mem_singleton.mp hb]
      exact ⟨o, ho, fun v q => by rw [hd] at q; cases q⟩
  keep := by
    rintro i h h' ⟨⟨old, he⟩, hi, hne⟩ k
    exact ⟨⟨old, k e (by simp) _ he⟩, hi.at fun o q => k it (by simp) o q, hne⟩
  item := by
    rintro X rfl rfl rfl hc i pins s σ H E I hf ⟨⟨old, he⟩, hit, hne⟩ ⟨xs, x, hq, hx⟩
    obtain ⟨its, rv, p, hz⟩ := I.list hq
    obtain ⟨u, hu, ru⟩ := rv.get hx
    have hel : e < s.heap.objs.size := Heap.lt_size he
    have hil : it < s.heap.objs.size := hit.elim fun _ q => Heap.lt_size q.1
    have nla : a ≠ it := by
      rintro rfl
      obtain ⟨o1, q1, c1, _⟩ := p.isList
      obtain ⟨o2, q2, c2, _⟩ := hit
      rw [q1] at q2
      cases q2
      rw [c1] at c2
      exact absurd (Value.type.inj c2) (by decide)
    have nea : e ∉ [it, a] := by
      intro hm
      rcases List.mem_cons.mp hm with z | z
      · exact hne z
      · rw [List.mem_singleton] at z
        subst z
        obtain ⟨o1, q1, c1, _⟩ := p.isList
        rw [he] at q1
        cases q1
        exact absurd (Value.type.inj c1) (by decide)
    have hlt : i < its.toArray.size := by simpa using (List.getElem?_eq_some_iff.mp hu).1
    refine wpAny_pyNext_enum_itemC (Draws.list (A := X.A.in1) (I.ok.hd hc) it a nla its.toArray) he (show s.heap.IsListIter it a i ∧ s.heap.IsList a its.toArray from ⟨hit, p.isList⟩) hlt hne nea ?_
    intro y h' tk hy ho hst hT hsz hk
    obtain rfl : y = u := by
      have hy' : its.toArray[i]? = some y := hy
      rw [List.getElem?_toArray, hu] at hy'
      exact (Option.some.inj hy').symm
    refine ⟨_, rfl, wpAny_letOwnedTupleGo_enum (s := { s with heap := h', toks := tk + 1 }) ho fun h'' he' sb => ?_⟩
    have hT2 := (sb.2 _ (Nat.ne_of_gt hel)).trans hT
    have new : ObjOk X.prog X.w (upd H s.heap.objs.size (.tup [.int (c + (i : Nat)), x])) h'' s.heap.objs.size (.tup [.int (c + (i : Nat)), x]) :=
      ⟨by show 2 ≤ sizeLine; decide, [.int (c + (i : Nat)) tk, y], .cons ⟨_, rfl⟩ (.cons ru .nil), ⟨_, hT2, rfl, _, rfl⟩⟩
    have I1 : Inv X pins σ (upd H s.heap.objs.size (.tup [.int (c + (i : Nat)), x])) { s with heap := h'', toks := tk + 1 } :=
      I.turnedNew (ch := [e, it]) (fun b ob hb q => (sb.2 b (fun z => hb (by simp [z]))).trans (hk b ob (fun z => hb (by simp [z])) (fun z => hb (by simp [z])) q)) hf (Nat.le_refl _) new
    refine ⟨.ref s.heap.objs.size, _, I1, rfl, ⟨_, x, rfl, I.hok.fresh (Nat.le_refl _), rfl, fun ys hy => by rw [I.list_inj hy hq]; exact hx⟩, ⟨⟨y, ?_⟩, hst.1.at fun o q => (sb.2 it (Ne.symm hne)).trans q, hne⟩, fun b hb => ?_⟩
    · have e1 : c + ((i + 1 : Nat) : Int) = c + (i : Int) + 1 := by omega
      rw [e1]
      exact he'
    · have hb' : b < s.heap.objs.size := by
        rcases List.mem_cons.mp hb with z | z
        · rw [z]; exact hel
        · rw [List.mem_singleton.mp z]; exact hil
      rw [upd_ne (Nat.ne_of_lt hb')]
      exact (hf b hb).1
  done := by
    rintro X rfl rfl rfl hc i pins s σ H E I hf ⟨⟨old, he⟩, hit, hne⟩ ⟨xs, hq, hx⟩
    obtain ⟨its, rv, p, hz⟩ := I.list hq
    obtain ⟨f0, f1, f2, f3, f4, f5⟩ := hf it (by simp)
    have hl := rv.length
    have D0 : Draws X.prog X.w X.A.in1 it [it, a] 0 (fun _ _ => False) (fun _ h => h.IsListIter it a i ∧ h.IsList a its.toArray) :=
      ⟨fun _ _ st => st.1.elim fun o q => ⟨o, q.1⟩, fun _ _ _ st k => ⟨st.1.at fun o q => k it (by simp) o q, st.2.at fun o q => k a (by simp) o q⟩,
        fun j _ _ _ hj => absurd hj (Nat.not_lt_zero j), fun s Q E st hE => wpAny_nextOf_list_end (I.ok.hd hc) st.1 st.2 (by simp; omega) hE⟩
    exact wpAny_pyNext_enum_endD D0 he ⟨hit, p.isList⟩ fun h' eb => ⟨rfl, I.turned (t' := s.toks) (fun b o hb q => eb b o hb q) f0 f1 f3 f4 f5⟩
  self := fun A i s Q E st h => st.1.elim fun _ he => wpAny_pyIter_enum he h
def iEnumF (K : PySem.W.Frag) (ta : TA) : TI := fun σ H R => ta σ H fun vs H1 => ∃ (a : Addr) (c : Int) (xs : List V), vs = [.ref a, .int c] ∧ SqL K H1 a xs ∧ (-(2 ^ 63) ≤ c ∧ c < 2 ^ 63) ∧ R (IteF K a c) H1
theorem pi_enumF {X : Cx} {e e2 : Expr} {ta : TA} {p pos tpos : Pos} {elts : List Expr} {kk : Nat} (hg : Gl X "enumerate") (hm : X.mg "enumerate" = none) (ha : PA X [e, e2] ta)
    (he : starEach [e, e2] X.env = (false, eval e X.env) :: starEach [e2] X.env := by rfl) (hpl : (backTo pos (starEach [e2] X.env)).any (·.1) = false := by rfl) :
    PI X (.Tuple elts kk tpos) (.Call (.Name "enumerate" p) [e, e2] [] pos) (iEnumF X.K ta) := by
  constructor
  intro pins s σ H R I h
  refine Call_ (ld_blt I hg hm boot_enumerate (PyProof.Rows.callWith_type1 (thn (ha.run pos pins s σ H _ I h) fun us s1 h1 => ?_) he hpl))
  obtain ⟨vs, H1, I1, r1, a, c, xs, rfl, hq, ⟨c0, c1⟩, q⟩ := h1
  cases r1 with
  | cons ra rr =>
    cases rr with
    | cons rc rn =>
      cases rn
      cases ra
      obtain ⟨t, rfl⟩ := rc
      obtain ⟨its, rv, p', hz⟩ := I1.list hq
      refine enum_begins (begins_list a its.toArray) p'.isList c0 c1 fun h' he hit hsz hk => wpAny_pyIter_enum he ?_
      have I2 : Inv X pins σ H1 { s1 with heap := h' } := I1.kept (t' := s1.toks) hk
      refine ⟨s1.heap.objs.size + 1, [s1.heap.objs.size + 1, s1.heap.objs.size], _, _, H1, rfl, I2, turn_enumF a (s1.heap.objs.size + 1) s1.heap.objs.size c, ⟨⟨.none, ?_⟩, ⟨_, hit, rfl, rfl⟩, Nat.succ_ne_self _⟩, fun b hb => ?_, q⟩
      · have e0 : c + ((0 : Nat) : Int) = c := by omega
        rw [e0]
        exact he
      · have hle : s1.heap.objs.size ≤ b := by
          rcases List.mem_cons.mp hb with z | z
          · rw [z]; exact Nat.le_add_right _ _
          · rw [List.mem_singleton.mp z]; exact Nat.le_refl _
        exact I1.fpOk hle (I1.hok.fresh hle)
theorem walk_enumF {K : PySem.W.Frag} {a : Addr} {c : Int} {xs : List V} : Walk (IteF K a c) xs.length (fun H => SqL K H a xs) (YPair (fun i => some (.int (c + (i : Nat)))) (fun i => xs[i]?)) := by
  refine ⟨fun i _ hi q => ⟨xs, xs[i], q, List.getElem?_eq_getElem hi⟩, fun _ q => ⟨xs, q, Nat.le_refl _⟩, fun i H v H' _ q y => ?_⟩
  obtain ⟨T, x, h1, h2, h3, h4⟩ := y
  exact ⟨T, .int (c + (i : Nat)), x, h1, h2, h3, rfl, h4 xs q⟩

/-! ### data stays where the objects stay -/
section
variable {K : PySem.W.Frag} {H H' : Hp} {a : Addr} {xs : List V} {v : V} {ds : List PyData} {d : PyData}
theorem _root_.L2.Same.seqT (e : Same H H') (h : SqT K H a xs) : SqT K H' a xs := by
  rcases h with (h | ⟨o, h⟩) | h
  · exact .inl (.inl (e _ _ h))
  · exact .inl (.inr ⟨o, e _ _ h⟩)
  · exact .inr h
mutual
theorem _root_.L2.Dp.same (e : Same H H') : ∀ {v : V} {d : PyData}, Dp K H v d → Dp K H' v d
  | _, _, .non => .non
  | _, _, .bl b => .bl b
  | _, _, .int i => .int i
  | _, _, .str x => .str x
  | _, _, .lst s a => .lst (e.seq s) (L2.DpAll.same e a)
  | _, _, .tup s a => .tup (e.seqT s) (L2.DpAll.same e a)
theorem _root_.L2.DpAll.same (e : Same H H') : ∀ {vs : List V} {ds : List PyData}, DpAll K H vs ds → DpAll K H' vs ds
  | _, _, .nil => .nil
  | _, _, .cons a b => .cons (L2.Dp.same e a) (L2.DpAll.same e b)
end
theorem dp_len : ∀ {vs : List V} {ds : List PyData}, DpAll K H vs ds → vs.length = ds.length
  | _, _, .nil => rfl
  | _, _, .cons _ b => congrArg (· + 1) (dp_len b)
theorem dp_get : ∀ {vs : List V} {ds : List PyData} {i : Nat} {v : V}, DpAll K H vs ds → vs[i]? = some v → ∃ d, ds[i]? = some d ∧ Dp K H v d
  | _, _, _, _, .nil, e => by simp at e
  | _, _, 0, _, .cons a b, e => by
    simp at e
    subst e
    exact ⟨_, rfl, a⟩
  | _, _, i + 1, _, .cons a b, e => by
    obtain ⟨d, h1, h2⟩ := dp_get (i := i) b (by simpa using e)
    exact ⟨d, by simpa using h1, h2⟩
theorem dp_at {vs : List V} {ds : List PyData} {i : Nat} {d : PyData} (h : DpAll K H vs ds) (e : ds[i]? = some d) : ∃ v, vs[i]? = some v ∧ Dp K H v d := by
  have hl := dp_len h
  have hi : i < vs.length := by rw [hl]; exact (List.getElem?_eq_some_iff.mp e).1
  obtain ⟨d', h1, h2⟩ := dp_get h (List.getElem?_eq_getElem hi)
  rw [e] at h1
  cases h1
  exact ⟨_, List.getElem?_eq_getElem hi, h2⟩
theorem dp_append : ∀ {vs : List V} {ds : List PyData} {ws : List V} {es : List PyData}, DpAll K H vs ds → DpAll K H ws es → DpAll K H (vs ++ ws) (ds ++ es)
  | _, _, _, _, .nil, h => h
  | _, _, _, _, .cons a b, h => .cons a (dp_append b h)
theorem dp_of {vs : List V} {ds : List PyData} (hl : vs.length = ds.length) (h : ∀ (i : Nat) (v : V) (d : PyData), vs[i]? = some v → ds[i]? = some d → Dp K H v d) : DpAll K H vs ds := by
  induction vs generalizing ds with
  | nil =>
    cases ds with
    | nil => exact .nil
    | cons d ds => simp at hl
  | cons v vs ih =>
    cases ds with
    | nil => simp at hl
    | cons d ds => exact .cons (h 0 v d rfl rfl) (ih (by simpa using hl) fun i w e h1 h2 => h (i + 1) w e (by simpa using h1) (by simpa using h2))
theorem dp_ints : ∀ {vs : List V} {ns : List Int}, DpAll K H vs (ns.map .int) → vs = ns.map V.int
  | [], [], _ => rfl
  | _ :: _, n :: ns, .cons a b => by
    cases a
    rw [dp_ints b]
    all_goals rfl
theorem ints_dp : ∀ {ns : List Int}, DpAll K H (ns.map V.int) (ns.map .int)
  | [] => .nil
  | n :: ns => .cons (.int n) ints_dp
/-- a list, a tuple: its address and items -/
theorem dp_lst (h : Dp K H v (.list ds)) : ∃ a xs, v = .ref a ∧ SqL K H a xs ∧ DpAll K H xs ds := by
  cases h with
  | lst s a => exact ⟨_, _, rfl, s, a⟩
theorem dp_tup (h : Dp K H v (.tuple ds)) : ∃ a xs, v = .ref a ∧ SqT K H a xs ∧ DpAll K H xs ds := by
  cases h with
  | tup s a => exact ⟨_, _, rfl, s, a⟩
theorem dp_tints {ns : List Int} (h : Dp K H v (.tuple (ns.map .int))) : ∃ a, v = .ref a ∧ SqT K H a (ns.map V.int) := by
  obtain ⟨a, xs, rfl, s, q⟩ := dp_tup h
  rw [dp_ints q] at s
  exact ⟨a, rfl, s⟩
theorem ty_tup (h : SqT K H a xs) : TyX K H (.ref a) (.type "tuple") := by
  rcases h with (h | ⟨o, h⟩) | ⟨o, its, n, h1, h2, _⟩
  · exact .base (.tup h)
  · exact .fTuple h
  · exact .kTuple h1 h2
theorem ty_lst (h : SqL K H a xs) : TyX K H (.ref a) (.type "list") := by
  rcases h with (h | ⟨o, h⟩) | ⟨o, its, n, h1, h2, _⟩
  · exact .base (.lst h)
  · exact .base (.frz h)
  · exact .kList h1 h2
end

/-! ### all but the objects at L stays -/
def hid (L : List Addr) (H : Hp) : Hp := fun b => if b ∈ L then none else H b
def Keep (L : List Addr) (H H' : Hp) : Prop := ∀ b o, b ∉ L → H b = some o → H' b = some o
section
variable {L L' : List Addr} {H H' H2 : Hp} {a : Addr} {o : HO}
theorem hid_in (h : a ∈ L) : hid L H a = none := if_pos h
theorem hid_out (h : a ∉ L) : hid L H a = H a := if_neg h
theorem hid_nil : hid [] H = H := by
  funext b
  exact hid_out List.not_mem_nil
theorem hid_same : Same (hid L H) H := fun b o e => by
  by_cases h : b ∈ L
  · rw [hid_in h] at e
    cases e
  · rw [hid_out h] at e
    exact e
theorem hid_sub (h : ∀ b, b ∈ L → b ∈ L') : Same (hid L' H) (hid L H) := fun b o e => by
  by_cases h2 : b ∈ L'
  · rw [hid_in h2] at e
    cases e
  · rw [hid_out h2] at e
    rw [hid_out fun z => h2 (h b z)]
    exact e
theorem Keep.same (k : Keep L H H') : Same (hid L H) (hid L H') := fun b o e => by
  by_cases h : b ∈ L
  · rw [hid_in h] at e
    cases e
  · rw [hid_out h] at e ⊢
    exact k b o h e
theorem Keep.refl : Keep L H H := fun _ _ _ e => e
theorem Keep.trans (k : Keep L H H') (k2 : Keep L H' H2) : Keep L H H2 := fun b o h e => k2 b o h (k b o h e)
theorem Keep.of (k : Same H H') : Keep L H H' := fun b o _ e => k b o e
theorem Keep.mono (k : Keep L H H') (h : ∀ b, b ∈ L → b ∈ L') : Keep L' H H' := fun b o n e => k b o (fun z => n (h b z)) e
/-- a new object -/
theorem Keep.new (h : H a = none) : Keep L H (upd H a o) := fun b u _ e => by
  rw [upd_ne (ne_of_none e h)]
  exact e
/-- an object of L is changed -/
theorem Keep.set (h : a ∈ L) : Keep L H (upd H a o) := fun b u n e => by
  have hb : b ≠ a := by
    rintro rfl
    exact n h
  rw [upd_ne hb]
  exact e
theorem Same.new (h : H a = none) : Same H (upd H a o) := fun b u e => by
  rw [upd_ne (ne_of_none e h)]
  exact e
/-- what is new lies not in L, where L's objects are tracked -/
theorem new_out (h : ∀ b ∈ L, H b ≠ none) (n : H a = none) : a ∉ L := fun z => h a z n
/-- what was not tracked was not tracked before -/
theorem Keep.none_of (k : Keep L H H') (n : H' a = none) (h : a ∉ L) : H a = none := by
  cases q : H a with
  | none => rfl
  | some u =>
    rw [k a u h q] at n
    cases n
end
end TC

/-! The text by places; what is known of it behind the top. -/
namespace TC
open PySem PySem.Spec PySem.Calls PyProof.Rows L2
def top (i : Nat) : Stmt := PySem.Challenge.pw_touchcontest_k10_whole_members_and_paths.main.body.getD i (.Pass ⟨0, 0, 0, 0⟩)
/-- a def of the text, where it stands -/
structure Df (K : PySem.W.Frag) (mg : Str → Option Value) (x : Str) (st : Stmt) (ps : List Str) : Prop where
  ex : ∃ (f : Addr) (fd : FuncData), Fun K x x st f fd ∧ mg x = some (.ref f) ∧ Binds K fd ps []
/-- a def that keeps a promise, by its name -/
structure Prom (P : Program) (w : World) (K : PySem.W.Frag) (mg : Str → Option Value) (base : Heap) (k : Nat) (x : Str) (ps : List Str) (sp : Sp) : Prop where
  ex : ∃ (f : Addr) (fd : FuncData), FnOk P w K mg base CX0 k f fd ps sp ∧ mg x = some (.ref f) ∧ PySem.W.keepIn K (.ref f) = true ∧ Binds K fd ps []
structure PromG (P : Program) (w : World) (K : PySem.W.Frag) (mg : Str → Option Value) (base : Heap) (k : Nat) (x : Str) (ps : List Str) (sp : Sp) : Prop where
  ex : ∃ (f : Addr) (fd : FuncData), FnG P w K mg base k f fd ps sp ∧ mg x = some (.ref f) ∧ PySem.W.keepIn K (.ref f) = true ∧ Binds K fd ps []
section
variable {P : Program} {w : World} {K : PySem.W.Frag} {mg : Str → Option Value} {base : Heap}
theorem Df.prom {x : Str} {st : Stmt} {N ps : List Str} {k : Nat} {sp : Sp} (D : Df K mg x st ps) (S : FnScope N ps (defScope st)) (len : ∀ vs H Q E, sp vs H Q E → vs.length = ps.length)
    (body : ∀ (f : Addr) (cdv : Value) (A : Around) (outer : List Env) (s : Shared) (H : Hp) (vs : List V) (Q : VK) (E : XK), Room k (A.deeper (envOfC x (defScope st) s.heap.objs.size f cdv)) → sp vs H Q E →
      ∃ t, PSs (cxOf CX0 P w K mg base N x (defScope st) f cdv A outer s H E).nox (defBody st) t ∧ t { nx := fun _ H' => Q .non H', rt := Q } (start N vs) H) : Prom P w K mg base (k + 1) x ps sp := by
  obtain ⟨f, fd, F, m, b⟩ := D.ex
  exact ⟨f, fd, F.ok S len (body f), m, F.kp, b⟩
theorem Df.promG {x : Str} {st : Stmt} {N ps : List Str} {k : Nat} {sp : Sp} (D : Df K mg x st ps) (S : FnScope N ps (defScope st)) (len : ∀ vs H Q E, sp vs H Q E → vs.length = ps.length)
    (body : ∀ (f : Addr) (cdv : Value) (A : Around) (outer : List Env) (s : Shared) (H : Hp) (vs : List V) (Q : VK) (E : XK), A.guards = some [] → Room k (A.deeper (envOfC x (defScope st) s.heap.objs.size f cdv)) → sp vs H Q E →
      ∃ t, PSs (cxOf CX0 P w K mg base N x (defScope st) f cdv A outer s H E).nox (defBody st) t ∧ t { nx := fun _ H' => Q .non H', rt := Q } (start N vs) H) : PromG P w K mg base (k + 1) x ps sp := by
  obtain ⟨f, fd, F, m, b⟩ := D.ex
  exact ⟨f, fd, funG F S len (body f), m, F.kp, b⟩
end
section
variable {X : Cx} {k : Nat} {ps : List Str} {sp : Sp} {x : Str} {p pos : Pos} {e : Expr} {es : List Expr} {t : TA}
theorem pe_p (pr : Prom X.prog X.w X.K X.mg X.base k x ps sp) (hr : Room k X.A) (hg : Gl X x) (ha : PA X (e :: es) t) (hdb : (x == ("__debug__" : Str)) = false := by decide)
    (he : starEach (e :: es) X.env = (false, eval e X.env) :: starEach es X.env := by rfl) (hpl : (backTo pos (starEach es X.env)).any (·.1) = false := by rfl) : PE X (.Call (.Name x p) (e :: es) [] pos) (tCall sp [] E0 t) := by
  obtain ⟨f, fd, G, m, kp, b⟩ := pr.ex
  exact pe_call G hr hg m kp b .nil pass0 ha hdb he hpl
theorem pe_pG (hG : X.A.guards = some []) (pr : PromG X.prog X.w X.K X.mg X.base k x ps sp) (hr : Room k X.A) (hg : Gl X x) (ha : PA X (e :: es) t) (hdb : (x == ("__debug__" : Str)) = false := by decide)
    (he : starEach (e :: es) X.env = (false, eval e X.env) :: starEach es X.env := by rfl) (hpl : (backTo pos (starEach es X.env)).any (·.1) = false := by rfl) : PE X (.Call (.Name x p) (e :: es) [] pos) (tCall sp [] E0 t) := by
  obtain ⟨f, fd, G, m, kp, b⟩ := pr.ex
  exact pe_callG hG G hr hg m kp b ha hdb he hpl
end
abbrev s_is_integer : Stmt := top 14
abbrev s_is_name : Stmt := top 15
abbrev s_is_place : Stmt := top 16
abbrev s_is_kind : Stmt := top 17
abbrev s_is_list : Stmt := top 18
abbrev s_is_view : Stmt := top 19
abbrev s_wrong_view : Stmt := top 20
abbrev s_wrong_recognizer : Stmt := top 21
abbrev s_is_pair : Stmt := top 22
abbrev s_wrong_pair : Stmt := top 23
abbrev s_first_fault : Stmt := top 24
abbrev s_require_views : Stmt := top 25
abbrev s_require_layout : Stmt := top 26
abbrev s_require_place : Stmt := top 27
abbrev s_has : Stmt := top 29
abbrev s_path_of : Stmt := top 30
abbrev s_path : Stmt := top 31
abbrev s_members_of : Stmt := top 33
abbrev s_members : Stmt := top 34
abbrev s_law_fount : Stmt := top 36
abbrev s_law_dip : Stmt := top 37
abbrev s_law_small : Stmt := top 38
abbrev s_law_kind : Stmt := top 39
abbrev s_law_pairs : Stmt := top 40
abbrev s_law_names_of : Stmt := top 41
abbrev s_law_layout : Stmt := top 42
abbrev s_law_has : Stmt := top 43
abbrev s_law_path : Stmt := top 44
abbrev s_law_others_right : Stmt := top 45
abbrev s_law_right : Stmt := top 46
abbrev s_law : Stmt := top 47
def signs : Str := "abcdefghijklmnopqrstuvwxyz0123456789"
/-- what the top has left -/
structure Txt (w : World) (K : PySem.W.Frag) (mg : Str → Option Value) : Prop where
  b_isinstance : mg "isinstance" = none
  b_int : mg "int" = none
  b_bool : mg "bool" = none
  b_str : mg "str" = none
  b_tuple : mg "tuple" = none
  b_list : mg "list" = none
  b_len : mg "len" = none
  b_all : mg "all" = none
  b_enumerate : mg "enumerate" = none
  b_range : mg "range" = none
  b_max : mg "max" = none
  b_min : mg "min" = none
  b_repr : mg "repr" = none
  c_signs : ∃ t, mg "SIGNS" = some (.str signs t)
  c_greatest : ∃ t, mg "GREATEST" = some (.int 1000000000 t)
  c_views : ∃ t, mg "MOST_VIEWS" = some (.int 12 t)
  c_recognizers : ∃ t, mg "MOST_RECOGNIZERS" = some (.int 8 t)
  c_waits : ∃ t, mg "MOST_WAITS" = some (.int 12 t)
  c_beside : ∃ t, mg "MOST_BESIDE" = some (.int 28 t)
  c_axes : ∃ a, mg "AXES" = some (.ref a) ∧ ∀ H, SqT K H a [.str "x", .str "y", .str "any"]
  c_sizes : ∃ (d : Addr) (es : Array DictEntry) (n : Nat), mg "SIZES" = some (.ref d) ∧ KDict K w d es n ∧ (∃ t, PySem.W.nsIn K d "touch" = some (some (.int 0 t))) ∧ (∃ t, PySem.W.nsIn K d "tap" = some (some (.int 2 t))) ∧
    (∃ t, PySem.W.nsIn K d "taps" = some (some (.int 4 t))) ∧ (∃ t, PySem.W.nsIn K d "long" = some (some (.int 2 t))) ∧ (∃ t, PySem.W.nsIn K d "drag" = some (some (.int 2 t))) ∧ ∃ t, PySem.W.nsIn K d "pinch" = some (some (.int 1 t))
  d_is_integer : Df K mg "is_integer" s_is_integer ["value", "first", "last"]
  d_is_name : Df K mg "is_name" s_is_name ["value"]
  d_is_place : Df K mg "is_place" s_is_place ["value"]
  d_is_kind : Df K mg "is_kind" s_is_kind ["value"]
  d_is_list : Df K mg "is_list" s_is_list ["value", "most"]
  d_is_view : Df K mg "is_view" s_is_view ["value", "number"]
  d_wrong_view : Df K mg "wrong_view" s_wrong_view ["views"]
  d_wrong_recognizer : Df K mg "wrong_recognizer" s_wrong_recognizer ["recognizers", "last"]
  d_is_pair : Df K mg "is_pair" s_is_pair ["value", "many", "rising"]
  d_wrong_pair : Df K mg "wrong_pair" s_wrong_pair ["pairs", "many", "rising"]
  d_first_fault : Df K mg "first_fault" s_first_fault ["layout"]
  d_require_views : Df K mg "require_views" s_require_views ["views"]
  d_require_layout : Df K mg "require_layout" s_require_layout ["layout"]
  d_require_place : Df K mg "require_place" s_require_place ["place"]
  d_has : Df K mg "has" s_has ["view", "place"]
  d_path_of : Df K mg "path_of" s_path_of ["views", "place"]
  d_path : Df K mg "path" s_path ["views", "place"]
  d_members_of : Df K mg "members_of" s_members_of ["layout", "place"]
  d_members : Df K mg "members" s_members ["layout", "place"]
  d_law_fount : Df K mg "_law_fount" s_law_fount ["_law_script", "_law_k"]
  d_law_dip : Df K mg "_law_dip" s_law_dip ["_law_fount_here", "_law_many"]
  d_law_small : Df K mg "_law_small" s_law_small ["_law_fount_here", "_law_many"]
  d_law_kind : Df K mg "_law_kind" s_law_kind ["_law_fount_here", "_law_top"]
  d_law_pairs : Df K mg "_law_pairs" s_law_pairs ["_law_fount_here", "_law_many", "_law_is_rising", "_law_most"]
  d_law_names_of : Df K mg "_law_names_of" s_law_names_of ["_law_fount_here", "_law_many"]
  d_law_layout : Df K mg "_law_layout" s_law_layout ["_law_fount_here", "_law_views", "_law_many", "_law_top"]
  d_law_has : Df K mg "_law_has" s_law_has ["_law_view", "_law_place"]
  d_law_path : Df K mg "_law_path" s_law_path ["_law_views", "_law_place"]
  d_law_others_right : Df K mg "_law_others_right" s_law_others_right ["_law_fount_here", "_law_layout_here", "_law_place", "_law_due"]
  d_law_right : Df K mg "_law_right" s_law_right ["_law_fount_here", "_law_layout_here", "_law_places"]
  d_law : Df K mg "law" s_law ["_law_script"]
end TC

/-! The program's checks of arguments, of valid arguments: numbers, names, places, lists. -/
namespace TC
open PySem PySem.Spec PySem.Calls PyProof.Rows L2

theorem vT {p : Prop} [Decidable p] {Q : VK} {H : Hp} (h : p) (q : Q (.bl true) H) : Q (.bl (decide p)) H := by
  rw [decide_eq_true h]
  exact q
theorem vF {p : Prop} [Decidable p] {Q : VK} {H : Hp} (h : ¬ p) (q : Q (.bl false) H) : Q (.bl (decide p)) H := by
  rw [decide_eq_false h]
  exact q
theorem eT {p : Prop} [Decidable p] (h : p) : V.bl (decide p) = .bl true := by rw [decide_eq_true h]
theorem eF {p : Prop} [Decidable p] (h : ¬ p) : V.bl (decide p) = .bl false := by rw [decide_eq_false h]
theorem nT {p : Prop} [Decidable p] (h : p) : V.bl (!decide p) = .bl false := by rw [decide_eq_true h]; rfl
theorem nF {p : Prop} [Decidable p] (h : ¬ p) : V.bl (!decide p) = .bl true := by rw [decide_eq_false h]; rfl
def spInt : Sp := fun vs H Q _ => ∃ (i : Int) (lo hi : V), vs = [.int i, lo, hi] ∧ (lo = .non ∨ ∃ l, lo = .int l ∧ l ≤ i) ∧ (hi = .non ∨ ∃ h, hi = .int h ∧ i ≤ h) ∧ Q (.bl true) H
/-- a list of at most so many items -/
def spList (K : PySem.W.Frag) : Sp := fun vs H Q _ => ∃ (a : Addr) (xs : List V) (n : Int), vs = [.ref a, .int n] ∧ SqL K H a xs ∧ (xs.length : Int) ≤ n ∧ Q (.bl true) H
/-- a name -/
def NameOk (z : Str) : Prop := 1 ≤ z.length ∧ z.length ≤ 8 ∧ ∀ c ∈ z.cps.toList, c ∈ signs.cps.toList
def spName : Sp := fun vs H Q _ => ∃ z : Str, vs = [.str z] ∧ NameOk z ∧ ∀ H', Same H H' → Q (.bl true) H'
def spPlace (K : PySem.W.Frag) : Sp := fun vs H Q _ => ∃ (a : Addr) (x y : Int), vs = [.ref a] ∧ SqT K H a [.int x, .int y] ∧ ∀ H', Same H H' → Q (.bl true) H'
section
variable {P : Program} {w : World} {K : PySem.W.Frag} {mg : Str → Option Value} {base : Heap}
theorem sc_is_integer : FnScope ["value", "first", "last"] ["value", "first", "last"] (defScope s_is_integer) := ⟨rfl, rfl, rfl, by decide +kernel, rfl, by decide +kernel, by decide +kernel⟩
theorem ok_is_integer (T : Txt w K mg) : Prom P w K mg base 1 "is_integer" ["value", "first", "last"] spInt := by
  refine T.d_is_integer.prom sc_is_integer (fun vs H Q E h => ?_) (fun f cdv A outer s H vs Q E hr h => ?_)
  · obtain ⟨i, lo, hi, rfl, _⟩ := h
    rfl
  · obtain ⟨i, lo, hi, rfl, hl, hh, q⟩ := h
    refine ⟨_, pss_cons (ps_if (PW.pt (pw_or (pt_not (pt_val (pe_callB call_isi (by rfl) T.b_isinstance (by decide +kernel) (pa_cons (pv 0) (pa_cons (pe_bltn (v := .ty "int") (by rfl) T.b_int (by decide +kernel) rfl) pa_nil)))))
        (pw_or1 (pt_val (pe_callB call_isi (by rfl) T.b_isinstance (by decide +kernel) (pa_cons (pv 0) (pa_cons (pe_bltn (v := .ty "bool") (by rfl) T.b_bool (by decide +kernel) rfl) pa_nil)))))))
        (pss_one (ps_ret pe_bl)) pss_nil)
      (pss_one (ps_ret (pe_and (pe_or (pe_cmp (pc_isN (pv 1))) (pe_one (pe_cmp (pc_ge (pv 0) (pv 1))))) (pe_one (pe_or (pe_cmp (pc_isN (pv 2))) (pe_one (pe_cmp (pc_le (pv 0) (pv 2)))))))))
      , ?_⟩
    refine ⟨_, rfl, _, _, _, _, _, rfl, .ty "int", .base (.int i), kit_ty (by decide +kernel), true, rfl, ?_⟩
    refine iteF ?_
    refine ⟨_, rfl, _, _, _, _, _, rfl, .ty "bool", .base (.int i), kit_ty (by decide +kernel), false, rfl, ?_⟩
    refine iteF ?_
    have h2 : ∀ Q' : VK, Q' (.bl true) H → tOrV (tIsN (tVar 2)) (tLe (tVar 0) (tVar 2)) [some (.int i), some lo, some hi] H Q' := by
      intro Q' q'
      rcases hh with rfl | ⟨h, rfl, hle⟩
      · exact ⟨_, rfl, true, rfl, iteT q'⟩
      · exact ⟨_, rfl, false, rfl, iteF ⟨_, rfl, _, rfl, _, _, rfl, rfl, vT (Q := Q') hle q'⟩⟩
    rcases hl with rfl | ⟨l, rfl, hle⟩
    · exact ⟨_, rfl, true, rfl, iteT ⟨true, rfl, iteT (h2 _ q)⟩⟩
    · refine ⟨_, rfl, false, rfl, iteF ⟨_, rfl, _, rfl, _, _, rfl, rfl, ?_⟩⟩
      exact ⟨true, eT hle, iteT (h2 _ q)⟩
theorem sc_is_list : FnScope ["value", "most"] ["value", "most"] (defScope s_is_list) := ⟨rfl, rfl, rfl, by decide +kernel, rfl, by decide +kernel, by decide +kernel⟩
theorem ok_is_list (T : Txt w K mg) : Prom P w K mg base 1 "is_list" ["value", "most"] (spList K) := by
  refine T.d_is_list.prom sc_is_list (fun vs H Q E h => ?_) (fun f cdv A outer s H vs Q E hr h => ?_)
  · obtain ⟨a, xs, n, rfl, _⟩ := h
    rfl
  · obtain ⟨a, xs, n, rfl, hx, hn, q⟩ := h
    refine ⟨_, pss_one (ps_ret (pe_and (pe_callB call_isi (by rfl) T.b_isinstance (by decide +kernel) (pa_cons (pv 0) (pa_cons (pe_bltn (v := .ty "list") (by rfl) T.b_list (by decide +kernel) rfl) pa_nil)))
      (pe_one (pe_cmp (pc_le (pe_callB call_len_seq (by rfl) T.b_len PySem.boot_len (pa_cons (pv 0) pa_nil)) (pv 1)))))), ?_⟩
    refine ⟨_, rfl, _, _, _, _, _, rfl, .ty "list", ty_lst hx, kit_ty (by decide +kernel), true, rfl, iteT ?_⟩
    refine ⟨_, rfl, a, xs, rfl, .inl hx, _, rfl, _, _, rfl, rfl, ?_⟩
    exact vT (Q := Q) hn q
/-- a list of True, one more -/
theorem all_step {D : Addr} {H1 H : Hp} {i : Nat} (hD : H D = some (.lst (List.replicate i (.bl true)))) (hs : Same H1 H) (hn : H1 D = none) :
    Same H1 (upd H D (.lst (List.replicate i (.bl true) ++ [.bl true]))) ∧ upd H D (.lst (List.replicate i (.bl true) ++ [.bl true])) D = some (.lst (List.replicate (i + 1) (.bl true))) := by
  refine ⟨fun b o e => ?_, ?_⟩
  · rw [upd_ne (ne_of_none e hn)]
    exact hs b o e
  · rw [upd_same, List.replicate_succ']
theorem all_true (n : Nat) : ((List.replicate n true).map V.bl = List.replicate n (V.bl true)) ∧ (List.replicate n true).all id = true :=
  ⟨List.map_replicate, by simp⟩
theorem all_size {n m : Nat} (h : n < m) (hm : m ≤ sizeLine) : (List.replicate n (V.bl true)).length < sizeLine := by
  rw [List.length_replicate]
  omega
theorem sc_is_name : FnScope ["value", "sign"] ["value"] (defScope s_is_name) := ⟨rfl, rfl, rfl, by decide +kernel, rfl, by decide +kernel, by decide +kernel⟩
theorem ok_is_name (T : Txt w K mg) : Prom P w K mg base 1 "is_name" ["value"] spName := by
  refine T.d_is_name.prom sc_is_name (fun vs H Q E h => ?_) (fun f cdv A outer s H vs Q E hr h => ?_)
  · obtain ⟨z, rfl, _⟩ := h
    rfl
  · obtain ⟨z, rfl, ⟨h1, h8, hc⟩, q⟩ := h
    obtain ⟨ts, ms⟩ := T.c_signs
    refine ⟨_, pss_one (ps_ret (pe_and (pe_callB call_isi (by rfl) T.b_isinstance (by decide +kernel) (pa_cons (pv 0) (pa_cons (pe_bltn (v := .ty "str") (by rfl) T.b_str (by decide +kernel) rfl) pa_nil)))
      (pe_and (pe_chain op_le op_le pe_int (pe_callB call_len_str (by rfl) T.b_len PySem.boot_len (pa_cons (pv 0) pa_nil)) pe_int)
      (pe_one (pe_callB (cr_all rfl) (by rfl) T.b_all (by decide +kernel) (pa_cons
        (pe_lc (own := [("sign", 1)]) (g := gName 1) (tt := tYes) rfl sc_is_name.nd (pi_str (pv 0)) (blkOk_by (N := ["value", "sign"]) (sc := defScope s_is_name) (by decide +kernel))
          (fun _ _ _ _ _ => pg_name (i := 1) sc_is_name.nd rfl (Or.inl rfl)) (fun _ _ _ _ _ => pts_nil) (fun _ _ _ _ _ => pe_cmpR op_in_sign (pv 1) (pe_glob (v := .str signs) (by rfl) ms ⟨_, rfl⟩) (by rfl))) pa_nil)))))), ?_⟩
    refine ⟨_, rfl, _, _, _, _, _, rfl, .ty "str", .base (.str z), kit_ty (by decide +kernel), true, rfl, iteT ?_⟩
    refine ⟨_, rfl, z, rfl, Nat.le_trans h8 (by decide), _, _, rfl, rfl, true, eT (by omega), iteT ?_⟩
    refine ⟨_, _, rfl, rfl, true, eT (by omega), iteT ?_⟩
    refine ⟨_, rfl, z, rfl, fun D hD => lc_it (walk_str (z := z)) (fun i H' => Same H H' ∧ H' D = some (.lst (List.replicate i (.bl true)))) ⟨Same.new hD, upd_same⟩ (fun _ _ _ _ => trivial) ?_ ?_⟩
    · rintro i x H1 H2 hi ⟨s1, d1⟩ ⟨rfl, c, ec, rfl⟩
      refine ⟨rfl, _, rfl, c, signs, rfl, rfl, _, d1, all_size hi (Nat.le_trans h8 (by decide)), ?_⟩
      have hm : c ∈ signs.cps.toList := hc c (by
        have e2 : z.cps.toList[i]? = some c := by rw [Array.getElem?_toList]; exact ec
        exact List.mem_of_getElem? e2)
      show Same H (upd H2 D (.lst (List.replicate i (V.bl true) ++ [V.bl (decide (c ∈ signs.cps.toList))]))) ∧ _
      rw [decide_eq_true hm]
      exact all_step d1 s1 hD
    · rintro H1 ⟨s1, d1⟩
      refine ⟨D, List.replicate z.cps.size true, rfl, .of (by rw [(all_true _).1]; exact d1), ?_⟩
      rw [(all_true _).2]
      exact q _ s1
theorem sc_is_place : FnScope ["value", "part"] ["value"] (defScope s_is_place) := ⟨rfl, rfl, rfl, by decide +kernel, rfl, by decide +kernel, by decide +kernel⟩
theorem ok_is_place (T : Txt w K mg) : Prom P w K mg base 2 "is_place" ["value"] (spPlace K) := by
  have pI := ok_is_integer (P := P) (base := base) T
  refine T.d_is_place.prom sc_is_place (fun vs H Q E h => ?_) (fun f cdv A outer s H vs Q E hr h => ?_)
  · obtain ⟨a, x, y, rfl, _⟩ := h
    rfl
  · obtain ⟨a, x, y, rfl, ht, q⟩ := h
    refine ⟨_, pss_one (ps_ret (pe_and (pe_callB call_isi (by rfl) T.b_isinstance (by decide +kernel) (pa_cons (pv 0) (pa_cons (pe_bltn (v := .ty "tuple") (by rfl) T.b_tuple (by decide +kernel) rfl) pa_nil)))
      (pe_and (pe_cmp (pc_eqI (pe_callB call_len_seq (by rfl) T.b_len PySem.boot_len (pa_cons (pv 0) pa_nil)) pe_int))
      (pe_one (pe_callB (cr_all rfl) (by rfl) T.b_all (by decide +kernel) (pa_cons
        (pe_lc (own := [("part", 1)]) (g := gName 1) (tt := tYes) rfl sc_is_place.nd (pi_tup (pv 0)) (blkOk_by (N := ["value", "part"]) (sc := defScope s_is_place) (by decide +kernel))
          (fun _ _ _ _ _ => pg_name (i := 1) sc_is_place.nd rfl (Or.inl rfl)) (fun _ _ _ _ _ => pts_nil) (fun _ _ _ _ _ => pe_p pI hr (by rfl) (pa_cons (pv 1) (pa_cons pe_non (pa_cons pe_non pa_nil))))) pa_nil)))))), ?_⟩
    refine ⟨_, rfl, _, _, _, _, _, rfl, .ty "tuple", ty_tup ht, kit_ty (by decide +kernel), true, rfl, iteT ?_⟩
    refine ⟨_, rfl, a, _, rfl, .inr ht, _, _, rfl, rfl, true, eT rfl, iteT ?_⟩
    refine ⟨_, rfl, a, rfl, ⟨_, ht⟩, fun D hD => lc_it (walk_tup (K := K) (a := a) (xs := [.int x, .int y])) (fun i H' => Same H H' ∧ H' D = some (.lst (List.replicate i (.bl true)))) ⟨Same.new hD, upd_same⟩ (fun _ _ _ p => p.1.seqT ht) ?_ ?_⟩
    · rintro i v H1 H2 hi ⟨s1, d1⟩ ⟨rfl, ev⟩
      obtain ⟨n, rfl⟩ : ∃ n, v = .int n := by
        match i, ev with
        | 0, ev => exact ⟨x, (Option.some.inj ev).symm⟩
        | 1, ev => exact ⟨y, (Option.some.inj ev).symm⟩
        | i + 2, ev => simp at ev
      exact ⟨rfl, _, rfl, n, _, _, rfl, .inl rfl, .inl rfl, _, d1, all_size hi (show 2 ≤ sizeLine by decide), all_step d1 s1 hD⟩
    · rintro H1 ⟨s1, d1⟩
      refine ⟨D, List.replicate 2 true, rfl, .of (by rw [(all_true _).1]; exact d1), ?_⟩
      exact q _ s1
end
end TC

/-! Flat data; kinds; is_kind. -/
namespace TC
open PySem PySem.Spec PySem.Calls PyProof.Rows L2

/-! ### data without dicts -/
def flatD : PyData → Bool
  | .none | .bool _ | .int _ => true
  | .str x => PyData.strOk x
  | _ => false
theorem flat_canLay : ∀ {ds : List PyData}, (∀ d ∈ ds, PyData.canLay0 d = true) → PyData.canLayAll0 ds = true
  | [], _ => by simp only [PyData.canLayAll0]
  | d :: ds, h => by
    simp only [PyData.canLayAll0, Bool.and_eq_true]
    exact ⟨h d List.mem_cons_self, flat_canLay fun e he => h e (List.mem_cons_of_mem _ he)⟩
theorem flat_depth {n : Nat} : ∀ {ds : List PyData}, (∀ d ∈ ds, PyData.depth d ≤ n) → PyData.depthAll ds ≤ n
  | [], _ => by simp only [PyData.depthAll]; exact Nat.zero_le _
  | d :: ds, h => by
    simp only [PyData.depthAll]
    exact Nat.max_le.mpr ⟨h d List.mem_cons_self, flat_depth fun e he => h e (List.mem_cons_of_mem _ he)⟩
theorem flatD_can {d : PyData} (h : flatD d = true) : PyData.canLay0 d = true ∧ PyData.depth d = 0 := by
  cases d with
  | none => simp only [PyData.canLay0, PyData.depth, and_self]
  | bool b => simp only [PyData.canLay0, PyData.depth, and_self]
  | int i => simp only [PyData.canLay0, PyData.depth, and_self]
  | str x =>
    refine ⟨?_, by simp only [PyData.depth]⟩
    simp only [PyData.canLay0]
    exact h
  | list _ => cases h
  | tuple _ => cases h
  | dict _ => cases h
theorem shaped_of {d : PyData} (h1 : PyData.canLay0 d = true) (h2 : PyData.depth d ≤ 64) : SeqAt.shaped d = true := by
  unfold SeqAt.shaped
  rw [h1, decide_eq_true h2]
  all_goals rfl
theorem shaped_list {n : Nat} {ds : List PyData} (h : ∀ d ∈ ds, PyData.canLay0 d = true ∧ PyData.depth d ≤ n) (hn : n ≤ 63) : SeqAt.shaped (.list ds) = true := by
  refine shaped_of ?_ ?_
  · simp only [PyData.canLay0]
    exact flat_canLay fun d hd => (h d hd).1
  · simp only [PyData.depth]
    have := flat_depth fun d hd => (h d hd).2
    omega
theorem shaped_tuple {n : Nat} {ds : List PyData} (h : ∀ d ∈ ds, PyData.canLay0 d = true ∧ PyData.depth d ≤ n) (hn : n ≤ 63) : SeqAt.shaped (.tuple ds) = true := by
  refine shaped_of ?_ ?_
  · simp only [PyData.canLay0]
    exact flat_canLay fun d hd => (h d hd).1
  · simp only [PyData.depth]
    have := flat_depth fun d hd => (h d hd).2
    omega
theorem flat_all {ds : List PyData} (h : ds.all flatD = true) : ∀ d ∈ ds, PyData.canLay0 d = true ∧ PyData.depth d ≤ 0 := fun d hd => by
  obtain ⟨h1, h2⟩ := flatD_can (List.all_eq_true.mp h d hd)
  exact ⟨h1, Nat.le_of_eq h2⟩
theorem shaped_nilL : SeqAt.shaped (.list []) = true := shaped_list (n := 0) (fun d hd => absurd hd List.not_mem_nil) (by decide)
theorem shaped_nilT : SeqAt.shaped (.tuple []) = true := shaped_tuple (n := 0) (fun d hd => absurd hd List.not_mem_nil) (by decide)
theorem shaped_ints (ns : List Int) : SeqAt.shaped (.list (ns.map .int)) = true := shaped_list (n := 0) (fun d hd => by
  obtain ⟨n, _, rfl⟩ := List.mem_map.mp hd
  exact ⟨by simp only [PyData.canLay0], by simp only [PyData.depth]; exact Nat.le_refl _⟩) (by decide)
theorem eqv_nilL (ds : List PyData) : PyData.eqv (.list ds) (.list []) = ds.isEmpty := by
  cases ds <;> simp only [PyData.eqv, PyData.eqvAll, List.isEmpty]
theorem eqv_consT (d : PyData) (ds : List PyData) : PyData.eqv (.tuple (d :: ds)) (.tuple []) = false := by simp only [PyData.eqv, PyData.eqvAll]

/-! ### kinds -/
inductive Kd where
  | touch | tap (t s : Int) | taps (c t g s : Int) | long (t s : Int) | drag (ax : Str) (s : Int) | pinch (s : Int)
def Kd.word : Kd → Str
  | .touch => "touch"
  | .tap _ _ => "tap"
  | .taps _ _ _ _ => "taps"
  | .long _ _ => "long"
  | .drag _ _ => "drag"
  | .pinch _ => "pinch"
/-- what follows the word but the slop, then the slop -/
def Kd.front : Kd → List PyData
  | .touch => []
  | .tap t _ => [.int t]
  | .taps c t g _ => [.int c, .int t, .int g]
  | .long t _ => [.int t]
  | .drag ax _ => [.str ax]
  | .pinch _ => []
def Kd.last : Kd → List PyData
  | .touch => []
  | .tap _ s => [.int s]
  | .taps _ _ _ s => [.int s]
  | .long _ s => [.int s]
  | .drag _ s => [.int s]
  | .pinch s => [.int s]
def Kd.parts (k : Kd) : List PyData := k.front ++ k.last
def Kd.data (k : Kd) : PyData := .tuple (.str k.word :: k.parts)
def NumOk (lo i hi : Int) : Prop := lo ≤ i ∧ i ≤ hi
def AxOk (ax : Str) : Prop := ax = "x" ∨ ax = "y" ∨ ax = "any"
def Kd.ok : Kd → Prop
  | .touch => True
  | .tap t s => NumOk 1 t 1000000000 ∧ NumOk 0 s 1000000000
  | .taps c t g s => NumOk 2 c 3 ∧ NumOk 1 t 1000000000 ∧ NumOk 1 g 1000000000 ∧ NumOk 0 s 1000000000
  | .long t s => NumOk 1 t 1000000000 ∧ NumOk 0 s 1000000000
  | .drag ax s => AxOk ax ∧ NumOk 0 s 1000000000
  | .pinch s => NumOk 0 s 1000000000
theorem strOk_ax {ax : Str} (h : AxOk ax) : PyData.strOk ax = true := by
  rcases h with rfl | rfl | rfl <;> decide +kernel
theorem Kd.flat {k : Kd} (h : k.ok) : k.parts.all flatD = true := by
  cases k with
  | drag ax s =>
    have := strOk_ax h.1
    simp [Kd.parts, Kd.front, Kd.last, flatD, this]
  | _ => rfl
theorem Kd.wordOk (k : Kd) : PyData.strOk k.word = true := by
  cases k with
  | touch => exact (by decide +kernel : PyData.strOk "touch" = true)
  | tap _ _ => exact (by decide +kernel : PyData.strOk "tap" = true)
  | taps _ _ _ _ => exact (by decide +kernel : PyData.strOk "taps" = true)
  | long _ _ => exact (by decide +kernel : PyData.strOk "long" = true)
  | drag _ _ => exact (by decide +kernel : PyData.strOk "drag" = true)
  | pinch _ => exact (by decide +kernel : PyData.strOk "pinch" = true)
theorem Kd.lastOk {k : Kd} (h : k.ok) : k.parts = [] ∨ ∃ s : Int, k.last = [.int s] ∧ NumOk 0 s 1000000000 := by
  cases k with
  | touch => exact .inl rfl
  | tap t s => exact .inr ⟨s, rfl, h.2⟩
  | taps c t g s => exact .inr ⟨s, rfl, h.2.2.2⟩
  | long t s => exact .inr ⟨s, rfl, h.2⟩
  | drag ax s => exact .inr ⟨s, rfl, h.2⟩
  | pinch s => exact .inr ⟨s, rfl, h⟩
/-- flat data as values -/
def toV : PyData → V
  | .none => .non
  | .bool b => .bl b
  | .int i => .int i
  | .str x => .str x
  | _ => .non
theorem flat_vals {K : PySem.W.Frag} {H : Hp} : ∀ {vs : List V} {ds : List PyData}, ds.all flatD = true → DpAll K H vs ds → vs = ds.map toV
  | [], [], _, _ => rfl
  | v :: vs, d :: ds, h, .cons a b => by
    simp only [List.all_cons, Bool.and_eq_true] at h
    rw [flat_vals h.2 b, List.map_cons]
    congr 1
    cases a with
    | non => rfl
    | bl b => rfl
    | int i => rfl
    | str x => rfl
    | lst _ _ => exact absurd h.1 (by simp [flatD])
    | tup _ _ => exact absurd h.1 (by simp [flatD])
theorem vals_flat {K : PySem.W.Frag} {H : Hp} : ∀ {ds : List PyData}, ds.all flatD = true → DpAll K H (ds.map toV) ds
  | [], _ => .nil
  | d :: ds, h => by
    simp only [List.all_cons, Bool.and_eq_true] at h
    refine .cons ?_ (vals_flat h.2)
    cases d with
    | none => exact .non
    | bool b => exact .bl b
    | int i => exact .int i
    | str x => exact .str x
    | list _ => exact absurd h.1 (by simp [flatD])
    | tuple _ => exact absurd h.1 (by simp [flatD])
    | dict _ => exact absurd h.1 (by simp [flatD])
def spKind (K : PySem.W.Frag) : Sp := fun vs H Q _ => ∃ (v : V) (k : Kd), vs = [v] ∧ Dp K H v k.data ∧ k.ok ∧ ∀ H', Same H H' → Q (.bl true) H'
section
variable {P : Program} {w : World} {K : PySem.W.Frag} {mg : Str → Option Value} {base : Heap}
theorem sc_is_kind : FnScope ["value", "word", "parts", "part"] ["value"] (defScope s_is_kind) := ⟨rfl, rfl, rfl, by decide +kernel, rfl, by decide +kernel, by decide +kernel⟩
theorem ok_is_kind (T : Txt w K mg) : Prom P w K mg base 2 "is_kind" ["value"] (spKind K) := by
  have pI := ok_is_integer (P := P) (base := base) T
  refine T.d_is_kind.prom sc_is_kind (fun vs H Q E h => ?_) (fun f cdv A outer s H vs Q E hr h => ?_)
  · obtain ⟨v, k, rfl, _⟩ := h
    rfl
  · obtain ⟨v, k, rfl, hd, hk, q⟩ := h
    obtain ⟨tg, mG⟩ := T.c_greatest
    obtain ⟨ax, mA, hA⟩ := T.c_axes
    obtain ⟨sd, es, n, mS, hS, z1, z2, z3, z4, z5, z6⟩ := T.c_sizes
    have hsz : ∃ t, PySem.W.nsIn K sd k.word = some (some (.int k.parts.length t)) := by
      cases k <;> assumption
    obtain ⟨a, xs, rfl, ht, hx⟩ := dp_tup hd
    have hfl := Kd.flat hk
    cases hx with
    | @cons x0 xs _ _ hx0 hxs =>
    cases hx0
    have exs := flat_vals hfl hxs
    subst exs
    refine ⟨_, pss_cons (ps_if (PW.pt (pw_or (pt_not (pt_val (pe_callB call_isi (by rfl) T.b_isinstance (by decide +kernel) (pa_cons (pv 0) (pa_cons (pe_bltn (v := .ty "tuple") (by rfl) T.b_tuple (by decide +kernel) rfl) pa_nil)))))
        (pw_or (pt_cmpR (op_eqD hr.units) (pv 0) (pe_tup pa_nil) (nomark _))
        (pw_or1 (pt_not (pt_val (pe_callB call_isi (by rfl) T.b_isinstance (by decide +kernel) (pa_cons (pe_ix ix_tup (pv 0) pe_int (fun _ _ => rfl)) (pa_cons (pe_bltn (v := .ty "str") (by rfl) T.b_str (by decide +kernel) rfl) pa_nil))))))))) (pss_one (ps_ret pe_bl)) pss_nil)
      (pss_cons (ps_asg (pv 0) (pg_star1 (i := 1) (j := 2) rfl sc_is_kind.nd rfl rfl (Or.inl rfl) (Or.inl rfl)))
      (pss_cons (ps_if (PW.pt (pw_or (pt_cmpR (op_notIn_kd hS) (pv 1) (pe_glob (v := .ref sd) (by rfl) mS rfl) (by rfl))
        (pw_or1 (pt_cmp (pc_neI (pe_callB call_len_seq (by rfl) T.b_len PySem.boot_len (pa_cons (pv 2) pa_nil)) (pe_ix ix_kdict (pe_glob (v := .ref sd) (by rfl) mS rfl) (pv 1) (fun _ _ => rfl))))))) (pss_one (ps_ret pe_bl)) pss_nil)
      (pss_cons (ps_if (PW.pt (pw_and (pt_cmpR (op_neD hr.units) (pv 2) (pe_lst pa_nil) (nomark _))
        (pw_and1 (pt_not (pt_val (pe_p pI hr (by rfl) (pa_cons (pe_ix ix_list (pv 2) (pe_un un_neg pe_int) (fun _ _ => rfl)) (pa_cons pe_int (pa_cons (pe_glob (v := .int 1000000000) (by rfl) mG ⟨_, rfl⟩) pa_nil))))))))) (pss_one (ps_ret pe_bl)) pss_nil)
      (pss_cons (ps_match (pv 1)
        (pmc_or (pss_one (ps_ret (pe_p pI hr (by rfl) (pa_cons (pe_ix ix_list (pv 2) pe_int (fun _ _ => rfl)) (pa_cons pe_int (pa_cons (pe_glob (v := .int 1000000000) (by rfl) mG ⟨_, rfl⟩) pa_nil))))))
        (pmc_val (pss_one (ps_ret (pe_and (pe_p pI hr (by rfl) (pa_cons (pe_ix ix_list (pv 2) pe_int (fun _ _ => rfl)) (pa_cons pe_int (pa_cons pe_int pa_nil))))
          (pe_one (pe_callB (cr_all rfl) (by rfl) T.b_all (by decide +kernel) (pa_cons
            (pe_lc (own := [("part", 3)]) (g := gName 3) (tt := tYes) rfl sc_is_kind.nd (pi_list (pe_slice sl_list (pv 2) (po_some pe_int) (po_some pe_int))) (blkOk_by (N := ["value", "word", "parts", "part"]) (sc := defScope s_is_kind) (by decide +kernel))
              (fun _ _ _ _ _ => pg_name (i := 3) sc_is_kind.nd rfl (Or.inl rfl)) (fun _ _ _ _ _ => pts_nil)
              (fun _ _ _ _ _ => pe_p pI hr (by rfl) (pa_cons (pv 3) (pa_cons pe_int (pa_cons (pe_glob (v := .int 1000000000) (by rfl) mG ⟨_, rfl⟩) pa_nil))))) pa_nil))))))
        (pmc_val (pss_one (ps_ret (pe_and (pe_callB call_isi (by rfl) T.b_isinstance (by decide +kernel) (pa_cons (pe_ix ix_list (pv 2) pe_int (fun _ _ => rfl)) (pa_cons (pe_bltn (v := .ty "str") (by rfl) T.b_str (by decide +kernel) rfl) pa_nil)))
          (pe_one (pe_cmpR op_in_seq (pe_ix ix_list (pv 2) pe_int (fun _ _ => rfl)) (pe_glob (v := .ref ax) (by rfl) mA rfl) (by rfl))))))
        pmc_nil))))
      (pss_one (ps_ret pe_bl)))))), ?_⟩
    -- a tuple, not empty, its first item a text
    refine ⟨_, rfl, _, _, _, _, _, rfl, .ty "tuple", ty_tup ht, kit_ty (by decide +kernel), true, rfl, iteF ?_⟩
    refine ⟨_, rfl, Nat.zero_le _, fun p0 n0 => ⟨_, _, (hd.same (Same.new n0)), .tup (.of upd_same) .nil, shaped_tuple (n := 0) (ds := .str k.word :: k.parts) (fun d hd => ?_) (by decide), shaped_nilT, ?_⟩⟩
    · rcases List.mem_cons.mp hd with rfl | hd
      · obtain ⟨h1, h2⟩ := flatD_can (d := .str k.word) k.wordOk
        exact ⟨h1, Nat.le_of_eq h2⟩
      · exact flat_all hfl d hd
    refine ⟨false, congrArg V.bl (eqv_consT _ _), iteF ?_⟩
    have s0 : Same H (upd H p0 (.tup [])) := Same.new n0
    have ht0 := s0.seqT ht
    refine ⟨_, rfl, a, _, _, _, rfl, rfl, ht0, atI_nat (j := 0) rfl, _, _, _, _, _, rfl, .ty "str", .base (.str k.word), kit_ty (by decide +kernel), true, rfl, iteF ?_⟩
    -- word, *parts = value
    refine ⟨_, rfl, a, _, _, rfl, ht0, fun p1 n1 => ?_⟩
    have s1 : Same H (upd (upd H p0 (.tup [])) p1 (.lst (k.parts.map toV))) := s0.trans (Same.new n1)
    have hp1 : (upd (upd H p0 (.tup [])) p1 (.lst (k.parts.map toV))) p1 = some (.lst (k.parts.map toV)) := upd_same
    generalize (upd (upd H p0 (.tup [])) p1 (.lst (k.parts.map toV))) = H1 at s1 hp1
    obtain ⟨tz, hsz⟩ := hsz
    -- the size
    refine ⟨_, rfl, k.word, _, rfl, rfl, hsz, false, rfl, iteF ?_⟩
    refine ⟨_, rfl, p1, _, rfl, .inl (.of hp1), _, rfl, sd, k.word, .int k.parts.length, rfl, rfl, ⟨es, n, _, hS.at_, hS.lit, hsz, ⟨_, rfl⟩⟩, _, _, rfl, rfl, false, ?_, iteF ?_⟩
    · have e1 : ((k.parts.map toV).length : Int) = (k.parts.length : Int) := by rw [List.length_map]
      exact nT e1
    -- the slop
    have last : ∀ D : Ends, (∀ H2, Same H H2 → H2 p1 = some (.lst (k.parts.map toV)) → D.nx [some (V.ref a), some (.str k.word), some (.ref p1), none] H2) →
        tIfS (tAnd (tB (tOp (rNeD K) (tVar 2) (tLst tNil))) (tNot (tB (tCall spInt [] E0 (tCons (tOp (rIxL K) (tVar 2) (tUn (rU fun i => .int (-i)) (tC (.int 1)))) (tCons (tC (.int 0)) (tCons (tC (.int 1000000000)) tNil))))))) (tRet (tC (.bl false))) tNext D
          [some (V.ref a), some (.str k.word), some (.ref p1), none] H1 := by
      intro D hD
      refine ⟨_, rfl, Nat.zero_le _, fun p2 n2 => ⟨.list k.parts, _, .lst (.of ((Same.new n2) p1 _ hp1)) (vals_flat hfl), .lst (.of upd_same) .nil, shaped_list (n := 0) (flat_all hfl) (by decide), shaped_nilL, ?_⟩⟩
      have s2 := s1.trans (Same.new (o := .lst []) n2)
      have hp2 := (Same.new (o := .lst []) n2) p1 _ hp1
      rcases Kd.lastOk hk with e | ⟨sl, e, hs⟩
      · refine ⟨false, by rw [eqv_nilL, e]; rfl, iteF ?_⟩
        exact hD _ s2 hp2
      · have ee : k.parts.map toV = (k.front.map toV) ++ [.int sl] := by
          unfold Kd.parts
          rw [e, List.map_append]
          all_goals rfl
        refine ⟨true, ?_, iteT ?_⟩
        · rw [eqv_nilL]
          unfold Kd.parts
          rw [e]
          cases k.front <;> rfl
        · refine ⟨_, rfl, 1, rfl, p1, _, _, .int sl, rfl, rfl, .of hp2, (by rw [ee]; exact atI_last _ _), sl, _, _, rfl, .inr ⟨0, rfl, hs.1⟩, .inr ⟨_, rfl, hs.2⟩, true, rfl, iteF ?_⟩
          exact hD _ s2 hp2
    refine last _ fun H2 s2 hp2 => ?_
    -- match
    have c1 : ∀ {c : List Str} {t : TS} {r : V → TS} {D : Ends} {σ : L2.St} {z : Str}, z ∈ c → t D σ H2 → tCase c t r (.str z) D σ H2 := fun hm ht => ⟨_, rfl, (if_pos hm).mpr ht⟩
    have c2 : ∀ {c : List Str} {t : TS} {r : V → TS} {D : Ends} {σ : L2.St} {z : Str}, z ∉ c → r (.str z) D σ H2 → tCase c t r (.str z) D σ H2 := fun hm ht => ⟨_, rfl, (if_neg hm).mpr ht⟩
    refine ⟨_, rfl, ?_⟩
    cases k with
    | touch => exact c2 (show ¬ ("touch" : Str) ∈ [("tap" : Str), ("long" : Str)] by decide +kernel) (c2 (show ¬ ("touch" : Str) ∈ [("taps" : Str)] by decide +kernel) (c2 (show ¬ ("touch" : Str) ∈ [("drag" : Str)] by decide +kernel) (q _ s2)))
    | pinch s => exact c2 (show ¬ ("pinch" : Str) ∈ [("tap" : Str), ("long" : Str)] by decide +kernel) (c2 (show ¬ ("pinch" : Str) ∈ [("taps" : Str)] by decide +kernel) (c2 (show ¬ ("pinch" : Str) ∈ [("drag" : Str)] by decide +kernel) (q _ s2)))
    | tap t s => exact c1 (show ("tap" : Str) ∈ [("tap" : Str), ("long" : Str)] by decide +kernel) ⟨_, rfl, p1, _, _, _, rfl, rfl, .of hp2, atI_nat (j := 0) rfl, t, _, _, rfl, .inr ⟨_, rfl, hk.1.1⟩, .inr ⟨_, rfl, hk.1.2⟩, q _ s2⟩
    | long t s => exact c1 (show ("long" : Str) ∈ [("tap" : Str), ("long" : Str)] by decide +kernel) ⟨_, rfl, p1, _, _, _, rfl, rfl, .of hp2, atI_nat (j := 0) rfl, t, _, _, rfl, .inr ⟨_, rfl, hk.1.1⟩, .inr ⟨_, rfl, hk.1.2⟩, q _ s2⟩
    | drag ax' s =>
      refine c2 (show ¬ ("drag" : Str) ∈ [("tap" : Str), ("long" : Str)] by decide +kernel) (c2 (show ¬ ("drag" : Str) ∈ [("taps" : Str)] by decide +kernel) (c1 (show ("drag" : Str) ∈ [("drag" : Str)] by decide +kernel) ?_))
      have hin : inV (.str ax') [.str "x", .str "y", .str "any"] = true := by
        rcases hk.1 with rfl | rfl | rfl <;> decide +kernel
      refine ⟨_, rfl, p1, _, _, _, rfl, rfl, .of hp2, atI_nat (j := 0) rfl, _, _, _, _, _, rfl, .ty "str", .base (.str ax'), kit_ty (by decide +kernel), true, rfl, iteT ?_⟩
      refine ⟨_, rfl, p1, _, _, _, rfl, rfl, .of hp2, atI_nat (j := 0) rfl, ax, _, rfl, .inr (hA _), rfl, rfl, ?_⟩
      show Q (.bl (inV (.str ax') [.str "x", .str "y", .str "any"])) H2
      rw [hin]
      exact q _ s2
    | taps c t g s =>
      refine c2 (show ¬ ("taps" : Str) ∈ [("tap" : Str), ("long" : Str)] by decide +kernel) (c1 (show ("taps" : Str) ∈ [("taps" : Str)] by decide +kernel) ?_)
      refine ⟨_, rfl, p1, _, _, _, rfl, rfl, .of hp2, atI_nat (j := 0) rfl, c, _, _, rfl, .inr ⟨_, rfl, hk.1.1⟩, .inr ⟨_, rfl, hk.1.2⟩, true, rfl, iteT ?_⟩
      have ecut : cutV ((Kd.taps c t g s).parts.map toV) (some 1) (some 3) = [.int t, .int g] := rfl
      refine ⟨_, rfl, 1, rfl, 3, rfl, p1, _, rfl, .of hp2, fun p3 n3 => ⟨p3, rfl, ⟨_, .of upd_same⟩, fun D hD => ?_⟩⟩
      rw [ecut] at hD ⊢
      have s3 : Same H (upd H2 p3 (.lst [.int t, .int g])) := s2.trans (Same.new n3)
      have h3 : (upd H2 p3 (.lst [.int t, .int g])) p3 = some (.lst [.int t, .int g]) := upd_same
      generalize upd H2 p3 (.lst [.int t, .int g]) = H3 at hD s3 h3 ⊢
      refine lc_it (walk_list (K := K) (a := p3) (xs := [.int t, .int g])) (fun i H' => Same H3 H' ∧ H' D = some (.lst (List.replicate i (.bl true)))) ⟨Same.new hD, upd_same⟩ (fun _ _ _ p => .of (p.1 _ _ h3)) ?_ ?_
      · rintro i v H4 H5 hi ⟨s4, d4⟩ ⟨rfl, ev⟩
        obtain ⟨n, rfl, hn⟩ : ∃ n, v = .int n ∧ NumOk 1 n 1000000000 := by
          match i, ev with
          | 0, ev => exact ⟨t, (Option.some.inj ev).symm, hk.2.1⟩
          | 1, ev => exact ⟨g, (Option.some.inj ev).symm, hk.2.2.1⟩
          | i + 2, ev => simp at ev
        exact ⟨rfl, _, rfl, n, _, _, rfl, .inr ⟨_, rfl, hn.1⟩, .inr ⟨_, rfl, hn.2⟩, _, d4, all_size hi (show 2 ≤ sizeLine by decide), all_step d4 s4 hD⟩
      · rintro H4 ⟨s4, d4⟩
        refine ⟨D, List.replicate 2 true, rfl, .of (by rw [(all_true _).1]; exact d4), ?_⟩
        exact q _ (s3.trans s4)
end
end TC

/-! Layouts as data; views and pairs checked. -/
namespace TC
open PySem PySem.Spec PySem.Calls PyProof.Rows L2

structure Vw where
  p : Int
  l : Int
  t : Int
  r : Int
  b : Int
def Vw.ints (v : Vw) : List Int := [v.p, v.l, v.t, v.r, v.b]
def Vw.data (v : Vw) : PyData := .tuple (v.ints.map .int)
def Vw.ok (v : Vw) (n : Int) : Prop := 0 ≤ v.p ∧ v.p < n ∧ v.l < v.r ∧ v.t < v.b
def VsOk (vs : List Vw) : Prop := vs.length ≤ 12 ∧ ∀ (i : Nat) (v : Vw), vs[i]? = some v → v.ok ((i : Int) + 1)
structure Rc where
  name : Str
  view : Int
  kind : Kd
def Rc.data (r : Rc) : PyData := .tuple [.str r.name, .int r.view, r.kind.data]
def RsOk (n : Nat) (rs : List Rc) : Prop := rs.length ≤ 8 ∧ (rs.map (·.name)).Nodup ∧ ∀ r ∈ rs, NameOk r.name ∧ NumOk 0 r.view n ∧ r.kind.ok
abbrev Pr := Int × Int
def prData (p : Pr) : PyData := .tuple ([p.1, p.2].map .int)
def PrOk (m : Int) (rising : Bool) (p : Pr) : Prop := NumOk 0 p.1 (m - 1) ∧ NumOk 0 p.2 (m - 1) ∧ (p.1 < p.2 ∨ rising = false ∧ p.2 < p.1)
def PrLt (p q : Pr) : Prop := p.1 < q.1 ∨ p.1 = q.1 ∧ p.2 < q.2
def PsOk (m : Int) (rising : Bool) (ps : List Pr) : Prop := (∀ p ∈ ps, PrOk m rising p) ∧ ∀ (i : Nat) (p q : Pr), ps[i]? = some p → ps[i + 1]? = some q → PrLt p q
structure Ly where
  vs : List Vw
  rs : List Rc
  ws : List Pr
  bs : List Pr
def vsData (vs : List Vw) : PyData := .list (vs.map Vw.data)
def rsData (rs : List Rc) : PyData := .list (rs.map Rc.data)
def psData (ps : List Pr) : PyData := .list (ps.map prData)
def Ly.data (y : Ly) : PyData := .tuple [vsData y.vs, rsData y.rs, psData y.ws, psData y.bs]
def Ly.ok (y : Ly) : Prop := VsOk y.vs ∧ RsOk y.vs.length y.rs ∧ (y.ws.length ≤ 12 ∧ PsOk y.rs.length false y.ws) ∧ (y.bs.length ≤ 28 ∧ PsOk y.rs.length true y.bs)

def spView (K : PySem.W.Frag) : Sp := fun vs H Q _ => ∃ (v : V) (vw : Vw) (n : Int), vs = [v, .int n] ∧ Dp K H v vw.data ∧ vw.ok n ∧ ∀ H', Same H H' → Q (.bl true) H'
def spWrongView (K : PySem.W.Frag) : Sp := fun vs H Q _ => ∃ (v : V) (ws : List Vw), vs = [v] ∧ Dp K H v (vsData ws) ∧ VsOk ws ∧ ∀ H', Same H H' → Q .non H'
def spPair (K : PySem.W.Frag) : Sp := fun vs H Q _ => ∃ (v : V) (p : Pr) (m : Int) (b : Bool), vs = [v, .int m, .bl b] ∧ Dp K H v (prData p) ∧ PrOk m b p ∧ ∀ H', Same H H' → Q (.bl true) H'
def spWrongPair (K : PySem.W.Frag) : Sp := fun vs H Q _ => ∃ (v : V) (ps : List Pr) (m : Int) (b : Bool), vs = [v, .int m, .bl b] ∧ Dp K H v (psData ps) ∧ PsOk m b ps ∧ ∀ H', Same H H' → Q .non H'
section
variable {P : Program} {w : World} {K : PySem.W.Frag} {mg : Str → Option Value} {base : Heap}
theorem sc_is_view : FnScope ["value", "number", "parent", "left", "top", "right", "bottom", "part"] ["value", "number"] (defScope s_is_view) := ⟨rfl, rfl, rfl, by decide +kernel, rfl, by decide +kernel, by decide +kernel⟩
theorem ok_is_view (T : Txt w K mg) : Prom P w K mg base 2 "is_view" ["value", "number"] (spView K) := by
  have pI := ok_is_integer (P := P) (base := base) T
  refine T.d_is_view.prom sc_is_view (fun vs H Q E h => ?_) (fun f cdv A outer s H vs Q E hr h => ?_)
  · obtain ⟨v, vw, n, rfl, _⟩ := h
    rfl
  · obtain ⟨v, vw, n, rfl, hd, ⟨h0, h1, h2, h3⟩, q⟩ := h
    obtain ⟨a, rfl, ht⟩ := dp_tints hd
    refine ⟨_, pss_cons (ps_if (PW.pt (pw_or (pt_not (pt_val (pe_callB call_isi (by rfl) T.b_isinstance (by decide +kernel) (pa_cons (pv 0) (pa_cons (pe_bltn (v := .ty "tuple") (by rfl) T.b_tuple (by decide +kernel) rfl) pa_nil)))))
        (pw_or (pt_cmp (pc_neI (pe_callB call_len_seq (by rfl) T.b_len PySem.boot_len (pa_cons (pv 0) pa_nil)) pe_int))
        (pw_or1 (pt_not (pt_val (pe_callB (cr_all rfl) (by rfl) T.b_all (by decide +kernel) (pa_cons
          (pe_lc (own := [("part", 7)]) (g := gName 7) (tt := tYes) rfl sc_is_view.nd (pi_tup (pv 0)) (blkOk_by (N := ["value", "number", "parent", "left", "top", "right", "bottom", "part"]) (sc := defScope s_is_view) (by decide +kernel))
            (fun _ _ _ _ _ => pg_name (i := 7) sc_is_view.nd rfl (Or.inl rfl)) (fun _ _ _ _ _ => pts_nil) (fun _ _ _ _ _ => pe_p pI hr (by rfl) (pa_cons (pv 7) (pa_cons pe_non (pa_cons pe_non pa_nil))))) pa_nil)))))))) (pss_one (ps_ret pe_bl)) pss_nil)
      (pss_cons (ps_asg (pv 0) (pg_tup rfl (pgs_cons (pg_name (i := 2) sc_is_view.nd rfl (Or.inl rfl)) (pgs_cons (pg_name (i := 3) sc_is_view.nd rfl (Or.inl rfl)) (pgs_cons (pg_name (i := 4) sc_is_view.nd rfl (Or.inl rfl))
        (pgs_cons (pg_name (i := 5) sc_is_view.nd rfl (Or.inl rfl)) (pgs_cons (pg_name (i := 6) sc_is_view.nd rfl (Or.inl rfl)) pgs_nil)))))))
      (pss_one (ps_ret (pe_and (pe_chain op_le op_lt pe_int (pv 2) (pv 1)) (pe_and (pe_cmp (pc_lt (pv 3) (pv 5))) (pe_one (pe_cmp (pc_lt (pv 4) (pv 6)))))))))
      , ?_⟩
    refine ⟨_, rfl, _, _, _, _, _, rfl, .ty "tuple", ty_tup ht, kit_ty (by decide +kernel), true, rfl, iteF ?_⟩
    refine ⟨_, rfl, a, _, rfl, .inr ht, _, _, rfl, rfl, false, rfl, iteF ?_⟩
    refine ⟨_, rfl, a, rfl, ⟨_, ht⟩, fun D hD => lc_it (walk_tup (K := K) (a := a) (xs := vw.ints.map V.int)) (fun i H' => Same H H' ∧ H' D = some (.lst (List.replicate i (.bl true)))) ⟨Same.new hD, upd_same⟩ (fun _ _ _ p => p.1.seqT ht) ?_ ?_⟩
    · rintro i v H1 H2 hi ⟨s1, d1⟩ ⟨rfl, ev⟩
      obtain ⟨z, _, rfl⟩ := List.mem_map.mp (List.mem_of_getElem? ev)
      exact ⟨rfl, _, rfl, z, _, _, rfl, .inl rfl, .inl rfl, _, d1, all_size hi (show 5 ≤ sizeLine by decide), all_step d1 s1 hD⟩
    · rintro H1 ⟨s1, d1⟩
      refine ⟨D, List.replicate 5 true, rfl, .of (by rw [(all_true _).1]; exact d1), true, rfl, iteF ?_⟩
      refine ⟨_, rfl, a, _, rfl, s1.seqT ht, rfl, _, _, rfl, _, _, rfl, _, _, rfl, _, _, rfl, _, _, rfl, rfl, ?_⟩
      refine ⟨_, rfl, _, _, rfl, rfl, true, eT h0, iteT ⟨_, rfl, _, _, rfl, rfl, true, eT h1, iteT ?_⟩⟩
      refine ⟨_, rfl, _, rfl, _, _, rfl, rfl, true, eT h2, iteT ?_⟩
      exact ⟨_, rfl, _, rfl, _, _, rfl, rfl, vT (Q := Q) h3 (q _ s1)⟩
theorem sc_wrong_view : FnScope ["views", "index", "view"] ["views"] (defScope s_wrong_view) := ⟨rfl, rfl, rfl, by decide +kernel, rfl, by decide +kernel, by decide +kernel⟩
theorem ok_wrong_view (T : Txt w K mg) : Prom P w K mg base 3 "wrong_view" ["views"] (spWrongView K) := by
  have pI := ok_is_view (P := P) (base := base) T
  refine T.d_wrong_view.prom sc_wrong_view (fun vs H Q E h => ?_) (fun f cdv A outer s H vs Q E hr h => ?_)
  · obtain ⟨v, ws, rfl, _⟩ := h
    rfl
  · obtain ⟨v, ws, rfl, hd, ⟨_, hok⟩, q⟩ := h
    obtain ⟨a, xs, rfl, hl, hx⟩ := dp_lst hd
    refine ⟨_, pss_cons (ps_for PassesOwn.never rfl (pi_enum (by rfl) T.b_enumerate (pa_cons (pv 0) pa_nil)) (pg_tup rfl (pgs_cons (pg_name (i := 1) sc_wrong_view.nd rfl (Or.inl rfl)) (pgs_cons (pg_name (i := 2) sc_wrong_view.nd rfl (Or.inl rfl)) pgs_nil)))
        (pss_one (ps_if (pt_not (pt_val (pe_p pI hr (by rfl) (pa_cons (pv 2) (pa_cons (pe_op op_add (pv 1) pe_int) pa_nil))))) (pss_one (ps_ret (pv 1))) pss_nil)))
      (pss_one (ps_ret pe_non)), ?_⟩
    refine ⟨_, rfl, a, xs, rfl, hl, for_it walk_enum (fun i σ H' => Same H H' ∧ ∃ s1 s2, σ = [some (.ref a), s1, s2]) ⟨Same.refl H, none, none, rfl⟩ (fun _ _ _ _ p => p.1.seq hl) ?_ ?_⟩
    · rintro i x σ H1 H2 hi ⟨s1, z1, z2, rfl⟩ ⟨t, x0, y, rfl, nt, rfl, e0, ey⟩
      cases e0
      have s2 := s1.trans (Same.new (o := .tup [.int (i : Nat), y]) nt)
      refine ⟨t, _, rfl, .of upd_same, rfl, _, _, rfl, _, _, rfl, rfl, ?_⟩
      obtain ⟨d, ed, hy⟩ := dp_get hx ey
      rw [List.getElem?_map] at ed
      cases ev : ws[i]? with
      | none =>
        rw [ev] at ed
        cases ed
      | some vw =>
        rw [ev] at ed
        cases ed
        refine ⟨_, rfl, _, rfl, _, _, rfl, rfl, _, vw, _, rfl, hy.same s2, hok i vw ev, fun H3 s3 => ⟨true, rfl, iteF ?_⟩⟩
        exact ⟨s2.trans s3, _, _, rfl⟩
    · rintro σ H1 ⟨s1, _⟩
      exact q _ s1
theorem sc_is_pair : FnScope ["value", "many", "rising", "part"] ["value", "many", "rising"] (defScope s_is_pair) := ⟨rfl, rfl, rfl, by decide +kernel, rfl, by decide +kernel, by decide +kernel⟩
theorem ok_is_pair (T : Txt w K mg) : Prom P w K mg base 2 "is_pair" ["value", "many", "rising"] (spPair K) := by
  have pI := ok_is_integer (P := P) (base := base) T
  refine T.d_is_pair.prom sc_is_pair (fun vs H Q E h => ?_) (fun f cdv A outer s H vs Q E hr h => ?_)
  · obtain ⟨v, p, m, b, rfl, _⟩ := h
    rfl
  · obtain ⟨v, p, m, b, rfl, hd, ⟨h0, h1, h2⟩, q⟩ := h
    obtain ⟨a, rfl, ht⟩ := dp_tints hd
    refine ⟨_, pss_cons (ps_if (PW.pt (pw_or (pt_not (pt_val (pe_callB call_isi (by rfl) T.b_isinstance (by decide +kernel) (pa_cons (pv 0) (pa_cons (pe_bltn (v := .ty "tuple") (by rfl) T.b_tuple (by decide +kernel) rfl) pa_nil)))))
        (pw_or (pt_cmp (pc_neI (pe_callB call_len_seq (by rfl) T.b_len PySem.boot_len (pa_cons (pv 0) pa_nil)) pe_int))
        (pw_or1 (pt_not (pt_val (pe_callB (cr_all rfl) (by rfl) T.b_all (by decide +kernel) (pa_cons
          (pe_lc (own := [("part", 3)]) (g := gName 3) (tt := tYes) rfl sc_is_pair.nd (pi_tup (pv 0)) (blkOk_by (N := ["value", "many", "rising", "part"]) (sc := defScope s_is_pair) (by decide +kernel))
            (fun _ _ _ _ _ => pg_name (i := 3) sc_is_pair.nd rfl (Or.inl rfl)) (fun _ _ _ _ _ => pts_nil) (fun _ _ _ _ _ => pe_p pI hr (by rfl) (pa_cons (pv 3) (pa_cons pe_int (pa_cons (pe_op op_sub (pv 1) pe_int) pa_nil))))) pa_nil)))))))) (pss_one (ps_ret pe_bl)) pss_nil)
      (pss_one (ps_ret (pe_or (pe_cmp (pc_lt (pe_ix ix_tup (pv 0) pe_int (fun _ _ => rfl)) (pe_ix ix_tup (pv 0) pe_int (fun _ _ => rfl))))
        (pe_one (pe_and (pe_not (pv 2)) (pe_one (pe_cmp (pc_gt (pe_ix ix_tup (pv 0) pe_int (fun _ _ => rfl)) (pe_ix ix_tup (pv 0) pe_int (fun _ _ => rfl)))))))))), ?_⟩
    refine ⟨_, rfl, _, _, _, _, _, rfl, .ty "tuple", ty_tup ht, kit_ty (by decide +kernel), true, rfl, iteF ?_⟩
    refine ⟨_, rfl, a, _, rfl, .inr ht, _, _, rfl, rfl, false, rfl, iteF ?_⟩
    refine ⟨_, rfl, a, rfl, ⟨_, ht⟩, fun D hD => lc_it (walk_tup (K := K) (a := a) (xs := [p.1, p.2].map V.int)) (fun i H' => Same H H' ∧ H' D = some (.lst (List.replicate i (.bl true)))) ⟨Same.new hD, upd_same⟩ (fun _ _ _ p => p.1.seqT ht) ?_ ?_⟩
    · rintro i v H1 H2 hi ⟨s1, d1⟩ ⟨rfl, ev⟩
      obtain ⟨z, hz, rfl⟩ := List.mem_map.mp (List.mem_of_getElem? ev)
      have hn : NumOk 0 z (m - 1) := by
        rcases List.mem_cons.mp hz with rfl | hz
        · exact h0
        · rw [List.mem_singleton.mp hz]
          exact h1
      exact ⟨rfl, _, rfl, _, rfl, _, _, rfl, rfl, z, _, _, rfl, .inr ⟨_, rfl, hn.1⟩, .inr ⟨_, rfl, hn.2⟩, _, d1, all_size hi (show 2 ≤ sizeLine by decide), all_step d1 s1 hD⟩
    · rintro H1 ⟨s1, d1⟩
      refine ⟨D, List.replicate 2 true, rfl, .of (by rw [(all_true _).1]; exact d1), true, rfl, iteF ?_⟩
      have ht1 := s1.seqT ht
      refine ⟨_, rfl, a, _, _, _, rfl, rfl, ht1, atI_nat (j := 0) rfl, _, rfl, a, _, _, _, rfl, rfl, ht1, atI_nat (j := 1) rfl, _, _, rfl, rfl, ?_⟩
      by_cases hlt : p.1 < p.2
      · exact ⟨true, eT hlt, iteT (q _ s1)⟩
      · rcases h2 with h2 | ⟨rfl, h2⟩
        · exact absurd h2 hlt
        · refine ⟨false, eF hlt, iteF ?_⟩
          refine ⟨_, rfl, false, rfl, true, rfl, iteT ?_⟩
          exact ⟨_, rfl, a, _, _, _, rfl, rfl, ht1, atI_nat (j := 0) rfl, _, rfl, a, _, _, _, rfl, rfl, ht1, atI_nat (j := 1) rfl, _, _, rfl, rfl, vT (Q := Q) h2 (q _ s1)⟩
theorem sc_wrong_pair : FnScope ["pairs", "many", "rising", "index", "pair"] ["pairs", "many", "rising"] (defScope s_wrong_pair) := ⟨rfl, rfl, rfl, by decide +kernel, rfl, by decide +kernel, by decide +kernel⟩
theorem ok_wrong_pair (T : Txt w K mg) : Prom P w K mg base 3 "wrong_pair" ["pairs", "many", "rising"] (spWrongPair K) := by
  have pI := ok_is_pair (P := P) (base := base) T
  refine T.d_wrong_pair.prom sc_wrong_pair (fun vs H Q E h => ?_) (fun f cdv A outer s H vs Q E hr h => ?_)
  · obtain ⟨v, ws, m, b, rfl, _⟩ := h
    rfl
  · obtain ⟨v, ps, m, b, rfl, hd, ⟨hok, hup⟩, q⟩ := h
    obtain ⟨a, xs, rfl, hl, hx⟩ := dp_lst hd
    refine ⟨_, pss_cons (ps_for PassesOwn.never rfl (pi_enum (by rfl) T.b_enumerate (pa_cons (pv 0) pa_nil)) (pg_tup rfl (pgs_cons (pg_name (i := 3) sc_wrong_pair.nd rfl (Or.inl rfl)) (pgs_cons (pg_name (i := 4) sc_wrong_pair.nd rfl (Or.inl rfl)) pgs_nil)))
        (pss_one (ps_if (PW.pt (pw_or (pt_not (pt_val (pe_p pI hr (by rfl) (pa_cons (pv 4) (pa_cons (pv 1) (pa_cons (pv 2) pa_nil))))))
          (pw_or1 (PW.pt (pw_and (pt_cmp (pc_gt (pv 3) pe_int)) (pw_and1 (pt_cmpR (op_leT hr.units0) (pv 4) (pe_ix ix_list (pv 0) (pe_op op_sub (pv 3) pe_int) (fun _ _ => rfl)) (nomark _))))))))
          (pss_one (ps_ret (pv 3))) pss_nil)))
      (pss_one (ps_ret pe_non)), ?_⟩
    refine ⟨_, rfl, a, xs, rfl, hl, for_it walk_enum (fun i σ H' => Same H H' ∧ ∃ s1 s2, σ = [some (.ref a), some (.int m), some (.bl b), s1, s2]) ⟨Same.refl H, none, none, rfl⟩ (fun _ _ _ _ p => p.1.seq hl) ?_ ?_⟩
    · rintro i x σ H1 H2 hi ⟨s1, z1, z2, rfl⟩ ⟨t, x0, y, rfl, nt, rfl, e0, ey⟩
      cases e0
      have s2 := s1.trans (Same.new (o := .tup [.int (i : Nat), y]) nt)
      refine ⟨t, _, rfl, .of upd_same, rfl, _, _, rfl, _, _, rfl, rfl, ?_⟩
      obtain ⟨d, ed, hy⟩ := dp_get hx ey
      rw [List.getElem?_map] at ed
      cases ep : ps[i]? with
      | none =>
        rw [ep] at ed
        cases ed
      | some p =>
        rw [ep] at ed
        cases ed
        refine ⟨_, rfl, _, rfl, _, rfl, _, p, _, _, rfl, hy.same s2, hok p (List.mem_of_getElem? ep), fun H3 s3 => ⟨true, rfl, iteF ?_⟩⟩
        have s4 := s2.trans s3
        refine ⟨_, rfl, _, _, rfl, rfl, ?_⟩
        cases i with
        | zero => exact ⟨false, rfl, iteF (iteF ⟨s4, _, _, rfl⟩)⟩
        | succ i =>
          refine ⟨true, eT (by omega), iteT ?_⟩
          have hi' : i < xs.length := by omega
          obtain ⟨d', ed', hy'⟩ := dp_get hx (List.getElem?_eq_getElem hi')
          rw [List.getElem?_map] at ed'
          cases ep' : ps[i]? with
          | none =>
            rw [ep'] at ed'
            cases ed'
          | some p' =>
            rw [ep'] at ed'
            cases ed'
            obtain ⟨ay, rfl, hty⟩ := dp_tints (hy.same s4)
            obtain ⟨ay', eay', hty'⟩ := dp_tints (hy'.same s4)
            have hlt := hup i p' p ep' ep
            refine ⟨_, rfl, _, rfl, _, rfl, _, _, rfl, rfl, a, xs, _, xs[i], rfl, rfl, s4.seq hl, ?_, ay, ay', [p.1, p.2], [p'.1, p'.2], rfl, eay', hty, hty', false, ?_, s4, _, _, rfl⟩
            · have e1 : ((i + 1 : Nat) : Int) - 1 = (i : Int) := by omega
              rw [e1]
              exact atI_nat (List.getElem?_eq_getElem hi')
            · show V.bl (if decide (p.1 = p'.1) = true then (if decide (p.2 = p'.2) = true then _ else decide (p.2 ≤ p'.2)) else decide (p.1 ≤ p'.1)) = V.bl false
              rcases hlt with h | ⟨h, h'⟩
              · rw [if_neg (by rw [decide_eq_true_eq]; omega)]
                exact eF (by omega)
              · rw [if_pos (by rw [decide_eq_true_eq]; omega), if_neg (by rw [decide_eq_true_eq]; omega)]
                exact eF (by omega)
    · rintro σ H1 ⟨s1, _⟩
      exact q _ s1
end
end TC

/-! Recognizers and layouts checked; what must be raised is never raised. -/
namespace TC
open PySem PySem.Spec PySem.Calls PyProof.Rows L2

def spWrongRec (K : PySem.W.Frag) : Sp := fun vs H Q _ => ∃ (v : V) (rs : List Rc) (n : Nat), vs = [v, .int n] ∧ Dp K H v (rsData rs) ∧ RsOk n rs ∧ ∀ H', Same H H' → Q .non H'
def spFault (K : PySem.W.Frag) : Sp := fun vs H Q _ => ∃ (v : V) (y : Ly), vs = [v] ∧ Dp K H v y.data ∧ y.ok ∧ ∀ H', Same H H' → Q .non H'
def spReqViews (K : PySem.W.Frag) : Sp := fun vs H Q _ => ∃ (v : V) (ws : List Vw), vs = [v] ∧ Dp K H v (vsData ws) ∧ VsOk ws ∧ ∀ H', Same H H' → Q .non H'
def spReqPlace (K : PySem.W.Frag) : Sp := fun vs H Q _ => ∃ (a : Addr) (x y : Int), vs = [.ref a] ∧ SqT K H a [.int x, .int y] ∧ ∀ H', Same H H' → Q .non H'
section
variable {P : Program} {w : World} {K : PySem.W.Frag} {mg : Str → Option Value} {base : Heap}
theorem sc_wrong_recognizer : FnScope ["recognizers", "last", "names", "index", "item"] ["recognizers", "last"] (defScope s_wrong_recognizer) := ⟨rfl, rfl, rfl, by decide +kernel, rfl, by decide +kernel, by decide +kernel⟩
theorem ok_wrong_recognizer (T : Txt w K mg) : Prom P w K mg base 3 "wrong_recognizer" ["recognizers", "last"] (spWrongRec K) := by
  have pI := ok_is_integer (P := P) (base := base) T
  have pN := ok_is_name (P := P) (base := base) T
  have pK := ok_is_kind (P := P) (base := base) T
  refine T.d_wrong_recognizer.prom sc_wrong_recognizer (fun vs H Q E h => ?_) (fun f cdv A outer s H vs Q E hr h => ?_)
  · obtain ⟨v, rs, n, rfl, _⟩ := h
    rfl
  · obtain ⟨v, rs, n, rfl, hd, ⟨h8, hnd, hok⟩, q⟩ := h
    obtain ⟨a, xs, rfl, hl, hx⟩ := dp_lst hd
    have hu := hu_of hr
    have hr1 : Room 1 _ := hr.mono (by decide)
    refine ⟨_, pss_cons (ps_set (i := 2) sc_wrong_recognizer.nd rfl (Or.inl rfl) pe_dnewK)
      (pss_cons (ps_for PassesOwn.never rfl (pi_enum (by rfl) T.b_enumerate (pa_cons (pv 0) pa_nil)) (pg_tup rfl (pgs_cons (pg_name (i := 3) sc_wrong_recognizer.nd rfl (Or.inl rfl)) (pgs_cons (pg_name (i := 4) sc_wrong_recognizer.nd rfl (Or.inl rfl)) pgs_nil)))
        (pss_cons (ps_if (PW.pt (pw_or (pt_not (pt_val (pe_callB call_isi (by rfl) T.b_isinstance (by decide +kernel) (pa_cons (pv 4) (pa_cons (pe_bltn (v := .ty "tuple") (by rfl) T.b_tuple (by decide +kernel) rfl) pa_nil)))))
            (pw_or (pt_cmp (pc_neI (pe_callB call_len_seq (by rfl) T.b_len PySem.boot_len (pa_cons (pv 4) pa_nil)) pe_int))
            (pw_or (pt_not (pt_val (pe_p pN hr1 (by rfl) (pa_cons (pe_ix ix_tup (pv 4) pe_int (fun _ _ => rfl)) pa_nil))))
            (pw_or1 (pt_cmp (pc_din hu (pe_ix ix_tup (pv 4) pe_int (fun _ _ => rfl)) (pv 2)))))))) (pss_one (ps_ret (pv 3))) pss_nil)
        (pss_cons (ps_if (PW.pt (pw_or (pt_not (pt_val (pe_p pI hr1 (by rfl) (pa_cons (pe_ix ix_tup (pv 4) pe_int (fun _ _ => rfl)) (pa_cons pe_int (pa_cons (pv 1) pa_nil))))))
            (pw_or1 (pt_not (pt_val (pe_p pK hr (by rfl) (pa_cons (pe_ix ix_tup (pv 4) pe_int (fun _ _ => rfl)) pa_nil))))))) (pss_one (ps_ret (pv 3))) pss_nil)
        (pss_one (ps_dput hu (pv 2) (pe_ix ix_tup (pv 4) pe_int (fun _ _ => rfl)) (pv 3) rfl)))))
      (pss_one (ps_ret pe_non))), ?_⟩
    intro dn nn
    have sD : Same H (upd H dn (.dK [])) := Same.new nn
    refine ⟨_, rfl, a, xs, rfl, sD.seq hl, for_it walk_enum (fun i σ H' => Same H H' ∧ ∃ (kvs : List (Key × V)) (s1 s2 : Option V), σ = [some (.ref a), some (.int n), some (.ref dn), s1, s2] ∧ H' dn = some (.dK kvs) ∧ kvs.length = i ∧
      ∀ z : Str, (∀ (j : Nat) (r : Rc), j < i → rs[j]? = some r → r.name ≠ z) → valV kvs (Sum.inr z : Key) = none) ⟨sD, [], none, none, rfl, upd_same, rfl, fun z _ => rfl⟩ (fun _ _ _ _ p => p.1.seq hl) ?_ ?_⟩
    · rintro i x σ H1 H2 hi ⟨s1, kvs, z1, z2, rfl, hdn, hkl, hkv⟩ ⟨t, x0, y, rfl, nt, rfl, e0, ey⟩
      cases e0
      have s2 := s1.trans (Same.new (o := .tup [.int (i : Nat), y]) nt)
      have hdn2 : (upd H1 t (.tup [.int (i : Nat), y])) dn = some (.dK kvs) := Same.new nt dn _ hdn
      refine ⟨t, _, rfl, .of upd_same, rfl, _, _, rfl, _, _, rfl, rfl, ?_⟩
      generalize upd H1 t (.tup [.int (i : Nat), y]) = H2 at s2 hdn2
      obtain ⟨d, ed, hy⟩ := dp_get hx ey
      rw [List.getElem?_map] at ed
      cases ev : rs[i]? with
      | none =>
        rw [ev] at ed
        cases ed
      | some r =>
        rw [ev] at ed
        cases ed
        obtain ⟨hn, hvw, hkd⟩ := hok r (List.mem_of_getElem? ev)
        have fresh : valV kvs (Sum.inr r.name : Key) = none := hkv _ fun j r' hj er hz => by
          have h1 : (rs.map (·.name))[j]? = some r.name := by rw [List.getElem?_map, er]; exact congrArg some hz
          have h2 : (rs.map (·.name))[i]? = some r.name := by rw [List.getElem?_map, ev]; rfl
          have := nd_ix hnd h1 h2
          omega
        obtain ⟨ay, vs, rfl, ht, hvs⟩ := dp_tup hy
        cases hvs with
        | @cons v0 _ _ _ h0 hvs =>
        cases hvs with
        | @cons v1 _ _ _ h1 hvs =>
        cases hvs with
        | @cons v2 _ _ _ h2 hvs =>
        cases hvs
        cases h0
        cases h1
        have ht2 := s2.seqT ht
        refine ⟨_, rfl, _, _, _, _, _, rfl, .ty "tuple", ty_tup ht2, kit_ty (by decide +kernel), true, rfl, iteF ?_⟩
        refine ⟨_, rfl, ay, _, rfl, .inr ht2, _, _, rfl, rfl, false, rfl, iteF ?_⟩
        refine ⟨_, rfl, ay, _, _, _, rfl, rfl, ht2, atI_nat (j := 0) rfl, r.name, rfl, hn, fun H3 s3 => ⟨true, rfl, iteF ?_⟩⟩
        have ht3 := s3.seqT ht2
        have hdn3 := s3 _ _ hdn2
        refine ⟨_, rfl, ay, _, _, _, rfl, rfl, ht3, atI_nat (j := 0) rfl, _, rfl, dn, _, rfl, DGet.k (k := Sum.inr r.name) hdn3, _, rfl, ?_⟩
        rw [fresh]
        refine iteF ?_
        refine ⟨_, rfl, ay, _, _, _, rfl, rfl, ht3, atI_nat (j := 1) rfl, _, rfl, r.view, _, _, rfl, .inr ⟨_, rfl, hvw.1⟩, .inr ⟨_, rfl, hvw.2⟩, true, rfl, iteF ?_⟩
        have s3' := s2.trans s3
        refine ⟨_, rfl, ay, _, _, _, rfl, rfl, ht3, atI_nat (j := 2) rfl, v2, r.kind, rfl, h2.same s3', hkd, fun H4 s4 => ⟨true, rfl, iteF ?_⟩⟩
        have ht4 := s4.seqT ht3
        have hdn4 := s4 _ _ hdn3
        have hi8 : i < 8 := by
          have := (List.getElem?_eq_some_iff.mp ev).1
          omega
        refine ⟨_, rfl, _, rfl, _, rfl, ay, _, _, _, rfl, rfl, ht4, atI_nat (j := 0) rfl, dn, _, rfl, DPut.k (k := Sum.inr r.name) hdn4 (small1000 (by omega)), ?_⟩
        refine ⟨fun b o e => ?_, putK kvs (Sum.inr r.name) (.int (i : Nat)), _, _, rfl, upd_same, ?_, fun z hz => ?_⟩
        · rw [upd_ne (ne_of_none e nn)]
          exact s4 _ _ (s3' _ _ e)
        · rw [putK_new _ fresh, List.length_append, hkl]
          all_goals rfl
        · rw [valV_put, if_neg fun e => hz i r (Nat.lt_succ_self _) ev (Sum.inr.inj e).symm]
          exact hkv z fun j r' hj er => hz j r' (Nat.lt_succ_of_lt hj) er
    · rintro σ H1 ⟨s1, _⟩
      exact q _ s1
theorem sc_first_fault : FnScope ["layout", "views", "recognizers", "waits", "beside", "wrong", "part", "pairs", "most"] ["layout"] (defScope s_first_fault) := ⟨rfl, rfl, rfl, by decide +kernel, rfl, by decide +kernel, by decide +kernel⟩
theorem ok_first_fault (T : Txt w K mg) : Prom P w K mg base 4 "first_fault" ["layout"] (spFault K) := by
  have pL := ok_is_list (P := P) (base := base) T
  have pV := ok_wrong_view (P := P) (base := base) T
  have pR := ok_wrong_recognizer (P := P) (base := base) T
  have pP := ok_wrong_pair (P := P) (base := base) T
  refine T.d_first_fault.prom sc_first_fault (fun vs H Q E h => ?_) (fun f cdv A outer s H vs Q E hr h => ?_)
  · obtain ⟨v, y, rfl, _⟩ := h
    rfl
  · obtain ⟨v, y, rfl, hd, ⟨hv, hrs, ⟨hw12, hw⟩, hb28, hb⟩, q⟩ := h
    obtain ⟨a, xs, rfl, ht, hx⟩ := dp_tup hd
    cases hx with
    | @cons v0 _ _ _ h0 hx =>
    cases hx with
    | @cons v1 _ _ _ h1 hx =>
    cases hx with
    | @cons v2 _ _ _ h2 hx =>
    cases hx with
    | @cons v3 _ _ _ h3 hx =>
    cases hx
    have hr1 : Room 1 _ := hr.mono (by decide)
    obtain ⟨t1, m1⟩ := T.c_views
    obtain ⟨t2, m2⟩ := T.c_recognizers
    obtain ⟨t3, m3⟩ := T.c_waits
    obtain ⟨t4, m4⟩ := T.c_beside
    refine ⟨_, pss_cons (ps_asg (pv 0) (pg_tup rfl (pgs_cons (pg_name (i := 1) sc_first_fault.nd rfl (Or.inl rfl)) (pgs_cons (pg_name (i := 2) sc_first_fault.nd rfl (Or.inl rfl)) (pgs_cons (pg_name (i := 3) sc_first_fault.nd rfl (Or.inl rfl)) (pgs_cons (pg_name (i := 4) sc_first_fault.nd rfl (Or.inl rfl)) pgs_nil))))))
      (pss_cons (ps_if (PW.pt (pw_or (pt_not (pt_val (pe_p pL hr1 (by rfl) (pa_cons (pv 1) (pa_cons (pe_glob (v := .int 12) (by rfl) m1 ⟨_, rfl⟩) pa_nil))))) (pw_or1 (pt_cmp (pc_notN (pe_p pV hr (by rfl) (pa_cons (pv 1) pa_nil))))))) pss_never pss_nil)
      (pss_cons (ps_if (pt_not (pt_val (pe_p pL hr1 (by rfl) (pa_cons (pv 2) (pa_cons (pe_glob (v := .int 8) (by rfl) m2 ⟨_, rfl⟩) pa_nil))))) pss_never pss_nil)
      (pss_cons (ps_set (i := 5) sc_first_fault.nd rfl (Or.inl rfl) (pe_p pR hr (by rfl) (pa_cons (pv 2) (pa_cons (pe_callB call_len_seq (by rfl) T.b_len PySem.boot_len (pa_cons (pv 1) pa_nil)) pa_nil))))
      (pss_cons (ps_if (pt_cmp (pc_notN (pv 5))) pss_never pss_nil)
      (pss_cons (ps_for PassesOwn.never rfl (pi_tup (pe_tup (pa_cons (pe_tup (pa_cons pe_str (pa_cons (pv 3) (pa_cons (pe_glob (v := .int 12) (by rfl) m3 ⟨_, rfl⟩) pa_nil)))) (pa_cons (pe_tup (pa_cons pe_str (pa_cons (pv 4) (pa_cons (pe_glob (v := .int 28) (by rfl) m4 ⟨_, rfl⟩) pa_nil)))) pa_nil))))
        (pg_tup rfl (pgs_cons (pg_name (i := 6) sc_first_fault.nd rfl (Or.inl rfl)) (pgs_cons (pg_name (i := 7) sc_first_fault.nd rfl (Or.inl rfl)) (pgs_cons (pg_name (i := 8) sc_first_fault.nd rfl (Or.inl rfl)) pgs_nil))))
        (pss_cons (ps_if (pt_not (pt_val (pe_p pL hr1 (by rfl) (pa_cons (pv 7) (pa_cons (pv 8) pa_nil))))) pss_never pss_nil)
        (pss_cons (ps_set (i := 5) sc_first_fault.nd rfl (Or.inl rfl) (pe_p pP hr (by rfl) (pa_cons (pv 7) (pa_cons (pe_callB call_len_seq (by rfl) T.b_len PySem.boot_len (pa_cons (pv 2) pa_nil)) (pa_cons (pe_cmpR op_eq (pv 6) pe_str (nomark _)) pa_nil)))))
        (pss_one (ps_if (pt_cmp (pc_notN (pv 5))) pss_never pss_nil)))))
      (pss_one (ps_ret pe_non))))))), ?_⟩
    obtain ⟨a0, x0, rfl, l0, e0⟩ := dp_lst h0
    obtain ⟨a1, x1, rfl, l1, e1⟩ := dp_lst h1
    have len0 : (x0.length : Int) = (y.vs.length : Int) := by rw [dp_len e0, List.length_map]
    have len1 : (x1.length : Int) = (y.rs.length : Int) := by rw [dp_len e1, List.length_map]
    refine ⟨_, rfl, a, _, rfl, ht, rfl, _, _, rfl, _, _, rfl, _, _, rfl, _, _, rfl, rfl, ?_⟩
    refine ⟨_, rfl, a0, x0, _, rfl, l0, by have := hv.1; omega, true, rfl, iteF ?_⟩
    refine ⟨_, rfl, _, y.vs, rfl, h0, hv, fun H1 s1 => ⟨false, rfl, iteF ?_⟩⟩
    refine ⟨_, rfl, a1, x1, _, rfl, s1.seq l1, by have := hrs.1; omega, true, rfl, iteF ?_⟩
    refine ⟨_, rfl, _, rfl, a0, x0, rfl, .inl (s1.seq l0), _, y.rs, y.vs.length, by rw [len0]; rfl, h1.same s1, hrs, fun H2 s2 => ⟨_, rfl, false, rfl, iteF ?_⟩⟩
    have s2' := s1.trans s2
    refine ⟨_, rfl, (show 3 ≤ sizeLine by decide), fun p1 n1 => ⟨_, rfl, (show 3 ≤ sizeLine by decide), fun p2 n2 => ⟨(show 2 ≤ sizeLine by decide), fun p3 n3 => ?_⟩⟩⟩
    have g1 : (upd (upd (upd H2 p1 (.tup [.str "waits", v2, .int 12])) p2 (.tup [.str "beside", v3, .int 28])) p3 (.tup [.ref p1, .ref p2])) p1 = some (.tup [.str "waits", v2, .int 12]) := Same.new n3 _ _ (Same.new n2 _ _ upd_same)
    have g2 : (upd (upd (upd H2 p1 (.tup [.str "waits", v2, .int 12])) p2 (.tup [.str "beside", v3, .int 28])) p3 (.tup [.ref p1, .ref p2])) p2 = some (.tup [.str "beside", v3, .int 28]) := Same.new n3 _ _ upd_same
    have g3 : (upd (upd (upd H2 p1 (.tup [.str "waits", v2, .int 12])) p2 (.tup [.str "beside", v3, .int 28])) p3 (.tup [.ref p1, .ref p2])) p3 = some (.tup [.ref p1, .ref p2]) := upd_same
    have s3 : Same H (upd (upd (upd H2 p1 (.tup [.str "waits", v2, .int 12])) p2 (.tup [.str "beside", v3, .int 28])) p3 (.tup [.ref p1, .ref p2])) := ((s2'.trans (Same.new n1)).trans (Same.new n2)).trans (Same.new n3)
    refine ⟨p3, rfl, ⟨_, .of g3⟩, ?_⟩
    generalize upd (upd (upd H2 p1 (.tup [.str "waits", v2, .int 12])) p2 (.tup [.str "beside", v3, .int 28])) p3 (.tup [.ref p1, .ref p2]) = H3 at g1 g2 g3 s3 ⊢
    refine for_it (walk_tup (K := K) (a := p3) (xs := [.ref p1, .ref p2])) (fun i σ H' => Same H3 H' ∧ ∃ s5 s6 s7 s8, σ = [some (.ref a), some (.ref a0), some (.ref a1), some v2, some v3, s5, s6, s7, s8]) ⟨Same.refl _, _, _, _, _, rfl⟩ (fun _ _ _ _ p => .of (p.1 _ _ g3)) ?_ ?_
    · rintro i x σ H4 H5 hi ⟨s4, z5, z6, z7, z8, rfl⟩ ⟨rfl, ex⟩
      obtain ⟨px, part, vp, most, ps, rising, rfl, gx, hp, hm, hps, hpart⟩ : ∃ (px : Addr) (part : Str) (vp : V) (most : Int) (ps : List Pr) (rising : Bool), x = .ref px ∧ H3 px = some (.tup [.str part, vp, .int most]) ∧ Dp K H vp (psData ps) ∧ (ps.length : Int) ≤ most ∧ PsOk y.rs.length rising ps ∧
          V.bl (decide (V.str part = V.str "beside")) = .bl rising := by
        match i, ex with
        | 0, ex => exact ⟨p1, "waits", v2, 12, y.ws, false, (Option.some.inj ex).symm, g1, h2, by omega, hw, by decide +kernel⟩
        | 1, ex => exact ⟨p2, "beside", v3, 28, y.bs, true, (Option.some.inj ex).symm, g2, h3, by omega, hb, by decide +kernel⟩
        | i + 2, ex => simp at ex
      have s4' := s3.trans s4
      obtain ⟨ap, xp, rfl, lp, ep⟩ := dp_lst hp
      have lenp : (xp.length : Int) = (ps.length : Int) := by rw [dp_len ep, List.length_map]
      refine ⟨px, _, rfl, .of (s4 _ _ gx), rfl, _, _, rfl, _, _, rfl, _, _, rfl, rfl, ?_⟩
      refine ⟨_, rfl, _, rfl, ap, xp, _, rfl, s4'.seq lp, by omega, true, rfl, iteF ?_⟩
      refine ⟨_, rfl, _, rfl, a1, x1, rfl, .inl (s4'.seq l1), _, rfl, rfl, _, ps, y.rs.length, rising, ?_, hp.same s4', hps, fun H6 s6 => ⟨_, rfl, false, rfl, iteF ?_⟩⟩
      · show [V.ref ap, V.int (x1.length : Int), V.bl (decide (V.str part = V.str "beside"))] = [V.ref ap, V.int (y.rs.length : Int), V.bl rising]
        rw [len1, hpart]
      · exact ⟨s4.trans s6, _, _, _, _, rfl⟩
    · rintro σ H4 ⟨s4, _⟩
      exact q _ (s3.trans s4)
end
end TC

/-! Paths and members, plain. -/
namespace TC
open PySem L2

def hasB (v : Vw) (x y : Int) : Bool := (decide (v.l ≤ x) && decide (x < v.r)) && (decide (v.t ≤ y) && decide (y < v.b))
/-- the numbers, from k on, of the views that have h as their parent and have the place -/
def hereL (x y h : Int) : Int → List Vw → List Int
  | _, [] => []
  | k, v :: vs => if v.p = h ∧ hasB v x y = true then k :: hereL x y h (k + 1) vs else hereL x y h (k + 1) vs
theorem hereL_snoc (x y h : Int) (v : Vw) : ∀ (k : Int) (vs : List Vw), hereL x y h k (vs ++ [v]) = hereL x y h k vs ++ (if v.p = h ∧ hasB v x y = true then [k + vs.length] else [])
  | k, [] => by
    show (if v.p = h ∧ hasB v x y = true then k :: [] else []) = [] ++ _
    rw [List.nil_append]
    have e : k + (([] : List Vw).length : Int) = k := by simp
    rw [e]
  | k, u :: vs => by
    have ih := hereL_snoc x y h v (k + 1) vs
    have e : k + 1 + (vs.length : Int) = k + ((u :: vs).length : Int) := by rw [List.length_cons]; omega
    rw [e] at ih
    show (if u.p = h ∧ hasB u x y = true then k :: hereL x y h (k + 1) (vs ++ [v]) else hereL x y h (k + 1) (vs ++ [v])) = (if u.p = h ∧ hasB u x y = true then k :: hereL x y h (k + 1) vs else hereL x y h (k + 1) vs) ++ _
    by_cases c : u.p = h ∧ hasB u x y = true
    · rw [if_pos c, if_pos c, ih]
      all_goals rfl
    · rw [if_neg c, if_neg c, ih]
theorem take_snoc {α : Type} {l : List α} {i : Nat} {a : α} (e : l[i]? = some a) : l.take (i + 1) = l.take i ++ [a] := by
  rw [List.take_add_one, e]
  all_goals rfl
/-- one turn of the walk over the views -/
theorem hereL_turn {x y h k : Int} {vs : List Vw} {i : Nat} {v : Vw} (e : vs[i]? = some v) : hereL x y h k (vs.take (i + 1)) = hereL x y h k (vs.take i) ++ (if v.p = h ∧ hasB v x y = true then [k + i] else []) := by
  have hi : i < vs.length := (List.getElem?_eq_some_iff.mp e).1
  rw [take_snoc e, hereL_snoc, List.length_take_of_le (Nat.le_of_lt hi)]
theorem hereL_len (x y h : Int) : ∀ (k : Int) (vs : List Vw), (hereL x y h k vs).length ≤ vs.length
  | _, [] => Nat.le_refl _
  | k, v :: vs => by
    have ih := hereL_len x y h (k + 1) vs
    show (if _ then _ else _ : List Int).length ≤ _
    split
    · simp only [List.length_cons]
      omega
    · simp only [List.length_cons]
      omega
theorem mem_hereL {x y h j : Int} : ∀ {k : Int} {vs : List Vw}, j ∈ hereL x y h k vs → ∃ (i : Nat) (v : Vw), vs[i]? = some v ∧ j = k + i ∧ v.p = h ∧ hasB v x y = true
  | k, [], hm => absurd hm List.not_mem_nil
  | k, v :: vs, hm => by
    have hm : j ∈ (if v.p = h ∧ hasB v x y = true then k :: hereL x y h (k + 1) vs else hereL x y h (k + 1) vs) := hm
    have rec_ : j ∈ hereL x y h (k + 1) vs → ∃ (i : Nat) (u : Vw), (v :: vs)[i]? = some u ∧ j = k + i ∧ u.p = h ∧ hasB u x y = true := by
      intro q
      obtain ⟨i, u, h1, h2, h3⟩ := mem_hereL q
      exact ⟨i + 1, u, by simpa using h1, by omega, h3⟩
    by_cases c : v.p = h ∧ hasB v x y = true
    · rw [if_pos c] at hm
      rcases List.mem_cons.mp hm with rfl | q
      · exact ⟨0, v, rfl, by omega, c⟩
      · exact rec_ q
    · rw [if_neg c] at hm
      exact rec_ hm
/-- a child's number is greater than its parent's -/
theorem here_gt {vs : List Vw} {x y h j : Int} (ok : VsOk vs) (hm : j ∈ hereL x y h 1 vs) : h < j ∧ j ≤ vs.length ∧ 0 ≤ h := by
  obtain ⟨i, v, h1, h2, h3, _⟩ := mem_hereL hm
  obtain ⟨o1, o2, _⟩ := ok.2 i v h1
  have := (List.getElem?_eq_some_iff.mp h1).1
  omega
/-- the path from h on, n steps at most -/
def pathF (vs : List Vw) (x y : Int) : Nat → Int → List Int
  | 0, h => [h]
  | n + 1, h => h :: (match (hereL x y h 1 vs).getLast? with
    | none => []
    | some j => pathF vs x y n j)
def thePath (vs : List Vw) (x y : Int) : List Int := pathF vs x y 12 0
theorem pathF_end {vs : List Vw} {x y h : Int} {n : Nat} (e : hereL x y h 1 vs = []) : pathF vs x y n h = [h] := by
  cases n with
  | zero => rfl
  | succ n =>
    show h :: (match (hereL x y h 1 vs).getLast? with
      | none => []
      | some j => pathF vs x y n j) = [h]
    rw [e]
    all_goals rfl
theorem pathF_go {vs : List Vw} {x y h j : Int} {n : Nat} (e : (hereL x y h 1 vs).getLast? = some j) : pathF vs x y (n + 1) h = h :: pathF vs x y n j := by
  show h :: (match (hereL x y h 1 vs).getLast? with
      | none => []
      | some j => pathF vs x y n j) = _
  rw [e]
/-- a step is left where there is a child -/
theorem path_step {vs : List Vw} {x y h j : Int} {n : Nat} (ok : VsOk vs) (hn : 12 ≤ h + n) (hm : j ∈ hereL x y h 1 vs) : ∃ m, n = m + 1 ∧ 12 ≤ j + m ∧ m < n := by
  obtain ⟨h1, h2, _⟩ := here_gt ok hm
  have h3 := ok.1
  exact ⟨n - 1, by omega, by omega, by omega⟩
theorem pathF_len (vs : List Vw) (x y : Int) : ∀ (n : Nat) (h : Int), (pathF vs x y n h).length ≤ n + 1
  | 0, _ => Nat.le_refl _
  | n + 1, h => by
    cases e : (hereL x y h 1 vs).getLast? with
    | none =>
      rw [pathF_end (List.getLast?_eq_none_iff.mp e)]
      exact Nat.succ_le_succ (Nat.zero_le _)
    | some j =>
      rw [pathF_go e, List.length_cons]
      have := pathF_len vs x y n j
      omega
/-- the numbers of the recognizers whose view is in P -/
def memL (P : List Int) : Int → List Rc → List Int
  | _, [] => []
  | k, r :: rs => if r.view ∈ P then k :: memL P (k + 1) rs else memL P (k + 1) rs
theorem memL_snoc (P : List Int) (r : Rc) : ∀ (k : Int) (rs : List Rc), memL P k (rs ++ [r]) = memL P k rs ++ (if r.view ∈ P then [k + rs.length] else [])
  | k, [] => by
    show (if r.view ∈ P then k :: [] else []) = [] ++ _
    rw [List.nil_append]
    have e : k + (([] : List Rc).length : Int) = k := by simp
    rw [e]
  | k, u :: rs => by
    have ih := memL_snoc P r (k + 1) rs
    have e : k + 1 + (rs.length : Int) = k + ((u :: rs).length : Int) := by rw [List.length_cons]; omega
    rw [e] at ih
    show (if u.view ∈ P then k :: memL P (k + 1) (rs ++ [r]) else memL P (k + 1) (rs ++ [r])) = (if u.view ∈ P then k :: memL P (k + 1) rs else memL P (k + 1) rs) ++ _
    by_cases c : u.view ∈ P
    · rw [if_pos c, if_pos c, ih]
      all_goals rfl
    · rw [if_neg c, if_neg c, ih]
theorem memL_turn {P : List Int} {k : Int} {rs : List Rc} {i : Nat} {r : Rc} (e : rs[i]? = some r) : memL P k (rs.take (i + 1)) = memL P k (rs.take i) ++ (if r.view ∈ P then [k + i] else []) := by
  have hi : i < rs.length := (List.getElem?_eq_some_iff.mp e).1
  rw [take_snoc e, memL_snoc, List.length_take_of_le (Nat.le_of_lt hi)]
theorem memL_len (P : List Int) : ∀ (k : Int) (rs : List Rc), (memL P k rs).length ≤ rs.length
  | _, [] => Nat.le_refl _
  | k, r :: rs => by
    have ih := memL_len P (k + 1) rs
    show (if _ then _ else _ : List Int).length ≤ _
    split
    · simp only [List.length_cons]
      omega
    · simp only [List.length_cons]
      omega
/-- the members of a layout at a place -/
def theMem (y : Ly) (a b : Int) : List Int := memL (thePath y.vs a b) 0 y.rs
end TC

/-! require_.., has, path_of, path, members_of, members. -/
namespace TC
open PySem PySem.Spec PySem.Calls PyProof.Rows L2

def spHas (K : PySem.W.Frag) : Sp := fun vs H Q _ => ∃ (v : V) (vw : Vw) (ap : Addr) (x y : Int), vs = [v, .ref ap] ∧ Dp K H v vw.data ∧ SqT K H ap [.int x, .int y] ∧ Q (.bl (hasB vw x y)) H
/-- a new list of ints is handed back -/
def Gives (H : Hp) (ns : List Int) (Q : VK) : Prop := ∀ H' p, Same H H' → H p = none → H' p = some (.lst (ns.map V.int)) → Q (.ref p) H'
def spPath (K : PySem.W.Frag) : Sp := fun vs H Q _ => ∃ (v : V) (ws : List Vw) (ap : Addr) (x y : Int), vs = [v, .ref ap] ∧ Dp K H v (vsData ws) ∧ VsOk ws ∧ SqT K H ap [.int x, .int y] ∧ Gives H (thePath ws x y) Q
def spMembers (K : PySem.W.Frag) : Sp := fun vs H Q _ => ∃ (v : V) (y : Ly) (ap : Addr) (a b : Int), vs = [v, .ref ap] ∧ Dp K H v y.data ∧ y.ok ∧ SqT K H ap [.int a, .int b] ∧ Gives H (theMem y a b) Q
/-- the length of the list at an address -/
def lenAt (a : Addr) (H : Hp) : Nat := match H a with
  | some (.lst l) => l.length
  | _ => 0
theorem lenAt_of {a : Addr} {H : Hp} {l : List V} (h : H a = some (.lst l)) : lenAt a H = l.length := by
  unfold lenAt
  rw [h]
section
variable {P : Program} {w : World} {K : PySem.W.Frag} {mg : Str → Option Value} {base : Heap}
theorem sc_require_views : FnScope ["views", "wrong"] ["views"] (defScope s_require_views) := ⟨rfl, rfl, rfl, by decide +kernel, rfl, by decide +kernel, by decide +kernel⟩
theorem ok_require_views (T : Txt w K mg) : Prom P w K mg base 4 "require_views" ["views"] (spReqViews K) := by
  have pL := ok_is_list (P := P) (base := base) T
  have pV := ok_wrong_view (P := P) (base := base) T
  refine T.d_require_views.prom sc_require_views (fun vs H Q E h => ?_) (fun f cdv A outer s H vs Q E hr h => ?_)
  · obtain ⟨v, ws, rfl, _⟩ := h
    rfl
  · obtain ⟨v, ws, rfl, hd, hv, q⟩ := h
    have hr1 : Room 1 _ := hr.mono (by decide)
    obtain ⟨t1, m1⟩ := T.c_views
    refine ⟨_, pss_cons (ps_if (pt_not (pt_val (pe_p pL hr1 (by rfl) (pa_cons (pv 0) (pa_cons (pe_glob (v := .int 12) (by rfl) m1 ⟨_, rfl⟩) pa_nil))))) pss_never pss_nil)
      (pss_cons (ps_set (i := 1) sc_require_views.nd rfl (Or.inl rfl) (pe_p pV hr (by rfl) (pa_cons (pv 0) pa_nil)))
      (pss_one (ps_if (pt_cmp (pc_notN (pv 1))) pss_never pss_nil))), ?_⟩
    obtain ⟨a0, x0, rfl, l0, e0⟩ := dp_lst hd
    have len0 : (x0.length : Int) = (ws.length : Int) := by rw [dp_len e0, List.length_map]
    refine ⟨_, rfl, a0, x0, _, rfl, l0, by have := hv.1; omega, true, rfl, iteF ?_⟩
    exact ⟨_, rfl, _, ws, rfl, hd, hv, fun H1 s1 => ⟨_, rfl, false, rfl, iteF (q _ s1)⟩⟩
theorem sc_require_place : FnScope ["place"] ["place"] (defScope s_require_place) := ⟨rfl, rfl, rfl, by decide +kernel, rfl, by decide +kernel, by decide +kernel⟩
theorem ok_require_place (T : Txt w K mg) : Prom P w K mg base 3 "require_place" ["place"] (spReqPlace K) := by
  have pL := ok_is_place (P := P) (base := base) T
  refine T.d_require_place.prom sc_require_place (fun vs H Q E h => ?_) (fun f cdv A outer s H vs Q E hr h => ?_)
  · obtain ⟨a, x, y, rfl, _⟩ := h
    rfl
  · obtain ⟨a, x, y, rfl, ht, q⟩ := h
    refine ⟨_, pss_one (ps_if (pt_not (pt_val (pe_p pL hr (by rfl) (pa_cons (pv 0) pa_nil)))) pss_never pss_nil), ?_⟩
    exact ⟨_, rfl, a, x, y, rfl, ht, fun H1 s1 => ⟨true, rfl, iteF (q _ s1)⟩⟩
theorem sc_require_layout : FnScope ["layout", "fault"] ["layout"] (defScope s_require_layout) := ⟨rfl, rfl, rfl, by decide +kernel, rfl, by decide +kernel, by decide +kernel⟩
theorem ok_require_layout (T : Txt w K mg) : Prom P w K mg base 5 "require_layout" ["layout"] (spFault K) := by
  have pF := ok_first_fault (P := P) (base := base) T
  refine T.d_require_layout.prom sc_require_layout (fun vs H Q E h => ?_) (fun f cdv A outer s H vs Q E hr h => ?_)
  · obtain ⟨v, y, rfl, _⟩ := h
    rfl
  · obtain ⟨v, y, rfl, hd, hy, q⟩ := h
    refine ⟨_, pss_cons (ps_if (PW.pt (pw_or (pt_not (pt_val (pe_callB call_isi (by rfl) T.b_isinstance (by decide +kernel) (pa_cons (pv 0) (pa_cons (pe_bltn (v := .ty "tuple") (by rfl) T.b_tuple (by decide +kernel) rfl) pa_nil)))))
        (pw_or1 (pt_cmp (pc_neI (pe_callB call_len_seq (by rfl) T.b_len PySem.boot_len (pa_cons (pv 0) pa_nil)) pe_int))))) pss_never pss_nil)
      (pss_cons (ps_set (i := 1) sc_require_layout.nd rfl (Or.inl rfl) (pe_p pF hr (by rfl) (pa_cons (pv 0) pa_nil)))
      (pss_one (ps_if (pt_cmp (pc_notN (pv 1))) pss_never pss_nil))), ?_⟩
    obtain ⟨a, xs, rfl, ht, hx⟩ := dp_tup hd
    have hl : xs.length = 4 := dp_len hx
    refine ⟨_, rfl, _, _, _, _, _, rfl, .ty "tuple", ty_tup ht, kit_ty (by decide +kernel), true, rfl, iteF ?_⟩
    refine ⟨_, rfl, a, xs, rfl, .inr ht, _, _, rfl, rfl, false, ?_, iteF ?_⟩
    · rw [hl]
      all_goals rfl
    · exact ⟨_, rfl, _, y, rfl, hd, hy, fun H1 s1 => ⟨_, rfl, false, rfl, iteF (q _ s1)⟩⟩
theorem sc_has : FnScope ["view", "place", "parent", "left", "top", "right", "bottom"] ["view", "place"] (defScope s_has) := ⟨rfl, rfl, rfl, by decide +kernel, rfl, by decide +kernel, by decide +kernel⟩
theorem ok_has (T : Txt w K mg) : Prom P w K mg base 1 "has" ["view", "place"] (spHas K) := by
  refine T.d_has.prom sc_has (fun vs H Q E h => ?_) (fun f cdv A outer s H vs Q E hr h => ?_)
  · obtain ⟨v, vw, ap, x, y, rfl, _⟩ := h
    rfl
  · obtain ⟨v, vw, ap, x, y, rfl, hd, ht, q⟩ := h
    obtain ⟨a, rfl, hv⟩ := dp_tints hd
    refine ⟨_, pss_cons (ps_asg (pv 0) (pg_tup rfl (pgs_cons (pg_name (i := 2) sc_has.nd rfl (Or.inl rfl)) (pgs_cons (pg_name (i := 3) sc_has.nd rfl (Or.inl rfl)) (pgs_cons (pg_name (i := 4) sc_has.nd rfl (Or.inl rfl))
        (pgs_cons (pg_name (i := 5) sc_has.nd rfl (Or.inl rfl)) (pgs_cons (pg_name (i := 6) sc_has.nd rfl (Or.inl rfl)) pgs_nil)))))))
      (pss_one (ps_ret (pe_and (pe_chain op_le op_lt (pv 3) (pe_ix ix_tup (pv 1) pe_int (fun _ _ => rfl)) (pv 5)) (pe_one (pe_chain op_le op_lt (pv 4) (pe_ix ix_tup (pv 1) pe_int (fun _ _ => rfl)) (pv 6)))))), ?_⟩
    refine ⟨_, rfl, a, _, rfl, hv, rfl, _, _, rfl, _, _, rfl, _, _, rfl, _, _, rfl, _, _, rfl, rfl, ?_⟩
    have part2 : ∀ Q' : VK, Q' (.bl (decide (vw.t ≤ y) && decide (y < vw.b))) H → tChain (rI0 fun i j => .bl (decide (i ≤ j))) (rI0 fun i j => .bl (decide (i < j))) (tVar 4) (tOp (rIxT K) (tVar 1) (tC (.int 1))) (tVar 6)
        [some (.ref a), some (.ref ap), some (.int vw.p), some (.int vw.l), some (.int vw.t), some (.int vw.r), some (.int vw.b)] H Q' := by
      intro Q' q'
      refine ⟨_, rfl, _, rfl, ap, _, _, _, rfl, rfl, ht, atI_nat (j := 1) rfl, _, _, rfl, rfl, decide (vw.t ≤ y), rfl, ?_⟩
      by_cases c : vw.t ≤ y
      · rw [decide_eq_true c] at q' ⊢
        rw [Bool.true_and] at q'
        exact iteT ⟨_, rfl, _, _, rfl, rfl, q'⟩
      · rw [decide_eq_false c] at q' ⊢
        exact iteF q'
    refine ⟨_, rfl, _, rfl, ap, _, _, _, rfl, rfl, ht, atI_nat (j := 0) rfl, _, _, rfl, rfl, decide (vw.l ≤ x), rfl, ?_⟩
    by_cases c : vw.l ≤ x
    · rw [decide_eq_true c]
      refine iteT ⟨_, rfl, _, _, rfl, rfl, decide (x < vw.r), rfl, ?_⟩
      have e : hasB vw x y = (decide (x < vw.r) && (decide (vw.t ≤ y) && decide (y < vw.b))) := by
        unfold hasB
        rw [decide_eq_true c, Bool.true_and]
      rw [e] at q
      by_cases c2 : x < vw.r
      · rw [decide_eq_true c2] at q ⊢
        rw [Bool.true_and] at q
        exact iteT (part2 _ q)
      · rw [decide_eq_false c2] at q ⊢
        exact iteF q
    · have e : hasB vw x y = false := by
        unfold hasB
        rw [decide_eq_false c]
        all_goals rfl
      rw [e] at q
      rw [decide_eq_false c]
      exact iteF ⟨false, rfl, iteF q⟩
theorem sc_path_of : FnScope ["views", "place", "found", "here", "number", "view"] ["views", "place"] (defScope s_path_of) := ⟨rfl, rfl, rfl, by decide +kernel, rfl, by decide +kernel, by decide +kernel⟩
theorem ok_path_of (T : Txt w K mg) : Prom P w K mg base 2 "path_of" ["views", "place"] (spPath K) := by
  have pH := ok_has (P := P) (base := base) T
  refine T.d_path_of.prom sc_path_of (fun vs H Q E h => ?_) (fun f cdv A outer s H vs Q E hr h => ?_)
  · obtain ⟨v, ws, ap, x, y, rfl, _⟩ := h
    rfl
  · obtain ⟨v, ws, ap, x, y, rfl, hd, hok, ht, q⟩ := h
    obtain ⟨a, xs, rfl, hl, hx⟩ := dp_lst hd
    refine ⟨_, pss_cons (ps_set (i := 2) sc_path_of.nd rfl (Or.inr rfl) (pe_lst (pa_cons pe_int pa_nil)))
      (pss_one (ps_while PassesOwn.never (pt_val pe_bl)
        (pss_cons (ps_setLc (i := 3) (own := [("number", 4), ("view", 5)]) (g := gTup K 2 (gCons (gName 4) (gCons (gName 5) gNil)))
          (tt := tAnd (tB (tEqI (tOp (rIxT K) (tVar 5) (tC (.int 0))) (tOp (rIxL K) (tVar 2) (tUn (rU fun i => .int (-i)) (tC (.int 1)))))) (tB (tCall (spHas K) [] E0 (tCons (tVar 5) (tCons (tVar 1) tNil))))) (te := tVar 4) rfl sc_path_of.nd rfl rfl (sw_true rfl rfl rfl (by decide +kernel)) (pi_enumF (by rfl) T.b_enumerate (pa_cons (pv 0) (pa_cons pe_int pa_nil)))
          (blkOk_by (N := ["views", "place", "found", "here", "number", "view"]) (sc := defScope s_path_of) (by decide +kernel))
          (fun _ _ _ _ _ => pg_tup rfl (pgs_cons (pg_name (i := 4) sc_path_of.nd rfl (Or.inl rfl)) (pgs_cons (pg_name (i := 5) sc_path_of.nd rfl (Or.inl rfl)) pgs_nil)))
          (fun _ _ _ _ _ => pts_one (PW.pt (pw_and (pt_cmp (pc_eqI (pe_ix ix_tup (pv 5) pe_int (fun _ _ => rfl)) (pe_ix ix_list (pv 2) (pe_un un_neg pe_int) (fun _ _ => rfl)))) (pw_and1 (pt_val (pe_p pH hr (by rfl) (pa_cons (pv 5) (pa_cons (pv 1) pa_nil))))))))
          (fun _ _ _ _ _ => pv 4))
        (pss_cons (ps_if (pt_cmpR (op_eqD hr.units) (pv 3) (pe_lst pa_nil) (nomark _)) (pss_one (ps_ret (pv 2))) pss_nil)
        (pss_one (ps_expr (pe_bm PySem.F.plainAttrs_list PySem.F.slot_list_append PySem.F.type_list_append mt_append (pv 2) (pa_cons (pe_ix ix_list (pv 3) (pe_un un_neg pe_int) (fun _ _ => rfl)) pa_nil)))))))), ?_⟩
    refine ⟨(show 1 ≤ sizeLine by decide), fun fo nf => ?_⟩
    refine while_by (fun σ H' => ∃ (s3 : Option V) (pre : List Int) (h : Int) (n : Nat), σ = [some (.ref a), some (.ref ap), some (.ref fo), s3, none, none] ∧ Same H H' ∧ H' fo = some (.lst ((pre ++ [h]).map V.int)) ∧ pre ++ pathF ws x y n h = thePath ws x y ∧ 12 ≤ h + n)
      (fun σ H' => 13 - lenAt fo H') ⟨none, [], 0, 12, rfl, Same.new nf, upd_same, rfl, by omega⟩ ?_ (fun σ H Q Q' hq h => ?_)
    · rintro σ H1 ⟨s3, pre, h, n, rfl, s1, hfo, hp, hn⟩
      refine ⟨true, rfl, iteT ?_⟩
      -- here = [..]
      refine ⟨_, rfl, a, 1, xs, rfl, s1.seq hl, ⟨by decide, by decide⟩, fun D hD => lc_it walk_enumF (fun i H' => Same H1 H' ∧ H' D = some (.lst ((hereL x y h 1 (ws.take i)).map V.int))) ⟨Same.new hD, upd_same⟩ (fun _ _ _ p => p.1.seq (s1.seq hl)) ?_ ?_⟩
      · rintro i v H2 H3 hi ⟨s2, d2⟩ ⟨t, x0, u, rfl, nt, rfl, e0, eu⟩
        cases e0
        have s4 : Same H1 (upd H2 t (.tup [.int (1 + (i : Nat)), u])) := s2.trans (Same.new nt)
        have d4 : (upd H2 t (.tup [.int (1 + (i : Nat)), u])) D = some (.lst ((hereL x y h 1 (ws.take i)).map V.int)) := Same.new nt _ _ d2
        have g4 : (upd H2 t (.tup [.int (1 + (i : Nat)), u])) t = some (.tup [.int (1 + (i : Nat)), u]) := upd_same
        generalize upd H2 t (.tup [.int (1 + (i : Nat)), u]) = H4 at s4 d4 g4
        obtain ⟨d, ed, hu⟩ := dp_get hx eu
        rw [List.getElem?_map] at ed
        cases ev : ws[i]? with
        | none =>
          rw [ev] at ed
          cases ed
        | some vw =>
        rw [ev] at ed
        cases ed
        have hu4 := (hu.same s1).same s4
        obtain ⟨au, rfl, tu⟩ := dp_tints hu4
        refine ⟨t, _, rfl, .of g4, rfl, _, _, rfl, _, _, rfl, rfl, rfl, ?_⟩
        have hfo4 := s4 _ _ hfo
        have el : (pre ++ [h]).map V.int = pre.map V.int ++ [.int h] := by rw [List.map_append]; rfl
        have elast : atI ((pre ++ [h]).map V.int) (-1) = some (.int h) := by rw [el]; exact atI_last _ _
        rw [hereL_turn ev]
        have ilt : i < ws.length := (List.getElem?_eq_some_iff.mp ev).1
        have len : (hereL x y h 1 (ws.take i)).length ≤ 12 := by
          have h1 := hereL_len x y h 1 (ws.take i)
          have h2 := hok.1
          rw [List.length_take] at h1
          omega
        by_cases c : vw.p = h
        · refine ⟨_, rfl, au, _, _, _, rfl, rfl, tu, atI_nat (j := 0) rfl, _, rfl, 1, rfl, fo, _, _, .int h, rfl, rfl, .of hfo4, elast, _, _, rfl, rfl, true, eT c, iteT ?_⟩
          by_cases c2 : hasB vw x y = true
          · rw [if_pos (show vw.p = h ∧ hasB vw x y = true from ⟨c, c2⟩)]
            refine ⟨_, rfl, _, rfl, _, vw, ap, x, y, rfl, hu4, s4.seqT (s1.seqT ht), true, congrArg V.bl c2, iteT ⟨_, rfl, _, d4, ?_, fun b o e => ?_, ?_⟩⟩
            · rw [List.length_map]
              exact small1000 (by omega)
            · rw [upd_ne (ne_of_none e hD)]
              exact s4 _ _ e
            · rw [upd_same, List.map_append]
              all_goals rfl
          · rw [if_neg (show ¬ (vw.p = h ∧ hasB vw x y = true) from fun z => c2 z.2), List.append_nil]
            rw [Bool.not_eq_true] at c2
            exact ⟨_, rfl, _, rfl, _, vw, ap, x, y, rfl, hu4, s4.seqT (s1.seqT ht), false, congrArg V.bl c2, s4, d4⟩
        · rw [if_neg (show ¬ (vw.p = h ∧ hasB vw x y = true) from fun z => c z.1), List.append_nil]
          exact ⟨_, rfl, au, _, _, _, rfl, rfl, tu, atI_nat (j := 0) rfl, _, rfl, 1, rfl, fo, _, _, .int h, rfl, rfl, .of hfo4, elast, _, _, rfl, rfl, false, eF c, s4, d4⟩
      · rintro H2 ⟨s2, d2⟩
        have hxl : xs.length = ws.length := by rw [dp_len hx, List.length_map]
        rw [hxl, List.take_length] at d2
        have s2' := s1.trans s2
        -- here == []
        refine ⟨_, rfl, Nat.zero_le _, fun p nn => ⟨_, .list [], .lst (.of (Same.new nn _ _ d2)) ints_dp, .lst (.of upd_same) .nil, shaped_ints _, shaped_nilL, ?_⟩⟩
        have s5 : Same H1 (upd H2 p (.lst [])) := s2.trans (Same.new nn)
        have d5 := (Same.new nn : Same H2 (upd H2 p (.lst []))) _ _ d2
        generalize upd H2 p (.lst []) = H5 at s5 d5
        have hfo5 := s5 _ _ hfo
        cases hg : (hereL x y h 1 ws).getLast? with
        | none =>
          have e := List.getLast?_eq_none_iff.mp hg
          refine ⟨true, congrArg V.bl (by rw [eqv_nilL, e]; rfl), iteT ⟨_, rfl, ?_⟩⟩
          rw [pathF_end e] at hp
          rw [hp] at hfo5
          exact q _ fo (s1.trans s5) nf hfo5
        | some j =>
          obtain ⟨front, e⟩ : ∃ front, hereL x y h 1 ws = front ++ [j] := by
            obtain ⟨l, hl2⟩ := List.getLast?_eq_some_iff.mp hg
            exact ⟨l, hl2⟩
          have hm : j ∈ hereL x y h 1 ws := by rw [e]; simp
          obtain ⟨m, rfl, hm2, _⟩ := path_step hok hn hm
          have el : (hereL x y h 1 ws).map V.int = front.map V.int ++ [.int j] := by rw [e, List.map_append]; rfl
          refine ⟨false, congrArg V.bl (by rw [eqv_nilL, e]; cases front <;> rfl), iteF ?_⟩
          have fne : fo ≠ D := ne_of_none hfo (by exact hD)
          refine ⟨_, rfl, .inl ⟨rfl, _, .of hfo5⟩, _, rfl, 1, rfl, D, _, _, .int j, rfl, rfl, .of d5, by rw [el]; exact atI_last _ _, fo, _, _, rfl, rfl, hfo5, ?_, ?_⟩
          · have h1 := pathF_len ws x y 12 0
            have h2 := congrArg List.length hp
            rw [List.length_append, pathF_go hg] at h2
            simp only [List.length_cons] at h2
            unfold thePath at h2
            rw [List.length_map, List.length_append]
            exact small1000 (by simp only [List.length_cons, List.length_nil]; omega)
          · refine ⟨⟨_, pre ++ [h], j, m, rfl, fun b o e => ?_, ?_, ?_, hm2⟩, ?_⟩
            · rw [upd_ne (ne_of_none e nf)]
              exact s5 _ _ (s1 _ _ e)
            · rw [upd_same]
              simp only [List.map_append, List.map_cons, List.map_nil]
            · rw [← hp, pathF_go hg, List.append_assoc]
              all_goals rfl
            · show 13 - lenAt fo _ < 13 - lenAt fo H1
              rw [lenAt_of upd_same, lenAt_of hfo]
              have h1 := pathF_len ws x y 12 0
              have h2 := congrArg List.length hp
              have h3 : 1 ≤ (pathF ws x y m j).length := by
                cases m with
                | zero => exact Nat.le_refl _
                | succ m => exact Nat.succ_le_succ (Nat.zero_le _)
              rw [List.length_append, pathF_go hg] at h2
              unfold thePath at h2
              simp only [List.length_cons, List.length_append, List.length_map, List.length_nil] at h2 ⊢
              omega
    · obtain ⟨c, e, h⟩ := h
      exact ⟨c, e, hq _ _ h⟩
end
end TC

/-! path, members_of, members. -/
namespace TC
open PySem PySem.Spec PySem.Calls PyProof.Rows L2

theorem inV_ints (v : Int) : ∀ ns : List Int, inV (.int v) (ns.map V.int) = decide (v ∈ ns)
  | [] => rfl
  | n :: ns => by
    have ih := inV_ints v ns
    unfold inV at ih ⊢
    rw [List.map_cons, List.any_cons, ih]
    show (n == v || decide (v ∈ ns)) = decide (v ∈ n :: ns)
    by_cases e : n = v
    · subst e
      simp
    · have e1 : (n == v) = false := beq_eq_false_iff_ne.mpr e
      rw [e1, Bool.false_or]
      by_cases m : v ∈ ns
      · rw [decide_eq_true m, decide_eq_true (List.mem_cons_of_mem _ m)]
      · rw [decide_eq_false m, decide_eq_false fun z => (List.mem_cons.mp z).elim (fun q => e q.symm) m]
theorem flat_ints (ns : List Int) : (ns.map V.int).all flatV = true := by
  rw [List.all_map]
  exact List.all_eq_true.mpr fun _ _ => rfl
section
variable {P : Program} {w : World} {K : PySem.W.Frag} {mg : Str → Option Value} {base : Heap}
theorem sc_path : FnScope ["views", "place"] ["views", "place"] (defScope s_path) := ⟨rfl, rfl, rfl, by decide +kernel, rfl, by decide +kernel, by decide +kernel⟩
theorem ok_path (T : Txt w K mg) : Prom P w K mg base 5 "path" ["views", "place"] (spPath K) := by
  have p1 := ok_require_views (P := P) (base := base) T
  have p2 := ok_require_place (P := P) (base := base) T
  have p3 := ok_path_of (P := P) (base := base) T
  refine T.d_path.prom sc_path (fun vs H Q E h => ?_) (fun f cdv A outer s H vs Q E hr h => ?_)
  · obtain ⟨v, ws, ap, x, y, rfl, _⟩ := h
    rfl
  · obtain ⟨v, ws, ap, x, y, rfl, hd, hok, ht, q⟩ := h
    have hr2 : Room 2 _ := hr.mono (by decide)
    have hr3 : Room 3 _ := hr.mono (by decide)
    refine ⟨_, pss_cons (ps_expr (pe_p p1 hr (by rfl) (pa_cons (pv 0) pa_nil))) (pss_cons (ps_expr (pe_p p2 hr3 (by rfl) (pa_cons (pv 1) pa_nil))) (pss_one (ps_ret (pe_p p3 hr2 (by rfl) (pa_cons (pv 0) (pa_cons (pv 1) pa_nil)))))), ?_⟩
    refine ⟨_, rfl, v, ws, rfl, hd, hok, fun H1 s1 => ⟨_, rfl, ap, x, y, rfl, s1.seqT ht, fun H2 s2 => ?_⟩⟩
    have s12 := s1.trans s2
    refine ⟨_, rfl, _, rfl, v, ws, ap, x, y, rfl, hd.same s12, hok, s12.seqT ht, fun H3 p s3 np hp => ?_⟩
    exact q H3 p (s12.trans s3) (s12.free np) hp
theorem sc_members_of : FnScope ["layout", "place", "row", "number", "name", "view", "kind"] ["layout", "place"] (defScope s_members_of) := ⟨rfl, rfl, rfl, by decide +kernel, rfl, by decide +kernel, by decide +kernel⟩
theorem ok_members_of (T : Txt w K mg) : Prom P w K mg base 3 "members_of" ["layout", "place"] (spMembers K) := by
  have p1 := ok_path_of (P := P) (base := base) T
  refine T.d_members_of.prom sc_members_of (fun vs H Q E h => ?_) (fun f cdv A outer s H vs Q E hr h => ?_)
  · obtain ⟨v, y, ap, a, b, rfl, _⟩ := h
    rfl
  · obtain ⟨v, y, ap, a, b, rfl, hd, hok, ht, q⟩ := h
    obtain ⟨al, xs, rfl, hl, hx⟩ := dp_tup hd
    cases hx with
    | @cons v0 _ _ _ h0 hx =>
    cases hx with
    | @cons v1 _ _ _ h1 hx =>
    cases hx with
    | @cons v2 _ _ _ h2 hx =>
    cases hx with
    | @cons v3 _ _ _ h3 hx =>
    cases hx
    obtain ⟨a1, x1, rfl, l1, e1⟩ := dp_lst h1
    refine ⟨_, pss_cons (ps_set (i := 2) sc_members_of.nd rfl (Or.inr rfl) (pe_p p1 hr (by rfl) (pa_cons (pe_ix ix_tup (pv 0) pe_int (fun _ _ => rfl)) (pa_cons (pv 1) pa_nil))))
      (pss_one (ps_ret (pe_lc (own := [("number", 3), ("name", 4), ("view", 5), ("kind", 6)]) (g := gTup K 2 (gCons (gName 3) (gCons (gTup K 3 (gCons (gName 4) (gCons (gName 5) (gCons (gName 6) gNil)))) gNil)))
        (tt := tB (tOp (rIn K false) (tVar 5) (tVar 2))) (te := tVar 3) rfl sc_members_of.nd (pi_enum (by rfl) T.b_enumerate (pa_cons (pe_ix ix_tup (pv 0) pe_int (fun _ _ => rfl)) pa_nil))
        (blkOk_by (N := ["layout", "place", "row", "number", "name", "view", "kind"]) (sc := defScope s_members_of) (by decide +kernel))
        (fun _ _ _ _ _ => pg_tup rfl (pgs_cons (pg_name (i := 3) sc_members_of.nd rfl (Or.inl rfl)) (pgs_cons (pg_tup rfl (pgs_cons (pg_name (i := 4) sc_members_of.nd rfl (Or.inl rfl)) (pgs_cons (pg_name (i := 5) sc_members_of.nd rfl (Or.inl rfl)) (pgs_cons (pg_name (i := 6) sc_members_of.nd rfl (Or.inl rfl)) pgs_nil)))) pgs_nil)))
        (fun _ _ _ _ _ => pts_one (pt_cmpR op_in_seq (pv 5) (pv 2) (by rfl)))
        (fun _ _ _ _ _ => pv 3)))), ?_⟩
    refine ⟨_, rfl, al, _, _, _, rfl, rfl, hl, atI_nat (j := 0) rfl, _, rfl, v0, y.vs, ap, a, b, rfl, h0, hok.1, ht, fun H1 pr s1 npr hpr => ?_⟩
    refine ⟨_, rfl, al, _, _, _, rfl, rfl, s1.seqT hl, atI_nat (j := 1) rfl, a1, x1, rfl, s1.seq l1, fun D hD => lc_it walk_enum (fun i H' => Same H1 H' ∧ H' D = some (.lst ((memL (thePath y.vs a b) 0 (y.rs.take i)).map V.int))) ⟨Same.new hD, upd_same⟩ (fun _ _ _ p => p.1.seq (s1.seq l1)) ?_ ?_⟩
    · rintro i v H2 H3 hi ⟨s2, d2⟩ ⟨t, x0, u, rfl, nt, rfl, e0, eu⟩
      cases e0
      have s4 : Same H1 (upd H2 t (.tup [.int (i : Nat), u])) := s2.trans (Same.new nt)
      have d4 := (Same.new nt : Same H2 (upd H2 t (.tup [.int (i : Nat), u]))) _ _ d2
      have g4 : (upd H2 t (.tup [.int (i : Nat), u])) t = some (.tup [.int (i : Nat), u]) := upd_same
      generalize upd H2 t (.tup [.int (i : Nat), u]) = H4 at s4 d4 g4
      obtain ⟨d, ed, hu⟩ := dp_get e1 eu
      rw [List.getElem?_map] at ed
      cases ev : y.rs[i]? with
      | none =>
        rw [ev] at ed
        cases ed
      | some r =>
      rw [ev] at ed
      cases ed
      obtain ⟨au, ys, rfl, tu, hys⟩ := dp_tup ((hu.same s1).same s4)
      cases hys with
      | @cons w0 _ _ _ k0 hys =>
      cases hys with
      | @cons w1 _ _ _ k1 hys =>
      cases hys with
      | @cons w2 _ _ _ k2 hys =>
      cases hys
      cases k0
      cases k1
      have ilt := (List.getElem?_eq_some_iff.mp ev).1
      have len : (memL (thePath y.vs a b) 0 (y.rs.take i)).length ≤ 8 := by
        have h1 := memL_len (thePath y.vs a b) 0 (y.rs.take i)
        have h2 := hok.2.1.1
        rw [List.length_take] at h1
        omega
      have ek : ((0 : Int) + (i : Nat)) = (i : Nat) := by omega
      rw [memL_turn ev, ek]
      have hpr4 := s4 _ _ hpr
      by_cases c : r.view ∈ thePath y.vs a b
      · rw [if_pos c]
        refine ⟨t, _, rfl, .of g4, rfl, _, _, rfl, _, _, rfl, ⟨au, _, rfl, tu, rfl, _, _, rfl, _, _, rfl, _, _, rfl, rfl, rfl, rfl, _, rfl, _, rfl, pr, _, rfl, .inl (.of hpr4), rfl, flat_ints _, true, ?_, iteT ⟨_, rfl, _, d4, ?_, fun b o e => ?_, ?_⟩⟩⟩
        · show V.bl (inV (.int r.view) _) = _
          rw [inV_ints, decide_eq_true c]
        · rw [List.length_map]
          exact small1000 (by omega)
        · rw [upd_ne (ne_of_none e hD)]
          exact s4 _ _ e
        · rw [upd_same]
          simp only [List.map_append, List.map_cons, List.map_nil]
      · rw [if_neg c, List.append_nil]
        refine ⟨t, _, rfl, .of g4, rfl, _, _, rfl, _, _, rfl, ⟨au, _, rfl, tu, rfl, _, _, rfl, _, _, rfl, _, _, rfl, rfl, rfl, rfl, _, rfl, _, rfl, pr, _, rfl, .inl (.of hpr4), rfl, flat_ints _, false, ?_, s4, d4⟩⟩
        show V.bl (inV (.int r.view) _) = _
        rw [inV_ints, decide_eq_false c]
    · rintro H2 ⟨s2, d2⟩
      have hxl : x1.length = y.rs.length := by rw [dp_len e1, List.length_map]
      rw [hxl, List.take_length] at d2
      exact q H2 D (s1.trans s2) (s1.free hD) d2
theorem sc_members : FnScope ["layout", "place"] ["layout", "place"] (defScope s_members) := ⟨rfl, rfl, rfl, by decide +kernel, rfl, by decide +kernel, by decide +kernel⟩
theorem ok_members (T : Txt w K mg) : Prom P w K mg base 6 "members" ["layout", "place"] (spMembers K) := by
  have p1 := ok_require_layout (P := P) (base := base) T
  have p2 := ok_require_place (P := P) (base := base) T
  have p3 := ok_members_of (P := P) (base := base) T
  refine T.d_members.prom sc_members (fun vs H Q E h => ?_) (fun f cdv A outer s H vs Q E hr h => ?_)
  · obtain ⟨v, y, ap, a, b, rfl, _⟩ := h
    rfl
  · obtain ⟨v, y, ap, a, b, rfl, hd, hok, ht, q⟩ := h
    have hr3 : Room 3 _ := hr.mono (by decide)
    refine ⟨_, pss_cons (ps_expr (pe_p p1 hr (by rfl) (pa_cons (pv 0) pa_nil))) (pss_cons (ps_expr (pe_p p2 hr3 (by rfl) (pa_cons (pv 1) pa_nil))) (pss_one (ps_ret (pe_p p3 hr3 (by rfl) (pa_cons (pv 0) (pa_cons (pv 1) pa_nil)))))), ?_⟩
    refine ⟨_, rfl, v, y, rfl, hd, hok, fun H1 s1 => ⟨_, rfl, ap, a, b, rfl, s1.seqT ht, fun H2 s2 => ?_⟩⟩
    have s12 := s1.trans s2
    refine ⟨_, rfl, _, rfl, v, y, ap, a, b, rfl, hd.same s12, hok, s12.seqT ht, fun H3 p s3 np hp => ?_⟩
    exact q H3 p (s12.trans s3) (s12.free np) hp
end
end TC

/-! The law's draws: the fount and one draw. -/
namespace TC
open PySem PySem.Spec PySem.Calls PyProof.Rows L2

/-- a fount at f that has given at most n mixed draws -/
def FAt (H : Hp) (f : Addr) (n : Int) : Prop := ∃ a b c : Int, H f = some (.lst [.int a, .int b, .int c]) ∧ 0 ≤ a ∧ (0 ≤ b ∧ b < 2 ^ 200) ∧ 0 ≤ c ∧ c ≤ n
theorem FAt.mono {H : Hp} {f : Addr} {n m : Int} (h : FAt H f n) (hl : n ≤ m) : FAt H f m := by
  obtain ⟨a, b, c, h1, h2, h3, h4, h5⟩ := h
  exact ⟨a, b, c, h1, h2, h3, h4, Int.le_trans h5 hl⟩
theorem FAt.same {H H' : Hp} {f : Addr} {n : Int} (h : FAt H f n) (s : Same H H') : FAt H' f n := by
  obtain ⟨a, b, c, h1, h2⟩ := h
  exact ⟨a, b, c, s _ _ h1, h2⟩
theorem FAt.there {H : Hp} {f : Addr} {n : Int} (h : FAt H f n) : H f ≠ none := by
  obtain ⟨a, b, c, h1, h2⟩ := h
  rw [h1]
  exact fun q => nomatch q
theorem FAt.keep {H H' : Hp} {f : Addr} {n : Int} {L : List Addr} (h : FAt H f n) (k : Keep L H H') (hf : f ∉ L) : FAt H' f n := by
  obtain ⟨a, b, c, h1, h2⟩ := h
  exact ⟨a, b, c, k _ _ hf h1, h2⟩
def FAt.lim : Int := 1000000000000
def spFount (K : PySem.W.Frag) : Sp := fun vs H Q _ => ∃ (a : Addr) (ns : List Int) (k : Int), vs = [.ref a, .int k] ∧ SqL K H a (ns.map V.int) ∧ 0 ≤ k ∧ k < 64 ∧ ∀ f H', Same H H' → H f = none → FAt H' f 0 → Q (.ref f) H'
def spDip : Sp := fun vs H Q _ => ∃ (f : Addr) (n m : Int), vs = [.ref f, .int m] ∧ FAt H f n ∧ n ≤ FAt.lim ∧ 0 < m ∧ m < 1073741824 ∧ ∀ d H', 0 ≤ d → d < m → Keep [f] H H' → FAt H' f (n + 1) → Q (.int d) H'
theorem p39 : (10 : Int) ^ (39 : Int).toNat = 1000000000000000000000000000000000000000 := by decide +kernel
theorem p41 : (10 : Int) ^ (41 : Int).toNat = 100000000000000000000000000000000000000000 := by decide +kernel
theorem p38 : (10 : Int) ^ (38 : Int).toNat = 100000000000000000000000000000000000000 := by decide +kernel
theorem p7 : (10 : Int) ^ (7 : Int).toNat = 10000000 := by decide +kernel
theorem p200 : (2 : Int) ^ 200 = 1606938044258990275541962092341162602522202993782792835301376 := by decide +kernel
theorem log2_lt {i : Int} {n : Nat} (h0 : 0 ≤ i) (hn : 0 < n) (h : i < 2 ^ n) : i.natAbs.log2 < n := by
  refine PySem.Flt.log2_lt_of hn ?_
  have e : ((i.natAbs : Nat) : Int) = i := Int.natAbs_of_nonneg h0
  have e2 : (((2 ^ n : Nat)) : Int) = (2 : Int) ^ n := by simp
  have : ((i.natAbs : Nat) : Int) < ((2 ^ n : Nat) : Int) := by rw [e, e2]; exact h
  exact Int.ofNat_lt.mp this
section
variable {P : Program} {w : World} {K : PySem.W.Frag} {mg : Str → Option Value} {base : Heap}
theorem sc_fount : FnScope ["_law_script", "_law_k", "_law_cell"] ["_law_script", "_law_k"] (defScope s_law_fount) := ⟨rfl, rfl, rfl, by decide +kernel, rfl, by decide +kernel, by decide +kernel⟩
theorem ok_fount (T : Txt w K mg) : Prom P w K mg base 1 "_law_fount" ["_law_script", "_law_k"] (spFount K) := by
  refine T.d_law_fount.prom sc_fount (fun vs H Q E h => ?_) (fun f cdv A outer s H vs Q E hr h => ?_)
  · obtain ⟨a, ns, k, rfl, _⟩ := h
    rfl
  · obtain ⟨a, ns, k, rfl, hl, h0, h64, q⟩ := h
    refine ⟨_, pss_cons (ps_set (i := 2) sc_fount.nd rfl (Or.inl rfl) (pe_ifExp (pt_cmp (pc_lt (pv 1) (pe_callB call_len_seq (by rfl) T.b_len PySem.boot_len (pa_cons (pv 0) pa_nil)))) (pe_ix ix_list (pv 0) (pv 1) (fun _ _ => rfl)) pe_int))
      (pss_one (ps_ret (pe_lst (pa_cons (pe_callB (call_max2 rfl) (by rfl) T.b_max (by decide +kernel) (pa_cons pe_int (pa_cons (pe_op op_sub (pv 2) (pe_op op_pow pe_int pe_int)) pa_nil)))
        (pa_cons (pe_op op_add (pe_op op_mul (pe_op op_add (pe_op op_mod (pe_callTy call_int1 (by rfl) T.b_int (by decide +kernel) (pa_cons (pv 2) pa_nil)) (pe_op op_add (pe_op op_pow pe_int pe_int) pe_int)) pe_int) pe_int) (pv 1))
        (pa_cons pe_int pa_nil)))))), ?_⟩
    have rest : ∀ cell : Int, tRet (tLst (tCons (tCB (fun xs H Q => ∃ i j, xs = [.int i, .int j] ∧ Q (.int (if j > i then j else i)) H) (tCons (tC (.int 0)) (tCons (tOp (rI0 fun i j => .int (i - j)) (tVar 2) (tOp (rI CPow fun i j => .int (i ^ j.toNat)) (tC (.int 10)) (tC (.int 18)))) tNil)))
        (tCons (tOp (rI0 fun i j => .int (i + j)) (tOp (rI CMul fun i j => .int (i * j)) (tOp (rI0 fun i j => .int (i + j)) (tOp (rI (fun _ j => 0 < j) fun i j => .int (i % j)) (tCB (fun xs H Q => (∃ i, xs = [.int i] ∧ Q (.int i) H) ∨ ∃ k, xs = [.bl k] ∧ Q (.int (if k then 1 else 0)) H) (tCons (tVar 2) tNil))
          (tOp (rI0 fun i j => .int (i + j)) (tOp (rI CPow fun i j => .int (i ^ j.toNat)) (tC (.int 10)) (tC (.int 39))) (tC (.int 23)))) (tC (.int 11))) (tC (.int 64))) (tVar 1)) (tCons (tC (.int 0)) tNil))))
        { nx := fun _ H' => Q .non H', rt := Q } [some (.ref a), some (.int k), some (.int cell)] H := by
      intro cell
      refine ⟨_, rfl, _, _, rfl, rfl, ⟨by decide, by decide, by decide⟩, _, _, rfl, rfl, _, _, rfl, ?_⟩
      refine ⟨_, rfl, .inl ⟨_, rfl, _, _, rfl, rfl, ⟨by decide, by decide, by decide⟩, _, _, rfl, rfl, _, _, rfl, rfl, ?_, _, _, rfl, rfl, _, _, rfl, rfl, .inr ⟨by decide, by decide⟩, _, rfl, _, _, rfl, rfl, ?_⟩⟩
      · show (0 : Int) < 10 ^ (39 : Int).toNat + 23
        rw [p39]
        decide
      refine ⟨(show 3 ≤ sizeLine by decide), fun f nf => q f _ (Same.new nf) nf ⟨_, _, _, upd_same, ?_, ⟨?_, ?_⟩, Int.le_refl _, Int.le_refl _⟩⟩
      · split <;> omega
      · have h1 : 0 ≤ cell % (10 ^ (39 : Int).toNat + 23) := Int.emod_nonneg _ (by rw [p39]; decide)
        generalize cell % (10 ^ (39 : Int).toNat + 23) = z at h1 ⊢
        omega
      · have h1 : cell % (10 ^ (39 : Int).toNat + 23) < 10 ^ (39 : Int).toNat + 23 := Int.emod_lt_of_pos _ (by rw [p39]; decide)
        generalize cell % (10 ^ (39 : Int).toNat + 23) = z at h1 ⊢
        rw [p39] at h1
        rw [p200]
        omega
    by_cases c : k < ((ns.map V.int).length : Int)
    · have hk : k.toNat < ns.length := by rw [List.length_map] at c; omega
      refine ⟨_, rfl, _, rfl, a, _, rfl, .inl hl, _, _, rfl, rfl, true, eT c, iteT ⟨_, rfl, _, rfl, a, _, _, .int ns[k.toNat], rfl, rfl, hl, ?_, rest _⟩⟩
      refine at_of (j := k.toNat) (by omega) ?_
      rw [List.getElem?_map, List.getElem?_eq_getElem hk]
      all_goals rfl
    · exact ⟨_, rfl, _, rfl, a, _, rfl, .inl hl, _, _, rfl, rfl, false, eF c, iteF (rest _)⟩
theorem sc_dip : FnScope ["_law_fount_here", "_law_many", "_law_digit", "_law_mixed"] ["_law_fount_here", "_law_many"] (defScope s_law_dip) := ⟨rfl, rfl, rfl, by decide +kernel, rfl, by decide +kernel, by decide +kernel⟩
theorem ok_dip (T : Txt w K mg) : Prom P w K mg base 1 "_law_dip" ["_law_fount_here", "_law_many"] spDip := by
  refine T.d_law_dip.prom sc_dip (fun vs H Q E h => ?_) (fun f cdv A outer s H vs Q E hr h => ?_)
  · obtain ⟨f, n, m, rfl, _⟩ := h
    rfl
  · obtain ⟨f, n, m, rfl, ⟨a, b, c, hf, ha, ⟨hb0, hb⟩, hc0, hc⟩, hn, hm0, hm, q⟩ := h
    refine ⟨_, pss_cons (ps_if (pt_cmp (pc_gt (pe_ix ix_list (pv 0) pe_int (fun _ _ => rfl)) pe_int))
        (pss_cons (ps_set (i := 2) sc_dip.nd rfl (Or.inl rfl) (pe_op op_mod (pe_callTy call_int1 (by rfl) T.b_int (by decide +kernel) (pa_cons (pe_ix ix_list (pv 0) pe_int (fun _ _ => rfl)) pa_nil)) (pv 1)))
        (pss_cons (ps_asg (pe_op op_fdiv (pe_ix ix_list (pv 0) pe_int (fun _ _ => rfl)) (pv 1)) (pg_sub (pv 0) pe_int set_list))
        (pss_one (ps_ret (pv 2))))) pss_nil)
      (pss_cons (ps_asg (pe_op op_add (pe_ix ix_list (pv 0) pe_int (fun _ _ => rfl)) pe_int) (pg_sub (pv 0) pe_int set_list))
      (pss_cons (ps_set (i := 3) sc_dip.nd rfl (Or.inl rfl) (pe_op op_mod (pe_callTy call_int1 (by rfl) T.b_int (by decide +kernel) (pa_cons (pe_op op_powW (pe_op op_add (pe_ix ix_list (pv 0) pe_int (fun _ _ => rfl)) (pe_op op_mul pe_int (pe_ix ix_list (pv 0) pe_int (fun _ _ => rfl)))) pe_int) pa_nil)) (pe_op op_add (pe_op op_pow pe_int pe_int) pe_int)))
      (pss_cons (ps_set (i := 3) sc_dip.nd rfl (Or.inl rfl) (pe_op op_mod (pe_callTy call_int1 (by rfl) T.b_int (by decide +kernel) (pa_cons (pe_op op_powW (pe_op op_add (pv 3) (pe_op op_mul pe_int (pe_ix ix_list (pv 0) pe_int (fun _ _ => rfl)))) pe_int) pa_nil)) (pe_op op_add (pe_op op_pow pe_int pe_int) pe_int)))
      (pss_one (ps_ret (pe_op op_mod (pe_callTy call_int1 (by rfl) T.b_int (by decide +kernel) (pa_cons (pe_op op_fdiv (pv 3) (pe_op op_pow pe_int pe_int)) pa_nil)) (pv 1))))))), ?_⟩
    have i0 : atI [V.int a, V.int b, V.int c] 0 = some (.int a) := atI_nat (j := 0) rfl
    have i2 : atI [V.int a, V.int b, V.int c] 2 = some (.int c) := atI_nat (j := 2) rfl
    by_cases hpos : 0 < a
    · refine ⟨_, rfl, f, _, _, _, rfl, rfl, .of hf, i0, _, _, rfl, rfl, true, eT hpos, iteT ?_⟩
      refine ⟨_, rfl, f, _, _, _, rfl, rfl, .of hf, i0, .inl ⟨_, rfl, _, rfl, _, _, rfl, rfl, hm0, ?_⟩⟩
      refine ⟨_, rfl, f, _, _, _, rfl, rfl, .of hf, i0, _, rfl, _, _, rfl, rfl, ⟨hm0, hm⟩, _, rfl, f, _, _, 0, rfl, rfl, hf, rfl, ?_⟩
      refine ⟨_, rfl, ?_⟩
      refine q _ _ (Int.emod_nonneg _ (by omega)) (Int.emod_lt_of_pos _ hm0) (Keep.set List.mem_cons_self) ⟨a / m, b, c, upd_same, Int.ediv_nonneg ha (by omega), ⟨hb0, hb⟩, hc0, by omega⟩
    · refine ⟨_, rfl, f, _, _, _, rfl, rfl, .of hf, i0, _, _, rfl, rfl, false, eF hpos, iteF ?_⟩
      refine ⟨_, rfl, f, _, _, _, rfl, rfl, .of hf, i2, _, _, rfl, rfl, _, rfl, f, _, _, 2, rfl, rfl, hf, rfl, ?_⟩
      have h1 : (upd H f (.lst [.int a, .int b, .int (c + 1)])) f = some (.lst [.int a, .int b, .int (c + 1)]) := upd_same
      have k1 : Keep [f] H (upd H f (.lst [.int a, .int b, .int (c + 1)])) := Keep.set List.mem_cons_self
      have e1 : ([V.int a, V.int b, V.int c].set 2 (.int (c + 1))) = [.int a, .int b, .int (c + 1)] := rfl
      have e2 : (upd H f (.lst ([V.int a, V.int b, V.int c].set 2 (.int (c + 1))))) = upd H f (.lst [.int a, .int b, .int (c + 1)]) := rfl
      have j1 : atI [V.int a, V.int b, V.int (c + 1)] 1 = some (.int b) := atI_nat (j := 1) rfl
      have j2 : atI [V.int a, V.int b, V.int (c + 1)] 2 = some (.int (c + 1)) := atI_nat (j := 2) rfl
      have hl : FAt.lim = 1000000000000 := rfl
      rw [p200] at hb
      rw [e2]
      generalize upd H f (.lst [.int a, .int b, .int (c + 1)]) = H1 at h1 k1 ⊢
      refine ⟨_, rfl, f, _, _, _, rfl, rfl, .of h1, j1, _, rfl, f, _, _, _, rfl, rfl, .of h1, j2, _, _, rfl, rfl, .inl ⟨by decide, by decide⟩, _, _, rfl, rfl, _, _, rfl, rfl, ⟨by decide, by decide, ?_⟩, .inl ⟨_, rfl, _, _, rfl, rfl, ⟨by decide, by decide, by decide⟩, _, _, rfl, rfl, _, _, rfl, rfl, ?_, ?_⟩⟩
      · refine Nat.lt_trans (log2_lt (n := 201) (by omega) (by decide) ?_) (by decide)
        have : (2 : Int) ^ 201 = 3213876088517980551083924184682325205044405987565585670602752 := by decide +kernel
        rw [this]
        omega
      · show (0 : Int) < 10 ^ (41 : Int).toNat + 9
        rw [p41]
        decide
      generalize hz : (b + 86028121 * (c + 1)) ^ (3 : Int).toNat % (10 ^ (41 : Int).toNat + 9) = z
      have z0 : 0 ≤ z := by rw [← hz]; exact Int.emod_nonneg _ (by rw [p41]; decide)
      have z1 : z < 100000000000000000000000000000000000000009 := by
        rw [← hz]
        refine Int.lt_of_lt_of_le (Int.emod_lt_of_pos _ (by rw [p41]; decide)) ?_
        rw [p41]
        decide
      refine ⟨_, rfl, _, rfl, f, _, _, _, rfl, rfl, .of h1, j2, _, _, rfl, rfl, .inl ⟨by decide, by decide⟩, _, _, rfl, rfl, _, _, rfl, rfl, ⟨by decide, by decide, ?_⟩, .inl ⟨_, rfl, _, _, rfl, rfl, ⟨by decide, by decide, by decide⟩, _, _, rfl, rfl, _, _, rfl, rfl, ?_, ?_⟩⟩
      · refine Nat.lt_trans (log2_lt (n := 201) (by omega) (by decide) ?_) (by decide)
        have : (2 : Int) ^ 201 = 3213876088517980551083924184682325205044405987565585670602752 := by decide +kernel
        rw [this]
        omega
      · show (0 : Int) < 10 ^ (38 : Int).toNat + 67
        rw [p38]
        decide
      refine ⟨_, rfl, _, _, rfl, rfl, ⟨by decide, by decide, by decide⟩, _, _, rfl, rfl, ⟨by decide, by decide⟩, .inl ⟨_, rfl, _, rfl, _, _, rfl, rfl, hm0, ?_⟩⟩
      refine q _ _ (Int.emod_nonneg _ (by omega)) (Int.emod_lt_of_pos _ hm0) k1 ⟨a, b, c + 1, h1, ha, ⟨hb0, by rw [p200]; exact hb⟩, by omega, by omega⟩
end
end TC

/-! The law's views: _law_small. -/
namespace TC
open PySem PySem.Spec PySem.Calls PyProof.Rows L2

/-- borders within B -/
def VwBd (B : Int) (v : Vw) : Prop := -B ≤ v.l ∧ v.r ≤ B ∧ -B ≤ v.t ∧ v.b ≤ B
def VsBd (B : Int) (vs : List Vw) : Prop := ∀ v ∈ vs, VwBd B v
/-- VsOk but the number of views -/
def VsOk0 (vs : List Vw) : Prop := ∀ (i : Nat) (v : Vw), vs[i]? = some v → v.ok ((i : Int) + 1)
theorem VsOk0.snoc {vs : List Vw} {v : Vw} (h : VsOk0 vs) (hv : v.ok ((vs.length : Int) + 1)) : VsOk0 (vs ++ [v]) := by
  intro i u e
  by_cases hi : i < vs.length
  · rw [List.getElem?_append_left hi] at e
    exact h i u e
  · have hl := (List.getElem?_eq_some_iff.mp e).1
    rw [List.length_append] at hl
    have e1 : i = vs.length := by simp only [List.length_cons, List.length_nil] at hl; omega
    subst e1
    rw [List.getElem?_append_right (Nat.le_refl _), Nat.sub_self] at e
    cases e
    exact hv
theorem VsBd.snoc {B : Int} {vs : List Vw} {v : Vw} (h : VsBd B vs) (hv : VwBd B v) : VsBd B (vs ++ [v]) := by
  intro u hu
  rcases List.mem_append.mp hu with q | q
  · exact h u q
  · rw [List.mem_singleton.mp q]
    exact hv
/-- a tuple that stands outside L -/
theorem hid_at {L : List Addr} {H : Hp} {a : Addr} {o : HO} (e : H a = some o) (h : a ∉ L) : hid L H a = some o := by
  rw [hid_out h]
  exact e
def spSmall (K : PySem.W.Frag) : Sp := fun vs H Q _ => ∃ (f : Addr) (n m : Int), vs = [.ref f, .int m] ∧ FAt H f n ∧ n + 1000 ≤ FAt.lim ∧ 0 ≤ m ∧ m ≤ 12 ∧ ∀ (ws : List Vw) (p : Addr) (xs : List V) (H' : Hp), (ws.length : Int) = m → VsOk ws → VsBd 8 ws → Keep [f] H H' → H p = none →
  H' p = some (.lst xs) → DpAll K (hid [f] H') xs (ws.map Vw.data) → FAt H' f (n + 100) → Q (.ref p) H'
section
variable {P : Program} {w : World} {K : PySem.W.Frag} {mg : Str → Option Value} {base : Heap}
theorem sc_small : FnScope ["_law_fount_here", "_law_many", "_law_found", "_law_number", "_law_parent", "_law_left", "_law_top", "_law_right_here", "_law_bottom", "_law_way"] ["_law_fount_here", "_law_many"] (defScope s_law_small) := ⟨rfl, rfl, rfl, by decide +kernel, rfl, by decide +kernel, by decide +kernel⟩
theorem ok_small (T : Txt w K mg) : Prom P w K mg base 2 "_law_small" ["_law_fount_here", "_law_many"] (spSmall K) := by
  have pD := ok_dip (P := P) (base := base) T
  refine T.d_law_small.prom sc_small (fun vs H Q E h => ?_) (fun f0 cdv A outer s H vs Q E hr h => ?_)
  · obtain ⟨f, n, m, rfl, _⟩ := h
    rfl
  · obtain ⟨f, n, m, rfl, hF, hn, h0, h12, q⟩ := h
    have hlim : FAt.lim = 1000000000000 := rfl
    refine ⟨_, pss_cons (ps_set (i := 2) sc_small.nd rfl (Or.inl rfl) (pe_lst pa_nil))
      (pss_cons (ps_for PassesOwn.never rfl (pi_range1 (by rfl) T.b_range (pa_cons (pv 1) pa_nil)) (pg_name (i := 3) sc_small.nd rfl (Or.inl rfl))
        (pss_cons (ps_set (i := 4) sc_small.nd rfl (Or.inl rfl) (pe_p pD hr (by rfl) (pa_cons (pv 0) (pa_cons (pe_op op_add (pv 3) pe_int) pa_nil))))
        (pss_cons (ps_par (i := 5) (j := 6) (by rfl) sc_small.nd rfl rfl (by decide) rfl rfl (pa_cons (pe_op op_sub (pe_p pD hr (by rfl) (pa_cons (pv 0) (pa_cons pe_int pa_nil))) pe_int) (pa_cons (pe_op op_sub (pe_p pD hr (by rfl) (pa_cons (pv 0) (pa_cons pe_int pa_nil))) pe_int) pa_nil)) (by rfl))
        (pss_cons (ps_par (i := 7) (j := 8) (by rfl) sc_small.nd rfl rfl (by decide) rfl rfl (pa_cons (pe_op op_add (pe_op op_add (pv 5) pe_int) (pe_p pD hr (by rfl) (pa_cons (pv 0) (pa_cons (pe_op op_sub pe_int (pv 5)) pa_nil))))
          (pa_cons (pe_op op_add (pe_op op_add (pv 6) pe_int) (pe_p pD hr (by rfl) (pa_cons (pv 0) (pa_cons (pe_op op_sub pe_int (pv 6)) pa_nil)))) pa_nil)) (by rfl))
        (pss_cons (ps_set (i := 9) sc_small.nd rfl (Or.inl rfl) (pe_p pD hr (by rfl) (pa_cons (pv 0) (pa_cons pe_int pa_nil))))
        (pss_cons (ps_if (pt_cmp (pc_eqI (pv 9) pe_int))
          (pss_one (ps_asg (pe_tup (pa_cons (pe_un un_neg pe_int) (pa_cons (pe_un un_neg pe_int) (pa_cons pe_int (pa_cons pe_int pa_nil)))))
            (pg_tup rfl (pgs_cons (pg_name (i := 5) sc_small.nd rfl (Or.inl rfl)) (pgs_cons (pg_name (i := 6) sc_small.nd rfl (Or.inl rfl)) (pgs_cons (pg_name (i := 7) sc_small.nd rfl (Or.inl rfl)) (pgs_cons (pg_name (i := 8) sc_small.nd rfl (Or.inl rfl)) pgs_nil)))))))
          (pss_one (ps_if (PW.pt (pw_and (pt_cmp (pc_eqI (pv 9) pe_int)) (pw_and1 (pt_cmp (pc_gt (pv 4) pe_int)))))
            (pss_one (ps_asg (pe_slice sl_tup (pe_ix ix_list (pv 2) (pe_op op_sub (pv 4) pe_int) (fun _ _ => rfl)) (po_some pe_int) po_none)
              (pg_tup rfl (pgs_cons (pg_name (i := 5) sc_small.nd rfl (Or.inl rfl)) (pgs_cons (pg_name (i := 6) sc_small.nd rfl (Or.inl rfl)) (pgs_cons (pg_name (i := 7) sc_small.nd rfl (Or.inl rfl)) (pgs_cons (pg_name (i := 8) sc_small.nd rfl (Or.inl rfl)) pgs_nil)))))))
            pss_nil)))
        (pss_one (ps_expr (pe_bm PySem.F.plainAttrs_list PySem.F.slot_list_append PySem.F.type_list_append mt_append (pv 2) (pa_cons (pe_tup (pa_cons (pv 4) (pa_cons (pv 5) (pa_cons (pv 6) (pa_cons (pv 7) (pa_cons (pv 8) pa_nil)))))) pa_nil))))))))))
      (pss_one (ps_ret (pv 2)))), ?_⟩
    refine ⟨Nat.zero_le _, fun l nl => ?_⟩
    have fl : f ≠ l := by
      rintro rfl
      exact hF.there nl
    refine ⟨_, rfl, m, rfl, by omega, by omega, for_range (fun (i : Nat) σ H' => ∃ (ws : List Vw) (xs : List V) (s3 s4 s5 s6 s7 s8 s9 : Option V), σ = [some (.ref f), some (.int m), some (.ref l), s3, s4, s5, s6, s7, s8, s9] ∧ Keep [f] H H' ∧
      H' l = some (.lst xs) ∧ DpAll K (hid [f, l] H') xs (ws.map Vw.data) ∧ ws.length = i ∧ VsOk0 ws ∧ VsBd 8 ws ∧ FAt H' f (n + 6 * i)) ?_ ?_ ?_⟩
    · refine ⟨[], [], none, none, none, none, none, none, none, rfl, Keep.new nl, upd_same, .nil, rfl, fun i v e => by simp at e, fun v hv => absurd hv List.not_mem_nil, ?_⟩
      exact (hF.same (Same.new nl)).mono (by omega)
    · rintro i σ H1 hi ⟨ws, xs, s3, s4, s5, s6, s7, s8, s9, rfl, k1, hl1, hd1, hws, hok, hbd, hF1⟩
      have hi12 : (i : Int) < 12 := by omega
      -- the append, whatever the borders are
      have fin : ∀ (D : Ends) (z3 z9 : Option V) (p L T R B : Int) (H5 : Hp), Keep [f, l] H1 H5 → Keep [f] H H5 → H5 l = some (.lst xs) → FAt H5 f (n + 6 * i + 6) → 0 ≤ p → p < i + 1 → L < R → T < B → -8 ≤ L → R ≤ 8 → -8 ≤ T → B ≤ 8 →
          (∀ H6, (∃ (ws : List Vw) (xs : List V) (s3 s4 s5 s6 s7 s8 s9 : Option V), [some (V.ref f), some (.int m), some (.ref l), z3, some (.int p), some (.int L), some (.int T), some (.int R), some (.int B), z9] = [some (.ref f), some (.int m), some (.ref l), s3, s4, s5, s6, s7, s8, s9] ∧ Keep [f] H H6 ∧
            H6 l = some (.lst xs) ∧ DpAll K (hid [f, l] H6) xs (ws.map Vw.data) ∧ ws.length = i + 1 ∧ VsOk0 ws ∧ VsBd 8 ws ∧ FAt H6 f (n + 6 * (i + 1 : Nat))) →
            D.nx [some (V.ref f), some (.int m), some (.ref l), z3, some (.int p), some (.int L), some (.int T), some (.int R), some (.int B), z9] H6) →
          tDrop (tBM K "list" rAppend (tVar 2) (tCons (tTup (tCons (tVar 4) (tCons (tVar 5) (tCons (tVar 6) (tCons (tVar 7) (tCons (tVar 8) tNil)))))) tNil)) D
            [some (V.ref f), some (.int m), some (.ref l), z3, some (.int p), some (.int L), some (.int T), some (.int R), some (.int B), z9] H5 := by
        intro D z3 z9 p L T R B H5 kk k5 hl5 hF5 hp0 hp1 hLR hTB b1 b2 b3 b4 hD
        refine ⟨_, rfl, .inl ⟨rfl, _, .of hl5⟩, _, rfl, _, rfl, _, rfl, _, rfl, _, rfl, (show 5 ≤ sizeLine by decide), fun t nt => ?_⟩
        have lt : l ≠ t := ne_of_none hl5 nt
        have ft : f ≠ t := by
          rintro rfl
          exact hF5.there nt
        have tl : t ∉ [f, l] := by
          intro hm
          rcases List.mem_cons.mp hm with z | z
          · exact ft z.symm
          · exact lt (List.mem_singleton.mp z).symm
        have hxs : xs.length ≤ 12 := by
          have := dp_len hd1
          rw [List.length_map] at this
          omega
        refine ⟨l, xs, _, rfl, rfl, (Same.new nt) _ _ hl5, small1000 (by omega), hD _ ⟨ws ++ [⟨p, L, T, R, B⟩], xs ++ [.ref t], _, _, _, _, _, _, _, rfl, ?_, upd_same, ?_, ?_, hok.snoc ?_, hbd.snoc ⟨b1, b2, b3, b4⟩, ?_⟩⟩
        · intro b o hb e
          have bl : b ≠ l := ne_of_none e nl
          rw [upd_ne bl]
          exact (Same.new nt) _ _ (k5 b o hb e)
        · have kk2 : Keep [f, l] H1 (upd (upd H5 t (.tup [.int p, .int L, .int T, .int R, .int B])) l (.lst (xs ++ [.ref t]))) :=
            (kk.trans (Keep.of (Same.new nt))).trans (Keep.set (by simp))
          rw [List.map_append]
          refine dp_append (DpAll.same kk2.same hd1) (.cons (.tup (.of (hid_at (by rw [upd_ne lt.symm]; exact upd_same) tl)) (ints_dp (ns := [p, L, T, R, B]))) .nil)
        · rw [List.length_append, hws]
          all_goals rfl
        · exact ⟨hp0, by rw [hws]; exact hp1, hLR, hTB⟩
        · obtain ⟨a, b, c, g1, g2, g3, g4, g5⟩ := hF5
          exact ⟨a, b, c, by rw [upd_ne fl, upd_ne ft]; exact g1, g2, g3, g4, by omega⟩
      -- the draws
      have keepL : ∀ {Ha Hb : Hp}, Keep [f] Ha Hb → Keep [f, l] Ha Hb := fun k => k.mono fun b hb => by rw [List.mem_singleton.mp hb]; exact List.mem_cons_self
      have lnf : l ∉ [f] := fun z => fl (List.mem_singleton.mp z).symm
      refine ⟨_, rfl, _, rfl, _, _, rfl, rfl, f, _, _, rfl, hF1, by omega, by omega, by omega, fun p H2 hp0 hp1 k2 hF2 => ?_⟩
      refine ⟨_, rfl, f, _, _, rfl, hF2, by omega, by decide, by decide, fun d1 H3 d10 d11 k3 hF3 => ⟨_, _, rfl, rfl, _, rfl, f, _, _, rfl, hF3, by omega, by decide, by decide, fun d2 H4 d20 d21 k4 hF4 => ⟨_, _, rfl, rfl, _, _, rfl, ?_⟩⟩⟩
      refine ⟨_, rfl, _, _, rfl, rfl, _, rfl, _, rfl, _, _, rfl, rfl, f, _, _, rfl, hF4, by omega, by omega, by omega, fun d3 H5 d30 d31 k5 hF5 => ⟨_, _, rfl, rfl, _, rfl, _, _, rfl, rfl, _, rfl, _, rfl, _, _, rfl, rfl, f, _, _, rfl, hF5, by omega, by omega, by omega, fun d4 H6 d40 d41 k6 hF6 => ⟨_, _, rfl, rfl, _, _, rfl, ?_⟩⟩⟩
      refine ⟨_, rfl, f, _, _, rfl, hF6, by omega, by decide, by decide, fun way H7 w0 w1 k7 hF7 => ?_⟩
      have ka : Keep [f] H1 H7 := ((((k2.trans k3).trans k4).trans k5).trans k6).trans k7
      have hl7 : H7 l = some (.lst xs) := ka _ _ lnf hl1
      have hF7' : FAt H7 f (n + 6 * i + 6) := hF7.mono (by omega)
      have kH7 : Keep [f] H H7 := k1.trans ka
      clear k2 k3 k4 k5 k6 k7 hF2 hF3 hF4 hF5 hF6 hF7
      by_cases c0 : way = 0
      · refine ⟨_, rfl, _, _, rfl, rfl, true, eT c0, iteT ?_⟩
        refine ⟨4, rfl, 4, rfl, (show 4 ≤ sizeLine by decide), fun t nt => ⟨t, _, rfl, .of upd_same, rfl, _, _, rfl, _, _, rfl, _, _, rfl, _, _, rfl, rfl, ?_⟩⟩
        exact fin _ _ _ p (-4) (-4) 8 8 _ ((keepL ka).trans (Keep.of (Same.new nt))) (kH7.trans (Keep.of (Same.new nt))) (Same.new nt _ _ hl7) (hF7'.same (Same.new nt)) hp0 (by omega) (by decide) (by decide) (by decide) (by decide) (by decide) (by decide) fun H6 h => h
      · refine ⟨_, rfl, _, _, rfl, rfl, false, eF c0, iteF ?_⟩
        by_cases c1 : way = 1 ∧ 0 < p
        · refine ⟨_, rfl, _, _, rfl, rfl, true, eT c1.1, iteT ⟨_, rfl, _, _, rfl, rfl, true, eT c1.2, iteT ?_⟩⟩
          have hpl : (p - 1).toNat < ws.length := by omega
          obtain ⟨u, eu, hu⟩ := dp_at hd1 (i := (p - 1).toNat) (d := (ws[(p - 1).toNat]).data) (by rw [List.getElem?_map, List.getElem?_eq_getElem hpl]; rfl)
          have hv := hok _ _ (List.getElem?_eq_getElem hpl)
          have hb := hbd _ (List.getElem_mem hpl)
          generalize ws[(p - 1).toNat] = vw at hu hv hb
          obtain ⟨au, rfl, tu⟩ := dp_tints (hu.same (keepL ka).same)
          have tu7 := hid_same.seqT tu
          refine ⟨_, rfl, _, rfl, _, _, rfl, rfl, l, _, _, _, rfl, rfl, .of hl7, at_of (j := (p - 1).toNat) (by omega) eu, 1, rfl, au, _, rfl, tu7, ?_, fun t nt => ?_⟩
          · show ¬ (HT.sIx 5 0 (some 1) = 0 ∧ _)
            exact fun z => absurd z.1 (by decide)
          refine ⟨t, _, rfl, .of upd_same, rfl, _, _, rfl, _, _, rfl, _, _, rfl, _, _, rfl, rfl, ?_⟩
          exact fin _ _ _ p vw.l vw.t vw.r vw.b _ ((keepL ka).trans (Keep.of (Same.new nt))) (kH7.trans (Keep.of (Same.new nt))) (Same.new nt _ _ hl7) (hF7'.same (Same.new nt)) hp0 (by omega) hv.2.2.1 hv.2.2.2 hb.1 hb.2.1 hb.2.2.1 hb.2.2.2 fun H6 h => h
        · by_cases c2 : way = 1
          · refine ⟨_, rfl, _, _, rfl, rfl, true, eT c2, iteT ⟨_, rfl, _, _, rfl, rfl, false, eF fun z => c1 ⟨c2, z⟩, iteF ?_⟩⟩
            exact fin _ _ _ p (d1 - 4) (d2 - 4) (d1 - 4 + 1 + d3) (d2 - 4 + 1 + d4) _ (keepL ka) kH7 hl7 hF7' hp0 (by omega) (by omega) (by omega) (by omega) (by omega) (by omega) (by omega) fun H6 h => h
          · refine ⟨_, rfl, _, _, rfl, rfl, false, eF c2, iteF (iteF ?_)⟩
            exact fin _ _ _ p (d1 - 4) (d2 - 4) (d1 - 4 + 1 + d3) (d2 - 4 + 1 + d4) _ (keepL ka) kH7 hl7 hF7' hp0 (by omega) (by omega) (by omega) (by omega) (by omega) (by omega) (by omega) fun H6 h => h
    · rintro σ H1 ⟨ws, xs, s3, s4, s5, s6, s7, s8, s9, rfl, k1, hl1, hd1, hws, hok, hbd, hF1⟩
      refine ⟨_, rfl, q ws l xs H1 (by omega) ⟨by omega, hok⟩ hbd k1 nl hl1 (DpAll.same (hid_sub fun b hb => by rw [List.mem_singleton.mp hb]; exact List.mem_cons_self) hd1) (hF1.mono (by omega))⟩
end
end TC

/-! The law's kinds: _law_kind. -/
namespace TC
open PySem PySem.Spec PySem.Calls PyProof.Rows L2

def spKindL (K : PySem.W.Frag) : Sp := fun vs H Q _ => ∃ (f : Addr) (n m : Int), vs = [.ref f, .int m] ∧ FAt H f n ∧ n + 1000 ≤ FAt.lim ∧ 1 ≤ m ∧ m ≤ 1000000000 ∧ ∀ (v : V) (k : Kd) (H' : Hp), k.ok → Keep [f] H H' → Dp K (hid [f] H') v k.data → FAt H' f (n + 6) → Q v H'
theorem out1 {f t : Addr} {H : Hp} {n : Int} (h : FAt H f n) (nt : H t = none) : t ∉ [f] := fun z => h.there (by rw [← List.mem_singleton.mp z]; exact nt)
/-- one object more -/
theorem new_hid {L : List Addr} {H : Hp} {t : Addr} {o : HO} (nt : H t = none) : Same (hid L H) (hid L (upd H t o)) := (Keep.of (Same.new nt)).same
section
variable {P : Program} {w : World} {K : PySem.W.Frag} {mg : Str → Option Value} {base : Heap}
theorem sc_kindL : FnScope ["_law_fount_here", "_law_top", "_law_time", "_law_gap", "_law_slop", "_law_some"] ["_law_fount_here", "_law_top"] (defScope s_law_kind) := ⟨rfl, rfl, rfl, by decide +kernel, rfl, by decide +kernel, by decide +kernel⟩
theorem ok_kindL (T : Txt w K mg) : Prom P w K mg base 2 "_law_kind" ["_law_fount_here", "_law_top"] (spKindL K) := by
  have pD := ok_dip (P := P) (base := base) T
  refine T.d_law_kind.prom sc_kindL (fun vs H Q E h => ?_) (fun f0 cdv A outer s H vs Q E hr h => ?_)
  · obtain ⟨f, n, m, rfl, _⟩ := h
    rfl
  · obtain ⟨f, n, m, rfl, hF, hn, h1, h9, q⟩ := h
    have hlim : FAt.lim = 1000000000000 := rfl
    refine ⟨_, pss_cons (ps_par3 (i := 2) (j := 3) (l := 4) (by rfl) sc_kindL.nd rfl rfl rfl (by decide) (by decide) (by decide) rfl rfl rfl
        (pa_cons (pe_op op_add pe_int (pe_p pD hr (by rfl) (pa_cons (pv 0) (pa_cons (pv 1) pa_nil)))) (pa_cons (pe_op op_add pe_int (pe_p pD hr (by rfl) (pa_cons (pv 0) (pa_cons (pv 1) pa_nil))))
          (pa_cons (pe_p pD hr (by rfl) (pa_cons (pv 0) (pa_cons (pe_op op_add (pv 1) pe_int) pa_nil))) pa_nil))) (by rfl))
      (pss_cons (ps_set (i := 5) sc_kindL.nd rfl (Or.inl rfl) (pe_lst (pa_cons (pe_tup (pa_cons pe_str pa_nil)) (pa_cons (pe_tup (pa_cons pe_str (pa_cons (pv 2) (pa_cons (pv 4) pa_nil))))
        (pa_cons (pe_tup (pa_cons pe_str (pa_cons (pe_op op_add pe_int (pe_p pD hr (by rfl) (pa_cons (pv 0) (pa_cons pe_int pa_nil)))) (pa_cons (pv 2) (pa_cons (pv 3) (pa_cons (pv 4) pa_nil))))))
        (pa_cons (pe_tup (pa_cons pe_str (pa_cons (pv 2) (pa_cons (pv 4) pa_nil)))) pa_nil))))))
      (pss_one (ps_ret (pe_ix ix_list (pe_op op_cat (pv 5) (pe_lst (pa_cons (pe_tup (pa_cons pe_str (pa_cons (pe_ix ix_list (pe_lst (pa_cons pe_str (pa_cons pe_str (pa_cons pe_str pa_nil)))) (pe_p pD hr (by rfl) (pa_cons (pv 0) (pa_cons pe_int pa_nil))) (fun _ _ => rfl)) (pa_cons (pv 4) pa_nil))))
        (pa_cons (pe_tup (pa_cons pe_str (pa_cons (pv 4) pa_nil))) pa_nil)))) (pe_p pD hr (by rfl) (pa_cons (pv 0) (pa_cons pe_int pa_nil))) (fun _ _ => rfl))))), ?_⟩
    -- time, gap, slop
    refine ⟨_, rfl, _, rfl, f, _, _, rfl, hF, by omega, by omega, by omega, fun d1 H1 d10 d11 k1 hF1 => ⟨_, _, rfl, rfl, ?_⟩⟩
    refine ⟨_, rfl, _, rfl, f, _, _, rfl, hF1, by omega, by omega, by omega, fun d2 H2 d20 d21 k2 hF2 => ⟨_, _, rfl, rfl, ?_⟩⟩
    refine ⟨_, rfl, _, rfl, _, _, rfl, rfl, f, _, _, rfl, hF2, by omega, by omega, by omega, fun d3 H3 d30 d31 k3 hF3 => ⟨_, _, _, rfl, ?_⟩⟩
    have ka : Keep [f] H H3 := (k1.trans k2).trans k3
    have time : NumOk 1 (1 + d1) 1000000000 := ⟨by omega, by omega⟩
    have gap : NumOk 1 (1 + d2) 1000000000 := ⟨by omega, by omega⟩
    have slop : NumOk 0 d3 1000000000 := ⟨by omega, by omega⟩
    clear k1 k2 k3 hF1 hF2
    -- the four
    refine ⟨(show 1 ≤ sizeLine by decide), fun t0 n0 => ?_⟩
    have o0 := out1 hF3 n0
    have f4 := hF3.same (Same.new (o := .tup [.str "touch"]) n0)
    have k4 := ka.trans (Keep.of (Same.new (o := .tup [.str "touch"]) n0))
    have g0 : hid [f] (upd H3 t0 (.tup [.str "touch"])) t0 = some (.tup [.str "touch"]) := hid_at upd_same o0
    generalize upd H3 t0 (.tup [.str "touch"]) = H4 at f4 k4 g0 ⊢
    refine ⟨_, rfl, _, rfl, (show 3 ≤ sizeLine by decide), fun t1 n1 => ?_⟩
    have o1 := out1 f4 n1
    have f5 := f4.same (Same.new (o := .tup [.str "tap", .int (1 + d1), .int d3]) n1)
    have k5 := k4.trans (Keep.of (Same.new (o := .tup [.str "tap", .int (1 + d1), .int d3]) n1))
    have s5 : Same (hid [f] H4) _ := new_hid (o := .tup [.str "tap", .int (1 + d1), .int d3]) n1
    have g1 : hid [f] (upd H4 t1 (.tup [.str "tap", .int (1 + d1), .int d3])) t1 = some (.tup [.str "tap", .int (1 + d1), .int d3]) := hid_at upd_same o1
    replace g0 := s5 _ _ g0
    generalize upd H4 t1 (.tup [.str "tap", .int (1 + d1), .int d3]) = H5 at f5 k5 g0 g1 ⊢
    refine ⟨_, rfl, f, _, _, rfl, f5, by omega, by omega, by omega, fun d4 H6 d40 d41 k6 f6 => ⟨_, _, rfl, rfl, _, rfl, _, rfl, _, rfl, (show 5 ≤ sizeLine by decide), fun t2 n2 => ?_⟩⟩
    have s6 := k6.same
    replace g0 := s6 _ _ g0
    replace g1 := s6 _ _ g1
    have o2 := out1 f6 n2
    have f7 := f6.same (Same.new (o := .tup [.str "taps", .int (2 + d4), .int (1 + d1), .int (1 + d2), .int d3]) n2)
    have k7 := (k5.trans k6).trans (Keep.of (Same.new (o := .tup [.str "taps", .int (2 + d4), .int (1 + d1), .int (1 + d2), .int d3]) n2))
    have s7 : Same (hid [f] H6) _ := new_hid (o := .tup [.str "taps", .int (2 + d4), .int (1 + d1), .int (1 + d2), .int d3]) n2
    have g2 : hid [f] (upd H6 t2 (.tup [.str "taps", .int (2 + d4), .int (1 + d1), .int (1 + d2), .int d3])) t2 = some (.tup [.str "taps", .int (2 + d4), .int (1 + d1), .int (1 + d2), .int d3]) := hid_at upd_same o2
    replace g0 := s7 _ _ g0
    replace g1 := s7 _ _ g1
    generalize upd H6 t2 (.tup [.str "taps", .int (2 + d4), .int (1 + d1), .int (1 + d2), .int d3]) = H7 at f7 k7 g0 g1 g2 ⊢
    refine ⟨_, rfl, _, rfl, (show 3 ≤ sizeLine by decide), fun t3 n3 => ⟨(show 4 ≤ sizeLine by decide), fun l nl => ?_⟩⟩
    have o3 := out1 f7 n3
    have f8 := f7.same (Same.new (o := .tup [.str "long", .int (1 + d1), .int d3]) n3)
    have ol := out1 f8 nl
    have f9 := f8.same (Same.new (o := .lst [.ref t0, .ref t1, .ref t2, .ref t3]) nl)
    have k9 := (k7.trans (Keep.of (Same.new (o := .tup [.str "long", .int (1 + d1), .int d3]) n3))).trans (Keep.of (Same.new (o := .lst [.ref t0, .ref t1, .ref t2, .ref t3]) nl))
    have s8 : Same (hid [f] H7) _ := new_hid (o := .tup [.str "long", .int (1 + d1), .int d3]) n3
    have s9 : Same (hid [f] (upd H7 t3 (.tup [.str "long", .int (1 + d1), .int d3]))) _ := new_hid (o := .lst [.ref t0, .ref t1, .ref t2, .ref t3]) nl
    have g3 := s9 _ _ (hid_at (L := [f]) upd_same o3)
    have gl : hid [f] (upd (upd H7 t3 (.tup [.str "long", .int (1 + d1), .int d3])) l (.lst [.ref t0, .ref t1, .ref t2, .ref t3])) l = some (.lst [.ref t0, .ref t1, .ref t2, .ref t3]) := hid_at upd_same ol
    replace g0 := s9 _ _ (s8 _ _ g0)
    replace g1 := s9 _ _ (s8 _ _ g1)
    replace g2 := s9 _ _ (s8 _ _ g2)
    generalize upd (upd H7 t3 (.tup [.str "long", .int (1 + d1), .int d3])) l (.lst [.ref t0, .ref t1, .ref t2, .ref t3]) = H9 at f9 k9 g0 g1 g2 g3 gl ⊢
    clear k4 k5 k6 k7 f4 f5 f6 f7 f8 s5 s6 s7 s8 s9
    -- the fifth and the sixth
    refine ⟨_, rfl, (show 3 ≤ sizeLine by decide), fun sx nsx => ?_⟩
    have hsx : (upd H9 sx (.lst [.str "x", .str "y", .str "any"])) sx = some (.lst [.str "x", .str "y", .str "any"]) := upd_same
    have osx := out1 f9 nsx
    have fa := f9.same (Same.new (o := .lst [.str "x", .str "y", .str "any"]) nsx)
    have ka' := k9.trans (Keep.of (Same.new (o := .lst [.str "x", .str "y", .str "any"]) nsx))
    have sa : Same (hid [f] H9) _ := new_hid (o := .lst [.str "x", .str "y", .str "any"]) nsx
    generalize upd H9 sx (.lst [.str "x", .str "y", .str "any"]) = Ha at fa ka' sa hsx ⊢
    refine ⟨_, rfl, f, _, _, rfl, fa, by omega, by omega, by omega, fun d5 Hb d50 d51 kb fb => ?_⟩
    have hsb : Hb sx = some (.lst [.str "x", .str "y", .str "any"]) := kb _ _ osx hsx
    obtain ⟨ax, hax, eax⟩ : ∃ ax : Str, AxOk ax ∧ atI [V.str "x", V.str "y", V.str "any"] d5 = some (.str ax) := by
      have h3 : d5 = 0 ∨ d5 = 1 ∨ d5 = 2 := by omega
      rcases h3 with rfl | rfl | rfl
      · exact ⟨"x", .inl rfl, atI_nat (j := 0) rfl⟩
      · exact ⟨"y", .inr (.inl rfl), atI_nat (j := 1) rfl⟩
      · exact ⟨"any", .inr (.inr rfl), atI_nat (j := 2) rfl⟩
    refine ⟨sx, _, _, _, rfl, rfl, .of hsb, eax, _, rfl, (show 3 ≤ sizeLine by decide), fun t4 n4 => ⟨_, rfl, (show 2 ≤ sizeLine by decide), fun t5 n5 => ⟨(show 2 ≤ sizeLine by decide), fun l2 nl2 => ?_⟩⟩⟩
    have sb := kb.same
    have o4 := out1 fb n4
    have fc := fb.same (Same.new (o := .tup [.str "drag", .str ax, .int d3]) n4)
    have o5 := out1 fc n5
    have fd := fc.same (Same.new (o := .tup [.str "pinch", .int d3]) n5)
    have ol2 := out1 fd nl2
    have fe := fd.same (Same.new (o := .lst [.ref t4, .ref t5]) nl2)
    have ke := ((((ka'.trans kb).trans (Keep.of (Same.new (o := .tup [.str "drag", .str ax, .int d3]) n4))).trans (Keep.of (Same.new (o := .tup [.str "pinch", .int d3]) n5)))).trans (Keep.of (Same.new (o := .lst [.ref t4, .ref t5]) nl2))
    have sc' : Same (hid [f] Hb) _ := new_hid (o := .tup [.str "drag", .str ax, .int d3]) n4
    have sd : Same (hid [f] (upd Hb t4 (.tup [.str "drag", .str ax, .int d3]))) _ := new_hid (o := .tup [.str "pinch", .int d3]) n5
    have se : Same (hid [f] (upd (upd Hb t4 (.tup [.str "drag", .str ax, .int d3])) t5 (.tup [.str "pinch", .int d3]))) _ := new_hid (o := .lst [.ref t4, .ref t5]) nl2
    have g4 := se _ _ (sd _ _ (hid_at (L := [f]) upd_same o4))
    have g5 := se _ _ (hid_at (L := [f]) upd_same o5)
    have gl2 : hid [f] (upd (upd (upd Hb t4 (.tup [.str "drag", .str ax, .int d3])) t5 (.tup [.str "pinch", .int d3])) l2 (.lst [.ref t4, .ref t5])) l2 = some (.lst [.ref t4, .ref t5]) := hid_at upd_same ol2
    have tr : ∀ b o, hid [f] H9 b = some o → hid [f] (upd (upd (upd Hb t4 (.tup [.str "drag", .str ax, .int d3])) t5 (.tup [.str "pinch", .int d3])) l2 (.lst [.ref t4, .ref t5])) b = some o := fun b o e => se _ _ (sd _ _ (sc' _ _ (sb _ _ (sa _ _ e))))
    replace g0 := tr _ _ g0
    replace g1 := tr _ _ g1
    replace g2 := tr _ _ g2
    replace g3 := tr _ _ g3
    replace gl := tr _ _ gl
    generalize upd (upd (upd Hb t4 (.tup [.str "drag", .str ax, .int d3])) t5 (.tup [.str "pinch", .int d3])) l2 (.lst [.ref t4, .ref t5]) = He at fe ke g0 g1 g2 g3 g4 g5 gl gl2 ⊢
    refine ⟨l, l2, _, _, rfl, rfl, hid_same _ _ gl, hid_same _ _ gl2, (show 4 + 2 ≤ sizeLine by decide), fun l3 nl3 => ?_⟩
    have ol3 := out1 fe nl3
    have hl3 : (upd He l3 (.lst [.ref t0, .ref t1, .ref t2, .ref t3, .ref t4, .ref t5])) l3 = some (.lst [.ref t0, .ref t1, .ref t2, .ref t3, .ref t4, .ref t5]) := upd_same
    have ff := fe.same (Same.new (o := .lst [.ref t0, .ref t1, .ref t2, .ref t3, .ref t4, .ref t5]) nl3)
    have kf := ke.trans (Keep.of (Same.new (o := .lst [.ref t0, .ref t1, .ref t2, .ref t3, .ref t4, .ref t5]) nl3))
    have sf : Same (hid [f] He) _ := new_hid (o := .lst [.ref t0, .ref t1, .ref t2, .ref t3, .ref t4, .ref t5]) nl3
    show tCall spDip [] E0 (tCons (tVar 0) (tCons (tC (.int 6)) tNil)) _ (upd He l3 (.lst [.ref t0, .ref t1, .ref t2, .ref t3, .ref t4, .ref t5])) _
    generalize upd He l3 (.lst [.ref t0, .ref t1, .ref t2, .ref t3, .ref t4, .ref t5]) = Hf at ff kf sf hl3 ⊢
    refine ⟨_, rfl, f, _, _, rfl, ff, by omega, by omega, by omega, fun d6 Hg d60 d61 kg fg => ?_⟩
    have hl4 : Hg l3 = some (.lst [.ref t0, .ref t1, .ref t2, .ref t3, .ref t4, .ref t5]) := kg _ _ ol3 hl3
    have sg := kg.same
    have kh := kf.trans kg
    have fin : FAt Hg f (n + 6) := fg.mono (by omega)
    have h6 : d6 = 0 ∨ d6 = 1 ∨ d6 = 2 ∨ d6 = 3 ∨ d6 = 4 ∨ d6 = 5 := by omega
    rcases h6 with rfl | rfl | rfl | rfl | rfl | rfl
    · exact ⟨l3, _, _, _, rfl, rfl, .of hl4, atI_nat (j := 0) rfl, q _ .touch _ trivial kh (.tup (.of (sg _ _ (sf _ _ g0))) (.cons (.str _) .nil)) fin⟩
    · exact ⟨l3, _, _, _, rfl, rfl, .of hl4, atI_nat (j := 1) rfl, q _ (.tap (1 + d1) d3) _ ⟨time, slop⟩ kh (.tup (.of (sg _ _ (sf _ _ g1))) (.cons (.str _) (.cons (.int _) (.cons (.int _) .nil)))) fin⟩
    · exact ⟨l3, _, _, _, rfl, rfl, .of hl4, atI_nat (j := 2) rfl, q _ (.taps (2 + d4) (1 + d1) (1 + d2) d3) _ ⟨⟨by omega, by omega⟩, time, gap, slop⟩ kh (.tup (.of (sg _ _ (sf _ _ g2))) (.cons (.str _) (.cons (.int _) (.cons (.int _) (.cons (.int _) (.cons (.int _) .nil)))))) fin⟩
    · exact ⟨l3, _, _, _, rfl, rfl, .of hl4, atI_nat (j := 3) rfl, q _ (.long (1 + d1) d3) _ ⟨time, slop⟩ kh (.tup (.of (sg _ _ (sf _ _ g3))) (.cons (.str _) (.cons (.int _) (.cons (.int _) .nil)))) fin⟩
    · exact ⟨l3, _, _, _, rfl, rfl, .of hl4, atI_nat (j := 4) rfl, q _ (.drag ax d3) _ ⟨hax, slop⟩ kh (.tup (.of (sg _ _ (sf _ _ g4))) (.cons (.str _) (.cons (.str _) (.cons (.int _) .nil)))) fin⟩
    · exact ⟨l3, _, _, _, rfl, rfl, .of hl4, atI_nat (j := 5) rfl, q _ (.pinch d3) _ slop kh (.tup (.of (sg _ _ (sf _ _ g5))) (.cons (.str _) (.cons (.int _) .nil))) fin⟩
end
end TC

/-! The law's pairs: _law_pairs. -/
namespace TC
open PySem PySem.Spec PySem.Calls PyProof.Rows L2

theorem psOk_of {m : Int} {b : Bool} {ps : List Pr} (h1 : ∀ p ∈ ps, PrOk m b p) (h2 : ps.Pairwise PrLt) : PsOk m b ps := by
  refine ⟨h1, fun i p q ep eq_ => ?_⟩
  obtain ⟨hi, e1⟩ := List.getElem?_eq_some_iff.mp ep
  obtain ⟨hj, e2⟩ := List.getElem?_eq_some_iff.mp eq_
  have := List.pairwise_iff_getElem.mp h2 i (i + 1) hi hj (Nat.lt_succ_self i)
  rw [e1, e2] at this
  exact this
theorem map_erase {α β : Type} (g : α → β) : ∀ (l : List α) (k : Nat), (l.map g).eraseIdx k = (l.eraseIdx k).map g
  | [], _ => rfl
  | _ :: _, 0 => rfl
  | a :: l, k + 1 => by
    show g a :: (l.map g).eraseIdx k = g a :: (l.eraseIdx k).map g
    rw [map_erase g l k]
theorem dp_erase {K : PySem.W.Frag} {H : Hp} : ∀ {vs : List V} {ds : List PyData} (k : Nat), DpAll K H vs ds → DpAll K H (vs.eraseIdx k) (ds.eraseIdx k)
  | _, _, _, .nil => .nil
  | _, _, 0, .cons _ b => b
  | _, _, k + 1, .cons a b => .cons a (dp_erase k b)
theorem in2 {f l t : Addr} (h1 : t ≠ f) (h2 : t ≠ l) : t ∉ [f, l] := fun z => (List.mem_cons.mp z).elim h1 fun q => h2 (List.mem_singleton.mp q)
theorem keepL {f l : Addr} {Ha Hb : Hp} (k : Keep [f] Ha Hb) : Keep [f, l] Ha Hb := k.mono fun b hb => by rw [List.mem_singleton.mp hb]; exact List.mem_cons_self
/-- a new object, hidden at once -/
theorem new_hid2 {f t : Addr} {H : Hp} {o : HO} (nt : H t = none) : Same (hid [f] H) (hid [f, t] (upd H t o)) := fun b u e => by
  have e1 := hid_same _ _ e
  have bt : b ≠ t := ne_of_none e1 nt
  have bf : b ∉ [f] := fun z => by
    rw [hid_in z] at e
    cases e
  rw [hid_out (in2 (fun z => bf (List.mem_singleton.mpr z)) bt), upd_ne bt]
  exact e1
theorem hid_1 {f t : Addr} {H : Hp} : Same (hid [f, t] H) (hid [f] H) := hid_sub fun b hb => by
  rw [List.mem_singleton.mp hb]
  exact List.mem_cons_self
theorem FAt.ne {f t : Addr} {H : Hp} {n : Int} (h : FAt H f n) (nt : H t = none) : t ≠ f := fun z => h.there (z ▸ nt)
def spPairs (K : PySem.W.Frag) : Sp := fun vs H Q _ => ∃ (f : Addr) (n m most : Int) (b : Bool), vs = [.ref f, .int m, .bl b, .int most] ∧ FAt H f n ∧ n + 1000 ≤ FAt.lim ∧ 0 ≤ m ∧ m ≤ 8 ∧ 0 ≤ most ∧ most ≤ 28 ∧ ∀ (ps : List Pr) (l : Addr) (xs : List V) (H' : Hp), PsOk m b ps → (ps.length : Int) ≤ most → Keep [f] H H' → H l = none →
  H' l = some (.lst xs) → DpAll K (hid [f] H') xs (ps.map prData) → FAt H' f (n + 100) → Q (.ref l) H'
section
variable {P : Program} {w : World} {K : PySem.W.Frag} {mg : Str → Option Value} {base : Heap}
theorem sc_pairs : FnScope ["_law_fount_here", "_law_many", "_law_is_rising", "_law_most", "_law_every", "_law_one", "_law_size", "_law_two"] ["_law_fount_here", "_law_many", "_law_is_rising", "_law_most"] (defScope s_law_pairs) := ⟨rfl, rfl, rfl, by decide +kernel, rfl, by decide +kernel, by decide +kernel⟩
theorem ok_pairs (T : Txt w K mg) : Prom P w K mg base 2 "_law_pairs" ["_law_fount_here", "_law_many", "_law_is_rising", "_law_most"] (spPairs K) := by
  have pD := ok_dip (P := P) (base := base) T
  refine T.d_law_pairs.prom sc_pairs (fun vs H Q E h => ?_) (fun f0 cdv A outer s H vs Q E hr h => ?_)
  · obtain ⟨f, n, m, most, b, rfl, _⟩ := h
    rfl
  · obtain ⟨f, n, m, most, b, rfl, hF, hn, h0, h8, hm0, hm28, q⟩ := h
    have hlim : FAt.lim = 1000000000000 := rfl
    refine ⟨_, pss_cons (ps_set (i := 4) sc_pairs.nd rfl (Or.inl rfl) (pe_lst pa_nil))
      (pss_cons (ps_for PassesOwn.never rfl (pi_range1 (by rfl) T.b_range (pa_cons (pv 1) pa_nil)) (pg_name (i := 5) sc_pairs.nd rfl (Or.inr rfl))
        (pss_one (ps_set (i := 4) sc_pairs.nd rfl (Or.inl rfl) (pe_op op_cat (pv 4)
          (pe_lc (own := [("_law_two", 7)]) (g := gName 7) (tt := tOr (tB (tLt (tVar 5) (tVar 7))) (tAnd (tNot (tB (tVar 2))) (tB (tNeI (tVar 5) (tVar 7))))) (te := tTup (tCons (tVar 5) (tCons (tVar 7) tNil))) rfl sc_pairs.nd (pi_range1 (by rfl) T.b_range (pa_cons (pv 1) pa_nil))
            (blkOk_by (N := ["_law_fount_here", "_law_many", "_law_is_rising", "_law_most", "_law_every", "_law_one", "_law_size", "_law_two"]) (sc := defScope s_law_pairs) (by decide +kernel))
            (fun _ _ _ _ _ => pg_name (i := 7) sc_pairs.nd rfl (Or.inl rfl))
            (fun _ _ _ _ _ => pts_one (PW.pt (pw_or (pt_cmp (pc_lt (pv 5) (pv 7))) (pw_or1 (PW.pt (pw_and (pt_not (pt_val (pv 2))) (pw_and1 (pt_cmp (pc_neI (pv 5) (pv 7))))))))))
            (fun _ _ _ _ _ => pe_tup (pa_cons (pv 5) (pa_cons (pv 7) pa_nil))))))))
      (pss_cons (ps_set (i := 6) sc_pairs.nd rfl (Or.inl rfl) (pe_callB (call_min2 rfl) (by rfl) T.b_min (by decide +kernel) (pa_cons (pe_callB call_len_seq (by rfl) T.b_len PySem.boot_len (pa_cons (pv 4) pa_nil))
        (pa_cons (pe_p pD hr (by rfl) (pa_cons (pv 0) (pa_cons (pe_op op_add (pv 3) pe_int) pa_nil))) pa_nil))))
      (pss_cons (ps_while PassesOwn.never (pt_cmp (pc_gt (pe_callB call_len_seq (by rfl) T.b_len PySem.boot_len (pa_cons (pv 4) pa_nil)) (pv 6)))
        (pss_one (ps_expr (pe_bm PySem.F.plainAttrs_list PySem.F.slot_list_pop PySem.F.type_list_pop mt_popAt (pv 4) (pa_cons (pe_p pD hr (by rfl) (pa_cons (pv 0) (pa_cons (pe_callB call_len_seq (by rfl) T.b_len PySem.boot_len (pa_cons (pv 4) pa_nil)) pa_nil))) pa_nil)))))
      (pss_one (ps_ret (pv 4)))))), ?_⟩
    refine ⟨Nat.zero_le _, fun l0 nl0 => ?_⟩
    refine ⟨_, rfl, m, rfl, by omega, by omega, for_range (fun (i : Nat) σ H' => ∃ (ps : List Pr) (l : Addr) (xs : List V) (s5 : Option V), σ = [some (.ref f), some (.int m), some (.bl b), some (.int most), some (.ref l), s5, none, none] ∧ Keep [f] H H' ∧ H l = none ∧ l ≠ f ∧
      H' l = some (.lst xs) ∧ DpAll K (hid [f, l] H') xs (ps.map prData) ∧ (ps.length : Int) ≤ 8 * i ∧ ps.Pairwise PrLt ∧ (∀ p ∈ ps, PrOk m b p ∧ p.1 < i) ∧ FAt H' f n) ?_ ?_ ?_⟩
    · exact ⟨[], l0, [], none, rfl, Keep.new nl0, nl0, hF.ne nl0, upd_same, .nil, by decide, .nil, fun p hp => absurd hp List.not_mem_nil, hF.same (Same.new nl0)⟩
    · rintro i σ H1 hi ⟨ps, l, xs, s5, rfl, k1, nl, lf, hl1, hd1, hlen, hpw, hok, hF1⟩
      have ei : (0 : Int) + (i : Nat) = (i : Nat) := by omega
      rw [ei]
      have him : (i : Int) < m := by omega
      refine ⟨_, rfl, _, rfl, m, rfl, by omega, by omega, fun D hD => lc_it walk_range (fun j H' => ∃ (qs : List Pr) (ys : List V), Same H1 H' ∧ H' D = some (.lst ys) ∧ DpAll K (hid [f, D] H') ys (qs.map prData) ∧ (qs.length : Int) ≤ j ∧ qs.Pairwise PrLt ∧ ∀ p ∈ qs, PrOk m b p ∧ p.1 = i ∧ p.2 < j) ?_ (fun _ _ _ _ => trivial) ?_ ?_⟩
      · exact ⟨[], [], Same.new hD, upd_same, .nil, Int.le_refl _, .nil, fun p hp => absurd hp List.not_mem_nil⟩
      · rintro j x H2 H3 hj ⟨qs, ys, s2, hD2, hd2, hl2, hp2, hq2⟩ ⟨rfl, rfl⟩
        have ej : (0 : Int) + (j : Nat) = (j : Nat) := by omega
        show gName 7 (V.int (0 + (j : Nat))) _ _ _
        rw [ej]
        have hjm : (j : Int) < m := by omega
        have keepIt : PrOk m b ((i : Int), (j : Int)) → tTup (tCons (tVar 5) (tCons (tVar 7) tNil)) [some (V.ref f), some (.int m), some (.bl b), some (.int most), some (.ref l), some (.int i), none, some (.int j)] H3 fun y H4 => ∃ acc, H4 D = some (.lst acc) ∧ acc.length < sizeLine ∧
            ∃ (qs : List Pr) (zs : List V), Same H1 (upd H4 D (.lst (acc ++ [y]))) ∧ (upd H4 D (.lst (acc ++ [y]))) D = some (.lst zs) ∧ DpAll K (hid [f, D] (upd H4 D (.lst (acc ++ [y])))) zs (qs.map prData) ∧ (qs.length : Int) ≤ (j + 1 : Nat) ∧ qs.Pairwise PrLt ∧ ∀ p ∈ qs, PrOk m b p ∧ p.1 = i ∧ p.2 < (j + 1 : Nat) := by
          intro hpr
          refine ⟨_, rfl, _, rfl, (show 2 ≤ sizeLine by decide), fun t nt => ⟨ys, (Same.new nt) _ _ hD2, ?_, qs ++ [((i : Int), (j : Int))], ys ++ [.ref t], ?_, upd_same, ?_, ?_, ?_, ?_⟩⟩
          · have := dp_len hd2
            rw [List.length_map] at this
            exact small1000 (by omega)
          · intro b' o e
            rw [upd_ne (ne_of_none e hD)]
            exact (Same.new nt) _ _ (s2 _ _ e)
          · have hD3 : D ≠ t := ne_of_none hD2 nt
            have hF3 := hF1.same s2
            have fD : D ≠ f := hF1.ne hD
            rw [List.map_append]
            have e1 : hid [f, D] (upd (upd H3 t (.tup [.int i, .int j])) D (.lst (ys ++ [.ref t]))) t = some (.tup [.int i, .int j]) := by
              rw [hid_out (in2 (hF3.ne nt) hD3.symm), upd_ne hD3.symm]
              exact upd_same
            have st : Keep [f, D] H3 (upd (upd H3 t (.tup [.int i, .int j])) D (.lst (ys ++ [.ref t]))) := (Keep.of (Same.new nt)).trans (Keep.set (by simp))
            exact dp_append (DpAll.same st.same hd2) (.cons (.tup (.of e1) (ints_dp (ns := [(i : Int), (j : Int)]))) .nil)
          · rw [List.length_append]
            simp only [List.length_cons, List.length_nil]
            omega
          · refine List.pairwise_append.mpr ⟨hp2, List.pairwise_singleton _ _, fun p hp r hr => ?_⟩
            rw [List.mem_singleton.mp hr]
            obtain ⟨_, h1, h2⟩ := hq2 p hp
            exact .inr ⟨h1, h2⟩
          · intro p hp
            rcases List.mem_append.mp hp with hp | hp
            · obtain ⟨h1, h2, h3⟩ := hq2 p hp
              exact ⟨h1, h2, by omega⟩
            · rw [List.mem_singleton.mp hp]
              exact ⟨hpr, rfl, by show (j : Int) < (j + 1 : Nat); omega⟩
        have skip : ∃ (qs : List Pr) (zs : List V), Same H1 H3 ∧ H3 D = some (.lst zs) ∧ DpAll K (hid [f, D] H3) zs (qs.map prData) ∧ (qs.length : Int) ≤ (j + 1 : Nat) ∧ qs.Pairwise PrLt ∧ ∀ p ∈ qs, PrOk m b p ∧ p.1 = i ∧ p.2 < (j + 1 : Nat) :=
          ⟨qs, ys, s2, hD2, hd2, by omega, hp2, fun p hp => by
            obtain ⟨h1, h2, h3⟩ := hq2 p hp
            exact ⟨h1, h2, by omega⟩⟩
        by_cases c : (i : Int) < j
        · exact ⟨rfl, _, rfl, _, rfl, _, _, rfl, rfl, true, eT c, keepIt ⟨⟨by omega, by omega⟩, ⟨by omega, by omega⟩, .inl c⟩⟩
        · refine ⟨rfl, _, rfl, _, rfl, _, _, rfl, rfl, false, eF c, ?_⟩
          cases b with
          | true => exact ⟨_, rfl, true, rfl, skip⟩
          | false =>
            by_cases c2 : (i : Int) = j
            · exact ⟨_, rfl, false, rfl, _, rfl, _, rfl, _, _, rfl, rfl, false, nT c2, skip⟩
            · exact ⟨_, rfl, false, rfl, _, rfl, _, rfl, _, _, rfl, rfl, true, nF c2, keepIt ⟨⟨by omega, by omega⟩, ⟨by omega, by omega⟩, .inr ⟨rfl, by show (j : Int) < i; omega⟩⟩⟩
      · rintro H2 ⟨qs, ys, s2, hD2, hd2, hl2, hp2, hq2⟩
        refine ⟨l, D, xs, ys, rfl, rfl, s2 _ _ hl1, hD2, ?_, fun p np => ⟨ps ++ qs, p, xs ++ ys, _, rfl, (k1.trans (Keep.of s2)).trans (Keep.of (Same.new np)), ?_, (hF1.same s2).ne np, upd_same, ?_, ?_, ?_, ?_, (hF1.same s2).same (Same.new np)⟩⟩
        · have e1 := dp_len hd1
          have e2 := dp_len hd2
          rw [List.length_map] at e1 e2
          exact Nat.le_of_lt (small1000 (by omega))
        · exact (k1.trans (Keep.of s2)).none_of np fun z => (hF1.same s2).ne np (List.mem_singleton.mp z)
        · rw [List.map_append]
          exact dp_append (DpAll.same ((hid_1.trans (Keep.of s2).same).trans (new_hid2 np)) hd1) (DpAll.same (hid_1.trans (new_hid2 np)) hd2)
        · rw [List.length_append]
          omega
        · refine List.pairwise_append.mpr ⟨hpw, hp2, fun p hp r hr => ?_⟩
          obtain ⟨_, h1⟩ := hok p hp
          obtain ⟨_, h2, _⟩ := hq2 r hr
          exact .inl (by omega)
        · intro p hp
          rcases List.mem_append.mp hp with hp | hp
          · obtain ⟨h1, h2⟩ := hok p hp
            exact ⟨h1, by omega⟩
          · obtain ⟨h1, h2, _⟩ := hq2 p hp
            exact ⟨h1, by omega⟩
    · rintro σ H1 ⟨ps, l, xs, s5, rfl, k1, nl, lf, hl1, hd1, hlen, hpw, hok, hF1⟩
      have e1 := dp_len hd1
      rw [List.length_map] at e1
      have xl : (xs.length : Int) ≤ 64 := by omega
      refine ⟨_, rfl, l, xs, rfl, .inl (.of hl1), _, rfl, _, rfl, _, _, rfl, rfl, f, _, _, rfl, hF1, by omega, by omega, by omega, fun d H2 d0 d1 k2 hF2 => ⟨_, _, rfl, ?_⟩⟩
      have sz0 : (if d < (xs.length : Int) then d else (xs.length : Int)) ≤ d ∧ 0 ≤ (if d < (xs.length : Int) then d else (xs.length : Int)) := by split <;> omega
      generalize (if d < (xs.length : Int) then d else (xs.length : Int)) = sz at sz0
      refine while_by (fun σ H' => ∃ (ps : List Pr) (xs : List V), σ = [some (.ref f), some (.int m), some (.bl b), some (.int most), some (.ref l), s5, some (.int sz), none] ∧ Keep [f] H H' ∧ H' l = some (.lst xs) ∧ DpAll K (hid [f, l] H') xs (ps.map prData) ∧
        ps.Pairwise PrLt ∧ (∀ p ∈ ps, PrOk m b p) ∧ ps.length ≤ 64 ∧ FAt H' f (n + 65 - ps.length)) (fun σ H' => lenAt l H') ?_ ?_ (fun σ H Q Q' hq h => ?_)
      · exact ⟨ps, xs, rfl, k1.trans k2, k2 _ _ (fun z => lf (List.mem_singleton.mp z)) hl1, DpAll.same (keepL k2).same hd1, hpw, fun p hp => (hok p hp).1, by omega, hF2.mono (by omega)⟩
      · rintro σ H3 ⟨ps, xs, rfl, k3, hl3, hd3, hpw, hok, hlen, hF3⟩
        have e3 := dp_len hd3
        rw [List.length_map] at e3
        by_cases c : sz < (xs.length : Int)
        · refine ⟨_, rfl, l, xs, rfl, .inl (.of hl3), _, rfl, _, _, rfl, rfl, true, eT c, iteT ?_⟩
          refine ⟨_, rfl, .inl ⟨rfl, _, .of hl3⟩, _, rfl, _, rfl, l, xs, rfl, .inl (.of hl3), f, _, _, rfl, hF3, by omega, by omega, by omega, fun k H4 k40 k41 k4 hF4 => ?_⟩
          have hk : k.toNat < xs.length := by omega
          have hl4 : H4 l = some (.lst xs) := k4 _ _ (fun z => lf (List.mem_singleton.mp z)) hl3
          refine ⟨l, xs, k, k.toNat, xs[k.toNat], rfl, rfl, hl4, by omega, by omega, seqIndex_of (by omega) (by omega), List.getElem?_eq_getElem hk, ⟨ps.eraseIdx k.toNat, xs.eraseIdx k.toNat, rfl, ?_, upd_same, ?_, ?_, ?_, ?_, ?_⟩, ?_⟩
          · intro b' o hb e
            have bl : b' ≠ l := ne_of_none e nl
            rw [upd_ne bl]
            exact k4 _ _ hb (k3 _ _ hb e)
          · rw [← map_erase]
            exact dp_erase _ (DpAll.same ((keepL k4).trans (Keep.set (by simp))).same hd3)
          · exact hpw.sublist (List.eraseIdx_sublist _ _)
          · exact fun p hp => hok p (List.eraseIdx_subset hp)
          · rw [List.length_eraseIdx]
            split <;> omega
          · obtain ⟨a1, a2, a3, a4, a5, a6, a7, a8⟩ := hF4
            refine ⟨a1, a2, a3, by rw [upd_ne lf.symm]; exact a4, a5, a6, a7, ?_⟩
            rw [List.length_eraseIdx_of_lt (by omega)]
            omega
          · show lenAt l _ < lenAt l H3
            rw [lenAt_of upd_same, lenAt_of hl3, List.length_eraseIdx_of_lt hk]
            omega
        · refine ⟨_, rfl, l, xs, rfl, .inl (.of hl3), _, rfl, _, _, rfl, rfl, false, eF c, iteF ⟨_, rfl, ?_⟩⟩
          exact q ps l xs H3 (psOk_of hok hpw) (by omega) k3 nl hl3 (DpAll.same (hid_sub fun b hb => by rw [List.mem_singleton.mp hb]; exact List.mem_cons_self) hd3) (hF3.mono (by omega))
      · obtain ⟨v0, e0, p, ys, e1, h1, v6, e6, i, j, ei, ej, c, ec, h⟩ := h
        exact ⟨v0, e0, p, ys, e1, h1, v6, e6, i, j, ei, ej, c, ec, hq _ _ h⟩
end
end TC

/-! The law's names and layouts. -/
namespace TC
open PySem PySem.Spec PySem.Calls PyProof.Rows L2

def nameB (z : Str) : Bool := decide (1 ≤ z.length) && decide (z.length ≤ 8) && z.cps.toList.all fun c => decide (c ∈ signs.cps.toList)
theorem nameOk_of {z : Str} (h : nameB z = true) : NameOk z := by
  unfold nameB at h
  simp only [Bool.and_eq_true, decide_eq_true_eq, List.all_eq_true] at h
  exact ⟨h.1.1, h.1.2, h.2⟩
def names0 : List Str := ["a", "b0", "zz", "00000000", "tap", "q7abcdef", "9", "long1"]
def names1 : List Str := ["tap", "taps", "t", "tap2", "ta", "aptap", "2tap", "tapstaps"]
def names2 : List Str := ["aaaaaaab", "aaaaaaaa", "aaabaaaa", "baaaaaaa", "aaaaabaa", "aabaaaaa", "abaaaaaa", "aaaabaaa"]
structure NamesOk (zs : List Str) : Prop where
  nd : zs.Nodup
  ok : ∀ z ∈ zs, NameOk z
theorem namesOk_of {zs : List Str} (h1 : zs.Nodup) (h2 : zs.all nameB = true) : NamesOk zs := ⟨h1, fun z hz => nameOk_of (List.all_eq_true.mp h2 z hz)⟩
theorem n0Ok : NamesOk names0 := namesOk_of (by decide +kernel) (by decide +kernel)
theorem n1Ok : NamesOk names1 := namesOk_of (by decide +kernel) (by decide +kernel)
theorem n2Ok : NamesOk names2 := namesOk_of (by decide +kernel) (by decide +kernel)
theorem perm_pop {α : Type} : ∀ {l : List α} {k : Nat} {a : α}, l[k]? = some a → (a :: l.eraseIdx k).Perm l
  | [], _, _, h => by simp at h
  | b :: l, 0, a, h => by
    simp at h
    subst h
    exact .refl _
  | b :: l, k + 1, a, h => by
    have ih := perm_pop (l := l) (k := k) (a := a) (by simpa using h)
    exact (List.Perm.swap b a _).trans (ih.cons b)
theorem NamesOk.pop {zs ls : List Str} {k : Nat} {z : Str} (h : NamesOk (zs ++ ls)) (e : ls[k]? = some z) : NamesOk ((zs ++ [z]) ++ ls.eraseIdx k) := by
  have p : ((zs ++ [z]) ++ ls.eraseIdx k).Perm (zs ++ ls) := by
    rw [List.append_assoc]
    exact (perm_pop e).append_left zs
  exact ⟨p.nodup_iff.mpr h.nd, fun y hy => h.ok y (p.mem_iff.mp hy)⟩
theorem keep_set {f l : Addr} {H0 H : Hp} {o : HO} (k : Keep [f] H0 H) (nl : H0 l = none) : Keep [f] H0 (upd H l o) := fun b u hb e => by
  rw [upd_ne (ne_of_none e nl)]
  exact k _ _ hb e
def spNames : Sp := fun vs H Q _ => ∃ (f : Addr) (n m : Int), vs = [.ref f, .int m] ∧ FAt H f n ∧ n + 1000 ≤ FAt.lim ∧ 0 ≤ m ∧ m ≤ 8 ∧ ∀ (zs : List Str) (D : Addr) (H' : Hp), (zs.length : Int) = m → NamesOk zs → Keep [f] H H' → H D = none → H' D = some (.lst (zs.map V.str)) → FAt H' f (n + 20) → Q (.ref D) H'
section
variable {P : Program} {w : World} {K : PySem.W.Frag} {mg : Str → Option Value} {base : Heap}
theorem sc_names : FnScope ["_law_fount_here", "_law_many", "_law_some", "_law_left", "_law_number"] ["_law_fount_here", "_law_many"] (defScope s_law_names_of) := ⟨rfl, rfl, rfl, by decide +kernel, rfl, by decide +kernel, by decide +kernel⟩
theorem ok_names (T : Txt w K mg) : Prom P w K mg base 2 "_law_names_of" ["_law_fount_here", "_law_many"] spNames := by
  have pD := ok_dip (P := P) (base := base) T
  refine T.d_law_names_of.prom sc_names (fun vs H Q E h => ?_) (fun f0 cdv A outer s H vs Q E hr h => ?_)
  · obtain ⟨f, n, m, rfl, _⟩ := h
    rfl
  · obtain ⟨f, n, m, rfl, hF, hn, h0, h8, q⟩ := h
    have hlim : FAt.lim = 1000000000000 := rfl
    refine ⟨_, pss_cons (ps_set (i := 2) sc_names.nd rfl (Or.inl rfl) (pe_lst (pa_cons (pe_lst (pa_cons pe_str (pa_cons pe_str (pa_cons pe_str (pa_cons pe_str (pa_cons pe_str (pa_cons pe_str (pa_cons pe_str (pa_cons pe_str pa_nil))))))))) pa_nil)))
      (pss_cons (ps_expr (pe_bm PySem.F.plainAttrs_list PySem.F.slot_list_append PySem.F.type_list_append mt_append (pv 2) (pa_cons (pe_lst (pa_cons pe_str (pa_cons pe_str (pa_cons pe_str (pa_cons pe_str (pa_cons pe_str (pa_cons pe_str (pa_cons pe_str (pa_cons pe_str pa_nil))))))))) pa_nil)))
      (pss_cons (ps_expr (pe_bm PySem.F.plainAttrs_list PySem.F.slot_list_append PySem.F.type_list_append mt_append (pv 2) (pa_cons (pe_lst (pa_cons pe_str (pa_cons pe_str (pa_cons pe_str (pa_cons pe_str (pa_cons pe_str (pa_cons pe_str (pa_cons pe_str (pa_cons pe_str pa_nil))))))))) pa_nil)))
      (pss_cons (ps_set (i := 3) sc_names.nd rfl (Or.inr rfl) (pe_ix ix_list (pv 2) (pe_p pD hr (by rfl) (pa_cons (pv 0) (pa_cons pe_int pa_nil))) (fun _ _ => rfl)))
      (pss_one (ps_ret (pe_lc (own := [("_law_number", 4)]) (g := gName 4) (tt := tYes) (te := tBM K "list" rPopAt (tVar 3) (tCons (tCall spDip [] E0 (tCons (tVar 0) (tCons (tCB (fun xs H Q => ∃ p ys, xs = [.ref p] ∧ (SqL K H p ys ∨ SqT K H p ys) ∧ Q (.int ys.length) H) (tCons (tVar 3) tNil)) tNil))) tNil)) rfl sc_names.nd
        (pi_range1 (by rfl) T.b_range (pa_cons (pv 1) pa_nil)) (blkOk_by (N := ["_law_fount_here", "_law_many", "_law_some", "_law_left", "_law_number"]) (sc := defScope s_law_names_of) (by decide +kernel))
        (fun _ _ _ _ _ => pg_name (i := 4) sc_names.nd rfl (Or.inl rfl)) (fun _ _ _ _ _ => pts_nil)
        (fun _ _ _ _ _ => pe_bm PySem.F.plainAttrs_list PySem.F.slot_list_pop PySem.F.type_list_pop mt_popAt (pv 3) (pa_cons (pe_p pD hr (by rfl) (pa_cons (pv 0) (pa_cons (pe_callB call_len_seq (by rfl) T.b_len PySem.boot_len (pa_cons (pv 3) pa_nil)) pa_nil))) pa_nil)))))))), ?_⟩
    -- the three lists
    refine ⟨(show 8 ≤ sizeLine by decide), fun a0 n0 => ⟨(show 1 ≤ sizeLine by decide), fun so ns => ?_⟩⟩
    have k1 : Keep [f] H (upd (upd H a0 (.lst (names0.map V.str))) so (.lst [.ref a0])) := (Keep.of (Same.new n0)).trans (Keep.of (Same.new ns))
    have F1 : FAt (upd (upd H a0 (.lst (names0.map V.str))) so (.lst [.ref a0])) f n := (hF.same (Same.new n0)).same (Same.new ns)
    have g0 : (upd (upd H a0 (.lst (names0.map V.str))) so (.lst [.ref a0])) a0 = some (.lst (names0.map V.str)) := Same.new ns _ _ upd_same
    have gs : (upd (upd H a0 (.lst (names0.map V.str))) so (.lst [.ref a0])) so = some (.lst [.ref a0]) := upd_same
    have nso : H so = none := (Same.new n0).free ns
    have s0 : a0 ≠ so := ne_of_none (upd_same : (upd H a0 (.lst (names0.map V.str))) a0 = _) ns
    have fso : so ≠ f := hF.ne nso
    have fa0 : a0 ≠ f := hF.ne n0
    show tSeq _ _ _ _ (upd (upd H a0 (.lst (names0.map V.str))) so (.lst [.ref a0]))
    generalize upd (upd H a0 (.lst (names0.map V.str))) so (.lst [.ref a0]) = H1 at k1 F1 g0 gs ⊢
    refine ⟨_, rfl, .inl ⟨rfl, _, .of gs⟩, (show 8 ≤ sizeLine by decide), fun a1 n1 => ⟨so, _, _, rfl, rfl, Same.new n1 _ _ gs, (show 1 < sizeLine by decide), ?_⟩⟩
    have s1 : a1 ≠ so := (ne_of_none gs n1).symm
    have a01 : a0 ≠ a1 := ne_of_none g0 n1
    have na1 : H a1 = none := k1.none_of n1 fun z => F1.ne n1 (List.mem_singleton.mp z)
    have fa1 : a1 ≠ f := hF.ne na1
    have k2 : Keep [f] H (upd (upd H1 a1 (.lst (names1.map V.str))) so (.lst ([.ref a0] ++ [.ref a1]))) := keep_set (k1.trans (Keep.of (Same.new n1))) nso
    have F2 : FAt (upd (upd H1 a1 (.lst (names1.map V.str))) so (.lst ([.ref a0] ++ [.ref a1]))) f n := (F1.same (Same.new n1)).keep (L := [so]) (Keep.set (by simp)) fun z => fso (List.mem_singleton.mp z).symm
    have g0' : (upd (upd H1 a1 (.lst (names1.map V.str))) so (.lst ([.ref a0] ++ [.ref a1]))) a0 = some (.lst (names0.map V.str)) := by
      rw [upd_ne s0]
      exact Same.new n1 _ _ g0
    have g1 : (upd (upd H1 a1 (.lst (names1.map V.str))) so (.lst ([.ref a0] ++ [.ref a1]))) a1 = some (.lst (names1.map V.str)) := by
      rw [upd_ne s1]
      exact upd_same
    have gs' : (upd (upd H1 a1 (.lst (names1.map V.str))) so (.lst ([.ref a0] ++ [.ref a1]))) so = some (.lst ([.ref a0] ++ [.ref a1])) := upd_same
    show tSeq _ _ _ _ (upd (upd H1 a1 (.lst (names1.map V.str))) so (.lst ([.ref a0] ++ [.ref a1])))
    generalize upd (upd H1 a1 (.lst (names1.map V.str))) so (.lst ([.ref a0] ++ [.ref a1])) = H2 at k2 F2 g0' g1 gs' ⊢
    refine ⟨_, rfl, .inl ⟨rfl, _, .of gs'⟩, (show 8 ≤ sizeLine by decide), fun a2 n2 => ⟨so, _, _, rfl, rfl, Same.new n2 _ _ gs', (show 2 < sizeLine by decide), ?_⟩⟩
    have s2 : a2 ≠ so := (ne_of_none gs' n2).symm
    have na2 : H a2 = none := k2.none_of n2 fun z => F2.ne n2 (List.mem_singleton.mp z)
    have fa2 : a2 ≠ f := hF.ne na2
    have k3 : Keep [f] H (upd (upd H2 a2 (.lst (names2.map V.str))) so (.lst ([.ref a0] ++ [.ref a1] ++ [.ref a2]))) := keep_set (k2.trans (Keep.of (Same.new n2))) nso
    have F3 : FAt (upd (upd H2 a2 (.lst (names2.map V.str))) so (.lst ([.ref a0] ++ [.ref a1] ++ [.ref a2]))) f n := (F2.same (Same.new n2)).keep (L := [so]) (Keep.set (by simp)) fun z => fso (List.mem_singleton.mp z).symm
    have h0' : (upd (upd H2 a2 (.lst (names2.map V.str))) so (.lst ([.ref a0] ++ [.ref a1] ++ [.ref a2]))) a0 = some (.lst (names0.map V.str)) := by
      rw [upd_ne s0]
      exact Same.new n2 _ _ g0'
    have h1' : (upd (upd H2 a2 (.lst (names2.map V.str))) so (.lst ([.ref a0] ++ [.ref a1] ++ [.ref a2]))) a1 = some (.lst (names1.map V.str)) := by
      rw [upd_ne s1]
      exact Same.new n2 _ _ g1
    have h2' : (upd (upd H2 a2 (.lst (names2.map V.str))) so (.lst ([.ref a0] ++ [.ref a1] ++ [.ref a2]))) a2 = some (.lst (names2.map V.str)) := by
      rw [upd_ne s2]
      exact upd_same
    have hs' : (upd (upd H2 a2 (.lst (names2.map V.str))) so (.lst ([.ref a0] ++ [.ref a1] ++ [.ref a2]))) so = some (.lst [.ref a0, .ref a1, .ref a2]) := upd_same
    show tSeq _ _ _ _ (upd (upd H2 a2 (.lst (names2.map V.str))) so (.lst ([.ref a0] ++ [.ref a1] ++ [.ref a2])))
    generalize upd (upd H2 a2 (.lst (names2.map V.str))) so (.lst ([.ref a0] ++ [.ref a1] ++ [.ref a2])) = H3 at k3 F3 h0' h1' h2' hs' ⊢
    clear k1 k2 F1 F2 g0 g0' g1 gs gs' n1 n2
    -- one of them
    refine ⟨_, rfl, _, rfl, f, _, _, rfl, F3, by omega, by decide, by decide, fun d H4 d0 d1 k4 F4 => ?_⟩
    obtain ⟨A, ls0, eA, nA, fA, sA, hA, okA, lA⟩ : ∃ (A : Addr) (ls0 : List Str), atI [V.ref a0, .ref a1, .ref a2] d = some (.ref A) ∧ H A = none ∧ A ≠ f ∧ A ≠ so ∧ H3 A = some (.lst (ls0.map V.str)) ∧ NamesOk ls0 ∧ ls0.length = 8 := by
      have h3 : d = 0 ∨ d = 1 ∨ d = 2 := by omega
      rcases h3 with rfl | rfl | rfl
      · exact ⟨a0, names0, atI_nat (j := 0) rfl, n0, fa0, s0, h0', n0Ok, rfl⟩
      · exact ⟨a1, names1, atI_nat (j := 1) rfl, na1, fa1, s1, h1', n1Ok, rfl⟩
      · exact ⟨a2, names2, atI_nat (j := 2) rfl, na2, fa2, s2, h2', n2Ok, rfl⟩
    have nf : ∀ {b : Addr}, b ≠ f → b ∉ [f] := fun h z => h (List.mem_singleton.mp z)
    refine ⟨so, _, _, _, rfl, rfl, .of (k4 _ _ (nf fso) hs'), eA, ?_⟩
    have k5 := k3.trans k4
    have hA4 := k4 _ _ (nf fA) hA
    refine ⟨_, rfl, m, rfl, by omega, by omega, fun D hD => lc_it walk_range (fun i H' => ∃ (zs ls : List Str), Keep [f] H H' ∧ H' D = some (.lst (zs.map V.str)) ∧ H' A = some (.lst (ls.map V.str)) ∧ zs.length = i ∧ zs.length + ls.length = 8 ∧ NamesOk (zs ++ ls) ∧ FAt H' f (n + 1 + i)) ?_ (fun _ _ _ _ => trivial) ?_ ?_⟩
    · exact ⟨[], ls0, k5.trans (Keep.of (Same.new hD)), upd_same, Same.new hD _ _ hA4, rfl, by rw [lA]; rfl, okA, (F4.same (Same.new hD)).mono (by omega)⟩
    · rintro i x H5 H6 hi ⟨zs, ls, k6, hD5, hA5, hz, hzl, hok, F5⟩ ⟨rfl, rfl⟩
      have hll : (ls.map V.str).length = ls.length := List.length_map _
      refine ⟨rfl, _, rfl, .inl ⟨rfl, _, .of hA5⟩, _, rfl, _, rfl, A, _, rfl, .inl (.of hA5), f, _, _, rfl, F5, by omega, by rw [hll]; omega, by rw [hll]; omega, fun e H7 e0 e1 k7 F7 => ?_⟩
      rw [hll] at e1
      have hk : e.toNat < ls.length := by omega
      have AD : A ≠ D := ne_of_none hA4 hD
      have fD : D ≠ f := F4.ne hD
      have hA7 := k7 _ _ (nf fA) hA5
      have hD7 := k7 _ _ (nf fD) hD5
      refine ⟨A, _, e, e.toNat, .str ls[e.toNat], rfl, rfl, hA7, by omega, by omega, seqIndex_of (by omega) (by rw [hll]; omega), by rw [List.getElem?_map, List.getElem?_eq_getElem hk]; rfl, zs.map V.str, by rw [upd_ne AD.symm]; exact hD7, ?_, zs ++ [ls[e.toNat]], ls.eraseIdx e.toNat, ?_, ?_, ?_, ?_, ?_, hok.pop (List.getElem?_eq_getElem hk), ?_⟩
      · rw [List.length_map]
        exact small1000 (by omega)
      · exact keep_set (keep_set (k6.trans k7) nA) (k5.none_of hD (nf fD))
      · rw [upd_same, List.map_append]
        all_goals rfl
      · rw [upd_ne AD, upd_same, map_erase]
      · rw [List.length_append, hz]
        all_goals rfl
      · rw [List.length_append, List.length_eraseIdx_of_lt hk]
        simp only [List.length_cons, List.length_nil]
        omega
      · obtain ⟨b1, b2, b3, b4, b5⟩ := F7
        refine ⟨b1, b2, b3, by rw [upd_ne fD.symm, upd_ne fA.symm]; exact b4, b5.1, b5.2.1, b5.2.2.1, by omega⟩
    · rintro H5 ⟨zs, ls, k6, hD5, hA5, hz, hzl, hok, F5⟩
      exact q zs D H5 (by omega) ⟨(List.nodup_append.mp hok.nd).1, fun z hz => hok.ok z (List.mem_append_left _ hz)⟩ k6 (k5.none_of hD (nf (F4.ne hD))) hD5 (F5.mono (by omega))
end
end TC

/-! The law's layouts: _law_layout. -/
namespace TC
open PySem PySem.Spec PySem.Calls PyProof.Rows L2

/-- flat tuples move where tuples stay -/
theorem kind_move {K : PySem.W.Frag} {Ha Hb : Hp} {v : V} {k : Kd} (h : Dp K Ha v k.data) (ok : k.ok) (m : ∀ b xs, Rd Ha b (.tup xs) → Rd Hb b (.tup xs)) : Dp K Hb v k.data := by
  obtain ⟨a, xs, rfl, ht, hx⟩ := dp_tup h
  have fl : (PyData.str k.word :: k.parts).all flatD = true := by
    rw [List.all_cons, Kd.flat ok]
    show PyData.strOk k.word && true = true
    rw [k.wordOk]
    all_goals rfl
  have e := flat_vals fl hx
  subst e
  refine .tup ?_ (vals_flat fl)
  rcases ht with ht | ht
  · exact .inl (m _ _ ht)
  · exact .inr ht
/-- a layout at t, with its two first lists -/
def LyAt (K : PySem.W.Frag) (H : Hp) (t : Addr) (y : Ly) : Prop := ∃ (av as : Addr) (xv xs : List V) (v2 v3 : V), H t = some (.tup [.ref av, .ref as, v2, v3]) ∧ H av = some (.lst xv) ∧ H as = some (.lst xs) ∧ DpAll K H xv (y.vs.map Vw.data) ∧ DpAll K H xs (y.rs.map Rc.data) ∧ Dp K H v2 (psData y.ws) ∧ Dp K H v3 (psData y.bs)
theorem LyAt.same {K : PySem.W.Frag} {H H' : Hp} {t : Addr} {y : Ly} (h : LyAt K H t y) (s : Same H H') : LyAt K H' t y := by
  obtain ⟨av, as, xv, xs, v2, v3, h1, h2, h3, h4, h5, h6, h7⟩ := h
  exact ⟨av, as, xv, xs, v2, v3, s _ _ h1, s _ _ h2, s _ _ h3, DpAll.same s h4, DpAll.same s h5, h6.same s, h7.same s⟩
theorem LyAt.dp {K : PySem.W.Frag} {H : Hp} {t : Addr} {y : Ly} (h : LyAt K H t y) : Dp K H (.ref t) y.data := by
  obtain ⟨av, as, xv, xs, v2, v3, h1, h2, h3, h4, h5, h6, h7⟩ := h
  exact .tup (.of h1) (.cons (.lst (.of h2) h4) (.cons (.lst (.of h3) h5) (.cons h6 (.cons h7 .nil))))
def spLayoutL (K : PySem.W.Frag) : Sp := fun vs H Q _ => ∃ (f av : Addr) (n : Int) (xv : List V) (ws : List Vw) (m top : Int), vs = [.ref f, .ref av, .int m, .int top] ∧ FAt H f n ∧ n + 5000 ≤ FAt.lim ∧ hid [f] H av = some (.lst xv) ∧ DpAll K (hid [f] H) xv (ws.map Vw.data) ∧ VsOk ws ∧ 0 ≤ m ∧ m ≤ 8 ∧ 1 ≤ top ∧ top ≤ 1000000000 ∧
  ∀ (y : Ly) (t : Addr) (H' : Hp), y.vs = ws → (y.rs.length : Int) = m → y.ok → Keep [f] H H' → LyAt K (hid [f] H') t y → FAt H' f (n + 400) → Q (.ref t) H'
section
variable {P : Program} {w : World} {K : PySem.W.Frag} {mg : Str → Option Value} {base : Heap}
theorem sc_layoutL : FnScope ["_law_fount_here", "_law_views", "_law_many", "_law_top", "_law_names_here", "_law_some", "_law_number", "_law_view"] ["_law_fount_here", "_law_views", "_law_many", "_law_top"] (defScope s_law_layout) := ⟨rfl, rfl, rfl, by decide +kernel, rfl, by decide +kernel, by decide +kernel⟩
theorem ok_layoutL (T : Txt w K mg) : Prom P w K mg base 3 "_law_layout" ["_law_fount_here", "_law_views", "_law_many", "_law_top"] (spLayoutL K) := by
  have pD := ok_dip (P := P) (base := base) T
  have pN := ok_names (P := P) (base := base) T
  have pK := ok_kindL (P := P) (base := base) T
  have pP := ok_pairs (P := P) (base := base) T
  refine T.d_law_layout.prom sc_layoutL (fun vs H Q E h => ?_) (fun f0 cdv A outer s H vs Q E hr h => ?_)
  · obtain ⟨f, av, n, xv, ws, m, top, rfl, _⟩ := h
    rfl
  · obtain ⟨f, av, n, xv, ws, m, top, rfl, hF, hn, hav, ev, hws, h0, h8, ht1, ht9, q⟩ := h
    have hlim : FAt.lim = 1000000000000 := rfl
    have hr1 : Room 1 _ := hr.mono (by decide)
    refine ⟨_, pss_cons (ps_par (i := 4) (j := 5) (by rfl) sc_layoutL.nd rfl rfl (by decide) rfl rfl (pa_cons (pe_p pN hr (by rfl) (pa_cons (pv 0) (pa_cons (pv 2) pa_nil))) (pa_cons (pe_lst pa_nil) pa_nil)) (by rfl))
      (pss_cons (ps_for PassesOwn.never rfl (pi_range1 (by rfl) T.b_range (pa_cons (pv 2) pa_nil)) (pg_name (i := 6) sc_layoutL.nd rfl (Or.inl rfl))
        (pss_cons (ps_set (i := 7) sc_layoutL.nd rfl (Or.inl rfl) (pe_p pD hr1 (by rfl) (pa_cons (pv 0) (pa_cons (pe_op op_add (pe_callB call_len_seq (by rfl) T.b_len PySem.boot_len (pa_cons (pv 1) pa_nil)) pe_int) pa_nil))))
        (pss_one (ps_expr (pe_bm PySem.F.plainAttrs_list PySem.F.slot_list_append PySem.F.type_list_append mt_append (pv 5) (pa_cons (pe_tup (pa_cons (pe_ix ix_list (pv 4) (pv 6) (fun _ _ => rfl)) (pa_cons (pv 7) (pa_cons (pe_p pK hr (by rfl) (pa_cons (pv 0) (pa_cons (pv 3) pa_nil))) pa_nil)))) pa_nil))))))
      (pss_one (ps_ret (pe_tup (pa_cons (pv 1) (pa_cons (pv 5) (pa_cons (pe_p pP hr (by rfl) (pa_cons (pv 0) (pa_cons (pv 2) (pa_cons pe_bl (pa_cons pe_int pa_nil)))))
        (pa_cons (pe_p pP hr (by rfl) (pa_cons (pv 0) (pa_cons (pv 2) (pa_cons pe_bl (pa_cons pe_int pa_nil))))) pa_nil)))))))), ?_⟩
    have lv : SqL K (hid [f] H) av xv := .of hav
    have lvn : (xv.length : Int) = (ws.length : Int) := by rw [dp_len ev, List.length_map]
    have nf : ∀ {b : Addr}, b ≠ f → b ∉ [f] := fun h z => h (List.mem_singleton.mp z)
    refine ⟨_, rfl, _, rfl, f, _, _, rfl, hF, by omega, h0, h8, fun zs zD H1 zl zok k1 nz hz F1 => ⟨Nat.zero_le _, fun so ns => ⟨_, _, rfl, ?_⟩⟩⟩
    have k2 : Keep [f] H (upd H1 so (.lst [])) := k1.trans (Keep.of (Same.new ns))
    have F2 : FAt (upd H1 so (.lst [])) f (n + 20) := F1.same (Same.new ns)
    have hz2 : (upd H1 so (.lst [])) zD = some (.lst (zs.map V.str)) := Same.new ns _ _ hz
    have fso : so ≠ f := F1.ne ns
    have nso : H so = none := k1.none_of ns (nf fso)
    have fz : zD ≠ f := hF.ne nz
    have zso : zD ≠ so := ne_of_none hz ns
    refine ⟨_, rfl, m, rfl, by omega, by omega, for_range (fun (i : Nat) σ H' => ∃ (rs : List Rc) (xs : List V) (s6 s7 : Option V), σ = [some (.ref f), some (.ref av), some (.int m), some (.int top), some (.ref zD), some (.ref so), s6, s7] ∧ Keep [f] H H' ∧ H' zD = some (.lst (zs.map V.str)) ∧
      H' so = some (.lst xs) ∧ DpAll K (hid [f, so] H') xs (rs.map Rc.data) ∧ rs.length = i ∧ rs.map (·.name) = zs.take i ∧ (∀ r ∈ rs, NumOk 0 r.view ws.length ∧ r.kind.ok) ∧ FAt H' f (n + 20 + 7 * i)) ?_ ?_ ?_⟩
    · exact ⟨[], [], none, none, rfl, k2, hz2, upd_same, .nil, rfl, rfl, fun r hr => absurd hr List.not_mem_nil, F2.mono (by omega)⟩
    · rintro i σ H3 hi ⟨rs, xs, s6, s7, rfl, k3, hz3, hs3, hd3, hrl, hnm, hok, F3⟩
      have ei : (0 : Int) + (i : Nat) = (i : Nat) := by omega
      show gName 6 (V.int (0 + (i : Nat))) _ _ _
      rw [ei]
      have lv3 : SqL K H3 av xv := hid_same.seq (k3.same.seq lv)
      have hw12 := hws.1
      refine ⟨_, rfl, _, rfl, av, xv, rfl, .inl lv3, _, _, rfl, rfl, f, _, _, rfl, F3, by omega, by omega, by omega, fun vw H4 v0 v1 k4 F4 => ?_⟩
      have hiz : i < zs.length := by omega
      have hz4 := k4 _ _ (nf fz) hz3
      have hs4 := k4 _ _ (nf fso) hs3
      refine ⟨_, rfl, .inl ⟨rfl, _, .of hs4⟩, _, rfl, _, rfl, zD, _, _, .str zs[i], rfl, rfl, .of hz4, atI_nat (by rw [List.getElem?_map, List.getElem?_eq_getElem hiz]; rfl), _, rfl, _, rfl, _, rfl, f, _, _, rfl, F4, by omega, ht1, ht9, fun kv kd H5 kok k5 hkd F5 => ⟨(show 3 ≤ sizeLine by decide), fun t nt => ?_⟩⟩
      have hs5 := k5 _ _ (nf fso) hs4
      have hz5 := k5 _ _ (nf fz) hz4
      have sot : so ≠ t := ne_of_none hs5 nt
      have ft := F5.ne nt
      have zt : zD ≠ t := ne_of_none hz5 nt
      have e3 := dp_len hd3
      rw [List.length_map] at e3
      refine ⟨so, xs, _, rfl, rfl, Same.new nt _ _ hs5, small1000 (by omega), rs ++ [⟨zs[i], vw, kd⟩], xs ++ [.ref t], _, _, rfl, ?_, ?_, upd_same, ?_, ?_, ?_, ?_, ?_⟩
      · exact keep_set (((k3.trans k4).trans k5).trans (Keep.of (Same.new nt))) nso
      · rw [upd_ne zso]
        exact Same.new nt _ _ hz5
      · rw [List.map_append]
        have kk : Keep [f, so] H3 (upd (upd H5 t (.tup [.str zs[i], .int vw, kv])) so (.lst (xs ++ [.ref t]))) := (((keepL k4).trans (keepL k5)).trans (Keep.of (Same.new nt))).trans (Keep.set (by simp))
        have mv : ∀ b us, Rd (hid [f] H5) b (.tup us) → Rd (hid [f, so] (upd (upd H5 t (.tup [.str zs[i], .int vw, kv])) so (.lst (xs ++ [.ref t])))) b (.tup us) := by
          have one : ∀ b u, (∀ w, u ≠ .lst w) → hid [f] H5 b = some u → hid [f, so] (upd (upd H5 t (.tup [.str zs[i], .int vw, kv])) so (.lst (xs ++ [.ref t]))) b = some u := by
            intro b u hu e
            have e5 := hid_same _ _ e
            have bf : b ≠ f := by
              rintro rfl
              rw [hid_in List.mem_cons_self] at e
              cases e
            have bs : b ≠ so := by
              rintro rfl
              rw [hs5] at e5
              exact hu _ (Option.some.inj e5).symm
            rw [hid_out (in2 bf bs), upd_ne bs, upd_ne (ne_of_none e5 nt)]
            exact e5
          rintro b us (e | ⟨o, e⟩)
          · exact .inl (one b _ (fun w z => nomatch z) e)
          · exact .inr ⟨o, one b _ (fun w z => nomatch z) e⟩
        refine dp_append (DpAll.same kk.same hd3) (.cons (.tup (.of ?_) (.cons (.str _) (.cons (.int _) (.cons (kind_move hkd kok mv) .nil)))) .nil)
        rw [hid_out (in2 ft sot.symm), upd_ne sot.symm]
        exact upd_same
      · rw [List.length_append, hrl]
        all_goals rfl
      · rw [List.map_append, hnm, take_snoc (List.getElem?_eq_getElem hiz)]
        all_goals rfl
      · intro r hr
        rcases List.mem_append.mp hr with hr | hr
        · exact hok r hr
        · rw [List.mem_singleton.mp hr]
          exact ⟨⟨v0, by show vw ≤ (ws.length : Int); omega⟩, kok⟩
      · obtain ⟨b1, b2, b3, b4, b5⟩ := F5
        refine ⟨b1, b2, b3, by rw [upd_ne fso.symm, upd_ne ft.symm]; exact b4, b5.1, b5.2.1, b5.2.2.1, by omega⟩
    · rintro σ H3 ⟨rs, xs, s6, s7, rfl, k3, hz3, hs3, hd3, hrl, hnm, hok, F3⟩
      refine ⟨_, rfl, _, rfl, _, rfl, _, rfl, f, _, _, _, _, rfl, F3, by omega, h0, h8, by decide, by decide, fun ps1 l1 x1 H4 ok1 len1 k4 n1 hl1 hd1 F4 => ?_⟩
      refine ⟨_, rfl, _, rfl, f, _, _, _, _, rfl, F4, by omega, h0, h8, by decide, by decide, fun ps2 l2 x2 H5 ok2 len2 k5 n2 hl2 hd2 F5 => ⟨(show 4 ≤ sizeLine by decide), fun t nt => ?_⟩⟩
      have hm : (rs.length : Int) = m := by omega
      have hzm : rs.map (·.name) = zs := by rw [hnm, List.take_of_length_le (by omega)]
      have ft := F5.ne nt
      have fl1 : l1 ≠ f := F3.ne n1
      have fl2 : l2 ≠ f := F4.ne n2
      have s45 : Same (hid [f] H4) (hid [f] (upd H5 t (.tup [.ref av, .ref so, .ref l1, .ref l2]))) := (k5.trans (Keep.of (Same.new nt))).same
      have s35 : Same (hid [f] H3) (hid [f] (upd H5 t (.tup [.ref av, .ref so, .ref l1, .ref l2]))) := ((k4.trans k5).trans (Keep.of (Same.new nt))).same
      have s05 : Keep [f] H (upd H5 t (.tup [.ref av, .ref so, .ref l1, .ref l2])) := ((k3.trans k4).trans k5).trans (Keep.of (Same.new nt))
      have s55 : Same (hid [f] H5) (hid [f] (upd H5 t (.tup [.ref av, .ref so, .ref l1, .ref l2]))) := new_hid nt
      refine q ⟨ws, rs, ps1, ps2⟩ t _ rfl hm ⟨hws, ⟨by show rs.length ≤ 8; omega, by show (rs.map (·.name)).Nodup; rw [hzm]; exact zok.nd, fun r hr => ⟨zok.ok _ (by rw [← hzm]; exact List.mem_map.mpr ⟨r, hr, rfl⟩), hok r hr⟩⟩, ⟨by show ps1.length ≤ 12; omega, ?_⟩, by show ps2.length ≤ 28; omega, ?_⟩ s05 ?_ ((F5.same (Same.new nt)).mono (by omega))
      · show PsOk (rs.length : Int) false ps1
        rw [hm]
        exact ok1
      · show PsOk (rs.length : Int) true ps2
        rw [hm]
        exact ok2
      · exact ⟨av, so, xv, xs, .ref l1, .ref l2, hid_at upd_same (nf ft), s05.same _ _ hav, s35 _ _ (hid_at hs3 (nf fso)), DpAll.same s05.same ev, DpAll.same (hid_1.trans s35) hd3, .lst (.of (s45 _ _ (hid_at hl1 (nf fl1)))) (DpAll.same s45 hd1), .lst (.of (s55 _ _ (hid_at hl2 (nf fl2)))) (DpAll.same s55 hd2)⟩
end
end TC

/-! Data that may be compared and shown; the plain law behind _law_others_right. -/
namespace TC
open PySem L2

structure Nice (n m : Nat) (d : PyData) : Prop where
  can : PyData.canLay0 d = true
  dep : PyData.depth d ≤ n
  sh : PyData.intsShort 13 d = true
  shw : PyData.showable d = true
  nod : PyData.hasDict d = false
  blk : PyData.bulk d ≤ m
theorem Nice.mono {n m n' m' : Nat} {d : PyData} (h : Nice n m d) (hn : n ≤ n') (hm : m ≤ m') : Nice n' m' d := ⟨h.can, Nat.le_trans h.dep hn, h.sh, h.shw, h.nod, Nat.le_trans h.blk hm⟩
theorem Nice.int {i : Int} (h : i.natAbs < 10 ^ 12) : Nice 0 0 (.int i) := by
  refine ⟨by simp only [PyData.canLay0], by simp only [PyData.depth]; exact Nat.le_refl _, ?_, ?_, by simp only [PyData.hasDict], by simp only [PyData.bulk]; exact Nat.le_refl _⟩
  · simp only [PyData.intsShort]
    exact decide_eq_true (PyData.shown_int_le h)
  · simp only [PyData.showable]
    have h2 : i.natAbs < 2 ^ 40 := Nat.lt_trans h (by decide)
    have h3 : i.natAbs.log2 < 40 := PySem.Flt.log2_lt_of (n := i.natAbs) (k := 40) (show 0 < 40 by decide) h2
    have h4 : i.natAbs.log2 < 1920 := Nat.lt_trans h3 (show 40 < 1920 by decide)
    exact decide_eq_true h4
theorem Nice.str {x : Str} (h : PyData.strOk x = true) : Nice 0 x.length (.str x) := by
  refine ⟨?_, by simp only [PyData.depth]; exact Nat.le_refl _, by simp only [PyData.intsShort], by simp only [PyData.showable], by simp only [PyData.hasDict], by simp only [PyData.bulk]; exact Nat.le_refl _⟩
  simp only [PyData.canLay0]
  exact h
theorem nice_all {n m : Nat} : ∀ {ds : List PyData}, (∀ d ∈ ds, Nice n m d) → PyData.canLayAll0 ds = true ∧ PyData.depthAll ds ≤ n ∧ PyData.intsShortAll 13 ds = true ∧ PyData.showableAll ds = true ∧ PyData.hasDictAll ds = false ∧ PyData.bulkAll ds ≤ ds.length * (m + 1)
  | [], _ => by
    simp only [PyData.canLayAll0, PyData.depthAll, PyData.intsShortAll, PyData.showableAll, PyData.hasDictAll, PyData.bulkAll, List.length_nil, Nat.zero_mul, Nat.zero_le, Nat.le_refl, and_self]
  | d :: ds, h => by
    obtain ⟨h1, h2, h3, h4, h5, h6⟩ := nice_all (fun e he => h e (List.mem_cons_of_mem _ he))
    have hd := h d List.mem_cons_self
    simp only [PyData.canLayAll0, PyData.depthAll, PyData.intsShortAll, PyData.showableAll, PyData.hasDictAll, PyData.bulkAll, List.length_cons, Nat.add_mul, Nat.one_mul, Bool.and_eq_true, Bool.or_eq_false_iff]
    have hb := hd.blk
    exact ⟨⟨hd.can, h1⟩, Nat.max_le.mpr ⟨hd.dep, h2⟩, ⟨hd.sh, h3⟩, ⟨hd.shw, h4⟩, ⟨hd.nod, h5⟩, by omega⟩
theorem Nice.list {n m L : Nat} {ds : List PyData} (h : ∀ d ∈ ds, Nice n m d) (hl : ds.length ≤ L) : Nice (n + 1) (L * (m + 1)) (.list ds) := by
  obtain ⟨h1, h2, h3, h4, h5, h6⟩ := nice_all h
  have h7 : ds.length * (m + 1) ≤ L * (m + 1) := Nat.mul_le_mul_right _ hl
  refine ⟨by simp only [PyData.canLay0]; exact h1, by simp only [PyData.depth]; omega, by simp only [PyData.intsShort]; exact h3, by simp only [PyData.showable]; exact h4, by simp only [PyData.hasDict]; exact h5, by simp only [PyData.bulk]; omega⟩
theorem Nice.tuple {n m L : Nat} {ds : List PyData} (h : ∀ d ∈ ds, Nice n m d) (hl : ds.length ≤ L) : Nice (n + 1) (L * (m + 1)) (.tuple ds) := by
  obtain ⟨h1, h2, h3, h4, h5, h6⟩ := nice_all h
  have h7 : ds.length * (m + 1) ≤ L * (m + 1) := Nat.mul_le_mul_right _ hl
  refine ⟨by simp only [PyData.canLay0]; exact h1, by simp only [PyData.depth]; omega, by simp only [PyData.intsShort]; exact h3, by simp only [PyData.showable]; exact h4, by simp only [PyData.hasDict]; exact h5, by simp only [PyData.bulk]; omega⟩
theorem Nice.fits {n m : Nat} {d : PyData} (h : Nice n m d) (hm : m ≤ 2 ^ 20) : d.shown.length ≤ sizeLine :=
  PyData.shown_fits_bulk (B := 13) (by decide) (by decide) (PyData.leavesShort_of_canLay0 13 d h.can h.sh) (Nat.le_trans h.blk hm)
theorem Nice.shaped {n m : Nat} {d : PyData} (h : Nice n m d) (hn : n ≤ 64) : SeqAt.shaped d = true := shaped_of h.can (Nat.le_trans h.dep hn)
theorem nice_num {lo i hi : Int} (h : NumOk lo i hi) (hl : -1000 ≤ lo) (hh : hi ≤ 1000000000) : Nice 0 0 (.int i) := Nice.int (by
  have h1 := h.1
  have h2 := h.2
  have e : (10 : Nat) ^ 12 = 1000000000000 := by decide
  rw [e]
  omega)
theorem signs_small : ∀ c ∈ signs.cps.toList, c < 0x110000 := by decide +kernel
theorem name_strOk {z : Str} (h : NameOk z) : PyData.strOk z = true := by
  unfold PyData.strOk
  rw [Array.all_eq_true']
  intro c hc
  exact decide_eq_true (signs_small c (h.2.2 c (Array.mem_toList_iff.mpr hc)))
theorem kd_word_len (k : Kd) : k.word.length ≤ 9 := by
  cases k
  · show ("touch" : Str).length ≤ 9
    decide +kernel
  · show ("tap" : Str).length ≤ 9
    decide +kernel
  · show ("taps" : Str).length ≤ 9
    decide +kernel
  · show ("long" : Str).length ≤ 9
    decide +kernel
  · show ("drag" : Str).length ≤ 9
    decide +kernel
  · show ("pinch" : Str).length ≤ 9
    decide +kernel
theorem kd_parts_len (k : Kd) : k.parts.length ≤ 4 := by
  cases k
  · show 0 ≤ 4
    decide
  · show 2 ≤ 4
    decide
  · show 4 ≤ 4
    decide
  · show 2 ≤ 4
    decide
  · show 2 ≤ 4
    decide
  · show 1 ≤ 4
    decide
theorem nice_kind {k : Kd} (h : k.ok) : Nice 1 50 k.data := by
  have hw : Nice 0 9 (.str k.word) := (Nice.str k.wordOk).mono (Nat.le_refl _) (kd_word_len k)
  have num : ∀ {lo i hi : Int}, NumOk lo i hi → -1000 ≤ lo → hi ≤ 1000000000 → Nice 0 9 (.int i) := fun h1 h2 h3 => (nice_num h1 h2 h3).mono (Nat.le_refl _) (Nat.zero_le _)
  refine (Nice.tuple (n := 0) (m := 9) (L := 5) (fun d hd => ?_) ?_ : Nice 1 (5 * 10) _)
  · rcases List.mem_cons.mp hd with rfl | hd
    · exact hw
    · cases k with
      | touch => exact absurd hd List.not_mem_nil
      | tap t s =>
        rcases List.mem_cons.mp hd with rfl | hd
        · exact num h.1 (by decide) (by decide)
        · rw [List.mem_singleton.mp hd]
          exact num h.2 (by decide) (by decide)
      | taps c t g s =>
        rcases List.mem_cons.mp hd with rfl | hd
        · exact num h.1 (by decide) (by decide)
        rcases List.mem_cons.mp hd with rfl | hd
        · exact num h.2.1 (by decide) (by decide)
        rcases List.mem_cons.mp hd with rfl | hd
        · exact num h.2.2.1 (by decide) (by decide)
        · rw [List.mem_singleton.mp hd]
          exact num h.2.2.2 (by decide) (by decide)
      | long t s =>
        rcases List.mem_cons.mp hd with rfl | hd
        · exact num h.1 (by decide) (by decide)
        · rw [List.mem_singleton.mp hd]
          exact num h.2 (by decide) (by decide)
      | drag ax s =>
        rcases List.mem_cons.mp hd with rfl | hd
        · refine (Nice.str (strOk_ax h.1)).mono (Nat.le_refl _) ?_
          rcases h.1 with rfl | rfl | rfl <;> decide +kernel
        · rw [List.mem_singleton.mp hd]
          exact num h.2 (by decide) (by decide)
      | pinch s =>
        rw [List.mem_singleton.mp hd]
        exact num h (by decide) (by decide)
  · exact Nat.succ_le_succ (kd_parts_len k)
def NumBd (v : Vw) : Prop := VwBd 1000000000 v
theorem nice_view {v : Vw} {n : Int} (ok : v.ok n) (hn : n ≤ 100) (bd : VwBd 1000000000 v) : Nice 1 5 v.data := by
  obtain ⟨o1, o2, o3, o4⟩ := ok
  obtain ⟨b1, b2, b3, b4⟩ := bd
  have e : (10 : Nat) ^ 12 = 1000000000000 := by decide
  have num : ∀ {i : Int}, -1000000000 ≤ i → i ≤ 1000000000 → Nice 0 0 (.int i) := fun h1 h2 => Nice.int (by rw [e]; omega)
  refine (Nice.tuple (n := 0) (m := 0) (L := 5) (fun d hd => ?_) (Nat.le_refl 5) : Nice 1 (5 * 1) v.data)
  obtain ⟨i, hi, rfl⟩ := List.mem_map.mp hd
  have hi : i ∈ [v.p, v.l, v.t, v.r, v.b] := hi
  simp only [List.mem_cons, List.not_mem_nil, or_false] at hi
  rcases hi with rfl | rfl | rfl | rfl | rfl
  · exact num (by omega) (by omega)
  · exact num (by omega) (by omega)
  · exact num (by omega) (by omega)
  · exact num (by omega) (by omega)
  · exact num (by omega) (by omega)
theorem nice_rec {n : Nat} {r : Rc} (h : NameOk r.name ∧ NumOk 0 r.view n ∧ r.kind.ok) (hn : n ≤ 100) : Nice 2 153 r.data := by
  refine (Nice.tuple (n := 1) (m := 50) (L := 3) (fun d hd => ?_) (Nat.le_refl 3) : Nice 2 (3 * 51) r.data)
  simp only [List.mem_cons, List.not_mem_nil, or_false] at hd
  rcases hd with rfl | rfl | rfl
  · exact (Nice.str (name_strOk h.1)).mono (by decide) (Nat.le_trans h.1.2.1 (by decide))
  · exact (nice_num h.2.1 (by decide) (by omega)).mono (by decide) (by decide)
  · exact nice_kind h.2.2
theorem nice_pair {m : Int} {b : Bool} {p : Pr} (h : PrOk m b p) (hm : m ≤ 100) : Nice 1 2 (prData p) := by
  refine (Nice.tuple (n := 0) (m := 0) (L := 2) (fun d hd => ?_) (Nat.le_refl 2) : Nice 1 (2 * 1) (prData p))
  obtain ⟨i, hi, rfl⟩ := List.mem_map.mp hd
  simp only [List.mem_cons, List.not_mem_nil, or_false] at hi
  rcases hi with rfl | rfl
  · exact nice_num h.1 (by decide) (by omega)
  · exact nice_num h.2.1 (by decide) (by omega)
theorem nice_layout {y : Ly} (ok : y.ok) (bd : VsBd 1000000000 y.vs) : Nice 4 10000 y.data := by
  obtain ⟨⟨v1, v2⟩, ⟨r1, r2, r3⟩, ⟨w1, w2, _⟩, b1, b2, _⟩ := ok
  have n1 : Nice 3 1500 (vsData y.vs) := ((Nice.list (n := 1) (m := 5) (L := 12) (fun d hd => by
    obtain ⟨v, hv, rfl⟩ := List.mem_map.mp hd
    obtain ⟨i, hi, e⟩ := List.getElem_of_mem hv
    exact nice_view (v2 i v (by rw [List.getElem?_eq_getElem hi, e])) (by omega) (bd v hv)) (by rw [List.length_map]; exact v1) : Nice 2 (12 * 6) (vsData y.vs))).mono (by decide) (by decide)
  have n2 : Nice 3 1500 (rsData y.rs) := ((Nice.list (n := 2) (m := 153) (L := 8) (fun d hd => by
    obtain ⟨r, hr, rfl⟩ := List.mem_map.mp hd
    exact nice_rec (r3 r hr) (by omega)) (by rw [List.length_map]; exact r1) : Nice 3 (8 * 154) (rsData y.rs))).mono (by decide) (by decide)
  have n3 : Nice 3 1500 (psData y.ws) := ((Nice.list (n := 1) (m := 2) (L := 12) (fun d hd => by
    obtain ⟨p, hp, rfl⟩ := List.mem_map.mp hd
    exact nice_pair (w2 p hp) (by omega)) (by rw [List.length_map]; exact w1) : Nice 2 (12 * 3) (psData y.ws))).mono (by decide) (by decide)
  have n4 : Nice 3 1500 (psData y.bs) := ((Nice.list (n := 1) (m := 2) (L := 28) (fun d hd => by
    obtain ⟨p, hp, rfl⟩ := List.mem_map.mp hd
    exact nice_pair (b2 p hp) (by omega)) (by rw [List.length_map]; exact b1) : Nice 2 (28 * 3) (psData y.bs))).mono (by decide) (by decide)
  refine ((Nice.tuple (n := 3) (m := 1500) (L := 4) (fun d hd => ?_) (show 4 ≤ 4 from Nat.le_refl 4) : Nice 4 (4 * 1501) y.data)).mono (Nat.le_refl _) (by decide)
  simp only [List.mem_cons, List.not_mem_nil, or_false] at hd
  rcases hd with rfl | rfl | rfl | rfl
  · exact n1
  · exact n2
  · exact n3
  · exact n4
theorem nice_ints {ns : List Int} {L : Nat} (h : ∀ n ∈ ns, n.natAbs < 10 ^ 12) (hl : ns.length ≤ L) : Nice 1 L (.list (ns.map .int)) := by
  refine ((Nice.list (n := 0) (m := 0) (L := L) (fun d hd => ?_) (by rw [List.length_map]; exact hl) : Nice 1 (L * 1) _)).mono (Nat.le_refl _) (by omega)
  obtain ⟨n, hn, rfl⟩ := List.mem_map.mp hd
  exact Nice.int (h n hn)
end TC

/-! The plain law behind _law_others_right: other kinds, another order, a further view. -/
namespace TC
open PySem L2

/-! ### only the views count -/
theorem memL_cons (P : List Int) (k : Int) (r : Rc) (rs : List Rc) : memL P k (r :: rs) = if r.view ∈ P then k :: memL P (k + 1) rs else memL P (k + 1) rs := rfl
theorem memL_alike {P P' : List Int} : ∀ {k : Int} {rs rs' : List Rc}, rs.map (·.view) = rs'.map (·.view) → (∀ r ∈ rs, r.view ∈ P ↔ r.view ∈ P') → memL P k rs = memL P' k rs'
  | _, [], [], _, _ => rfl
  | _, [], r :: rs, h, _ => nomatch h
  | _, r :: rs, [], h, _ => nomatch h
  | k, r :: rs, r' :: rs', h, hp => by
    have h1 : r.view = r'.view := (List.cons.inj h).1
    have ih := memL_alike (k := k + 1) (List.cons.inj h).2 fun q hq => hp q (List.mem_cons_of_mem _ hq)
    have h2 := hp r List.mem_cons_self
    rw [memL_cons, memL_cons, ih, ← h1]
    by_cases c : r.view ∈ P
    · rw [if_pos c, if_pos (h2.mp c)]
    · rw [if_neg c, if_neg fun z => c (h2.mpr z)]
theorem memL_bd {P : List Int} {j : Int} : ∀ {k : Int} {rs : List Rc}, j ∈ memL P k rs → k ≤ j ∧ j < k + rs.length
  | _, [], h => absurd h List.not_mem_nil
  | k, r :: rs, h => by
    rw [memL_cons] at h
    have rec_ : j ∈ memL P (k + 1) rs → k ≤ j ∧ j < k + (r :: rs).length := fun q => by
      have h1 := memL_bd q
      rw [List.length_cons]
      omega
    by_cases c : r.view ∈ P
    · rw [if_pos c] at h
      rcases List.mem_cons.mp h with rfl | q
      · rw [List.length_cons]
        omega
      · exact rec_ q
    · rw [if_neg c] at h
      exact rec_ h

/-! ### the same recognizers in another order -/
def pick (rs : List Rc) (j : Int) : PyData := ((rs.map Rc.data)[j.toNat]?).getD .none
theorem pick_of {rs : List Rc} {j : Int} {r : Rc} (h : rs[j.toNat]? = some r) : pick rs j = r.data := by
  unfold pick
  rw [List.getElem?_map, h]
  all_goals rfl
theorem memL_pick (P : List Int) : ∀ (k : Int) (rs : List Rc), (memL P k rs).map (fun j => pick rs (j - k)) = (rs.filter fun r => decide (r.view ∈ P)).map Rc.data
  | _, [] => rfl
  | k, r :: rs => by
    have ih := memL_pick P (k + 1) rs
    have e : (memL P (k + 1) rs).map (fun j => pick (r :: rs) (j - k)) = (memL P (k + 1) rs).map (fun j => pick rs (j - (k + 1))) := by
      refine List.map_congr_left fun j hj => ?_
      have hb := (memL_bd hj).1
      unfold pick
      have e1 : (j - k).toNat = (j - (k + 1)).toNat + 1 := by omega
      rw [e1, List.map_cons, List.getElem?_cons_succ]
    rw [memL_cons]
    by_cases c : r.view ∈ P
    · rw [if_pos c, List.filter_cons_of_pos (by simpa using c), List.map_cons, List.map_cons, e, ih]
      have e0 : pick (r :: rs) (k - k) = r.data := by rw [Int.sub_self]; rfl
      rw [e0]
    · rw [if_neg c, List.filter_cons_of_neg (by simpa using c), e, ih]
theorem memL_pick0 (P : List Int) (rs : List Rc) : (memL P 0 rs).map (pick rs) = (rs.filter fun r => decide (r.view ∈ P)).map Rc.data := by
  rw [← memL_pick P 0 rs]
  refine List.map_congr_left fun j _ => ?_
  rw [Int.sub_zero]
theorem turned_pick (P : List Int) (rs : List Rc) : ((memL P 0 rs.reverse).map fun j => pick rs ((rs.length : Int) - 1 - j)).reverse = (memL P 0 rs).map (pick rs) := by
  have e : (memL P 0 rs.reverse).map (fun j => pick rs ((rs.length : Int) - 1 - j)) = (memL P 0 rs.reverse).map (pick rs.reverse) := by
    refine List.map_congr_left fun j hj => ?_
    obtain ⟨h1, h2⟩ := memL_bd hj
    rw [List.length_reverse] at h2
    have hj2 : j.toNat < rs.length := by omega
    have e1 : ((rs.length : Int) - 1 - j).toNat = rs.length - 1 - j.toNat := by omega
    unfold pick
    rw [e1, List.getElem?_map, List.getElem?_map, List.getElem?_reverse hj2]
  rw [e, memL_pick0, memL_pick0, List.filter_reverse, List.map_reverse, List.reverse_reverse]

/-! ### a further view -/
theorem VsOk.snoc {ws : List Vw} {v : Vw} (h : VsOk ws) (hl : ws.length < 12) (h0 : v.p = 0) (h1 : v.l < v.r) (h2 : v.t < v.b) : VsOk (ws ++ [v]) := by
  refine ⟨by rw [List.length_append]; show ws.length + 1 ≤ 12; omega, VsOk0.snoc h.2 ⟨by omega, by omega, h1, h2⟩⟩
theorem here_aside {ws : List Vw} {v : Vw} {x y h k : Int} (hv : hasB v x y = false) : hereL x y h k (ws ++ [v]) = hereL x y h k ws := by
  rw [hereL_snoc, if_neg (fun z => by rw [hv] at z; exact absurd z.2 Bool.false_ne_true), List.append_nil]
theorem pathF_succ (vs : List Vw) (x y : Int) (n : Nat) (h : Int) : pathF vs x y (n + 1) h = h :: (match (hereL x y h 1 vs).getLast? with
    | none => []
    | some j => pathF vs x y n j) := rfl
theorem path_aside {ws : List Vw} {v : Vw} {x y : Int} (hv : hasB v x y = false) : ∀ (n : Nat) (h : Int), pathF (ws ++ [v]) x y n h = pathF ws x y n h
  | 0, _ => rfl
  | n + 1, h => by
    rw [pathF_succ, pathF_succ, here_aside hv]
    cases (hereL x y h 1 ws).getLast? with
    | none => rfl
    | some j => 
      show h :: pathF (ws ++ [v]) x y n j = h :: pathF ws x y n j
      rw [path_aside hv n j]
theorem here_above {ws : List Vw} {v : Vw} {x y : Int} (hv : hasB v x y = true) (h0 : v.p = 0) : (hereL x y 0 1 (ws ++ [v])).getLast? = some (1 + (ws.length : Int)) := by
  rw [hereL_snoc, if_pos (show v.p = 0 ∧ hasB v x y = true from ⟨h0, hv⟩), List.getLast?_append]
  all_goals rfl
theorem path_above {ws : List Vw} {v : Vw} {x y : Int} (hv : hasB v x y = true) (h0 : v.p = 0) (ok : VsOk (ws ++ [v])) : thePath (ws ++ [v]) x y = [0, 1 + (ws.length : Int)] := by
  unfold thePath
  rw [pathF_go (here_above hv h0), pathF_end]
  rw [List.eq_nil_iff_forall_not_mem]
  intro j hj
  have := here_gt ok hj
  rw [List.length_append] at this
  simp only [List.length_cons, List.length_nil] at this
  omega

/-! ### the layouts made -/
theorem RsOk.mono {n m : Nat} {rs : List Rc} (h : RsOk n rs) (hm : n ≤ m) : RsOk m rs := ⟨h.1, h.2.1, fun r hr => ⟨(h.2.2 r hr).1, ⟨(h.2.2 r hr).2.1.1, by have := (h.2.2 r hr).2.1.2; omega⟩, (h.2.2 r hr).2.2⟩⟩
theorem RsOk.rev {n : Nat} {rs : List Rc} (h : RsOk n rs) : RsOk n rs.reverse := ⟨by rw [List.length_reverse]; exact h.1, by rw [List.map_reverse]; exact List.pairwise_reverse.mpr (h.2.1.imp fun e => e.symm), fun r hr => h.2.2 r (List.mem_reverse.mp hr)⟩
theorem PsOk.nil {m : Int} {b : Bool} : PsOk m b [] := ⟨fun p hp => absurd hp List.not_mem_nil, fun i p q e => by simp at e⟩
/-- other kinds, other waits, other pairs beside -/
theorem ok_changed {y : Ly} {rs' : List Rc} {bs : List Pr} (ok : y.ok) (hn : rs'.map (·.name) = y.rs.map (·.name)) (hv : rs'.map (·.view) = y.rs.map (·.view)) (hk : ∀ r ∈ rs', r.kind.ok) (hb : bs.length ≤ 28) (hp : PsOk (y.rs.length : Int) true bs) : Ly.ok ⟨y.vs, rs', [], bs⟩ := by
  obtain ⟨h1, ⟨h2, h3, h4⟩, _, _⟩ := ok
  have hl : rs'.length = y.rs.length := by
    have := congrArg List.length hn
    rw [List.length_map, List.length_map] at this
    exact this
  refine ⟨h1, ⟨by show rs'.length ≤ 8; rw [hl]; exact h2, by show (rs'.map (·.name)).Nodup; rw [hn]; exact h3, fun r hr => ⟨?_, ?_, hk r hr⟩⟩, ⟨Nat.zero_le _, PsOk.nil⟩, hb, ?_⟩
  · have : r.name ∈ y.rs.map (·.name) := by rw [← hn]; exact List.mem_map.mpr ⟨r, hr, rfl⟩
    obtain ⟨q, hq, e⟩ := List.mem_map.mp this
    have e : q.name = r.name := e
    rw [← e]
    exact (h4 q hq).1
  · have : r.view ∈ y.rs.map (·.view) := by rw [← hv]; exact List.mem_map.mpr ⟨r, hr, rfl⟩
    obtain ⟨q, hq, e⟩ := List.mem_map.mp this
    have e : q.view = r.view := e
    rw [← e]
    exact (h4 q hq).2.1
  · show PsOk (rs'.length : Int) true bs
    rw [hl]
    exact hp
theorem mem_changed {y : Ly} {rs' : List Rc} {ws bs : List Pr} {a b : Int} (hv : rs'.map (·.view) = y.rs.map (·.view)) : theMem ⟨y.vs, rs', ws, bs⟩ a b = theMem y a b := memL_alike hv fun _ _ => Iff.rfl
theorem ok_turned {y : Ly} (ok : y.ok) : Ly.ok ⟨y.vs, y.rs.reverse, [], []⟩ := ⟨ok.1, ok.2.1.rev, ⟨Nat.zero_le _, PsOk.nil⟩, Nat.zero_le _, PsOk.nil⟩
theorem ok_further {y : Ly} {v : Vw} (ok : y.ok) (hl : y.vs.length < 12) (h0 : v.p = 0) (h1 : v.l < v.r) (h2 : v.t < v.b) : Ly.ok ⟨y.vs ++ [v], y.rs, y.ws, y.bs⟩ := ⟨ok.1.snoc hl h0 h1 h2, ok.2.1.mono (by show y.vs.length ≤ (y.vs ++ [v]).length; rw [List.length_append]; omega), ok.2.2⟩
def vAside (x y : Int) : Vw := ⟨0, x + 1, y, x + 9, y + 9⟩
def vAbove (x y : Int) : Vw := ⟨0, x, y, x + 1, y + 1⟩
theorem has_aside (x y : Int) : hasB (vAside x y) x y = false := by
  unfold hasB vAside
  rw [decide_eq_false (by show ¬ x + 1 ≤ x; omega)]
  all_goals rfl
theorem has_above (x y : Int) : hasB (vAbove x y) x y = true := by
  unfold hasB vAbove
  rw [decide_eq_true (show x ≤ x by omega), decide_eq_true (show x < x + 1 by omega), decide_eq_true (show y ≤ y by omega), decide_eq_true (show y < y + 1 by omega)]
  all_goals rfl
theorem ok_aside {y : Ly} (ok : y.ok) (hl : y.vs.length < 12) (a b : Int) : Ly.ok ⟨y.vs ++ [vAside a b], y.rs, y.ws, y.bs⟩ := ok_further ok hl rfl (by show a + 1 < a + 9; omega) (by show b < b + 9; omega)
theorem ok_above {y : Ly} (ok : y.ok) (hl : y.vs.length < 12) (a b : Int) : Ly.ok ⟨y.vs ++ [vAbove a b], y.rs, y.ws, y.bs⟩ := ok_further ok hl rfl (by show a < a + 1; omega) (by show b < b + 1; omega)
theorem mem_aside (y : Ly) (a b : Int) : theMem ⟨y.vs ++ [vAside a b], y.rs, y.ws, y.bs⟩ a b = theMem y a b := by
  unfold theMem thePath
  rw [path_aside (has_aside a b)]
theorem mem_above {y : Ly} (ok : y.ok) (hl : y.vs.length < 12) (a b : Int) : theMem ⟨y.vs ++ [vAbove a b], y.rs, y.ws, y.bs⟩ a b = memL [0] 0 y.rs := by
  unfold theMem
  show memL (thePath (y.vs ++ [vAbove a b]) a b) 0 y.rs = _
  rw [path_above (has_above a b) rfl (ok_above ok hl a b).1]
  refine memL_alike rfl fun r hr => ?_
  have := (ok.2.1.2.2 r hr).2.1.2
  simp only [List.mem_cons, List.not_mem_nil, or_false]
  constructor
  · rintro (h | h)
    · exact h
    · omega
  · exact Or.inl
theorem view0 (n : Int) : n ∈ ([0] : List Int) ↔ n = 0 := by simp only [List.mem_cons, List.not_mem_nil, or_false]

/-! ### views scaled -/
def Vw.times (v : Vw) (n : Int) : Vw := ⟨v.p, v.l * n, v.t * n, v.r * n, v.b * n⟩
theorem mul_bd {i n : Int} (h : i ≤ 8) (h1 : 1 ≤ n) (h2 : n ≤ 100000000) : i * n ≤ 1000000000 := by
  have : i * n ≤ 8 * n := Int.mul_le_mul_of_nonneg_right h (by omega)
  omega
theorem mul_bd' {i n : Int} (h : -8 ≤ i) (h1 : 1 ≤ n) (h2 : n ≤ 100000000) : -1000000000 ≤ i * n := by
  have : (-8) * n ≤ i * n := Int.mul_le_mul_of_nonneg_right h (by omega)
  omega
theorem ok_times {vs : List Vw} {n : Int} (ok : VsOk vs) (h1 : 1 ≤ n) : VsOk (vs.map (·.times n)) := by
  refine ⟨by rw [List.length_map]; exact ok.1, fun i v e => ?_⟩
  rw [List.getElem?_map] at e
  cases ev : vs[i]? with
  | none =>
    rw [ev] at e
    cases e
  | some u =>
    rw [ev] at e
    cases e
    obtain ⟨a, b, c, d⟩ := ok.2 i u ev
    exact ⟨a, b, Int.mul_lt_mul_of_pos_right c (by omega), Int.mul_lt_mul_of_pos_right d (by omega)⟩
theorem bd_times {vs : List Vw} {n : Int} (bd : VsBd 8 vs) (h1 : 1 ≤ n) (h2 : n ≤ 100000000) : VsBd 1000000000 (vs.map (·.times n)) := by
  intro v hv
  obtain ⟨u, hu, rfl⟩ := List.mem_map.mp hv
  obtain ⟨a, b, c, d⟩ := bd u hu
  exact ⟨mul_bd' a h1 h2, mul_bd b h1 h2, mul_bd' c h1 h2, mul_bd d h1 h2⟩
theorem VsBd.wide {vs : List Vw} (bd : VsBd 8 vs) : VsBd 1000000000 vs := fun v hv => by
  obtain ⟨a, b, c, d⟩ := bd v hv
  exact ⟨by omega, by omega, by omega, by omega⟩
end TC

/-! The law's own path: _law_has, _law_path. -/
namespace TC
open PySem PySem.Spec PySem.Calls PyProof.Rows L2
section
variable {P : Program} {w : World} {K : PySem.W.Frag} {mg : Str → Option Value} {base : Heap}
theorem sc_hasL : FnScope ["_law_view", "_law_place"] ["_law_view", "_law_place"] (defScope s_law_has) := ⟨rfl, rfl, rfl, by decide +kernel, rfl, by decide +kernel, by decide +kernel⟩
theorem ok_hasL (T : Txt w K mg) : Prom P w K mg base 1 "_law_has" ["_law_view", "_law_place"] (spHas K) := by
  refine T.d_law_has.prom sc_hasL (fun vs H Q E h => ?_) (fun f cdv A outer s H vs Q E hr h => ?_)
  · obtain ⟨v, vw, ap, x, y, rfl, _⟩ := h
    rfl
  · obtain ⟨v, vw, ap, x, y, rfl, hd, ht, q⟩ := h
    obtain ⟨a, rfl, hv⟩ := dp_tints hd
    refine ⟨_, pss_one (ps_ret (pe_and (pe_chain op_le op_lt (pe_ix ix_tup (pv 0) pe_int (fun _ _ => rfl)) (pe_ix ix_tup (pv 1) pe_int (fun _ _ => rfl)) (pe_ix ix_tup (pv 0) pe_int (fun _ _ => rfl)))
      (pe_one (pe_chain op_le op_lt (pe_ix ix_tup (pv 0) pe_int (fun _ _ => rfl)) (pe_ix ix_tup (pv 1) pe_int (fun _ _ => rfl)) (pe_ix ix_tup (pv 0) pe_int (fun _ _ => rfl)))))), ?_⟩
    refine ⟨_, rfl, a, _, _, _, rfl, rfl, hv, atI_nat (j := 1) rfl, _, rfl, ap, _, _, _, rfl, rfl, ht, atI_nat (j := 0) rfl, _, _, rfl, rfl, decide (vw.l ≤ x), rfl, ?_⟩
    by_cases c : vw.l ≤ x
    · rw [decide_eq_true c]
      refine iteT ⟨_, rfl, a, _, _, _, rfl, rfl, hv, atI_nat (j := 3) rfl, _, _, rfl, rfl, decide (x < vw.r), rfl, ?_⟩
      have e : hasB vw x y = (decide (x < vw.r) && (decide (vw.t ≤ y) && decide (y < vw.b))) := by
        unfold hasB
        rw [decide_eq_true c, Bool.true_and]
      rw [e] at q
      by_cases c2 : x < vw.r
      · rw [decide_eq_true c2] at q ⊢
        rw [Bool.true_and] at q
        refine iteT ⟨_, rfl, a, _, _, _, rfl, rfl, hv, atI_nat (j := 2) rfl, _, rfl, ap, _, _, _, rfl, rfl, ht, atI_nat (j := 1) rfl, _, _, rfl, rfl, decide (vw.t ≤ y), rfl, ?_⟩
        by_cases c3 : vw.t ≤ y
        · rw [decide_eq_true c3] at q ⊢
          rw [Bool.true_and] at q
          exact iteT ⟨_, rfl, a, _, _, _, rfl, rfl, hv, atI_nat (j := 4) rfl, _, _, rfl, rfl, q⟩
        · rw [decide_eq_false c3] at q ⊢
          exact iteF q
      · rw [decide_eq_false c2] at q ⊢
        exact iteF q
    · have e : hasB vw x y = false := by
        unfold hasB
        rw [decide_eq_false c]
        all_goals rfl
      rw [e] at q
      rw [decide_eq_false c]
      exact iteF ⟨false, rfl, iteF q⟩
theorem sc_pathL : FnScope ["_law_views", "_law_place", "_law_found", "_law_here", "_law_below", "_law_at", "_law_view"] ["_law_views", "_law_place"] (defScope s_law_path) := ⟨rfl, rfl, rfl, by decide +kernel, rfl, by decide +kernel, by decide +kernel⟩
theorem ok_pathL (T : Txt w K mg) : Prom P w K mg base 2 "_law_path" ["_law_views", "_law_place"] (spPath K) := by
  have pH := ok_hasL (P := P) (base := base) T
  refine T.d_law_path.prom sc_pathL (fun vs H Q E h => ?_) (fun f cdv A outer s H vs Q E hr h => ?_)
  · obtain ⟨v, ws, ap, x, y, rfl, _⟩ := h
    rfl
  · obtain ⟨v, ws, ap, x, y, rfl, hd, hok, ht, q⟩ := h
    obtain ⟨a, xs, rfl, hl, hx⟩ := dp_lst hd
    refine ⟨_, pss_cons (ps_asg (pe_tup (pa_cons (pe_lst pa_nil) (pa_cons pe_int pa_nil))) (pg_tup rfl (pgs_cons (pg_name (i := 2) sc_pathL.nd rfl (Or.inl rfl)) (pgs_cons (pg_name (i := 3) sc_pathL.nd rfl (Or.inr rfl)) pgs_nil))))
      (pss_cons (ps_while PassesOwn.never (pt_cmp (pc_notN (pv 3)))
        (pss_cons (ps_expr (pe_bm PySem.F.plainAttrs_list PySem.F.slot_list_append PySem.F.type_list_append mt_append (pv 2) (pa_cons (pv 3) pa_nil)))
        (pss_cons (ps_setLc (i := 4) (own := [("_law_at", 5), ("_law_view", 6)]) (g := gTup K 2 (gCons (gName 5) (gCons (gName 6) gNil)))
          (tt := tAnd (tB (tEqI (tOp (rIxT K) (tVar 6) (tC (.int 0))) (tVar 3))) (tB (tCall (spHas K) [] E0 (tCons (tVar 6) (tCons (tVar 1) tNil))))) (te := tOp (rI0 fun i j => .int (i + j)) (tVar 5) (tC (.int 1))) rfl sc_pathL.nd rfl rfl (sw_true rfl rfl rfl (by decide +kernel)) (pi_enum (by rfl) T.b_enumerate (pa_cons (pv 0) pa_nil))
          (blkOk_by (N := ["_law_views", "_law_place", "_law_found", "_law_here", "_law_below", "_law_at", "_law_view"]) (sc := defScope s_law_path) (by decide +kernel))
          (fun _ _ _ _ _ => pg_tup rfl (pgs_cons (pg_name (i := 5) sc_pathL.nd rfl (Or.inl rfl)) (pgs_cons (pg_name (i := 6) sc_pathL.nd rfl (Or.inl rfl)) pgs_nil)))
          (fun _ _ _ _ _ => pts_one (PW.pt (pw_and (pt_cmp (pc_eqI (pe_ix ix_tup (pv 6) pe_int (fun _ _ => rfl)) (pv 3))) (pw_and1 (pt_val (pe_p pH hr (by rfl) (pa_cons (pv 6) (pa_cons (pv 1) pa_nil))))))))
          (fun _ _ _ _ _ => pe_op op_add (pv 5) pe_int))
        (pss_one (ps_set (i := 3) sc_pathL.nd rfl (Or.inr rfl) (pe_ifExp (pt_cmpR (op_neD hr.units) (pv 4) (pe_lst pa_nil) (nomark _)) (pe_ix ix_list (pv 4) (pe_un un_neg pe_int) (fun _ _ => rfl)) pe_non))))))
      (pss_one (ps_ret (pv 2)))), ?_⟩
    refine ⟨Nat.zero_le _, fun fo nf => ⟨(show 2 ≤ sizeLine by decide), fun t nt => ?_⟩⟩
    have s0 : Same H (upd (upd H fo (.lst [])) t (.tup [.ref fo, .int 0])) := (Same.new nf).trans (Same.new nt)
    have h0 : (upd (upd H fo (.lst [])) t (.tup [.ref fo, .int 0])) fo = some (.lst []) := Same.new nt _ _ upd_same
    have g0 : (upd (upd H fo (.lst [])) t (.tup [.ref fo, .int 0])) t = some (.tup [.ref fo, .int 0]) := upd_same
    generalize upd (upd H fo (.lst [])) t (.tup [.ref fo, .int 0]) = H0 at s0 h0 g0
    refine ⟨t, _, rfl, .of g0, rfl, _, _, rfl, _, _, rfl, rfl, ?_⟩
    refine while_by (fun σ H' => ∃ (s3 s4 : Option V) (pre : List Int), σ = [some (.ref a), some (.ref ap), some (.ref fo), s3, s4, none, none] ∧ Same H H' ∧ H' fo = some (.lst (pre.map V.int)) ∧ ((s3 = some .non ∧ pre = thePath ws x y) ∨ ∃ (h : Int) (n : Nat), s3 = some (.int h) ∧ pre ++ pathF ws x y n h = thePath ws x y ∧ 12 ≤ h + n))
      (fun σ H' => 13 - lenAt fo H') ⟨_, none, [], rfl, s0, h0, .inr ⟨0, 12, rfl, rfl, by omega⟩⟩ ?_ (fun σ H Q Q' hq h => ?_)
    · rintro σ H1 ⟨s3, s4, pre, rfl, s1, hfo, ⟨rfl, hp⟩ | ⟨h, n, rfl, hp, hn⟩⟩
      · refine ⟨_, rfl, false, rfl, iteF ⟨_, rfl, ?_⟩⟩
        rw [hp] at hfo
        exact q _ fo s1 nf hfo
      · refine ⟨_, rfl, true, rfl, iteT ?_⟩
        have hplen : pre.length < 13 := by
          have h1 := pathF_len ws x y 12 0
          have h2 := congrArg List.length hp
          have h3 : 1 ≤ (pathF ws x y n h).length := by
            cases n with
            | zero => exact Nat.le_refl _
            | succ m => exact Nat.succ_le_succ (Nat.zero_le _)
          rw [List.length_append] at h2
          unfold thePath at h2
          omega
        -- found.append(here)
        refine ⟨_, rfl, .inl ⟨rfl, _, .of hfo⟩, _, rfl, fo, _, _, rfl, rfl, hfo, by rw [List.length_map]; exact small1000 (by omega), ?_⟩
        have s1' : Same H (upd H1 fo (.lst (pre.map V.int ++ [.int h]))) := fun b o e => by
          rw [upd_ne (ne_of_none e nf)]
          exact s1 _ _ e
        have hfo' : (upd H1 fo (.lst (pre.map V.int ++ [.int h]))) fo = some (.lst ((pre ++ [h]).map V.int)) := by
          rw [upd_same, List.map_append]
          all_goals rfl
        have hlen1 := lenAt_of hfo
        generalize upd H1 fo (.lst (pre.map V.int ++ [.int h])) = H2 at s1' hfo' ⊢
        -- below = [..]
        refine ⟨_, rfl, a, xs, rfl, s1'.seq hl, fun D hD => lc_it walk_enum (fun i H' => Same H2 H' ∧ H' D = some (.lst ((hereL x y h 1 (ws.take i)).map V.int))) ⟨Same.new hD, upd_same⟩ (fun _ _ _ p => p.1.seq (s1'.seq hl)) ?_ ?_⟩
        · rintro i v H3 H4 hi ⟨s2, d2⟩ ⟨t, x0, u, rfl, nt, rfl, e0, eu⟩
          cases e0
          have s4 : Same H2 (upd H3 t (.tup [.int (i : Nat), u])) := s2.trans (Same.new nt)
          have d4 := (Same.new nt : Same H3 (upd H3 t (.tup [.int (i : Nat), u]))) _ _ d2
          have g4 : (upd H3 t (.tup [.int (i : Nat), u])) t = some (.tup [.int (i : Nat), u]) := upd_same
          generalize upd H3 t (.tup [.int (i : Nat), u]) = H4 at s4 d4 g4
          obtain ⟨d, ed, hu⟩ := dp_get hx eu
          rw [List.getElem?_map] at ed
          cases ev : ws[i]? with
          | none =>
            rw [ev] at ed
            cases ed
          | some vw =>
          rw [ev] at ed
          cases ed
          have hu4 := (hu.same s1').same s4
          obtain ⟨au, rfl, tu⟩ := dp_tints hu4
          refine ⟨t, _, rfl, .of g4, rfl, _, _, rfl, _, _, rfl, rfl, rfl, ?_⟩
          rw [hereL_turn ev]
          have ilt : i < ws.length := (List.getElem?_eq_some_iff.mp ev).1
          have len : (hereL x y h 1 (ws.take i)).length ≤ 12 := by
            have h1 := hereL_len x y h 1 (ws.take i)
            have h2 := hok.1
            rw [List.length_take] at h1
            omega
          by_cases c : vw.p = h
          · refine ⟨_, rfl, au, _, _, _, rfl, rfl, tu, atI_nat (j := 0) rfl, _, rfl, _, _, rfl, rfl, true, eT c, iteT ?_⟩
            by_cases c2 : hasB vw x y = true
            · rw [if_pos (show vw.p = h ∧ hasB vw x y = true from ⟨c, c2⟩)]
              refine ⟨_, rfl, _, rfl, _, vw, ap, x, y, rfl, hu4, s4.seqT (s1'.seqT ht), true, congrArg V.bl c2, iteT ⟨_, rfl, _, _, rfl, rfl, _, d4, ?_, fun b o e => ?_, ?_⟩⟩
              · rw [List.length_map]
                exact small1000 (by omega)
              · rw [upd_ne (ne_of_none e hD)]
                exact s4 _ _ e
              · have e1 : (1 : Int) + (i : Nat) = (i : Nat) + 1 := by omega
                rw [upd_same, List.map_append, e1]
                all_goals rfl
            · rw [if_neg (show ¬ (vw.p = h ∧ hasB vw x y = true) from fun z => c2 z.2), List.append_nil]
              rw [Bool.not_eq_true] at c2
              exact ⟨_, rfl, _, rfl, _, vw, ap, x, y, rfl, hu4, s4.seqT (s1'.seqT ht), false, congrArg V.bl c2, s4, d4⟩
          · rw [if_neg (show ¬ (vw.p = h ∧ hasB vw x y = true) from fun z => c z.1), List.append_nil]
            exact ⟨_, rfl, au, _, _, _, rfl, rfl, tu, atI_nat (j := 0) rfl, _, rfl, _, _, rfl, rfl, false, eF c, s4, d4⟩
        · rintro H3 ⟨s2, d2⟩
          have hxl : xs.length = ws.length := by rw [dp_len hx, List.length_map]
          rw [hxl, List.take_length] at d2
          -- below != []
          refine ⟨_, rfl, Nat.zero_le _, fun p nn => ⟨_, .list [], .lst (.of (Same.new nn _ _ d2)) ints_dp, .lst (.of upd_same) .nil, shaped_ints _, shaped_nilL, ?_⟩⟩
          have s5 : Same H2 (upd H3 p (.lst [])) := s2.trans (Same.new nn)
          have d5 := (Same.new nn : Same H3 (upd H3 p (.lst []))) _ _ d2
          generalize upd H3 p (.lst []) = H5 at s5 d5
          have hfo5 := s5 _ _ hfo'
          have meas : 13 - lenAt fo H5 < 13 - lenAt fo H1 := by
            rw [lenAt_of hfo5, hlen1, List.length_map, List.length_map, List.length_append]
            simp only [List.length_cons, List.length_nil]
            omega
          cases hg : (hereL x y h 1 ws).getLast? with
          | none =>
            have e := List.getLast?_eq_none_iff.mp hg
            refine ⟨false, congrArg V.bl (by rw [eqv_nilL, e]; rfl), iteF ⟨⟨_, _, pre ++ [h], rfl, s1'.trans s5, hfo5, .inl ⟨rfl, ?_⟩⟩, meas⟩⟩
            rw [pathF_end e] at hp
            exact hp
          | some j =>
            obtain ⟨front, e⟩ : ∃ front, hereL x y h 1 ws = front ++ [j] := by
              obtain ⟨l, hl2⟩ := List.getLast?_eq_some_iff.mp hg
              exact ⟨l, hl2⟩
            have hm : j ∈ hereL x y h 1 ws := by rw [e]; simp
            obtain ⟨m, rfl, hm2, _⟩ := path_step hok hn hm
            have el : (hereL x y h 1 ws).map V.int = front.map V.int ++ [.int j] := by rw [e, List.map_append]; rfl
            refine ⟨true, congrArg V.bl (by rw [eqv_nilL, e]; cases front <;> rfl), iteT ?_⟩
            refine ⟨_, rfl, 1, rfl, D, _, _, .int j, rfl, rfl, .of d5, by rw [el]; exact atI_last _ _, ⟨_, _, pre ++ [h], rfl, s1'.trans s5, hfo5, .inr ⟨j, m, rfl, ?_, hm2⟩⟩, meas⟩
            rw [← hp, pathF_go hg, List.append_assoc]
            all_goals rfl
    · obtain ⟨v, e, c, ec, h⟩ := h
      exact ⟨v, e, c, ec, hq _ _ h⟩
end
end TC

/-! The law's other layouts: _law_others_right. -/
namespace TC
open PySem PySem.Spec PySem.Calls PyProof.Rows L2

theorem out_of {L : List Addr} {H : Hp} {a : Addr} {o : HO} (e : hid L H a = some o) : a ∉ L := fun z => by
  rw [hid_in z] at e
  cases e
theorem wipe_get {σ : L2.St} {i : Nat} : ∀ {vs : List Nat}, (wipe σ vs)[i]? = if i ∈ vs then (if i < σ.length then some none else none) else σ[i]?
  | [] => by rw [if_neg List.not_mem_nil]; rfl
  | v :: vs => by
    show ((wipe σ vs).set v none)[i]? = _
    rw [List.getElem?_set, wipe_length, wipe_get]
    by_cases h : v = i
    · subst h
      rw [if_pos rfl, if_pos List.mem_cons_self]
    · rw [if_neg h]
      by_cases m : i ∈ vs
      · rw [if_pos m, if_pos (List.mem_cons_of_mem _ m)]
      · rw [if_neg m, if_neg fun z => (List.mem_cons.mp z).elim (fun e => h e.symm) m]
theorem wipe_in {σ : L2.St} {i : Nat} {v : Option V} {vs : List Nat} (h : i ∈ vs) : wipe (σ.set i v) vs = wipe σ vs := by
  refine List.ext_getElem? fun j => ?_
  rw [wipe_get, wipe_get, List.length_set]
  by_cases m : j ∈ vs
  · rw [if_pos m, if_pos m]
  · have : i ≠ j := fun e => m (e ▸ h)
    rw [if_neg m, if_neg m, List.getElem?_set_ne this]
theorem wipe_wipe {σ : L2.St} {vs : List Nat} : wipe (wipe σ vs) vs = wipe σ vs := by
  refine List.ext_getElem? fun j => ?_
  rw [wipe_get, wipe_get, wipe_length]
  by_cases m : j ∈ vs
  · rw [if_pos m, if_pos m]
  · rw [if_neg m, if_neg m]
theorem wipe_out3 {σ : L2.St} {i j k : Nat} {x y z : Option V} {vs : List Nat} (h : i ∈ vs) (h2 : j ∈ vs) (h3 : k ∈ vs) : wipe ((((wipe σ vs).set i x).set j y).set k z) vs = wipe σ vs := by
  rw [wipe_in h3, wipe_in h2, wipe_in h, wipe_wipe]
theorem wipe_out2 {σ : L2.St} {i j : Nat} {x y : Option V} {vs : List Nat} (h : i ∈ vs) (h2 : j ∈ vs) : wipe (((wipe σ vs).set i x).set j y) vs = wipe σ vs := by
  rw [wipe_in h2, wipe_in h, wipe_wipe]
theorem wipe_out1 {σ : L2.St} {i : Nat} {x : Option V} {vs : List Nat} (h : i ∈ vs) : wipe ((wipe σ vs).set i x) vs = wipe σ vs := by
  rw [wipe_in h, wipe_wipe]
theorem g_tup3 {K : PySem.W.Frag} {i j k : Nat} {a : Addr} {x y z : V} {σ : L2.St} {H : Hp} {Q : L2.St → Hp → Prop} (h : SqT K H a [x, y, z]) (q : Q (((σ.set i (some x)).set j (some y)).set k (some z)) H) :
    gTup K 3 (gCons (gName i) (gCons (gName j) (gCons (gName k) gNil))) (.ref a) σ H Q := ⟨a, _, rfl, h, rfl, x, _, rfl, y, _, rfl, z, _, rfl, rfl, q⟩
theorem g_tup2 {K : PySem.W.Frag} {i j : Nat} {a : Addr} {x y : V} {σ : L2.St} {H : Hp} {Q : L2.St → Hp → Prop} (h : SqT K H a [x, y]) (q : Q ((σ.set i (some x)).set j (some y)) H) :
    gTup K 2 (gCons (gName i) (gCons (gName j) gNil)) (.ref a) σ H Q := ⟨a, _, rfl, h, rfl, x, _, rfl, y, _, rfl, rfl, q⟩
theorem st_eq {Q : L2.St → Hp → Prop} {σ σ' : L2.St} {H : Hp} (e : σ = σ') (h : Q σ' H) : Q σ H := e ▸ h
theorem gName_eq {i : Nat} {v : V} {σ σ' : L2.St} {H : Hp} {Q : L2.St → Hp → Prop} (e : σ.set i (some v) = σ') (h : Q σ' H) : gName i v σ H Q := by
  show Q (σ.set i (some v)) H
  rw [e]
  exact h
theorem gName_w {i : Nat} {v : V} {σ σ' : L2.St} {vs : List Nat} {H : Hp} {Q : L2.St → Hp → Prop} (hi : i ∈ vs) (e : (wipe σ vs).set i (some v) = σ') (h : Q σ' H) : gName i v (wipe σ vs) H (fun σ2 H2 => wipe σ2 vs = wipe σ vs ∧ Q σ2 H2) := by
  refine ⟨wipe_out1 hi, ?_⟩
  rw [e]
  exact h
theorem g_tup2w {K : PySem.W.Frag} {i j : Nat} {a : Addr} {x y : V} {σ σ' : L2.St} {vs : List Nat} {H : Hp} {Q : L2.St → Hp → Prop} (h : SqT K H a [x, y]) (hi : i ∈ vs) (hj : j ∈ vs) (e : ((wipe σ vs).set i (some x)).set j (some y) = σ') (q : Q σ' H) :
    gTup K 2 (gCons (gName i) (gCons (gName j) gNil)) (.ref a) (wipe σ vs) H (fun σ2 H2 => wipe σ2 vs = wipe σ vs ∧ Q σ2 H2) := g_tup2 h ⟨wipe_out2 hi hj, e.symm ▸ q⟩
theorem g_tup3w {K : PySem.W.Frag} {i j k : Nat} {a : Addr} {x y z : V} {σ σ' : L2.St} {vs : List Nat} {H : Hp} {Q : L2.St → Hp → Prop} (h : SqT K H a [x, y, z]) (hi : i ∈ vs) (hj : j ∈ vs) (hk : k ∈ vs) (e : (((wipe σ vs).set i (some x)).set j (some y)).set k (some z) = σ') (q : Q σ' H) :
    gTup K 3 (gCons (gName i) (gCons (gName j) (gCons (gName k) gNil))) (.ref a) (wipe σ vs) H (fun σ2 H2 => wipe σ2 vs = wipe σ vs ∧ Q σ2 H2) := g_tup3 h ⟨wipe_out3 hi hj hk, e.symm ▸ q⟩
abbrev stO (f t ap du av as : Addr) (v2 v3 : V) (c8 c9 c10 c11 c12 c13 c14 c15 c16 c17 c18 c19 : Option V) : L2.St := [some (.ref f), some (.ref t), some (.ref ap), some (.ref du), some (.ref av), some (.ref as), some v2, some v3, c8, c9, c10, c11, c12, c13, c14, c15, c16, c17, c18, c19]
theorem dp_rev {K : PySem.W.Frag} {H : Hp} : ∀ {vs : List V} {ds : List PyData}, DpAll K H vs ds → DpAll K H vs.reverse ds.reverse
  | _, _, .nil => .nil
  | _, _, .cons a b => by
    rw [List.reverse_cons, List.reverse_cons]
    exact dp_append (dp_rev b) (.cons a .nil)
theorem ne_same {K : PySem.W.Frag} {H : Hp} {x y : V} {d : PyData} {n m : Nat} {Q : VK} (hx : Dp K H x d) (hy : Dp K H y d) (nd : Nice n m d) (hn : n ≤ 64) (q : Q (.bl false) H) : rNeD K x y H Q := ⟨d, d, hx, hy, nd.shaped hn, nd.shaped hn, by rw [SeqAt.eqv_refl d nd.can]; exact q⟩
theorem eq_same {K : PySem.W.Frag} {H : Hp} {x y : V} {d : PyData} {n m : Nat} {Q : VK} (hx : Dp K H x d) (hy : Dp K H y d) (nd : Nice n m d) (hn : n ≤ 64) (q : Q (.bl true) H) : rEqD K x y H Q := ⟨d, d, hx, hy, nd.shaped hn, nd.shaped hn, by rw [SeqAt.eqv_refl d nd.can]; exact q⟩
theorem nice_mem {P : List Int} {rs : List Rc} (h : rs.length ≤ 8) : Nice 1 8 (.list ((memL P 0 rs).map .int)) := nice_ints (fun n hn => by
  obtain ⟨h1, h2⟩ := memL_bd hn
  have e : (10 : Nat) ^ 12 = 1000000000000 := by decide
  rw [e]
  omega) (Nat.le_trans (memL_len P 0 rs) h)
theorem nice_pick {P : List Int} {n : Nat} {rs : List Rc} (h : RsOk n rs) (hn : n ≤ 100) : Nice 3 1232 (.list ((memL P 0 rs).map (pick rs))) := by
  have hl : ((memL P 0 rs).map (pick rs)).length ≤ 8 := by
    rw [List.length_map]
    exact Nat.le_trans (memL_len P 0 rs) h.1
  refine (Nice.list (n := 2) (m := 153) (L := 8) (fun d hd => ?_) hl : Nice 3 (8 * 154) (.list ((memL P 0 rs).map (pick rs))))
  rw [memL_pick0] at hd
  obtain ⟨r, hr, rfl⟩ := List.mem_map.mp hd
  exact nice_rec (h.2.2 r (List.mem_filter.mp hr).1) hn
def spOthers (K : PySem.W.Frag) : Sp := fun vs H Q _ => ∃ (f t ap du : Addr) (n : Int) (y : Ly) (a b : Int), vs = [.ref f, .ref t, .ref ap, .ref du] ∧ FAt H f n ∧ n + 5000 ≤ FAt.lim ∧ LyAt K (hid [f] H) t y ∧ y.ok ∧ SqT K (hid [f] H) ap [.int a, .int b] ∧ hid [f] H du = some (.lst ((theMem y a b).map V.int)) ∧
  ∀ (H' : Hp), Keep [f] H H' → FAt H' f (n + 200) → Q (.bl true) H'
section
variable {P : Program} {w : World} {K : PySem.W.Frag} {mg : Str → Option Value} {base : Heap}
abbrev nOthers : List Str := ["_law_fount_here", "_law_layout_here", "_law_place", "_law_due", "_law_views", "_law_some", "_law_waits", "_law_beside", "_law_changed", "_law_turned", "_law_x", "_law_y", "_law_aside", "_law_above", "_law_mine", "_law_name", "_law_view", "_law_kind_here", "_law_at", "_law_one"]
theorem sc_others : FnScope nOthers ["_law_fount_here", "_law_layout_here", "_law_place", "_law_due"] (defScope s_law_others_right) := ⟨rfl, rfl, rfl, by decide +kernel, rfl, by decide +kernel, by decide +kernel⟩
theorem ok_others (T : Txt w K mg) : Prom P w K mg base 7 "_law_others_right" ["_law_fount_here", "_law_layout_here", "_law_place", "_law_due"] (spOthers K) := by
  have pK := ok_kindL (P := P) (base := base) T
  have pP := ok_pairs (P := P) (base := base) T
  have pM := ok_members (P := P) (base := base) T
  refine T.d_law_others_right.prom sc_others (fun vs H Q E h => ?_) (fun f0 cdv A outer s H vs Q E hr h => ?_)
  · obtain ⟨f, t, ap, du, n, y, a, b, rfl, _⟩ := h
    rfl
  · obtain ⟨f, t, ap, du, n, y, a, b, rfl, hF, hn, ⟨av, as, xv, xs, v2, v3, gt, gav, gas, ev, es, e2, e3⟩, ok, ht, hdu, q⟩ := h
    have hlim : FAt.lim = 1000000000000 := rfl
    have hr2 : Room 2 _ := hr.mono (by decide)
    refine ⟨_, pss_cons (ps_asg (pv 1) (pg_tup rfl (pgs_cons (pg_name (i := 4) sc_others.nd rfl (Or.inl rfl)) (pgs_cons (pg_name (i := 5) sc_others.nd rfl (Or.inr rfl)) (pgs_cons (pg_name (i := 6) sc_others.nd rfl (Or.inl rfl)) (pgs_cons (pg_name (i := 7) sc_others.nd rfl (Or.inl rfl)) pgs_nil))))))
      (pss_cons (ps_setLc (i := 8) (own := [("_law_name", 15), ("_law_view", 16), ("_law_kind_here", 17)]) (g := gTup K 3 (gCons (gName 15) (gCons (gName 16) (gCons (gName 17) gNil))))
          (tt := tYes) (te := tTup (tCons (tVar 15) (tCons (tVar 16) (tCons (tCall (spKindL K) [] E0 (tCons (tVar 0) (tCons (tC (.int 9)) tNil))) tNil)))) rfl sc_others.nd rfl rfl (sw_true rfl rfl rfl (by decide +kernel)) (pi_list (pv 5))
          (blkOk_by (N := nOthers) (sc := defScope s_law_others_right) (by decide +kernel))
          (fun _ _ _ _ _ => pg_tup rfl (pgs_cons (pg_name (i := 15) sc_others.nd rfl (Or.inl rfl)) (pgs_cons (pg_name (i := 16) sc_others.nd rfl (Or.inl rfl)) (pgs_cons (pg_name (i := 17) sc_others.nd rfl (Or.inl rfl)) pgs_nil))))
          (fun _ _ _ _ _ => pts_nil)
          (fun _ _ _ _ _ => pe_tup (pa_cons (pv 15) (pa_cons (pv 16) (pa_cons (pe_p pK hr2 (by rfl) (pa_cons (pv 0) (pa_cons pe_int pa_nil))) pa_nil)))))
      (pss_cons (ps_if (pt_cmpR (op_neD hr.units) (pe_p pM hr (by rfl) (pa_cons (pe_tup (pa_cons (pv 4) (pa_cons (pv 8) (pa_cons (pe_lst pa_nil) (pa_cons (pe_p pP hr2 (by rfl) (pa_cons (pv 0) (pa_cons (pe_callB call_len_seq (by rfl) T.b_len PySem.boot_len (pa_cons (pv 5) pa_nil)) (pa_cons pe_bl (pa_cons pe_int pa_nil))))) pa_nil))))) (pa_cons (pv 2) pa_nil))) (pv 3) (nomark _))
        (pss_one (ps_ret pe_bl)) pss_nil)
      (pss_cons (ps_set (i := 9) sc_others.nd rfl (Or.inl rfl) (pe_p pM hr (by rfl) (pa_cons (pe_tup (pa_cons (pv 4) (pa_cons (pe_revL (pv 5)) (pa_cons (pe_lst pa_nil) (pa_cons (pe_lst pa_nil) pa_nil))))) (pa_cons (pv 2) pa_nil))))
      (pss_cons (ps_if (pt_cmpR (op_neD hr.units)
          (pe_revL (pe_lc (own := [("_law_at", 18)]) (g := gName 18) (tt := tYes) (te := tOp (rIxL K) (tVar 5) (tOp (rI0 fun i j => .int (i - j)) (tOp (rI0 fun i j => .int (i - j)) (tCB (fun xs H Q => ∃ p ys, xs = [.ref p] ∧ (SqL K H p ys ∨ SqT K H p ys) ∧ Q (.int ys.length) H) (tCons (tVar 5) tNil)) (tC (.int 1))) (tVar 18))) rfl sc_others.nd (pi_list (pv 9))
            (blkOk_by (N := nOthers) (sc := defScope s_law_others_right) (by decide +kernel)) (fun _ _ _ _ _ => pg_name (i := 18) sc_others.nd rfl (Or.inl rfl)) (fun _ _ _ _ _ => pts_nil)
            (fun _ _ _ _ _ => pe_ix ix_list (pv 5) (pe_op op_sub (pe_op op_sub (pe_callB call_len_seq (by rfl) T.b_len PySem.boot_len (pa_cons (pv 5) pa_nil)) pe_int) (pv 18)) (fun _ _ => rfl))))
          (pe_lc (own := [("_law_at", 18)]) (g := gName 18) (tt := tYes) (te := tOp (rIxL K) (tVar 5) (tVar 18)) rfl sc_others.nd (pi_list (pv 3))
            (blkOk_by (N := nOthers) (sc := defScope s_law_others_right) (by decide +kernel)) (fun _ _ _ _ _ => pg_name (i := 18) sc_others.nd rfl (Or.inl rfl)) (fun _ _ _ _ _ => pts_nil)
            (fun _ _ _ _ _ => pe_ix ix_list (pv 5) (pv 18) (fun _ _ => rfl))) (nomark _))
        (pss_one (ps_ret pe_bl)) pss_nil)
      (pss_cons (ps_if (pt_cmp (pc_lt (pe_callB call_len_seq (by rfl) T.b_len PySem.boot_len (pa_cons (pv 4) pa_nil)) pe_int))
        (pss_cons (ps_asg (pv 2) (pg_tup rfl (pgs_cons (pg_name (i := 10) sc_others.nd rfl (Or.inl rfl)) (pgs_cons (pg_name (i := 11) sc_others.nd rfl (Or.inl rfl)) pgs_nil))))
        (pss_cons (ps_set (i := 12) sc_others.nd rfl (Or.inl rfl) (pe_op op_cat (pv 4) (pe_lst (pa_cons (pe_tup (pa_cons pe_int (pa_cons (pe_op op_add (pv 10) pe_int) (pa_cons (pv 11) (pa_cons (pe_op op_add (pv 10) pe_int) (pa_cons (pe_op op_add (pv 11) pe_int) pa_nil)))))) pa_nil))))
        (pss_cons (ps_set (i := 13) sc_others.nd rfl (Or.inl rfl) (pe_op op_cat (pv 4) (pe_lst (pa_cons (pe_tup (pa_cons pe_int (pa_cons (pv 10) (pa_cons (pv 11) (pa_cons (pe_op op_add (pv 10) pe_int) (pa_cons (pe_op op_add (pv 11) pe_int) pa_nil)))))) pa_nil))))
        (pss_cons (ps_if (pt_cmpR (op_neD hr.units) (pe_p pM hr (by rfl) (pa_cons (pe_tup (pa_cons (pv 12) (pa_cons (pv 5) (pa_cons (pv 6) (pa_cons (pv 7) pa_nil))))) (pa_cons (pv 2) pa_nil))) (pv 3) (nomark _)) (pss_one (ps_ret pe_bl)) pss_nil)
        (pss_cons (ps_setLc (i := 14) (own := [("_law_at", 18), ("_law_one", 19)]) (g := gTup K 2 (gCons (gName 18) (gCons (gName 19) gNil)))
          (tt := tB (tEqI (tOp (rIxT K) (tVar 19) (tC (.int 1))) (tC (.int 0)))) (te := tVar 18) rfl sc_others.nd rfl rfl (sw_true rfl rfl rfl (by decide +kernel)) (pi_enum (by rfl) T.b_enumerate (pa_cons (pv 5) pa_nil))
          (blkOk_by (N := nOthers) (sc := defScope s_law_others_right) (by decide +kernel))
          (fun _ _ _ _ _ => pg_tup rfl (pgs_cons (pg_name (i := 18) sc_others.nd rfl (Or.inl rfl)) (pgs_cons (pg_name (i := 19) sc_others.nd rfl (Or.inl rfl)) pgs_nil)))
          (fun _ _ _ _ _ => pts_one (pt_cmp (pc_eqI (pe_ix ix_tup (pv 19) pe_int (fun _ _ => rfl)) pe_int)))
          (fun _ _ _ _ _ => pv 18))
        (pss_one (ps_ret (pe_cmpR (op_eqD hr.units) (pe_p pM hr (by rfl) (pa_cons (pe_tup (pa_cons (pv 13) (pa_cons (pv 5) (pa_cons (pv 6) (pa_cons (pv 7) pa_nil))))) (pa_cons (pv 2) pa_nil))) (pv 14) (nomark _)))))))))
        pss_nil)
      (pss_one (ps_ret pe_bl))))))), ?_⟩
    have nt' := out_of gt
    have nas := out_of gas
    have nav := out_of gav
    have ndu := out_of hdu
    have hrl := ok.2.1.1
    have xsl : xs.length = y.rs.length := by rw [dp_len es, List.length_map]
    have xvl : xv.length = y.vs.length := by rw [dp_len ev, List.length_map]
    have nm := nice_mem (P := thePath y.vs a b) hrl
    -- views, some, waits, beside
    refine ⟨_, rfl, t, _, rfl, .of (hid_same _ _ gt), rfl, _, _, rfl, _, _, rfl, _, _, rfl, _, _, rfl, rfl, ?_⟩
    refine st_eq (σ' := stO f t ap du av as v2 v3 none none none none none none none none none none none none) rfl ?_
    -- changed
    refine ⟨_, rfl, as, rfl, ⟨_, .of (hid_same _ _ gas)⟩, fun D hD => lc_it (walk_list (K := K) (a := as) (xs := xs)) (fun i H' => ∃ (cs : List Rc) (ys : List V), Keep [f] H H' ∧ H' D = some (.lst ys) ∧ DpAll K (hid [f, D] H') ys (cs.map Rc.data) ∧
      cs.map (·.name) = (y.rs.take i).map (·.name) ∧ cs.map (·.view) = (y.rs.take i).map (·.view) ∧ (∀ r ∈ cs, r.kind.ok) ∧ FAt H' f (n + 6 * i)) ?_ (fun _ _ _ p => ?_) ?_ ?_⟩
    · exact ⟨[], [], Keep.new hD, upd_same, .nil, rfl, rfl, fun r hr => absurd hr List.not_mem_nil, (hF.same (Same.new hD)).mono (by omega)⟩
    · obtain ⟨_, _, k, _⟩ := p
      exact .of (k _ _ nas (hid_same _ _ gas))
    · rintro i v H1 H2 hi ⟨cs, ys, k1, hD1, hd1, hnm, hvw, hk, F1⟩ ⟨rfl, ev'⟩
      obtain ⟨d, ed, hu⟩ := dp_get es ev'
      rw [List.getElem?_map] at ed
      cases er : y.rs[i]? with
      | none =>
        rw [er] at ed
        cases ed
      | some r =>
      rw [er] at ed
      cases ed
      obtain ⟨au, zs, rfl, tu, hys⟩ := dp_tup (hu.same k1.same)
      cases hys with
      | @cons w0 _ _ _ k0 hys =>
      cases hys with
      | @cons w1 _ _ _ kk1 hys =>
      cases hys with
      | @cons w2 _ _ _ kk2 hys =>
      cases hys
      cases k0
      cases kk1
      have fD : D ≠ f := hF.ne hD
      have hclen : cs.length = i := by
        have := congrArg List.length hnm
        rw [List.length_map, List.length_map, List.length_take] at this
        omega
      refine g_tup3w (σ' := stO f t ap du av as v2 v3 none none none none none none none (some (.str r.name)) (some (.int r.view)) (some w2) none none) (hid_same.seqT tu) (by decide) (by decide) (by decide) rfl ?_
      refine ⟨_, rfl, _, rfl, _, rfl, f, _, _, rfl, F1, by omega, by decide, by decide, fun kv kd H3 kok k3 hkd F3 => ⟨(show 3 ≤ sizeLine by decide), fun p np => ?_⟩⟩
      have hD3 := k3 _ _ (fun z => fD (List.mem_singleton.mp z)) hD1
      have Dp' : D ≠ p := ne_of_none hD3 np
      have fp := F3.ne np
      have e3 := dp_len hd1
      rw [List.length_map] at e3
      refine ⟨ys, Same.new np _ _ hD3, small1000 (by omega), cs ++ [⟨r.name, r.view, kd⟩], ys ++ [.ref p], ?_, upd_same, ?_, ?_, ?_, ?_, ?_⟩
      · exact keep_set ((k1.trans k3).trans (Keep.of (Same.new np))) hD
      · rw [List.map_append]
        have kk : Keep [f, D] H2 (upd (upd H3 p (.tup [.str r.name, .int r.view, kv])) D (.lst (ys ++ [.ref p]))) := ((keepL k3).trans (Keep.of (Same.new np))).trans (Keep.set (by simp))
        have mv : ∀ b us, Rd (hid [f] H3) b (.tup us) → Rd (hid [f, D] (upd (upd H3 p (.tup [.str r.name, .int r.view, kv])) D (.lst (ys ++ [.ref p])))) b (.tup us) := by
          have one : ∀ b u, (∀ w, u ≠ .lst w) → hid [f] H3 b = some u → hid [f, D] (upd (upd H3 p (.tup [.str r.name, .int r.view, kv])) D (.lst (ys ++ [.ref p]))) b = some u := by
            intro b u hu e
            have e5 := hid_same _ _ e
            have bf : b ≠ f := by
              rintro rfl
              rw [hid_in List.mem_cons_self] at e
              cases e
            have bs : b ≠ D := by
              rintro rfl
              rw [hD3] at e5
              exact hu _ (Option.some.inj e5).symm
            rw [hid_out (in2 bf bs), upd_ne bs, upd_ne (ne_of_none e5 np)]
            exact e5
          rintro b us (e | ⟨o, e⟩)
          · exact .inl (one b _ (fun w z => nomatch z) e)
          · exact .inr ⟨o, one b _ (fun w z => nomatch z) e⟩
        refine dp_append (DpAll.same kk.same hd1) (.cons (.tup (.of ?_) (.cons (.str _) (.cons (.int _) (.cons (kind_move hkd kok mv) .nil)))) .nil)
        rw [hid_out (in2 fp Dp'.symm), upd_ne Dp'.symm]
        exact upd_same
      · rw [List.map_append, hnm, take_snoc er, List.map_append]
        all_goals rfl
      · rw [List.map_append, hvw, take_snoc er, List.map_append]
        all_goals rfl
      · intro c hc
        rcases List.mem_append.mp hc with hc | hc
        · exact hk c hc
        · rw [List.mem_singleton.mp hc]
          exact kok
      · obtain ⟨b1, b2, b3, b4, b5⟩ := F3
        refine ⟨b1, b2, b3, by rw [upd_ne fD.symm, upd_ne fp.symm]; exact b4, b5.1, b5.2.1, b5.2.2.1, by omega⟩
    rintro H1 ⟨cs, ys, k1, hD1, hd1, hnm, hvw, hk, F1⟩
    rw [xsl, List.take_length] at hnm hvw
    -- other kinds, no waits, others beside
    refine gName_eq (σ' := stO f t ap du av as v2 v3 (some (.ref D)) none none none none none none none none none none none) rfl ?_
    refine ⟨_, rfl, _, rfl, Nat.zero_le _, fun p0 n0 => ⟨_, rfl, _, rfl, as, xs, rfl, .inl (.of (Same.new n0 _ _ (k1 _ _ nas (hid_same _ _ gas)))), f, _, _, _, _, rfl, F1.same (Same.new n0), by omega, by omega, by omega, by decide, by decide, fun ps1 l1 x1 H3 ok1 len1 k3 n1 hl1 hd3 F3 => ⟨(show 4 ≤ sizeLine by decide), fun t1 nt1 => ?_⟩⟩⟩
    have kA : Keep [f] H (upd H3 t1 (.tup [.ref av, .ref D, .ref p0, .ref l1])) := ((k1.trans (Keep.of (Same.new n0))).trans k3).trans (Keep.of (Same.new nt1))
    have k13 : Keep [f] H1 (upd H3 t1 (.tup [.ref av, .ref D, .ref p0, .ref l1])) := ((Keep.of (Same.new n0)).trans k3).trans (Keep.of (Same.new nt1))
    have nD : D ∉ [f] := fun z => hF.ne hD (List.mem_singleton.mp z)
    have np0 : p0 ∉ [f] := fun z => F1.ne n0 (List.mem_singleton.mp z)
    have gA : ∀ {b o}, hid [f] H b = some o → (upd H3 t1 (.tup [.ref av, .ref D, .ref p0, .ref l1])) b = some o := fun e => kA _ _ (out_of e) (hid_same _ _ e)
    have gt1 : (upd H3 t1 (.tup [.ref av, .ref D, .ref p0, .ref l1])) t1 = some (.tup [.ref av, .ref D, .ref p0, .ref l1]) := upd_same
    have gD : (upd H3 t1 (.tup [.ref av, .ref D, .ref p0, .ref l1])) D = some (.lst ys) := k13 _ _ nD hD1
    have gp0 : (upd H3 t1 (.tup [.ref av, .ref D, .ref p0, .ref l1])) p0 = some (.lst []) := Same.new nt1 _ _ (k3 _ _ np0 upd_same)
    have gl1 := (Same.new nt1 : Same H3 (upd H3 t1 (.tup [.ref av, .ref D, .ref p0, .ref l1]))) _ _ hl1
    have dA : DpAll K (upd H3 t1 (.tup [.ref av, .ref D, .ref p0, .ref l1])) ys (cs.map Rc.data) := DpAll.same ((hid_1.trans k13.same).trans hid_same) hd1
    have dB : DpAll K (upd H3 t1 (.tup [.ref av, .ref D, .ref p0, .ref l1])) x1 (ps1.map prData) := DpAll.same (hid_same.trans (Same.new nt1)) hd3
    have FA : FAt (upd H3 t1 (.tup [.ref av, .ref D, .ref p0, .ref l1])) f (n + 200) := (F3.same (Same.new nt1)).mono (by omega)
    generalize upd H3 t1 (.tup [.ref av, .ref D, .ref p0, .ref l1]) = HA at kA gA gt1 gD gp0 gl1 dA dB FA ⊢
    have sA : Same (hid [f] H) HA := fun b o e => gA e
    rw [xsl] at ok1
    refine ⟨_, rfl, .ref t1, ⟨y.vs, cs, [], ps1⟩, ap, a, b, rfl, .tup (.of gt1) (.cons (.lst (.of (gA gav)) (DpAll.same sA ev)) (.cons (.lst (.of gD) dA) (.cons (.lst (.of gp0) .nil) (.cons (.lst (.of gl1) dB) .nil)))), ok_changed ok hnm hvw hk (by omega) ok1, sA.seqT ht, fun H4 pr s4 npr hpr => ?_⟩
    rw [mem_changed hvw] at hpr
    have g4 : Same (hid [f] H) H4 := sA.trans s4
    have K4 : Keep [f] H H4 := kA.trans (Keep.of s4)
    have F4 := FA.same s4
    refine ⟨_, rfl, ne_same (.lst (.of hpr) ints_dp) (.lst (.of (g4 _ _ hdu)) ints_dp) nm (by decide) ⟨false, rfl, iteF ?_⟩⟩
    clear kA k13 gA gt1 gD gp0 gl1 dA dB FA sA s4 hpr npr k3 hl1 hd3 F3 n1 nt1
    -- turned
    refine ⟨_, rfl, _, rfl, as, xs, rfl, .of (g4 _ _ gas), fun p1 n1 => ⟨Nat.zero_le _, fun p2 n2 => ⟨Nat.zero_le _, fun p3 n3 => ⟨(show 4 ≤ sizeLine by decide), fun t4 n4 => ?_⟩⟩⟩⟩
    have s5 : Same H4 (upd (upd (upd (upd H4 p1 (.lst xs.reverse)) p2 (.lst [])) p3 (.lst [])) t4 (.tup [.ref av, .ref p1, .ref p2, .ref p3])) := (((Same.new n1).trans (Same.new n2)).trans (Same.new n3)).trans (Same.new n4)
    have g1 := (Same.new n4 : Same (upd (upd (upd H4 p1 (.lst xs.reverse)) p2 (.lst [])) p3 (.lst [])) (upd (upd (upd (upd H4 p1 (.lst xs.reverse)) p2 (.lst [])) p3 (.lst [])) t4 (.tup [.ref av, .ref p1, .ref p2, .ref p3]))) _ _ (Same.new n3 _ _ (Same.new n2 _ _ upd_same))
    have g2 := (Same.new n4 : Same (upd (upd (upd H4 p1 (.lst xs.reverse)) p2 (.lst [])) p3 (.lst [])) (upd (upd (upd (upd H4 p1 (.lst xs.reverse)) p2 (.lst [])) p3 (.lst [])) t4 (.tup [.ref av, .ref p1, .ref p2, .ref p3]))) _ _ (Same.new n3 _ _ upd_same)
    have g3 := (Same.new n4 : Same (upd (upd (upd H4 p1 (.lst xs.reverse)) p2 (.lst [])) p3 (.lst [])) (upd (upd (upd (upd H4 p1 (.lst xs.reverse)) p2 (.lst [])) p3 (.lst [])) t4 (.tup [.ref av, .ref p1, .ref p2, .ref p3]))) _ _ upd_same
    have g40 : (upd (upd (upd (upd H4 p1 (.lst xs.reverse)) p2 (.lst [])) p3 (.lst [])) t4 (.tup [.ref av, .ref p1, .ref p2, .ref p3])) t4 = some (.tup [.ref av, .ref p1, .ref p2, .ref p3]) := upd_same
    generalize upd (upd (upd (upd H4 p1 (.lst xs.reverse)) p2 (.lst [])) p3 (.lst [])) t4 (.tup [.ref av, .ref p1, .ref p2, .ref p3]) = H5 at s5 g1 g2 g3 g40 ⊢
    have g5 := g4.trans s5
    refine ⟨_, rfl, .ref t4, ⟨y.vs, y.rs.reverse, [], []⟩, ap, a, b, rfl, .tup (.of g40) (.cons (.lst (.of (g5 _ _ gav)) (DpAll.same g5 ev)) (.cons (.lst (.of g1) ?_) (.cons (.lst (.of g2) .nil) (.cons (.lst (.of g3) .nil) .nil)))), ok_turned ok, g5.seqT ht, fun H6 tu s6 ntu htu => ?_⟩
    · show DpAll K H5 xs.reverse (y.rs.reverse.map Rc.data)
      rw [List.map_reverse]
      exact dp_rev (DpAll.same g5 es)
    have g6 := g5.trans s6
    have K6 : Keep [f] H H6 := K4.trans (Keep.of (s5.trans s6))
    have F6 := F4.same (s5.trans s6)
    have es6 := DpAll.same g6 es
    replace htu : H6 tu = some (.lst ((memL (thePath y.vs a b) 0 y.rs.reverse).map V.int)) := htu
    generalize hP : thePath y.vs a b = P' at htu
    clear s5 g1 g2 g3 g40 g5 s6 ntu F4 g4 K4
    have at_xs : ∀ {k : Int}, 0 ≤ k → k < y.rs.length → ∃ (r : Rc) (u : V), y.rs[k.toNat]? = some r ∧ atI xs k = some u ∧ Dp K H6 u (pick y.rs k) := by
      intro k h0 h1
      have hk : k.toNat < y.rs.length := by omega
      obtain ⟨u, eu, hu⟩ := dp_at es6 (i := k.toNat) (d := (y.rs[k.toNat]).data) (by rw [List.getElem?_map, List.getElem?_eq_getElem hk]; rfl)
      refine ⟨_, u, List.getElem?_eq_getElem hk, at_of (j := k.toNat) (by omega) eu, ?_⟩
      rw [pick_of (List.getElem?_eq_getElem hk)]
      exact hu
    -- the same recognizers
    refine gName_eq (σ' := stO f t ap du av as v2 v3 (some (.ref D)) (some (.ref tu)) none none none none none none none none none none) rfl ?_
    refine ⟨_, rfl, tu, rfl, ⟨_, .of htu⟩, fun D1 hD1 => lc_it (walk_list (K := K) (a := tu) (xs := (memL P' 0 y.rs.reverse).map V.int)) (fun i H' => ∃ zs : List V, Same H6 H' ∧ H' D1 = some (.lst zs) ∧ zs.length = i ∧ DpAll K H6 zs (((memL P' 0 y.rs.reverse).take i).map fun j => pick y.rs ((y.rs.length : Int) - 1 - j)))
      ⟨[], Same.new hD1, upd_same, rfl, .nil⟩ (fun _ _ _ p => ?_) ?_ ?_⟩
    · obtain ⟨_, s, _⟩ := p
      exact .of (s _ _ htu)
    · rintro i v H7 H8 hi ⟨zs, s7, d7, l7, e7⟩ ⟨rfl, ev'⟩
      obtain ⟨j, hj, rfl⟩ : ∃ j, (memL P' 0 y.rs.reverse)[i]? = some j ∧ V.int j = v := by
        rw [List.getElem?_map] at ev'
        cases e : (memL P' 0 y.rs.reverse)[i]? with
        | none =>
          rw [e] at ev'
          cases ev'
        | some j =>
          rw [e] at ev'
          exact ⟨j, rfl, Option.some.inj ev'⟩
      obtain ⟨b1, b2⟩ := memL_bd (List.mem_of_getElem? hj)
      rw [List.length_reverse] at b2
      obtain ⟨r, u, er, eu, hu⟩ := at_xs (k := (y.rs.length : Int) - 1 - j) (by omega) (by omega)
      have gx := s7 _ _ (g6 _ _ gas)
      refine gName_w (σ' := stO f t ap du av as v2 v3 (some (.ref D)) (some (.ref tu)) none none none none none none none none (some (.int j)) none) (by decide) rfl ?_
      refine ⟨_, rfl, _, rfl, as, xs, rfl, .inl (.of gx), _, _, rfl, rfl, _, rfl, _, _, rfl, rfl, as, _, _, u, rfl, rfl, .of gx, by rw [xsl]; exact eu, zs, d7, small1000 (by have := memL_len P' 0 y.rs.reverse; rw [List.length_reverse] at this; rw [List.length_map] at hi; omega), zs ++ [u], fun b o e => ?_, upd_same, ?_, ?_⟩
      · rw [upd_ne (ne_of_none e hD1)]
        exact s7 _ _ e
      · rw [List.length_append, l7]
        all_goals rfl
      · rw [take_snoc hj, List.map_append]
        exact dp_append e7 (.cons hu .nil)
    rintro H7 ⟨zs, s7, d7, l7, e7⟩
    rw [List.length_map, List.take_length] at e7
    refine ⟨D1, zs, rfl, .of d7, fun q1 nq1 => ?_⟩
    have s8 : Same H6 (upd H7 q1 (.lst zs.reverse)) := s7.trans (Same.new nq1)
    have gq1 : (upd H7 q1 (.lst zs.reverse)) q1 = some (.lst zs.reverse) := upd_same
    generalize upd H7 q1 (.lst zs.reverse) = H8 at s8 gq1 ⊢
    have g8 := g6.trans s8
    have hdu8 : H8 du = some (.lst ((memL P' 0 y.rs).map V.int)) := by
      have := g8 _ _ hdu
      rw [← hP]
      exact this
    refine ⟨_, rfl, du, rfl, ⟨_, .of hdu8⟩, fun D2 hD2 => lc_it (walk_list (K := K) (a := du) (xs := (memL P' 0 y.rs).map V.int)) (fun i H' => ∃ zs : List V, Same H8 H' ∧ H' D2 = some (.lst zs) ∧ zs.length = i ∧ DpAll K H6 zs (((memL P' 0 y.rs).take i).map (pick y.rs)))
      ⟨[], Same.new hD2, upd_same, rfl, .nil⟩ (fun _ _ _ p => ?_) ?_ ?_⟩
    · obtain ⟨_, s, _⟩ := p
      exact .of (s _ _ hdu8)
    · rintro i v H9 H10 hi ⟨us, s9, d9, l9, e9⟩ ⟨rfl, ev'⟩
      obtain ⟨j, hj, rfl⟩ : ∃ j, (memL P' 0 y.rs)[i]? = some j ∧ V.int j = v := by
        rw [List.getElem?_map] at ev'
        cases e : (memL P' 0 y.rs)[i]? with
        | none =>
          rw [e] at ev'
          cases ev'
        | some j =>
          rw [e] at ev'
          exact ⟨j, rfl, Option.some.inj ev'⟩
      obtain ⟨b1, b2⟩ := memL_bd (List.mem_of_getElem? hj)
      obtain ⟨r, u, er, eu, hu⟩ := at_xs (k := j) (by omega) (by omega)
      have gx := s9 _ _ (g8 _ _ gas)
      refine gName_w (σ' := stO f t ap du av as v2 v3 (some (.ref D)) (some (.ref tu)) none none none none none none none none (some (.int j)) none) (by decide) rfl ?_
      refine ⟨_, rfl, _, rfl, as, _, _, u, rfl, rfl, .of gx, eu, us, d9, small1000 (by have := memL_len P' 0 y.rs; rw [List.length_map] at hi; omega), us ++ [u], fun b o e => ?_, upd_same, ?_, ?_⟩
      · rw [upd_ne (ne_of_none e hD2)]
        exact s9 _ _ e
      · rw [List.length_append, l9]
        all_goals rfl
      · rw [take_snoc hj, List.map_append]
        exact dp_append e9 (.cons hu .nil)
    rintro H9 ⟨us, s9, d9, l9, e9⟩
    rw [List.length_map, List.take_length] at e9
    have s69 := s8.trans s9
    have er := dp_rev e7
    rw [turned_pick] at er
    refine ne_same (.lst (.of (s9 _ _ gq1)) (DpAll.same s69 er)) (.lst (.of d9) (DpAll.same s69 e9)) (nice_pick ok.2.1 (by have := ok.1.1; omega)) (by decide) ⟨false, rfl, iteF ?_⟩
    have g9 := g6.trans s69
    have K9 : Keep [f] H H9 := K6.trans (Keep.of s69)
    have F9 := F6.same s69
    clear s69 er e9 e7 d9 s9 l9 l7 g8 hdu8 gq1 s8 d7 s7 at_xs htu es6 F6 K6 g6
    refine ⟨_, rfl, av, xv, rfl, .inl (.of (g9 _ _ gav)), _, _, rfl, rfl, ?_⟩
    have fin : ∀ {Hz : Hp}, Same H9 Hz → Q (.bl true) Hz := fun sz => q _ (K9.trans (Keep.of sz)) (F9.same sz)
    have evl : (xv.length : Int) = y.vs.length := by rw [xvl]
    by_cases c12 : y.vs.length < 12
    rotate_left
    · exact ⟨false, eF (by omega), iteF (fin (Same.refl _))⟩
    refine ⟨true, eT (by omega), iteT ?_⟩
    have ht9 := g9.seqT ht
    refine ⟨_, rfl, ap, _, rfl, ht9, rfl, _, _, rfl, _, _, rfl, rfl, ?_⟩
    refine st_eq (σ' := stO f t ap du av as v2 v3 (some (.ref D)) (some (.ref tu)) (some (.int a)) (some (.int b)) none none none none none none none none) rfl ?_
    have gav9 := g9 _ _ gav
    have ev9 := DpAll.same g9 ev
    -- aside
    refine ⟨_, rfl, _, rfl, _, _, rfl, rfl, _, rfl, _, rfl, _, _, rfl, rfl, _, rfl, _, _, rfl, rfl, (show 5 ≤ sizeLine by decide), fun t1 n1 => ⟨(show 1 ≤ sizeLine by decide), fun l1 n2 => ⟨av, l1, _, _, rfl, rfl, Same.new n2 _ _ (Same.new n1 _ _ gav9), upd_same, (show xv.length + 1 ≤ sizeLine from Nat.le_of_lt (small1000 (by omega))), fun a1 n3 => ?_⟩⟩⟩
    have s1 : Same H9 (upd (upd (upd H9 t1 (.tup [.int 0, .int (a + 1), .int b, .int (a + 9), .int (b + 9)])) l1 (.lst [.ref t1])) a1 (.lst (xv ++ [.ref t1]))) := ((Same.new n1).trans (Same.new n2)).trans (Same.new n3)
    have g1 : (upd (upd (upd H9 t1 (.tup [.int 0, .int (a + 1), .int b, .int (a + 9), .int (b + 9)])) l1 (.lst [.ref t1])) a1 (.lst (xv ++ [.ref t1]))) t1 = some (.tup [.int 0, .int (a + 1), .int b, .int (a + 9), .int (b + 9)]) := Same.new n3 _ _ (Same.new n2 _ _ upd_same)
    have g2 : (upd (upd (upd H9 t1 (.tup [.int 0, .int (a + 1), .int b, .int (a + 9), .int (b + 9)])) l1 (.lst [.ref t1])) a1 (.lst (xv ++ [.ref t1]))) a1 = some (.lst (xv ++ [.ref t1])) := upd_same
    refine gName_eq (σ' := stO f t ap du av as v2 v3 (some (.ref D)) (some (.ref tu)) (some (.int a)) (some (.int b)) (some (.ref a1)) none none none none none none none) rfl ?_
    dsimp only
    generalize upd (upd (upd H9 t1 (.tup [.int 0, .int (a + 1), .int b, .int (a + 9), .int (b + 9)])) l1 (.lst [.ref t1])) a1 (.lst (xv ++ [.ref t1])) = Ha at s1 g1 g2 ⊢
    have da : DpAll K Ha (xv ++ [.ref t1]) ((y.vs ++ [vAside a b]).map Vw.data) := by
      rw [List.map_append]
      exact dp_append (DpAll.same s1 ev9) (.cons (.tup (.of g1) (ints_dp (ns := [0, a + 1, b, a + 9, b + 9]))) .nil)
    -- above
    refine ⟨_, rfl, _, rfl, _, rfl, _, rfl, _, _, rfl, rfl, _, rfl, _, _, rfl, rfl, (show 5 ≤ sizeLine by decide), fun t2 n4 => ⟨(show 1 ≤ sizeLine by decide), fun l2 n5 => ⟨av, l2, _, _, rfl, rfl, Same.new n5 _ _ (Same.new n4 _ _ (s1 _ _ gav9)), upd_same, (show xv.length + 1 ≤ sizeLine from Nat.le_of_lt (small1000 (by omega))), fun a2 n6 => ?_⟩⟩⟩
    have s2 : Same Ha (upd (upd (upd Ha t2 (.tup [.int 0, .int a, .int b, .int (a + 1), .int (b + 1)])) l2 (.lst [.ref t2])) a2 (.lst (xv ++ [.ref t2]))) := ((Same.new n4).trans (Same.new n5)).trans (Same.new n6)
    have g3 : (upd (upd (upd Ha t2 (.tup [.int 0, .int a, .int b, .int (a + 1), .int (b + 1)])) l2 (.lst [.ref t2])) a2 (.lst (xv ++ [.ref t2]))) t2 = some (.tup [.int 0, .int a, .int b, .int (a + 1), .int (b + 1)]) := Same.new n6 _ _ (Same.new n5 _ _ upd_same)
    have g4 : (upd (upd (upd Ha t2 (.tup [.int 0, .int a, .int b, .int (a + 1), .int (b + 1)])) l2 (.lst [.ref t2])) a2 (.lst (xv ++ [.ref t2]))) a2 = some (.lst (xv ++ [.ref t2])) := upd_same
    refine gName_eq (σ' := stO f t ap du av as v2 v3 (some (.ref D)) (some (.ref tu)) (some (.int a)) (some (.int b)) (some (.ref a1)) (some (.ref a2)) none none none none none none) rfl ?_
    dsimp only
    generalize upd (upd (upd Ha t2 (.tup [.int 0, .int a, .int b, .int (a + 1), .int (b + 1)])) l2 (.lst [.ref t2])) a2 (.lst (xv ++ [.ref t2])) = Hb at s2 g3 g4 ⊢
    have sb := s1.trans s2
    have gb := g9.trans sb
    have db : DpAll K Hb (xv ++ [.ref t2]) ((y.vs ++ [vAbove a b]).map Vw.data) := by
      rw [List.map_append]
      exact dp_append (DpAll.same sb ev9) (.cons (.tup (.of g3) (ints_dp (ns := [0, a, b, a + 1, b + 1]))) .nil)
    have da1 : DpAll K Hb (xv ++ [.ref t1]) ((y.vs ++ [vAside a b]).map Vw.data) := DpAll.same s2 da
    have ga1 := s2 _ _ g2
    -- a layout over Hb's views
    have dLy : ∀ {H' : Hp} {t' a' : Addr} {us : List V} {ws : List Vw}, Same Hb H' → H' t' = some (.tup [.ref a', .ref as, v2, v3]) → Hb a' = some (.lst us) → DpAll K Hb us (ws.map Vw.data) → Dp K H' (.ref t') (Ly.data ⟨ws, y.rs, y.ws, y.bs⟩) := fun sx ex ea eu =>
      .tup (.of ex) (.cons (.lst (.of (sx _ _ ea)) (DpAll.same sx eu)) (.cons (.lst (.of (sx _ _ (gb _ _ gas))) (DpAll.same (gb.trans sx) es)) (.cons (e2.same (gb.trans sx)) (.cons (e3.same (gb.trans sx)) .nil))))
    refine ⟨_, rfl, _, rfl, _, rfl, _, rfl, (show 4 ≤ sizeLine by decide), fun t3 n7 => ⟨_, rfl, .ref t3, ⟨y.vs ++ [vAside a b], y.rs, y.ws, y.bs⟩, ap, a, b, rfl, dLy (Same.new n7) upd_same ga1 da1, ok_aside ok c12 a b, (gb.trans (Same.new n7)).seqT ht, fun Hc pr s3 npr hpr => ?_⟩⟩
    have sc := (Same.new n7).trans s3
    have gc := gb.trans sc
    rw [mem_aside] at hpr
    refine ⟨_, rfl, ne_same (.lst (.of hpr) ints_dp) (.lst (.of (gc _ _ hdu)) ints_dp) nm (by decide) ⟨false, rfl, iteF ?_⟩⟩
    -- mine
    refine ⟨_, rfl, as, xs, rfl, .of (gc _ _ gas), fun D3 hD3 => lc_it walk_enum (fun i H' => Same Hc H' ∧ H' D3 = some (.lst ((memL [0] 0 (y.rs.take i)).map V.int))) ⟨Same.new hD3, upd_same⟩ (fun _ _ _ p => .of (p.1 _ _ (gc _ _ gas))) ?_ ?_⟩
    · rintro i v Hd He hi ⟨sd, dd⟩ ⟨tt, x0, u, rfl, ntt, rfl, e0, eu⟩
      cases e0
      have s4 : Same Hc (upd Hd tt (.tup [.int (i : Nat), u])) := sd.trans (Same.new ntt)
      have d4 := (Same.new ntt : Same Hd (upd Hd tt (.tup [.int (i : Nat), u]))) _ _ dd
      have g5 : (upd Hd tt (.tup [.int (i : Nat), u])) tt = some (.tup [.int (i : Nat), u]) := upd_same
      generalize upd Hd tt (.tup [.int (i : Nat), u]) = He at s4 d4 g5
      obtain ⟨d, ed, hu⟩ := dp_get es eu
      rw [List.getElem?_map] at ed
      cases er : y.rs[i]? with
      | none =>
        rw [er] at ed
        cases ed
      | some r =>
      rw [er] at ed
      cases ed
      obtain ⟨au, zs, rfl, tu', hys⟩ := dp_tup (hu.same (gc.trans s4))
      cases hys with
      | @cons w0 _ _ _ k0 hys =>
      cases hys with
      | @cons w1 _ _ _ k1 hys =>
      cases hys with
      | @cons w2 _ _ _ k2 hys =>
      cases hys
      cases k0
      cases k1
      have ilt := (List.getElem?_eq_some_iff.mp er).1
      have len : (memL [0] 0 (y.rs.take i)).length ≤ 8 := by
        have h1 := memL_len [0] 0 (y.rs.take i)
        rw [List.length_take] at h1
        omega
      have ek : ((0 : Int) + (i : Nat)) = (i : Nat) := by omega
      rw [memL_turn er, ek]
      refine g_tup2w (σ' := stO f t ap du av as v2 v3 (some (.ref D)) (some (.ref tu)) (some (.int a)) (some (.int b)) (some (.ref a1)) (some (.ref a2)) none none none none (some (.int (i : Nat))) (some (.ref au))) (.of g5) (by decide) (by decide) rfl ?_
      by_cases c : r.view = 0
      · rw [if_pos ((view0 _).mpr c)]
        refine ⟨_, rfl, au, _, _, _, rfl, rfl, tu', atI_nat (j := 1) rfl, _, _, rfl, rfl, true, eT c, iteT ⟨_, rfl, _, d4, ?_, fun b o e => ?_, ?_⟩⟩
        · rw [List.length_map]
          exact small1000 (by omega)
        · rw [upd_ne (ne_of_none e hD3)]
          exact s4 _ _ e
        · rw [upd_same]
          simp only [List.map_append, List.map_cons, List.map_nil]
      · rw [if_neg fun z => c ((view0 _).mp z), List.append_nil]
        exact ⟨_, rfl, au, _, _, _, rfl, rfl, tu', atI_nat (j := 1) rfl, _, _, rfl, rfl, false, eF c, s4, d4⟩
    rintro Hd ⟨sd, dd⟩
    rw [xsl, List.take_length] at dd
    have sbd := sc.trans sd
    refine gName_eq (σ' := stO f t ap du av as v2 v3 (some (.ref D)) (some (.ref tu)) (some (.int a)) (some (.int b)) (some (.ref a1)) (some (.ref a2)) (some (.ref D3)) none none none none none) rfl ?_
    refine ⟨_, rfl, _, rfl, _, rfl, _, rfl, (show 4 ≤ sizeLine by decide), fun t4 n8 => ⟨_, rfl, .ref t4, ⟨y.vs ++ [vAbove a b], y.rs, y.ws, y.bs⟩, ap, a, b, rfl, dLy (sbd.trans (Same.new n8)) upd_same g4 db, ok_above ok c12 a b, (gb.trans (sbd.trans (Same.new n8))).seqT ht, fun Hf pr2 s5 npr2 hpr2 => ?_⟩⟩
    rw [mem_above ok c12] at hpr2
    have s6 := (Same.new n8).trans s5
    exact ⟨_, rfl, eq_same (.lst (.of hpr2) ints_dp) (.lst (.of (s6 _ _ dd)) ints_dp) (nice_mem (P := [0]) hrl) (by decide) (fin (sb.trans (sbd.trans s6)))⟩
end
end TC

/-! One layout at some places: _law_right. -/
namespace TC
open PySem PySem.Spec PySem.Calls PyProof.Rows L2

def spRight (K : PySem.W.Frag) : Sp := fun vs H Q _ => ∃ (f t pl : Addr) (n : Int) (y : Ly) (xs : List V) (ps : List Pr), vs = [.ref f, .ref t, .ref pl] ∧ FAt H f n ∧ n + 10000 ≤ FAt.lim ∧ LyAt K (hid [f] H) t y ∧ y.ok ∧ VsBd 1000000000 y.vs ∧ hid [f] H pl = some (.lst xs) ∧ DpAll K (hid [f] H) xs (ps.map prData) ∧ ps.length ≤ 6 ∧
  ∀ (H' : Hp), Keep [f] H H' → FAt H' f (n + 2000) → Q (.bl true) H'
abbrev stR (f t pl : Addr) (kept : Str) (c4 c5 c6 c7 c8 c9 c10 : Option V) : L2.St := [some (.ref f), some (.ref t), some (.ref pl), some (.str kept), c4, c5, c6, c7, c8, c9, c10]
theorem repr_of {K : PySem.W.Frag} {H : Hp} {a : Addr} {d : PyData} {n m : Nat} {Q : VK} (h : Dp K H (.ref a) d) (nd : Nice n m d) (hn : n ≤ 60) (hm : m ≤ 2 ^ 20) (q : Q (.str d.shown) H) : rRepr K [.ref a] H Q :=
  ⟨a, d, rfl, h, nd.shw, nd.nod, Nat.le_trans nd.dep hn, nd.fits hm, q⟩
theorem ne_str {H : Hp} {x : Str} {Q : VK} (q : Q (.bl false) H) : rNe (.str x) (.str x) H Q := ⟨rfl, by rw [decide_eq_true rfl]; exact q⟩
theorem eq_str {H : Hp} {x : Str} {Q : VK} (q : Q (.bl true) H) : rEq (.str x) (.str x) H Q := ⟨rfl, by rw [decide_eq_true rfl]; exact q⟩
theorem path_small {vs : List Vw} {x y : Int} (ok : VsOk vs) : ∀ n ∈ thePath vs x y, n.natAbs < 10 ^ 12 := by
  have key : ∀ (m : Nat) (h : Int), 0 ≤ h → h ≤ 12 → ∀ n ∈ pathF vs x y m h, 0 ≤ n ∧ n ≤ 12 := by
    intro m
    induction m with
    | zero =>
      intro h h0 h1 n hn
      rw [List.mem_singleton.mp hn]
      exact ⟨h0, h1⟩
    | succ m ih =>
      intro h h0 h1 n hn
      rw [pathF_succ] at hn
      rcases List.mem_cons.mp hn with rfl | hn
      · exact ⟨h0, h1⟩
      · cases e : (hereL x y h 1 vs).getLast? with
        | none =>
          rw [e] at hn
          exact absurd hn List.not_mem_nil
        | some j =>
          rw [e] at hn
          have := here_gt ok (List.mem_of_getLast? e)
          have hl := ok.1
          exact ih j (by omega) (by omega) n hn
  intro n hn
  have := key 12 0 (by decide) (by decide) n hn
  have e : (10 : Nat) ^ 12 = 1000000000000 := by decide
  rw [e]
  omega
section
variable {P : Program} {w : World} {K : PySem.W.Frag} {mg : Str → Option Value} {base : Heap}
abbrev nRight : List Str := ["_law_fount_here", "_law_layout_here", "_law_places", "_law_kept", "_law_place", "_law_row", "_law_due", "_law_again", "_law_found", "_law_at", "_law_one"]
theorem sc_right : FnScope nRight ["_law_fount_here", "_law_layout_here", "_law_places"] (defScope s_law_right) := ⟨rfl, rfl, rfl, by decide +kernel, rfl, by decide +kernel, by decide +kernel⟩
theorem ok_right (T : Txt w K mg) : PromG P w K mg base 8 "_law_right" ["_law_fount_here", "_law_layout_here", "_law_places"] (spRight K) := by
  have pL := ok_pathL (P := P) (base := base) T
  have pM := ok_members (P := P) (base := base) T
  have pP := ok_path (P := P) (base := base) T
  have pO := ok_others (P := P) (base := base) T
  refine T.d_law_right.promG sc_right (fun vs H Q E h => ?_) (fun f0 cdv A outer s H vs Q E hG hr h => ?_)
  · obtain ⟨f, t, pl, n, y, xs, ps, rfl, _⟩ := h
    rfl
  · obtain ⟨f, t, pl, n, y, xs, ps, rfl, hF, hn, hy, ok, bd, hpl, hps, hl6, q⟩ := h
    have hlim : FAt.lim = 1000000000000 := rfl
    have hr2 : Room 2 _ := hr.mono (by decide)
    have hr5 : Room 5 _ := hr.mono (by decide)
    have hr6 : Room 6 _ := hr.mono (by decide)
    refine ⟨_, pss_cons (ps_set (i := 3) sc_right.nd rfl (Or.inl rfl) (pe_callB (call_reprD hG hr.units) (by rfl) T.b_repr (by decide +kernel) (pa_cons (pv 1) pa_nil)))
      (pss_cons (ps_for PassesOwn.never rfl (pi_list (pv 2)) (pg_name (i := 4) sc_right.nd rfl (Or.inl rfl))
        (pss_cons (ps_set (i := 5) sc_right.nd rfl (Or.inr rfl) (pe_p pL hr2 (by rfl) (pa_cons (pe_ix ix_tup (pv 1) pe_int (fun _ _ => rfl)) (pa_cons (pv 4) pa_nil))))
        (pss_cons (ps_setLc (i := 6) (own := [("_law_at", 9), ("_law_one", 10)]) (g := gTup K 2 (gCons (gName 9) (gCons (gName 10) gNil)))
          (tt := tB (tOp (rIn K false) (tOp (rIxT K) (tVar 10) (tC (.int 1))) (tVar 5))) (te := tVar 9) rfl sc_right.nd rfl rfl (sw_true rfl rfl rfl (by decide +kernel)) (pi_enum (by rfl) T.b_enumerate (pa_cons (pe_ix ix_tup (pv 1) pe_int (fun _ _ => rfl)) pa_nil))
          (blkOk_by (N := nRight) (sc := defScope s_law_right) (by decide +kernel))
          (fun _ _ _ _ _ => pg_tup rfl (pgs_cons (pg_name (i := 9) sc_right.nd rfl (Or.inl rfl)) (pgs_cons (pg_name (i := 10) sc_right.nd rfl (Or.inl rfl)) pgs_nil)))
          (fun _ _ _ _ _ => pts_one (pt_cmpR op_in_seq (pe_ix ix_tup (pv 10) pe_int (fun _ _ => rfl)) (pv 5) (by rfl)))
          (fun _ _ _ _ _ => pv 9))
        (pss_cons (ps_for PassesOwn.never rfl (pi_range1 (by rfl) T.b_range (pa_cons pe_int pa_nil)) (pg_name (i := 7) sc_right.nd rfl (Or.inl rfl))
          (pss_cons (ps_set (i := 8) sc_right.nd rfl (Or.inl rfl) (pe_p pM hr6 (by rfl) (pa_cons (pv 1) (pa_cons (pv 4) pa_nil))))
          (pss_cons (ps_if (PW.pt (pw_or (pt_cmpR op_ne (pe_callB (call_reprD hG hr.units) (by rfl) T.b_repr (by decide +kernel) (pa_cons (pv 8) pa_nil)) (pe_callB (call_reprD hG hr.units) (by rfl) T.b_repr (by decide +kernel) (pa_cons (pv 6) pa_nil)) (nomark _))
            (pw_or1 (pt_cmpR (op_neD hr.units) (pe_p pP hr5 (by rfl) (pa_cons (pe_ix ix_tup (pv 1) pe_int (fun _ _ => rfl)) (pa_cons (pv 4) pa_nil))) (pv 5) (nomark _)))))
            (pss_one (ps_ret pe_bl)) pss_nil)
          (pss_one (ps_expr (pe_bm PySem.F.plainAttrs_list PySem.F.slot_list_append PySem.F.type_list_append mt_append (pv 8) (pa_cons pe_int pa_nil)))))))
        (pss_one (ps_if (pt_not (pt_val (pe_p pO hr (by rfl) (pa_cons (pv 0) (pa_cons (pv 1) (pa_cons (pv 4) (pa_cons (pv 6) pa_nil))))))) (pss_one (ps_ret pe_bl)) pss_nil))))))
      (pss_one (ps_ret (pe_cmpR op_eq (pe_callB (call_reprD hG hr.units) (by rfl) T.b_repr (by decide +kernel) (pa_cons (pv 1) pa_nil)) (pv 3) (nomark _))))), ?_⟩
    have nl := nice_layout ok bd
    have hrl := ok.2.1.1
    obtain ⟨av, as, xv, rs, v2, v3, gt, gav, gas, ev, es, e2, e3⟩ := id hy
    have xsl : rs.length = y.rs.length := by rw [dp_len es, List.length_map]
    -- kept
    refine ⟨_, rfl, t, y.data, rfl, hy.dp.same hid_same, nl.shw, nl.nod, Nat.le_trans nl.dep (by decide), nl.fits (by decide), ?_⟩
    refine gName_eq (σ' := stR f t pl y.data.shown none none none none none none none) rfl ?_
    -- the places
    refine ⟨_, rfl, pl, rfl, ⟨_, .of (hid_same _ _ hpl)⟩, for_it (walk_list (K := K) (a := pl) (xs := xs)) (fun i σ H' => ∃ c4 c5 c6 c7 c8 : Option V, σ = stR f t pl y.data.shown c4 c5 c6 c7 c8 none none ∧ Keep [f] H H' ∧ FAt H' f (n + 200 * i)) ⟨_, _, _, _, _, rfl, Keep.refl, hF.mono (by omega)⟩ (fun _ _ _ _ p => ?_) ?_ ?_⟩
    · obtain ⟨_, _, _, _, _, _, k, _⟩ := p
      exact .of (k _ _ (out_of hpl) (hid_same _ _ hpl))
    · rintro i v σ H1 H2 hi ⟨c4, c5, c6, c7, c8, rfl, k1, F1⟩ ⟨rfl, ev'⟩
      obtain ⟨d, ed, hu⟩ := dp_get hps ev'
      rw [List.getElem?_map] at ed
      cases ep : ps[i]? with
      | none =>
        rw [ep] at ed
        cases ed
      | some p =>
      rw [ep] at ed
      cases ed
      have hi6 := (List.getElem?_eq_some_iff.mp ep).1
      obtain ⟨ap, rfl, tap⟩ := dp_tints hu
      refine gName_eq (σ' := stR f t pl y.data.shown (some (.ref ap)) c5 c6 c7 c8 none none) rfl ?_
      have hyK := hy.same k1.same
      have F1' : FAt H2 f (n + 200 * i) := F1
      have hlen6 : (i : Int) < 6 := by omega
      have sK : Same (hid [f] H) H2 := k1.same.trans hid_same
      have tap2 := sK.seqT tap
      have nm := nice_mem (P := thePath y.vs p.1 p.2) hrl
      have npath : Nice 1 13 (.list ((thePath y.vs p.1 p.2).map .int)) := nice_ints (path_small ok.1) (pathF_len y.vs p.1 p.2 12 0)
      -- row
      refine ⟨_, rfl, t, _, _, _, rfl, rfl, .of (sK _ _ gt), atI_nat (j := 0) rfl, _, rfl, .ref av, y.vs, ap, p.1, p.2, rfl, .lst (.of (sK _ _ gav)) (DpAll.same sK ev), ok.1, tap2, fun H3 row s3 nrow hrow => ?_⟩
      refine gName_eq (σ' := stR f t pl y.data.shown (some (.ref ap)) (some (.ref row)) c6 c7 c8 none none) rfl ?_
      have sK3 := sK.trans s3
      -- due
      refine ⟨_, rfl, t, _, _, _, rfl, rfl, .of (sK3 _ _ gt), atI_nat (j := 1) rfl, as, rs, rfl, .of (sK3 _ _ gas), fun D hD => lc_it walk_enum (fun i H' => Same H3 H' ∧ H' D = some (.lst ((memL (thePath y.vs p.1 p.2) 0 (y.rs.take i)).map V.int))) ⟨Same.new hD, upd_same⟩ (fun _ _ _ p => .of (p.1 _ _ (sK3 _ _ gas))) ?_ ?_⟩
      · rintro j v Hd He hi' ⟨sd, dd⟩ ⟨tt, x0, u, rfl, ntt, rfl, e0, eu⟩
        cases e0
        have s4 : Same H3 (upd Hd tt (.tup [.int (j : Nat), u])) := sd.trans (Same.new ntt)
        have d4 := (Same.new ntt : Same Hd (upd Hd tt (.tup [.int (j : Nat), u]))) _ _ dd
        have g5 : (upd Hd tt (.tup [.int (j : Nat), u])) tt = some (.tup [.int (j : Nat), u]) := upd_same
        generalize upd Hd tt (.tup [.int (j : Nat), u]) = He at s4 d4 g5
        obtain ⟨d, ed, hu⟩ := dp_get es eu
        rw [List.getElem?_map] at ed
        cases er : y.rs[j]? with
        | none =>
          rw [er] at ed
          cases ed
        | some r =>
        rw [er] at ed
        cases ed
        obtain ⟨au, zs, rfl, tu', hys⟩ := dp_tup (hu.same (sK3.trans s4))
        cases hys with
        | @cons w0 _ _ _ k0 hys =>
        cases hys with
        | @cons w1 _ _ _ kk1 hys =>
        cases hys with
        | @cons w2 _ _ _ kk2 hys =>
        cases hys
        cases k0
        cases kk1
        have ilt := (List.getElem?_eq_some_iff.mp er).1
        have len : (memL (thePath y.vs p.1 p.2) 0 (y.rs.take j)).length ≤ 8 := by
          have h1 := memL_len (thePath y.vs p.1 p.2) 0 (y.rs.take j)
          rw [List.length_take] at h1
          omega
        have ek : ((0 : Int) + (j : Nat)) = (j : Nat) := by omega
        rw [memL_turn er, ek]
        have hrow4 := s4 _ _ hrow
        refine g_tup2w (σ' := stR f t pl y.data.shown (some (.ref ap)) (some (.ref row)) c6 c7 c8 (some (.int (j : Nat))) (some (.ref au))) (.of g5) (by decide) (by decide) rfl ?_
        by_cases c : r.view ∈ thePath y.vs p.1 p.2
        · rw [if_pos c]
          refine ⟨_, rfl, au, _, _, _, rfl, rfl, tu', atI_nat (j := 1) rfl, _, rfl, row, _, rfl, .inl (.of hrow4), rfl, flat_ints _, true, ?_, iteT ⟨_, rfl, _, d4, ?_, fun b o e => ?_, ?_⟩⟩
          · show V.bl (inV (.int r.view) _) = _
            rw [inV_ints, decide_eq_true c]
          · rw [List.length_map]
            exact small1000 (by omega)
          · rw [upd_ne (ne_of_none e hD)]
            exact s4 _ _ e
          · rw [upd_same]
            simp only [List.map_append, List.map_cons, List.map_nil]
        · rw [if_neg c, List.append_nil]
          refine ⟨_, rfl, au, _, _, _, rfl, rfl, tu', atI_nat (j := 1) rfl, _, rfl, row, _, rfl, .inl (.of hrow4), rfl, flat_ints _, false, ?_, s4, d4⟩
          show V.bl (inV (.int r.view) _) = _
          rw [inV_ints, decide_eq_false c]
      rintro H4 ⟨s4, d4⟩
      rw [xsl, List.take_length] at d4
      refine gName_eq (σ' := stR f t pl y.data.shown (some (.ref ap)) (some (.ref row)) (some (.ref D)) c7 c8 none none) rfl ?_
      have sK4 := sK3.trans s4
      have hrow4 := s4 _ _ hrow
      have k4 : Keep [f] H H4 := k1.trans (Keep.of (s3.trans s4))
      have F4 := F1'.same (s3.trans s4)
      have nDf : D ≠ f := (F1'.same s3).ne hD
      -- twice
      refine ⟨2, rfl, by decide, by decide, for_range (fun (i : Nat) σ H' => ∃ c7 c8 : Option V, σ = stR f t pl y.data.shown (some (.ref ap)) (some (.ref row)) (some (.ref D)) c7 c8 none none ∧ Same H4 H') ⟨_, _, rfl, Same.refl _⟩ ?_ ?_⟩
      · rintro j σ H5 hj ⟨c7, c8, rfl, s5⟩
        refine gName_eq (σ' := stR f t pl y.data.shown (some (.ref ap)) (some (.ref row)) (some (.ref D)) (some (.int (0 + (j : Nat)))) c8 none none) rfl ?_
        have sK5 := sK4.trans s5
        refine ⟨_, rfl, _, rfl, .ref t, y, ap, p.1, p.2, rfl, hy.dp.same sK5, ok, sK5.seqT tap, fun H6 fo s6 nfo hfo => ?_⟩
        refine gName_eq (σ' := stR f t pl y.data.shown (some (.ref ap)) (some (.ref row)) (some (.ref D)) (some (.int (0 + (j : Nat)))) (some (.ref fo)) none none) rfl ?_
        have s56 := s5.trans s6
        have sK6 := sK5.trans s6
        refine ⟨_, rfl, fo, _, rfl, .lst (.of hfo) ints_dp, nm.shw, nm.nod, Nat.le_trans nm.dep (by decide), nm.fits (by decide), _, rfl, D, _, rfl, .lst (.of (s56 _ _ d4)) ints_dp, nm.shw, nm.nod, Nat.le_trans nm.dep (by decide), nm.fits (by decide), ne_str ⟨false, rfl, ?_⟩⟩
        refine ⟨_, rfl, t, _, _, _, rfl, rfl, .of (sK6 _ _ gt), atI_nat (j := 0) rfl, _, rfl, .ref av, y.vs, ap, p.1, p.2, rfl, .lst (.of (sK6 _ _ gav)) (DpAll.same sK6 ev), ok.1, sK6.seqT tap, fun H7 pa s7 npa hpa => ?_⟩
        refine ⟨_, rfl, ne_same (.lst (.of hpa) ints_dp) (.lst (.of (s7 _ _ (s56 _ _ hrow4))) ints_dp) npath (by decide) ⟨false, rfl, ?_⟩⟩
        have hfo7 := s7 _ _ hfo
        refine ⟨_, rfl, .inl ⟨rfl, _, .of hfo7⟩, fo, _, _, rfl, rfl, hfo7, ?_, _, _, rfl, fun b o e => ?_⟩
        · rw [List.length_map]
          exact small1000 (by have := memL_len (thePath y.vs p.1 p.2) 0 y.rs; unfold theMem; omega)
        · rw [upd_ne (ne_of_none (s5 _ _ e) nfo)]
          exact s7 _ _ (s56 _ _ e)
      · rintro σ H5 ⟨c7, c8, rfl, s5⟩
        have sK5 := sK4.trans s5
        have k5 : Keep [f] H H5 := k4.trans (Keep.of s5)
        refine ⟨_, rfl, _, rfl, _, rfl, _, rfl, f, t, ap, D, n + 200 * i, y, p.1, p.2, rfl, F4.same s5, by omega, hy.same k5.same, ok, k5.same.seqT tap, hid_at (s5 _ _ d4) (fun z => nDf (List.mem_singleton.mp z)), fun H6 k6 F6 => ⟨true, rfl, iteF ?_⟩⟩
        exact ⟨_, _, _, _, _, rfl, k5.trans k6, F6.mono (by omega)⟩
    · rintro σ H1 ⟨c4, c5, c6, c7, c8, rfl, k1, F1⟩
      refine ⟨_, rfl, t, y.data, rfl, (hy.same k1.same).dp.same hid_same, nl.shw, nl.nod, Nat.le_trans nl.dep (by decide), nl.fits (by decide), _, rfl, eq_str ?_⟩
      have : xs.length ≤ 6 := by rw [dp_len hps, List.length_map]; exact hl6
      exact q _ k1 (F1.mono (by omega))
end
end TC

/-! The law itself. -/
namespace TC
open PySem PySem.Spec PySem.Calls PyProof.Rows L2

def spLaw (K : PySem.W.Frag) : Sp := fun vs H Q _ => ∃ (a : Addr) (ns : List Int), vs = [.ref a] ∧ SqL K H a (ns.map V.int) ∧ ns.length ≤ 63 ∧ ∀ (H' : Hp), Q (.bl true) H'
abbrev stL (a : Addr) (c1 c2 c3 c4 c5 c6 c7 c8 c9 c10 c11 c12 c13 c14 c15 c16 c17 : Option V) : L2.St := [some (.ref a), c1, c2, c3, c4, c5, c6, c7, c8, c9, c10, c11, c12, c13, c14, c15, c16, c17]
theorem FAt.upd {H : Hp} {f t : Addr} {n : Int} {o : HO} (h : FAt H f n) (ne : t ≠ f) : FAt (upd H t o) f n := by
  obtain ⟨a, b, c, h1, h2⟩ := h
  exact ⟨a, b, c, by rw [upd_ne ne.symm]; exact h1, h2⟩
theorem wipe_out5 {σ : L2.St} {i j k l m : Nat} {x y z u v : Option V} {vs : List Nat} (h : i ∈ vs) (h2 : j ∈ vs) (h3 : k ∈ vs) (h4 : l ∈ vs) (h5 : m ∈ vs) : wipe ((((((wipe σ vs).set i x).set j y).set k z).set l u).set m v) vs = wipe σ vs := by
  rw [wipe_in h5, wipe_in h4, wipe_in h3, wipe_in h2, wipe_in h, wipe_wipe]
theorem g_tup5w {K : PySem.W.Frag} {i j k l m : Nat} {a : Addr} {x y z u v : V} {σ σ' : L2.St} {vs : List Nat} {H : Hp} {Q : L2.St → Hp → Prop} (h : SqT K H a [x, y, z, u, v]) (hi : i ∈ vs) (hj : j ∈ vs) (hk : k ∈ vs) (hl : l ∈ vs) (hm : m ∈ vs)
    (e : (((((wipe σ vs).set i (some x)).set j (some y)).set k (some z)).set l (some u)).set m (some v) = σ') (q : Q σ' H) :
    gTup K 5 (gCons (gName i) (gCons (gName j) (gCons (gName k) (gCons (gName l) (gCons (gName m) gNil))))) (.ref a) (wipe σ vs) H (fun σ2 H2 => wipe σ2 vs = wipe σ vs ∧ Q σ2 H2) :=
  ⟨a, _, rfl, h, rfl, x, _, rfl, y, _, rfl, z, _, rfl, u, _, rfl, v, _, rfl, rfl, wipe_out5 hi hj hk hl hm, e.symm ▸ q⟩
theorem keep_new_same {f : Addr} {H H1 H2 : Hp} (s : Same H H1) (nf : H f = none) (k : Keep [f] H1 H2) : Same H H2 := fun b o e => k _ _ (fun z => ne_of_none e nf (List.mem_singleton.mp z)) (s _ _ e)
theorem first_many {σ : L2.St} {H : Hp} {f : Addr} {n tn : Int} {Q : VK} (h3 : σ[3]? = some (some (.int tn))) (h2 : σ[2]? = some (some (.ref f))) (hF : FAt H f n) (hn : n + 10 ≤ FAt.lim)
    (q : ∀ (fi ma : Int) (t : Addr) (H' : Hp), 0 ≤ fi → fi ≤ 12 → 0 ≤ ma → ma ≤ 8 → Keep [f] H H' → FAt H' f (n + 2) → H' t = some (.tup [.int fi, .int ma]) → Q (.ref t) H') :
    tIf (tB (tEqI (tVar 3) (tC (.int 0)))) (tTup (tCons (tC (.int 12)) (tCons (tC (.int 8)) tNil))) (tTup (tCons (tCall spDip [] E0 (tCons (tVar 2) (tCons (tC (.int 13)) tNil))) (tCons (tCall spDip [] E0 (tCons (tVar 2) (tCons (tC (.int 9)) tNil))) tNil))) σ H Q := by
  by_cases c : tn = 0
  · exact ⟨_, h3, _, _, rfl, rfl, true, eT c, iteT ⟨(show 2 ≤ sizeLine by decide), fun t nt => q 12 8 t _ (by decide) (by decide) (by decide) (by decide) (Keep.of (Same.new nt)) ((hF.same (Same.new nt)).mono (by omega)) upd_same⟩⟩
  · refine ⟨_, h3, _, _, rfl, rfl, false, eF c, iteF ⟨_, h2, f, n, _, rfl, hF, by omega, by decide, by decide, fun d1 H1 a1 b1 k1 F1 => ⟨_, h2, f, _, _, rfl, F1, by omega, by decide, by decide, fun d2 H2 a2 b2 k2 F2 => ⟨(show 2 ≤ sizeLine by decide), fun t nt => ?_⟩⟩⟩⟩
    exact q d1 d2 t _ a1 (by omega) a2 (by omega) ((k1.trans k2).trans (Keep.of (Same.new nt))) ((F2.same (Same.new nt)).mono (by omega)) upd_same
theorem seq_asg {te : TE} {g : TG} {u : TS} {D : Ends} {σ : L2.St} {H : Hp} (h : te σ H fun v H1 => g v σ H1 (fun σ' H' => u D σ' H')) : tSeq (tAsg te g) u D σ H := h
theorem p8 : (10 : Int) ^ (8 : Int).toNat = 100000000 := by decide +kernel
theorem p9 : (10 : Int) ^ (9 : Int).toNat = 1000000000 := by decide +kernel
section
variable {P : Program} {w : World} {K : PySem.W.Frag} {mg : Str → Option Value} {base : Heap}
abbrev nLaw : List Str := ["_law_script", "_law_k", "_law_fount_here", "_law_turn", "_law_first", "_law_many", "_law_views", "_law_places", "_law_times", "_law_great", "_law_again", "_law_parent", "_law_a", "_law_b", "_law_c", "_law_d", "_law_x", "_law_y"]
theorem sc_law : FnScope nLaw ["_law_script"] (defScope s_law) := ⟨rfl, rfl, rfl, by decide +kernel, rfl, by decide +kernel, by decide +kernel⟩
theorem law_len (vs : List V) (H : Hp) (Q : VK) (E : XK) (h : spLaw K vs H Q E) : vs.length = (["_law_script"] : List Str).length := by
  obtain ⟨a, ns, rfl, _⟩ := h
  rfl
theorem law_body (T : Txt w K mg) (f0 : Addr) (cdv : Value) (A : Around) (outer : List Env) (s : Shared) (H : Hp) (vs : List V) (Q : VK) (E : XK) (hG : A.guards = some []) (hr : Room 8 (A.deeper (envOfC "law" (defScope s_law) s.heap.objs.size f0 cdv))) (h : spLaw K vs H Q E) :
    ∃ t, PSs (cxOf CX0 P w K mg base nLaw "law" (defScope s_law) f0 cdv A outer s H E).nox (defBody s_law) t ∧ t { nx := fun _ H' => Q .non H', rt := Q } (L2.start nLaw vs) H := by
  have pF := ok_fount (P := P) (base := base) T
  have pD := ok_dip (P := P) (base := base) T
  have pS := ok_small (P := P) (base := base) T
  have pY := ok_layoutL (P := P) (base := base) T
  have pR := ok_right (P := P) (base := base) T
  have pM := ok_members (P := P) (base := base) T
  · obtain ⟨a, ns, rfl, ha, hns, q⟩ := h
    have hlim : FAt.lim = 1000000000000 := rfl
    have hr1 : Room 1 _ := hr.mono (by decide)
    have hr2 : Room 2 _ := hr.mono (by decide)
    have hr3 : Room 3 _ := hr.mono (by decide)
    have hr6 : Room 6 _ := hr.mono (by decide)
    refine ⟨_, pss_cons (ps_for PassesOwn.never rfl (pi_range1 (by rfl) T.b_range (pa_cons (pe_callB (call_max2 rfl) (by rfl) T.b_max (by decide +kernel) (pa_cons pe_int (pa_cons (pe_callB (call_min2 rfl) (by rfl) T.b_min (by decide +kernel) (pa_cons pe_int (pa_cons (pe_callB call_len_seq (by rfl) T.b_len PySem.boot_len (pa_cons (pv 0) pa_nil)) pa_nil))) pa_nil))) pa_nil)) (pg_name (i := 1) sc_law.nd rfl (Or.inl rfl))
        (pss_cons (ps_set (i := 2) sc_law.nd rfl (Or.inr rfl) (pe_p pF hr1 (by rfl) (pa_cons (pv 0) (pa_cons (pv 1) pa_nil))))
        (pss_one (ps_for PassesOwn.never rfl (pi_range1 (by rfl) T.b_range (pa_cons (pe_ix ix_list (pe_lst (pa_cons pe_int (pa_cons pe_int pa_nil))) (pe_callTy call_int1 (by rfl) T.b_int (by decide +kernel) (pa_cons (pe_cmp (pc_eqI (pv 1) pe_int)) pa_nil)) (fun _ _ => rfl)) pa_nil)) (pg_name (i := 3) sc_law.nd rfl (Or.inl rfl))
          (pss_cons (ps_asg (pe_ifExp (pt_cmp (pc_eqI (pv 3) pe_int)) (pe_tup (pa_cons pe_int (pa_cons pe_int pa_nil))) (pe_tup (pa_cons (pe_p pD hr1 (by rfl) (pa_cons (pv 2) (pa_cons pe_int pa_nil))) (pa_cons (pe_p pD hr1 (by rfl) (pa_cons (pv 2) (pa_cons pe_int pa_nil))) pa_nil))))
            (pg_tup rfl (pgs_cons (pg_name (i := 4) sc_law.nd rfl (Or.inl rfl)) (pgs_cons (pg_name (i := 5) sc_law.nd rfl (Or.inl rfl)) pgs_nil))))
          (pss_cons (ps_set (i := 6) sc_law.nd rfl (Or.inl rfl) (pe_p pS hr2 (by rfl) (pa_cons (pv 2) (pa_cons (pv 4) pa_nil))))
          (pss_cons (ps_setLc (i := 7) (own := [("_law_again", 10)]) (g := gName 10) (tt := tYes) (te := tTup (tCons (tOp (rI0 fun i j => .int (i - j)) (tCall spDip [] E0 (tCons (tVar 2) (tCons (tC (.int 14)) tNil))) (tC (.int 5))) (tCons (tOp (rI0 fun i j => .int (i - j)) (tCall spDip [] E0 (tCons (tVar 2) (tCons (tC (.int 14)) tNil))) (tC (.int 5))) tNil)))
            rfl sc_law.nd rfl rfl (sw_true rfl rfl rfl (by decide +kernel)) (pi_range1 (by rfl) T.b_range (pa_cons pe_int pa_nil)) (blkOk_by (N := nLaw) (sc := defScope s_law) (by decide +kernel))
            (fun _ _ _ _ _ => pg_name (i := 10) sc_law.nd rfl (Or.inl rfl)) (fun _ _ _ _ _ => pts_nil)
            (fun _ _ _ _ _ => pe_tup (pa_cons (pe_op op_sub (pe_p pD hr1 (by rfl) (pa_cons (pv 2) (pa_cons pe_int pa_nil))) pe_int) (pa_cons (pe_op op_sub (pe_p pD hr1 (by rfl) (pa_cons (pv 2) (pa_cons pe_int pa_nil))) pe_int) pa_nil))))
          (pss_cons (ps_if (pt_not (pt_val (pe_pG hG pR hr (by rfl) (pa_cons (pv 2) (pa_cons (pe_p pY hr3 (by rfl) (pa_cons (pv 2) (pa_cons (pv 6) (pa_cons (pv 5) (pa_cons pe_int pa_nil))))) (pa_cons (pv 7) pa_nil)))))) (pss_one (ps_ret pe_bl)) pss_nil)
          (pss_cons (ps_set (i := 8) sc_law.nd rfl (Or.inr rfl) (pe_op op_add pe_int (pe_p pD hr1 (by rfl) (pa_cons (pv 2) (pa_cons (pe_op op_pow pe_int pe_int) pa_nil)))))
          (pss_cons (ps_setLc (i := 9) (own := [("_law_parent", 11), ("_law_a", 12), ("_law_b", 13), ("_law_c", 14), ("_law_d", 15)]) (g := gTup K 5 (gCons (gName 11) (gCons (gName 12) (gCons (gName 13) (gCons (gName 14) (gCons (gName 15) gNil)))))) (tt := tYes)
            (te := tTup (tCons (tVar 11) (tCons (tOp (rI CMul fun i j => .int (i * j)) (tVar 12) (tVar 8)) (tCons (tOp (rI CMul fun i j => .int (i * j)) (tVar 13) (tVar 8)) (tCons (tOp (rI CMul fun i j => .int (i * j)) (tVar 14) (tVar 8)) (tCons (tOp (rI CMul fun i j => .int (i * j)) (tVar 15) (tVar 8)) tNil))))))
            rfl sc_law.nd rfl rfl (sw_true rfl rfl rfl (by decide +kernel)) (pi_list (pv 6)) (blkOk_by (N := nLaw) (sc := defScope s_law) (by decide +kernel))
            (fun _ _ _ _ _ => pg_tup rfl (pgs_cons (pg_name (i := 11) sc_law.nd rfl (Or.inl rfl)) (pgs_cons (pg_name (i := 12) sc_law.nd rfl (Or.inl rfl)) (pgs_cons (pg_name (i := 13) sc_law.nd rfl (Or.inl rfl)) (pgs_cons (pg_name (i := 14) sc_law.nd rfl (Or.inl rfl)) (pgs_cons (pg_name (i := 15) sc_law.nd rfl (Or.inl rfl)) pgs_nil)))))) (fun _ _ _ _ _ => pts_nil)
            (fun _ _ _ _ _ => pe_tup (pa_cons (pv 11) (pa_cons (pe_op op_mul (pv 12) (pv 8)) (pa_cons (pe_op op_mul (pv 13) (pv 8)) (pa_cons (pe_op op_mul (pv 14) (pv 8)) (pa_cons (pe_op op_mul (pv 15) (pv 8)) pa_nil)))))))
          (pss_cons (ps_setLc (i := 7) (own := [("_law_x", 16), ("_law_y", 17)]) (g := gTup K 2 (gCons (gName 16) (gCons (gName 17) gNil))) (tt := tYes)
            (te := tTup (tCons (tOp (rI CMul fun i j => .int (i * j)) (tVar 16) (tVar 8)) (tCons (tOp (rI0 fun i j => .int (i + j)) (tOp (rI CMul fun i j => .int (i * j)) (tVar 17) (tVar 8)) (tCall spDip [] E0 (tCons (tVar 2) (tCons (tVar 8) tNil)))) tNil)))
            rfl sc_law.nd rfl rfl (sw_true rfl rfl rfl (by decide +kernel)) (pi_list (pv 7)) (blkOk_by (N := nLaw) (sc := defScope s_law) (by decide +kernel))
            (fun _ _ _ _ _ => pg_tup rfl (pgs_cons (pg_name (i := 16) sc_law.nd rfl (Or.inl rfl)) (pgs_cons (pg_name (i := 17) sc_law.nd rfl (Or.inl rfl)) pgs_nil))) (fun _ _ _ _ _ => pts_nil)
            (fun _ _ _ _ _ => pe_tup (pa_cons (pe_op op_mul (pv 16) (pv 8)) (pa_cons (pe_op op_add (pe_op op_mul (pv 17) (pv 8)) (pe_p pD hr1 (by rfl) (pa_cons (pv 2) (pa_cons (pv 8) pa_nil)))) pa_nil))))
          (pss_one (ps_if (pt_not (pt_val (pe_pG hG pR hr (by rfl) (pa_cons (pv 2) (pa_cons (pe_p pY hr3 (by rfl) (pa_cons (pv 2) (pa_cons (pv 9) (pa_cons (pv 5) (pa_cons (pe_op op_pow pe_int pe_int) pa_nil))))) (pa_cons (pv 7) pa_nil)))))) (pss_one (ps_ret pe_bl)) pss_nil)))))))))))))
      (pss_one (ps_ret (pe_cmpR (op_eqD hr.units) (pe_p pM hr6 (by rfl) (pa_cons (pe_tup (pa_cons (pe_lst pa_nil) (pa_cons (pe_lst pa_nil) (pa_cons (pe_lst pa_nil) (pa_cons (pe_lst pa_nil) pa_nil))))) (pa_cons (pe_tup (pa_cons pe_int (pa_cons pe_int pa_nil))) pa_nil))) (pe_lst pa_nil) (nomark _)))), ?_⟩
    refine ⟨_, rfl, a, _, rfl, .inl ha, _, _, rfl, _, _, rfl, ?_⟩
    obtain ⟨M, eM, m0, m5⟩ : ∃ M : Int, (if (if ((ns.map V.int).length : Int) < 5 then ((ns.map V.int).length : Int) else 5) > 1 then (if ((ns.map V.int).length : Int) < 5 then ((ns.map V.int).length : Int) else 5) else 1) = M ∧ 0 ≤ M ∧ M ≤ 5 := by
      refine ⟨_, rfl, ?_, ?_⟩
      · split <;> (try split) <;> omega
      · split <;> (try split) <;> omega
    refine ⟨M, congrArg (fun z => [V.int z]) eM, by omega, by omega, for_range (fun (i : Nat) σ H' => ∃ c1 c2 c3 c4 c5 c6 c7 c8 c9 : Option V, σ = stL a c1 c2 c3 c4 c5 c6 c7 c8 c9 none none none none none none none none ∧ Same H H') ⟨_, _, _, _, _, _, _, _, _, rfl, Same.refl _⟩ ?_ ?_⟩
    · rintro i σ H1 hi ⟨c1, c2, c3, c4, c5, c6, c7, c8, c9, rfl, s1⟩
      refine gName_eq (σ' := stL a (some (.int (0 + (i : Nat)))) c2 c3 c4 c5 c6 c7 c8 c9 none none none none none none none none) rfl ?_
      refine ⟨_, rfl, _, rfl, a, ns, 0 + (i : Nat), rfl, s1.seq ha, by omega, by omega, fun f H2 s2 nf F2 => ?_⟩
      refine gName_eq (σ' := stL a (some (.int (0 + (i : Nat)))) (some (.ref f)) c3 c4 c5 c6 c7 c8 c9 none none none none none none none none) rfl ?_
      have nfH : H f = none := s1.free nf
      have s12 : Same H H2 := s1.trans s2
      refine ⟨(show 2 ≤ sizeLine by decide), fun l nl => ?_⟩
      obtain ⟨z, ez, bz⟩ : ∃ z : Int, atI [V.int 1, V.int 3] (if decide ((0 : Int) + (i : Nat) = 0) = true then 1 else 0) = some (.int z) ∧ (z = 1 ∨ z = 3) := by
        by_cases c : (0 : Int) + (i : Nat) = 0
        · rw [if_pos (decide_eq_true c)]
          exact ⟨3, atI_nat (j := 1) rfl, .inr rfl⟩
        · rw [if_neg (by rw [decide_eq_true_eq]; exact c)]
          exact ⟨1, atI_nat (j := 0) rfl, .inl rfl⟩
      refine ⟨_, rfl, _, _, rfl, rfl, .inr ⟨_, rfl, l, _, _, _, rfl, rfl, .of upd_same, ez, z, rfl, by omega, by omega, for_range (fun (j : Nat) σ H' => ∃ c3 c4 c5 c6 c7 c8 c9 : Option V, σ = stL a (some (.int (0 + (i : Nat)))) (some (.ref f)) c3 c4 c5 c6 c7 c8 c9 none none none none none none none none ∧ Keep [f] H2 H' ∧ FAt H' f (5000 * j)) ⟨_, _, _, _, _, _, _, rfl, Keep.of (Same.new nl), (F2.same (Same.new nl)).mono (by omega)⟩ ?_ ?_⟩⟩
      · rintro j σ H3 hj ⟨c3, c4, c5, c6, c7, c8, c9, rfl, k3, F3⟩
        have hj3 : (j : Int) < 3 := by omega
        refine gName_eq (σ' := stL a (some (.int (0 + (i : Nat)))) (some (.ref f)) (some (.int (0 + (j : Nat)))) c4 c5 c6 c7 c8 c9 none none none none none none none none) rfl ?_
        refine seq_asg (first_many (n := 5000 * j) rfl rfl F3 (by omega) (fun fi ma t H4 a0 a1 b0 b1 k4 F4 ht => ?_))
        refine ⟨t, _, rfl, .of ht, rfl, _, _, rfl, _, _, rfl, rfl, ?_⟩
        refine st_eq (σ' := stL a (some (.int (0 + (i : Nat)))) (some (.ref f)) (some (.int (0 + (j : Nat)))) (some (.int fi)) (some (.int ma)) c6 c7 c8 c9 none none none none none none none none) rfl ?_
        -- views
        refine ⟨_, rfl, _, rfl, f, _, fi, rfl, F4, by omega, a0, a1, fun ws vp xs H5 wl wok wbd k5 nvp hvp dvp F5 => ?_⟩
        refine gName_eq (σ' := stL a (some (.int (0 + (i : Nat)))) (some (.ref f)) (some (.int (0 + (j : Nat)))) (some (.int fi)) (some (.int ma)) (some (.ref vp)) c7 c8 c9 none none none none none none none none) rfl ?_
        have nvf : vp ∉ [f] := fun z => F4.ne nvp (List.mem_singleton.mp z)
        have k35 : Keep [f] H2 H5 := (k3.trans k4).trans k5
        -- places
        refine ⟨6, rfl, by decide, by decide, fun D hD => lc_it walk_range (fun i H' => ∃ (ps : List Pr) (ys : List V), Keep [f] H5 H' ∧ H' D = some (.lst ys) ∧ DpAll K (hid [f, D] H') ys (ps.map prData) ∧ ps.length = i ∧ FAt H' f (5000 * j + 102 + 2 * i))
          ⟨[], [], Keep.new hD, upd_same, .nil, rfl, (F5.same (Same.new hD)).mono (by omega)⟩ (fun _ _ _ _ => trivial) ?_ ?_⟩
        · rintro i' v H6 H7 hi' ⟨ps, ys, k6, hD6, d6, l6, F6⟩ ⟨rfl, rfl⟩
          have nDf : D ∉ [f] := fun z => F5.ne hD (List.mem_singleton.mp z)
          refine gName_w (σ' := stL a (some (.int (0 + (i : Nat)))) (some (.ref f)) (some (.int (0 + (j : Nat)))) (some (.int fi)) (some (.int ma)) (some (.ref vp)) c7 c8 c9 (some (.int (0 + (i' : Nat)))) none none none none none none none) (by decide) rfl ?_
          refine ⟨_, rfl, f, _, _, rfl, F6, by omega, by decide, by decide, fun d1 H8 x0 x1 k8 F8 => ⟨_, _, rfl, rfl, _, rfl, f, _, _, rfl, F8, by omega, by decide, by decide, fun d2 H9 y0 y1 k9 F9 => ⟨_, _, rfl, rfl, (show 2 ≤ sizeLine by decide), fun t nt => ?_⟩⟩⟩
          have hD9 := k9 _ _ nDf (k8 _ _ nDf hD6)
          have Dt : D ≠ t := ne_of_none hD9 nt
          have tf := F9.ne nt
          have yl := dp_len d6
          rw [List.length_map] at yl
          refine ⟨ys, Same.new nt _ _ hD9, small1000 (by omega), ps ++ [(d1 - 5, d2 - 5)], ys ++ [.ref t], keep_set (((k6.trans k8).trans k9).trans (Keep.of (Same.new nt))) hD, upd_same, ?_, ?_, ((F9.same (Same.new nt)).upd (fun z => nDf (List.mem_singleton.mpr z))).mono (by omega)⟩
          · rw [List.map_append]
            refine dp_append (DpAll.same ((((keepL k8).trans (keepL k9)).trans (Keep.of (Same.new nt))).trans (Keep.set (by simp))).same d6) (.cons (.tup (.of ?_) (ints_dp (ns := [d1 - 5, d2 - 5]))) .nil)
            rw [hid_out (in2 tf Dt.symm), upd_ne Dt.symm]
            exact upd_same
          · rw [List.length_append, l6]
            all_goals rfl
        rintro H6 ⟨ps, ys, k6, hD6, d6, l6, F6⟩
        refine gName_eq (σ' := stL a (some (.int (0 + (i : Nat)))) (some (.ref f)) (some (.int (0 + (j : Nat)))) (some (.int fi)) (some (.int ma)) (some (.ref vp)) (some (.ref D)) c8 c9 none none none none none none none none) rfl ?_
        have nDf : D ∉ [f] := fun z => F5.ne hD (List.mem_singleton.mp z)
        have d6' : DpAll K (hid [f] H6) ys (ps.map prData) := DpAll.same hid_1 d6
        have hvp6 : hid [f] H6 vp = some (.lst xs) := hid_at (k6 _ _ nvf hvp) nvf
        have dvp6 : DpAll K (hid [f] H6) xs (ws.map Vw.data) := DpAll.same k6.same dvp
        have l6' : ps.length = 6 := l6
        -- the small layout
        refine ⟨_, rfl, _, rfl, _, rfl, _, rfl, f, vp, _, xs, ws, ma, 9, rfl, F6, by omega, hvp6, dvp6, wok, b0, b1, by decide, by decide, fun y ly H7 yv yl yok k7 hly F7 => ⟨_, rfl, f, ly, D, _, y, ys, ps, rfl, F7, by omega, hly, yok, by rw [yv]; exact wbd.wide, hid_at (k7 _ _ nDf hD6) nDf, DpAll.same k7.same d6', by omega, fun H8 k8 F8 => ⟨true, rfl, iteF ?_⟩⟩⟩
        -- times
        refine ⟨_, rfl, _, _, rfl, rfl, ⟨by decide, by decide, by decide⟩, f, _, _, rfl, F8, by omega, by show (0 : Int) < 10 ^ (8 : Int).toNat; rw [p8]; decide, by show (10 : Int) ^ (8 : Int).toNat < 1073741824; rw [p8]; decide, fun d H9 d0 d1 k9 F9 => ⟨_, _, rfl, rfl, ?_⟩⟩
        have d1 : d < 10 ^ (8 : Int).toNat := d1
        rw [p8] at d1
        obtain ⟨tm, etm⟩ : ∃ tm : Int, 1 + d = tm := ⟨_, rfl⟩
        refine gName_eq (σ' := stL a (some (.int (0 + (i : Nat)))) (some (.ref f)) (some (.int (0 + (j : Nat)))) (some (.int fi)) (some (.int ma)) (some (.ref vp)) (some (.ref D)) (some (.int tm)) c9 none none none none none none none none) (by rw [← etm]; rfl) ?_
        have t1 : 1 ≤ tm := by omega
        have t2 : tm ≤ 100000000 := by omega
        have k69 : Keep [f] H6 H9 := (k7.trans k8).trans k9
        have hvp9 : H9 vp = some (.lst xs) := k69 _ _ nvf (hid_same _ _ hvp6)
        have dvp9 : DpAll K H9 xs (ws.map Vw.data) := DpAll.same (k69.same.trans hid_same) dvp6
        have dp9 : DpAll K H9 ys (ps.map prData) := DpAll.same (k69.same.trans hid_same) d6'
        have hD9 := k69 _ _ nDf hD6
        have wl12 := wok.1
        -- great
        refine ⟨_, rfl, vp, rfl, ⟨_, .of hvp9⟩, fun D2 hD2 => lc_it (walk_list (K := K) (a := vp) (xs := xs)) (fun i H' => ∃ zs : List V, Same H9 H' ∧ H' D2 = some (.lst zs) ∧ zs.length = i ∧ DpAll K (hid [f, D2] H') zs (((ws.take i).map (·.times tm)).map Vw.data)) ⟨[], Same.new hD2, upd_same, rfl, .nil⟩ (fun _ _ _ p => ?_) ?_ ?_⟩
        · obtain ⟨_, s, _⟩ := p
          exact .of (s _ _ hvp9)
        · rintro i' v Ha Hb hi' ⟨zs, sa, hDa, la, da⟩ ⟨rfl, ev'⟩
          obtain ⟨d', ed, hu⟩ := dp_get dvp9 ev'
          rw [List.getElem?_map] at ed
          cases er : ws[i']? with
          | none =>
            rw [er] at ed
            cases ed
          | some vw =>
          rw [er] at ed
          cases ed
          obtain ⟨au, rfl, tu⟩ := dp_tints (hu.same sa)
          have ilt := (List.getElem?_eq_some_iff.mp er).1
          refine g_tup5w (σ' := stL a (some (.int (0 + (i : Nat)))) (some (.ref f)) (some (.int (0 + (j : Nat)))) (some (.int fi)) (some (.int ma)) (some (.ref vp)) (some (.ref D)) (some (.int tm)) c9 none (some (.int vw.p)) (some (.int vw.l)) (some (.int vw.t)) (some (.int vw.r)) (some (.int vw.b)) none none) tu (by decide) (by decide) (by decide) (by decide) (by decide) rfl ?_
          refine ⟨_, rfl, _, rfl, _, rfl, _, _, rfl, rfl, .inr ⟨by omega, by omega⟩, _, rfl, _, rfl, _, _, rfl, rfl, .inr ⟨by omega, by omega⟩, _, rfl, _, rfl, _, _, rfl, rfl, .inr ⟨by omega, by omega⟩, _, rfl, _, rfl, _, _, rfl, rfl, .inr ⟨by omega, by omega⟩, (show 5 ≤ sizeLine by decide), fun t nt => ?_⟩
          have nF9 : t ≠ f := (F9.same sa).ne nt
          have Dt : D2 ≠ t := ne_of_none hDa nt
          refine ⟨zs, Same.new nt _ _ hDa, small1000 (by omega), zs ++ [.ref t], fun b o e => ?_, upd_same, ?_, ?_⟩
          · rw [upd_ne (ne_of_none e hD2)]
            exact Same.new nt _ _ (sa _ _ e)
          · rw [List.length_append, la]
            all_goals rfl
          · rw [take_snoc er, List.map_append, List.map_append]
            refine dp_append (DpAll.same ((Keep.of (Same.new nt)).trans (Keep.set (by simp))).same da) (.cons (.tup (.of ?_) (ints_dp (ns := [vw.p, vw.l * tm, vw.t * tm, vw.r * tm, vw.b * tm]))) .nil)
            rw [hid_out (in2 nF9 Dt.symm), upd_ne Dt.symm]
            exact upd_same
        rintro Ha ⟨zs, sa, hDa, la, da⟩
        have xl : xs.length = ws.length := by rw [dp_len dvp, List.length_map]
        rw [xl, List.take_length] at da
        refine gName_eq (σ' := stL a (some (.int (0 + (i : Nat)))) (some (.ref f)) (some (.int (0 + (j : Nat)))) (some (.int fi)) (some (.int ma)) (some (.ref vp)) (some (.ref D)) (some (.int tm)) (some (.ref D2)) none none none none none none none none) rfl ?_
        have nD2 : D2 ∉ [f] := fun z => F9.ne hD2 (List.mem_singleton.mp z)
        have da' : DpAll K (hid [f] Ha) zs ((ws.map (·.times tm)).map Vw.data) := DpAll.same hid_1 da
        have Fa := F9.same sa
        have hDb := sa _ _ hD9
        have dpb : DpAll K Ha ys (ps.map prData) := DpAll.same sa dp9
        have yl6 := dp_len d6
        rw [List.length_map] at yl6
        -- the places
        refine ⟨_, rfl, D, rfl, ⟨_, .of hDb⟩, fun D3 hD3 => lc_it (walk_list (K := K) (a := D) (xs := ys)) (fun i H' => ∃ (qs : List Pr) (us : List V), Keep [f] Ha H' ∧ H' D3 = some (.lst us) ∧ DpAll K (hid [f, D3] H') us (qs.map prData) ∧ qs.length = i ∧ FAt H' f (5000 * j + 2520 + i))
          ⟨[], [], Keep.new hD3, upd_same, .nil, rfl, (Fa.same (Same.new hD3)).mono (by omega)⟩ (fun _ _ _ p => ?_) ?_ ?_⟩
        · obtain ⟨_, _, k, _⟩ := p
          exact .of (k _ _ nDf hDb)
        · rintro i' v Hb Hc hi' ⟨qs, us, kb, hDc, dc, lc, Fb⟩ ⟨rfl, ev'⟩
          have nD3 : D3 ∉ [f] := fun z => Fa.ne hD3 (List.mem_singleton.mp z)
          obtain ⟨d', ed, hu⟩ := dp_get d6' ev'
          rw [List.getElem?_map] at ed
          cases er : ps[i']? with
          | none =>
            rw [er] at ed
            cases ed
          | some p =>
          rw [er] at ed
          cases ed
          obtain ⟨au, rfl, tu⟩ := dp_tints (hu.same (((k69.trans (Keep.of sa)).trans kb).same.trans hid_same))
          refine g_tup2w (σ' := stL a (some (.int (0 + (i : Nat)))) (some (.ref f)) (some (.int (0 + (j : Nat)))) (some (.int fi)) (some (.int ma)) (some (.ref vp)) (some (.ref D)) (some (.int tm)) (some (.ref D2)) none none none none none none (some (.int p.1)) (some (.int p.2))) tu (by decide) (by decide) rfl ?_
          refine ⟨_, rfl, _, rfl, _, _, rfl, rfl, .inr ⟨by omega, by omega⟩, _, rfl, _, rfl, _, _, rfl, rfl, .inr ⟨by omega, by omega⟩, _, rfl, _, rfl, f, _, _, rfl, Fb, by omega, by omega, by omega, fun e He y0 y1 ke Fe => ⟨_, _, rfl, rfl, (show 2 ≤ sizeLine by decide), fun t nt => ?_⟩⟩
          have hDe := ke _ _ nD3 hDc
          have Dt : D3 ≠ t := ne_of_none hDe nt
          have tf := Fe.ne nt
          have ul := dp_len dc
          rw [List.length_map] at ul
          refine ⟨us, Same.new nt _ _ hDe, small1000 (by omega), qs ++ [(p.1 * tm, p.2 * tm + e)], us ++ [.ref t], keep_set ((kb.trans ke).trans (Keep.of (Same.new nt))) hD3, upd_same, ?_, ?_, ((Fe.same (Same.new nt)).upd (fun z => nD3 (List.mem_singleton.mpr z))).mono (by omega)⟩
          · rw [List.map_append]
            refine dp_append (DpAll.same (((keepL ke).trans (Keep.of (Same.new nt))).trans (Keep.set (by simp))).same dc) (.cons (.tup (.of ?_) (ints_dp (ns := [p.1 * tm, p.2 * tm + e]))) .nil)
            rw [hid_out (in2 tf Dt.symm), upd_ne Dt.symm]
            exact upd_same
          · rw [List.length_append, lc]
            all_goals rfl
        rintro Hb ⟨qs, us, kb, hDc, dc, lc, Fb⟩
        refine gName_eq (σ' := stL a (some (.int (0 + (i : Nat)))) (some (.ref f)) (some (.int (0 + (j : Nat)))) (some (.int fi)) (some (.int ma)) (some (.ref vp)) (some (.ref D3)) (some (.int tm)) (some (.ref D2)) none none none none none none none none) rfl ?_
        have nD3 : D3 ∉ [f] := fun z => Fa.ne hD3 (List.mem_singleton.mp z)
        have dc' : DpAll K (hid [f] Hb) us (qs.map prData) := DpAll.same hid_1 dc
        have wlt : (ws.map (·.times tm)).length = ws.length := List.length_map _
        -- the great layout
        refine ⟨_, rfl, _, rfl, _, rfl, _, rfl, _, _, rfl, rfl, ⟨by decide, by decide, by decide⟩, f, D2, _, zs, ws.map (·.times tm), ma, _, rfl, Fb, by omega, hid_at (kb _ _ nD2 hDa) nD2, DpAll.same kb.same da', ok_times wok t1, b0, b1, by show (1 : Int) ≤ 10 ^ (9 : Int).toNat; rw [p9]; decide, by show (10 : Int) ^ (9 : Int).toNat ≤ 1000000000; rw [p9]; decide, fun y ly Hc yv yl yok kc hly Fc =>
          ⟨_, rfl, f, ly, D3, _, y, us, qs, rfl, Fc, by omega, hly, yok, by rw [yv]; exact bd_times wbd t1 t2, hid_at (kc _ _ nD3 hDc) nD3, DpAll.same kc.same dc', by omega, fun Hd kd Fd => ⟨true, rfl, iteF ?_⟩⟩⟩
        exact ⟨_, _, _, _, _, _, _, rfl, (((((k35.trans k6).trans k69).trans (Keep.of sa)).trans kb).trans kc).trans kd, Fd.mono (by omega)⟩
      · rintro σ H4 ⟨c3, c4, c5, c6, c7, c8, c9, rfl, k4, F4⟩
        exact ⟨_, _, _, _, _, _, _, _, _, rfl, keep_new_same s12 nfH k4⟩
    · rintro σ H1 ⟨c1, c2, c3, c4, c5, c6, c7, c8, c9, rfl, s1⟩
      refine ⟨Nat.zero_le _, fun p1 n1 => ⟨Nat.zero_le _, fun p2 n2 => ⟨Nat.zero_le _, fun p3 n3 => ⟨Nat.zero_le _, fun p4 n4 => ⟨(show 4 ≤ sizeLine by decide), fun t nt => ⟨(show 2 ≤ sizeLine by decide), fun pl npl => ?_⟩⟩⟩⟩⟩⟩
      have gt : (upd (upd (upd (upd (upd (upd H1 p1 (.lst [])) p2 (.lst [])) p3 (.lst [])) p4 (.lst [])) t (.tup [.ref p1, .ref p2, .ref p3, .ref p4])) pl (.tup [.int 0, .int 0])) t = some (.tup [.ref p1, .ref p2, .ref p3, .ref p4]) := Same.new npl _ _ upd_same
      have g1 : (upd (upd (upd (upd (upd (upd H1 p1 (.lst [])) p2 (.lst [])) p3 (.lst [])) p4 (.lst [])) t (.tup [.ref p1, .ref p2, .ref p3, .ref p4])) pl (.tup [.int 0, .int 0])) p1 = some (.lst []) := Same.new npl _ _ (Same.new nt _ _ (Same.new n4 _ _ (Same.new n3 _ _ (Same.new n2 _ _ upd_same))))
      have g2 : (upd (upd (upd (upd (upd (upd H1 p1 (.lst [])) p2 (.lst [])) p3 (.lst [])) p4 (.lst [])) t (.tup [.ref p1, .ref p2, .ref p3, .ref p4])) pl (.tup [.int 0, .int 0])) p2 = some (.lst []) := Same.new npl _ _ (Same.new nt _ _ (Same.new n4 _ _ (Same.new n3 _ _ upd_same)))
      have g3 : (upd (upd (upd (upd (upd (upd H1 p1 (.lst [])) p2 (.lst [])) p3 (.lst [])) p4 (.lst [])) t (.tup [.ref p1, .ref p2, .ref p3, .ref p4])) pl (.tup [.int 0, .int 0])) p3 = some (.lst []) := Same.new npl _ _ (Same.new nt _ _ (Same.new n4 _ _ upd_same))
      have g4 : (upd (upd (upd (upd (upd (upd H1 p1 (.lst [])) p2 (.lst [])) p3 (.lst [])) p4 (.lst [])) t (.tup [.ref p1, .ref p2, .ref p3, .ref p4])) pl (.tup [.int 0, .int 0])) p4 = some (.lst []) := Same.new npl _ _ (Same.new nt _ _ upd_same)
      have gp : (upd (upd (upd (upd (upd (upd H1 p1 (.lst [])) p2 (.lst [])) p3 (.lst [])) p4 (.lst [])) t (.tup [.ref p1, .ref p2, .ref p3, .ref p4])) pl (.tup [.int 0, .int 0])) pl = some (.tup [.int 0, .int 0]) := upd_same
      refine ⟨.ref t, ⟨[], [], [], []⟩, pl, 0, 0, rfl, .tup (.of gt) (.cons (.lst (.of g1) .nil) (.cons (.lst (.of g2) .nil) (.cons (.lst (.of g3) .nil) (.cons (.lst (.of g4) .nil) .nil)))), ?_, .of gp, fun H2 r s2 nr hr2 => ?_⟩
      · refine ⟨⟨Nat.zero_le _, fun i v e => ?_⟩, ⟨Nat.zero_le _, List.nodup_nil, fun r hr => absurd hr List.not_mem_nil⟩, ⟨Nat.zero_le _, PsOk.nil⟩, Nat.zero_le _, PsOk.nil⟩
        simp at e
      · have hr3 : H2 r = some (.lst []) := hr2
        exact ⟨Nat.zero_le _, fun e ne => eq_same (n := 1) (m := 0) (d := .list []) (.lst (.of (Same.new ne _ _ hr3)) .nil) (.lst (.of upd_same) .nil) (nice_ints (ns := []) (L := 0) (fun n hn => absurd hn List.not_mem_nil) (Nat.le_refl _)) (by decide) (q _)⟩
end
end TC

/-! What the top has written, and the law's own head. -/
namespace TC
open PySem PySem.Spec PySem.Calls PyProof.Rows L2
theorem df_mk {K : PySem.W.Frag} {h : Heap} {mg : Str → Option Value} {x : Str} {st : Stmt} {ps : List Str} {f : Addr} {fd : FuncData} (X : K.In h) (G : h.Ns mainGlobals mg) (a : PySem.W.nsIn K mainGlobals x = some (some (.ref f))) (F : Fun K x x st f fd) (b : Binds K fd ps []) : Df K mg x st ps := ⟨f, fd, F, PySem.W.mg_of X G a, b⟩
theorem all_mk {l : PySem.W.OpenLaw} {w : World} {K : PySem.W.Frag} {h : Heap} {mg : Str → Option Value} {fa : Addr} (X : K.In h) (G : h.Ns mainGlobals mg) (hfa : mg "law" = some (.ref fa))
    {f0 f1 f2 f3 f4 f5 f6 f7 f8 f9 f10 f11 f12 f13 f14 f15 f16 f17 f18 f19 f20 f21 f22 f23 f24 f25 f26 f27 f28 f29 f30 : Addr} {od0 an0 od1 an1 od2 an2 od3 an3 od4 an4 od5 an5 od6 an6 od7 an7 od8 an8 od9 an9 od10 an10 od11 an11 od12 an12 od13 an13 od14 an14 od15 an15 od16 an16 od17 an17 od18 an18 od19 an19 od20 an20 od21 an21 od22 an22 od23 an23 od24 an24 od25 an25 od26 an26 od27 an27 od28 an28 od29 an29 od30 an30 : Option Addr} {sl0 sl1 sl2 sl3 sl4 sl5 sl6 sl7 sl8 sl9 sl10 sl11 sl12 sl13 sl14 sl15 sl16 sl17 sl18 sl19 sl20 sl21 sl22 sl23 sl24 sl25 sl26 sl27 sl28 sl29 sl30 : Array (Option Value)} {oc0 kV0 dc0 pm0 cd0 ct0 oc1 kV1 dc1 pm1 cd1 ct1 oc2 kV2 dc2 pm2 cd2 ct2 oc3 kV3 dc3 pm3 cd3 ct3 oc4 kV4 dc4 pm4 cd4 ct4 oc5 kV5 dc5 pm5 cd5 ct5 oc6 kV6 dc6 pm6 cd6 ct6 oc7 kV7 dc7 pm7 cd7 ct7 oc8 kV8 dc8 pm8 cd8 ct8 oc9 kV9 dc9 pm9 cd9 ct9 oc10 kV10 dc10 pm10 cd10 ct10 oc11 kV11 dc11 pm11 cd11 ct11 oc12 kV12 dc12 pm12 cd12 ct12 oc13 kV13 dc13 pm13 cd13 ct13 oc14 kV14 dc14 pm14 cd14 ct14 oc15 kV15 dc15 pm15 cd15 ct15 oc16 kV16 dc16 pm16 cd16 ct16 oc17 kV17 dc17 pm17 cd17 ct17 oc18 kV18 dc18 pm18 cd18 ct18 oc19 kV19 dc19 pm19 cd19 ct19 oc20 kV20 dc20 pm20 cd20 ct20 oc21 kV21 dc21 pm21 cd21 ct21 oc22 kV22 dc22 pm22 cd22 ct22 oc23 kV23 dc23 pm23 cd23 ct23 oc24 kV24 dc24 pm24 cd24 ct24 oc25 kV25 dc25 pm25 cd25 ct25 oc26 kV26 dc26 pm26 cd26 ct26 oc27 kV27 dc27 pm27 cd27 ct27 oc28 kV28 dc28 pm28 cd28 ct28 oc29 kV29 dc29 pm29 cd29 ct29 oc30 kV30 dc30 pm30 cd30 ct30 : Value}
    {t0 t1 t2 t3 t4 t5 t6 t7 t8 t9 t10 t11 : PySem.Tok} {aA dS : Addr} {odA : Option Addr} {slA : Array (Option Value)} {itsA : Array Value} {nA nS : Nat} {es : Array DictEntry}
    (a0 : PySem.W.nsIn K mainGlobals "is_integer" = some (some (.ref f0))) (l0 : K.lookup f0 = some ⟨oc0, od0, .func (PySem.W.fnOf "is_integer" "is_integer" (defArgs s_is_integer) (defBody s_is_integer) (defScope s_is_integer) .none kV0 dc0 pm0 an0 cd0 ct0), sl0⟩) (c0 : PySem.W.codeIn K cd0 "is_integer" = true) (k0 : PySem.W.keepIn K (.ref f0) = true)
    (a1 : PySem.W.nsIn K mainGlobals "is_name" = some (some (.ref f1))) (l1 : K.lookup f1 = some ⟨oc1, od1, .func (PySem.W.fnOf "is_name" "is_name" (defArgs s_is_name) (defBody s_is_name) (defScope s_is_name) .none kV1 dc1 pm1 an1 cd1 ct1), sl1⟩) (c1 : PySem.W.codeIn K cd1 "is_name" = true) (k1 : PySem.W.keepIn K (.ref f1) = true)
    (a2 : PySem.W.nsIn K mainGlobals "is_place" = some (some (.ref f2))) (l2 : K.lookup f2 = some ⟨oc2, od2, .func (PySem.W.fnOf "is_place" "is_place" (defArgs s_is_place) (defBody s_is_place) (defScope s_is_place) .none kV2 dc2 pm2 an2 cd2 ct2), sl2⟩) (c2 : PySem.W.codeIn K cd2 "is_place" = true) (k2 : PySem.W.keepIn K (.ref f2) = true)
    (a3 : PySem.W.nsIn K mainGlobals "is_kind" = some (some (.ref f3))) (l3 : K.lookup f3 = some ⟨oc3, od3, .func (PySem.W.fnOf "is_kind" "is_kind" (defArgs s_is_kind) (defBody s_is_kind) (defScope s_is_kind) .none kV3 dc3 pm3 an3 cd3 ct3), sl3⟩) (c3 : PySem.W.codeIn K cd3 "is_kind" = true) (k3 : PySem.W.keepIn K (.ref f3) = true)
    (a4 : PySem.W.nsIn K mainGlobals "is_list" = some (some (.ref f4))) (l4 : K.lookup f4 = some ⟨oc4, od4, .func (PySem.W.fnOf "is_list" "is_list" (defArgs s_is_list) (defBody s_is_list) (defScope s_is_list) .none kV4 dc4 pm4 an4 cd4 ct4), sl4⟩) (c4 : PySem.W.codeIn K cd4 "is_list" = true) (k4 : PySem.W.keepIn K (.ref f4) = true)
    (a5 : PySem.W.nsIn K mainGlobals "is_view" = some (some (.ref f5))) (l5 : K.lookup f5 = some ⟨oc5, od5, .func (PySem.W.fnOf "is_view" "is_view" (defArgs s_is_view) (defBody s_is_view) (defScope s_is_view) .none kV5 dc5 pm5 an5 cd5 ct5), sl5⟩) (c5 : PySem.W.codeIn K cd5 "is_view" = true) (k5 : PySem.W.keepIn K (.ref f5) = true)
    (a6 : PySem.W.nsIn K mainGlobals "wrong_view" = some (some (.ref f6))) (l6 : K.lookup f6 = some ⟨oc6, od6, .func (PySem.W.fnOf "wrong_view" "wrong_view" (defArgs s_wrong_view) (defBody s_wrong_view) (defScope s_wrong_view) .none kV6 dc6 pm6 an6 cd6 ct6), sl6⟩) (c6 : PySem.W.codeIn K cd6 "wrong_view" = true) (k6 : PySem.W.keepIn K (.ref f6) = true)
    (a7 : PySem.W.nsIn K mainGlobals "wrong_recognizer" = some (some (.ref f7))) (l7 : K.lookup f7 = some ⟨oc7, od7, .func (PySem.W.fnOf "wrong_recognizer" "wrong_recognizer" (defArgs s_wrong_recognizer) (defBody s_wrong_recognizer) (defScope s_wrong_recognizer) .none kV7 dc7 pm7 an7 cd7 ct7), sl7⟩) (c7 : PySem.W.codeIn K cd7 "wrong_recognizer" = true) (k7 : PySem.W.keepIn K (.ref f7) = true)
    (a8 : PySem.W.nsIn K mainGlobals "is_pair" = some (some (.ref f8))) (l8 : K.lookup f8 = some ⟨oc8, od8, .func (PySem.W.fnOf "is_pair" "is_pair" (defArgs s_is_pair) (defBody s_is_pair) (defScope s_is_pair) .none kV8 dc8 pm8 an8 cd8 ct8), sl8⟩) (c8 : PySem.W.codeIn K cd8 "is_pair" = true) (k8 : PySem.W.keepIn K (.ref f8) = true)
    (a9 : PySem.W.nsIn K mainGlobals "wrong_pair" = some (some (.ref f9))) (l9 : K.lookup f9 = some ⟨oc9, od9, .func (PySem.W.fnOf "wrong_pair" "wrong_pair" (defArgs s_wrong_pair) (defBody s_wrong_pair) (defScope s_wrong_pair) .none kV9 dc9 pm9 an9 cd9 ct9), sl9⟩) (c9 : PySem.W.codeIn K cd9 "wrong_pair" = true) (k9 : PySem.W.keepIn K (.ref f9) = true)
    (a10 : PySem.W.nsIn K mainGlobals "first_fault" = some (some (.ref f10))) (l10 : K.lookup f10 = some ⟨oc10, od10, .func (PySem.W.fnOf "first_fault" "first_fault" (defArgs s_first_fault) (defBody s_first_fault) (defScope s_first_fault) .none kV10 dc10 pm10 an10 cd10 ct10), sl10⟩) (c10 : PySem.W.codeIn K cd10 "first_fault" = true) (k10 : PySem.W.keepIn K (.ref f10) = true)
    (a11 : PySem.W.nsIn K mainGlobals "require_views" = some (some (.ref f11))) (l11 : K.lookup f11 = some ⟨oc11, od11, .func (PySem.W.fnOf "require_views" "require_views" (defArgs s_require_views) (defBody s_require_views) (defScope s_require_views) .none kV11 dc11 pm11 an11 cd11 ct11), sl11⟩) (c11 : PySem.W.codeIn K cd11 "require_views" = true) (k11 : PySem.W.keepIn K (.ref f11) = true)
    (a12 : PySem.W.nsIn K mainGlobals "require_layout" = some (some (.ref f12))) (l12 : K.lookup f12 = some ⟨oc12, od12, .func (PySem.W.fnOf "require_layout" "require_layout" (defArgs s_require_layout) (defBody s_require_layout) (defScope s_require_layout) .none kV12 dc12 pm12 an12 cd12 ct12), sl12⟩) (c12 : PySem.W.codeIn K cd12 "require_layout" = true) (k12 : PySem.W.keepIn K (.ref f12) = true)
    (a13 : PySem.W.nsIn K mainGlobals "require_place" = some (some (.ref f13))) (l13 : K.lookup f13 = some ⟨oc13, od13, .func (PySem.W.fnOf "require_place" "require_place" (defArgs s_require_place) (defBody s_require_place) (defScope s_require_place) .none kV13 dc13 pm13 an13 cd13 ct13), sl13⟩) (c13 : PySem.W.codeIn K cd13 "require_place" = true) (k13 : PySem.W.keepIn K (.ref f13) = true)
    (a14 : PySem.W.nsIn K mainGlobals "has" = some (some (.ref f14))) (l14 : K.lookup f14 = some ⟨oc14, od14, .func (PySem.W.fnOf "has" "has" (defArgs s_has) (defBody s_has) (defScope s_has) .none kV14 dc14 pm14 an14 cd14 ct14), sl14⟩) (c14 : PySem.W.codeIn K cd14 "has" = true) (k14 : PySem.W.keepIn K (.ref f14) = true)
    (a15 : PySem.W.nsIn K mainGlobals "path_of" = some (some (.ref f15))) (l15 : K.lookup f15 = some ⟨oc15, od15, .func (PySem.W.fnOf "path_of" "path_of" (defArgs s_path_of) (defBody s_path_of) (defScope s_path_of) .none kV15 dc15 pm15 an15 cd15 ct15), sl15⟩) (c15 : PySem.W.codeIn K cd15 "path_of" = true) (k15 : PySem.W.keepIn K (.ref f15) = true)
    (a16 : PySem.W.nsIn K mainGlobals "path" = some (some (.ref f16))) (l16 : K.lookup f16 = some ⟨oc16, od16, .func (PySem.W.fnOf "path" "path" (defArgs s_path) (defBody s_path) (defScope s_path) .none kV16 dc16 pm16 an16 cd16 ct16), sl16⟩) (c16 : PySem.W.codeIn K cd16 "path" = true) (k16 : PySem.W.keepIn K (.ref f16) = true)
    (a17 : PySem.W.nsIn K mainGlobals "members_of" = some (some (.ref f17))) (l17 : K.lookup f17 = some ⟨oc17, od17, .func (PySem.W.fnOf "members_of" "members_of" (defArgs s_members_of) (defBody s_members_of) (defScope s_members_of) .none kV17 dc17 pm17 an17 cd17 ct17), sl17⟩) (c17 : PySem.W.codeIn K cd17 "members_of" = true) (k17 : PySem.W.keepIn K (.ref f17) = true)
    (a18 : PySem.W.nsIn K mainGlobals "members" = some (some (.ref f18))) (l18 : K.lookup f18 = some ⟨oc18, od18, .func (PySem.W.fnOf "members" "members" (defArgs s_members) (defBody s_members) (defScope s_members) .none kV18 dc18 pm18 an18 cd18 ct18), sl18⟩) (c18 : PySem.W.codeIn K cd18 "members" = true) (k18 : PySem.W.keepIn K (.ref f18) = true)
    (a19 : PySem.W.nsIn K mainGlobals "_law_fount" = some (some (.ref f19))) (l19 : K.lookup f19 = some ⟨oc19, od19, .func (PySem.W.fnOf "_law_fount" "_law_fount" (defArgs s_law_fount) (defBody s_law_fount) (defScope s_law_fount) .none kV19 dc19 pm19 an19 cd19 ct19), sl19⟩) (c19 : PySem.W.codeIn K cd19 "_law_fount" = true) (k19 : PySem.W.keepIn K (.ref f19) = true)
    (a20 : PySem.W.nsIn K mainGlobals "_law_dip" = some (some (.ref f20))) (l20 : K.lookup f20 = some ⟨oc20, od20, .func (PySem.W.fnOf "_law_dip" "_law_dip" (defArgs s_law_dip) (defBody s_law_dip) (defScope s_law_dip) .none kV20 dc20 pm20 an20 cd20 ct20), sl20⟩) (c20 : PySem.W.codeIn K cd20 "_law_dip" = true) (k20 : PySem.W.keepIn K (.ref f20) = true)
    (a21 : PySem.W.nsIn K mainGlobals "_law_small" = some (some (.ref f21))) (l21 : K.lookup f21 = some ⟨oc21, od21, .func (PySem.W.fnOf "_law_small" "_law_small" (defArgs s_law_small) (defBody s_law_small) (defScope s_law_small) .none kV21 dc21 pm21 an21 cd21 ct21), sl21⟩) (c21 : PySem.W.codeIn K cd21 "_law_small" = true) (k21 : PySem.W.keepIn K (.ref f21) = true)
    (a22 : PySem.W.nsIn K mainGlobals "_law_kind" = some (some (.ref f22))) (l22 : K.lookup f22 = some ⟨oc22, od22, .func (PySem.W.fnOf "_law_kind" "_law_kind" (defArgs s_law_kind) (defBody s_law_kind) (defScope s_law_kind) .none kV22 dc22 pm22 an22 cd22 ct22), sl22⟩) (c22 : PySem.W.codeIn K cd22 "_law_kind" = true) (k22 : PySem.W.keepIn K (.ref f22) = true)
    (a23 : PySem.W.nsIn K mainGlobals "_law_pairs" = some (some (.ref f23))) (l23 : K.lookup f23 = some ⟨oc23, od23, .func (PySem.W.fnOf "_law_pairs" "_law_pairs" (defArgs s_law_pairs) (defBody s_law_pairs) (defScope s_law_pairs) .none kV23 dc23 pm23 an23 cd23 ct23), sl23⟩) (c23 : PySem.W.codeIn K cd23 "_law_pairs" = true) (k23 : PySem.W.keepIn K (.ref f23) = true)
    (a24 : PySem.W.nsIn K mainGlobals "_law_names_of" = some (some (.ref f24))) (l24 : K.lookup f24 = some ⟨oc24, od24, .func (PySem.W.fnOf "_law_names_of" "_law_names_of" (defArgs s_law_names_of) (defBody s_law_names_of) (defScope s_law_names_of) .none kV24 dc24 pm24 an24 cd24 ct24), sl24⟩) (c24 : PySem.W.codeIn K cd24 "_law_names_of" = true) (k24 : PySem.W.keepIn K (.ref f24) = true)
    (a25 : PySem.W.nsIn K mainGlobals "_law_layout" = some (some (.ref f25))) (l25 : K.lookup f25 = some ⟨oc25, od25, .func (PySem.W.fnOf "_law_layout" "_law_layout" (defArgs s_law_layout) (defBody s_law_layout) (defScope s_law_layout) .none kV25 dc25 pm25 an25 cd25 ct25), sl25⟩) (c25 : PySem.W.codeIn K cd25 "_law_layout" = true) (k25 : PySem.W.keepIn K (.ref f25) = true)
    (a26 : PySem.W.nsIn K mainGlobals "_law_has" = some (some (.ref f26))) (l26 : K.lookup f26 = some ⟨oc26, od26, .func (PySem.W.fnOf "_law_has" "_law_has" (defArgs s_law_has) (defBody s_law_has) (defScope s_law_has) .none kV26 dc26 pm26 an26 cd26 ct26), sl26⟩) (c26 : PySem.W.codeIn K cd26 "_law_has" = true) (k26 : PySem.W.keepIn K (.ref f26) = true)
    (a27 : PySem.W.nsIn K mainGlobals "_law_path" = some (some (.ref f27))) (l27 : K.lookup f27 = some ⟨oc27, od27, .func (PySem.W.fnOf "_law_path" "_law_path" (defArgs s_law_path) (defBody s_law_path) (defScope s_law_path) .none kV27 dc27 pm27 an27 cd27 ct27), sl27⟩) (c27 : PySem.W.codeIn K cd27 "_law_path" = true) (k27 : PySem.W.keepIn K (.ref f27) = true)
    (a28 : PySem.W.nsIn K mainGlobals "_law_others_right" = some (some (.ref f28))) (l28 : K.lookup f28 = some ⟨oc28, od28, .func (PySem.W.fnOf "_law_others_right" "_law_others_right" (defArgs s_law_others_right) (defBody s_law_others_right) (defScope s_law_others_right) .none kV28 dc28 pm28 an28 cd28 ct28), sl28⟩) (c28 : PySem.W.codeIn K cd28 "_law_others_right" = true) (k28 : PySem.W.keepIn K (.ref f28) = true)
    (a29 : PySem.W.nsIn K mainGlobals "_law_right" = some (some (.ref f29))) (l29 : K.lookup f29 = some ⟨oc29, od29, .func (PySem.W.fnOf "_law_right" "_law_right" (defArgs s_law_right) (defBody s_law_right) (defScope s_law_right) .none kV29 dc29 pm29 an29 cd29 ct29), sl29⟩) (c29 : PySem.W.codeIn K cd29 "_law_right" = true) (k29 : PySem.W.keepIn K (.ref f29) = true)
    (a30 : PySem.W.nsIn K mainGlobals "law" = some (some (.ref f30))) (l30 : K.lookup f30 = some ⟨oc30, od30, .func (PySem.W.fnOf "law" "law" (defArgs s_law) (defBody s_law) (defScope s_law) .none kV30 dc30 pm30 an30 cd30 ct30), sl30⟩) (c30 : PySem.W.codeIn K cd30 "law" = true) (k30 : PySem.W.keepIn K (.ref f30) = true)
    (z_isinstance : PySem.W.nsIn K mainGlobals "isinstance" = some none)
    (z_int : PySem.W.nsIn K mainGlobals "int" = some none)
    (z_bool : PySem.W.nsIn K mainGlobals "bool" = some none)
    (z_str : PySem.W.nsIn K mainGlobals "str" = some none)
    (z_tuple : PySem.W.nsIn K mainGlobals "tuple" = some none)
    (z_list : PySem.W.nsIn K mainGlobals "list" = some none)
    (z_len : PySem.W.nsIn K mainGlobals "len" = some none)
    (z_all : PySem.W.nsIn K mainGlobals "all" = some none)
    (z_enumerate : PySem.W.nsIn K mainGlobals "enumerate" = some none)
    (z_range : PySem.W.nsIn K mainGlobals "range" = some none)
    (z_max : PySem.W.nsIn K mainGlobals "max" = some none)
    (z_min : PySem.W.nsIn K mainGlobals "min" = some none)
    (z_repr : PySem.W.nsIn K mainGlobals "repr" = some none)
    (y0 : PySem.W.nsIn K mainGlobals "SIGNS" = some (some (.str signs t0)))
    (y1 : PySem.W.nsIn K mainGlobals "GREATEST" = some (some (.int 1000000000 t1)))
    (y2 : PySem.W.nsIn K mainGlobals "MOST_VIEWS" = some (some (.int 12 t2)))
    (y3 : PySem.W.nsIn K mainGlobals "MOST_RECOGNIZERS" = some (some (.int 8 t3)))
    (y4 : PySem.W.nsIn K mainGlobals "MOST_WAITS" = some (some (.int 12 t4)))
    (y5 : PySem.W.nsIn K mainGlobals "MOST_BESIDE" = some (some (.int 28 t5)))
    (ax : PySem.W.nsIn K mainGlobals "AXES" = some (some (.ref aA))) (axl : K.lookup aA = some ⟨.type "tuple", odA, .seq itsA nA, slA⟩) (axv : Vals [.str "x", .str "y", .str "any"] itsA.toList) (axz : itsA.size ≤ sizeLine)
    (sz : PySem.W.nsIn K mainGlobals "SIZES" = some (some (.ref dS))) (szl : K.lookup dS = some ⟨.type "dict", none, .dict es nS, #[]⟩) (szk : PySem.W.KeysLit w.params es.toList) (szw : (dS == sysModules) = false)
    (w0 : PySem.W.nsIn K dS "touch" = some (some (.int 0 t6)))
    (w1 : PySem.W.nsIn K dS "tap" = some (some (.int 2 t7)))
    (w2 : PySem.W.nsIn K dS "taps" = some (some (.int 4 t8)))
    (w3 : PySem.W.nsIn K dS "long" = some (some (.int 2 t9)))
    (w4 : PySem.W.nsIn K dS "drag" = some (some (.int 2 t10)))
    (w5 : PySem.W.nsIn K dS "pinch" = some (some (.int 1 t11))) :
    ∃ fd : FuncData, (∀ (s : Shared) (v : Value), BindsTo s fd ⟨[v], []⟩ [("_law_script", v)]) ∧ ∀ base : Heap, K.In base → base.Ns mainGlobals mg → FnG l.prog w K mg base 9 fa fd ["_law_script"] (spLaw K) := by
  have e := hfa.symm.trans (PySem.W.mg_of X G a30)
  cases e
  have F0 := fun_mk (st := s_is_integer) l0 c0 k0
  have D0 : Df K mg "is_integer" s_is_integer ["value", "first", "last"] := df_mk X G a0 F0 (F0.binds (ps := ["value", "first", "last"]) fun _ _ _ _ _ _ us hl => match us, hl with | [_, _, _], _ => rfl)
  have F1 := fun_mk (st := s_is_name) l1 c1 k1
  have D1 : Df K mg "is_name" s_is_name ["value"] := df_mk X G a1 F1 (F1.binds (ps := ["value"]) fun _ _ _ _ _ _ us hl => match us, hl with | [_], _ => rfl)
  have F2 := fun_mk (st := s_is_place) l2 c2 k2
  have D2 : Df K mg "is_place" s_is_place ["value"] := df_mk X G a2 F2 (F2.binds (ps := ["value"]) fun _ _ _ _ _ _ us hl => match us, hl with | [_], _ => rfl)
  have F3 := fun_mk (st := s_is_kind) l3 c3 k3
  have D3 : Df K mg "is_kind" s_is_kind ["value"] := df_mk X G a3 F3 (F3.binds (ps := ["value"]) fun _ _ _ _ _ _ us hl => match us, hl with | [_], _ => rfl)
  have F4 := fun_mk (st := s_is_list) l4 c4 k4
  have D4 : Df K mg "is_list" s_is_list ["value", "most"] := df_mk X G a4 F4 (F4.binds (ps := ["value", "most"]) fun _ _ _ _ _ _ us hl => match us, hl with | [_, _], _ => rfl)
  have F5 := fun_mk (st := s_is_view) l5 c5 k5
  have D5 : Df K mg "is_view" s_is_view ["value", "number"] := df_mk X G a5 F5 (F5.binds (ps := ["value", "number"]) fun _ _ _ _ _ _ us hl => match us, hl with | [_, _], _ => rfl)
  have F6 := fun_mk (st := s_wrong_view) l6 c6 k6
  have D6 : Df K mg "wrong_view" s_wrong_view ["views"] := df_mk X G a6 F6 (F6.binds (ps := ["views"]) fun _ _ _ _ _ _ us hl => match us, hl with | [_], _ => rfl)
  have F7 := fun_mk (st := s_wrong_recognizer) l7 c7 k7
  have D7 : Df K mg "wrong_recognizer" s_wrong_recognizer ["recognizers", "last"] := df_mk X G a7 F7 (F7.binds (ps := ["recognizers", "last"]) fun _ _ _ _ _ _ us hl => match us, hl with | [_, _], _ => rfl)
  have F8 := fun_mk (st := s_is_pair) l8 c8 k8
  have D8 : Df K mg "is_pair" s_is_pair ["value", "many", "rising"] := df_mk X G a8 F8 (F8.binds (ps := ["value", "many", "rising"]) fun _ _ _ _ _ _ us hl => match us, hl with | [_, _, _], _ => rfl)
  have F9 := fun_mk (st := s_wrong_pair) l9 c9 k9
  have D9 : Df K mg "wrong_pair" s_wrong_pair ["pairs", "many", "rising"] := df_mk X G a9 F9 (F9.binds (ps := ["pairs", "many", "rising"]) fun _ _ _ _ _ _ us hl => match us, hl with | [_, _, _], _ => rfl)
  have F10 := fun_mk (st := s_first_fault) l10 c10 k10
  have D10 : Df K mg "first_fault" s_first_fault ["layout"] := df_mk X G a10 F10 (F10.binds (ps := ["layout"]) fun _ _ _ _ _ _ us hl => match us, hl with | [_], _ => rfl)
  have F11 := fun_mk (st := s_require_views) l11 c11 k11
  have D11 : Df K mg "require_views" s_require_views ["views"] := df_mk X G a11 F11 (F11.binds (ps := ["views"]) fun _ _ _ _ _ _ us hl => match us, hl with | [_], _ => rfl)
  have F12 := fun_mk (st := s_require_layout) l12 c12 k12
  have D12 : Df K mg "require_layout" s_require_layout ["layout"] := df_mk X G a12 F12 (F12.binds (ps := ["layout"]) fun _ _ _ _ _ _ us hl => match us, hl with | [_], _ => rfl)
  have F13 := fun_mk (st := s_require_place) l13 c13 k13
  have D13 : Df K mg "require_place" s_require_place ["place"] := df_mk X G a13 F13 (F13.binds (ps := ["place"]) fun _ _ _ _ _ _ us hl => match us, hl with | [_], _ => rfl)
  have F14 := fun_mk (st := s_has) l14 c14 k14
  have D14 : Df K mg "has" s_has ["view", "place"] := df_mk X G a14 F14 (F14.binds (ps := ["view", "place"]) fun _ _ _ _ _ _ us hl => match us, hl with | [_, _], _ => rfl)
  have F15 := fun_mk (st := s_path_of) l15 c15 k15
  have D15 : Df K mg "path_of" s_path_of ["views", "place"] := df_mk X G a15 F15 (F15.binds (ps := ["views", "place"]) fun _ _ _ _ _ _ us hl => match us, hl with | [_, _], _ => rfl)
  have F16 := fun_mk (st := s_path) l16 c16 k16
  have D16 : Df K mg "path" s_path ["views", "place"] := df_mk X G a16 F16 (F16.binds (ps := ["views", "place"]) fun _ _ _ _ _ _ us hl => match us, hl with | [_, _], _ => rfl)
  have F17 := fun_mk (st := s_members_of) l17 c17 k17
  have D17 : Df K mg "members_of" s_members_of ["layout", "place"] := df_mk X G a17 F17 (F17.binds (ps := ["layout", "place"]) fun _ _ _ _ _ _ us hl => match us, hl with | [_, _], _ => rfl)
  have F18 := fun_mk (st := s_members) l18 c18 k18
  have D18 : Df K mg "members" s_members ["layout", "place"] := df_mk X G a18 F18 (F18.binds (ps := ["layout", "place"]) fun _ _ _ _ _ _ us hl => match us, hl with | [_, _], _ => rfl)
  have F19 := fun_mk (st := s_law_fount) l19 c19 k19
  have D19 : Df K mg "_law_fount" s_law_fount ["_law_script", "_law_k"] := df_mk X G a19 F19 (F19.binds (ps := ["_law_script", "_law_k"]) fun _ _ _ _ _ _ us hl => match us, hl with | [_, _], _ => rfl)
  have F20 := fun_mk (st := s_law_dip) l20 c20 k20
  have D20 : Df K mg "_law_dip" s_law_dip ["_law_fount_here", "_law_many"] := df_mk X G a20 F20 (F20.binds (ps := ["_law_fount_here", "_law_many"]) fun _ _ _ _ _ _ us hl => match us, hl with | [_, _], _ => rfl)
  have F21 := fun_mk (st := s_law_small) l21 c21 k21
  have D21 : Df K mg "_law_small" s_law_small ["_law_fount_here", "_law_many"] := df_mk X G a21 F21 (F21.binds (ps := ["_law_fount_here", "_law_many"]) fun _ _ _ _ _ _ us hl => match us, hl with | [_, _], _ => rfl)
  have F22 := fun_mk (st := s_law_kind) l22 c22 k22
  have D22 : Df K mg "_law_kind" s_law_kind ["_law_fount_here", "_law_top"] := df_mk X G a22 F22 (F22.binds (ps := ["_law_fount_here", "_law_top"]) fun _ _ _ _ _ _ us hl => match us, hl with | [_, _], _ => rfl)
  have F23 := fun_mk (st := s_law_pairs) l23 c23 k23
  have D23 : Df K mg "_law_pairs" s_law_pairs ["_law_fount_here", "_law_many", "_law_is_rising", "_law_most"] := df_mk X G a23 F23 (F23.binds (ps := ["_law_fount_here", "_law_many", "_law_is_rising", "_law_most"]) fun _ _ _ _ _ _ us hl => match us, hl with | [_, _, _, _], _ => rfl)
  have F24 := fun_mk (st := s_law_names_of) l24 c24 k24
  have D24 : Df K mg "_law_names_of" s_law_names_of ["_law_fount_here", "_law_many"] := df_mk X G a24 F24 (F24.binds (ps := ["_law_fount_here", "_law_many"]) fun _ _ _ _ _ _ us hl => match us, hl with | [_, _], _ => rfl)
  have F25 := fun_mk (st := s_law_layout) l25 c25 k25
  have D25 : Df K mg "_law_layout" s_law_layout ["_law_fount_here", "_law_views", "_law_many", "_law_top"] := df_mk X G a25 F25 (F25.binds (ps := ["_law_fount_here", "_law_views", "_law_many", "_law_top"]) fun _ _ _ _ _ _ us hl => match us, hl with | [_, _, _, _], _ => rfl)
  have F26 := fun_mk (st := s_law_has) l26 c26 k26
  have D26 : Df K mg "_law_has" s_law_has ["_law_view", "_law_place"] := df_mk X G a26 F26 (F26.binds (ps := ["_law_view", "_law_place"]) fun _ _ _ _ _ _ us hl => match us, hl with | [_, _], _ => rfl)
  have F27 := fun_mk (st := s_law_path) l27 c27 k27
  have D27 : Df K mg "_law_path" s_law_path ["_law_views", "_law_place"] := df_mk X G a27 F27 (F27.binds (ps := ["_law_views", "_law_place"]) fun _ _ _ _ _ _ us hl => match us, hl with | [_, _], _ => rfl)
  have F28 := fun_mk (st := s_law_others_right) l28 c28 k28
  have D28 : Df K mg "_law_others_right" s_law_others_right ["_law_fount_here", "_law_layout_here", "_law_place", "_law_due"] := df_mk X G a28 F28 (F28.binds (ps := ["_law_fount_here", "_law_layout_here", "_law_place", "_law_due"]) fun _ _ _ _ _ _ us hl => match us, hl with | [_, _, _, _], _ => rfl)
  have F29 := fun_mk (st := s_law_right) l29 c29 k29
  have D29 : Df K mg "_law_right" s_law_right ["_law_fount_here", "_law_layout_here", "_law_places"] := df_mk X G a29 F29 (F29.binds (ps := ["_law_fount_here", "_law_layout_here", "_law_places"]) fun _ _ _ _ _ _ us hl => match us, hl with | [_, _, _], _ => rfl)
  have F30 := fun_mk (st := s_law) l30 c30 k30
  have D30 : Df K mg "law" s_law ["_law_script"] := df_mk X G a30 F30 (F30.binds (ps := ["_law_script"]) fun _ _ _ _ _ _ us hl => match us, hl with | [_], _ => rfl)
  have T : Txt w K mg := {
    b_isinstance := PySem.W.mg_none_of X G z_isinstance
    b_int := PySem.W.mg_none_of X G z_int
    b_bool := PySem.W.mg_none_of X G z_bool
    b_str := PySem.W.mg_none_of X G z_str
    b_tuple := PySem.W.mg_none_of X G z_tuple
    b_list := PySem.W.mg_none_of X G z_list
    b_len := PySem.W.mg_none_of X G z_len
    b_all := PySem.W.mg_none_of X G z_all
    b_enumerate := PySem.W.mg_none_of X G z_enumerate
    b_range := PySem.W.mg_none_of X G z_range
    b_max := PySem.W.mg_none_of X G z_max
    b_min := PySem.W.mg_none_of X G z_min
    b_repr := PySem.W.mg_none_of X G z_repr
    c_signs := ⟨_, PySem.W.mg_of X G y0⟩
    c_greatest := ⟨_, PySem.W.mg_of X G y1⟩
    c_views := ⟨_, PySem.W.mg_of X G y2⟩
    c_recognizers := ⟨_, PySem.W.mg_of X G y3⟩
    c_waits := ⟨_, PySem.W.mg_of X G y4⟩
    c_beside := ⟨_, PySem.W.mg_of X G y5⟩
    c_axes := ⟨aA, PySem.W.mg_of X G ax, fun H => .inr ⟨_, itsA, nA, axl, rfl, rfl, axz, axv⟩⟩
    c_sizes := ⟨dS, es, nS, PySem.W.mg_of X G sz, ⟨szl, szk, szw⟩, ⟨_, w0⟩, ⟨_, w1⟩, ⟨_, w2⟩, ⟨_, w3⟩, ⟨_, w4⟩, ⟨_, w5⟩⟩
    d_is_integer := D0
    d_is_name := D1
    d_is_place := D2
    d_is_kind := D3
    d_is_list := D4
    d_is_view := D5
    d_wrong_view := D6
    d_wrong_recognizer := D7
    d_is_pair := D8
    d_wrong_pair := D9
    d_first_fault := D10
    d_require_views := D11
    d_require_layout := D12
    d_require_place := D13
    d_has := D14
    d_path_of := D15
    d_path := D16
    d_members_of := D17
    d_members := D18
    d_law_fount := D19
    d_law_dip := D20
    d_law_small := D21
    d_law_kind := D22
    d_law_pairs := D23
    d_law_names_of := D24
    d_law_layout := D25
    d_law_has := D26
    d_law_path := D27
    d_law_others_right := D28
    d_law_right := D29
    d_law := D30 }
  refine ⟨PySem.W.fnOf "law" "law" (defArgs s_law) (defBody s_law) (defScope s_law) .none kV30 dc30 pm30 an30 cd30 ct30, fun s v => .of_eq rfl, fun base _ _ => ?_⟩
  exact funG F30 sc_law law_len (fun cdv A outer s H vs Q E hG hr h => law_body T fa cdv A outer s H vs Q E hG hr h)
theorem walk {l : PySem.W.OpenLaw} {q : Program} {loose : List Str} {XP : (Str → Option Value) → Heap → Prop} {YP : World → Heap → Prop} {d : DefRec} {K : Params → PySem.W.Frag} (hn : l.most = some 63) (hdf : d.params.defaults = [])
    (hY : ∀ (w : World) (h : Heap), YP w h → (K w.params).In h)
    (F : ∀ (w : World) (mg : Str → Option Value) (fa : Addr) (h : Heap), (K w.params).In h → h.Ns mainGlobals mg → mg d.name = some (.ref fa) →
      ∃ fd : FuncData, (∀ (s : Shared) (u : Value), BindsTo s fd ⟨[u], []⟩ [("_law_script", u)]) ∧ ∀ base : Heap, (K w.params).In base → base.Ns mainGlobals mg → FnG l.prog w (K w.params) mg base 9 fa fd ["_law_script"] (spLaw (K w.params))) :
    PySem.W.WalkO q loose XP YP l.row.toRowW d [] (fun f vs => PySem.call f vs) :=
  walk_ofG (n := 63) (k := 9) (x := "_law_script") (sp := spLaw) hn (by decide) hdf ⟨rfl, by decide, by decide⟩ hY F (fun _ _ a ns hl hS => ⟨a, ns, rfl, hS, hl, fun _ => rfl⟩)
end TC

namespace TC
end TC
open PySem PySem.W PyProof.Rows
set_option maxRecDepth 100000 in
set_option maxHeartbeats 0 in
theorem PySem.Challenge.cw_touchcontest_k10_whole_members_and_paths_holds : PySem.Challenge.rw_touchcontest_k10_whole_members_and_paths.Holds := by
  w_on; o_law; k_head; (case hw => w_witness2)
  k_fill
  refine TC.walk (l := PySem.Challenge.rw_touchcontest_k10_whole_members_and_paths) rfl rfl (fun w h Y => PySem.W.kIn_of Y) ?F
  case F =>
    intro w mg fa h KX G hmg
    refine' TC.all_mk KX G hmg ?a0 ?l0 ?c0 ?k0 ?a1 ?l1 ?c1 ?k1 ?a2 ?l2 ?c2 ?k2 ?a3 ?l3 ?c3 ?k3 ?a4 ?l4 ?c4 ?k4 ?a5 ?l5 ?c5 ?k5 ?a6 ?l6 ?c6 ?k6 ?a7 ?l7 ?c7 ?k7 ?a8 ?l8 ?c8 ?k8 ?a9 ?l9 ?c9 ?k9 ?a10 ?l10 ?c10 ?k10 ?a11 ?l11 ?c11 ?k11 ?a12 ?l12 ?c12 ?k12 ?a13 ?l13 ?c13 ?k13 ?a14 ?l14 ?c14 ?k14 ?a15 ?l15 ?c15 ?k15 ?a16 ?l16 ?c16 ?k16 ?a17 ?l17 ?c17 ?k17 ?a18 ?l18 ?c18 ?k18 ?a19 ?l19 ?c19 ?k19 ?a20 ?l20 ?c20 ?k20 ?a21 ?l21 ?c21 ?k21 ?a22 ?l22 ?c22 ?k22 ?a23 ?l23 ?c23 ?k23 ?a24 ?l24 ?c24 ?k24 ?a25 ?l25 ?c25 ?k25 ?a26 ?l26 ?c26 ?k26 ?a27 ?l27 ?c27 ?k27 ?a28 ?l28 ?c28 ?k28 ?a29 ?l29 ?c29 ?k29 ?a30 ?l30 ?c30 ?k30 ?z_isinstance ?z_int ?z_bool ?z_str ?z_tuple ?z_list ?z_len ?z_all ?z_enumerate ?z_range ?z_max ?z_min ?z_repr ?y0 ?y1 ?y2 ?y3 ?y4 ?y5 ?ax ?axl ?axv ?axz ?sz ?szl ?szk ?szw ?w0 ?w1 ?w2 ?w3 ?w4 ?w5
    (case a0 => k_is)
    (case l0 => k_is)
    (case c0 => k_is)
    (case k0 => k_is)
    (case a1 => k_is)
    (case l1 => k_is)
    (case c1 => k_is)
    (case k1 => k_is)
    (case a2 => k_is)
    (case l2 => k_is)
    (case c2 => k_is)
    (case k2 => k_is)
    (case a3 => k_is)
    (case l3 => k_is)
    (case c3 => k_is)
    (case k3 => k_is)
    (case a4 => k_is)
    (case l4 => k_is)
    (case c4 => k_is)
    (case k4 => k_is)
    (case a5 => k_is)
    (case l5 => k_is)
    (case c5 => k_is)
    (case k5 => k_is)
    (case a6 => k_is)
    (case l6 => k_is)
    (case c6 => k_is)
    (case k6 => k_is)
    (case a7 => k_is)
    (case l7 => k_is)
    (case c7 => k_is)
    (case k7 => k_is)
    (case a8 => k_is)
    (case l8 => k_is)
    (case c8 => k_is)
    (case k8 => k_is)
    (case a9 => k_is)
    (case l9 => k_is)
    (case c9 => k_is)
    (case k9 => k_is)
    (case a10 => k_is)
    (case l10 => k_is)
    (case c10 => k_is)
    (case k10 => k_is)
    (case a11 => k_is)
    (case l11 => k_is)
    (case c11 => k_is)
    (case k11 => k_is)
    (case a12 => k_is)
    (case l12 => k_is)
    (case c12 => k_is)
    (case k12 => k_is)
    (case a13 => k_is)
    (case l13 => k_is)
    (case c13 => k_is)
    (case k13 => k_is)
    (case a14 => k_is)
    (case l14 => k_is)
    (case c14 => k_is)
    (case k14 => k_is)
    (case a15 => k_is)
    (case l15 => k_is)
    (case c15 => k_is)
    (case k15 => k_is)
    (case a16 => k_is)
    (case l16 => k_is)
    (case c16 => k_is)
    (case k16 => k_is)
    (case a17 => k_is)
    (case l17 => k_is)
    (case c17 => k_is)
    (case k17 => k_is)
    (case a18 => k_is)
    (case l18 => k_is)
    (case c18 => k_is)
    (case k18 => k_is)
    (case a19 => k_is)
    (case l19 => k_is)
    (case c19 => k_is)
    (case k19 => k_is)
    (case a20 => k_is)
    (case l20 => k_is)
    (case c20 => k_is)
    (case k20 => k_is)
    (case a21 => k_is)
    (case l21 => k_is)
    (case c21 => k_is)
    (case k21 => k_is)
    (case a22 => k_is)
    (case l22 => k_is)
    (case c22 => k_is)
    (case k22 => k_is)
    (case a23 => k_is)
    (case l23 => k_is)
    (case c23 => k_is)
    (case k23 => k_is)
    (case a24 => k_is)
    (case l24 => k_is)
    (case c24 => k_is)
    (case k24 => k_is)
    (case a25 => k_is)
    (case l25 => k_is)
    (case c25 => k_is)
    (case k25 => k_is)
    (case a26 => k_is)
    (case l26 => k_is)
    (case c26 => k_is)
    (case k26 => k_is)
    (case a27 => k_is)
    (case l27 => k_is)
    (case c27 => k_is)
    (case k27 => k_is)
    (case a28 => k_is)
    (case l28 => k_is)
    (case c28 => k_is)
    (case k28 => k_is)
    (case a29 => k_is)
    (case l29 => k_is)
    (case c29 => k_is)
    (case k29 => k_is)
    (case a30 => k_is)
    (case l30 => k_is)
    (case c30 => k_is)
    (case k30 => k_is)
    (case z_isinstance => k_is)
    (case z_int => k_is)
    (case z_bool => k_is)
    (case z_str => k_is)
    (case z_tuple => k_is)
    (case z_list => k_is)
    (case z_len => k_is)
    (case z_all => k_is)
    (case z_enumerate => k_is)
    (case z_range => k_is)
    (case z_max => k_is)
    (case z_min => k_is)
    (case z_repr => k_is)
    (case y0 => k_is)
    (case y1 => k_is)
    (case y2 => k_is)
    (case y3 => k_is)
    (case y4 => k_is)
    (case y5 => k_is)
    (case ax => k_is)
    (case axl => k_is)
    (case axv => exact .cons ⟨_, rfl⟩ (.cons ⟨_, rfl⟩ (.cons ⟨_, rfl⟩ .nil)))
    (case axz => decide)
    (case sz => k_is)
    (case szl => k_is)
    (case szk => exact ⟨⟨_, _, rfl, rfl⟩, ⟨_, _, rfl, rfl⟩, ⟨_, _, rfl, rfl⟩, ⟨_, _, rfl, rfl⟩, ⟨_, _, rfl, rfl⟩, ⟨_, _, rfl, rfl⟩, trivial⟩)
    (case szw => decide)
    (case w0 => k_is)
    (case w1 => k_is)
    (case w2 => k_is)
    (case w3 => k_is)
    (case w4 => k_is)
    (case w5 => k_is)
