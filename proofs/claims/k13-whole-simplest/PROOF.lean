import PyProof.Rows.All
import Wide.All
import OpenK.AllK
import Wide.FinOn
import HandS.ForMost
import HandS.ForExc
import HandS.ExcIs
import HandS.IsInst
import HandS.HotCalls
import HandS.ExcCtx
import HandS.Lambda
import HandS.EndTab
import HandS.Wide
import HandS.Walk
import HandS.Conv
import HandS.TupAny
import HandS.TupMul
import HandS.TryOnly
import PySem.Challenge.RW_stemvalues_k13_whole_simplest
set_option Elab.async false
set_option linter.all false
set_option maxRecDepth 100000
set_option maxHeartbeats 4000000
namespace Sv
open PySem PySem.Spec PyProof.Rows L2 L2H HotX
/-! ### rules for code that runs while an exception is handled: the end of a list's walk, sum, a comprehension of int(x) -/
section
variable {prog : Program} {w : World} {A : Around} {E : Value → Shared → Prop} {s : Shared}
theorem next_list_end_hot {it l x1 : Addr} {i : Nat} {items : Array Value} {Q : Option Value → Shared → Prop} (hot : HotAt A x1 s.heap) (hxi : x1 ≠ it)
    (hit : s.heap.IsListIter it l i) (hl : s.heap.IsList l items) (hx : items[i]? = none)
    (hQ : ∀ h', (∀ b o, b ≠ it → s.heap.get? b = some o → h'.get? b = some o) → Q none { s with heap := h' }) : wpAny (model prog w) A (pyNext (.ref it)) Q E s := by
  obtain ⟨hh, o1, vs1, h1, d1, c1⟩ := hot
  obtain ⟨oi, hoi, hci, hdi⟩ := id hit
  obtain ⟨ol, hol, _, nl, hdl⟩ := hl
  unfold pyNext
  refine wpAny_bind (wpAny_attempt (wpAny_callSpecial?_slot (name := Str.ofString "__next__") hit.typeIs slot_listiter_next
    (wpAny_call_entry slot_listiter_next hit.typeIs entry_listiter_next ?_ (args_listiter_next _))))
  show wpAny _ _ (field (.ref it) 0 >>= _) _ _ s
  refine wpAny_bind (wpAny_field hoi hdi (x := .ref l) rfl ?_)
  show wpAny _ _ (if (Value.ref l == Value.none) = true then _ else _) _ _ s
  rw [if_neg (show ¬ (Value.ref l == Value.none) = true by simp)]
  show wpAny _ _ (field (.ref it) 1 >>= _) _ _ s
  refine wpAny_bind (wpAny_field hoi hdi (x := .int i 0) rfl ?_)
  show wpAny _ _ (seqItems? (.ref l) >>= _) _ _ s
  refine wpAny_bind (wpAny_seqItems hol hdl ?_)
  simp only [Int.toNat_natCast, hx]
  refine wpAny_bind (wpAny_rule (wpAny_bind (wpAny_setField hoi hdi (by simp) ?_)))
  show wpAny _ _ (newExc (.type "StopIteration") [] >>= _) _ _ _
  refine wpAny_bind ?_
  simp only [newExc, newTuple]
  refine wpAny_bind (wpAny_newObj_type ?_ (by size_fits))
  refine wpAny_bind (m := firstArgMember _ _) (wpAny_of_eq (a := Value.none) (by first | rfl | (simp only [firstArgMember]; rfl)) ?_)
  refine wpAny_newObj_type ?_ (by size_fits)
  have h1' := (Heap.get?_update_other s.heap (Obj.mapFields (·.setIfInBounds 0 Value.none)) (Ne.symm hxi)).trans h1
  refine raiseNew_hot ⟨hh, o1, vs1, Heap.get?_push_of_some _ (Heap.get?_push_of_some _ h1'), d1, c1⟩ (Nat.ne_of_lt (Heap.lt_size (Heap.get?_push_of_some _ h1'))) (Heap.get?_push_size _ rfl) rfl (by first | (simp; done) | (simp; omega)) ?_
  refine wpAny_bind (wpAny_isInstance (T := "StopIteration") (b := true) ⟨_, Heap.get?_update_self _ (Heap.get?_push_size _ rfl) rfl, rfl⟩ isSubtype_stop ?_)
  refine wpAny_pure (hQ _ fun b o hb e => ?_)
  have e' := (Heap.get?_update_other s.heap (Obj.mapFields (·.setIfInBounds 0 Value.none)) (Ne.symm hb)).trans e
  rw [Heap.get?_update_other _ _ (Nat.ne_of_gt (Heap.lt_size (Heap.get?_push_of_some _ e')))]
  exact Heap.get?_push_of_some _ (Heap.get?_push_of_some _ e')
/-- the walk of a list, where the exception at x1 is handled -/
theorem walk_list_hot {x1 : Addr} (hh : A.handled = some (.ref x1)) (I ax : Addr) (hne : ax ≠ I) (hx : x1 ≠ I) (items : Array Value) :
    Walks prog w A I [I, ax, x1] [I] items.size (fun i v => items[i]? = some v) (fun i h => h.IsListIter I ax i ∧ h.IsList ax items ∧ HotAt A x1 h) where
  sub := fun b hb => by simp at hb; simp [hb]
  frame := fun _ _ _ st hk => ⟨st.1.at fun o e => hk I (by simp) o e, st.2.1.at fun o e => hk ax (by simp) o e, by
    obtain ⟨_, h1, o, vs, e, r⟩ := st.2
    exact ⟨hh, o, vs, hk x1 (by simp) o e, r⟩⟩
  item := fun i s Q E hi st hQ => by
    refine wpAny_pyNext_list_item st.1 st.2.1 (x := items[i]) (by simp [hi]) fun h' hit' hs' => ?_
    refine hQ _ h' s.toks (by simp [hi]) ⟨hit', st.2.1.extBut hs'.extBut hne, ?_⟩ fun b o hb e => hs'.extBut b o (fun h => hb (by simp [h])) e
    obtain ⟨_, h1, o, vs, e, r⟩ := st.2
    exact ⟨hh, o, vs, hs'.extBut x1 o hx e, r⟩
  done := fun s Q E st hQ => next_list_end_hot st.2.2 hx st.1 st.2.1 (by simp) fun h' he' => hQ h' s.toks fun b o hb e => he' b o (fun h => hb (by simp [h])) e
  self := fun _ _ _ _ st hQ => wpAny_pyIter_listiter st.1 hQ
theorem sum_hot {x1 l : Addr} {its : List Value} {ns : List Int} {Q : Value → Shared → Prop} (hot : HotAt A x1 s.heap) (hl : s.heap.IsList l its.toArray) (hi : IntsAre its ns)
    (h : ∀ h' tk t', (∀ b o, s.heap.get? b = some o → h'.get? b = some o) → Q (.int ns.sum t') { s with heap := h', toks := tk }) : wpAny (model prog w) A (call (.builtin "sum") [.ref l]) Q E s := by
  obtain ⟨xs, e⟩ := hi.allInts.items
  have hn : numsOf (intItems xs).toList = ns := by rw [← e]; exact hi.numsOf
  rw [nums_intItems] at hn
  rw [e] at hl
  obtain ⟨hh, o1, v1, g1, d1, c1⟩ := hot
  refine call_sum_walkG (iter_intList hl fun s₂ es st hfp hlI => ?_)
  subst es
  have g2 := Heap.get?_push_of_some (h := s.heap) { cls := .type "list_iterator", data := .fields #[.ref l, .int 0 0] } g1
  refine ⟨_, _, _, _, _, _, numAt xs, rfl, walk_list_hot (A := A.in1) (x1 := x1) hh _ l hlI (Nat.ne_of_lt (Heap.lt_size g1)) (intItems xs), ⟨st.1, st.2, hh, o1, v1, g2, d1, c1⟩, fun b hb => ?_, (fun _ _ => intItems_at), fun h' tk t' hk => ?_⟩
  · rcases List.mem_cons.mp hb with z | hb
    · exact hfp b (by simp [z])
    · rcases List.mem_cons.mp hb with z | hb
      · exact hfp b (by simp [z])
      · rw [List.mem_singleton.mp hb]
        exact Heap.lt_size g2
  · have := h h' tk t' (old_kept hk)
    rw [← hn] at this
    have hp : preSum (numAt xs) (intItems xs).size = (xs.toList.map (·.1)).sum := by
      rw [show (intItems xs).size = xs.size by simp [intItems], preSum_eq, List.take_of_length_le (by simp)]
    rw [hp]
    exact this
end
section
variable {X : Cx}
theorem cr_sumH (hc : HotC X) : CallR X (.builtin "sum") (rSum X.K) := by
  intro pins s σ H vs us Q I r h
  obtain ⟨a, ns, rfl, hs, q⟩ := h
  obtain ⟨its, rv, hl, _⟩ := I.list hs
  obtain ⟨x1, hot⟩ := hc.at I
  rw [Vals.ref1 r]
  exact sum_hot hot hl.isList rv.ints fun h' tk t' hk => ⟨.int _, H, I.kept hk, ⟨_, rfl⟩, q⟩
/-- a new object, told by its place being free -/
theorem inv_laid {pins : List (Addr × Obj)} {σ : L2.St} {H : Hp} {s : Shared} {h' : Heap} {a : Addr} {o : HO} {t' : Nat} (I : Inv X pins σ H s) (k : ∀ b u, s.heap.get? b = some u → h'.get? b = some u) (hn : s.heap.get? a = none)
    (new : ObjOk X.prog X.w (upd H a o) h' a o) : Inv X pins σ (upd H a o) { s with heap := h', toks := t' } := by
  have hH : H a = none := I.hok.gone hn
  refine I.un ⟨fun b u q _ _ _ => k b u q, fun b u q _ _ _ => ⟨u.slots, k b u q⟩, fun b u q n _ => ?_, fun b u q _ => ⟨u, k b u q⟩, fun b xs q => ?_, fun b u xs q => ?_, fun b ps q => ⟨#[], ?_⟩⟩ fun b u e => ?_
  · rw [upd_ne (fun z => by rw [z, hn] at q; cases q)]; exact n
  · rw [upd_ne (ne_of_none q hH)]; exact q
  · rw [upd_ne (ne_of_none q hH)]; exact q
  · rw [upd_ne (ne_of_none q hH), q]; simp
  · by_cases hb : b = a
    · subst hb; rw [upd_same] at e; cases e; exact new
    · rw [upd_ne hb] at e
      exact (I.hok b u e).stay (fun c v _ q => k c v q) (fun c q => by rw [upd_ne (ne_of_none q hH)]; exact q) fun c xs q => by rw [upd_ne (ne_of_none q hH)]; exact q
theorem relabel_same {scope : Scope} {env : Env} (h : ∀ y ∈ scope.names, y.2 ≠ .free) : relabel scope env = scope := by
  obtain ⟨k, names, g, c, m⟩ := scope
  unfold relabel
  congr 1
  rw [← List.map_id names]
  rw [List.map_map]
  refine List.map_congr_left fun y hy => ?_
  obtain ⟨n, kd⟩ := y
  have := h (n, kd) hy
  have z : kd ≠ NameKind.free := this
  simp [z]
theorem vals_b2i : ∀ {bs : List Bool} {zs : List Value}, Paired (fun v y => ∀ b, v = Value.bool b → ∃ t, y = Value.int (if b then 1 else 0) t) (bs.map Value.bool) zs →
    Vals ((bs.map fun b => if b then (1 : Int) else 0).map V.int) zs
  | [], _, .nil => .nil
  | b :: r, _, .cons r1 r2 => .cons (r1 b rfl) (vals_b2i r2)
/-- [int(x) for x in bools] -/
def tLcIntH (K : PySem.W.Frag) (tl : TE) : TE := fun σ H Q => tl σ H fun v H1 => ∃ (a : Addr) (bs : List Bool), v = V.ref a ∧ SqL K H1 a (bs.map V.bl) ∧
  ∀ D, H1 D = none → Q (.ref D) (upd H1 D (.lst ((bs.map fun b => if b then (1 : Int) else 0).map V.int)))
theorem pe_lcIntH {x : Str} {px p1 p2 p3 pos : Pos} {scope : Scope} {iter : Expr} {tl : TE} (hc : HotC X) (hi : PE X iter tl) (hm : X.mg "int" = none) (hk : scope.kind = .function) (h1 : scope.names.lookup x = some .local)
    (h2 : scope.names.lookup ("int" : Str) = some .globalImplicit) (h3 : ∀ y ∈ scope.names, y.2 ≠ .free) (h3c : ∀ y ∈ scope.names, y.2 ≠ .cell) (h4 : ∀ y ∈ scope.names, y.2 = .local → scope.names.lookup y.1 = some .local)
    (hs : ∀ v, foldedSetIterable iter X.env v = pure v := by intro _; rfl) (hdx : (x == ("__debug__" : Str)) = false := by decide) :
    PE X (.ListComp (.Call (.Name "int" p1) [.Name x p2] [] p3) [⟨.Name x px, iter, [], 0⟩] scope pos) (tLcIntH X.K tl) := by
  refine ⟨fun pins s σ H Q I h => ?_⟩
  have hclos : closureFor scope X.env = pure (cloFrom X.env.cells scope.names []) := closure_ok fun y hy e => absurd e (h3 y hy)
  refine wpAny_ListComp_free (fun _ => true) (fun v y => ∀ b, v = .bool b → ∃ t, y = .int (if b then 1 else 0) t) hclos h3c hk h4 h1 (thn (hi.run pins s σ H _ I h) fun u s1 hu => ?_) hs
  obtain ⟨v, H1, I1, rv, a, bs, ev, hS, q⟩ := hu
  subst ev
  obtain rfl : u = Value.ref a := rv
  obtain ⟨its, rits, hl, hz⟩ := I1.list hS
  have hb := rits.bls
  obtain ⟨x1, hot⟩ := hc.at I1
  obtain ⟨hh, o1, v1, g1, d1, c1⟩ := hot
  have hlt : a < s1.heap.objs.size := by obtain ⟨_, _, e, _⟩ := hl; exact Heap.lt_size e
  refine wpAny_pyIter_list hl.isList ?_
  have g2 := Heap.get?_push_of_some (h := s1.heap) { cls := .type "list_iterator", data := .fields #[.ref a, .int 0 0] } g1
  refine ⟨s1.heap.objs.size, _, _, _, _, _, rfl, walk_list_hot (x1 := x1) hh _ a (Nat.ne_of_lt hlt) (Nat.ne_of_lt (Heap.lt_size g1)) its.toArray, ?_, ⟨⟨_, Heap.get?_push_size _ rfl, rfl, rfl⟩, hl.isList.push _, hh, o1, v1, g2, d1, c1⟩, fun b hb => ?_, ⟨?_, ?_⟩, ?_⟩
  · have := rits.length
    simp only [List.size_toArray]
    omega
  · show b < (s1.heap.push _).objs.size
    rw [Heap.size_push]
    rcases List.mem_cons.mp hb with z | hb
    · rw [z]; exact Nat.lt_succ_self _
    · rcases List.mem_cons.mp hb with z | hb
      · rw [z]; exact Nat.lt_succ_of_lt hlt
      · rw [List.mem_singleton.mp hb]
        exact Nat.lt_succ_of_lt (Heap.lt_size g1)
  · intro C i v s₃ m₃ E' _ _ _ _ _ _
    exact wpAny_tests_nil ⟨rfl, s₃.heap, s₃.toks, rfl, fun _ _ z => z⟩
  · intro C i v s₃ m₃ E' hC hv _ hn hmx hkp htk
    have hv : its[i]? = some v := by simpa using hv
    rw [hb] at hv
    obtain ⟨b, hbi, rfl⟩ : ∃ b, bs[i]? = some b ∧ v = Value.bool b := by
      rw [List.getElem?_map] at hv
      cases e : bs[i]? with
      | none => rw [e] at hv; cases hv
      | some b => rw [e] at hv; exact ⟨b, rfl, (Option.some.inj hv).symm⟩
    have er : (compEnvC scope (cloFrom X.env.cells scope.names []) C X.env).scope = scope := relabel_same h3
    have kp : ∀ b o, X.base.get? b = some o → s₃.heap.get? b = some o := fun b o e => by
      have e1 := I1.bk b o e
      exact hkp b o (fun z => by rw [List.mem_singleton.mp z] at e1; exact absurd (Heap.lt_size e1) (Nat.lt_irrefl _)) (Heap.get?_push_of_some _ e1)
    obtain ⟨mb, b1, b2⟩ := I1.mod.blt
    refine Call_ (Calls.Name_function_global (by rw [er]; exact hk) (by show (compEnvC scope _ C X.env).scope.names.lookup _ = _; rw [er]; exact h2)
      (Calls.loadGlobal_builtin (env := compEnvC scope (cloFrom X.env.cells scope.names []) C X.env) (by show s₃.heap.Ns X.env.globals _; rw [I1.ok.glob]; exact I1.mod.glob.keeps kp) hm (by show s₃.heap.Ns X.env.builtins _; rw [I1.ok.blt]; exact b1.keeps kp) ((b2 "int" (by decide)).trans (by decide +kernel : bootBuiltins "int" = some (.type "int"))) ?_))
    refine PyProof.Rows.callWith_type1 (Calls.spliced_cons (wpAny_Name (wpAny_loadName_local (by rw [er]; exact hk) (by show (compEnvC scope _ C X.env).scope.names.lookup _ = _; rw [er]; exact h1) hn hmx (Calls.spliced_nil (call_int_bool ?_))) hdx)) rfl rfl
    exact ⟨fun b' e => ⟨_, by cases e; rfl⟩, s₃.heap, s₃.toks + 1, rfl, fun _ _ z => z⟩
  · intro D h' tk ys vs hD hDl hpl hlen hP hF hkp
    obtain ⟨n, hDo⟩ := hpl
    have fr : ∀ b o, s1.heap.get? b = some o → h'.get? b = some o := fun b o e => hkp b o (fun z => by rw [List.mem_singleton.mp z] at e; exact absurd (Heap.lt_size e) (Nat.lt_irrefl _)) (Heap.get?_push_of_some _ e)
    have hD1 : s1.heap.get? D = none := by
      cases e : s1.heap.get? D with
      | none => rfl
      | some o => rw [show (s1.heap.push _).get? D = some o from Heap.get?_push_of_some _ e] at hD; cases hD
    have evs : vs = bs.map Value.bool := by
      rw [← hb]
      refine List.ext_getElem? fun j => ?_
      cases e : vs[j]? with
      | none =>
        have := List.getElem?_eq_none_iff.mp e
        exact (List.getElem?_eq_none_iff.mpr (by simp only [List.size_toArray] at hlen; omega)).symm
      | some v => simpa using (hP j v e).symm
    have rv2 : Vals ((bs.map fun b => if b then (1 : Int) else 0).map V.int) ys.toList := by
      rw [show vs.filter (fun _ => true) = vs from List.filter_eq_self.mpr fun _ _ => rfl, evs] at hF
      exact vals_b2i hF
    have hz2 : ((bs.map fun b => if b then (1 : Int) else 0).map V.int).length ≤ sizeLine := by
      simpa using hz
    have J : Inv X pins σ (upd H1 D (.lst ((bs.map fun b => if b then (1 : Int) else 0).map V.int))) { s1 with heap := h', toks := tk } := inv_laid (s := s1) (t' := tk) I1 fr hD1 ⟨hz2, ys.toList, n, rv2, by simpa using hDo⟩
    exact ⟨.ref D, _, J, rfl, q D (I1.hok.gone hD1)⟩
end
end Sv

set_option maxHeartbeats 4000000
namespace Sv
open PySem PySem.Spec PyProof.Rows L2 L2H HotX
/-! ### a def of the text, by its name -/
section
variable (P : Program) (w : World) (K : PySem.W.Frag) (mg : Str → Option Value) (base : Heap)
/-- the def st stands under its name x -/
def Here (x : Str) (st : Stmt) : Prop := ∃ f fd, Fun K x x st f fd ∧ mg x = some (.ref f)
/-- the name x is a def that keeps the promise sp, by level k -/
def Keeps' (CX : CXT) (k : Nat) (x : Str) (ps : List Str) (sp : Sp) : Prop :=
  ∃ f fd, mg x = some (.ref f) ∧ PySem.W.keepIn K (.ref f) = true ∧ Binds K fd ps [] ∧ FnOk P w K mg base CX k f fd ps sp
/-- the same within an except suite that holds the exception p -/
structure FnP (p : Addr × Obj) (k : Nat) (f : Addr) (fd : FuncData) (ps : List Str) (sp : Sp) : Prop where
  len : ∀ vs H Q E, sp vs H Q E → vs.length = ps.length
  run : ∀ (A : Around) (outer : List Env) (s : Shared) (H : Hp) (args : Args) (us : List Value) (vs : List V) (Q : VK) (E : XK), RoomH k A → Hot1 A p → PinOk outer H s p → Env0 P w K mg base A outer s H → BindsTo s fd args (ps.zip us) → Vals vs us → sp vs H Q E →
    codeAny (model P w) A (.call (.ref f) args) (CR CX0 outer P w H s Q E) s
def KeepsP (p : Addr × Obj) (k : Nat) (x : Str) (ps : List Str) (sp : Sp) : Prop :=
  ∃ f fd, mg x = some (.ref f) ∧ PySem.W.keepIn K (.ref f) = true ∧ Binds K fd ps [] ∧ FnP P w K mg base p k f fd ps sp
end
section
variable {P : Program} {w : World} {K : PySem.W.Frag} {mg : Str → Option Value} {base : Heap}
theorem Keeps'.mono {CX : CXT} {j k : Nat} {x : Str} {ps : List Str} {sp : Sp} (D : Keeps' P w K mg base CX j x ps sp) (h : j ≤ k) : Keeps' P w K mg base CX k x ps sp := by
  obtain ⟨f, fd, a, b, c, d⟩ := D
  exact ⟨f, fd, a, b, c, d.mono h⟩
theorem Keeps'.imp {CX : CXT} {k : Nat} {x : Str} {ps : List Str} {sp sp' : Sp} (D : Keeps' P w K mg base CX k x ps sp) (h : ∀ vs H Q E, sp' vs H Q E → sp vs H Q E) : Keeps' P w K mg base CX k x ps sp' := by
  obtain ⟨f, fd, a, b, c, d⟩ := D
  exact ⟨f, fd, a, b, c, d.imp h⟩
/-- a def that lets no exception out -/
theorem keeps0 {x : Str} {st : Stmt} {N ps : List Str} {k : Nat} {sp : Sp} (F : Here K mg x st) (S : FnScope N ps (defScope st))
    (hb : ∀ (kV doc pm : Value) (an : Option Addr) (cdv ct : Value) (us : List Value), us.length = ps.length → bindArgs (PySem.W.fnOf x x (defArgs st) (defBody st) (defScope st) .none kV doc pm an cdv ct) ⟨us, []⟩ = pure (ps.zip us))
    (len : ∀ vs H Q E, sp vs H Q E → vs.length = ps.length)
    (hbody : ∀ (f : Addr) (cdv : Value) (A : Around) (outer : List Env) (s : Shared) (H : Hp) (vs : List V) (Q : VK) (E : XK), Room k (A.deeper (envOfC x (defScope st) s.heap.objs.size f cdv)) → sp vs H Q E →
      ∃ t, PSs (cxOf CX0 P w K mg base N x (defScope st) f cdv A outer s H E).nox (defBody st) t ∧ t { nx := fun _ H' => Q .non H', rt := Q } (start N vs) H) : Keeps' P w K mg base CX0 (k + 1) x ps sp := by
  obtain ⟨f, fd, F, g⟩ := F
  exact ⟨f, fd, g, F.kp, F.binds hb, F.ok S len fun cdv A outer s H vs Q E hr h => hbody f cdv A outer s H vs Q E hr h⟩
/-- the def st stands under its name x, its code object at c -/
def HereC (K : PySem.W.Frag) (mg : Str → Option Value) (x : Str) (st : Stmt) (c : Addr) : Prop := ∃ (f : Addr) (oc : Value) (od : Option Addr) (kV doc pm : Value) (an : Option Addr) (ct : Value) (osl : Array (Option Value)), mg x = some (.ref f) ∧
  K.lookup f = some ⟨oc, od, .func (PySem.W.fnOf x x (defArgs st) (defBody st) (defScope st) .none kV doc pm an (.ref c) ct), osl⟩ ∧ PySem.W.codeIn K (.ref c) x = true ∧ PySem.W.keepIn K (.ref f) = true
theorem HereC.here {x : Str} {st : Stmt} {c : Addr} (h : HereC K mg x st c) : Here K mg x st := by
  obtain ⟨f, oc, od, kV, doc, pm, an, ct, osl, g, lk, hc, hk⟩ := h
  exact ⟨f, _, ⟨⟨oc, od, kV, doc, pm, an, _, ct, osl, rfl, lk, hc⟩, hk⟩, g⟩
/-- a def that makes lambdas: its code object is told -/
theorem keeps0C {x : Str} {st : Stmt} {c : Addr} {N ps : List Str} {k : Nat} {sp : Sp} (F : HereC K mg x st c) (S : FnScope N ps (defScope st))
    (hb : ∀ (kV doc pm : Value) (an : Option Addr) (cdv ct : Value) (us : List Value), us.length = ps.length → bindArgs (PySem.W.fnOf x x (defArgs st) (defBody st) (defScope st) .none kV doc pm an cdv ct) ⟨us, []⟩ = pure (ps.zip us))
    (len : ∀ vs H Q E, sp vs H Q E → vs.length = ps.length)
    (hbody : ∀ (f : Addr) (A : Around) (outer : List Env) (s : Shared) (H : Hp) (vs : List V) (Q : VK) (E : XK), Room k (A.deeper (envOfC x (defScope st) s.heap.objs.size f (.ref c))) → sp vs H Q E →
      ∃ t, PSs (cxOf CX0 P w K mg base N x (defScope st) f (.ref c) A outer s H E).nox (defBody st) t ∧ t { nx := fun _ H' => Q .non H', rt := Q } (start N vs) H) : Keeps' P w K mg base CX0 (k + 1) x ps sp := by
  obtain ⟨f, oc, od, kV, doc, pm, an, ct, osl, g, lk, hc, hk⟩ := F
  refine ⟨f, _, g, hk, .all (hb kV doc pm an _ ct), fn_of lk hc S len fun A outer s H vs Q E hr hsp => ?_⟩
  obtain ⟨t, ht, hq⟩ := hbody f A outer s H vs Q E hr hsp
  exact ⟨t, ht.nox, hq⟩
/-- the same, with the function's object told: for the law itself -/
def KeepsC (P : Program) (w : World) (K : PySem.W.Frag) (mg : Str → Option Value) (base : Heap) (CX : CXT) (k : Nat) (x : Str) (ps : List Str) (sp : Sp) : Prop :=
  ∃ f fd, (∃ oc od osl, K.lookup f = some ⟨oc, od, .func fd, osl⟩) ∧ mg x = some (.ref f) ∧ FnOk P w K mg base CX k f fd ps sp
theorem keepsLaw {x : Str} {st : Stmt} {c : Addr} {N ps : List Str} {k : Nat} {sp : Sp} (F : HereC K mg x st c) (S : FnScope N ps (defScope st))
    (len : ∀ vs H Q E, sp vs H Q E → vs.length = ps.length)
    (hbody : ∀ (f : Addr) (A : Around) (outer : List Env) (s : Shared) (H : Hp) (vs : List V) (Q : VK) (E : XK), Room k (A.deeper (envOfC x (defScope st) s.heap.objs.size f (.ref c))) → sp vs H Q E →
      ∃ t, PSs (cxOf CX0 P w K mg base N x (defScope st) f (.ref c) A outer s H E).nox (defBody st) t ∧ t { nx := fun _ H' => Q .non H', rt := Q } (start N vs) H) : KeepsC P w K mg base CX0 (k + 1) x ps sp := by
  obtain ⟨f, oc, od, kV, doc, pm, an, ct, osl, g, lk, hc, hk⟩ := F
  refine ⟨f, _, ⟨_, _, _, lk⟩, g, fn_of lk hc S len fun A outer s H vs Q E hr hsp => ?_⟩
  obtain ⟨t, ht, hq⟩ := hbody f A outer s H vs Q E hr hsp
  exact ⟨t, ht.nox, hq⟩
theorem here_mk {h : Heap} {x : Str} {st : Stmt} {f : Addr} {oc : Value} {od an : Option Addr} {osl : Array (Option Value)} {kV doc pm cdv ct : Value} (X : K.In h) (G : h.Ns mainGlobals mg) (a : PySem.W.nsIn K mainGlobals x = some (some (.ref f)))
    (l : K.lookup f = some ⟨oc, od, .func (PySem.W.fnOf x x (defArgs st) (defBody st) (defScope st) .none kV doc pm an cdv ct), osl⟩) (c : PySem.W.codeIn K cdv x = true) (k : PySem.W.keepIn K (.ref f) = true) : Here K mg x st :=
  ⟨f, _, fun_mk l c k, PySem.W.mg_of X G a⟩
theorem hereC_mk {h : Heap} {x : Str} {st : Stmt} {f cd : Addr} {oc : Value} {od an : Option Addr} {osl : Array (Option Value)} {kV doc pm ct : Value} (X : K.In h) (G : h.Ns mainGlobals mg) (a : PySem.W.nsIn K mainGlobals x = some (some (.ref f)))
    (l : K.lookup f = some ⟨oc, od, .func (PySem.W.fnOf x x (defArgs st) (defBody st) (defScope st) .none kV doc pm an (.ref cd) ct), osl⟩) (c : PySem.W.codeIn K (.ref cd) x = true) (k : PySem.W.keepIn K (.ref f) = true) : HereC K mg x st cd :=
  ⟨f, oc, od, kV, doc, pm, an, ct, osl, PySem.W.mg_of X G a, l, c, k⟩
/-- a def that may raise; the exceptions' contexts are None -/
theorem keepsN {x : Str} {st : Stmt} {N ps : List Str} {k : Nat} {sp : Sp} (F : Here K mg x st) (S : FnScope N ps (defScope st))
    (hb : ∀ (kV doc pm : Value) (an : Option Addr) (cdv ct : Value) (us : List Value), us.length = ps.length → bindArgs (PySem.W.fnOf x x (defArgs st) (defBody st) (defScope st) .none kV doc pm an cdv ct) ⟨us, []⟩ = pure (ps.zip us))
    (len : ∀ vs H Q E, sp vs H Q E → vs.length = ps.length)
    (hbody : ∀ (f : Addr) (cdv : Value) (A : Around) (outer : List Env) (s : Shared) (H : Hp) (vs : List V) (Q : VK) (E : XK), Room k (A.deeper (envOfC x (defScope st) s.heap.objs.size f cdv)) → sp vs H Q E →
      ∃ t, PSs (cxOf (L2N.CX P w) P w K mg base N x (defScope st) f cdv A outer s H E) (defBody st) t ∧ t { nx := fun _ H' => Q .non H', rt := Q } (start N vs) H) : Keeps' P w K mg base (L2N.CX P w) (k + 1) x ps sp := by
  obtain ⟨f, fd, F, g⟩ := F
  have bd := F.binds hb
  have kp := F.kp
  obtain ⟨oc, od, kV, doc, pm, an, cdv, ct, osl, rfl, lk, hcd⟩ := F.ex
  exact ⟨f, _, g, kp, bd, fn_of lk hcd S len fun A outer s H vs Q E hr hsp => hbody f cdv A outer s H vs Q E hr hsp⟩
/-- a def called in an except suite that holds p -/
theorem keepsP {x : Str} {st : Stmt} {N ps : List Str} {k : Nat} {sp : Sp} {p : Addr × Obj} (F : Here K mg x st) (S : FnScope N ps (defScope st))
    (hb : ∀ (kV doc pm : Value) (an : Option Addr) (cdv ct : Value) (us : List Value), us.length = ps.length → bindArgs (PySem.W.fnOf x x (defArgs st) (defBody st) (defScope st) .none kV doc pm an cdv ct) ⟨us, []⟩ = pure (ps.zip us))
    (len : ∀ vs H Q E, sp vs H Q E → vs.length = ps.length)
    (hbody : ∀ (f : Addr) (cdv : Value) (A : Around) (outer : List Env) (s : Shared) (H : Hp) (vs : List V) (Q : VK) (E : XK), Hot1 A p → RoomH k (A.deeper (envOfC x (defScope st) s.heap.objs.size f cdv)) → sp vs H Q E →
      ∃ t, PSs (cxH CX0 P w K mg base N x (defScope st) f cdv A outer s H E p) (defBody st) t ∧ t { nx := fun _ H' => Q .non H', rt := Q } (start N vs) H) : KeepsP P w K mg base p (k + 1) x ps sp := by
  obtain ⟨f, fd, F, g⟩ := F
  have bd := F.binds hb
  have kp := F.kp
  obtain ⟨oc, od, kV, doc, pm, an, cdv, ct, osl, rfl, lk, hcd⟩ := F.ex
  refine ⟨f, _, g, kp, bd, len, fun A outer s H args us vs Q E hr hot hpin e0 hbt r hsp => ?_⟩
  have hl := len _ _ _ _ hsp
  have KX : K.In s.heap := e0.mod.kin.keeps fun b o e => (e0.bs b o e).1
  have lim : s.heap.NoLimit := e0.mod.nolimit.keeps fun b o e => (e0.bs b o e).1
  have hkind : ∀ y ∈ ps.zip us, (defScope st).names.lookup y.1 = some .local ∨ ((defScope st).names.lookup y.1 = some .cell ∧ ((cellsFrom (s.heap.objs.size + 1) (defScope st).names []).lookup y.1).isSome = true) := by
    rintro ⟨n, v⟩ hy
    rcases S.par n (List.of_mem_zip hy).1 with q | q
    · exact .inl q
    · exact .inr ⟨q, PySem.W.cellsFrom_some _ _ _ (.inl q)⟩
  refine codeAny_call_function hr.depth (KX _ _ lk) rfl S.co S.gen rfl (PySem.W.codeRec_of KX hcd) (hbt _ _ _ _ ?_)
  refine wpAny_newFunctionEnv_cells S.kind hkind fun env he s1 ic => ?_
  subst he
  refine ⟨lim.keeps ic.toInCall.keep, codeAny_func ?_⟩
  obtain ⟨t, ht, hq⟩ := hbody f cdv A outer s H vs Q E hot (hr.deeper _) hsp
  have J : Inv (cxH CX0 P w K mg base N x (defScope st) f cdv A outer s H E p) [] (start N vs) H s1 := inv_startH S hpin e0 hl r ic
  refine wpAny_mono (ht.run [] s1 (start N vs) H _ J hq) (fun fl s' hs => ?_) fun e s' hs => hs
  cases fl with
  | ret u =>
    obtain ⟨v, σ', H', J', rv, q⟩ := hs
    exact ⟨v, H', J'.os, J'.bare, J'.base, J'.hok, rv, q⟩
  | next =>
    obtain ⟨σ', H', J', q⟩ := hs
    exact ⟨.non, H', J'.os, J'.bare, J'.base, J'.hok, rfl, q⟩
  | brk => obtain ⟨_, _, _, q⟩ := hs; exact q.elim
  | cont => obtain ⟨_, _, _, q⟩ := hs; exact q.elim
end
/-! ### calls -/
section
variable {X : Cx} {k : Nat} {x : Str} {ps : List Str} {sp : Sp} {q pos : Pos} {e : Expr} {es : List Expr} {t : TA}
/-- a def's call, its promise asked of the arguments -/
def tD (sp : Sp) (E : XK) (t : TA) : TE := fun σ H Q => t σ H fun vs H1 => sp vs H1 Q E
theorem tCall_nil (sp : Sp) (E : XK) (t : TA) : tCall sp [] E t = tD sp E t := by
  funext σ H Q
  unfold tCall tD
  simp only [List.append_nil]
theorem passN {X : Cx} : Passes (L2N.CX X.prog X.w) X E0 := fun _ _ _ _ _ _ _ h => by
  obtain ⟨_, _, _, _, _, _, _, _, _, _, _, _, z⟩ := h
  exact z.elim
/-- f(e, ..): f lets nothing out -/
theorem pe_d0 (D : Keeps' X.prog X.w X.K X.mg X.base CX0 k x ps sp) (hr : Room k X.A) (hg : Gl X x) (ha : PA X (e :: es) t) (hdb : (x == ("__debug__" : Str)) = false := by decide)
    (he : starEach (e :: es) X.env = (false, eval e X.env) :: starEach es X.env := by rfl) (hpl : (backTo pos (starEach es X.env)).any (·.1) = false := by rfl) :
    PE X (.Call (.Name x q) (e :: es) [] pos) (tD sp E0 t) := by
  obtain ⟨f, fd, a, b, c, d⟩ := D
  have h := pe_call (pos := pos) (p := q) d hr hg a b c .nil pass0 ha hdb he hpl
  rw [← tCall_nil]
  exact h
/-- f(e, ..): f may raise, but not here -/
theorem pe_dN (D : Keeps' X.prog X.w X.K X.mg X.base (L2N.CX X.prog X.w) k x ps sp) (hr : Room k X.A) (hg : Gl X x) (ha : PA X (e :: es) t) (hdb : (x == ("__debug__" : Str)) = false := by decide)
    (he : starEach (e :: es) X.env = (false, eval e X.env) :: starEach es X.env := by rfl) (hpl : (backTo pos (starEach es X.env)).any (·.1) = false := by rfl) :
    PE X (.Call (.Name x q) (e :: es) [] pos) (tD sp E0 t) := by
  obtain ⟨f, fd, a, b, c, d⟩ := D
  have h := pe_call (pos := pos) (p := q) d hr hg a b c .nil passN ha hdb he hpl
  rw [← tCall_nil]
  exact h
/-- f(e, ..) in a def that lets out what f raises -/
theorem pe_dX {W : WX} {E : XK} (D : Keeps' X.prog X.w X.K X.mg X.base (L2N.CX X.prog X.w) k x ps sp) (hr : Room k X.A) (hg : Gl X x) (tk : L2N.Takes X W) (hW : ∀ cls d σ H, E cls d H → W cls d σ H) (ha : PA X (e :: es) t)
    (hdb : (x == ("__debug__" : Str)) = false := by decide) (he : starEach (e :: es) X.env = (false, eval e X.env) :: starEach es X.env := by rfl) (hpl : (backTo pos (starEach es X.env)).any (·.1) = false := by rfl) :
    PE X (.Call (.Name x q) (e :: es) [] pos) (tD sp E t) := by
  obtain ⟨f, fd, a, b, c, d⟩ := D
  have h := pe_call (pos := pos) (p := q) (E := E) d hr hg a b c .nil (L2N.passes_call tk hW) ha hdb he hpl
  rw [← tCall_nil]
  exact h
/-- f(e, ..) within the except suite that holds p -/
theorem pe_dP {p : Addr × Obj} (D : KeepsP X.prog X.w X.K X.mg X.base p k x ps sp) (hr : RoomH k X.A) (hot : Hot1 X.A p) (hp : p ∈ X.pn) (hg : Gl X x) (ha : PA X (e :: es) t) (hdb : (x == ("__debug__" : Str)) = false := by decide)
    (he : starEach (e :: es) X.env = (false, eval e X.env) :: starEach es X.env := by rfl) (hpl : (backTo pos (starEach es X.env)).any (·.1) = false := by rfl) :
    PE X (.Call (.Name x q) (e :: es) [] pos) (tD sp E0 t) := by
  obtain ⟨f, fd, a, b, c, d⟩ := D
  refine ⟨fun pins s σ H Q I h => ?_⟩
  refine wpAny_Call_Name_kw (ld_glob I hg a ?_ hdb)
  refine PySem.W.callWith_K (h₀ := X.base) I.ok.mod.kin b (thn (ha.run pos pins s σ H _ I h) fun us s1 hu => ?_) he hpl
  obtain ⟨vs, H1, I1, r, hs⟩ := hu
  refine ⟨I1.kIn, ?_⟩
  have hl : us.length = ps.length := by rw [← r.length]; exact d.len _ _ _ _ hs
  have bd := c s1 us I1.kIn (by rw [List.append_nil]; exact hl)
  rw [List.append_nil] at bd
  have P1 := I1.pin p (List.mem_append_left _ hp)
  have hpin : PinOk X.stack H1 s1 p := ⟨P1.1, P1.2.1, fun hm => (List.mem_cons.mp (I1.stkSub p.1 hm)).elim P1.2.2.1 P1.2.2.2.1, P1.2.2.2.2⟩
  refine wpAny_call (codeAny_mono (d.run X.A X.stack s1 H1 ⟨us, []⟩ us vs Q E0 hr hot hpin I1.env0 bd r hs) fun res s' hq => ?_)
  cases res with
  | error e => exact (show False from hq).elim
  | ok fl =>
    cases fl with
    | ret u => exact I1.after hq
    | next => exact (show False from hq).elim
    | brk => exact (show False from hq).elim
    | cont => exact (show False from hq).elim
/-- isinstance(e, c), e the exception that is pinned -/
theorem call_isP {a D : Addr} {oe : Obj} (C : ExcC X.K D) (hp : (a, oe) ∈ X.pn) (hz : Zc (.ref D) none oe) (hf : ∃ vs, oe.data = .fields vs) : CallR X (.builtin "isinstance") (rIsE X.K D a) := by
  intro pins s σ H xs us Q I r h
  obtain ⟨c, cv, b, rfl, hcv, e, q⟩ := h
  obtain ⟨u1, u2, rfl, r1, r2⟩ := vals2 r
  obtain rfl : u1 = Value.ref a := r1
  have ec := hcv _ r2
  subst ec
  obtain ⟨hget, _⟩ := I.pin (a, oe) (List.mem_append_left _ hp)
  obtain ⟨vs, hv⟩ := hf
  have J : PySem.W.InstAt s.heap a oe D none := by
    obtain ⟨oc, od, oda, osl⟩ := oe
    obtain ⟨z1, z2⟩ := hz
    dsimp only at z1 z2 hv
    subst z1 z2 hv
    exact ⟨hget, rfl, rfl, trivial⟩
  exact PySem.W.kia_one (PySem.W.handS_kitx_exc C.hg C.hk C.hs C.hd C.ha C.hn C.ht C.hm) I.kIn J e (fun z => nomatch z) fun tk => ⟨.bl b, H, I.kept (t' := tk) fun _ _ z => z, rfl, q⟩
end
theorem same_new {H : Hp} {p : Addr} {o : HO} (h : H p = none) : Same H (upd H p o) := fun b x e => by
  rw [upd_ne (ne_of_none e h)]
  exact e
/-- a new object is wanted: the heap behind it by what is known of it -/
def NewQ (H : Hp) (o : HO) (Q : VK) : Prop := ∀ (p : Addr) (H' : Hp), H p = none → Same H H' → H' p = some o → Q (.ref p) H'
theorem NewQ.use {H : Hp} {o : HO} {Q : VK} (h : NewQ H o Q) : ∀ p, H p = none → Q (.ref p) (upd H p o) := fun p np => h p _ np (same_new np) upd_same
section
variable {X : Cx}
theorem PE.imp {e : Expr} {t t' : TE} (h : PE X e t) (i : ∀ σ H Q, t' σ H Q → t σ H Q) : PE X e t' := ⟨fun pins s σ H Q I q => h.run pins s σ H Q I (i σ H Q q)⟩
theorem OpR.imp {f : Value → Value → Sem Value} {r r' : R2} (h : OpR X f r) (i : ∀ x y H Q, r' x y H Q → r x y H Q) : OpR X f r' := fun pins s σ H x y v u Q I rx ry q => h pins s σ H x y v u Q I rx ry (i x y H Q q)
theorem CallR.imp {f : Value} {r r' : List V → Hp → VK → Prop} (h : CallR X f r) (i : ∀ xs H Q, r' xs H Q → r xs H Q) : CallR X f r' := fun pins s σ H xs us Q I rv q => h pins s σ H xs us Q I rv (i xs H Q q)
theorem SlR.imp {r r' : V → Option Int → Option Int → Hp → VK → Prop} (h : SlR X r) (i : ∀ x lo hi H Q, r' x lo hi H Q → r x lo hi H Q) : SlR X r' := fun pins s σ H x v vl vu lo hi sl Q I rx hs pl pu q => h pins s σ H x v vl vu lo hi sl Q I rx hs pl pu (i x lo hi H Q q)
def tTupN (t : TA) : TE := fun σ H Q => t σ H fun xs H1 => xs.length ≤ sizeLine ∧ NewQ H1 (.tup xs) Q
def tLstN (t : TA) : TE := fun σ H Q => t σ H fun xs H1 => xs.length ≤ sizeLine ∧ NewQ H1 (.lst xs) Q
theorem pe_tupN {es : List Expr} {t : TA} {x1} {pos : Pos} (h : PA X es t) : PE X (.Tuple es x1 pos) (tTupN t) := by
  refine ⟨fun pins s σ H Q I hq => ?_⟩
  refine wpAny_Tuple_spliced (thn (h.run pos pins s σ H _ I hq) fun us s1 hu => ?_)
  obtain ⟨xs, H1, I1, r, z, q⟩ := hu
  exact ⟨by rw [← r.length]; exact z, .ref s1.heap.objs.size, upd H1 s1.heap.objs.size (.tup xs), I1.laid (t' := s1.toks) (fun b u e => Heap.get?_push_of_some _ e) (Nat.le_refl _) ⟨z, us, r, ⟨_, Heap.get?_push_size _ rfl, rfl, _, rfl⟩⟩, rfl, q.use _ I1.fresh⟩
theorem pe_lstN {es : List Expr} {t : TA} {pos : Pos} (h : PA X es t) : PE X (.List es pos) (tLstN t) := by
  refine ⟨fun pins s σ H Q I hq => ?_⟩
  refine wpAny_List_spliced (thn (h.run pos pins s σ H _ I hq) fun us s1 hu => ?_)
  obtain ⟨xs, H1, I1, r, z, q⟩ := hu
  exact ⟨by rw [← r.length]; exact z, .ref s1.heap.objs.size, upd H1 s1.heap.objs.size (.lst xs), I1.laid (t' := s1.toks) (fun b u e => Heap.get?_push_of_some _ e) (Nat.le_refl _) ⟨z, us, 0, r, Heap.get?_push_size _ rfl⟩, rfl, q.use _ I1.fresh⟩
def rCatN : R2 := fun x y H Q => ∃ l b xs zs, x = .ref l ∧ y = .ref b ∧ H l = some (.lst xs) ∧ H b = some (.lst zs) ∧ xs.length + zs.length ≤ sizeLine ∧ NewQ H (.lst (xs ++ zs)) Q
theorem op_catN : OpR X (binaryOp .Add) rCatN := OpR.imp op_cat fun x y H Q h => by
  obtain ⟨l, b, xs, zs, h1, h2, h3, h4, h5, q⟩ := h
  exact ⟨l, b, xs, zs, h1, h2, h3, h4, h5, q.use⟩
/-- tuple(xs) of a list -/
theorem call_tupleN : CallR X (.type "tuple") (fun xs H Q => ∃ p ys, xs = [.ref p] ∧ SqL X.K H p ys ∧ NewQ H (.tup ys) Q) := CallR.imp call_tuple_of fun xs H Q h => by
  obtain ⟨p, ys, h1, h2, q⟩ := h
  exact ⟨p, ys, h1, .inl ⟨h2, q.use⟩⟩
/-- list(xs) of a list or a tuple -/
theorem call_listN : CallR X (.type "list") (fun xs H Q => ∃ p ys, xs = [.ref p] ∧ (SqL X.K H p ys ∨ SqT X.K H p ys) ∧ NewQ H (.lst ys) Q) := CallR.imp call_list_of fun xs H Q h => by
  obtain ⟨p, ys, h1, h2, q⟩ := h
  exact ⟨p, ys, h1, h2, q.use⟩
def rSlLN (K : PySem.W.Frag) : V → Option Int → Option Int → Hp → VK → Prop := fun x lo hi H Q => ∃ a xs, x = .ref a ∧ SqL K H a xs ∧ NewQ H (.lst (cutV xs lo hi)) Q
theorem sl_listN : SlR X (rSlLN X.K) := SlR.imp sl_list fun x lo hi H Q h => by
  obtain ⟨a, xs, h1, h2, q⟩ := h
  exact ⟨a, xs, h1, h2, q.use⟩
end
theorem szl {n : Nat} (h : Nat.ble n 1000 = true) : n ≤ sizeLine := Nat.le_of_lt (small1000 (Nat.le_of_ble_eq_true h))
theorem szlt {n : Nat} (h : Nat.ble n 1000 = true) : n < sizeLine := small1000 (Nat.le_of_ble_eq_true h)
/-! ### short words for terms -/
section
variable {X : Cx}
theorem pa1 {e1 : Expr} {t1 : TE} (h1 : PE X e1 t1) (s1 : starEach [e1] X.env = (false, eval e1 X.env) :: starEach [] X.env := by rfl) : PA X [e1] (tCons t1 tNil) := pa_cons h1 pa_nil s1
theorem pa2 {e1 e2 : Expr} {t1 t2 : TE} (h1 : PE X e1 t1) (h2 : PE X e2 t2) (s1 : starEach [e1, e2] X.env = (false, eval e1 X.env) :: starEach [e2] X.env := by rfl) (s2 : starEach [e2] X.env = (false, eval e2 X.env) :: starEach [] X.env := by rfl) :
    PA X [e1, e2] (tCons t1 (tCons t2 tNil)) := pa_cons h1 (pa_cons h2 pa_nil s2) s1
theorem pa3 {e1 e2 e3 : Expr} {t1 t2 t3 : TE} (h1 : PE X e1 t1) (h2 : PE X e2 t2) (h3 : PE X e3 t3) (s1 : starEach [e1, e2, e3] X.env = (false, eval e1 X.env) :: starEach [e2, e3] X.env := by rfl) (s2 : starEach [e2, e3] X.env = (false, eval e2 X.env) :: starEach [e3] X.env := by rfl)
    (s3 : starEach [e3] X.env = (false, eval e3 X.env) :: starEach [] X.env := by rfl) : PA X [e1, e2, e3] (tCons t1 (tCons t2 (tCons t3 tNil))) := pa_cons h1 (pa_cons h2 (pa_cons h3 pa_nil s3) s2) s1
/-- a builtin by its name -/
theorem pb {x : Str} {id : String} {r : List V → Hp → VK → Prop} {e : Expr} {es : List Expr} {t : TA} {p pos : Pos} (hc : CallR X (.builtin id) r) (hm : X.mg x = none) (hv : bootBuiltins x = some (.builtin id)) (ha : PA X (e :: es) t) (hg : Gl X x := by rfl)
    (hn : x ≠ "__name__" := by decide) (hdb : (x == ("__debug__" : Str)) = false := by decide) (h1 : starEach (e :: es) X.env = (false, eval e X.env) :: starEach es X.env := by rfl) (h2 : (backTo pos (starEach es X.env)).any (·.1) = false := by rfl) :
    PE X (.Call (.Name x p) (e :: es) [] pos) (tCB r t) := pe_callB hc hg hm hv ha hn hdb h1 h2
theorem pbt {x : Str} {T : String} {r : List V → Hp → VK → Prop} {e : Expr} {es : List Expr} {t : TA} {p pos : Pos} (hc : CallR X (.type T) r) (hm : X.mg x = none) (hv : bootBuiltins x = some (.type T)) (ha : PA X (e :: es) t) (hg : Gl X x := by rfl)
    (hn : x ≠ "__name__" := by decide) (hdb : (x == ("__debug__" : Str)) = false := by decide) (h1 : starEach (e :: es) X.env = (false, eval e X.env) :: starEach es X.env := by rfl) (h2 : (backTo pos (starEach es X.env)).any (·.1) = false := by rfl) :
    PE X (.Call (.Name x p) (e :: es) [] pos) (tCB r t) := pe_callTy hc hg hm hv ha hn hdb h1 h2
/-- a global name of the text -/
theorem pgl {x : Str} {a : Addr} {pos : Pos} (hm : X.mg x = some (.ref a)) (hg : Gl X x := by rfl) (hd : (x == ("__debug__" : Str)) = false := by decide) : PE X (.Name x pos) (tC (.ref a)) := pe_glob hg hm rfl hd
/-- x = e, x in slot i -/
theorem st (i : Nat) {x : Str} {e : Expr} {te : TE} {pos pos' : Pos} (hN : X.N.Nodup) (he : PE X e te) (hi : X.N[i]? = some x := by rfl) (hx : Loc X.env.scope x := by first | exact .inl rfl | exact .inr rfl)
    (hs : swapsWith e (some (.Name x pos')) pos.line X.env = pure false := by rfl) (hf : X.fn x = true ∨ X.env.scope.names.lookup x = some .local := by first | exact .inl rfl | exact .inr rfl) :
    PS X (.Assign [.Name x pos'] e pos) (tAsg te (gName i)) := ps_set hN hi hx he hs hf
theorem pgn (i : Nat) {x : Str} {pos : Pos} (hN : X.N.Nodup) (hi : X.N[i]? = some x := by rfl) (hx : Loc X.env.scope x := by first | exact .inl rfl | exact .inr rfl)
    (hf : X.fn x = true ∨ X.env.scope.names.lookup x = some .local := by first | exact .inl rfl | exact .inr rfl) : PG X (.Name x pos) (gName i) := pg_name hN hi hx hf
/-- a builtin class as a value -/
theorem pty {x : Str} {n : String} {pos : Pos} (hm : X.mg x = none) (hv : bootBuiltins x = some (.type n)) (hg : Gl X x := by rfl) (hn : x ≠ "__name__" := by decide) (hd : (x == ("__debug__" : Str)) = false := by decide) : PE X (.Name x pos) (tC (.ty n)) := pe_bltn hg hm hv rfl hn hd
end
end Sv

set_option maxHeartbeats 4000000
namespace Sv
open PySem PySem.Spec PyProof.Rows L2 L2H HotX LamX
/-! ### x(lambda: body), where what the body raises has no context -/
/-- the lambda's context, its exceptions told with their contexts -/
abbrev lamN (X : Cx) (A : Around) (outer : List Env) (s : Shared) (H : Hp) (E : XK) (scope : Scope) (f c' : Addr) : Cx :=
  (lamCx X A outer s H E scope f c').wish fun e s' => wpAny (model X.prog X.w) (A.deeper (lamEnv X scope s.heap.objs.size f c')) (leaving (lamEnv X scope s.heap.objs.size f c') e) (fun _ s'' => L2N.CX X.prog X.w outer H s E e s'') (fun e' s'' => L2N.CX X.prog X.w outer H s E e' s'') s'
section
variable {X : Cx} {pins : List (Addr × Obj)} {σ : L2.St} {H HZ : Hp} {s s1 : Shared}
theorem pe_actN {CXg : CXT} {Eg : XK} {Ng : List Str} {qg : Str} {sg : Scope} {g f c' : Addr} {cdg pm ctv : Value} {params : Arguments} {body : Expr} {scope : Scope} {k i : Nat} {a : Str} {pn : List (Addr × Obj)} {xe : Value → Shared → Prop} {W : WX} {E : XK} {tb : TE} {p1 p2 : Pos}
    (I : Inv X pins σ H s) (L : LamS X.env.scope scope) (hf : s.heap.get? f = some (PySem.W.kla_obj "<lambda>" (X.env.qual ++ "<lambda>") params body scope (cloFrom X.env.cells scope.names []) pm c' ctv)) (hfn : H f = none) (hfr : f ∉ frs X.stack)
    (hbind : bindArgs (PySem.W.kla_fn "<lambda>" (X.env.qual ++ "<lambda>") params body scope (cloFrom X.env.cells scope.names []) pm (.ref c') ctv) ⟨[], []⟩ = pure [])
    (tk : L2N.Takes ((cxOf CXg X.prog X.w X.K X.mg X.base Ng qg sg g cdg X.A X.stack s H Eg).tr pn xe) W) (hW : ∀ cls d (σ' : L2.St) H', σ'.length = Ng.length → E cls d H' → W cls d σ' H') (hr : Room (k + 1) (X.A.deeper (envOfC qg sg s.heap.objs.size g cdg)))
    (hbody : ∀ (A : Around) (outer : List Env) (s : Shared) (H : Hp), Room k (A.deeper (lamEnv X scope s.heap.objs.size f c')) → PE (lamN X A outer s H E scope f c') body tb)
    (hN : Ng[i]? = some a) (hv : Vis sg a) (hd : (a == ("__debug__" : Str)) = false := by decide) (hcd : (a == ("__classdict__" : Str)) = false := by decide) :
    PE ((cxOf CXg X.prog X.w X.K X.mg X.base Ng qg sg g cdg X.A X.stack s H Eg).tr pn xe) (.Call (.Name a p1) [] [] p2)
      (fun σZ HZ Q => σZ[i]? = some (some (.ref f)) ∧ HZ c' = some (CodeO c' (X.env.qual ++ "<lambda>")) ∧ tb σ HZ Q) := by
  refine ⟨fun pinsZ sZ σZ HZ Q IZ h => ?_⟩
  obtain ⟨hs, hc, ht⟩ := h
  refine wpAny_Call_Name_kw (thn ((pe_var (pos := p1) (i := i) hN hv hd hcd).run pinsZ sZ σZ HZ (fun v H1 => v = .ref f ∧ H1 = HZ) IZ ⟨.ref f, hs, rfl, rfl⟩) fun u s2 hu => ?_)
  obtain ⟨v, H1, I1, r1, ev, eH⟩ := hu
  subst ev
  rw [eH] at I1
  obtain rfl : u = Value.ref f := r1
  have of1 : s2.heap.get? f = some (PySem.W.kla_obj "<lambda>" (X.env.qual ++ "<lambda>") params body scope (cloFrom X.env.cells scope.names []) pm c' ctv) := I1.base.keep f _ hf hfn hfr (fun z => nomatch (show f ∈ ([] : List Addr) from z))
  refine PySem.W.callWith_F0 ⟨_, _, _, _, of1⟩ ?_
  have un : Un (frs X.stack) [] H HZ s.heap s2.heap := I1.base
  obtain ⟨⟨oc, vs, t, hoc, hdc, hvc⟩, _, _⟩ := I1.hok c' _ hc
  have rc : codeAny (model X.prog X.w) (X.A.deeper (envOfC qg sg s.heap.objs.size g cdg)) (.call (.ref f) ⟨[], []⟩) (CR (L2N.CX X.prog X.w) (envOfC qg sg s.heap.objs.size g cdg :: X.stack) X.prog X.w HZ s2 Q E) s2 := by
    refine PySem.W.kla_callFunE hr.depth of1 rfl L.co L.gen rfl ⟨c', oc, vs, t, rfl, hoc, hdc, hvc⟩ ?_
    rw [hbind]
    refine wpAny_pure (wpAny_newFunctionEnv (fun y hy => (L.own y hy).2) (fun y hy => absurd hy (by simp)) (fun h₁ hns hsb => ⟨I1.nolimit.fresh _ hsb, ?_⟩) L.kind)
    show codeAny _ _ (.expr body (lamEnv X scope s2.heap.objs.size f c')) _ _
    have kp : ∀ b o, s2.heap.get? b = some o → h₁.get? b = some o := fun b o e => hsb.extBut b o (Nat.ne_of_lt (Heap.lt_size e)) (Heap.get?_push_of_some _ e)
    have J0 := lam_start2 (E := E) (f := f) (c' := c') (tk := s2.toks + ([] : List (Str × Value)).length) I L I1.env0 hr.hd un hns kp
    have J : Inv (lamN X (X.A.deeper (envOfC qg sg s.heap.objs.size g cdg)) (envOfC qg sg s.heap.objs.size g cdg :: X.stack) s2 HZ E scope f c') [] σ HZ { s2 with heap := h₁, toks := s2.toks + ([] : List (Str × Value)).length } := J0.wish _
    refine PySem.W.kla_codeExpr (wpAny_mono ((hbody _ _ s2 HZ (hr.deeper _)).run [] _ _ HZ Q J ht) (fun v s' hq => ?_) fun e s' hq => hq)
    obtain ⟨w', H', J', rv, q⟩ := hq
    exact ⟨w', H', J'.os, J'.bare, J'.base, J'.hok, rv, q⟩
  refine wpAny_call (codeAny_mono rc fun r s' hq => ?_)
  cases r with
  | error e => exact tk e s' (L2N.XE.of_call I1 (fun cls d H' h => hW cls d σZ H' IZ.len h) hq)
  | ok fl =>
    cases fl with
    | ret u => exact I1.after hq
    | next => exact (show False from hq).elim
    | brk => exact (show False from hq).elim
    | cont => exact (show False from hq).elim
end
/-- the def x, called with a lambda that it calls: TT: what it makes of the lambda's reading -/
def GivesN (X : Cx) (Ng : List Str) (x : Str) (sg : Scope) (g : Addr) (cdg : Value) (bg : List Stmt) (a : Str) (q : Str) (k : Nat) (TT : (XK → Hp → VK → Prop) → Hp → VK → Prop) : Prop :=
  ∀ (f c' : Addr) (s : Shared) (H : Hp) (Q : VK) (tl : XK → Hp → VK → Prop), Room k (X.A.deeper (envOfC x sg s.heap.objs.size g cdg)) →
    (∀ (W : WX) (pn : List (Addr × Obj)) (xe : Value → Shared → Prop) (E : XK) (p1 p2 : Pos), L2N.Takes ((cxOf CX0 X.prog X.w X.K X.mg X.base Ng x sg g cdg X.A X.stack s H E0).tr pn xe) W → (∀ cls d (σ' : L2.St) H', σ'.length = Ng.length → E cls d H' → W cls d σ' H') →
      PE ((cxOf CX0 X.prog X.w X.K X.mg X.base Ng x sg g cdg X.A X.stack s H E0).tr pn xe) (.Call (.Name a p1) [] [] p2) (fun σZ HZ Q => σZ[0]? = some (some (.ref f)) ∧ HZ c' = some (CodeO c' q) ∧ tl E HZ Q)) →
    H c' = some (CodeO c' q) → TT tl H Q →
    ∃ t, PSs (cxOf CX0 X.prog X.w X.K X.mg X.base Ng x sg g cdg X.A X.stack s H E0).nox bg t ∧ t { nx := fun _ H' => Q .non H', rt := Q } (L2.start Ng [.ref f]) H
section
variable {X : Cx}
/-- x(lambda: body) -/
theorem pe_lamN {T : List (Addr × Str)} {TT : (XK → Hp → VK → Prop) → Hp → VK → Prop} {x a : Str} {c P : Addr} {k : Nat} {st : Stmt} {Ng : List Str}
    {params : Arguments} {body : Expr} {scope : Scope} {t : XK → TE} {p lpos pos : Pos} (F : Here X.K X.mg x st) (hg : Gl X x)
    (hb : ∀ (kV doc pm : Value) (an : Option Addr) (cdv ct : Value) (us : List Value), us.length = [a].length → bindArgs (PySem.W.fnOf x x (defArgs st) (defBody st) (defScope st) .none kV doc pm an cdv ct) ⟨us, []⟩ = pure ([a].zip us))
    (Sg : FnScope Ng [a] (defScope st)) (hNg : Ng[0]? = some a) (hva : Vis (defScope st) a)
    (hG : ∀ g cdv, GivesN X Ng x (defScope st) g cdv (defBody st) a (X.env.qual ++ "<lambda>") (k + 1) TT)
    (TB : TabB X.base X.mg c P) (hcode : X.env.code = .ref c) (hmT : (P, X.env.qual ++ "<lambda>") ∈ T) (hu : ∀ p ∈ T, p.1 = P → p.2 = X.env.qual ++ "<lambda>") (hr : Room (k + 2) X.A) (L : LamS X.env.scope scope) (hdef : defaultsOf params X.env = ([], []))
    (hbind : ∀ (q : Str) (cl : List (Str × Addr)) (pm cv ctv : Value), bindArgs (PySem.W.kla_fn "<lambda>" q params body scope cl pm cv ctv) ⟨[], []⟩ = pure [])
    (hbody : ∀ (A : Around) (outer : List Env) (s : Shared) (H : Hp) (E : XK) (f c' : Addr), Room k (A.deeper (lamEnv X scope s.heap.objs.size f c')) → PE (lamN X A outer s H E scope f c') body (t E))
    (hdb : (x == ("__debug__" : Str)) = false := by decide) (hd : (a == ("__debug__" : Str)) = false := by decide) (hcd : (a == ("__classdict__" : Str)) = false := by decide) :
    PE X (.Call (.Name x p) [.Lambda params body scope lpos] [] pos) (tLam T TT t) := by
  obtain ⟨g, fd, F, hm⟩ := F
  have bd := F.binds hb
  have hk := F.kp
  obtain ⟨oc, od, kV, doc, pm, an, cdv, ct, osl, rfl, lk, hcg⟩ := F.ex
  refine ⟨fun pins s σ H Q I h => ?_⟩
  obtain ⟨hT, h⟩ := h
  refine wpAny_Call_Name_kw (ld_glob I hg hm ?_ hdb)
  refine PySem.W.callWith_K (h₀ := X.base) I.ok.mod.kin hk ?_ (by rfl) (by rfl)
  show wpAny _ _ (spliced ((false, eval (.Lambda params body scope lpos) X.env) :: backTo pos (starEach [] X.env))) _ _ s
  refine Calls.spliced_cons (lam_make2 I TB hcode hmT hu hT hdef (L.has I.ok) fun f c' pm' ctv H1 s' I1 eN T1 hf hfn hfr hco => ?_)
  refine Calls.spliced_nil ⟨I1.kIn, ?_⟩
  have rc : codeAny (model X.prog X.w) X.A (.call (.ref g) ⟨[.ref f], []⟩) (CR CX0 X.stack X.prog X.w H1 s' Q E0) s' := by
    refine run_ofS (N := Ng) (ps := [a]) (us := [.ref f]) (vs := [.ref f]) lk hcg Sg hr I1.env0 (bd s' [.ref f] I1.kIn rfl) (.cons rfl .nil) rfl fun hr' => ?_
    obtain ⟨t', ht', hq'⟩ := hG g cdv f c' s' H1 Q (fun E H' Q' => t E σ H' Q') hr' (fun W pn xe E p1 p2 tk hW => pe_actN (i := 0) I1 L hf hfn hfr (hbind _ _ _ _ _) tk hW hr' (fun A outer s H hr2 => hbody A outer s H E f c' hr2) hNg hva hd hcd) hco (h H1 eN T1)
    exact ⟨t', ht'.nox, hq'⟩
  refine wpAny_call (codeAny_mono rc fun r s2 hq => ?_)
  cases r with
  | error e => exact (show False from hq).elim
  | ok fl =>
    cases fl with
    | ret u => exact I1.after hq
    | next => exact (show False from hq).elim
    | brk => exact (show False from hq).elim
    | cont => exact (show False from hq).elim
end
end Sv

set_option maxHeartbeats 4000000
namespace Sv
open PySem PySem.Spec PyProof.Rows L2 L2H HotX LamX
/-! ### the exception classes of the text -/
def excNames : List Str := ["InvalidBush", "InvalidStem", "InvalidPlayer", "InvalidStalk", "InvalidNumber", "InvalidText", "TooLarge", "NoneBetween", "NotYours", "NothingToUndo"]
def veTail : List Value := [.type "ValueError", .type "Exception", .type "BaseException", .type "object"]
/-- what is known of the class x, at C -/
structure ExcOne (K : PySem.W.Frag) (mg : Str → Option Value) (x : Str) (C : Addr) : Prop where
  g : mg x = some (.ref C)
  xi : PySem.W.excIn K C veTail "ValueError.__new__" = true
  kp : PySem.W.keepIn K (.ref C) = true
  b : PySem.W.subIn K (.ref C) (.type "BaseException") = some true
  t : PySem.W.typeIn K (.ref C) = some (.type "type")
/-- what is known of all ten, at C 0 .. C 9, and of their base at CS -/
structure Excs (K : PySem.W.Frag) (mg : Str → Option Value) (C : Nat → Addr) (CS : Addr) : Prop where
  gS : mg "StemError" = some (.ref CS)
  one : ∀ i x, excNames[i]? = some x → ExcOne K mg x (C i)
  cls : ∀ i, i < 10 → ExcC K (C i)
  apart : ∀ i j, i < 10 → j < 10 → PySem.W.kitOne K (.ref (C i)) (.ref (C j)) = some (decide (i = j))
  ve : ∀ i, i < 10 → PySem.W.kitOne K (.ref (C i)) (.type "ValueError") = some true
  stem : ∀ i, i < 10 → PySem.W.exmOne K (.ref (C i)) (.ref CS) = some true
/-- the same, to be reckoned -/
def excCB (K : PySem.W.Frag) (D : Addr) : Bool :=
  PySem.W.findIn K (.ref D) "__getattribute__" == some (some (.builtin "BaseException.__getattribute__")) && PySem.W.findIn K (.ref D) "__getattr__" == some none && PySem.W.subIn K (.ref D) (.type "BaseException") == some true &&
  PySem.W.hasDictIn K D && PySem.W.findIn K (.ref D) "__class__" == some (some (.builtin "object.__class__")) && PySem.W.specialIn K (.builtin "object.__class__") "__get__" == some (some (.builtin "getset_descriptor.__get__")) &&
  PySem.W.takesIn K (.builtin "object.__class__") == some true && PySem.W.mroIn K D (.type "object") == some true
theorem excC_of {K : PySem.W.Frag} {D : Addr} (h : excCB K D = true) : ExcC K D := by
  unfold excCB at h
  simp only [Bool.and_eq_true, beq_iff_eq] at h
  obtain ⟨⟨⟨⟨⟨⟨⟨h1, h2⟩, h3⟩, h4⟩, h5⟩, h6⟩, h7⟩, h8⟩ := h
  exact ⟨h1, h2, h3, h4, h5, h6, h7, h8⟩
def excOneB (K : PySem.W.Frag) (x : Str) (C : Addr) : Bool :=
  PySem.W.nsIn K mainGlobals x == some (some (.ref C)) && PySem.W.excIn K C veTail "ValueError.__new__" && PySem.W.keepIn K (.ref C) && PySem.W.subIn K (.ref C) (.type "BaseException") == some true && PySem.W.typeIn K (.ref C) == some (.type "type")
theorem excOne_of {K : PySem.W.Frag} {mg : Str → Option Value} {h : Heap} {x : Str} {C : Addr} (X : K.In h) (G : h.Ns mainGlobals mg) (e : excOneB K x C = true) : ExcOne K mg x C := by
  unfold excOneB at e
  simp only [Bool.and_eq_true, beq_iff_eq] at e
  obtain ⟨⟨⟨⟨h1, h2⟩, h3⟩, h4⟩, h5⟩ := e
  exact ⟨PySem.W.mg_of X G h1, h2, h3, h4, h5⟩
def excsB (K : PySem.W.Frag) (C : Nat → Addr) (CS : Addr) : Bool :=
  PySem.W.nsIn K mainGlobals "StemError" == some (some (.ref CS)) && (List.range 10).all fun i =>
    excOneB K (excNames.getD i "") (C i) && excCB K (C i) && PySem.W.kitOne K (.ref (C i)) (.type "ValueError") == some true && PySem.W.exmOne K (.ref (C i)) (.ref CS) == some true &&
      (List.range 10).all fun j => PySem.W.kitOne K (.ref (C i)) (.ref (C j)) == some (decide (i = j))
theorem excs_of {K : PySem.W.Frag} {mg : Str → Option Value} {h : Heap} {C : Nat → Addr} {CS : Addr} (X : K.In h) (G : h.Ns mainGlobals mg) (e : excsB K C CS = true) : Excs K mg C CS := by
  unfold excsB at e
  simp only [Bool.and_eq_true, beq_iff_eq, List.all_eq_true, List.mem_range] at e
  obtain ⟨h1, h2⟩ := e
  refine ⟨PySem.W.mg_of X G h1, fun i x hx => ?_, fun i hi => excC_of (h2 i hi).1.1.1.2, fun i j hi hj => (h2 i hi).2 j hj, fun i hi => (h2 i hi).1.1.2, fun i hi => (h2 i hi).1.2⟩
  have hi : i < 10 := (List.getElem?_eq_some_iff.mp hx).1
  have q := (h2 i hi).1.1.1.1
  rw [List.getD_eq_getElem?_getD, hx] at q
  exact excOne_of X G q
/-! ### raise X('..') -/
section
variable {X : Cx}
theorem ps_raiseN {x m : Str} {C : Addr} {j : Nat} {p p2 pos pos2 : Pos} {E : XK} {E₁ : Value → Shared → Prop} (hc : X.calm = true) (O : ExcOne X.K X.mg x C) (hg : Gl X x) (hs : X.stack = X.env :: X.outer) (hf : X.env.frame = some X.env.locals) (hex : X.ex = [])
    (hx : X.xe = fun e s' => wpAny (model X.prog X.w) X.A (leaving X.env e) (fun _ s'' => L2N.CX X.prog X.w X.outer X.H_0 X.s_0 E e s'') E₁ s') (hdb : (x == ("__debug__" : Str)) = false := by decide) :
    PS X (.Raise (some (.Call (.Name x p) [.Constant (.str m) j p2] [] pos)) none pos2) (fun _ _ H => E (.ref C) none H) :=
  L2N.ps_raise hc (L2N.takes_of hs hf hex hx) (L2N.pmk_own PySem.F.excBase_ValueError O.xi O.g O.kp (raises_own O.b O.t) hg hdb)
end
/-! ### what _law_term finds -/
def flagsOf (i : Nat) : List Bool := (List.range 10).map fun j => decide (i = j)
theorem flags_sum {i : Nat} (h : i < 10) : ((flagsOf i).map fun b => if b then (1 : Int) else 0).sum = 1 := by
  have : ∀ i, i < 10 → ((flagsOf i).map fun b => if b then (1 : Int) else 0).sum = 1 := by decide
  exact this i h
theorem flags_at {i : Nat} (h : i < 10) : ((flagsOf i).map V.bl)[i]? = some (.bl true) := by
  have : ∀ i, i < 10 → ((flagsOf i).map V.bl)[i]? = some (.bl true) := by decide
  exact this i h
theorem flags_ne {i m : Nat} {z : V} (h : m < i) (hz : ((flagsOf i).map V.bl)[m]? = some z) : eqV z (.bl true) = false := by
  unfold flagsOf at hz
  rw [List.map_map, List.getElem?_map] at hz
  cases e : (List.range 10)[m]? with
  | none => rw [e] at hz; cases hz
  | some j =>
    rw [e] at hz
    have hj : j = m := by
      rw [List.getElem?_range] at e
      · exact (Option.some.inj e).symm
      · exact (by have := (List.getElem?_eq_some_iff.mp e).1; simpa using this)
    subst hj
    have q := Option.some.inj hz
    subst q
    have : ¬ i = j := by omega
    show eqV (V.bl (decide (i = j))) (.bl true) = false
    rw [decide_eq_false this]
    rfl
theorem flags_flat (i : Nat) : ((flagsOf i).map V.bl).all flatV = true := by
  rw [List.all_map]
  exact List.all_eq_true.mpr fun _ _ => rfl
/-- what _law_term tells of the exception at a, of the i-th class -/
def spTerm (a : Addr) (i : Nat) : Sp := fun vs H Q _ => vs = [.ref a] ∧ ∀ H' p, Same H H' → H p = none → H' p = some (.tup [.str "error", .str (excNames.getD i "")]) → Q (.ref p) H'
/-- told: the lambda's result, or the name of its exception -/
def TTerm (C : Nat → Addr) : (XK → Hp → VK → Prop) → Hp → VK → Prop := fun tl H Q =>
  tl (fun cls d H' => d = none ∧ ∃ i, i < 10 ∧ cls = .ref (C i) ∧ ∀ H'' p, Same H' H'' → H' p = none → H'' p = some (.tup [.str "error", .str (excNames.getD i "")]) → Q (.ref p) H'') H Q
end Sv

set_option maxHeartbeats 4000000
namespace Sv
open PySem PySem.Spec PyProof.Rows L2 L2H HotX LamX
/-! ### data that never changes: None, ints, texts, tuples of these -/
mutual
def pl : PyData → Bool
  | .none => true
  | .int _ => true
  | .str x => PyData.strOk x
  | .tuple xs => plAll xs
  | .bool _ => false
  | .list _ => false
  | .dict _ => false
def plAll : List PyData → Bool
  | [] => true
  | x :: xs => pl x && plAll xs
end
mutual
theorem canLay_pl : ∀ d : PyData, pl d = true → d.canLay0 = true
  | .none, _ => rfl
  | .int _, _ => rfl
  | .str x, h => h
  | .tuple xs, h => by rw [PyData.canLay0]; exact canLayAll_pl xs (by rw [pl] at h; exact h)
  | .bool _, h => by rw [pl] at h; cases h
  | .list _, h => by rw [pl] at h; cases h
  | .dict _, h => by rw [pl] at h; cases h
theorem canLayAll_pl : ∀ xs : List PyData, plAll xs = true → PyData.canLayAll0 xs = true
  | [], _ => rfl
  | x :: xs, h => by
    rw [plAll, Bool.and_eq_true] at h
    rw [PyData.canLayAll0, canLay_pl x h.1, canLayAll_pl xs h.2]; rfl
end
mutual
theorem eqv_eq : ∀ d e : PyData, pl d = true → pl e = true → PyData.eqv d e = true → d = e
  | .none, e, _, h2, h => by cases e <;> first | rfl | (rw [PyData.eqv] at h; cases h)
  | .int i, e, _, h2, h => by
    cases e with
    | int j => rw [PyData.eqv] at h; rw [beq_iff_eq.mp h]
    | bool b => rw [pl] at h2; cases h2
    | _ => rw [PyData.eqv] at h; cases h
  | .str x, e, _, h2, h => by
    cases e with
    | str y => rw [PyData.eqv] at h; rw [beq_iff_eq.mp h]
    | _ => rw [PyData.eqv] at h; cases h
  | .tuple xs, e, h1, h2, h => by
    cases e with
    | tuple ys => rw [PyData.eqv] at h; rw [pl] at h1 h2; rw [eqvAll_eq xs ys h1 h2 h]
    | _ => rw [PyData.eqv] at h; cases h
  | .bool _, _, h1, _, _ => by rw [pl] at h1; cases h1
  | .list _, _, h1, _, _ => by rw [pl] at h1; cases h1
  | .dict _, _, h1, _, _ => by rw [pl] at h1; cases h1
theorem eqvAll_eq : ∀ xs ys : List PyData, plAll xs = true → plAll ys = true → PyData.eqvAll xs ys = true → xs = ys
  | [], [], _, _, _ => rfl
  | [], _ :: _, _, _, h => by rw [PyData.eqvAll] at h; cases h
  | _ :: _, [], _, _, h => by rw [PyData.eqvAll] at h; cases h
  | x :: xs, y :: ys, h1, h2, h => by
    rw [plAll, Bool.and_eq_true] at h1 h2
    rw [PyData.eqvAll, Bool.and_eq_true] at h
    rw [eqv_eq x y h1.1 h2.1 h.1, eqvAll_eq xs ys h1.2 h2.2 h.2]
end
theorem eqv_same {d : PyData} (h : pl d = true) : PyData.eqv d d = true := SeqAt.eqv_refl d (canLay_pl d h)
theorem eqv_ne {d e : PyData} (h1 : pl d = true) (h2 : pl e = true) (h : d ≠ e) : PyData.eqv d e = false := by
  cases q : PyData.eqv d e with
  | false => rfl
  | true => exact absurd (eqv_eq d e h1 h2 q) h
theorem shaped_of {d : PyData} (h : pl d = true) (hd : d.depth ≤ 64) : SeqAt.shaped d = true := by
  unfold SeqAt.shaped
  rw [canLay_pl d h, decide_eq_true hd]
  rfl
/-! ### where data stands -/
/-- what a step may change: not the tuples, not what is locked -/
structure Ext (H H' : Hp) : Prop where
  tup : ∀ b xs, H b = some (.tup xs) → H' b = some (.tup xs)
  frz : ∀ b o u, H b = some (.frz o u) → H' b = some (.frz o u)
theorem Same.ext {H H' : Hp} (s : Same H H') : Ext H H' := ⟨fun b xs e => s b _ e, fun b o u e => s b _ e⟩
theorem Ext.refl (H : Hp) : Ext H H := ⟨fun _ _ e => e, fun _ _ _ e => e⟩
theorem Ext.trans {H H1 H2 : Hp} (a : Ext H H1) (b : Ext H1 H2) : Ext H H2 := ⟨fun c xs e => b.tup c xs (a.tup c xs e), fun c o u e => b.frz c o u (a.frz c o u e)⟩
/-- a list (or a dict ..) is written -/
theorem Ext.wr {H : Hp} {a : Addr} {u o : HO} (e : H a = some u) (h1 : ∀ xs, u ≠ .tup xs) (h2 : ∀ o x, u ≠ .frz o x) : Ext H (upd H a o) :=
  ⟨fun b xs q => by rw [upd_ne (fun z => by rw [z, e] at q; exact h1 xs (Option.some.inj q))]; exact q, fun b ob x q => by rw [upd_ne (fun z => by rw [z, e] at q; exact h2 ob x (Option.some.inj q))]; exact q⟩
theorem Ext.lst {H : Hp} {a : Addr} {xs : List V} {o : HO} (e : H a = some (.lst xs)) : Ext H (upd H a o) := Ext.wr e (fun _ z => nomatch z) (fun _ _ z => nomatch z)
theorem Ext.sqT {K : PySem.W.Frag} {H H' : Hp} (x : Ext H H') {a : Addr} {xs : List V} (h : SqT K H a xs) : SqT K H' a xs := by
  rcases h with (h | ⟨o, h⟩) | h
  · exact .inl (.inl (x.tup _ _ h))
  · exact .inl (.inr ⟨o, x.frz _ _ _ h⟩)
  · exact .inr h
mutual
theorem dp_ext {K : PySem.W.Frag} {H H' : Hp} (x : Ext H H') : ∀ (d : PyData) (v : V), pl d = true → Dp K H v d → Dp K H' v d
  | .none, _, _, h => by cases h; exact .non
  | .int i, _, _, h => by cases h; exact .int i
  | .str z, _, _, h => by cases h; exact .str z
  | .tuple ds, _, hp, h => by
    rw [pl] at hp
    cases h with
    | tup s t => exact .tup (x.sqT s) (dpAll_ext x ds _ hp t)
  | .bool _, _, hp, _ => by rw [pl] at hp; cases hp
  | .list _, _, hp, _ => by rw [pl] at hp; cases hp
  | .dict _, _, hp, _ => by rw [pl] at hp; cases hp
theorem dpAll_ext {K : PySem.W.Frag} {H H' : Hp} (x : Ext H H') : ∀ (ds : List PyData) (vs : List V), plAll ds = true → DpAll K H vs ds → DpAll K H' vs ds
  | [], _, _, h => by cases h; exact .nil
  | d :: ds, _, hp, h => by
    rw [plAll, Bool.and_eq_true] at hp
    cases h with
    | cons a t => exact .cons (dp_ext x d _ hp.1 a) (dpAll_ext x ds _ hp.2 t)
end
/-- the data d stands at v -/
def At (K : PySem.W.Frag) (H : Hp) (v : V) (d : PyData) : Prop := pl d = true ∧ Dp K H v d
theorem At.ext {K : PySem.W.Frag} {H H' : Hp} {v : V} {d : PyData} (h : At K H v d) (x : Ext H H') : At K H' v d := ⟨h.1, dp_ext x _ _ h.1 h.2⟩
theorem At.same {K : PySem.W.Frag} {H H' : Hp} {v : V} {d : PyData} (h : At K H v d) (x : Same H H') : At K H' v d := h.ext (Same.ext x)
def AtAll (K : PySem.W.Frag) (H : Hp) (vs : List V) (ds : List PyData) : Prop := plAll ds = true ∧ DpAll K H vs ds
theorem AtAll.ext {K : PySem.W.Frag} {H H' : Hp} {vs : List V} {ds : List PyData} (h : AtAll K H vs ds) (x : Ext H H') : AtAll K H' vs ds := ⟨h.1, dpAll_ext x _ _ h.1 h.2⟩
theorem AtAll.nil {K : PySem.W.Frag} {H : Hp} : AtAll K H [] [] := ⟨rfl, .nil⟩
theorem AtAll.cons {K : PySem.W.Frag} {H : Hp} {v : V} {vs : List V} {d : PyData} {ds : List PyData} (a : At K H v d) (b : AtAll K H vs ds) : AtAll K H (v :: vs) (d :: ds) := ⟨by rw [plAll, a.1, b.1]; rfl, .cons a.2 b.2⟩
theorem AtAll.len {K : PySem.W.Frag} {H : Hp} : ∀ {vs : List V} {ds : List PyData}, DpAll K H vs ds → vs.length = ds.length
  | _, _, .nil => rfl
  | _, _, .cons _ t => by rw [List.length_cons, List.length_cons, AtAll.len t]
theorem AtAll.snoc {K : PySem.W.Frag} {H : Hp} {v : V} {d : PyData} (a : At K H v d) : ∀ {vs : List V} {ds : List PyData}, AtAll K H vs ds → AtAll K H (vs ++ [v]) (ds ++ [d])
  | _, _, ⟨h, .nil⟩ => AtAll.cons a AtAll.nil
  | _, _, ⟨h, .cons x t⟩ => by
    rw [plAll, Bool.and_eq_true] at h
    exact AtAll.cons ⟨h.1, x⟩ (AtAll.snoc a ⟨h.2, t⟩)
theorem AtAll.get {K : PySem.W.Frag} {H : Hp} : ∀ {vs : List V} {ds : List PyData} {i : Nat} {v : V}, AtAll K H vs ds → vs[i]? = some v → ∃ d, ds[i]? = some d ∧ At K H v d
  | _, _, _, _, ⟨h, .nil⟩, e => by simp at e
  | _, _, 0, _, ⟨h, .cons x t⟩, e => by
    rw [plAll, Bool.and_eq_true] at h
    simp at e; subst e
    exact ⟨_, rfl, h.1, x⟩
  | _, _, i + 1, v, ⟨h, .cons x t⟩, e => by
    rw [plAll, Bool.and_eq_true] at h
    exact AtAll.get (i := i) ⟨h.2, t⟩ (by simpa using e)
theorem AtAll.get' {K : PySem.W.Frag} {H : Hp} {vs : List V} {ds : List PyData} {i : Nat} {d : PyData} (a : AtAll K H vs ds) (e : ds[i]? = some d) : ∃ v, vs[i]? = some v ∧ At K H v d := by
  have hl := AtAll.len a.2
  have hi := (List.getElem?_eq_some_iff.mp e).1
  cases q : vs[i]? with
  | none => exact absurd (List.getElem?_eq_none_iff.mp q) (by omega)
  | some v =>
    obtain ⟨d', e', h⟩ := a.get q
    rw [e] at e'; cases e'
    exact ⟨v, rfl, h⟩
theorem At.int {K : PySem.W.Frag} {H : Hp} (i : Int) : At K H (.int i) (.int i) := ⟨rfl, .int i⟩
theorem At.non {K : PySem.W.Frag} {H : Hp} : At K H .non .none := ⟨rfl, .non⟩
theorem At.str {K : PySem.W.Frag} {H : Hp} {x : Str} (h : PyData.strOk x = true) : At K H (.str x) (.str x) := ⟨h, .str x⟩
theorem At.tup {K : PySem.W.Frag} {H : Hp} {a : Addr} {vs : List V} {ds : List PyData} (h : SqT K H a vs) (d : AtAll K H vs ds) : At K H (.ref a) (.tuple ds) := ⟨by rw [pl]; exact d.1, .tup h d.2⟩
theorem At.tupO {K : PySem.W.Frag} {H : Hp} {a : Addr} {vs : List V} {ds : List PyData} (h : H a = some (.tup vs)) (d : AtAll K H vs ds) : At K H (.ref a) (.tuple ds) := At.tup (SqT.of h) d
/-- what a tuple's data says -/
theorem At.inv {K : PySem.W.Frag} {H : Hp} {v : V} {ds : List PyData} (h : At K H v (.tuple ds)) : ∃ a vs, v = .ref a ∧ SqT K H a vs ∧ AtAll K H vs ds := by
  obtain ⟨h1, h2⟩ := h
  rw [pl] at h1
  cases h2 with
  | tup s d => exact ⟨_, _, rfl, s, h1, d⟩
theorem At.inv_int {K : PySem.W.Frag} {H : Hp} {v : V} {i : Int} (h : At K H v (.int i)) : v = .int i := by
  obtain ⟨_, h2⟩ := h
  cases h2; rfl
theorem At.inv_str {K : PySem.W.Frag} {H : Hp} {v : V} {i : Str} (h : At K H v (.str i)) : v = .str i := by
  obtain ⟨_, h2⟩ := h
  cases h2; rfl
theorem At.inv_none {K : PySem.W.Frag} {H : Hp} {v : V} (h : At K H v .none) : v = .non := by
  obtain ⟨_, h2⟩ := h
  cases h2; rfl
/-! ### any data -/
mutual
theorem dp_same {K : PySem.W.Frag} {H H' : Hp} (x : Same H H') : ∀ (d : PyData) (v : V), Dp K H v d → Dp K H' v d
  | .none, _, h => by cases h; exact .non
  | .int i, _, h => by cases h; exact .int i
  | .str z, _, h => by cases h; exact .str z
  | .bool z, _, h => by cases h; exact .bl z
  | .tuple ds, _, h => by
    cases h with
    | tup s t => exact .tup ((Same.ext x).sqT s) (dpAll_same x ds _ t)
  | .list ds, _, h => by
    cases h with
    | lst s t => exact .lst (x.seq s) (dpAll_same x ds _ t)
  | .dict _, _, h => by cases h
theorem dpAll_same {K : PySem.W.Frag} {H H' : Hp} (x : Same H H') : ∀ (ds : List PyData) (vs : List V), DpAll K H vs ds → DpAll K H' vs ds
  | [], _, h => by cases h; exact .nil
  | d :: ds, _, h => by
    cases h with
    | cons a t => exact .cons (dp_same x d _ a) (dpAll_same x ds _ t)
end
theorem dpAll_get {K : PySem.W.Frag} {H : Hp} : ∀ {vs : List V} {ds : List PyData} {i : Nat} {d : PyData}, DpAll K H vs ds → ds[i]? = some d → ∃ v, vs[i]? = some v ∧ Dp K H v d
  | _, _, _, _, .nil, e => by simp at e
  | _, _, 0, _, .cons x t, e => by simp at e; subst e; exact ⟨_, rfl, x⟩
  | _, _, i + 1, d, .cons x t, e => by
    obtain ⟨v, h1, h2⟩ := dpAll_get (i := i) t (by simpa using e)
    exact ⟨v, by simpa using h1, h2⟩
/-- the class of a piece of data -/
def tyD : PyData → String
  | .none => "NoneType"
  | .bool _ => "bool"
  | .int _ => "int"
  | .str _ => "str"
  | .list _ => "list"
  | .tuple _ => "tuple"
  | .dict _ => "dict"
theorem sqT_ty {K : PySem.W.Frag} {H : Hp} {a : Addr} {xs : List V} (h : SqT K H a xs) : TyX K H (.ref a) (.type "tuple") := by
  rcases h with (h | ⟨o, h⟩) | ⟨o, its, n, h1, h2, _⟩
  · exact .base (.tup h)
  · exact .fTuple h
  · exact .kTuple h1 h2
theorem sqL_ty {K : PySem.W.Frag} {H : Hp} {a : Addr} {xs : List V} (h : SqL K H a xs) : TyX K H (.ref a) (.type "list") := by
  rcases h with (h | ⟨o, h⟩) | ⟨o, its, n, h1, h2, _⟩
  · exact .base (.lst h)
  · exact .base (.frz h)
  · exact .kList h1 h2
theorem tyX_of {K : PySem.W.Frag} {H : Hp} {v : V} {d : PyData} (h : Dp K H v d) : TyX K H v (.type (tyD d)) := by
  cases h with
  | non => exact .base .non
  | bl b => exact .base (.bl b)
  | int i => exact .base (.int i)
  | str x => exact .base (.str x)
  | lst s _ => exact sqL_ty s
  | tup s _ => exact sqT_ty s
def isKind (d : PyData) (T : String) : Bool := (tyD d == T) || (tyD d == "bool" && T == "int")
theorem kit_int (d : PyData) (h : ∀ x, d ≠ .dict x) : kitB (tyD d) "int" = some (isKind d "int") := by cases d <;> first | (exact absurd rfl (h _)) | (simp only [tyD, isKind]; decide +kernel)
theorem kit_bool (d : PyData) (h : ∀ x, d ≠ .dict x) : kitB (tyD d) "bool" = some (isKind d "bool") := by cases d <;> first | (exact absurd rfl (h _)) | (simp only [tyD, isKind]; decide +kernel)
theorem kit_str (d : PyData) (h : ∀ x, d ≠ .dict x) : kitB (tyD d) "str" = some (isKind d "str") := by cases d <;> first | (exact absurd rfl (h _)) | (simp only [tyD, isKind]; decide +kernel)
theorem kit_tuple (d : PyData) (h : ∀ x, d ≠ .dict x) : kitB (tyD d) "tuple" = some (isKind d "tuple") := by cases d <;> first | (exact absurd rfl (h _)) | (simp only [tyD, isKind]; decide +kernel)
theorem dp_nodict {K : PySem.W.Frag} {H : Hp} {v : V} {d : PyData} (h : Dp K H v d) : ∀ x, d ≠ .dict x := fun x e => by subst e; cases h
section
variable {X : Cx}
/-- isinstance(x, T), T one of int, bool, str, tuple -/
def rIsD (K : PySem.W.Frag) : List V → Hp → VK → Prop := fun xs H Q => ∃ x T d, xs = [x, .ty T] ∧ Dp K H x d ∧ (T = "int" ∨ T = "bool" ∨ T = "str" ∨ T = "tuple") ∧ Q (.bl (isKind d T)) H
theorem call_isD : CallR X (.builtin "isinstance") (rIsD X.K) := CallR.imp call_isi fun xs H Q h => by
  obtain ⟨x, T, d, e, hd, ht, q⟩ := h
  refine ⟨x, .ty T, .type (tyD d), .type T, isKind d T, e, .ty T, tyX_of hd, kit_ty ?_, q⟩
  rcases ht with rfl | rfl | rfl | rfl
  · exact kit_int d (dp_nodict hd)
  · exact kit_bool d (dp_nodict hd)
  · exact kit_str d (dp_nodict hd)
  · exact kit_tuple d (dp_nodict hd)
end
/-! ### == of such data -/
section
variable {X : Cx}
def rEqA (K : PySem.W.Frag) : R2 := fun x y H Q => ∃ d e, At K H x d ∧ At K H y e ∧ d.depth ≤ 64 ∧ e.depth ≤ 64 ∧ (d = e → Q (.bl true) H) ∧ (d ≠ e → Q (.bl false) H)
def rNeA (K : PySem.W.Frag) : R2 := fun x y H Q => ∃ d e, At K H x d ∧ At K H y e ∧ d.depth ≤ 64 ∧ e.depth ≤ 64 ∧ (d = e → Q (.bl false) H) ∧ (d ≠ e → Q (.bl true) H)
theorem op_eqA (hu : X.A.units + 64 < cLine) : OpR X (compareOp .Eq) (rEqA X.K) := OpR.imp (op_eqD hu) fun x y H Q h => by
  obtain ⟨d, e, h1, h2, h3, h4, q1, q2⟩ := h
  refine ⟨d, e, h1.2, h2.2, shaped_of h1.1 h3, shaped_of h2.1 h4, ?_⟩
  by_cases he : d = e
  · subst he; rw [eqv_same h1.1]; exact q1 rfl
  · rw [eqv_ne h1.1 h2.1 he]; exact q2 he
theorem op_neA (hu : X.A.units + 64 < cLine) : OpR X (compareOp .NotEq) (rNeA X.K) := OpR.imp (op_neD hu) fun x y H Q h => by
  obtain ⟨d, e, h1, h2, h3, h4, q1, q2⟩ := h
  refine ⟨d, e, h1.2, h2.2, shaped_of h1.1 h3, shaped_of h2.1 h4, ?_⟩
  by_cases he : d = e
  · subst he; rw [eqv_same h1.1]; exact q1 rfl
  · rw [eqv_ne h1.1 h2.1 he]; exact q2 he
end
end Sv

set_option maxHeartbeats 4000000
namespace Sv
open PySem PySem.Spec PyProof.Rows L2 L2H HotX LamX
/-! ### comprehensions by what holds of the list so far -/
/-- how the heap may go on from H1: T; the places that are free at H1 stay as the comprehension has them -/
structure Goes1 (H1 : Hp) (T : Hp → Hp → Prop) : Prop where
  refl : ∀ H, T H1 H → T H H
  rf0 : T H1 H1
  trans : ∀ H H', T H1 H → T H H' → T H1 H'
  put : ∀ D H zs, H1 D = none → T H1 H → T H1 (upd H D (.lst zs))
  keep : ∀ D H H' o, H1 D = none → T H1 H → T H H' → H D = some o → H' D = some o
theorem goes_same (H1 : Hp) : Goes1 H1 Same where
  refl := fun H _ => Same.refl H
  rf0 := Same.refl H1
  trans := fun H H' a b => Same.trans a b
  put := fun D H zs n a b o e => by rw [upd_ne (ne_of_none e n)]; exact a b o e
  keep := fun D H H' o _ _ t e => t D o e
section
variable {J : It} {n : Nat} {G : Hp → Prop} {Y : Nat → Hp → V → Hp → Prop}
theorem lc_J (w : Walk J n G Y) {g : TG} {tt : TT} {te : TE} {vs : List Nat} {σ : L2.St} {H1 : Hp} {Q : Addr → Hp → Prop} (T : Hp → Hp → Prop) (R : Addr → Nat → List V → Hp → Prop) (hT : Goes1 H1 T) (hn : n < sizeLine)
    (hG : ∀ H, T H1 H → G H) (h0 : ∀ D, H1 D = none → R D 0 [] H1) (hR : ∀ D i ys H H', H1 D = none → Ext H H' → (∀ b o, b ≠ D → H b = some o → H' b = some o) → R D i ys H → R D i ys H')
    (step : ∀ D (E : V → Hp → Prop) (E0 : Hp → Prop) i x ys H H', H1 D = none → H D = some (.lst ys) → i < n → T H1 H → R D i ys H → Y i H x H' → (∀ y H4, T H H4 → R D (i + 1) (ys ++ [y]) H4 → E y H4) → (∀ H3, T H H3 → R D (i + 1) ys H3 → E0 H3) →
      g x (wipe σ vs) H' fun σ2 H2 => wipe σ2 vs = wipe σ vs ∧ tt σ2 H2 fun b H3 => if b = true then te σ2 H3 E else E0 H3)
    (fin : ∀ D H ys, H1 D = none → T H1 H → H D = some (.lst ys) → ys.length ≤ n → R D n ys H → Q D H) :
    ∀ D, H1 D = none → ∃ W : Nat → Nat → Hp → Prop, (∃ m, W 0 m (upd H1 D (.lst []))) ∧ ∀ i m H, W i m H →
      (J.stop i H ∧ Q D H) ∨ (J.go i H ∧ ∃ Nx : Hp → Prop, (∀ H', Nx H' → ∃ m', m' < m ∧ W (i + 1) m' H') ∧ ∀ x H', J.yld i H x H' → g x (wipe σ vs) H' fun σ2 H2 => wipe σ2 vs = wipe σ vs ∧ tt σ2 H2 fun b H3 =>
        if b = true then te σ2 H3 fun y H4 => ∃ acc, H4 D = some (.lst acc) ∧ acc.length < sizeLine ∧ Nx (upd H4 D (.lst (acc ++ [y]))) else Nx H3) := by
  intro D hD
  have other : ∀ {H : Hp} {o : HO} (b : Addr) (u : HO), b ≠ D → H b = some u → upd H D o b = some u := fun b u hb e => by rw [upd_ne hb]; exact e
  refine lc_it w (Qd := fun H => Q D H) (fun i H => T H1 H ∧ ∃ ys, H D = some (.lst ys) ∧ ys.length ≤ i ∧ R D i ys H) ⟨hT.put D H1 [] hD hT.rf0, [], upd_same, Nat.le_refl _, hR _ _ _ _ _ hD (Same.ext (same_new hD)) other (h0 D hD)⟩ (fun i H _ h => hG H h.1) ?_ ?_
  · rintro i x H H' hi ⟨t, ys, eD, hl, r⟩ y
    refine step D _ _ i x ys H H' hD eD hi t r y (fun v H4 t4 r4 => ?_) fun H3 t3 r3 => ?_
    · have e4 := hT.keep D _ _ _ hD t t4 eD
      exact ⟨ys, e4, by omega, hT.put D _ _ hD (hT.trans _ _ t t4), ys ++ [v], upd_same, by rw [List.length_append, List.length_singleton]; omega, hR _ _ _ _ _ hD (Ext.lst e4) other r4⟩
    · exact ⟨hT.trans _ _ t t3, ys, hT.keep D _ _ _ hD t t3 eD, by omega, r3⟩
  · rintro H ⟨t, ys, eD, hl, r⟩
    exact fin D H ys hD t eD hl r
end
end Sv

set_option maxHeartbeats 4000000
namespace Sv
open PySem PySem.Spec PyProof.Rows L2 L2H HotX LamX
/-! ### min of a list of pairs of ints -/
section
variable {prog : Program} {w : World} {A : Around} {R : Result → Shared → Prop} {I : Addr} {n : Nat} {P : Nat → Value → Prop} {fp wr : List Addr} {St : Nat → Heap → Prop}
/-- how two of the items compare in every state that bears what h0 bears, but for the iterator and the place S -/
def CmpIn (prog : Program) (w : World) (A : Around) (P : Nat → Value → Prop) (bt : Nat → Nat → Bool) (wr : List Addr) (S : Addr) (h0 : Heap) : Prop :=
  ∀ i j vi vj (s : Shared) (Q : Value → Shared → Prop) (E : Value → Shared → Prop), P i vi → P j vj → (∀ b o, b ∉ wr → b ≠ S → h0.get? b = some o → s.heap.get? b = some o) → Q (.bool (bt i j)) s → wpAny (model prog w) A (richCompare .Lt vi vj) Q E s
theorem min_name : (toString "min" ++ toString ".loop" : String) = "min.loop" := by decide
theorem min_on (W : Walks prog w A.in1 I fp wr n P St) (bt : Nat → Nat → Bool) (S : Addr) (h0 : Heap) (hcmp : CmpIn prog w A.in1 P bt wr S h0) (hSf : S ∉ fp) :
    ∀ (k j : Nat) (s : Shared) (vb : Value) (c : Nat), n - (j + 1) = k → j + 1 ≤ n → St (j + 1) s.heap → P (argBest bt j) vb →
    s.heap.get? S = some { cls := .type "list", dict := none, data := .seq #[vb, vb] c, slots := #[] } → (∀ b o, b ∉ wr → b ≠ S → h0.get? b = some o → s.heap.get? b = some o) →
    (∀ v h' tk, P (argBest bt (n - 1)) v → (∀ b o, b ∉ wr → b ≠ S → h0.get? b = some o → h'.get? b = some o) → R (.ok (.ret v)) { s with heap := h', toks := tk }) →
    codeAny (model prog w) A (.builtin "min.loop" ⟨[.ref I, .none, .ref S], []⟩) R s := by
  have hSw : S ∉ wr := fun h => hSf (W.sub _ h)
  intro k
  induction k with
  | zero =>
    intro j s vb c hk hj hst hPb hS k0 hR
    obtain rfl : n = j + 1 := by omega
    refine codeAny_builtin F.entry_min_loop ?_
    rw [Around.under_plainId F.plain_min_loop _]
    refine (show wpAny _ A.in1 (seqItems? (.ref S) >>= _) _ _ s from wpAny_bind (wpAny_seqItems hS rfl ?_))
    refine (show wpAny _ A.in1 (tryCatch (pyNext (.ref I)) _ >>= _) _ _ s from wpAny_bind (wpAny_tryCatch (W.done s _ _ hst fun h' tk hk' => ?_)))
    refine (show wpAny _ A.in1 (updateSeq S (fun _ => #[]) >>= _) _ _ _ from wpAny_bind ?_)
    refine wpAny_updateSeq (hk' S _ hSw hS) rfl (wpAny_bind (wpAny_letGo (wpAny_pure ?_)))
    exact hR vb _ tk hPb fun b o hbw hbS e => (Heap.get?_update_other _ _ (Ne.symm hbS)).trans (hk' b o hbw (k0 b o hbw hbS e))
  | succ k ih =>
    intro j s vb c hk hj hst hPb hS k0 hR
    have hlt : j + 1 < n := by omega
    refine codeAny_builtin F.entry_min_loop ?_
    rw [Around.under_plainId F.plain_min_loop _]
    refine (show wpAny _ A.in1 (seqItems? (.ref S) >>= _) _ _ s from wpAny_bind (wpAny_seqItems hS rfl ?_))
    refine (show wpAny _ A.in1 (tryCatch (pyNext (.ref I)) _ >>= _) _ _ s from wpAny_bind (wpAny_tryCatch (W.item (j + 1) s _ _ hlt hst fun v h' tk hP hst' hk' => ?_)))
    have hS' := hk' S _ hSw hS
    have k1 : ∀ b o, b ∉ wr → b ≠ S → h0.get? b = some o → h'.get? b = some o := fun b o hbw hbS e => hk' b o hbw (k0 b o hbw hbS e)
    refine (show wpAny _ A.in1 (tryCatch (holding [v, v] (richCompare .Lt v vb >>= _)) _ >>= _) _ _ _ from
      wpAny_bind (wpAny_tryCatch (wpAny_holding (wpAny_bind (hcmp (j + 1) (argBest bt j) v vb _ _ _ hP hPb k1 ?_)))))
    refine wpAny_bind (wpAny_holding (wpAny_truthy_bool (wpAny_bind (wpAny_letGo (wpAny_pure ?_)))))
    cases hb : bt (j + 1) (argBest bt j) with
    | true =>
      simp only [if_true]
      refine wpAny_bind (wpAny_updateSeq hS' rfl (wpAny_bind (wpAny_letGo ?_)))
      rw [min_name]
      refine wpAny_pure ⟨plainId_quiet F.plain_min_loop _, ih (j + 1) _ v _ (by omega) hlt (W.frame _ _ _ hst' fun b hbf o e => ?_) (by simp only [argBest, hb, if_true]; exact hP) (Heap.get?_update_self _ hS' rfl) (fun b o hbw hbS e => ?_)
        fun v' h'' tk'' hP' hk'' => hR v' h'' tk'' hP' hk''⟩
      · exact (Heap.get?_update_other _ _ (fun h : S = b => hSf (by rw [h]; exact hbf))).trans e
      · exact (Heap.get?_update_other _ _ (Ne.symm hbS)).trans (k1 b o hbw hbS e)
    | false =>
      simp only [Bool.false_eq_true, if_false]
      refine wpAny_bind (wpAny_letGo ?_)
      rw [min_name]
      exact wpAny_pure ⟨plainId_quiet F.plain_min_loop _, ih (j + 1) _ vb c (by omega) hlt hst' (by simp only [argBest, hb, Bool.false_eq_true, if_false]; exact hPb) hS' k1 fun v' h'' tk'' hP' hk'' => hR v' h'' tk'' hP' hk''⟩
end
section
variable {prog : Program} {w : World} {A : Around} {E : Value → Shared → Prop} {s : Shared}
theorem call_min_in {x : Value} {Q : Value → Shared → Prop}
    (h : wpAny (model prog w) A.in1 (pyIter x) (fun it s₂ => ∃ I fp wr n P St bt, it = .ref I ∧ Walks prog w A.in1 I fp wr n P St ∧ St 0 s₂.heap ∧ (∀ b ∈ fp, b < s₂.heap.objs.size) ∧ 0 < n ∧ CmpIn prog w A.in1 P bt wr s₂.heap.objs.size s₂.heap ∧
      ∀ v h' tk, P (argBest bt (n - 1)) v → (∀ b o, b ∉ wr → s₂.heap.get? b = some o → h'.get? b = some o) → Q v { s₂ with heap := h', toks := tk }) E s) :
    wpAny (model prog w) A (call (.builtin "min") [x]) Q E s := by
  refine call_function_tree F.kind_min F.plain_min F.entry_min (F.args_min1 _) ?_
  refine (show wpAny _ A.in1 (Builtin.Builtins.bindParams "min" ["key", "default"] 0 ⟨[], []⟩ >>= _) _ _ s from wpAny_bind (wpAny_of_eq (a := [none, none]) rfl (wpAny_bind (wpAny_pure ?_))))
  refine wpAny_bind (wpAny_mono h (fun it s₂ h₂ => ?_) fun _ _ e => e)
  obtain ⟨I, fp, wr, n, P, St, bt, rfl, W, hst, hfp, hn, hcmp, hQ⟩ := h₂
  refine wpAny_bind (wpAny_newObj_type ?_)
  have hSf : s₂.heap.objs.size ∉ fp := fun hm => Nat.lt_irrefl _ (hfp _ hm)
  have hSw : s₂.heap.objs.size ∉ wr := fun h => hSf (W.sub _ h)
  rw [min_name]
  refine wpAny_pure ⟨plainId_quiet F.plain_min_loop _, codeAny_builtin F.entry_min_loop ?_⟩
  rw [Around.under_plainId F.plain_min_loop _]
  refine (show wpAny _ A.in1 (seqItems? (.ref s₂.heap.objs.size) >>= _) _ _ _ from wpAny_bind (wpAny_seqItems (Heap.get?_push_size _ rfl) rfl ?_))
  refine (show wpAny _ A.in1 (tryCatch (pyNext (.ref I)) _ >>= _) _ _ _ from wpAny_bind (wpAny_tryCatch (W.item 0 _ _ _ hn (W.frame _ _ _ hst fun b _ o e => Heap.get?_push_of_some _ e) fun v h' tk hP hst' hk' => ?_)))
  have hS' := hk' s₂.heap.objs.size _ hSw (Heap.get?_push_size _ rfl)
  refine (show wpAny _ A.in1 (updateSeq s₂.heap.objs.size (fun _ => #[v, v]) >>= _) _ _ _ from wpAny_bind (wpAny_updateSeq hS' rfl ?_))
  rw [min_name]
  refine wpAny_pure ⟨plainId_quiet F.plain_min_loop _, min_on W bt s₂.heap.objs.size s₂.heap hcmp hSf _ 0 _ v _ rfl hn (W.frame _ _ _ hst' fun b hbf o e => ?_) hP (Heap.get?_update_self _ hS' rfl) (fun b o hbw hbS e => ?_) fun v' h'' tk'' hP' hk'' => ?_⟩
  · exact (Heap.get?_update_other _ _ (fun h : s₂.heap.objs.size = b => hSf (by rw [h]; exact hbf))).trans e
  · exact (Heap.get?_update_other _ _ (Ne.symm hbS)).trans (hk' b o hbw (Heap.get?_push_of_some _ e))
  · exact hQ v' h'' tk'' hP' fun b o hbw e => hk'' b o hbw (Nat.ne_of_lt (Heap.lt_size e)) e
end
/-- what argBest finds: none is less -/
theorem argBest_min (bt : Nat → Nat → Bool) (tr : ∀ i j k, bt i j = false → bt j k = false → bt i k = false) (as : ∀ i j, bt i j = true → bt j i = false) (ir : ∀ i, bt i i = false) :
    ∀ k, argBest bt k ≤ k ∧ ∀ j, j ≤ k → bt j (argBest bt k) = false
  | 0 => ⟨Nat.le_refl _, fun j hj => by
      obtain rfl : j = 0 := by omega
      exact ir _⟩
  | k + 1 => by
    obtain ⟨h1, h2⟩ := argBest_min bt tr as ir k
    rw [argBest]
    cases hb : bt (k + 1) (argBest bt k) with
    | true =>
      rw [if_pos rfl]
      refine ⟨Nat.le_refl _, fun j hj => ?_⟩
      by_cases e : j = k + 1
      · rw [e]; exact ir _
      · exact tr _ _ _ (h2 j (by omega)) (as _ _ hb)
    | false =>
      rw [if_neg Bool.false_ne_true]
      refine ⟨by omega, fun j hj => ?_⟩
      by_cases e : j = k + 1
      · rw [e]; exact hb
      · exact h2 j (by omega)
theorem lex2 (x1 y1 x2 y2 : Int) : HT.lexLt [x1, y1] [x2, y2] = decide (x1 < x2 ∨ (x1 = x2 ∧ y1 < y2)) := by
  rw [HT.lexLt_cons]
  by_cases h : x1 = x2
  · rw [if_pos h, HT.lexLt_cons]
    by_cases h2 : y1 = y2
    · rw [if_pos h2, HT.lexLt_nil_nil, decide_eq_false (by omega)]
    · rw [if_neg h2]
      by_cases h3 : y1 < y2
      · rw [decide_eq_true h3, decide_eq_true (by omega)]
      · rw [decide_eq_false h3, decide_eq_false (by omega)]
  · rw [if_neg h]
    by_cases h3 : x1 < x2
    · rw [decide_eq_true h3, decide_eq_true (by omega)]
    · rw [decide_eq_false h3, decide_eq_false (by omega)]
section
variable {X : Cx}
/-- min of a list of pairs of ints: one of them, none is less -/
def rMinP (K : PySem.W.Frag) : List V → Hp → VK → Prop := fun vs H Q => ∃ (a : Addr) (ps : List Addr) (xs : List (Int × Int)), vs = [.ref a] ∧ SqL K H a (ps.map V.ref) ∧ ps.length = xs.length ∧ 0 < xs.length ∧
  (∀ (i : Nat) (p : Addr) (x : Int × Int), ps[i]? = some p → xs[i]? = some x → SqT K H p [.int x.1, .int x.2]) ∧
  ∀ p x, SqT K H p [.int x.1, .int x.2] → x ∈ xs → (∀ y ∈ xs, ¬ (y.1 < x.1 ∨ (y.1 = x.1 ∧ y.2 < x.2))) → Q (.ref p) H
theorem cr_minP (hc : X.calm = true) (hu : X.A.units + 64 < cLine) : CallR X (.builtin "min") (rMinP X.K) := by
  intro pins s σ H vs us Q I r h
  obtain ⟨a, ps, xs, rfl, hS, hlen, hpos, hT, q⟩ := h
  obtain ⟨its, rv, hl, _⟩ := I.list hS
  rw [Vals.ref1 r]
  have hits : its = ps.map Value.ref := by
    have : ∀ {ps : List Addr} {its : List Value}, Vals (ps.map V.ref) its → its = ps.map Value.ref := by
      intro ps
      induction ps with
      | nil => intro its h; cases h; rfl
      | cons p t ih => intro its h; cases h with | cons r1 r2 => rw [show _ = Value.ref p from r1, ih r2]; rfl
    exact this rv
  have hlt : a < s.heap.objs.size := by obtain ⟨_, _, e, _⟩ := hl; exact Heap.lt_size e
  refine call_min_in (wpAny_pyIter_list hl.isList ?_)
  let g : Nat → Int × Int := fun i => xs[i]?.getD (0, 0)
  refine ⟨s.heap.objs.size, _, _, _, _, _, fun i j => HT.lexLt [(g i).1, (g i).2] [(g j).1, (g j).2], rfl, Walks.list (A := X.A.in1) (I.ok.hd hc) _ a (Nat.ne_of_lt hlt) its.toArray, ⟨⟨_, Heap.get?_push_size _ rfl, rfl, rfl⟩, hl.isList.push _⟩, ?_, ?_, ?_, ?_⟩
  · intro b hb
    show b < (s.heap.push _).objs.size
    rw [Heap.size_push]
    rcases List.mem_cons.mp hb with z | hb
    · rw [z]; exact Nat.lt_succ_self _
    · rw [List.mem_singleton.mp hb]; exact Nat.lt_succ_of_lt hlt
  · rw [hits]; simp; omega
  · have at_ : ∀ {i : Nat} {v : Value}, its.toArray[i]? = some v → ∃ p x, v = .ref p ∧ xs[i]? = some x ∧ SqT X.K H p [.int x.1, .int x.2] := by
      intro i v hv
      have hv : its[i]? = some v := by simpa using hv
      rw [hits, List.getElem?_map] at hv
      cases e : ps[i]? with
      | none => rw [e] at hv; cases hv
      | some p =>
        rw [e] at hv
        have hi : i < xs.length := by rw [← hlen]; exact (List.getElem?_eq_some_iff.mp e).1
        exact ⟨p, xs[i], (Option.some.inj hv).symm, List.getElem?_eq_getElem hi, hT i p _ e (List.getElem?_eq_getElem hi)⟩
    intro i j vi vj s' Q' E' h1 h2 k hq
    obtain ⟨p1, x1, rfl, e1, t1⟩ := at_ h1
    obtain ⟨p2, x2, rfl, e2, t2⟩ := at_ h2
    obtain ⟨i1, r1, u1, _⟩ := I.tuple t1
    obtain ⟨i2, r2, u2, _⟩ := I.tuple t2
    have up : ∀ b o, s.heap.get? b = some o → s'.heap.get? b = some o := fun b o e => by
      have hb := Heap.lt_size e
      refine k b o (fun z => by rw [List.mem_singleton.mp z] at hb; exact Nat.lt_irrefl _ hb) (fun z => ?_) (Heap.get?_push_of_some _ e)
      have z : b = s.heap.objs.size + 1 := by rw [z]; exact Heap.size_push ..
      rw [z] at hb
      exact absurd hb (Nat.not_lt.mpr (Nat.le_succ _))
    have f1 : g i = x1 := by show xs[i]?.getD (0, 0) = _; rw [e1]; rfl
    have f2 : g j = x2 := by show xs[j]?.getD (0, 0) = _; rw [e2]; rfl
    have keepT : ∀ {p : Addr} {its : Array Value}, IsTup s.heap p its → IsTup s'.heap p its := fun ⟨o, e, c⟩ => ⟨o, up _ _ e, c⟩
    exact HT.lt_tupInts (keepT u1) (keepT u2) (Vals.ints (ns := [x1.1, x1.2]) r1) (Vals.ints (ns := [x2.1, x2.2]) r2) (by show X.A.units + 1 < cLine; omega) (by rw [← f1, ← f2]; exact hq)
  · intro v h' tk hv hk
    have hsz : its.toArray.size = xs.length := by rw [hits]; simp; exact hlen
    have lx : ∀ i j, HT.lexLt [(g i).1, (g i).2] [(g j).1, (g j).2] = decide ((g i).1 < (g j).1 ∨ ((g i).1 = (g j).1 ∧ (g i).2 < (g j).2)) := fun i j => lex2 _ _ _ _
    obtain ⟨b1, b2⟩ := argBest_min (fun i j => HT.lexLt [(g i).1, (g i).2] [(g j).1, (g j).2]) (fun i j k h1 h2 => by
        rw [lx, decide_eq_false_iff_not] at h1 h2 ⊢; omega) (fun i j h => by
        rw [lx, decide_eq_true_eq] at h; rw [lx, decide_eq_false_iff_not]; omega) (fun i => by rw [lx, decide_eq_false_iff_not]; omega) (xs.length - 1)
    rw [hsz] at hv
    have hv : its[argBest (fun i j => HT.lexLt [(g i).1, (g i).2] [(g j).1, (g j).2]) (xs.length - 1)]? = some v := by simpa using hv
    generalize argBest (fun i j => HT.lexLt [(g i).1, (g i).2] [(g j).1, (g j).2]) (xs.length - 1) = m at hv b1 b2
    have hm : m < xs.length := by omega
    have em : xs[m]? = some xs[m] := List.getElem?_eq_getElem hm
    have eg : g m = xs[m] := by show xs[m]?.getD (0, 0) = _; rw [em]; rfl
    rw [hits, List.getElem?_map] at hv
    cases e : ps[m]? with
    | none => rw [e] at hv; cases hv
    | some p =>
      rw [e] at hv
      obtain rfl : v = Value.ref p := (Option.some.inj hv).symm
      have up : ∀ b o, s.heap.get? b = some o → h'.get? b = some o := fun b o e => hk b o (fun z => by have hb := Heap.lt_size e; rw [List.mem_singleton.mp z] at hb; exact Nat.lt_irrefl _ hb) (Heap.get?_push_of_some _ e)
      refine ⟨.ref p, H, I.kept up, rfl, q p xs[m] (hT m p _ e em) (List.getElem_mem hm) fun y hy => ?_⟩
      obtain ⟨j, hj, rfl⟩ := List.getElem_of_mem hy
      have := b2 j (by omega)
      rw [lx, decide_eq_false_iff_not] at this
      have eg2 : g j = xs[j] := by show xs[j]?.getD (0, 0) = _; rw [List.getElem?_eq_getElem hj]; rfl
      rw [eg, eg2] at this
      exact this
/-- list(range(..)) -/
def tLstRgN (te : L2.St → Hp → (Int → Int → Hp → Prop) → Prop) : TE := fun σ H Q => te σ H fun a b H1 => RgOk a b ∧ NewQ H1 (.lst (rgV a b)) Q
theorem pe_listRgN {e : Expr} {te : L2.St → Hp → (Int → Int → Hp → Prop) → Prop} {p pos : Pos} (hc : X.calm = true) (hg : Gl X "list") (hm : X.mg "list" = none) (he : PRg X e te) (na : starEach [e] X.env = (false, eval e X.env) :: starEach [] X.env := by rfl) :
    PE X (.Call (.Name "list" p) [e] [] pos) (tLstRgN te) := by
  refine ⟨fun pins s σ H Q I h => ?_⟩
  refine Call_ (ld_blt I hg hm boot_list (PyProof.Rows.callWith_type1 (args_cons (thn (he pins s σ H _ I h) fun x s1 hx => args_nil ?_) na) na))
  obtain ⟨r, a, b, t, u, v, H1, rfl, hr, I1, ⟨b1, b2, b3, b4, b5⟩, q⟩ := hx
  refine call_list_range (n := (b - a).toNat) (I1.ok.hd hc) hr (small_one b1 b2 b3 b4) (rangeSize_nat a b) b5 fun h' tk acc c' hk e' hi => ?_
  have ob : ObjOk X.prog X.w (upd H1 s1.heap.objs.size (.lst (rgV a b))) h' s1.heap.objs.size (.lst (rgV a b)) := ⟨by rw [rgV_length, sizeLine_eq]; omega, acc.toList, c', vals_rg hi, by rw [Array.toArray_toList]; exact e'⟩
  exact ⟨.ref s1.heap.objs.size, _, I1.laid hk (Nat.le_refl _) ob, rfl, q.use _ I1.fresh⟩
end
end Sv

set_option maxHeartbeats 4000000
namespace Sv
open PySem PySem.Spec PyProof.Rows L2 L2H HotX LamX
/-! ### the rules with the written part K told (so that a comprehension's reading is one for all its states) -/
section
variable {X : Cx} (K : PySem.W.Frag)
theorem ix_listK (h : X.K = K := by rfl) : IxR X (rIxL K) := h ▸ ix_list
theorem ix_tupK (h : X.K = K := by rfl) : IxR X (rIxT K) := h ▸ ix_tup
theorem op_in_seqK (h : X.K = K := by rfl) : OpR X (compareOp .In) (rIn K false) := h ▸ op_in_seq
theorem op_notIn_seqK (h : X.K = K := by rfl) : OpR X (compareOp .NotIn) (rIn K true) := h ▸ op_notIn_seq
def rLenS (K : PySem.W.Frag) : List V → Hp → VK → Prop := fun xs H Q => ∃ p ys, xs = [.ref p] ∧ (SqL K H p ys ∨ SqT K H p ys) ∧ Q (.int ys.length) H
theorem call_len_seqK (h : X.K = K := by rfl) : CallR X (.builtin "len") (rLenS K) := by subst h; exact call_len_seq
theorem op_eqAK (hu : X.A.units + 64 < cLine) (h : X.K = K := by rfl) : OpR X (compareOp .Eq) (rEqA K) := h ▸ op_eqA hu
theorem op_neAK (hu : X.A.units + 64 < cLine) (h : X.K = K := by rfl) : OpR X (compareOp .NotEq) (rNeA K) := h ▸ op_neA hu
theorem op_eqDK (hu : X.A.units + 64 < cLine) (h : X.K = K := by rfl) : OpR X (compareOp .Eq) (rEqD K) := h ▸ op_eqD hu
theorem op_neDK (hu : X.A.units + 64 < cLine) (h : X.K = K := by rfl) : OpR X (compareOp .NotEq) (rNeD K) := h ▸ op_neD hu
theorem call_isDK (h : X.K = K := by rfl) : CallR X (.builtin "isinstance") (rIsD K) := h ▸ call_isD
def rTupleN (K : PySem.W.Frag) : List V → Hp → VK → Prop := fun xs H Q => ∃ p ys, xs = [.ref p] ∧ SqL K H p ys ∧ NewQ H (.tup ys) Q
theorem call_tupleK (h : X.K = K := by rfl) : CallR X (.type "tuple") (rTupleN K) := by subst h; exact call_tupleN
def rListN (K : PySem.W.Frag) : List V → Hp → VK → Prop := fun xs H Q => ∃ p ys, xs = [.ref p] ∧ (SqL K H p ys ∨ SqT K H p ys) ∧ NewQ H (.lst ys) Q
theorem call_listK (h : X.K = K := by rfl) : CallR X (.type "list") (rListN K) := by subst h; exact call_listN
theorem sl_listK (h : X.K = K := by rfl) : SlR X (rSlLN K) := h ▸ sl_listN
/-- t + u of tuples -/
def rCatAN (K : PySem.W.Frag) : R2 := fun x y H Q => ∃ a b xs ys, x = .ref a ∧ y = .ref b ∧ SqT K H a xs ∧ SqT K H b ys ∧ xs.length + ys.length ≤ sizeLine ∧
  (∀ c H', Same H H' → SqT K H' c (xs ++ ys) → Q (.ref c) H')
theorem op_catAK (h : X.K = K := by rfl) : OpR X (binaryOp .Add) (rCatAN K) := by
  subst h
  refine OpR.imp op_catA fun x y H Q hh => ?_
  obtain ⟨a, b, xs, ys, e1, e2, h1, h2, h3, q⟩ := hh
  refine ⟨a, b, xs, ys, e1, e2, h1, h2, h3, fun e => ?_, fun _ e => ?_, fun _ _ p np => ?_⟩
  · subst e; exact q b H (Same.refl H) h2
  · subst e; exact q a H (Same.refl H) (by rw [List.append_nil]; exact h1)
  · exact q p _ (same_new np) (SqT.of upd_same)
/-- t[lo:hi] of a tuple -/
def rSlAN (K : PySem.W.Frag) : V → Option Int → Option Int → Hp → VK → Prop := fun x lo hi H Q => ∃ a xs, x = .ref a ∧ SqT K H a xs ∧ (∀ c H', Same H H' → SqT K H' c (cutV xs lo hi) → Q (.ref c) H')
theorem sl_tupK (h : X.K = K := by rfl) : SlR X (rSlAN K) := by
  subst h
  refine SlR.imp sl_tupA fun x lo hi H Q hh => ?_
  obtain ⟨a, xs, e1, h1, q⟩ := hh
  refine ⟨a, xs, e1, h1, fun e => ?_, fun _ p np => ?_⟩
  · refine q a H (Same.refl H) ?_
    have : cutV xs lo hi = xs := by
      unfold cutV
      rw [e.1, e.2, List.drop_zero, Nat.sub_zero, List.take_length]
    rw [this]; exact h1
  · exact q p _ (same_new np) (SqT.of upd_same)
theorem cr_anyK (hc : X.calm = true) (h : X.K = K := by rfl) : CallR X (.builtin "any") (rAny K) := h ▸ cr_any hc
theorem cr_allK (hc : X.calm = true) (h : X.K = K := by rfl) : CallR X (.builtin "all") (rAll K) := h ▸ cr_all hc
theorem cr_sumK (hc : X.calm = true) (h : X.K = K := by rfl) : CallR X (.builtin "sum") (rSum K) := h ▸ cr_sum hc
theorem cr_maxK (hc : X.calm = true) (h : X.K = K := by rfl) : CallR X (.builtin "max") (rMax K) := h ▸ cr_max hc
theorem cr_minK (hc : X.calm = true) (h : X.K = K := by rfl) : CallR X (.builtin "min") (rMin K) := h ▸ cr_min hc
theorem cr_minPK (hc : X.calm = true) (hu : X.A.units + 64 < cLine) (h : X.K = K := by rfl) : CallR X (.builtin "min") (rMinP K) := h ▸ cr_minP hc hu
theorem mt_indexK (h : X.K = K := by rfl) : MtR X "list.index" (rIndex K) := h ▸ mt_index
theorem pg_tupK {es : List Expr} {k : Nat} {t : TGs} {n : Nat} {pos : Pos} (hc : X.calm = true) (h : PGs X es t) (hn : (assignEach es X.env).length = n := by rfl) (hst : (assignEach es X.env).findIdx? (·.1) = none := by rfl) (he : X.K = K := by rfl) :
    PG X (.Tuple es k pos) (gTup K n t) := he ▸ pg_tup hc h hn hst
theorem pi_listK {tg l : Expr} {tl : TE} (hl : PE X l tl) (h : X.K = K := by rfl) : PI X tg l (iList K tl) := h ▸ pi_list hl
theorem pi_tupK {tg l : Expr} {tl : TE} (hl : PE X l tl) (h : X.K = K := by rfl) : PI X tg l (iTup K tl) := h ▸ pi_tup hl
theorem op_repTK (h : X.K = K := by rfl) : OpR X (binaryOp .Mult) (rRepT K) := h ▸ op_repT
/-! ### the law's own heap: tables of code objects beside the rest -/
theorem extN_ext {H H1 : Hp} (x : ExtN H H1) : Ext H H1 := ⟨fun b xs e => x b _ e (fun _ z => nomatch z), fun b o u e => x b _ e (fun _ z => nomatch z)⟩
theorem same_extN {H H1 : Hp} (x : Same H H1) : ExtN H H1 := fun b o e _ => x b o e
theorem tabs_keep {T : List (Addr × Str)} {H H' : Hp} {d : Addr} {xs : List V} (t : Tabs T H) (e : H d = some (.lst xs)) (k : ∀ b o, H b = some o → b ≠ d → H' b = some o) : Tabs T H' := fun p hp => by
  obtain ⟨ps, h1, h2, h3⟩ := t p hp
  refine ⟨ps, k _ _ h1 (ne_of h1 e fun z => nomatch z), h2, fun pos cv hc => ?_⟩
  obtain ⟨c, e1, e2⟩ := h3 pos cv hc
  exact ⟨c, e1, k _ _ e2 (ne_of e2 e fun z => nomatch z)⟩
/-- a list of ints against [] -/
theorem dpAll_intsL {H : Hp} : ∀ ns : List Int, DpAll K H (ns.map V.int) (ns.map PyData.int)
  | [] => .nil
  | n :: ns => .cons (.int n) (dpAll_intsL ns)
theorem lay_intsL : ∀ ns : List Int, PyData.canLayAll0 (ns.map PyData.int) = true
  | [] => rfl
  | n :: ns => by show (true && _) = true; rw [lay_intsL ns]; rfl
theorem depth_intsL : ∀ ns : List Int, PyData.depthAll (ns.map PyData.int) = 0
  | [] => rfl
  | n :: ns => by show max 0 _ = 0; rw [depth_intsL ns]; rfl
theorem shaped_intsL (ns : List Int) : SeqAt.shaped (.list (ns.map PyData.int)) = true := by
  unfold SeqAt.shaped
  rw [show PyData.canLay0 (.list (ns.map PyData.int)) = PyData.canLayAll0 (ns.map PyData.int) from rfl, lay_intsL, show PyData.depth (.list (ns.map PyData.int)) = PyData.depthAll (ns.map PyData.int) + 1 from rfl, depth_intsL]
  rfl
def rNeNil (K : PySem.W.Frag) : R2 := fun x y H Q => ∃ a b ns, x = .ref a ∧ y = .ref b ∧ SqL K H a (ns.map V.int) ∧ SqL K H b [] ∧ (ns = [] → Q (.bl false) H) ∧ (ns ≠ [] → Q (.bl true) H)
theorem op_neNilK (hu : X.A.units + 64 < cLine) (h : X.K = K := by rfl) : OpR X (compareOp .NotEq) (rNeNil K) := OpR.imp (op_neDK K hu h) fun x y H Q h => by
  obtain ⟨a, b, ns, rfl, rfl, h1, h2, q1, q2⟩ := h
  refine ⟨.list (ns.map PyData.int), .list [], .lst h1 (dpAll_intsL K ns), .lst h2 .nil, shaped_intsL ns, rfl, ?_⟩
  cases ns with
  | nil => exact q1 rfl
  | cons n t => exact q2 (fun z => nomatch z)
/-- a cut between two statements: what holds there is chosen -/
def tCut (t u : TS) : TS := fun D σ H => ∃ J : L2.St → Hp → Prop, t { D with nx := J } σ H ∧ ∀ σ' H', J σ' H' → u D σ' H'
theorem pss_cut {st : Stmt} {rest : List Stmt} {t u : TS} (h1 : PS X st t) (h2 : PSs X rest u) : PSs X (st :: rest) (tCut t u) := by
  refine ⟨fun pins s σ H D I h => ?_⟩
  obtain ⟨J, h, hJ⟩ := h
  refine wpAny_execs_cons (thn (h1.run pins s σ H { D with nx := J } I h) fun f s1 q => ?_)
  cases f with
  | next =>
    obtain ⟨σ', H', I', q⟩ := q
    exact h2.run pins s1 σ' H' D I' (hJ _ _ q)
  | ret v => exact q
  | brk => exact q
  | cont => exact q
end
end Sv

set_option maxHeartbeats 4000000
namespace Sv
open PySem PySem.Spec PyProof.Rows L2 L2H HotX LamX
/-! ### the text: where its defs stand -/
def topS (i : Nat) : Stmt := PySem.Challenge.pw_stemvalues_k13_whole_simplest.main.body.getD i (.Pass ⟨0, 0, 0, 0⟩)
abbrev s_is_whole : Stmt := topS 13
abbrev s_is_number : Stmt := topS 15
abbrev s_need_number : Stmt := topS 16
abbrev s_is_under : Stmt := topS 17
abbrev s_simplest : Stmt := topS 18
abbrev s_best_integer : Stmt := topS 19
abbrev s_law_cell : Stmt := topS 21
abbrev s_law_drawn : Stmt := topS 22
abbrev s_law_roll : Stmt := topS 23
abbrev s_law_rounds : Stmt := topS 24
abbrev s_law_term : Stmt := topS 25
abbrev s_law_told : Stmt := topS 26
abbrev s_law_lowest : Stmt := topS 27
abbrev s_law_between : Stmt := topS 28
abbrev s_law : Stmt := topS 29
end Sv

set_option maxHeartbeats 4000000
namespace Sv
open PySem PySem.Spec PyProof.Rows L2 L2H HotX LamX
/-- the builtins' names are the builtins' still -/
structure Blt (mg : Str → Option Value) : Prop where
  len : mg "len" = none
  range : mg "range" = none
  max : mg "max" = none
  min : mg "min" = none
  isinstance : mg "isinstance" = none
  int : mg "int" = none
  sum : mg "sum" = none
  any : mg "any" = none
  all : mg "all" = none
  sorted : mg "sorted" = none
  set : mg "set" = none
  tuple : mg "tuple" = none
  list : mg "list" = none
  enumerate : mg "enumerate" = none
  str : mg "str" = none
  abs : mg "abs" = none
  bool : mg "bool" = none
  ve : mg "ValueError" = none
def bltB (K : PySem.W.Frag) : Bool := (["len", "range", "max", "min", "isinstance", "int", "sum", "any", "all", "sorted", "set", "tuple", "list", "enumerate", "str", "abs", "bool", "ValueError"] : List Str).all fun x => PySem.W.nsIn K mainGlobals x == some none
theorem blt_of {K : PySem.W.Frag} {mg : Str → Option Value} {h : Heap} (X : K.In h) (G : h.Ns mainGlobals mg) (e : bltB K = true) : Blt mg := by
  unfold bltB at e
  simp only [List.all_cons, List.all_nil, Bool.and_true, Bool.and_eq_true, beq_iff_eq] at e
  obtain ⟨h1, h2, h3, h4, h5, h6, h7, h8, h9, h10, h11, h12, h13, h14, h15, h16, h17, h18⟩ := e
  have n : ∀ {x : Str}, PySem.W.nsIn K mainGlobals x = some none → mg x = none := fun e => PySem.W.mg_none_of X G e
  exact ⟨n h1, n h2, n h3, n h4, n h5, n h6, n h7, n h8, n h9, n h10, n h11, n h12, n h13, n h14, n h15, n h16, n h17, n h18⟩
section
variable {P : Program} {w : World} {K : PySem.W.Frag} {mg : Str → Option Value} {base : Heap} {C : Nat → Addr} {CS : Addr}
/-! ### _law_term -/
theorem scTerm : FnScope ["e", "flags", "kinds"] ["e"] (defScope s_law_term) := ⟨rfl, rfl, rfl, by decide +kernel, rfl, by decide +kernel, by decide +kernel⟩
theorem k_term (F : Here K mg "_law_term" s_law_term) (B : Blt mg) (X : Excs K mg C CS) {a : Addr} {oe : Obj} {i : Nat} (hi : i < 10) (hz : Zc (.ref (C i)) none oe) (hf : ∃ vs, oe.data = .fields vs) :
    KeepsP P w K mg base (a, oe) 1 "_law_term" ["e"] (spTerm a i) := by
  refine keepsP F scTerm (fun _ _ _ _ _ _ us hl => match us, hl with | [_], _ => rfl) (fun vs H Q E h => by rw [h.1]; rfl) fun f cdv A outer s H vs Q E hot hr h => ?_
  obtain ⟨rfl, q⟩ := h
  have hC : HotC (cxH CX0 P w K mg base ["e", "flags", "kinds"] "_law_term" (defScope s_law_term) f cdv A outer s H E (a, oe)) := ⟨(a, oe), hot, List.mem_singleton.mpr rfl⟩
  have is : CallR (cxH CX0 P w K mg base ["e", "flags", "kinds"] "_law_term" (defScope s_law_term) f cdv A outer s H E (a, oe)) (.builtin "isinstance") (rIsE K (C i) a) := call_isP (X.cls i hi) (List.mem_singleton.mpr rfl) hz hf
  have g : ∀ j x, excNames[j]? = some x → mg x = some (.ref (C j)) := fun j x hx => (X.one j x hx).g
  refine ⟨_, pss_cons (st 1 scTerm.nd (pe_lstN (pa3 (pb is B.isinstance boot_isinstance (pa2 (pv 0) (pgl (g 0 _ rfl)))) (pb is B.isinstance boot_isinstance (pa2 (pv 0) (pgl (g 1 _ rfl)))) (pb is B.isinstance boot_isinstance (pa2 (pv 0) (pgl (g 2 _ rfl)))))))
    (pss_cons (st 1 scTerm.nd (pe_op op_catN (pv 1) (pe_lstN (pa3 (pb is B.isinstance boot_isinstance (pa2 (pv 0) (pgl (g 3 _ rfl)))) (pb is B.isinstance boot_isinstance (pa2 (pv 0) (pgl (g 4 _ rfl)))) (pb is B.isinstance boot_isinstance (pa2 (pv 0) (pgl (g 5 _ rfl))))))))
    (pss_cons (st 1 scTerm.nd (pe_op op_catN (pv 1) (pe_lstN (pa3 (pb is B.isinstance boot_isinstance (pa2 (pv 0) (pgl (g 6 _ rfl)))) (pb is B.isinstance boot_isinstance (pa2 (pv 0) (pgl (g 7 _ rfl)))) (pb is B.isinstance boot_isinstance (pa2 (pv 0) (pgl (g 8 _ rfl))))))))
    (pss_cons (st 1 scTerm.nd (pe_op op_catN (pv 1) (pe_lstN (pa1 (pb is B.isinstance boot_isinstance (pa2 (pv 0) (pgl (g 9 _ rfl))))))))
    (pss_cons (st 2 scTerm.nd (pe_lstN (pa_cons pe_str (pa_cons pe_str (pa_cons pe_str (pa3 pe_str pe_str pe_str))))))
    (pss_cons (st 2 scTerm.nd (pe_op op_catN (pv 2) (pe_lstN (pa_cons pe_str (pa3 pe_str pe_str pe_str)))))
    (pss_cons (ps_if (PW.pt (pw_or (pt_cmpR op_ne (pb (cr_sumH hC) B.sum boot_sum (pa1 (pe_lcIntH hC (pv 1) B.int rfl rfl rfl (by decide +kernel) (by decide +kernel) (by decide +kernel)))) pe_int (nomark _)) (pw_or1 (pt_not (pt_val (pb is B.isinstance boot_isinstance (pa2 (pv 0) (pty (n := "ValueError") B.ve (by decide +kernel)))))))))
      (pss_one (ps_ret (pe_tupN (pa2 pe_str pe_str))))
      (pss_nil))
    (pss_one (ps_ret (pe_tupN (pa2 pe_str (pe_ix (ix_listK K) (pv 2) (pe_bm PySem.F.plainAttrs_list PySem.F.slot_list_index PySem.F.type_list_index (mt_indexK K) (pv 1) (pa1 pe_bl)) (fun _ _ => rfl)))))))))))), ?_⟩
  refine ⟨_, rfl, _, _, _, rfl, fun _ r => r, X.apart i 0 hi (by decide), _, rfl, _, _, _, rfl, fun _ r => r, X.apart i 1 hi (by decide), _, rfl, _, _, _, rfl, fun _ r => r, X.apart i 2 hi (by decide), szl rfl, fun l1 H1 n1 s1 e1 => ?_⟩
  refine ⟨_, rfl, _, rfl, _, _, _, rfl, fun _ r => r, X.apart i 3 hi (by decide), _, rfl, _, _, _, rfl, fun _ r => r, X.apart i 4 hi (by decide), _, rfl, _, _, _, rfl, fun _ r => r, X.apart i 5 hi (by decide), szl rfl, fun m2 H2 k2 s2 f2 => ?_⟩
  refine ⟨l1, m2, _, _, rfl, rfl, s2 _ _ e1, f2, szl rfl, fun l2 H3 n2 s3 e2 => ?_⟩
  refine ⟨_, rfl, _, rfl, _, _, _, rfl, fun _ r => r, X.apart i 6 hi (by decide), _, rfl, _, _, _, rfl, fun _ r => r, X.apart i 7 hi (by decide), _, rfl, _, _, _, rfl, fun _ r => r, X.apart i 8 hi (by decide), szl rfl, fun m3 H4 k3 s4 f3 => ?_⟩
  refine ⟨l2, m3, _, _, rfl, rfl, s4 _ _ e2, f3, szl rfl, fun l3 H5 n3 s5 e3 => ?_⟩
  refine ⟨_, rfl, _, rfl, _, _, _, rfl, fun _ r => r, X.apart i 9 hi (by decide), szl rfl, fun m4 H6 k4 s6 f4 => ?_⟩
  refine ⟨l3, m4, _, _, rfl, rfl, s6 _ _ e3, f4, szl rfl, fun l4 H7 n4 s7 e4 => ?_⟩
  refine ⟨szl rfl, fun l5 H8 n5 s8 e5 => ?_⟩
  refine ⟨_, rfl, szl rfl, fun m6 H9 k6 s9 f6 => ?_⟩
  refine ⟨l5, m6, _, _, rfl, rfl, s9 _ _ e5, f6, szl rfl, fun l6 H10 n6 s10 e6 => ?_⟩
  have e4' : H10 l4 = some (.lst ((flagsOf i).map V.bl)) := s10 _ _ (s9 _ _ (s8 _ _ e4))
  -- sum([int(flag) for flag in flags]) != 1 or not isinstance(e, ValueError)
  refine ⟨_, rfl, l4, flagsOf i, rfl, SqL.of e4', fun D nD => ⟨D, _, rfl, SqL.of upd_same, rfl, _, rfl, ?_⟩⟩
  rw [flags_sum hi]
  refine iteF ⟨_, rfl, _, _, _, rfl, fun _ r => r, X.ve i hi, _, rfl, iteF ?_⟩
  -- ('error', kinds[flags.index(True)])
  have s11 := same_new (o := .lst (((flagsOf i).map fun b => if b then (1 : Int) else 0).map V.int)) nD
  have e4'' := s11 _ _ e4'
  refine ⟨_, rfl, _, rfl, .inl ⟨rfl, _, SqL.of e4''⟩, l4, (flagsOf i).map V.bl, .bl true, i, .bl true, rfl, rfl, SqL.of e4'', rfl, flags_flat i, flags_at hi, rfl, fun m z hm hz => flags_ne hm hz, ?_⟩
  refine ⟨l6, excNames.map V.str, (i : Int), .str (excNames.getD i ""), rfl, rfl, SqL.of (s11 _ _ e6), atI_nat ?_, szl rfl, fun r H12 nr s12 er => ?_⟩
  · rw [List.getElem?_map, List.getD_eq_getElem?_getD]
    cases e : excNames[i]? with
    | none => exact absurd (List.getElem?_eq_none_iff.mp e) (by show ¬ 10 ≤ i; omega)
    | some x => rfl
  · have sa := s1.trans (s2.trans (s3.trans (s4.trans (s5.trans (s6.trans (s7.trans (s8.trans (s9.trans (s10.trans s11)))))))))
    exact q _ r (sa.trans s12) (sa.free nr) er
end
/-! ### _law_told -/
theorem scTold : FnScope ["deed", "e"] ["deed"] (defScope s_law_told) := ⟨rfl, rfl, rfl, by decide +kernel, rfl, by decide +kernel, by decide +kernel⟩
theorem takesN0 {X : Cx} : L2N.Takes X (fun _ _ _ _ => False) := fun _ _ x => by
  obtain ⟨_, _, _, _, _, _, _, _, _, _, _, _, _, _, _, _, z⟩ := x
  exact z.elim
section
variable {X : Cx} {C : Nat → Addr} {CS : Addr}
theorem g_told (FT : Here X.K X.mg "_law_term" s_law_term) (B : Blt X.mg) (Ex : Excs X.K X.mg C CS) {g : Addr} {cdg : Value} {q : Str} {k : Nat} (hk : 1 ≤ k) :
    GivesN X ["deed", "e"] "_law_told" (defScope s_law_told) g cdg (defBody s_law_told) "deed" q k (TTerm C) := by
  intro f c' s H Q tl hr act hc h
  refine ⟨_, pss_one (L2N.ps_try_as (X := (cxOf CX0 X.prog X.w X.K X.mg X.base ["deed", "e"] "_law_told" (defScope s_law_told) g cdg X.A X.stack s H E0).nox) (c := .ref CS) (i := 1)
      (tb := fun W D σ H => ∃ Ech : XK, (∀ cls d (σ' : L2.St) H', σ'.length = 2 → Ech cls d H' → W cls d σ' H') ∧ σ[0]? = some (some (.ref f)) ∧ H c' = some (CodeO c' q) ∧ tl Ech H D.rt)
      (ts := fun a cls d D σ H => ∃ i, i < 10 ∧ cls = .ref (C i) ∧ d = none ∧ tRet (tD (spTerm a i) E0 (tCons (tVar 1) tNil)) D σ H)
      rfl rfl scTold.nd rfl rfl ⟨by rfl, by decide, .inl Ex.gS⟩ takesN0 (fun W pn xe tk _ => ?_) (fun a oe cls d pn hz hf => ?_)), ?_⟩
  · refine ⟨fun pins s' σ H' D I h' => ?_⟩
    obtain ⟨Ech, hW, h1, h2, h3⟩ := h'
    exact (pss_one (ps_ret (act W pn xe Ech _ _ tk hW))).run pins s' σ H' D I ⟨h1, h2, h3⟩
  · refine ⟨fun pins s' σ H' D I h' => ?_⟩
    obtain ⟨i, hi, rfl, rfl, h1⟩ := h'
    have kt := k_term (P := X.prog) (w := X.w) (base := X.base) FT B Ex (a := a) hi hz.zc hf
    obtain ⟨vs, hv⟩ := hf
    refine (pss_one (ps_ret (pe_dP (X := (cxOf CX0 X.prog X.w X.K X.mg X.base ["deed", "e"] "_law_told" (defScope s_law_told) g cdg X.A X.stack s H E0).nox.suite a ((a, oe) :: pn)) kt ?_ ?_ ?_ (by rfl) (pa1 (pv 1))))).run pins s' σ H' D I h1
    · exact ⟨(hr.mono hk).dp, (hr.mono hk).un⟩
    · exact ⟨rfl, vs, hv, hz.2.2 vs hv⟩
    · exact List.mem_cons_self
  · refine ⟨fun cls d H' => d = none ∧ ∃ i, i < 10 ∧ cls = .ref (C i) ∧ ∀ H'' p, Same H' H'' → H' p = none → H'' p = some (.tup [.str "error", .str (excNames.getD i "")]) → Q (.ref p) H'', fun cls d σ' H' hl hh => ?_, rfl, hc, h⟩
    obtain ⟨rfl, i, hi, rfl, hq⟩ := hh
    exact ⟨true, Ex.stem i hi, fun _ a na => ⟨i, hi, rfl, rfl, _, List.getElem?_set_self (by omega), rfl, hq⟩, fun z => nomatch z⟩
/-- what a def that calls _law_told with lambdas must know -/
structure ToldS (X : Cx) (C : Nat → Addr) (CS c P : Addr) : Prop where
  told : Here X.K X.mg "_law_told" s_law_told
  term : Here X.K X.mg "_law_term" s_law_term
  blt : Blt X.mg
  exc : Excs X.K X.mg C CS
  tab : TabB X.base X.mg c P
/-- the name under which the lambdas of the def n stand -/
abbrev qOf (n : Str) : Str := n ++ ".<locals>."
abbrev lawT (Pt : Addr) : List (Addr × Str) := [(Pt, qOf "law" ++ "<lambda>")]
theorem lawT_mem {Pt : Addr} : (Pt, qOf "law" ++ "<lambda>") ∈ lawT Pt := List.mem_singleton.mpr rfl
theorem lawT_one {Pt : Addr} : ∀ p ∈ lawT Pt, p.1 = Pt → p.2 = qOf "law" ++ "<lambda>" := fun p hp _ => by rw [List.mem_singleton.mp hp]
/-- _law_told(lambda: body) -/
theorem pe_told {CS c P : Addr} {T : List (Addr × Str)} (sc : Scope) (q : Str) {params : Arguments} {body : Expr} {scope : Scope} {t : XK → TE} {p lpos pos : Pos} {k : Nat} (S : ToldS X C CS c P) (hr : Room (k + 2) X.A)
    (hbody : ∀ (A : Around) (outer : List Env) (s : Shared) (H : Hp) (E : XK) (f c' : Addr), Room k (A.deeper (lamEnv X scope s.heap.objs.size f c')) → PE (lamN X A outer s H E scope f c') body (t E))
    (hmT : (P, q ++ "<lambda>") ∈ T) (hu : ∀ p ∈ T, p.1 = P → p.2 = q ++ "<lambda>")
    (hsc : X.env.scope = sc := by rfl) (hq : X.env.qual = q := by rfl)
    (L : lamSB sc scope = true := by decide +kernel) (hg : Gl X "_law_told" := by rfl) (hcode : X.env.code = .ref c := by rfl) (hdef : defaultsOf params X.env = ([], []) := by rfl)
    (hbind : ∀ (q : Str) (cl : List (Str × Addr)) (pm cv ctv : Value), bindArgs (PySem.W.kla_fn "<lambda>" q params body scope cl pm cv ctv) ⟨[], []⟩ = pure [] := by intros; rfl) :
    PE X (.Call (.Name "_law_told" p) [.Lambda params body scope lpos] [] pos) (tLam T (TTerm C) t) := by
  subst hsc
  subst hq
  exact pe_lamN (k := k) S.told hg (fun _ _ _ _ _ _ us hl => match us, hl with | [_], _ => rfl) scTold rfl (.inl rfl) (fun g cdv => g_told S.term S.blt S.exc (Nat.le_add_left 1 k)) S.tab hcode hmT hu hr (lamS_by L) hdef hbind hbody
end
end Sv

set_option maxHeartbeats 4000000
namespace Sv
open PySem PySem.Spec PyProof.Rows L2 L2H HotX LamX
section
variable {P : Program} {w : World} {K : PySem.W.Frag} {mg : Str → Option Value} {base : Heap}
/-! ### _law_cell -/
def spCell (K : PySem.W.Frag) : Sp := fun vs H Q _ => ∃ (a : Addr) (ns : List Int) (k : Int), vs = [.ref a, .int k] ∧ SqL K H a (ns.map V.int) ∧ ns.length ≤ 63 ∧ ∀ H' z, Same H H' → Q (.int z) H'
theorem scCell : FnScope ["script", "k"] ["script", "k"] (defScope s_law_cell) := ⟨rfl, rfl, rfl, by decide +kernel, rfl, by decide +kernel, by decide +kernel⟩
theorem dp_ints {K : PySem.W.Frag} {H : Hp} : ∀ ns : List Int, DpAll K H (ns.map V.int) (ns.map PyData.int)
  | [] => .nil
  | n :: r => .cons (.int n) (dp_ints r)
theorem canLay_ints : ∀ ns : List Int, PyData.canLayAll0 (ns.map PyData.int) = true
  | [] => rfl
  | n :: r => by rw [List.map_cons, PyData.canLayAll0, canLay_ints r]; rfl
theorem depth_ints : ∀ ns : List Int, PyData.depthAll (ns.map PyData.int) = 0
  | [] => rfl
  | n :: r => by rw [List.map_cons, PyData.depthAll, depth_ints r]; rfl
theorem shaped_ints (ns : List Int) : SeqAt.shaped (.list (ns.map PyData.int)) = true := by
  unfold SeqAt.shaped
  rw [PyData.canLay0, canLay_ints, PyData.depth, depth_ints]; rfl
theorem k_cell (F : Here K mg "_law_cell" s_law_cell) (B : Blt mg) : Keeps' P w K mg base CX0 1 "_law_cell" ["script", "k"] (spCell K) := by
  refine keeps0 F scCell (fun _ _ _ _ _ _ us hl => match us, hl with | [_, _], _ => rfl) (fun vs H Q E h => by obtain ⟨a, ns, k, e, _⟩ := h; rw [e]; rfl) fun f cdv A outer s H vs Q E hr h => ?_
  obtain ⟨a, ns, k, rfl, hS, hn, q⟩ := h
  refine ⟨_, pss_cons (ps_if (pt_cmpR (op_eqDK K hr.units) (pv 0) (pe_lstN pa_nil) (nomark _))
      (pss_one (ps_ret (pe_op op_mul (pv 1) pe_int)))
      (pss_nil))
    (pss_one (ps_ret (pe_op op_add (pe_ix (ix_listK K) (pv 0) (pe_op op_mod (pv 1) (pb (call_len_seqK K) B.len PySem.boot_len (pa1 (pv 0)))) (fun _ _ => rfl)) (pe_op op_mul (pe_op op_fdiv (pv 1) (pb (call_len_seqK K) B.len PySem.boot_len (pa1 (pv 0)))) pe_int)))), ?_⟩
  refine ⟨_, rfl, szl rfl, fun p H1 np s1 e1 => ⟨.list (ns.map PyData.int), .list [], .lst (s1.seq hS) (dp_ints ns), .lst (SqL.of e1) .nil, shaped_ints ns, rfl, _, rfl, ?_⟩⟩
  have hS1 := s1.seq hS
  refine ite2 (fun e => ?_) fun e => ?_
  · exact ⟨_, rfl, _, _, rfl, rfl, .inr ⟨by decide, by decide⟩, q _ _ s1⟩
  · have hpos : 0 < ns.length := by
      cases ns with
      | nil => exact absurd rfl e
      | cons x r => exact Nat.succ_pos _
    have hlen : ((ns.map V.int).length : Int) = ns.length := by rw [List.length_map]
    have hm : 0 ≤ k % (ns.length : Int) := Int.emod_nonneg _ (by omega)
    have hm2 : k % (ns.length : Int) < ns.length := Int.emod_lt_of_pos _ (by omega)
    obtain ⟨z, hz⟩ : ∃ z, ns[(k % (ns.length : Int)).toNat]? = some z := ⟨_, List.getElem?_eq_getElem (by omega)⟩
    refine ⟨_, rfl, _, rfl, _, rfl, a, _, rfl, .inl hS1, _, _, rfl, rfl, by rw [hlen]; omega, a, _, _, .int z, rfl, rfl, hS1, ?_, ?_⟩
    · rw [hlen]
      refine at_of (j := (k % (ns.length : Int)).toNat) (by omega) ?_
      rw [List.getElem?_map, hz]; rfl
    · exact ⟨_, rfl, _, rfl, a, _, rfl, .inl hS1, _, _, rfl, rfl, ⟨by rw [hlen]; omega, by rw [hlen]; omega⟩, _, _, rfl, rfl, .inr ⟨by decide, by decide⟩, _, _, rfl, rfl, q _ _ s1⟩
/-! ### _law_drawn -/
def spDrawn : Sp := fun vs H Q _ => ∃ (c k : Int), vs = [.int c, .int k] ∧ ∀ z, 0 ≤ z → Q (.int z) H
theorem scDrawn : FnScope ["cell", "k", "more"] ["cell", "k"] (defScope s_law_drawn) := ⟨rfl, rfl, rfl, by decide +kernel, rfl, by decide +kernel, by decide +kernel⟩
theorem k_drawn (F : Here K mg "_law_drawn" s_law_drawn) : Keeps' P w K mg base CX0 1 "_law_drawn" ["cell", "k"] spDrawn := by
  refine keeps0 F scDrawn (fun _ _ _ _ _ _ us hl => match us, hl with | [_, _], _ => rfl) (fun vs H Q E h => by obtain ⟨c, k, e, _⟩ := h; rw [e]; rfl) fun f cdv A outer s H vs Q E hr h => ?_
  obtain ⟨c, k, rfl, q⟩ := h
  refine ⟨_, pss_cons (st 2 scDrawn.nd (pe_op op_mod (pe_op op_add (pe_op op_mul (pv 0) pe_int) (pe_op op_mul (pe_op op_add (pv 1) pe_int) pe_int)) pe_int))
    (pss_cons (st 2 scDrawn.nd (pe_op op_mod (pe_op op_mulW (pv 2) (pv 2)) pe_int))
    (pss_cons (st 2 scDrawn.nd (pe_op op_mulW (pe_op op_mulW (pe_op op_add (pe_op op_mod (pv 2) pe_int) pe_int) (pe_op op_add (pe_op op_fdivW (pv 2) pe_int) pe_int)) (pv 2)))
    (pss_one (ps_ret (pe_op op_mod (pv 2) pe_int))))), ?_⟩
  refine ⟨_, rfl, _, _, rfl, rfl, .inr ⟨by decide, by decide⟩, _, rfl, _, _, rfl, rfl, _, _, rfl, rfl, .inr ⟨by decide, by decide⟩, _, _, rfl, rfl, _, _, rfl, rfl, (show (0 : Int) < 340282366920938463463374607431768211507 by decide), ?_⟩
  have e129 : (2 : Nat) ^ 129 = 680564733841876926926749214863536422912 := by decide
  have e65 : (2 : Nat) ^ 65 = 36893488147419103232 := by decide
  have n1 : ∀ x0 : Int, (x0 % 340282366920938463463374607431768211507).natAbs < 2 ^ 129 := fun x0 => by omega
  have n2 : ∀ x0 : Int, (x0 % 340282366920938463463374607431768211297).natAbs < 2 ^ 129 := fun x0 => by omega
  have m1 : ∀ x0 : Int, (x0 % 18446744073709551557 + 1).natAbs < 2 ^ 65 := fun x0 => by omega
  have m2 : ∀ x0 : Int, (x0 % 340282366920938463463374607431768211297 / 18446744073709551557 + 1).natAbs < 2 ^ 129 := fun x0 => by omega
  refine ⟨_, rfl, _, rfl, _, _, rfl, rfl, wide_mul (n1 _) (n1 _) (by decide) (by decide) (by decide), _, _, rfl, rfl, (show (0 : Int) < 340282366920938463463374607431768211297 by decide), ?_⟩
  refine ⟨_, rfl, _, _, rfl, rfl, (show (0 : Int) < 18446744073709551557 by decide), _, _, rfl, rfl, _, rfl, _, _, rfl, rfl, ⟨by decide, by decide⟩, _, _, rfl, rfl, ?_⟩
  refine ⟨_, _, rfl, rfl, wide_mul (m1 _) (m2 _) (by decide) (by decide) (by decide), _, rfl, _, _, rfl, rfl, wide_mul (wide_lt (m1 _) (m2 _)) (n2 _) (by decide) (by decide) (by decide), ?_⟩
  refine ⟨_, rfl, _, _, rfl, rfl, (show (0 : Int) < 340282366920938463463374607431768211507 by decide), ?_⟩
  exact q _ (Int.emod_nonneg _ (by decide))
/-! ### _law_roll -/
/-- the dice at d are two ints -/
def Dice (H : Hp) (d : Addr) : Prop := ∃ x y : Int, H d = some (.lst [.int x, .int y])
/-- all but the dice stays -/
structure Mv (d : Addr) (H H' : Hp) : Prop where
  keep : ∀ b o, H b = some o → b ≠ d → H' b = some o
  dice : Dice H' d
theorem Mv.trans {d : Addr} {H H1 H2 : Hp} (a : Mv d H H1) (b : Mv d H1 H2) : Mv d H H2 := ⟨fun c o e n => b.keep c o (a.keep c o e n) n, b.dice⟩
theorem Mv.same {d : Addr} {H H1 H2 : Hp} (a : Mv d H H1) (b : Same H1 H2) : Mv d H H2 := ⟨fun c o e n => b c o (a.keep c o e n), by obtain ⟨x, y, e⟩ := a.dice; exact ⟨x, y, b _ _ e⟩⟩
theorem Mv.of_same {d : Addr} {H H1 : Hp} (h : Dice H d) (b : Same H H1) : Mv d H H1 := ⟨fun c o e n => b c o e, by obtain ⟨x, y, e⟩ := h; exact ⟨x, y, b _ _ e⟩⟩
theorem Mv.ext {d : Addr} {H H1 : Hp} (h : Dice H d) (a : Mv d H H1) : Ext H H1 := by
  obtain ⟨x, y, e⟩ := h
  exact ⟨fun b xs q => a.keep b _ q (ne_of q e fun z => nomatch z), fun b o u q => a.keep b _ q (ne_of q e fun z => nomatch z)⟩
theorem Mv.free {d : Addr} {H H1 : Hp} (h : Dice H d) (a : Mv d H H1) {p : Addr} (e : H1 p = none) : H p = none := by
  cases q : H p with
  | none => rfl
  | some o =>
    by_cases hp : p = d
    · obtain ⟨x, y, z⟩ := a.dice
      rw [hp, z] at e; cases e
    · rw [a.keep p o q hp] at e; cases e
def spRoll : Sp := fun vs H Q _ => ∃ (d : Addr) (many : Int), vs = [.ref d, .int many] ∧ Dice H d ∧ 0 < many ∧ many < 1000000 ∧ ∀ H' z, Mv d H H' → 0 ≤ z → z < many → Q (.int z) H'
theorem scRoll : FnScope ["dice", "many", "told"] ["dice", "many"] (defScope s_law_roll) := ⟨rfl, rfl, rfl, by decide +kernel, rfl, by decide +kernel, by decide +kernel⟩
theorem mv_upd {d : Addr} {H : Hp} {x y : Int} : Mv d H (upd H d (.lst [.int x, .int y])) := ⟨fun b o e n => by rw [upd_ne n]; exact e, x, y, upd_same⟩
theorem k_roll (F : Here K mg "_law_roll" s_law_roll) (d_drawn : Keeps' P w K mg base CX0 1 "_law_drawn" ["cell", "k"] spDrawn) : Keeps' P w K mg base CX0 2 "_law_roll" ["dice", "many"] spRoll := by
  refine keeps0 F scRoll (fun _ _ _ _ _ _ us hl => match us, hl with | [_, _], _ => rfl) (fun vs H Q E h => by obtain ⟨c, k, e, _⟩ := h; rw [e]; rfl) fun f cdv A outer s H vs Q E hr h => ?_
  obtain ⟨d, many, rfl, ⟨x, y, e⟩, h0, h1, q⟩ := h
  refine ⟨_, pss_cons (ps_if (pt_cmpR op_ge (pe_ix (ix_listK K) (pv 0) pe_int (fun _ _ => rfl)) (pe_op op_pow pe_int pe_int) (nomark _))
      (pss_cons (st 2 scRoll.nd (pe_op op_mod (pe_ix (ix_listK K) (pv 0) pe_int (fun _ _ => rfl)) (pv 1)))
        (pss_cons (ps_asg (pe_op op_fdiv (pe_ix (ix_listK K) (pv 0) pe_int (fun _ _ => rfl)) (pv 1)) (pg_sub (pv 0) pe_int set_list))
        (pss_one (ps_ret (pv 2)))))
      (pss_nil))
    (pss_cons (ps_asg (pe_op op_add (pe_ix (ix_listK K) (pv 0) pe_int (fun _ _ => rfl)) pe_int) (pg_sub (pv 0) pe_int set_list))
    (pss_one (ps_ret (pe_op op_mod (pe_op op_fdiv (pe_d0 d_drawn (hr.mono (by decide)) (by rfl) (pa2 (pe_ix (ix_listK K) (pv 0) pe_int (fun _ _ => rfl)) (pe_ix (ix_listK K) (pv 0) pe_int (fun _ _ => rfl)))) pe_int) (pv 1))))), ?_⟩
  refine ⟨_, rfl, d, _, 0, _, rfl, rfl, SqL.of e, atI_nat (j := 0) rfl, _, _, rfl, rfl, ⟨by decide, by decide, by decide⟩, _, _, rfl, rfl, _, rfl, ite2 (fun c => ?_) fun c => ?_⟩
  · refine ⟨_, rfl, d, _, 0, _, rfl, rfl, SqL.of e, atI_nat (j := 0) rfl, _, rfl, _, _, rfl, rfl, h0, ?_⟩
    refine ⟨_, rfl, d, _, 0, _, rfl, rfl, SqL.of e, atI_nat (j := 0) rfl, _, rfl, _, _, rfl, rfl, ⟨h0, by omega⟩, _, rfl, d, _, 0, 0, rfl, rfl, e, rfl, _, rfl, ?_⟩
    exact q _ _ mv_upd (Int.emod_nonneg _ (by omega)) (Int.emod_lt_of_pos _ h0)
  · refine ⟨_, rfl, d, _, 1, _, rfl, rfl, SqL.of e, atI_nat (j := 1) rfl, _, _, rfl, rfl, _, rfl, d, _, 1, 1, rfl, rfl, e, rfl, ?_⟩
    have e2 : (upd H d (.lst [.int x, .int (y + 1)])) d = some (.lst [.int x, .int (y + 1)]) := upd_same
    refine ⟨_, rfl, d, _, 0, _, rfl, rfl, SqL.of e2, atI_nat (j := 0) rfl, _, rfl, d, _, 1, _, rfl, rfl, SqL.of e2, atI_nat (j := 1) rfl, _, _, rfl, fun z hz => ?_⟩
    refine ⟨_, _, rfl, rfl, ⟨by decide, by decide⟩, _, rfl, _, _, rfl, rfl, h0, ?_⟩
    exact q _ _ mv_upd (Int.emod_nonneg _ (by omega)) (Int.emod_lt_of_pos _ h0)
/-! ### _law_rounds -/
def spRounds (K : PySem.W.Frag) : Sp := fun vs H Q _ => ∃ (a : Addr) (ns : List Int) (most : Int), vs = [.ref a, .int most] ∧ SqL K H a (ns.map V.int) ∧ ns.length ≤ 63 ∧ most ≤ 63 ∧
  ∀ H' p (ds : List Addr), Same H H' → H p = none → H' p = some (.lst (ds.map V.ref)) → (∀ d ∈ ds, H d = none ∧ Dice H' d) → Q (.ref p) H'
theorem scRounds : FnScope ["script", "most", "k"] ["script", "most"] (defScope s_law_rounds) := ⟨rfl, rfl, rfl, by decide +kernel, rfl, by decide +kernel, by decide +kernel⟩
theorem k_rounds (F : Here K mg "_law_rounds" s_law_rounds) (B : Blt mg) (d_cell : Keeps' P w K mg base CX0 1 "_law_cell" ["script", "k"] (spCell K)) : Keeps' P w K mg base CX0 2 "_law_rounds" ["script", "most"] (spRounds K) := by
  refine keeps0 F scRounds (fun _ _ _ _ _ _ us hl => match us, hl with | [_, _], _ => rfl) (fun vs H Q E h => by obtain ⟨a, ns, k, e, _⟩ := h; rw [e]; rfl) fun f cdv A outer s H vs Q E hr h => ?_
  obtain ⟨a, ns, most, rfl, hS, hn, hm, q⟩ := h
  refine ⟨_, pss_one (ps_ret (pe_lc (own := [("k", 2)]) rfl scRounds.nd (pi_range1 (by rfl) B.range (pa1 (pb (call_max2 rfl) B.max boot_max (pa2 pe_int (pb (call_min2 rfl) B.min boot_min (pa2 (pv 1) (pb (call_len_seqK K) B.len PySem.boot_len (pa1 (pv 0))))))))) (blkOk_by (own := [("k", 2)]) (N := ["script", "most", "k"]) (sc := defScope s_law_rounds) (by decide +kernel)) (fun _ _ _ _ _ => pgn 2 scRounds.nd) (fun _ _ _ _ _ => pts_nil) (fun _ _ _ _ _ => pe_lstN (pa2 (pe_d0 d_cell (hr.mono (by decide)) (by rfl) (pa2 (pv 0) (pv 2))) pe_int)))), ?_⟩
  have hl : ((ns.map V.int).length : Int) = ns.length := by rw [List.length_map]
  refine ⟨_, rfl, _, rfl, a, _, rfl, .inl hS, _, _, rfl, _, _, rfl, _, rfl, ?_, ?_, ?_⟩
  · show (-(2 ^ 62) : Int) ≤ if (if ((ns.map V.int).length : Int) < most then ((ns.map V.int).length : Int) else most) > 1 then _ else 1
    repeat' split
    all_goals omega
  · show (if (if ((ns.map V.int).length : Int) < most then ((ns.map V.int).length : Int) else most) > 1 then (if ((ns.map V.int).length : Int) < most then ((ns.map V.int).length : Int) else most) else 1) < 2 ^ 62
    repeat' split
    all_goals omega
  refine lc_J (walk_range (lo := 0)) Same (fun D i ys H' => ∃ ds : List Addr, ys = ds.map V.ref ∧ ∀ d ∈ ds, H d = none ∧ d ≠ D ∧ Dice H' d) (goes_same H) ?_ (fun _ _ => trivial) (fun _ _ => ⟨[], rfl, fun _ z => nomatch z⟩) ?_ ?_ ?_
  · refine szlt (Nat.ble_eq_true_of_le (Nat.le_trans (m := 63) ?_ (by decide)))
    show (if (if ((ns.map V.int).length : Int) < most then ((ns.map V.int).length : Int) else most) > 1 then (if ((ns.map V.int).length : Int) < most then ((ns.map V.int).length : Int) else most) else 1).toNat ≤ 63
    repeat' split
    all_goals omega
  · rintro D i ys H1 H2 nD x k ⟨ds, e, h⟩
    refine ⟨ds, e, fun d hd => ?_⟩
    obtain ⟨h1, h2, x, y, h3⟩ := h d hd
    exact ⟨h1, h2, x, y, k d _ h2 h3⟩
  · rintro D E E0 i x ys H1 H2 nD eD hi t ⟨ds, e, h⟩ ⟨rfl, rfl⟩ f1 f0
    refine ⟨rfl, ⟨_, rfl, _, rfl, a, ns, _, rfl, t.seq hS, hn, fun H3 z s3 => ⟨szl rfl, fun p H4 np s4 e4 => ?_⟩⟩⟩
    refine f1 _ H4 (s3.trans s4) ⟨ds ++ [p], by rw [e, List.map_append]; rfl, fun d hd => ?_⟩
    rcases List.mem_append.mp hd with hd | hd
    · obtain ⟨h1, h2, x, y, h3⟩ := h d hd
      exact ⟨h1, h2, x, y, s4 _ _ (s3 _ _ h3)⟩
    · rw [List.mem_singleton.mp hd]
      exact ⟨t.free (s3.free np), (ne_of_none (s3 _ _ eD) np).symm, _, _, e4⟩
  · rintro D H1 ys nD t eD _ ⟨ds, e, h⟩
    rw [e] at eD
    exact q H1 D ds t nD eD fun d hd => ⟨(h d hd).1, (h d hd).2.2⟩
end
end Sv

set_option maxHeartbeats 4000000
namespace Sv
open PySem PySem.Spec PyProof.Rows L2 L2H HotX LamX
/-! ### what every round of a law leaves as it was: the rounds' list, the dice, the tables -/
structure Live (T : List (Addr × Str)) (p : Addr) (ds : List Addr) (H : Hp) : Prop where
  rounds : H p = some (.lst (ds.map V.ref))
  dice : ∀ d ∈ ds, Dice H d
  tabs : Tabs T H
section
variable {T : List (Addr × Str)} {p d l : Addr} {ds : List Addr} {H H' : Hp}
theorem Dice.same (h : Dice H d) (s : Same H H') : Dice H' d := let ⟨x, y, e⟩ := h; ⟨x, y, s _ _ e⟩
theorem Live.same (h : Live T p ds H) (s : Same H H') : Live T p ds H' := ⟨s _ _ h.rounds, fun d hd => (h.dice d hd).same s, fun q hq => (h.tabs q hq).ext s⟩
theorem Live.extN (h : Live T p ds H) (x : ExtN H H') (t : Tabs T H') : Live T p ds H' :=
  ⟨x _ _ h.rounds (fun _ z => nomatch z), fun d hd => let ⟨a, b, e⟩ := h.dice d hd; ⟨a, b, x _ _ e (fun _ z => nomatch z)⟩, t⟩
theorem dice_ne (h : H p = some (.lst (ds.map V.ref))) (k : Dice H d) : p ≠ d := fun z => by
  obtain ⟨x, y, e⟩ := k
  rw [z, e] at h
  cases ds with
  | nil => cases h
  | cons a t => cases h
theorem Live.mv (h : Live T p ds H) (m : Mv d H H') (k : Dice H d) : Live T p ds H' := by
  refine ⟨m.keep _ _ h.rounds (dice_ne h.rounds k), fun e he => ?_, ?_⟩
  · by_cases z : e = d
    · rw [z]; exact m.dice
    · obtain ⟨x, y, q⟩ := h.dice e he
      exact ⟨x, y, m.keep _ _ q z⟩
  · obtain ⟨x, y, q⟩ := k
    exact tabs_keep h.tabs q fun b o e n => m.keep b o e n
theorem Live.put {xs ys : List V} (h : Live T p ds H) (e : H l = some (.lst xs)) (h1 : l ≠ p) (h2 : l ∉ ds) : Live T p ds (upd H l (.lst ys)) := by
  refine ⟨by rw [upd_ne h1.symm]; exact h.rounds, fun d hd => ?_, ?_⟩
  · obtain ⟨x, y, q⟩ := h.dice d hd
    exact ⟨x, y, by rw [upd_ne (show d ≠ l from fun z => h2 (z ▸ hd))]; exact q⟩
  · exact tabs_keep h.tabs e fun b o e n => by rw [upd_ne n]; exact e
theorem Live.fresh (h : Live T p ds H) (n : H l = none) : l ≠ p ∧ l ∉ ds := ⟨fun z => (by rw [z, h.rounds] at n; cases n), fun z => by obtain ⟨x, y, q⟩ := h.dice l z; rw [q] at n; cases n⟩
theorem Live.get (h : Live T p ds H) {i : Nat} {x : V} (e : (ds.map V.ref)[i]? = some x) : ∃ d, x = .ref d ∧ d ∈ ds ∧ Dice H d := by
  rw [List.getElem?_map] at e
  cases q : ds[i]? with
  | none => rw [q] at e; cases e
  | some d =>
    rw [q] at e
    cases e
    exact ⟨d, rfl, List.mem_of_getElem? q, h.dice d (List.mem_of_getElem? q)⟩
theorem Dice.ne (h : Dice H d) (n : H l = none) : l ≠ d := by
  obtain ⟨x, y, e⟩ := h
  exact (ne_of_none e n).symm
theorem Mv.lst {xs : List V} (m : Mv d H H') (e : H l = some (.lst xs)) (n : l ≠ d) : H' l = some (.lst xs) := m.keep l _ e n
/-- what _law_told tells of the i-th exception -/
def errD (i : Nat) : PyData := .tuple [.str "error", .str (excNames.getD i "")]
theorem exc_ok : ∀ i, i < 10 → PyData.strOk (excNames.getD i "") = true := by decide +kernel
theorem at_err {K : PySem.W.Frag} {i : Nat} (hi : i < 10) {a : Addr} (h : H a = some (.tup [.str "error", .str (excNames.getD i "")])) : At K H (.ref a) (errD i) :=
  At.tupO h (.cons (.str (by decide +kernel)) (.cons (.str (exc_ok i hi)) .nil))
end
end Sv

set_option maxHeartbeats 4000000
namespace Sv
open PySem PySem.Spec PyProof.Rows L2 L2H HotX LamX
section
variable {P : Program} {w : World} {K : PySem.W.Frag} {mg : Str → Option Value} {base : Heap}
/-! ### is_whole -/
def whole (d : PyData) (lo hi : Int) : Bool := match d with
  | .int i => decide (lo ≤ i) && decide (i ≤ hi)
  | _ => false
def spWhole (K : PySem.W.Frag) : Sp := fun vs H Q _ => ∃ v d lo hi, vs = [v, .int lo, .int hi] ∧ Dp K H v d ∧ Q (.bl (whole d lo hi)) H
theorem scWhole : FnScope ["value", "low", "high"] ["value", "low", "high"] (defScope s_is_whole) := ⟨rfl, rfl, rfl, by decide +kernel, rfl, by decide +kernel, by decide +kernel⟩
theorem k_whole (F : Here K mg "is_whole" s_is_whole) (B : Blt mg) : Keeps' P w K mg base CX0 1 "is_whole" ["value", "low", "high"] (spWhole K) := by
  refine keeps0 F scWhole (fun _ _ _ _ _ _ us hl => match us, hl with | [_, _, _], _ => rfl) (fun vs H Q E h => by obtain ⟨_, _, _, _, e, _⟩ := h; rw [e]; rfl) fun f cdv A outer s H vs Q E hr h => ?_
  obtain ⟨v, d, lo, hi, rfl, hd, q⟩ := h
  refine ⟨_, pss_one (ps_ret (pe_and (pb (call_isDK K) B.isinstance boot_isinstance (pa2 (pv 0) (pty B.int boot_int))) (pe_and (pe_not (pb (call_isDK K) B.isinstance boot_isinstance (pa2 (pv 0) (pty B.bool boot_bool)))) (pe_one (pe_chain op_le op_le (pv 1) (pv 0) (pv 2)))))), ?_⟩
  refine ⟨_, rfl, _, _, d, rfl, hd, .inl rfl, _, rfl, ?_⟩
  cases hd with
  | int i =>
    refine ⟨_, rfl, _, _, _, rfl, .int i, .inr (.inl rfl), _, rfl, _, rfl, ?_⟩
    refine ⟨_, rfl, _, rfl, _, _, rfl, rfl, _, rfl, ?_⟩
    show if decide (lo ≤ i) = true then _ else _
    by_cases h1 : lo ≤ i
    · rw [decide_eq_true h1]
      refine ⟨_, rfl, _, _, rfl, rfl, ?_⟩
      have q : Q (.bl (decide (lo ≤ i) && decide (i ≤ hi))) H := q
      rw [decide_eq_true h1, Bool.true_and] at q
      exact q
    · rw [decide_eq_false h1]
      have q : Q (.bl (decide (lo ≤ i) && decide (i ≤ hi))) H := q
      rw [decide_eq_false h1, Bool.false_and] at q
      exact iteF q
  | bl b => exact ⟨_, rfl, _, _, _, rfl, .bl b, .inr (.inl rfl), _, rfl, _, rfl, q⟩
  | non => exact q
  | str x => exact q
  | lst _ _ => exact q
  | tup _ _ => exact q
end
end Sv

set_option maxHeartbeats 4000000
namespace Sv
open PySem PySem.Spec PyProof.Rows L2 L2H HotX LamX
/-- a fraction as data -/
abbrev num (t u : Int) : PyData := .tuple [.int t, .int u]
def pows : List Int := [1, 2, 4, 8, 16, 32, 64]
/-- is_number's answer -/
def numOk (a b : PyData) : Bool := whole a (-448) 448 && (whole b 1 64 && match b with
  | .int u => pows.contains u && match a with
    | .int t => u == 1 || t % 2 == 1
    | _ => false
  | _ => false)
def isNum (d : PyData) : Bool := match d with
  | .tuple [a, b] => numOk a b
  | _ => false
theorem whole_int {d : PyData} {lo hi : Int} (h : whole d lo hi = true) : ∃ i, d = .int i ∧ lo ≤ i ∧ i ≤ hi := by
  cases d with
  | int i =>
    have h : (decide (lo ≤ i) && decide (i ≤ hi)) = true := h
    rw [Bool.and_eq_true, decide_eq_true_eq, decide_eq_true_eq] at h
    exact ⟨i, rfl, h.1, h.2⟩
  | _ => cases h
theorem inV_ints (u : Int) : ∀ l : List Int, inV (.int u) (l.map V.int) = l.contains u
  | [] => rfl
  | x :: r => by
    show (eqV (.int x) (.int u) || inV (.int u) (r.map V.int)) = _
    rw [inV_ints u r, List.contains_cons]
    have : eqV (.int x) (.int u) = (u == x) := by
      show (x == u) = (u == x)
      exact Bool.beq_comm
    rw [this]
/-- what is_number asks of a fraction -/
structure Numb (t u : Int) : Prop where
  lo : -448 ≤ t
  hi : t ≤ 448
  pw : pows.contains u = true
  od : u = 1 ∨ t % 2 = 1
theorem numb_iff {t u : Int} : isNum (num t u) = true ↔ Numb t u := by
  show (whole (.int t) (-448) 448 && (whole (.int u) 1 64 && (pows.contains u && (u == 1 || t % 2 == 1)))) = true ↔ _
  have e1 : whole (.int t) (-448) 448 = (decide (-448 ≤ t) && decide (t ≤ 448)) := rfl
  have e2 : whole (.int u) 1 64 = (decide (1 ≤ u) && decide (u ≤ 64)) := rfl
  rw [e1, e2]
  simp only [Bool.and_eq_true, decide_eq_true_eq, Bool.or_eq_true, beq_iff_eq]
  constructor
  · rintro ⟨⟨h1, h2⟩, _, h4, h5⟩
    exact ⟨h1, h2, h4, h5⟩
  · rintro ⟨h1, h2, h3, h4⟩
    refine ⟨⟨h1, h2⟩, ?_, h3, h4⟩
    have : u ∈ pows := by simpa using h3
    have : u = 1 ∨ u = 2 ∨ u = 4 ∨ u = 8 ∨ u = 16 ∨ u = 32 ∨ u = 64 := by simpa [pows] using this
    omega
theorem Numb.cases {t u : Int} (h : Numb t u) : u = 1 ∨ u = 2 ∨ u = 4 ∨ u = 8 ∨ u = 16 ∨ u = 32 ∨ u = 64 := by
  have : u ∈ pows := by simpa using h.pw
  simpa [pows] using this
/-- a number's data is a pair of ints -/
theorem isNum_data {d : PyData} (h : isNum d = true) : ∃ t u, d = num t u := by
  match d, h with
  | .tuple [a, b], h =>
    have h : numOk a b = true := h
    unfold numOk at h
    rw [Bool.and_eq_true, Bool.and_eq_true] at h
    obtain ⟨t, rfl, _⟩ := whole_int h.1
    obtain ⟨u, rfl, _⟩ := whole_int h.2.1
    exact ⟨t, u, rfl⟩
  | .none, h => cases h
  | .bool _, h => cases h
  | .int _, h => cases h
  | .str _, h => cases h
  | .list _, h => cases h
  | .dict _, h => cases h
  | .tuple [], h => cases h
  | .tuple [_], h => cases h
  | .tuple (_ :: _ :: _ :: _), h => cases h
theorem num_at {K : PySem.W.Frag} {H : Hp} {v : V} {t u : Int} (h : At K H v (num t u)) : ∃ a, v = .ref a ∧ SqT K H a [.int t, .int u] := by
  obtain ⟨a, vs, rfl, hs, _, hd⟩ := h.inv
  cases hd with
  | cons x r =>
    cases x
    cases r with
    | cons y r2 => cases y; cases r2; exact ⟨a, rfl, hs⟩
theorem num_depth {t u : Int} : (num t u).depth ≤ 64 := Nat.le_of_ble_eq_true rfl
theorem at_num {K : PySem.W.Frag} {H : Hp} {a : Addr} {t u : Int} (h : H a = some (.tup [.int t, .int u])) : At K H (.ref a) (num t u) := At.tupO h (.cons (.int t) (.cons (.int u) .nil))
section
variable {P : Program} {w : World} {K : PySem.W.Frag} {mg : Str → Option Value} {base : Heap} {C : Nat → Addr} {CS : Addr}
/-! ### is_number -/
def spIsNum (K : PySem.W.Frag) : Sp := fun vs H Q _ => ∃ v d, vs = [v] ∧ Dp K H v d ∧ ∀ H', Same H H' → Q (.bl (isNum d)) H'
theorem scIsNum : FnScope ["value"] ["value"] (defScope s_is_number) := ⟨rfl, rfl, rfl, by decide +kernel, rfl, by decide +kernel, by decide +kernel⟩
theorem k_is_number (F : Here K mg "is_number" s_is_number) (B : Blt mg) (d_whole : Keeps' P w K mg base CX0 1 "is_whole" ["value", "low", "high"] (spWhole K)) : Keeps' P w K mg base CX0 2 "is_number" ["value"] (spIsNum K) := by
  refine keeps0 F scIsNum (fun _ _ _ _ _ _ us hl => match us, hl with | [_], _ => rfl) (fun vs H Q E h => by obtain ⟨_, _, e, _⟩ := h; rw [e]; rfl) fun f cdv A outer s H vs Q E hr h => ?_
  obtain ⟨v, d, rfl, hd, q⟩ := h
  refine ⟨_, pss_cons (ps_if (PW.pt (pw_or (pt_not (pt_val (pb (call_isDK K) B.isinstance boot_isinstance (pa2 (pv 0) (pty B.tuple boot_tuple))))) (pw_or (pt_cmpR op_ne (pb (call_len_seqK K) B.len PySem.boot_len (pa1 (pv 0))) pe_int (nomark _)) (pw_or1 (pt_not (pt_val (pe_d0 d_whole (hr.mono (by decide)) (by rfl) (pa3 (pe_ix (ix_tupK K) (pv 0) pe_int (fun _ _ => rfl)) (pe_un un_neg pe_int) pe_int))))))))
      (pss_one (ps_ret pe_bl))
      (pss_nil))
    (pss_cons (ps_if (PW.pt (pw_or (pt_not (pt_val (pe_d0 d_whole (hr.mono (by decide)) (by rfl) (pa3 (pe_ix (ix_tupK K) (pv 0) pe_int (fun _ _ => rfl)) pe_int pe_int)))) (pw_or1 (pt_cmpR (op_notIn_seqK K) (pe_ix (ix_tupK K) (pv 0) pe_int (fun _ _ => rfl)) (pe_tupN (pa_cons pe_int (pa_cons pe_int (pa_cons pe_int (pa_cons pe_int (pa3 pe_int pe_int pe_int)))))) (by rfl)))))
      (pss_one (ps_ret pe_bl))
      (pss_nil))
    (pss_one (ps_ret (pe_or (pe_cmpR op_eq (pe_ix (ix_tupK K) (pv 0) pe_int (fun _ _ => rfl)) pe_int (nomark _)) (pe_one (pe_cmpR op_eq (pe_op op_mod (pe_ix (ix_tupK K) (pv 0) pe_int (fun _ _ => rfl)) pe_int) pe_int (nomark _))))))), ?_⟩
  refine ⟨_, rfl, _, _, d, rfl, hd, .inr (.inr (.inr rfl)), _, rfl, ?_⟩
  cases hd with
  | non => exact q _ (Same.refl H)
  | bl b => exact q _ (Same.refl H)
  | int i => exact q _ (Same.refl H)
  | str x => exact q _ (Same.refl H)
  | lst _ _ => exact q _ (Same.refl H)
  | @tup a vs ds hs ht =>
    refine iteF ⟨_, rfl, a, vs, rfl, .inr hs, rfl, _, rfl, ?_⟩
    have hl := AtAll.len ht
    by_cases h2 : ds.length = 2
    · obtain ⟨d0, d1, rfl⟩ : ∃ d0 d1, ds = [d0, d1] := by
        match ds, h2 with
        | [x, y], _ => exact ⟨x, y, rfl⟩
      obtain ⟨v0, e0, p0⟩ := dpAll_get (i := 0) ht rfl
      obtain ⟨v1, e1, p1⟩ := dpAll_get (i := 1) ht rfl
      obtain rfl : vs = [v0, v1] := by
        match vs, hl, e0, e1 with
        | [x, y], _, e0, e1 => simp at e0 e1; rw [e0, e1]
      refine iteF ⟨_, rfl, a, _, 0, v0, rfl, rfl, hs, atI_nat (j := 0) rfl, _, rfl, _, _, _, _, rfl, p0, _, rfl, ?_⟩
      have qn : ∀ H', Same H H' → Q (.bl (numOk d0 d1)) H' := q
      cases w0 : whole d0 (-448) 448 with
      | false =>
        unfold numOk at qn
        rw [w0, Bool.false_and] at qn
        exact qn _ (Same.refl H)
      | true =>
        refine iteF ⟨_, rfl, a, _, 1, v1, rfl, rfl, hs, atI_nat (j := 1) rfl, _, _, _, _, rfl, p1, _, rfl, ?_⟩
        cases w1 : whole d1 1 64 with
        | false =>
          unfold numOk at qn
          rw [w0, w1, Bool.true_and, Bool.false_and] at qn
          exact qn _ (Same.refl H)
        | true =>
          obtain ⟨t, rfl, _, _⟩ := whole_int w0
          obtain ⟨u, rfl, _, _⟩ := whole_int w1
          have qn : ∀ H', Same H H' → Q (.bl (pows.contains u && (u == 1 || t % 2 == 1))) H' := fun H' s' => by
            have := qn H' s'
            unfold numOk at this
            rw [w0, w1, Bool.true_and, Bool.true_and] at this
            exact this
          cases p0
          cases p1
          refine iteF ⟨_, rfl, a, _, 1, _, rfl, rfl, hs, atI_nat (j := 1) rfl, szl rfl, fun p H1 np s1 e1 => ⟨p, pows.map V.int, rfl, .inr (SqT.of e1), rfl, rfl, _, rfl, ?_⟩⟩
          have hs1 := (Same.ext s1).sqT hs
          show if (!inV (.int u) (pows.map V.int)) = true then _ else _
          rw [inV_ints]
          cases hc : pows.contains u with
          | false =>
            rw [hc, Bool.false_and] at qn
            exact qn _ s1
          | true =>
            rw [hc, Bool.true_and] at qn
            refine iteF ⟨_, rfl, a, _, 1, _, rfl, rfl, hs1, atI_nat (j := 1) rfl, rfl, _, rfl, ?_⟩
            by_cases hu : u = 1
            · subst hu
              exact qn _ s1
            · rw [decide_eq_false (fun z => hu (V.int.inj z))]
              rw [beq_eq_false_iff_ne.mpr hu, Bool.false_or] at qn
              refine iteF ⟨_, rfl, a, _, 0, _, rfl, rfl, hs1, atI_nat (j := 0) rfl, _, _, rfl, rfl, (show (0 : Int) < 2 by decide), rfl, ?_⟩
              have z := qn _ s1
              rw [dec_int]
              exact z
    · have hne : ¬ ((vs.length : Int) = 2) := by omega
      have e : isNum (.tuple ds) = false := by
        match ds, h2 with
        | [], _ => rfl
        | [_], _ => rfl
        | _ :: _ :: _ :: _, _ => rfl
        | [x, y], h => exact absurd rfl h
      rw [e] at q
      rw [decide_eq_false (fun z => hne (V.int.inj z))]
      exact q _ (Same.refl H)
/-! ### need_number -/
def spNeedNum (K : PySem.W.Frag) (C : Nat → Addr) : Sp := fun vs H Q E => ∃ v d, vs = [v] ∧ Dp K H v d ∧ (isNum d = true → ∀ H', Same H H' → Q .non H') ∧ (isNum d = false → ∀ H', Same H H' → E (.ref (C 4)) none H')
theorem scNeedNum : FnScope ["value"] ["value"] (defScope s_need_number) := ⟨rfl, rfl, rfl, by decide +kernel, rfl, by decide +kernel, by decide +kernel⟩
theorem k_need_number (F : Here K mg "need_number" s_need_number) (O : ExcOne K mg "InvalidNumber" (C 4)) (d_num : Keeps' P w K mg base CX0 2 "is_number" ["value"] (spIsNum K)) : Keeps' P w K mg base (L2N.CX P w) 3 "need_number" ["value"] (spNeedNum K C) := by
  refine keepsN F scNeedNum (fun _ _ _ _ _ _ us hl => match us, hl with | [_], _ => rfl) (fun vs H Q E h => by obtain ⟨_, _, e, _⟩ := h; rw [e]; rfl) fun f cdv A outer s H vs Q E hr h => ?_
  obtain ⟨v, d, rfl, hd, q1, q2⟩ := h
  refine ⟨_, pss_one (ps_if (pt_not (pt_val (pe_d0 d_num (hr.mono (by decide)) (by rfl) (pa1 (pv 0)))))
      (pss_one (ps_raiseN rfl O (by rfl) rfl rfl rfl rfl))
      (pss_nil)), ?_⟩
  refine ⟨_, rfl, _, _, rfl, hd, fun H1 s1 => ⟨_, rfl, ?_⟩⟩
  cases hn : isNum d with
  | true => exact q1 hn _ s1
  | false => exact q2 hn _ s1
/-! ### is_under -/
def spUnder (K : PySem.W.Frag) : Sp := fun vs H Q _ => ∃ v1 v2 t1 u1 t2 u2, vs = [v1, v2] ∧ At K H v1 (num t1 u1) ∧ At K H v2 (num t2 u2) ∧ t1.natAbs < 2 ^ 40 ∧ u1.natAbs < 2 ^ 40 ∧ t2.natAbs < 2 ^ 40 ∧ u2.natAbs < 2 ^ 40 ∧ Q (.bl (decide (t1 * u2 < t2 * u1))) H
theorem scUnder : FnScope ["one", "other"] ["one", "other"] (defScope s_is_under) := ⟨rfl, rfl, rfl, by decide +kernel, rfl, by decide +kernel, by decide +kernel⟩
theorem k_under (F : Here K mg "is_under" s_is_under) : Keeps' P w K mg base CX0 1 "is_under" ["one", "other"] (spUnder K) := by
  refine keeps0 F scUnder (fun _ _ _ _ _ _ us hl => match us, hl with | [_, _], _ => rfl) (fun vs H Q E h => by obtain ⟨_, _, _, _, _, _, e, _⟩ := h; rw [e]; rfl) fun f cdv A outer s H vs Q E hr h => ?_
  obtain ⟨v1, v2, t1, u1, t2, u2, rfl, h1, h2, b1, b2, b3, b4, q⟩ := h
  obtain ⟨a1, rfl, s1⟩ := num_at h1
  obtain ⟨a2, rfl, s2⟩ := num_at h2
  refine ⟨_, pss_one (ps_ret (pe_cmpR op_lt (pe_op op_mulW (pe_ix (ix_tupK K) (pv 0) pe_int (fun _ _ => rfl)) (pe_ix (ix_tupK K) (pv 1) pe_int (fun _ _ => rfl))) (pe_op op_mulW (pe_ix (ix_tupK K) (pv 1) pe_int (fun _ _ => rfl)) (pe_ix (ix_tupK K) (pv 0) pe_int (fun _ _ => rfl))) (nomark _))), ?_⟩
  refine ⟨_, rfl, a1, _, 0, _, rfl, rfl, s1, atI_nat (j := 0) rfl, _, rfl, a2, _, 1, _, rfl, rfl, s2, atI_nat (j := 1) rfl, _, _, rfl, rfl, wide_mul b1 b4 (by decide) (by decide) (by decide), ?_⟩
  refine ⟨_, rfl, a2, _, 0, _, rfl, rfl, s2, atI_nat (j := 0) rfl, _, rfl, a1, _, 1, _, rfl, rfl, s1, atI_nat (j := 1) rfl, _, _, rfl, rfl, wide_mul b3 b2 (by decide) (by decide) (by decide), ?_⟩
  exact ⟨_, _, rfl, rfl, q⟩
/-! ### best_integer -/
def bestInt (first t u : Int) : Int := if 0 ≤ first then first else if 0 ≤ -(-t / u) - 1 then 0 else -(-t / u) - 1
def spBest (K : PySem.W.Frag) : Sp := fun vs H Q _ => ∃ v first t u, vs = [.int first, v] ∧ At K H v (num t u) ∧ 0 < u ∧ u < 1000000 ∧ Q (.int (bestInt first t u)) H
theorem scBest : FnScope ["first", "high", "last"] ["first", "high"] (defScope s_best_integer) := ⟨rfl, rfl, rfl, by decide +kernel, rfl, by decide +kernel, by decide +kernel⟩
theorem k_best (F : Here K mg "best_integer" s_best_integer) : Keeps' P w K mg base CX0 1 "best_integer" ["first", "high"] (spBest K) := by
  refine keeps0 F scBest (fun _ _ _ _ _ _ us hl => match us, hl with | [_, _], _ => rfl) (fun vs H Q E h => by obtain ⟨_, _, _, _, e, _⟩ := h; rw [e]; rfl) fun f cdv A outer s H vs Q E hr h => ?_
  obtain ⟨v, first, t, u, rfl, h1, b1, b2, q⟩ := h
  obtain ⟨a1, rfl, s1⟩ := num_at h1
  refine ⟨_, pss_cons (ps_if (pt_cmpR op_ge (pv 0) pe_int (nomark _))
      (pss_one (ps_ret (pv 0)))
      (pss_nil))
    (pss_cons (st 2 scBest.nd (pe_op op_sub (pe_un un_neg (pe_op op_fdiv (pe_un un_neg (pe_ix (ix_tupK K) (pv 1) pe_int (fun _ _ => rfl))) (pe_ix (ix_tupK K) (pv 1) pe_int (fun _ _ => rfl)))) pe_int))
    (pss_one (ps_ret (pe_ifExp (pt_cmpR op_ge (pv 2) pe_int (nomark _)) pe_int (pv 2))))), ?_⟩
  unfold bestInt at q
  refine ⟨_, rfl, _, _, rfl, rfl, _, rfl, ite2 (fun c => ?_) fun c => ?_⟩
  · rw [if_pos (of_decide_eq_true c)] at q
    exact ⟨_, rfl, q⟩
  · rw [if_neg (fun z => c (decide_eq_true z))] at q
    refine ⟨_, rfl, a1, _, 0, _, rfl, rfl, s1, atI_nat (j := 0) rfl, _, rfl, _, rfl, a1, _, 1, _, rfl, rfl, s1, atI_nat (j := 1) rfl, _, _, rfl, rfl, ⟨b1, by omega⟩, _, rfl, _, _, rfl, rfl, ?_⟩
    refine ⟨_, rfl, _, _, rfl, rfl, _, rfl, ite2 (fun c2 => ?_) fun c2 => ?_⟩
    · rw [if_pos (of_decide_eq_true c2)] at q
      exact q
    · rw [if_neg (fun z => c2 (decide_eq_true z))] at q
      exact ⟨_, rfl, q⟩
end
end Sv

set_option maxHeartbeats 4000000
namespace Sv
open PySem PySem.Spec PyProof.Rows L2 L2H HotX LamX
/-- simplest's loop -/
def simpLoop (a b c d : Int) : Nat → Int → Int × Int
  | 0, u => (0, u)
  | n + 1, u => if (a * u / b + 1) * d < c * u then (if u = 1 then bestInt (a * u / b + 1) c d else a * u / b + 1, u) else simpLoop a b c d n (2 * u)
/-- the fraction that simplest finds -/
def simpest (a b c d : Int) : Int × Int := simpLoop a b c d 8 1
/-- with the denominator 128 the loop ends -/
theorem simp_last {a b c d : Int} (hb : b = 1 ∨ b = 2 ∨ b = 4 ∨ b = 8 ∨ b = 16 ∨ b = 32 ∨ b = 64) (hd : d = 1 ∨ d = 2 ∨ d = 4 ∨ d = 8 ∨ d = 16 ∨ d = 32 ∨ d = 64) (h : a * d < c * b) : (a * 128 / b + 1) * d < c * 128 := by
  rcases hb with rfl | rfl | rfl | rfl | rfl | rfl | rfl <;> rcases hd with rfl | rfl | rfl | rfl | rfl | rfl | rfl <;> omega
section
variable {P : Program} {w : World} {K : PySem.W.Frag} {mg : Str → Option Value} {base : Heap} {C : Nat → Addr} {CS : Addr}
def spSimplest (K : PySem.W.Frag) (C : Nat → Addr) : Sp := fun vs H Q E => ∃ v1 v2 d1 d2, vs = [v1, v2] ∧ Dp K H v1 d1 ∧ Dp K H v2 d2 ∧ ((isNum d1 = false ∨ isNum d2 = false) → ∀ H', Same H H' → E (.ref (C 4)) none H') ∧
  ∀ a b c d, d1 = num a b → d2 = num c d → Numb a b → Numb c d → (¬ a * d < c * b → ∀ H', Same H H' → E (.ref (C 7)) none H') ∧ (a * d < c * b → ∀ H' p, Same H H' → H p = none → H' p = some (.tup [.int (simpest a b c d).1, .int (simpest a b c d).2]) → Q (.ref p) H')
theorem scSimplest : FnScope ["low", "high", "under", "first"] ["low", "high"] (defScope s_simplest) := ⟨rfl, rfl, rfl, by decide +kernel, rfl, by decide +kernel, by decide +kernel⟩
theorem k_simplest (F : Here K mg "simplest" s_simplest) (O : ExcOne K mg "NoneBetween" (C 7)) (d_need : Keeps' P w K mg base (L2N.CX P w) 3 "need_number" ["value"] (spNeedNum K C)) (d_under : Keeps' P w K mg base CX0 1 "is_under" ["one", "other"] (spUnder K))
    (d_best : Keeps' P w K mg base CX0 1 "best_integer" ["first", "high"] (spBest K)) : Keeps' P w K mg base (L2N.CX P w) 4 "simplest" ["low", "high"] (spSimplest K C) := by
  refine keepsN F scSimplest (fun _ _ _ _ _ _ us hl => match us, hl with | [_, _], _ => rfl) (fun vs H Q E h => by obtain ⟨_, _, _, _, e, _⟩ := h; rw [e]; rfl) fun f cdv A outer s H vs Q E hr h => ?_
  obtain ⟨v1, v2, d1, d2, rfl, hd1, hd2, qe, q⟩ := h
  refine ⟨_, pss_cons (ps_expr (pe_dX d_need (hr.mono (by decide)) (by rfl) (L2N.takes_of rfl rfl rfl rfl) (fun _ _ _ _ h => h) (pa1 (pv 0))))
    (pss_cons (ps_expr (pe_dX d_need (hr.mono (by decide)) (by rfl) (L2N.takes_of rfl rfl rfl rfl) (fun _ _ _ _ h => h) (pa1 (pv 1))))
    (pss_cons (ps_if (pt_not (pt_val (pe_d0 d_under (hr.mono (by decide)) (by rfl) (pa2 (pv 0) (pv 1)))))
      (pss_one (ps_raiseN rfl O (by rfl) rfl rfl rfl rfl))
      (pss_nil))
    (PSs.nox (pss_cons (st 2 scSimplest.nd pe_int)
    (pss_one (ps_while PassesOwn.never (pt_val pe_bl)
      (pss_cons (st 3 scSimplest.nd (pe_op op_add (pe_op op_fdiv (pe_op op_mul (pe_ix (ix_tupK K) (pv 0) pe_int (fun _ _ => rfl)) (pv 2)) (pe_ix (ix_tupK K) (pv 0) pe_int (fun _ _ => rfl))) pe_int))
        (pss_cons (ps_if (pt_val (pe_d0 d_under (hr.mono (by decide)) (by rfl) (pa2 (pe_tupN (pa2 (pv 3) (pv 2))) (pv 1))))
          (pss_one (ps_ret (pe_tupN (pa2 (pe_ifExp (pt_cmpR op_eq (pv 2) pe_int (nomark _)) (pe_d0 d_best (hr.mono (by decide)) (by rfl) (pa2 (pv 3) (pv 1))) (pv 3)) (pv 2)))))
          (pss_nil))
        (pss_one (st 2 scSimplest.nd (pe_op op_mul pe_int (pv 2)))))))))))), ?_⟩
  refine ⟨_, rfl, v1, d1, rfl, hd1, fun n1 H1 s1 => ?_, fun n1 H1 s1 => qe (.inl n1) H1 s1⟩
  refine ⟨_, rfl, v2, d2, rfl, dp_same s1 _ _ hd2, fun n2 H2 s2 => ?_, fun n2 H2 s2 => qe (.inr n2) H2 (s1.trans s2)⟩
  obtain ⟨a, b, rfl⟩ := isNum_data n1
  obtain ⟨c, d, rfl⟩ := isNum_data n2
  have N1 := numb_iff.mp n1
  have N2 := numb_iff.mp n2
  obtain ⟨qn, qy⟩ := q a b c d rfl rfl N1 N2
  have s12 := s1.trans s2
  have A1 : At K H2 v1 (num a b) := ⟨rfl, dp_same s12 _ _ hd1⟩
  have A2 : At K H2 v2 (num c d) := ⟨rfl, dp_same s12 _ _ hd2⟩
  have cb := N1.cases
  have cd := N2.cases
  have l1 := N1.lo; have l2 := N1.hi; have l3 := N2.lo; have l4 := N2.hi
  have e40 : (2 : Nat) ^ 40 = 1099511627776 := by decide
  refine ⟨_, rfl, _, rfl, v1, v2, a, b, c, d, rfl, A1, A2, by omega, by omega, by omega, by omega, _, rfl, ?_⟩
  by_cases hlt : a * d < c * b
  · rw [decide_eq_true hlt]
    have qy := qy hlt
    clear qn
    refine iteF ⟨fun m σ H' => ∃ u y, σ = [some v1, some v2, some (.int u), y] ∧ Same H2 H' ∧ u * 2 ^ m = 128 ∧ 1 ≤ u ∧ simpLoop a b c d (m + 1) u = simpest a b c d, ⟨7, 1, none, rfl, Same.refl _, by decide, by decide, rfl⟩, ?_⟩
    rintro m σ H3 ⟨u, y, rfl, s3, hu, hu1, hs⟩
    have hu2 : u ≤ 128 := by
      have h1 : (1 : Int) ≤ 2 ^ m := by
        have := Nat.one_le_two_pow (n := m)
        have h : ((2 ^ m : Nat) : Int) = (2 : Int) ^ m := by simp
        omega
      have := Int.mul_le_mul_of_nonneg_left h1 (show 0 ≤ u by omega)
      omega
    refine ⟨true, rfl, iteT ⟨fun σ' H' => 0 < m ∧ simpLoop a b c d m (2 * u) = simpest a b c d ∧ ∃ y', σ' = [some v1, some v2, some (.int (2 * u)), y'] ∧ Same H2 H', ?_, ?_⟩⟩
    · rintro σ' H' ⟨hm, hl, y', e, s'⟩
      refine ⟨m - 1, by omega, 2 * u, y', e, s', ?_, by omega, ?_⟩
      · obtain ⟨j, rfl⟩ : ∃ j, m = j + 1 := ⟨m - 1, by omega⟩
        rw [Int.pow_succ] at hu
        show 2 * u * 2 ^ j = 128
        rw [← hu, Int.mul_comm 2 u, Int.mul_assoc, Int.mul_comm 2]
      · rw [show m - 1 + 1 = m by omega]; exact hl
    · have A1' := At.same A1 s3
      have A2' := At.same A2 s3
      obtain ⟨a1, rfl, t1⟩ := num_at A1'
      have hb0 : 0 < b := by omega
      refine ⟨_, rfl, a1, _, 0, _, rfl, rfl, t1, atI_nat (j := 0) rfl, _, rfl, _, _, rfl, rfl, .inr ⟨by omega, by omega⟩, _, rfl, a1, _, 1, _, rfl, rfl, t1, atI_nat (j := 1) rfl, _, _, rfl, rfl, ⟨hb0, by omega⟩, _, _, rfl, rfl, ?_⟩
      have hfb : -100000 ≤ a * u / b + 1 ∧ a * u / b + 1 ≤ 100000 := by
        have x1 : -57344 ≤ a * u := by
          have h1 := Int.mul_le_mul_of_nonneg_right (show -448 ≤ a by omega) (show 0 ≤ u by omega)
          omega
        have x2 : a * u ≤ 57344 := by
          have h1 := Int.mul_le_mul_of_nonneg_right (show a ≤ 448 by omega) (show 0 ≤ u by omega)
          omega
        generalize a * u = z at x1 x2
        rcases cb with rfl | rfl | rfl | rfl | rfl | rfl | rfl <;> omega
      refine ⟨_, rfl, _, rfl, szl rfl, fun p H4 np s4 e4 => ⟨_, rfl, .ref p, v2, a * u / b + 1, u, c, d, rfl, at_num e4, At.same A2' s4, by omega, by omega, by omega, by omega, _, rfl, ?_⟩⟩
      have hs' : (if (a * u / b + 1) * d < c * u then (if u = 1 then bestInt (a * u / b + 1) c d else a * u / b + 1, u) else simpLoop a b c d m (2 * u)) = simpest a b c d := hs
      by_cases hc : (a * u / b + 1) * d < c * u
      · rw [decide_eq_true hc]
        rw [if_pos hc] at hs'
        have e1 : (simpest a b c d).1 = if u = 1 then bestInt (a * u / b + 1) c d else a * u / b + 1 := by rw [← hs']
        have e2 : (simpest a b c d).2 = u := by rw [← hs']
        have A2'' := At.same A2' s4
        have sa := s12.trans (s3.trans s4)
        refine iteT ⟨_, rfl, rfl, _, rfl, ?_⟩
        by_cases h1 : u = 1
        · rw [if_pos h1] at e1
          refine ite2 (fun _ => ⟨_, rfl, _, rfl, v2, _, c, d, rfl, A2'', by omega, by omega, _, rfl, szl rfl, fun r H5 nr s5 e5 => ?_⟩) fun z => absurd (decide_eq_true (congrArg V.int h1)) z
          refine qy H5 r (sa.trans s5) (sa.free nr) ?_
          rw [e5, e1, e2]
        · rw [if_neg h1] at e1
          refine ite2 (fun z => absurd (V.int.inj (of_decide_eq_true z)) h1) fun _ => ⟨_, rfl, _, rfl, szl rfl, fun r H5 nr s5 e5 => ?_⟩
          refine qy H5 r (sa.trans s5) (sa.free nr) ?_
          rw [e5, e1, e2]
      · rw [decide_eq_false hc]
        rw [if_neg hc] at hs'
        have hm : 0 < m := by
          refine Nat.pos_of_ne_zero fun z => hc ?_
          subst z
          have : u = 128 := by simpa using hu
          subst this
          exact simp_last cb cd hlt
        exact iteF ⟨_, rfl, _, _, rfl, rfl, .inl ⟨by decide, by decide⟩, hm, hs', _, rfl, s3.trans s4⟩
  · rw [decide_eq_false hlt]
    exact qn hlt _ s12
end
end Sv

set_option maxHeartbeats 4000000
namespace Sv
open PySem PySem.Spec PyProof.Rows L2 L2H HotX LamX
/-! ### _law_lowest -/
def lowStep (p : Int × Int) : Int × Int := if p.1 % 2 = 0 ∧ 1 < p.2 then (p.1 / 2, p.2 / 2) else p
def lowIt : Nat → Int × Int → Int × Int
  | 0, p => p
  | n + 1, p => lowStep (lowIt n p)
def lowF (t u : Int) : Int × Int := lowIt 8 (t, u)
section
variable {P : Program} {w : World} {K : PySem.W.Frag} {mg : Str → Option Value} {base : Heap} {C : Nat → Addr} {CS : Addr}
def spLow : Sp := fun vs H Q _ => ∃ t u, vs = [.int t, .int u] ∧ NewQ H (.tup [.int (lowF t u).1, .int (lowF t u).2]) Q
theorem scLow : FnScope ["top", "under", "turn"] ["top", "under"] (defScope s_law_lowest) := ⟨rfl, rfl, rfl, by decide +kernel, rfl, by decide +kernel, by decide +kernel⟩
theorem k_low (F : Here K mg "_law_lowest" s_law_lowest) (B : Blt mg) : Keeps' P w K mg base CX0 1 "_law_lowest" ["top", "under"] spLow := by
  refine keeps0 F scLow (fun _ _ _ _ _ _ us hl => match us, hl with | [_, _], _ => rfl) (fun vs H Q E h => by obtain ⟨_, _, e, _⟩ := h; rw [e]; rfl) fun f cdv A outer s H vs Q E hr h => ?_
  obtain ⟨t, u, rfl, q⟩ := h
  refine ⟨_, pss_cons (ps_for PassesOwn.never rfl (pi_range1 (by rfl) B.range (pa1 pe_int)) (pgn 2 scLow.nd)
      (pss_one (ps_if (PW.pt (pw_and (pt_cmpR op_eq (pe_op op_mod (pv 0) pe_int) pe_int (nomark _)) (pw_and1 (pt_cmpR op_gt (pv 1) pe_int (nomark _)))))
          (pss_one (ps_par (i := 0) (j := 1) rfl scLow.nd rfl rfl (by decide) rfl rfl (pa2 (pe_op op_fdiv (pv 0) pe_int) (pe_op op_fdiv (pv 1) pe_int)) (by rfl)))
          (pss_nil))))
    (pss_one (ps_ret (pe_tupN (pa2 (pv 0) (pv 1))))), ?_⟩
  refine ⟨8, rfl, by decide, by decide, for_it (walk_range (lo := 0)) (fun i σ H' => H' = H ∧ ∃ y, σ = [some (.int (lowIt i (t, u)).1), some (.int (lowIt i (t, u)).2), y]) ⟨rfl, none, rfl⟩ (fun _ _ _ _ _ => trivial) ?_ ?_⟩
  · rintro i x σ H1 H2 hi ⟨rfl, y, rfl⟩ ⟨rfl, rfl⟩
    generalize hp : lowIt i (t, u) = p
    have hs : lowIt (i + 1) (t, u) = lowStep p := by show lowStep (lowIt i (t, u)) = _; rw [hp]
    refine ⟨_, rfl, _, _, rfl, rfl, (show (0 : Int) < 2 by decide), rfl, _, rfl, ?_⟩
    by_cases h0 : p.1 % 2 = 0
    · rw [decide_eq_true (congrArg V.int h0)]
      refine iteT ⟨_, rfl, _, _, rfl, rfl, _, rfl, ?_⟩
      by_cases h1 : 1 < p.2
      · rw [decide_eq_true h1]
        have e : lowStep p = (p.1 / 2, p.2 / 2) := if_pos ⟨h0, h1⟩
        refine iteT ⟨_, rfl, _, _, rfl, rfl, ⟨by decide, by decide⟩, _, rfl, _, _, rfl, rfl, ⟨by decide, by decide⟩, _, _, rfl, rfl, some (.int (0 + (i : Nat))), ?_⟩
        rw [hs, e]; rfl
      · rw [decide_eq_false h1]
        have e : lowStep p = p := if_neg fun z => h1 z.2
        refine iteF ⟨rfl, some (.int (0 + (i : Nat))), ?_⟩
        rw [hs, e]; rfl
    · rw [decide_eq_false (fun z => h0 (V.int.inj z))]
      have e : lowStep p = p := if_neg fun z => h0 z.1
      refine iteF ⟨rfl, some (.int (0 + (i : Nat))), ?_⟩
      rw [hs, e]; rfl
  · rintro σ H1 ⟨rfl, y, rfl⟩
    exact ⟨_, rfl, _, rfl, szl rfl, q⟩
end
/-- what it makes of a fraction over a power of 2 -/
theorem low_num {t u : Int} (hu : u = 1 ∨ u = 2 ∨ u = 4 ∨ u = 8 ∨ u = 16 ∨ u = 32 ∨ u = 64) (h1 : -448 ≤ t) (h2 : t ≤ 448) : Numb (lowF t u).1 (lowF t u).2 := by
  have inv : ∀ n, ∀ b : Int, (∀ p : Int × Int, p = lowIt n (t, u) → (p.2 = 1 ∨ p.2 = 2 ∨ p.2 = 4 ∨ p.2 = 8 ∨ p.2 = 16 ∨ p.2 = 32 ∨ p.2 = 64) ∧ -448 ≤ p.1 ∧ p.1 ≤ 448 ∧ (p.2 = 1 ∨ p.1 % 2 = 1 ∨ p.2 ≤ b)) →
      (∀ p : Int × Int, p = lowIt (n + 1) (t, u) → (p.2 = 1 ∨ p.2 = 2 ∨ p.2 = 4 ∨ p.2 = 8 ∨ p.2 = 16 ∨ p.2 = 32 ∨ p.2 = 64) ∧ -448 ≤ p.1 ∧ p.1 ≤ 448 ∧ (p.2 = 1 ∨ p.1 % 2 = 1 ∨ p.2 ≤ b / 2)) := by
    intro n b h p hp
    have := h _ rfl
    subst hp
    show _ ∧ _
    have e : lowIt (n + 1) (t, u) = lowStep (lowIt n (t, u)) := rfl
    rw [e]
    generalize lowIt n (t, u) = q at this
    unfold lowStep
    split
    · dsimp only; omega
    · omega
  have h0 : ∀ p : Int × Int, p = lowIt 0 (t, u) → (p.2 = 1 ∨ p.2 = 2 ∨ p.2 = 4 ∨ p.2 = 8 ∨ p.2 = 16 ∨ p.2 = 32 ∨ p.2 = 64) ∧ -448 ≤ p.1 ∧ p.1 ≤ 448 ∧ (p.2 = 1 ∨ p.1 % 2 = 1 ∨ p.2 ≤ 64) := by
    rintro p rfl
    refine ⟨hu, h1, h2, .inr (.inr ?_)⟩
    show u ≤ 64
    omega
  have h8 := inv 7 _ (inv 6 _ (inv 5 _ (inv 4 _ (inv 3 _ (inv 2 _ (inv 1 _ (inv 0 _ h0))))))) _ rfl
  obtain ⟨a, b, c, d⟩ := h8
  have a : (lowF t u).2 = 1 ∨ (lowF t u).2 = 2 ∨ (lowF t u).2 = 4 ∨ (lowF t u).2 = 8 ∨ (lowF t u).2 = 16 ∨ (lowF t u).2 = 32 ∨ (lowF t u).2 = 64 := a
  have d : (lowF t u).2 = 1 ∨ (lowF t u).1 % 2 = 1 ∨ (lowF t u).2 ≤ 64 / 2 / 2 / 2 / 2 / 2 / 2 / 2 / 2 := d
  refine ⟨b, c, ?_, by omega⟩
  have : (lowF t u).2 ∈ pows := by simpa [pows] using a
  simpa using this
end Sv

set_option maxHeartbeats 4000000
namespace Sv
open PySem PySem.Spec PyProof.Rows L2 L2H HotX LamX
/-! ### _law_between -/
def Btw (a b c d u t : Int) : Prop := a * u < t * b ∧ t * d < c * u
theorem div_mul_le {x b : Int} (hb : 0 < b) : x / b * b ≤ x ∧ x < x / b * b + b := by
  have h1 := Int.emod_add_mul_ediv x b
  have h2 := Int.emod_nonneg x (show b ≠ 0 by omega)
  have h3 := Int.emod_lt_of_pos x hb
  have h4 : x / b * b = b * (x / b) := Int.mul_comm _ _
  omega
/-- all that lie between lie in the range that is looked through -/
theorem btw_range {a b c d u t : Int} (hb : 0 < b) (hd : 0 < d) (h : Btw a b c d u t) : a * u / b ≤ t ∧ t < c * u / d + 2 := by
  obtain ⟨h1, h2⟩ := h
  have p1 := div_mul_le (x := a * u) hb
  have p2 := div_mul_le (x := c * u) hd
  constructor
  · refine Int.not_lt.mp fun z => ?_
    have := Int.mul_le_mul_of_nonneg_right (show t + 1 ≤ a * u / b by omega) (show 0 ≤ b by omega)
    rw [Int.add_mul] at this
    omega
  · refine Int.not_le.mp fun z => ?_
    have := Int.mul_le_mul_of_nonneg_right (show c * u / d + 1 ≤ t by omega) (show 0 ≤ d by omega)
    rw [Int.add_mul] at this
    omega
section
variable {P : Program} {w : World} {K : PySem.W.Frag} {mg : Str → Option Value} {base : Heap} {C : Nat → Addr} {CS : Addr}
def spBetw (K : PySem.W.Frag) : Sp := fun vs H Q _ => ∃ v1 v2 a b c d u, vs = [v1, v2, .int u] ∧ At K H v1 (num a b) ∧ At K H v2 (num c d) ∧ Numb a b ∧ Numb c d ∧ 1 ≤ u ∧ u ≤ 128 ∧
  ∀ H' p (ts : List Int), Same H H' → H p = none → H' p = some (.lst (ts.map V.int)) → (∀ t, t ∈ ts ↔ Btw a b c d u t) → ts.length ≤ 200000 → Q (.ref p) H'
theorem scBetw : FnScope ["low", "high", "under", "first", "last", "some", "one"] ["low", "high", "under"] (defScope s_law_between) := ⟨rfl, rfl, rfl, by decide +kernel, rfl, by decide +kernel, by decide +kernel⟩
theorem k_betw (F : Here K mg "_law_between" s_law_between) (B : Blt mg) : Keeps' P w K mg base CX0 1 "_law_between" ["low", "high", "under"] (spBetw K) := by
  refine keeps0 F scBetw (fun _ _ _ _ _ _ us hl => match us, hl with | [_, _, _], _ => rfl) (fun vs H Q E h => by obtain ⟨_, _, _, _, _, _, _, e, _⟩ := h; rw [e]; rfl) fun f cdv A outer s H vs Q E hr h => ?_
  obtain ⟨v1, v2, a, b, c, d, u, rfl, A1, A2, N1, N2, u1, u2, q⟩ := h
  refine ⟨_, pss_cons (ps_par (i := 3) (j := 4) rfl scBetw.nd rfl rfl (by decide) rfl rfl (pa2 (pe_op op_fdiv (pe_op op_mul (pe_ix (ix_tupK K) (pv 0) pe_int (fun _ _ => rfl)) (pv 2)) (pe_ix (ix_tupK K) (pv 0) pe_int (fun _ _ => rfl))) (pe_op op_fdiv (pe_op op_mul (pe_ix (ix_tupK K) (pv 1) pe_int (fun _ _ => rfl)) (pv 2)) (pe_ix (ix_tupK K) (pv 1) pe_int (fun _ _ => rfl)))) (by rfl))
    (pss_cons (st 5 scBetw.nd (pe_listRgN rfl (by rfl) B.list (prg_2 (by rfl) B.range (pv 3) (pe_op op_add (pv 4) pe_int))))
    (pss_one (ps_ret (pe_lc (own := [("one", 6)]) rfl scBetw.nd (pi_listK K (pv 5)) (blkOk_by (own := [("one", 6)]) (N := ["low", "high", "under", "first", "last", "some", "one"]) (sc := defScope s_law_between) (by decide +kernel)) (fun _ _ _ _ _ => pgn 6 scBetw.nd) (fun _ _ _ _ _ => pts_one (PW.pt (pw_and (pt_cmpR op_lt (pe_op op_mul (pe_ix (ix_tupK K) (pv 0) pe_int (fun _ _ => rfl)) (pv 2)) (pe_op op_mul (pv 6) (pe_ix (ix_tupK K) (pv 0) pe_int (fun _ _ => rfl))) (nomark _)) (pw_and1 (pt_cmpR op_lt (pe_op op_mul (pv 6) (pe_ix (ix_tupK K) (pv 1) pe_int (fun _ _ => rfl))) (pe_op op_mul (pe_ix (ix_tupK K) (pv 1) pe_int (fun _ _ => rfl)) (pv 2)) (nomark _)))))) (fun _ _ _ _ _ => pv 6))))), ?_⟩
  obtain ⟨a1, rfl, t1⟩ := num_at A1
  obtain ⟨a2, rfl, t2⟩ := num_at A2
  have cb := N1.cases
  have cd := N2.cases
  have l1 := N1.lo; have l2 := N1.hi; have l3 := N2.lo; have l4 := N2.hi
  have hb0 : 0 < b := by omega
  have hd0 : 0 < d := by omega
  have m1 : CMul a u := .inr ⟨by omega, by omega⟩
  have m2 : CMul c u := .inr ⟨by omega, by omega⟩
  refine ⟨_, rfl, a1, _, 0, _, rfl, rfl, t1, atI_nat (j := 0) rfl, _, rfl, _, _, rfl, rfl, m1, _, rfl, a1, _, 1, _, rfl, rfl, t1, atI_nat (j := 1) rfl, _, _, rfl, rfl, ⟨hb0, by omega⟩, ?_⟩
  refine ⟨_, rfl, a2, _, 0, _, rfl, rfl, t2, atI_nat (j := 0) rfl, _, rfl, _, _, rfl, rfl, m2, _, rfl, a2, _, 1, _, rfl, rfl, t2, atI_nat (j := 1) rfl, _, _, rfl, rfl, ⟨hd0, by omega⟩, _, _, rfl, ?_⟩
  have bnd : ∀ x y : Int, (y = 1 ∨ y = 2 ∨ y = 4 ∨ y = 8 ∨ y = 16 ∨ y = 32 ∨ y = 64) → -448 ≤ x → x ≤ 448 → -57344 ≤ x * u / y ∧ x * u / y ≤ 57344 := by
    intro x y hy h1 h2
    have x1 : -57344 ≤ x * u := by
      have h1 := Int.mul_le_mul_of_nonneg_right (show -448 ≤ x by omega) (show 0 ≤ u by omega)
      omega
    have x2 : x * u ≤ 57344 := by
      have h1 := Int.mul_le_mul_of_nonneg_right (show x ≤ 448 by omega) (show 0 ≤ u by omega)
      omega
    generalize x * u = z at x1 x2
    rcases hy with rfl | rfl | rfl | rfl | rfl | rfl | rfl <;> omega
  have f1 := bnd a b cb l1 l2
  have f2 := bnd c d cd l3 l4
  have hfl : ∀ t, Btw a b c d u t → a * u / b ≤ t ∧ t < c * u / d + 2 := fun t h => btw_range hb0 hd0 h
  refine ⟨_, rfl, _, rfl, _, _, rfl, rfl, _, _, rfl, rfl, ⟨by omega, by omega, by omega, by omega, by omega⟩, fun g H1 ng s1 eg => ?_⟩
  have hlen := rgV_length (a * u / b) ((c * u / d) + 2)
  refine ⟨_, rfl, g, rfl, ⟨_, SqL.of eg⟩, ?_⟩
  refine lc_J (walk_list (xs := rgV (a * u / b) ((c * u / d) + 2))) Same (fun D i ys H' => ∃ ts : List Int, ys = ts.map V.int ∧ ∀ t, t ∈ ts ↔ ((a * u / b) ≤ t ∧ t < (a * u / b) + i ∧ Btw a b c d u t)) (goes_same H1) ?_ (fun H' t => SqL.of (t _ _ eg)) (fun _ _ => ⟨[], rfl, fun t => ⟨(fun z => nomatch z), fun z => absurd z.2.1 (by have := z.1; omega)⟩⟩) (fun _ _ _ _ _ _ _ _ r => r) ?_ ?_
  · rw [hlen, sizeLine_eq]; omega
  · rintro D E E0 i x ys H2 H3 nD eD hi t ⟨ts, e, h⟩ ⟨rfl, hx⟩ k1 k0
    have ex : x = .int ((a * u / b) + i) := by
      unfold rgV at hx
      rw [List.getElem?_map, List.getElem?_range (by rw [hlen] at hi; exact hi)] at hx
      exact (Option.some.inj hx).symm
    subst ex
    have t1' := (Same.ext (s1.trans t)).sqT t1
    have t2' := (Same.ext (s1.trans t)).sqT t2
    have hi2 : (i : Int) < 200000 := by rw [hlen] at hi; omega
    refine ⟨rfl, ⟨_, rfl, a1, _, 0, _, rfl, rfl, t1', atI_nat (j := 0) rfl, _, rfl, _, _, rfl, rfl, m1, _, rfl, _, rfl, a1, _, 1, _, rfl, rfl, t1', atI_nat (j := 1) rfl, _, _, rfl, rfl, .inr ⟨by omega, by omega⟩, _, _, rfl, rfl, _, rfl, ?_⟩⟩
    have more : Btw a b c d u ((a * u / b) + i) → ∀ t, t ∈ ts ++ [(a * u / b) + (i : Int)] ↔ ((a * u / b) ≤ t ∧ t < (a * u / b) + (i + 1 : Nat) ∧ Btw a b c d u t) := fun hB t => by
      rw [List.mem_append, List.mem_singleton, h t]
      constructor
      · rintro (z | rfl)
        · exact ⟨z.1, by omega, z.2.2⟩
        · exact ⟨by omega, by omega, hB⟩
      · rintro ⟨z1, z2, z3⟩
        by_cases z : t = (a * u / b) + i
        · exact .inr z
        · exact .inl ⟨z1, by omega, z3⟩
    have less : ¬ Btw a b c d u ((a * u / b) + i) → ∀ t, t ∈ ts ↔ ((a * u / b) ≤ t ∧ t < (a * u / b) + (i + 1 : Nat) ∧ Btw a b c d u t) := fun hB t => by
      rw [h t]
      constructor
      · rintro z
        exact ⟨z.1, by omega, z.2.2⟩
      · rintro ⟨z1, z2, z3⟩
        refine ⟨z1, ?_, z3⟩
        by_cases z : t = (a * u / b) + i
        · rw [z] at z3; exact absurd z3 hB
        · omega
    by_cases c1 : a * u < ((a * u / b) + i) * b
    · refine ite2 (fun _ => ⟨_, rfl, _, rfl, a2, _, 1, _, rfl, rfl, t2', atI_nat (j := 1) rfl, _, _, rfl, rfl, .inr ⟨by omega, by omega⟩, _, rfl, a2, _, 0, _, rfl, rfl, t2', atI_nat (j := 0) rfl, _, rfl, _, _, rfl, rfl, m2, _, _, rfl, rfl, _, rfl, ?_⟩) fun z => absurd (decide_eq_true c1) z
      by_cases c2 : ((a * u / b) + i) * d < c * u
      · refine ite2 (fun _ => ⟨_, rfl, k1 _ _ (Same.refl _) ⟨ts ++ [(a * u / b) + (i : Int)], by rw [e, List.map_append]; rfl, more ⟨c1, c2⟩⟩⟩) fun z => absurd (decide_eq_true c2) z
      · exact ite2 (fun z => absurd (of_decide_eq_true z) c2) fun _ => k0 _ (Same.refl _) ⟨ts, e, less fun z => c2 z.2⟩
    · exact ite2 (fun z => absurd (of_decide_eq_true z) c1) fun _ => k0 _ (Same.refl _) ⟨ts, e, less fun z => c1 z.1⟩
  · rintro D H2 ys nD t eD hy ⟨ts, e, h⟩
    rw [e] at eD
    rw [e, List.length_map, hlen] at hy
    refine q H2 D ts (s1.trans t) (s1.free nD) eD (fun t => ?_) (by omega)
    rw [h t]
    constructor
    · exact fun z => z.2.2
    · intro z
      have := hfl t z
      exact ⟨this.1, by rw [hlen]; omega, z⟩
end
end Sv

set_option maxHeartbeats 4000000
namespace Sv
/-! ### what simplest finds, in plain words -/
abbrev unders : List Int := [128, 64, 32, 16, 8, 4, 2, 1]
/-- u is the least denominator under which any lies between, t the least in size of those -/
structure IsS (a b c d t u : Int) : Prop where
  mem : u ∈ unders
  btw : Btw a b c d u t
  least : ∀ v ∈ unders, v < u → ∀ s, ¬ Btw a b c d v s
  best : ∀ s, Btw a b c d u s → t.natAbs < s.natAbs ∨ t = s
theorem IsS.eq {a b c d t u t' u' : Int} (h : IsS a b c d t u) (h' : IsS a b c d t' u') : t = t' ∧ u = u' := by
  have hu : u = u' := by
    refine Int.le_antisymm (Int.not_lt.mp fun z => h.least u' h'.mem z _ h'.btw) (Int.not_lt.mp fun z => h'.least u h.mem z _ h.btw)
  subst hu
  refine ⟨?_, rfl⟩
  rcases h.best _ h'.btw with z | z
  · rcases h'.best _ h.btw with y | y
    · omega
    · exact y.symm
  · exact z
theorem btw_neg {a b c d u t : Int} : Btw (-c) d (-a) b u t ↔ Btw a b c d u (-t) := by
  unfold Btw
  rw [Int.neg_mul, Int.neg_mul, Int.neg_mul, Int.neg_mul]
  omega
theorem IsS.neg {a b c d t u : Int} (h : IsS a b c d t u) : IsS (-c) d (-a) b (-t) u := by
  refine ⟨h.mem, btw_neg.mpr (by rw [Int.neg_neg]; exact h.btw), fun v hv z s hs => h.least v hv z _ (btw_neg.mp hs), fun s hs => ?_⟩
  rcases h.best _ (btw_neg.mp hs) with z | z <;> omega
theorem unders_pos {u : Int} (h : u ∈ unders) : 1 ≤ u ∧ u ≤ 128 := by
  simp only [unders, List.mem_cons, List.not_mem_nil, or_false] at h
  omega
theorem mul_lt_mul_r {x y b : Int} (h : x * b < y * b) (hb : 0 < b) : x < y := Int.lt_of_mul_lt_mul_right h (by omega)
/-- between two that lie between all lie between -/
theorem btw_mid {a b c d u s t r : Int} (hb : 0 < b) (hd : 0 < d) (h1 : Btw a b c d u s) (h2 : Btw a b c d u t) (x : s ≤ r) (y : r ≤ t) : Btw a b c d u r := by
  have p := Int.mul_le_mul_of_nonneg_right x (show 0 ≤ b by omega)
  have q := Int.mul_le_mul_of_nonneg_right y (show 0 ≤ d by omega)
  exact ⟨by have := h1.1; omega, by have := h2.2; omega⟩
/-- any lies between just when the first above the low one does -/
theorem btw_first {a b c d u : Int} (hb : 0 < b) (hd : 0 < d) : (∃ t, Btw a b c d u t) ↔ (a * u / b + 1) * d < c * u := by
  have p1 := div_mul_le (x := a * u) hb
  constructor
  · rintro ⟨t, h1, h2⟩
    have : a * u / b < t := by
      refine mul_lt_mul_r (b := b) ?_ hb
      omega
    have := Int.mul_le_mul_of_nonneg_right (show a * u / b + 1 ≤ t by omega) (show 0 ≤ d by omega)
    omega
  · intro h
    refine ⟨a * u / b + 1, ?_, h⟩
    rw [Int.add_mul]; omega
theorem btw_ge {a b c d u t : Int} (hb : 0 < b) (h : Btw a b c d u t) : a * u / b + 1 ≤ t := by
  have p1 := div_mul_le (x := a * u) hb
  have : a * u / b < t := by
    refine mul_lt_mul_r (b := b) ?_ hb
    have := h.1
    omega
  omega
theorem btw_half {a b c d u t : Int} (h : Btw a b c d (2 * u) (2 * t)) : Btw a b c d u t := by
  obtain ⟨h1, h2⟩ := h
  have e1 : a * (2 * u) = 2 * (a * u) := by rw [← Int.mul_assoc, Int.mul_comm a 2, Int.mul_assoc]
  have e2 : 2 * t * b = 2 * (t * b) := Int.mul_assoc _ _ _
  have e3 : c * (2 * u) = 2 * (c * u) := by rw [← Int.mul_assoc, Int.mul_comm c 2, Int.mul_assoc]
  have e4 : 2 * t * d = 2 * (t * d) := Int.mul_assoc _ _ _
  rw [e1, e2] at h1
  rw [e3, e4] at h2
  exact ⟨by omega, by omega⟩
/-- when none lies between under u, at most one does under 2 u -/
theorem btw_one {a b c d u s t : Int} (hb : 0 < b) (hd : 0 < d) (h0 : ∀ t, ¬ Btw a b c d u t) (h1 : Btw a b c d (2 * u) s) (h2 : Btw a b c d (2 * u) t) : s = t := by
  have key : ∀ x y, Btw a b c d (2 * u) x → Btw a b c d (2 * u) y → ¬ x < y := fun x y hx hy z => by
    by_cases e : x % 2 = 0
    · refine h0 (x / 2) (btw_half ?_)
      rw [show 2 * (x / 2) = x by omega]; exact hx
    · refine h0 ((x + 1) / 2) (btw_half ?_)
      rw [show 2 * ((x + 1) / 2) = x + 1 by omega]
      exact btw_mid hb hd hx hy (by omega) (by omega)
  have k1 := key _ _ h1 h2
  have k2 := key _ _ h2 h1
  omega
theorem best_is {a b c d : Int} (hb : 0 < b) (hd : 0 < d) (h : (a * 1 / b + 1) * d < c * 1) : Btw a b c d 1 (bestInt (a * 1 / b + 1) c d) ∧ ∀ s, Btw a b c d 1 s → (bestInt (a * 1 / b + 1) c d).natAbs < s.natAbs ∨ bestInt (a * 1 / b + 1) c d = s := by
  have p1 := div_mul_le (x := a * 1) hb
  have p2 := div_mul_le (x := -c) hd
  have first : Btw a b c d 1 (a * 1 / b + 1) := ⟨by rw [Int.add_mul]; omega, h⟩
  have lst : ∀ s, Btw a b c d 1 s → s ≤ -(-c / d) - 1 := fun s hs => by
    have h2 := hs.2
    have : -s > -c / d := by
      refine mul_lt_mul_r (b := d) ?_ hd
      rw [Int.neg_mul]
      omega
    omega
  have lastB : (-(-c / d) - 1) * d < c := by
    rw [Int.sub_mul, Int.neg_mul]; omega
  unfold bestInt
  split
  · rename_i h0
    refine ⟨first, fun s hs => ?_⟩
    have := btw_ge hb hs
    omega
  · rename_i h0
    have fl := lst _ first
    split
    · rename_i h1
      refine ⟨?_, fun s hs => by omega⟩
      have h3 : Btw a b c d 1 (-(-c / d) - 1) := by
        refine ⟨?_, by omega⟩
        have := Int.mul_le_mul_of_nonneg_right (show a * 1 / b + 1 ≤ -(-c / d) - 1 by omega) (show 0 ≤ b by omega)
        have := first.1
        omega
      exact btw_mid hb hd first h3 (by omega) (by omega)
    · rename_i h1
      have h3 : Btw a b c d 1 (-(-c / d) - 1) := by
        refine ⟨?_, by omega⟩
        have := Int.mul_le_mul_of_nonneg_right (show a * 1 / b + 1 ≤ -(-c / d) - 1 by omega) (show 0 ≤ b by omega)
        have := first.1
        omega
      refine ⟨h3, fun s hs => ?_⟩
      have := lst s hs
      omega
/-- the loop of simplest, from u on, when none lay between before -/
theorem simpLoop_is {a b c d : Int} (hb : 0 < b) (hd : 0 < d) : ∀ (n : Nat) (u : Int), (∀ v ∈ unders, v < u → ∀ s, ¬ Btw a b c d v s) → u ∈ unders → (u = 1 ∨ ∃ v ∈ unders, u = 2 * v) → u * 2 ^ n ≤ 256 → (a * 128 / b + 1) * d < c * 128 → 256 ≤ u * 2 ^ n →
    IsS a b c d (simpLoop a b c d n u).1 (simpLoop a b c d n u).2
  | 0, u, _, hu, _, _, _, h => by
    have := unders_pos hu
    rw [Int.pow_zero] at h
    omega
  | n + 1, u, hl, hu, hv, hle, hlast, hge => by
    unfold simpLoop
    by_cases hg : (a * u / b + 1) * d < c * u
    · rw [if_pos hg]
      by_cases h1 : u = 1
      · subst h1
        have hB := best_is hb hd hg
        exact ⟨hu, by rw [if_pos rfl]; exact hB.1, hl, by rw [if_pos rfl]; exact hB.2⟩
      · rw [if_neg h1]
        have hf : Btw a b c d u (a * u / b + 1) := ⟨by rw [Int.add_mul]; have := div_mul_le (x := a * u) hb; omega, hg⟩
        refine ⟨hu, hf, hl, fun s hs => .inr ?_⟩
        rcases hv with hv | ⟨v, hv, rfl⟩
        · exact absurd hv h1
        · exact btw_one hb hd (hl v hv (by have := unders_pos hv; omega)) hf hs
    · rw [if_neg hg]
      have hn : ∀ s, ¬ Btw a b c d u s := fun s hs => hg ((btw_first hb hd).mp ⟨s, hs⟩)
      have hu128 : u ≠ 128 := fun z => hg (by rw [z]; exact hlast)
      have e : 2 * u * 2 ^ n = u * 2 ^ (n + 1) := by rw [Int.pow_succ, Int.mul_comm 2 u, Int.mul_assoc, Int.mul_comm 2]
      refine simpLoop_is hb hd n (2 * u) (fun v hv z s hs => ?_) ?_ (.inr ⟨u, hu, rfl⟩) (by rw [e]; exact hle) hlast (by rw [e]; exact hge)
      · by_cases hvu : v < u
        · exact hl v hv hvu s hs
        · have : v = u := by
            simp only [unders, List.mem_cons, List.not_mem_nil, or_false] at hv hu
            omega
          exact hn s (this ▸ hs)
      · simp only [unders, List.mem_cons, List.not_mem_nil, or_false] at hu ⊢
        omega
theorem simpest_is {a b c d : Int} (N1 : Numb a b) (N2 : Numb c d) (h : a * d < c * b) : IsS a b c d (simpest a b c d).1 (simpest a b c d).2 := by
  have cb := N1.cases
  have cd := N2.cases
  refine simpLoop_is (by omega) (by omega) 8 1 (fun v hv z => ?_) (by decide) (.inl rfl) (by decide) (simp_last cb cd h) (by decide)
  have := unders_pos hv
  omega
theorem numb_neg {a b : Int} (h : Numb a b) : Numb (-a) b := ⟨by have := h.hi; omega, by have := h.lo; omega, h.pw, by have := h.od; omega⟩
theorem simpest_neg {a b c d : Int} (N1 : Numb a b) (N2 : Numb c d) (h : a * d < c * b) : (simpest (-c) d (-a) b).1 = -(simpest a b c d).1 ∧ (simpest (-c) d (-a) b).2 = (simpest a b c d).2 :=
  (simpest_is (numb_neg N2) (numb_neg N1) (by rw [Int.neg_mul, Int.neg_mul]; omega)).eq (simpest_is N1 N2 h).neg
/-- the least pair is the least in size -/
theorem best_of_min {a b c d u t : Int} (hb : 0 < b) (hd : 0 < d) (h : Btw a b c d u t) (hm : ∀ s, Btw a b c d u s → t.natAbs < s.natAbs ∨ (t.natAbs = s.natAbs ∧ t ≤ s)) : ∀ s, Btw a b c d u s → t.natAbs < s.natAbs ∨ t = s := by
  intro s hs
  rcases hm s hs with z | ⟨z, y⟩
  · exact .inl z
  · by_cases e : t = s
    · exact .inr e
    · have h0 := hm 0 (btw_mid hb hd h hs (by omega) (by omega))
      omega
/-- what the law's own loop has found after i denominators -/
def DueIs (a b c d : Int) (i : Nat) (due : Option (Int × Int)) : Prop :=
  match due with
  | none => ∀ u ∈ unders.take i, ∀ s, ¬ Btw a b c d u s
  | some (t, u) => u ∈ unders.take i ∧ Btw a b c d u t ∧ (∀ s, Btw a b c d u s → t.natAbs < s.natAbs ∨ t = s) ∧ ∀ v ∈ unders.take i, v < u → ∀ s, ¬ Btw a b c d v s
theorem due_end {a b c d : Int} (N1 : Numb a b) (N2 : Numb c d) (h : a * d < c * b) {due : Option (Int × Int)} (hd : DueIs a b c d 8 due) : due = some (simpest a b c d) := by
  have S := simpest_is N1 N2 h
  cases due with
  | none => exact absurd S.btw (hd _ S.mem _)
  | some p =>
    obtain ⟨t, u⟩ := p
    obtain ⟨h1, h2, h3, h4⟩ := hd
    have := IsS.eq ⟨h1, h2, h4, h3⟩ S
    rw [this.1, this.2]
theorem take_step : ∀ i, i < 8 → ∀ u, unders[i]? = some u → ∀ v ∈ unders.take (i + 1), v = u ∨ (v ∈ unders.take i ∧ u < v) := by
  intro i hi u hu v hv
  match i, hi with
  | 0, _ | 1, _ | 2, _ | 3, _ | 4, _ | 5, _ | 6, _ | 7, _ =>
    cases hu
    simp only [unders, List.take, List.mem_cons, List.not_mem_nil, or_false, List.mem_nil_iff] at hv ⊢
    omega
theorem take_sub {i : Nat} {v : Int} (h : v ∈ unders.take i) : v ∈ unders.take (i + 1) := by
  rw [List.take_add_one]; exact List.mem_append.mpr (.inl h)
theorem due_none {a b c d : Int} {i : Nat} {u : Int} (hi : i < 8) (hu : unders[i]? = some u) {due : Option (Int × Int)} (hd : DueIs a b c d i due) (h : ∀ s, ¬ Btw a b c d u s) : DueIs a b c d (i + 1) due := by
  cases due with
  | none =>
    intro v hv
    rcases take_step i hi u hu v hv with rfl | ⟨z, _⟩
    · exact h
    · exact hd v z
  | some p =>
    obtain ⟨t, w⟩ := p
    obtain ⟨h1, h2, h3, h4⟩ := hd
    refine ⟨take_sub h1, h2, h3, fun v hv z => ?_⟩
    rcases take_step i hi u hu v hv with rfl | ⟨y, _⟩
    · exact h
    · exact h4 v y z
theorem due_some {a b c d : Int} {i : Nat} {u t : Int} (hi : i < 8) (hu : unders[i]? = some u) (h1 : Btw a b c d u t) (h2 : ∀ s, Btw a b c d u s → t.natAbs < s.natAbs ∨ t = s) : DueIs a b c d (i + 1) (some (t, u)) := by
  refine ⟨?_, h1, h2, fun v hv z => ?_⟩
  · rw [List.take_add_one, hu]; exact List.mem_append.mpr (.inr (List.mem_singleton.mpr rfl))
  · rcases take_step i hi u hu v hv with rfl | ⟨_, y⟩
    · exact absurd z (by omega)
    · exact absurd z (by omega)
end Sv

set_option maxHeartbeats 8000000
namespace Sv
open PySem PySem.Spec PyProof.Rows L2 L2H HotX LamX
section
variable {P : Program} {w : World} {K : PySem.W.Frag} {mg : Str → Option Value} {base : Heap} {C : Nat → Addr} {CS c Pt : Addr}
def DueAt (H : Hp) (v : V) : Option (Int × Int) → Prop
  | none => v = .non
  | some (t, u) => ∃ r, v = .ref r ∧ H r = some (.tup [.int t, .int u])
theorem DueAt.same {H H' : Hp} {v : V} : ∀ {due : Option (Int × Int)}, DueAt H v due → Same H H' → DueAt H' v due
  | none, h, _ => h
  | some (t, u), h, s => let ⟨r, e, h⟩ := h; ⟨r, e, s _ _ h⟩
def spLaw (K : PySem.W.Frag) (Pt : Addr) : Sp := fun vs H Q _ => ∃ (a : Addr) (ns : List Int), vs = [.ref a] ∧ SqL K H a (ns.map V.int) ∧ ns.length ≤ 63 ∧ Tabs (lawT Pt) H ∧ ∀ H', Q (.bl true) H'
theorem scLaw : FnScope ["script", "dice", "some", "turn", "under", "one", "other", "made", "due", "good", "top", "negative", "bad"] ["script"] (defScope s_law) := ⟨rfl, rfl, rfl, by decide +kernel, rfl, by decide +kernel, by decide +kernel⟩
theorem k_law (F : HereC K mg "law" s_law c) (Ft : Here K mg "_law_told" s_law_told) (Fm : Here K mg "_law_term" s_law_term) (B : Blt mg) (Ex : Excs K mg C CS) (TB : TabB base mg c Pt)
    (d_rounds : Keeps' P w K mg base CX0 2 "_law_rounds" ["script", "most"] (spRounds K)) (d_roll : Keeps' P w K mg base CX0 2 "_law_roll" ["dice", "many"] spRoll) (d_low : Keeps' P w K mg base CX0 1 "_law_lowest" ["top", "under"] spLow)
    (d_betw : Keeps' P w K mg base CX0 1 "_law_between" ["low", "high", "under"] (spBetw K)) (d_simplest : Keeps' P w K mg base (L2N.CX P w) 4 "simplest" ["low", "high"] (spSimplest K C)) :
    KeepsC P w K mg base CX0 10 "law" ["script"] (spLaw K Pt) := by
  refine keepsLaw F scLaw (fun vs H Q E h => by obtain ⟨_, _, e, _⟩ := h; rw [e]; rfl) fun f A outer s H vs Q E hr h => ?_
  obtain ⟨a, ns, rfl, hS, hn, hT, q⟩ := h
  have TS : ToldS (cxOf CX0 P w K mg base ["script", "dice", "some", "turn", "under", "one", "other", "made", "due", "good", "top", "negative", "bad"] "law" (defScope s_law) f (.ref c) A outer s H E).nox C CS c Pt := ⟨Ft, Fm, B, Ex, TB⟩
  have hmT := lawT_mem (Pt := Pt)
  have huT := lawT_one (Pt := Pt)
  refine ⟨_, pss_cons (ps_for PassesOwn.never rfl (pi_listK K (pe_d0 d_rounds (hr.mono (by decide)) (by rfl) (pa2 (pv 0) pe_int))) (pgn 1 scLaw.nd)
      (pss_cons (st 2 scLaw.nd (pe_lstN pa_nil))
        (pss_cons (ps_for PassesOwn.never rfl (pi_range1 (by rfl) B.range (pa1 pe_int)) (pgn 3 scLaw.nd)
          (pss_cons (st 4 scLaw.nd (pe_ix (ix_listK K) (pe_lstN (pa_cons pe_int (pa_cons pe_int (pa_cons pe_int (pa_cons pe_int (pa3 pe_int pe_int pe_int)))))) (pe_d0 d_roll (hr.mono (by decide)) (by rfl) (pa2 (pv 1) pe_int)) (fun _ _ => rfl)))
            (pss_one (ps_expr (pe_bm PySem.F.plainAttrs_list PySem.F.slot_list_append PySem.F.type_list_append mt_append (pv 2) (pa1 (pe_d0 d_low (hr.mono (by decide)) (by rfl) (pa2 (pe_op op_sub (pe_d0 d_roll (hr.mono (by decide)) (by rfl) (pa2 (pv 1) (pe_op op_add (pe_op op_mul pe_int (pv 4)) pe_int))) (pe_op op_mul pe_int (pv 4))) (pv 4)))))))))
        (pss_cons (ps_asg (pv 2) (pg_lst rfl (pgs_cons (pgn 5 scLaw.nd) (pgs_cons (pgn 6 scLaw.nd) pgs_nil))))
        (pss_cut (st 7 scLaw.nd (pe_told (defScope s_law) (qOf "law") (k := 6) TS (hr.mono (by decide)) (fun A outer s H E f c' hr' => pe_dX d_simplest (hr'.mono (by decide)) (by rfl) (L2N.takes_of rfl rfl rfl rfl) (fun _ _ _ _ h => h) (pa2 (pv 5) (pv 6))) hmT huT))
        (pss_cut (ps_if (pt_cmpR op_ge (pe_op op_mul (pe_ix (ix_tupK K) (pv 5) pe_int (fun _ _ => rfl)) (pe_ix (ix_tupK K) (pv 6) pe_int (fun _ _ => rfl))) (pe_op op_mul (pe_ix (ix_tupK K) (pv 6) pe_int (fun _ _ => rfl)) (pe_ix (ix_tupK K) (pv 5) pe_int (fun _ _ => rfl))) (nomark _))
          (pss_one (ps_if (pt_cmpR (op_neAK K hr.units) (pv 7) (pe_tupN (pa2 pe_str pe_str)) (nomark _))
              (pss_one (ps_ret pe_bl))
              (pss_nil)))
          (pss_cons (st 8 scLaw.nd pe_non)
            (pss_cons (ps_for PassesOwn.never rfl (pi_listK K (pe_lstN (pa_cons pe_int (pa_cons pe_int (pa_cons pe_int (pa_cons pe_int (pa_cons pe_int (pa3 pe_int pe_int pe_int)))))))) (pgn 4 scLaw.nd)
              (pss_cons (st 9 scLaw.nd (pe_d0 d_betw (hr.mono (by decide)) (by rfl) (pa3 (pv 5) (pv 6) (pv 4))))
                (pss_one (ps_if (pt_cmpR (op_neNilK K hr.units) (pv 9) (pe_lstN pa_nil) (nomark _))
                  (pss_cons (st 8 scLaw.nd (pb (cr_minPK K rfl hr.units) B.min boot_min (pa1 (pe_lc (own := [("top", 10)]) rfl scLaw.nd (pi_listK K (pv 9)) (blkOk_by (own := [("top", 10)]) (N := ["script", "dice", "some", "turn", "under", "one", "other", "made", "due", "good", "top", "negative", "bad"]) (sc := defScope s_law) (by decide +kernel)) (fun _ _ _ _ _ => pgn 10 scLaw.nd) (fun _ _ _ _ _ => pts_nil) (fun _ _ _ _ _ => pe_tupN (pa2 (pb call_abs B.abs (by decide +kernel) (pa1 (pv 10))) (pv 10)))))))
                    (pss_one (st 8 scLaw.nd (pe_tupN (pa2 (pe_ix (ix_tupK K) (pv 8) pe_int (fun _ _ => rfl)) (pv 4))))))
                  (pss_nil)))))
            (pss_cons (ps_if (pt_cmpR (op_neAK K hr.units) (pv 7) (pv 8) (nomark _))
              (pss_one (ps_ret pe_bl))
              (pss_nil))
            (pss_cons (st 11 scLaw.nd (pe_dN d_simplest (hr.mono (by decide)) (by rfl) (pa2 (pe_tupN (pa2 (pe_un un_neg (pe_ix (ix_tupK K) (pv 6) pe_int (fun _ _ => rfl))) (pe_ix (ix_tupK K) (pv 6) pe_int (fun _ _ => rfl)))) (pe_tupN (pa2 (pe_un un_neg (pe_ix (ix_tupK K) (pv 5) pe_int (fun _ _ => rfl))) (pe_ix (ix_tupK K) (pv 5) pe_int (fun _ _ => rfl)))))))
            (pss_one (ps_if (pt_cmpR (op_neAK K hr.units) (pv 11) (pe_tupN (pa2 (pe_un un_neg (pe_ix (ix_tupK K) (pv 7) pe_int (fun _ _ => rfl))) (pe_ix (ix_tupK K) (pv 7) pe_int (fun _ _ => rfl)))) (nomark _))
              (pss_one (ps_ret pe_bl))
              (pss_nil))))))))
        (pss_one (ps_for PassesOwn.never rfl (pi_listK K (pe_lstN (pa3 pe_non (pe_tupN (pa2 pe_int pe_int)) (pe_tupN (pa2 pe_int pe_int))))) (pgn 12 scLaw.nd)
          (pss_one (ps_if (pt_cmpR (op_neAK K hr.units) (pe_told (defScope s_law) (qOf "law") (k := 6) TS (hr.mono (by decide)) (fun A outer s H E f c' hr' => pe_dX d_simplest (hr'.mono (by decide)) (by rfl) (L2N.takes_of rfl rfl rfl rfl) (fun _ _ _ _ h => h) (pa2 (pv 12) (pv 5))) hmT huT) (pe_tupN (pa2 pe_str pe_str)) (nomark _))
              (pss_one (ps_ret pe_bl))
              (pss_nil)))))))))))
    (pss_one (ps_ret pe_bl)), ?_⟩
  refine ⟨_, rfl, a, ns, 4, rfl, hS, hn, by decide, fun H1 p ds s1 np e1 hds => ?_⟩
  refine ⟨p, rfl, ⟨_, SqL.of e1⟩, for_it (walk_list (xs := ds.map V.ref)) (fun i σ H' => σ.length = 13 ∧ Live (lawT Pt) p ds H') ⟨rfl, e1, fun d hd => (hds d hd).2, fun t ht => (hT t ht).ext s1⟩ (fun i σ H' _ h => SqL.of h.2.rounds) ?_ ?_⟩
  · rintro i x σ H2 H2' hi ⟨hσ, L⟩ ⟨rfl, hx⟩
    obtain ⟨d, rfl, hd, hD⟩ := L.get hx
    match σ, hσ with
    | [y0, y1, y2, y3, y4, y5, y6, y7, y8, y9, y10, y11, y12], _ =>
    refine ⟨szl rfl, fun l H3 nl s3 e3 => ?_⟩
    have fl := L.fresh nl
    have L3 := L.same s3
    have hlen : l ≠ d := fun z => fl.2 (z ▸ hd)
    refine ⟨2, rfl, by decide, by decide, for_it (walk_range (lo := 0)) (fun j σ H' => ∃ z3 z4 vs, σ = [y0, some (.ref d), some (.ref l), z3, z4, y5, y6, y7, y8, y9, y10, y11, y12] ∧ Live (lawT Pt) p ds H' ∧ H' l = some (.lst vs) ∧ vs.length = j ∧ ∀ v ∈ vs, ∃ a b, At K H' v (num a b) ∧ Numb a b)
      ⟨y3, y4, [], rfl, L3, e3, rfl, (fun _ z => nomatch z)⟩ (fun _ _ _ _ _ => trivial) ?_ ?_⟩
    · rintro j x σ H4 H4' hj ⟨z3, z4, vs, rfl, L4, el, hv, hvs⟩ ⟨rfl, rfl⟩
      have D4 := L4.dice d hd
      refine ⟨szl rfl, fun g H5 ng s5 eg => ⟨_, rfl, d, 7, rfl, D4.same s5, by decide, by decide, fun H6 z m6 z0 z7 => ?_⟩⟩
      have D5 := D4.same s5
      have L6 := (L4.same s5).mv m6 D5
      have eg6 := m6.lst eg (D4.ne ng)
      obtain ⟨u, hu, hz⟩ : ∃ u : Int, (u = 1 ∨ u = 2 ∨ u = 4 ∨ u = 8 ∨ u = 16 ∨ u = 32 ∨ u = 64) ∧ atI [V.int 1, .int 2, .int 4, .int 8, .int 16, .int 32, .int 64] z = some (.int u) := by
        have : z = 0 ∨ z = 1 ∨ z = 2 ∨ z = 3 ∨ z = 4 ∨ z = 5 ∨ z = 6 := by omega
        rcases this with rfl | rfl | rfl | rfl | rfl | rfl | rfl
        · exact ⟨1, by decide, rfl⟩
        · exact ⟨2, by decide, rfl⟩
        · exact ⟨4, by decide, rfl⟩
        · exact ⟨8, by decide, rfl⟩
        · exact ⟨16, by decide, rfl⟩
        · exact ⟨32, by decide, rfl⟩
        · exact ⟨64, by decide, rfl⟩
      refine ⟨g, _, z, _, rfl, rfl, SqL.of eg6, hz, ?_⟩
      have D6 := L6.dice d hd
      have el6 := m6.lst (s5 _ _ el) hlen
      refine ⟨_, rfl, .inl ⟨rfl, _, SqL.of el6⟩, _, rfl, ?_⟩
      have mu : ∀ k : Int, CMul k u := fun k => .inr ⟨by omega, by omega⟩
      refine ⟨_, rfl, _, _, rfl, rfl, mu _, _, _, rfl, rfl, d, _, rfl, D6, by omega, by omega, fun H7 z' m7 z0' z7' => ?_⟩
      have L7 := L6.mv m7 D6
      have el7 := m7.lst el6 hlen
      refine ⟨_, rfl, _, _, rfl, rfl, mu _, _, _, rfl, rfl, _, rfl, _, _, rfl, fun g2 H8 ng2 s8 eg2 => ?_⟩
      have x48 : Ext H4' H8 := (Same.ext s5).trans ((Mv.ext D5 m6).trans ((Mv.ext D6 m7).trans (Same.ext s8)))
      refine ⟨l, vs, .ref g2, rfl, rfl, s8 _ _ el7, by rw [hv, sizeLine_eq]; omega, ?_⟩
      have x8 := Ext.lst (o := .lst (vs ++ [.ref g2])) (s8 _ _ el7)
      refine ⟨_, _, vs ++ [.ref g2], rfl, (L7.same s8).put (s8 _ _ el7) fl.1 fl.2, upd_same, by rw [List.length_append, hv]; rfl, fun v hvm => ?_⟩
      rcases List.mem_append.mp hvm with hvm | hvm
      · obtain ⟨a, b, h1, h2⟩ := hvs v hvm
        exact ⟨a, b, h1.ext (x48.trans x8), h2⟩
      · rw [List.mem_singleton.mp hvm]
        exact ⟨_, _, (at_num eg2).ext x8, low_num hu (by omega) (by omega)⟩
    · rintro σ H4 ⟨z3, z4, vs, rfl, L4, el, hv, hvs⟩
      match vs, hv with
      | [v1, v2], _ =>
      obtain ⟨a, b, A1, N1⟩ := hvs v1 (by simp)
      obtain ⟨c', d', A2, N2⟩ := hvs v2 (by simp)
      refine ⟨_, rfl, l, _, rfl, SqL.of el, rfl, _, _, rfl, _, _, rfl, rfl, ?_⟩
      have cb := N1.cases
      have cd := N2.cases
      have hb0 : 0 < b := by omega
      have hd0 : 0 < d' := by omega
      have n1 := numb_iff.mpr N1
      have n2 := numb_iff.mpr N2
      obtain ⟨a1, rfl, t1⟩ := num_at A1
      obtain ⟨a2, rfl, t2⟩ := num_at A2
      refine ⟨fun σ H' => ∃ v7, σ = [y0, some (.ref d), some (.ref l), z3, z4, some (.ref a1), some (.ref a2), some (.ref v7), y8, y9, y10, y11, y12] ∧ Live (lawT Pt) p ds H' ∧ ExtN H4 H' ∧
        (a * d' < c' * b → H' v7 = some (.tup [.int (simpest a b c' d').1, .int (simpest a b c' d').2])) ∧ (¬ a * d' < c' * b → At K H' (.ref v7) (errD 7)), ?_, ?_⟩
      · refine ⟨L4.tabs, fun H5 x5 T5 => ?_⟩
        have L5 := L4.extN x5 T5
        refine ⟨_, rfl, _, rfl, .ref a1, .ref a2, num a b, num c' d', rfl, (A1.ext (extN_ext x5)).2, (A2.ext (extN_ext x5)).2, (fun z => by rcases z with z | z <;> simp_all), fun _ _ _ _ e1 e2 _ _ => ?_⟩
        cases e1
        cases e2
        refine ⟨fun hlt H6 s6 => ⟨rfl, 7, by decide, rfl, fun H7 v7 s7 n7 e7 => ?_⟩, fun hlt H6 v7 s6 n7 e7 => ?_⟩
        · exact ⟨v7, rfl, (L5.same s6).same s7, (x5.trans (same_extN s6)).trans (same_extN s7), fun z => absurd z hlt, fun _ => at_err (by decide) e7⟩
        · exact ⟨v7, rfl, L5.same s6, x5.trans (same_extN s6), fun _ => e7, fun z => absurd hlt z⟩
      · rintro σ H5 ⟨v7, rfl, L5, x5, hm1, hm2⟩
        have A15 := A1.ext (extN_ext x5)
        have A25 := A2.ext (extN_ext x5)
        obtain ⟨_, ea, t15⟩ := num_at A15
        cases ea
        obtain ⟨_, ea, t25⟩ := num_at A25
        cases ea
        have l1 := N1.lo; have l2 := N1.hi; have l3 := N2.lo; have l4 := N2.hi
        refine ⟨fun σ H' => Live (lawT Pt) p ds H' ∧ At K H' (.ref a1) (num a b) ∧ ∃ x0 x1 x2 x3 x4 x6 x7 x8 x9 x10 x11 x12, σ = [x0, x1, x2, x3, x4, some (.ref a1), x6, x7, x8, x9, x10, x11, x12], ?_, ?_⟩
        · refine ⟨_, rfl, a1, _, 0, _, rfl, rfl, t15, atI_nat (j := 0) rfl, _, rfl, a2, _, 1, _, rfl, rfl, t25, atI_nat (j := 1) rfl, _, _, rfl, rfl, .inr ⟨by omega, by omega⟩, ?_⟩
          refine ⟨_, rfl, a2, _, 0, _, rfl, rfl, t25, atI_nat (j := 0) rfl, _, rfl, a1, _, 1, _, rfl, rfl, t15, atI_nat (j := 1) rfl, _, _, rfl, rfl, .inr ⟨by omega, by omega⟩, _, _, rfl, rfl, _, rfl, ?_⟩
          by_cases hlt : a * d' < c' * b
          · refine ite2 (fun z => absurd (of_decide_eq_true z) (by omega)) fun _ => ?_
            have em := hm1 hlt
            refine ⟨szl rfl, fun g H6 ng s6 eg => ⟨g, rfl, ⟨_, SqL.of eg⟩, for_it (walk_list (xs := unders.map V.int)) (fun i σ H' => ∃ z4 v8 z9 z10 due, σ = [y0, some (.ref d), some (.ref l), z3, z4, some (.ref a1), some (.ref a2), some (.ref v7), some v8, z9, z10, y11, y12] ∧
              Same H6 H' ∧ DueIs a b c' d' i due ∧ DueAt H' v8 due) ⟨z4, .non, y9, y10, none, rfl, Same.refl _, (fun _ z => nomatch z), rfl⟩ (fun i σ H' _ h => by obtain ⟨_, _, _, _, _, _, s', _⟩ := h; exact SqL.of (s' _ _ eg)) ?_ ?_⟩⟩
            · rintro i x σ H7 H7' hi ⟨z4, v8, z9, z10, due, rfl, s7, hdue, hv8⟩ ⟨rfl, hx⟩
              have hi8 : i < 8 := hi
              obtain ⟨u, hu, rfl⟩ : ∃ u, unders[i]? = some u ∧ x = .int u := by
                rw [List.getElem?_map] at hx
                cases hq : unders[i]? with
                | none => rw [hq] at hx; cases hx
                | some u => rw [hq] at hx; cases hx; exact ⟨u, rfl, rfl⟩
              have hup := unders_pos (List.mem_of_getElem? hu)
              have s57 := s6.trans s7
              refine ⟨_, rfl, _, rfl, _, rfl, .ref a1, .ref a2, a, b, c', d', u, rfl, A15.same s57, A25.same s57, N1, N2, hup.1, hup.2, fun H8 gd ts s8 ngd egd hts hlen => ?_⟩
              refine ⟨_, rfl, szl rfl, fun ge H9 nge s9 ege => ⟨gd, ge, ts, rfl, rfl, SqL.of (s9 _ _ egd), SqL.of ege, fun hnil => ⟨_, rfl, iteF ⟨_, _, _, _, due, rfl, s7.trans (s8.trans s9), due_none hi8 hu hdue (fun t ht => ?_), hv8.same (s8.trans s9)⟩⟩, fun hne => ⟨_, rfl, iteT ?_⟩⟩⟩
              · rw [hnil] at hts
                exact nomatch (hts t).mpr ht
              · have egd9 := s9 _ _ egd
                refine ⟨_, rfl, gd, rfl, ⟨_, SqL.of egd9⟩, ?_⟩
                refine lc_J (walk_list (xs := ts.map V.int)) Same (fun D i ys H' => ∃ ps : List Addr, ys = ps.map V.ref ∧ ps.length = i ∧ ∀ k p t, ps[k]? = some p → ts[k]? = some t → H' p = some (.tup [.int (if t < 0 then -t else t), .int t])) (goes_same H9) ?_ (fun H' t => SqL.of (t _ _ egd9)) (fun _ _ => ⟨[], rfl, rfl, (fun k p t z => by rw [List.getElem?_nil] at z; cases z)⟩) ?_ ?_ ?_
                · rw [List.length_map, sizeLine_eq]; omega
                · rintro D i ys H' H'' nD x _ ⟨ps, e, hl, h⟩
                  exact ⟨ps, e, hl, fun k p t h1 h2 => x.tup _ _ (h k p t h1 h2)⟩
                · rintro D E E0 j x ys H' H'' nD eD hj t ⟨ps, e, hl, h⟩ ⟨rfl, hx⟩ k1 k0
                  obtain ⟨tj, htj, rfl⟩ : ∃ u, ts[j]? = some u ∧ x = .int u := by
                    rw [List.getElem?_map] at hx
                    cases hq : ts[j]? with
                    | none => rw [hq] at hx; cases hx
                    | some u => rw [hq] at hx; cases hx; exact ⟨u, rfl, rfl⟩
                  refine ⟨rfl, ⟨_, rfl, _, rfl, _, rfl, szl rfl, fun r H4 nr s4 er => k1 _ _ s4 ⟨ps ++ [r], by rw [e, List.map_append]; rfl, by rw [List.length_append, hl]; rfl, fun k p t h1 h2 => ?_⟩⟩⟩
                  by_cases hk : k < j
                  · rw [List.getElem?_append_left (by omega)] at h1
                    exact s4 _ _ (h k p t h1 h2)
                  · have hkj : k = j := by
                      have := (List.getElem?_eq_some_iff.mp h1).1
                      rw [List.length_append, hl, List.length_singleton] at this
                      omega
                    subst hkj
                    rw [List.getElem?_append_right (by omega), hl, Nat.sub_self] at h1
                    rw [htj] at h2
                    cases h1
                    cases h2
                    exact er
                · rintro D H' ys nD s' eD hy ⟨ps, e, hl, h⟩
                  rw [e] at eD
                  rw [List.length_map] at hl
                  refine ⟨D, ps, ts.map fun t => (if t < 0 then -t else t, t), rfl, SqL.of eD, by rw [List.length_map]; exact hl, by rw [List.length_map]; exact List.length_pos_iff.mpr hne, fun k p x h1 h2 => ?_, fun p x hp hmem hmin => ?_⟩
                  · rw [List.getElem?_map] at h2
                    cases hq : ts[k]? with
                    | none => rw [hq] at h2; cases h2
                    | some t => rw [hq] at h2; cases h2; exact SqT.of (h k p t h1 hq)
                  · obtain ⟨t, ht, rfl⟩ := List.mem_map.mp hmem
                    refine ⟨_, rfl, p, _, 1, _, rfl, rfl, hp, atI_nat (j := 1) rfl, _, rfl, szl rfl, fun r H4 nr s4 er => ⟨_, _, _, _, some (t, u), rfl, s7.trans (s8.trans (s9.trans (s'.trans s4))), due_some hi8 hu ((hts t).mp ht) (best_of_min hb0 hd0 ((hts t).mp ht) fun w hw => ?_), r, rfl, er⟩⟩
                    have hm := hmin _ (List.mem_map.mpr ⟨w, (hts w).mpr hw, rfl⟩)
                    dsimp only at hm
                    split at hm <;> split at hm <;> omega
            · rintro σ H7 ⟨z4, v8, z9, z10, due, rfl, s7, hdue, hv8⟩
              have hend := due_end N1 N2 hlt hdue
              subst hend
              obtain ⟨r, rfl, er⟩ := hv8
              have s57 := s6.trans s7
              have em7 := s57 _ _ em
              obtain ⟨ng1, ng2⟩ := simpest_neg N1 N2 hlt
              refine ⟨_, rfl, _, rfl, num (simpest a b c' d').1 (simpest a b c' d').2, num (simpest a b c' d').1 (simpest a b c' d').2, at_num em7, at_num er, num_depth, num_depth, fun _ => ⟨_, rfl, iteF ?_⟩, fun z => absurd rfl z⟩
              have t17 := (Same.ext s57).sqT t15
              have t27 := (Same.ext s57).sqT t25
              refine ⟨_, rfl, a2, _, 0, _, rfl, rfl, t27, atI_nat (j := 0) rfl, _, rfl, _, rfl, a2, _, 1, _, rfl, rfl, t27, atI_nat (j := 1) rfl, szl rfl, fun n1' H8 nn1 s8 en1 => ?_⟩
              have t18 := (Same.ext s8).sqT t17
              refine ⟨_, rfl, a1, _, 0, _, rfl, rfl, t18, atI_nat (j := 0) rfl, _, rfl, _, rfl, a1, _, 1, _, rfl, rfl, t18, atI_nat (j := 1) rfl, szl rfl, fun n2' H9 nn2 s9 en2 => ?_⟩
              refine ⟨.ref n1', .ref n2', num (-c') d', num (-a) b, rfl, (at_num (s9 _ _ en1)).2, (at_num en2).2, (fun z => ?_), fun _ _ _ _ e1 e2 _ _ => ?_⟩
              · have k1 := numb_iff.mpr (numb_neg N1)
                have k2 := numb_iff.mpr (numb_neg N2)
                rcases z with z | z <;> simp_all
              · cases e1
                cases e2
                refine ⟨fun z => absurd (show -c' * b < -a * d' by rw [Int.neg_mul, Int.neg_mul]; omega) z, fun _ H10 ne s10 nne ene => ?_⟩
                have em10 := s10 _ _ (s9 _ _ (s8 _ _ em7))
                refine ⟨_, rfl, _, rfl, v7, _, 0, _, rfl, rfl, SqT.of em10, atI_nat (j := 0) rfl, _, rfl, _, rfl, v7, _, 1, _, rfl, rfl, SqT.of em10, atI_nat (j := 1) rfl, szl rfl, fun m H11 nm s11 emm => ?_⟩
                have sA := s57.trans (s8.trans (s9.trans (s10.trans s11)))
                refine ⟨num (simpest (-c') d' (-a) b).1 (simpest (-c') d' (-a) b).2, num (-(simpest a b c' d').1) (simpest a b c' d').2, at_num (s11 _ _ ene), at_num emm, num_depth, num_depth, fun _ => ⟨_, rfl, iteF ⟨L5.same sA, A15.same sA, _, _, _, _, _, _, _, _, _, _, _, _, rfl⟩⟩, fun z => absurd (by rw [ng1, ng2]) z⟩
          · refine ite2 (fun _ => ?_) fun z => absurd (decide_eq_true (show c' * b ≤ a * d' by omega)) z
            refine ⟨_, rfl, szl rfl, fun g H6 ng s6 eg => ⟨errD 7, errD 7, (hm2 hlt).same s6, at_err (by decide) eg, by decide, by decide, fun _ => ⟨_, rfl, ?_⟩, fun z => absurd rfl z⟩⟩
            exact iteF ⟨L5.same s6, A15.same s6, _, _, _, _, _, _, _, _, _, _, _, _, rfl⟩
        · rintro σ H6 ⟨L6, A16, x0, x1, x2, x3, x4, x6, x7, x8, x9, x10, x11, x12, rfl⟩
          refine ⟨szl rfl, fun t1 H7 n1' s7 e7 => ⟨szl rfl, fun t2 H8 n2' s8 e8 => ⟨szl rfl, fun g H9 ng s9 e9 => ⟨g, rfl, ⟨_, SqL.of e9⟩, ?_⟩⟩⟩⟩
          have s69 := s7.trans (s8.trans s9)
          refine for_it (walk_list (xs := [.non, .ref t1, .ref t2])) (fun i σ H' => Live (lawT Pt) p ds H' ∧ ExtN H9 H' ∧ ∃ x0 x1 x2 x3 x4 x6 x7 x8 x9 x10 x11 x12, σ = [x0, x1, x2, x3, x4, some (.ref a1), x6, x7, x8, x9, x10, x11, x12])
            ⟨L6.same s69, ExtN.refl _, _, _, _, _, _, _, _, _, _, _, _, _, rfl⟩ (fun i σ H' _ h => SqL.of (h.2.1 _ _ e9 (fun _ z => nomatch z))) ?_ ?_
          · rintro i x σ H10 H10' hi ⟨L10, x10', x0, x1, x2, x3, x4, x6, x7, x8, x9, x10, x11, x12, rfl⟩ ⟨rfl, hx⟩
            obtain ⟨dd, hdd, hnn⟩ : ∃ dd, At K H10' x dd ∧ isNum dd = false := by
              match i, hi with
              | 0, _ => cases hx; exact ⟨.none, At.non, by decide⟩
              | 1, _ => cases hx; exact ⟨num 1 3, (at_num (s9 _ _ (s8 _ _ e7))).ext (extN_ext x10'), by decide⟩
              | 2, _ => cases hx; exact ⟨num 2 2, (at_num (s9 _ _ e8)).ext (extN_ext x10'), by decide⟩
            refine ⟨L10.tabs, fun H11 x11' T11 => ⟨_, rfl, _, rfl, x, .ref a1, dd, num a b, rfl, (hdd.ext (extN_ext x11')).2, (((A16.same s69).ext (extN_ext x10')).ext (extN_ext x11')).2, fun _ H12 s12 => ⟨rfl, 4, by decide, rfl, fun H13 pe s13 ne ee => ?_⟩, fun _ _ _ _ e1 _ N _ => ?_⟩⟩
            · refine ⟨szl rfl, fun pf H14 nf s14 ef => ⟨errD 4, errD 4, at_err (by decide) (s14 _ _ ee), at_err (by decide) ef, by decide, by decide, fun _ => ⟨_, rfl, iteF ?_⟩, fun z => absurd rfl z⟩⟩
              have sA := s12.trans (s13.trans s14)
              exact ⟨(L10.extN x11' T11).same sA, x10'.trans (x11'.trans (same_extN sA)), _, _, _, _, _, _, _, _, _, _, _, _, rfl⟩
            · rw [e1, numb_iff.mpr N] at hnn
              cases hnn
          · rintro σ H10 ⟨L10, _, x0, x1, x2, x3, x4, x6, x7, x8, x9, x10, x11, x12, rfl⟩
            exact ⟨rfl, L10⟩
  · rintro σ H2 ⟨hσ, L⟩
    exact q _
end
end Sv

set_option maxHeartbeats 4000000
namespace Sv
open PySem PySem.Spec PyProof.Rows L2 L2H HotX LamX
/-- the classes' places -/
def cls10 (l : List Addr) : Nat → Addr := fun i => l.getD i 0
theorem tabs1 {h : Heap} {c Pt : Addr} (e : h.get? Pt = some (PySem.W.tabObj #[])) : ∀ p ∈ [(c, Pt)], h.get? p.2 = some (PySem.W.tabObj #[]) := fun p hp => by rw [List.mem_singleton.mp hp]; exact e
section
variable {P : Program} {w : World} {K : PySem.W.Frag} {mg : Str → Option Value} {base : Heap}
/-- the end: what walk_ofTs asks of the law -/
theorem lawAt {l : PySem.W.OpenLaw} {h : Heap} {fa c : Addr} {x : Str} {st : Stmt} {cs : List (Addr × Addr)} {sp : Sp} {n k : Nat} (X : K.In h) (FL : HereC K mg "law" st c) (hfa : mg "law" = some (.ref fa)) (hT : ∀ p ∈ cs, h.get? p.2 = some (PySem.W.tabObj #[])) (hn : (cs.all fun p => (K.lookup p.2).isNone) = true) (hc : (cs.all fun p => PySem.W.codeHdIn K p.1 p.2) = true)
    (hb : ∀ (kV doc pm : Value) (an : Option Addr) (cdv ct : Value) (us : List Value), us.length = 1 → bindArgs (PySem.W.fnOf "law" "law" (defArgs st) (defBody st) (defScope st) .none kV doc pm an cdv ct) ⟨us, []⟩ = pure ([x].zip us))
    (hsp : ∀ (H : Hp) (a : Addr) (ns : List Int), ns.length ≤ n → (∀ z ∈ ns, Builtin.Int.intBits z ≤ 1048576) → (∀ p ∈ cs, H p.2 = some (.tbl #[])) → SqL K H a (ns.map V.int) → sp [.ref a] H (fun v _ => v = .bl true) fun _ _ _ => False)
    (ok : ∀ base : Heap, K.In base → base.Ns mainGlobals mg → (∀ p ∈ cs, TabB base mg p.1 p.2) → KeepsC l.prog w K mg base CX0 k "law" [x] sp) : LawAtS l w K CX0 k n x mg fa h := by
  obtain ⟨f, oc, od, kV, doc, pm, an, ct, osl, g, lk, hcd, hk⟩ := FL
  cases hfa.symm.trans g
  refine ⟨PySem.W.fnOf "law" "law" (defArgs st) (defBody st) (defScope st) .none kV doc pm an (.ref c) ct, cs, sp, fun p hp => hT p hp, fun p hp => ?_, fun p hp => PySem.W.codeHd_of_K X (List.all_eq_true.mp hc p hp), fun s u => .of_eq (hb kV doc pm an _ ct [u] rfl), hsp, fun base KB GB TB => ?_⟩
  · have := List.all_eq_true.mp hn p hp
    exact Option.isNone_iff_eq_none.mp this
  · obtain ⟨f', fd', ⟨oc', od', osl', lk'⟩, g', F⟩ := ok base KB GB TB
    cases g.symm.trans g'
    rw [lk] at lk'
    cases lk'
    exact F
end
theorem walk {l : PySem.W.OpenLaw} {n k : Nat} {q : Program} {loose : List Str} {XP : (Str → Option Value) → Heap → Prop} {YP : World → Heap → Prop} {d : DefRec} {K : Params → PySem.W.Frag} {x : Str}
    (hn : l.most = some n) (hn2 : n ≤ sizeLine) (hdf : d.params.defaults = []) (hr : Room k callerA) (hY : ∀ (w : World) (h : Heap), YP w h → (K w.params).In h)
    (F : ∀ (w : World) (mg : Str → Option Value) (fa : Addr) (h : Heap), YP w h → (K w.params).In h → h.Ns mainGlobals mg → mg d.name = some (.ref fa) → LawAtS l w (K w.params) CX0 k n x mg fa h) :
    PySem.W.WalkO q loose XP YP l.row.toRowW d [] (fun f vs => PySem.call f vs) :=
  walk_ofTs (CX := fun _ => CX0) hn hn2 hdf hr hY F fun _ _ _ _ _ z => z
end Sv

set_option maxHeartbeats 4000000
namespace Sv
open PySem PySem.Spec PyProof.Rows L2 L2H HotX LamX
theorem fin {l : PySem.W.OpenLaw} {w : World} {K : PySem.W.Frag} {mg : Str → Option Value} {h : Heap} {fa c Pt CS : Addr} {C : Nat → Addr} (X : K.In h) (G : h.Ns mainGlobals mg) (hfa : mg "law" = some (.ref fa))
    (F_law_told : Here K mg "_law_told" s_law_told) (F_law_term : Here K mg "_law_term" s_law_term) (F_law_cell : Here K mg "_law_cell" s_law_cell) (F_law_drawn : Here K mg "_law_drawn" s_law_drawn) (F_law_roll : Here K mg "_law_roll" s_law_roll) (F_law_rounds : Here K mg "_law_rounds" s_law_rounds)
    (F_law_lowest : Here K mg "_law_lowest" s_law_lowest) (F_law_between : Here K mg "_law_between" s_law_between) (F_is_whole : Here K mg "is_whole" s_is_whole) (F_is_number : Here K mg "is_number" s_is_number) (F_need_number : Here K mg "need_number" s_need_number) (F_is_under : Here K mg "is_under" s_is_under) (F_simplest : Here K mg "simplest" s_simplest) (F_best_integer : Here K mg "best_integer" s_best_integer)
    (FL : HereC K mg "law" s_law c) (hB : bltB K = true) (hE : excsB K C CS = true) (hT : ∀ p ∈ [(c, Pt)], h.get? p.2 = some (PySem.W.tabObj #[])) (hn : (K.lookup Pt).isNone = true) (hc : PySem.W.codeHdIn K c Pt = true) :
    LawAtS l w K CX0 10 63 "script" mg fa h := by
  have B := blt_of X G hB
  have Ex := excs_of X G hE
  refine lawAt (st := s_law) (c := c) (cs := [(c, Pt)]) (sp := spLaw K Pt) X FL hfa hT (by rw [List.all_cons, List.all_nil, hn]; rfl) (by rw [List.all_cons, List.all_nil, hc]; rfl) (fun _ _ _ _ _ _ us hl => match us, hl with | [_], _ => rfl) ?_ ?_
  · intro H a ns hl _ hH hS
    refine ⟨a, ns, rfl, hS, hl, fun p hp => ?_, fun _ => rfl⟩
    rw [List.mem_singleton.mp hp]
    exact TabS.nil (hH _ (List.mem_singleton.mpr rfl))
  · intro base _ _ TB
    have d_cell := k_cell (P := l.prog) (w := w) (base := base) F_law_cell B
    have d_drawn := k_drawn (P := l.prog) (w := w) (base := base) F_law_drawn
    have d_roll := k_roll F_law_roll d_drawn
    have d_rounds := k_rounds F_law_rounds B d_cell
    have d_low := k_low (P := l.prog) (w := w) (base := base) F_law_lowest B
    have d_betw := k_betw (P := l.prog) (w := w) (base := base) F_law_between B
    have d_whole := k_whole (P := l.prog) (w := w) (base := base) F_is_whole B
    have d_num := k_is_number F_is_number B d_whole
    have d_need := k_need_number (C := C) F_need_number (Ex.one 4 _ rfl) d_num
    have d_under := k_under (P := l.prog) (w := w) (base := base) F_is_under
    have d_best := k_best (P := l.prog) (w := w) (base := base) F_best_integer
    have d_simplest := k_simplest F_simplest (Ex.one 7 _ rfl) d_need d_under d_best
    exact k_law FL F_law_told F_law_term B Ex (TB _ (List.mem_singleton.mpr rfl)) d_rounds d_roll d_low d_betw d_simplest
end Sv

open PySem PySem.W PyProof.Rows in
set_option maxRecDepth 100000 in
set_option maxHeartbeats 0 in
theorem PySem.Challenge.cw_stemvalues_k13_whole_simplest_holds : PySem.Challenge.rw_stemvalues_k13_whole_simplest.Holds := by
  w_on; o_law; k_head; (case hw => w_witness2)
  k_fill
  refine Sv.walk (l := PySem.Challenge.rw_stemvalues_k13_whole_simplest) (n := 63) (k := 10) (x := "script") rfl (by decide) rfl ⟨rfl, by decide, by decide⟩ (fun w h Y => PySem.W.km_in_of Y) ?F
  case F =>
    intro w mg fa h Y KX G hmg
    refine' Sv.fin (Pt := 241) (CS := 24) (C := Sv.cls10 [37,49,61,73,85,97,109,121,133,145]) KX G hmg (Sv.here_mk KX G ?a0 ?l0 ?c0 ?k0) (Sv.here_mk KX G ?a1 ?l1 ?c1 ?k1) (Sv.here_mk KX G ?a2 ?l2 ?c2 ?k2) (Sv.here_mk KX G ?a3 ?l3 ?c3 ?k3) (Sv.here_mk KX G ?a4 ?l4 ?c4 ?k4) (Sv.here_mk KX G ?a5 ?l5 ?c5 ?k5) (Sv.here_mk KX G ?a6 ?l6 ?c6 ?k6) (Sv.here_mk KX G ?a7 ?l7 ?c7 ?k7) (Sv.here_mk KX G ?a8 ?l8 ?c8 ?k8) (Sv.here_mk KX G ?a9 ?l9 ?c9 ?k9) (Sv.here_mk KX G ?a10 ?l10 ?c10 ?k10) (Sv.here_mk KX G ?a11 ?l11 ?c11 ?k11) (Sv.here_mk KX G ?a12 ?l12 ?c12 ?k12) (Sv.here_mk KX G ?a13 ?l13 ?c13 ?k13) (Sv.hereC_mk KX G ?aL ?lL ?cL ?kL) ?zB ?zE (Sv.tabs1 (PySem.W.km_tabs_of Y 241 (List.mem_singleton.mpr rfl))) ?zn ?zc
    (case a0 => k_is)
    (case l0 => k_is)
    (case c0 => k_is)
    (case k0 => k_is)
    (case a1 => k_is)
    (case l1 => k_is)
    (case c1 => k_is)
    (case k1 => k_is)
    (case a2 => k_is)
    (case l2 => k_is)
    (case c2 => k_is)
    (case k2 => k_is)
    (case a3 => k_is)
    (case l3 => k_is)
    (case c3 => k_is)
    (case k3 => k_is)
    (case a4 => k_is)
    (case l4 => k_is)
    (case c4 => k_is)
    (case k4 => k_is)
    (case a5 => k_is)
    (case l5 => k_is)
    (case c5 => k_is)
    (case k5 => k_is)
    (case a6 => k_is)
    (case l6 => k_is)
    (case c6 => k_is)
    (case k6 => k_is)
    (case a7 => k_is)
    (case l7 => k_is)
    (case c7 => k_is)
    (case k7 => k_is)
    (case a8 => k_is)
    (case l8 => k_is)
    (case c8 => k_is)
    (case k8 => k_is)
    (case a9 => k_is)
    (case l9 => k_is)
    (case c9 => k_is)
    (case k9 => k_is)
    (case a10 => k_is)
    (case l10 => k_is)
    (case c10 => k_is)
    (case k10 => k_is)
    (case a11 => k_is)
    (case l11 => k_is)
    (case c11 => k_is)
    (case k11 => k_is)
    (case a12 => k_is)
    (case l12 => k_is)
    (case c12 => k_is)
    (case k12 => k_is)
    (case a13 => k_is)
    (case l13 => k_is)
    (case c13 => k_is)
    (case k13 => k_is)
    (case aL => k_is)
    (case lL => k_is)
    (case cL => k_is)
    (case kL => k_is)
    (case zB => kernel_rfl)
    (case zE => kernel_rfl)
    (case zn => kernel_rfl)
    (case zc => kernel_rfl)

