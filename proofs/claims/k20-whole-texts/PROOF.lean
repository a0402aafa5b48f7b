import PyProof.Rows.All
import Wide.All
import OpenK.AllK
import Wide.FinOn
import HandS.ForMost
import HandS.ForExc
import HandS.ExcIs
import HandS.IsInst
import HandS.HotCalls
import HandS.ExcCtx
import HandS.Lambda
import HandS.EndTab
import HandS.Wide
import HandS.Walk
import HandS.Conv
import HandS.TupAny
import HandS.TupMul
import HandS.TryOnly
import HandS.Style
import HandS.Small
import HandS.Text
import HandS.Replace
import KE.KDictKeyed
import PySem.Challenge.RW_stemvalues_k20_whole_texts
set_option Elab.async false
set_option linter.all false
set_option maxRecDepth 100000
set_option maxHeartbeats 4000000
namespace Sv
open PySem PySem.Spec PyProof.Rows L2 L2H HotX
/-! ### rules for code that runs while an exception is handled: the end of a list's walk, sum, a comprehension of int(x) -/
section
variable {prog : Program} {w : World} {A : Around} {E : Value → Shared → Prop} {s : Shared}
theorem next_list_end_hot {it l x1 : Addr} {i : Nat} {items : Array Value} {Q : Option Value → Shared → Prop} (hot : HotAt A x1 s.heap) (hxi : x1 ≠ it)
    (hit : s.heap.IsListIter it l i) (hl : s.heap.IsList l items) (hx : items[i]? = none)
    (hQ : ∀ h', (∀ b o, b ≠ it → s.heap.get? b = some o → h'.get? b = some o) → Q none { s with heap := h' }) : wpAny (model prog w) A (pyNext (.ref it)) Q E s := by
  obtain ⟨hh, o1, vs1, h1, d1, c1⟩ := hot
  obtain ⟨oi, hoi, hci, hdi⟩ := id hit
  obtain ⟨ol, hol, _, nl, hdl⟩ := hl
  unfold pyNext
  refine wpAny_bind (wpAny_attempt (wpAny_callSpecial?_slot (name := Str.ofString "__next__") hit.typeIs slot_listiter_next
    (wpAny_call_entry slot_listiter_next hit.typeIs entry_listiter_next ?_ (args_listiter_next _))))
  show wpAny _ _ (field (.ref it) 0 >>= _) _ _ s
  refine wpAny_bind (wpAny_field hoi hdi (x := .ref l) rfl ?_)
  show wpAny _ _ (if (Value.ref l == Value.none) = true then _ else _) _ _ s
  rw [if_neg (show ¬ (Value.ref l == Value.none) = true by simp)]
  show wpAny _ _ (field (.ref it) 1 >>= _) _ _ s
  refine wpAny_bind (wpAny_field hoi hdi (x := .int i 0) rfl ?_)
  show wpAny _ _ (seqItems? (.ref l) >>= _) _ _ s
  refine wpAny_bind (wpAny_seqItems hol hdl ?_)
  simp only [Int.toNat_natCast, hx]
  refine wpAny_bind (wpAny_rule (wpAny_bind (wpAny_setField hoi hdi (by simp) ?_)))
  show wpAny _ _ (newExc (.type "StopIteration") [] >>= _) _ _ _
  refine wpAny_bind ?_
  simp only [newExc, newTuple]
  refine wpAny_bind (wpAny_newObj_type ?_ (by size_fits))
  refine wpAny_bind (m := firstArgMember _ _) (wpAny_of_eq (a := Value.none) (by first | rfl | (simp only [firstArgMember]; rfl)) ?_)
  refine wpAny_newObj_type ?_ (by size_fits)
  have h1' := (Heap.get?_update_other s.heap (Obj.mapFields (·.setIfInBounds 0 Value.none)) (Ne.symm hxi)).trans h1
  refine raiseNew_hot ⟨hh, o1, vs1, Heap.get?_push_of_some _ (Heap.get?_push_of_some _ h1'), d1, c1⟩ (Nat.ne_of_lt (Heap.lt_size (Heap.get?_push_of_some _ h1'))) (Heap.get?_push_size _ rfl) rfl (by first | (simp; done) | (simp; omega)) ?_
  refine wpAny_bind (wpAny_isInstance (T := "StopIteration") (b := true) ⟨_, Heap.get?_update_self _ (Heap.get?_push_size _ rfl) rfl, rfl⟩ isSubtype_stop ?_)
  refine wpAny_pure (hQ _ fun b o hb e => ?_)
  have e' := (Heap.get?_update_other s.heap (Obj.mapFields (·.setIfInBounds 0 Value.none)) (Ne.symm hb)).trans e
  rw [Heap.get?_update_other _ _ (Nat.ne_of_gt (Heap.lt_size (Heap.get?_push_of_some _ e')))]
  exact Heap.get?_push_of_some _ (Heap.get?_push_of_some _ e')
/-- the walk of a list, where the exception at x1 is handled -/
theorem walk_list_hot {x1 : Addr} (hh : A.handled = some (.ref x1)) (I ax : Addr) (hne : ax ≠ I) (hx : x1 ≠ I) (items : Array Value) :
    Walks prog w A I [I, ax, x1] [I] items.size (fun i v => items[i]? = some v) (fun i h => h.IsListIter I ax i ∧ h.IsList ax items ∧ HotAt A x1 h) where
  sub := fun b hb => by simp at hb; simp [hb]
  frame := fun _ _ _ st hk => ⟨st.1.at fun o e => hk I (by simp) o e, st.2.1.at fun o e => hk ax (by simp) o e, by
    obtain ⟨_, h1, o, vs, e, r⟩ := st.2
    exact ⟨hh, o, vs, hk x1 (by simp) o e, r⟩⟩
  item := fun i s Q E hi st hQ => by
    refine wpAny_pyNext_list_item st.1 st.2.1 (x := items[i]) (by simp [hi]) fun h' hit' hs' => ?_
    refine hQ _ h' s.toks (by simp [hi]) ⟨hit', st.2.1.extBut hs'.extBut hne, ?_⟩ fun b o hb e => hs'.extBut b o (fun h => hb (by simp [h])) e
    obtain ⟨_, h1, o, vs, e, r⟩ := st.2
    exact ⟨hh, o, vs, hs'.extBut x1 o hx e, r⟩
  done := fun s Q E st hQ => next_list_end_hot st.2.2 hx st.1 st.2.1 (by simp) fun h' he' => hQ h' s.toks fun b o hb e => he' b o (fun h => hb (by simp [h])) e
  self := fun _ _ _ _ st hQ => wpAny_pyIter_listiter st.1 hQ
theorem sum_hot {x1 l : Addr} {its : List Value} {ns : List Int} {Q : Value → Shared → Prop} (hot : HotAt A x1 s.heap) (hl : s.heap.IsList l its.toArray) (hi : IntsAre its ns)
    (h : ∀ h' tk t', (∀ b o, s.heap.get? b = some o → h'.get? b = some o) → Q (.int ns.sum t') { s with heap := h', toks := tk }) : wpAny (model prog w) A (call (.builtin "sum") [.ref l]) Q E s := by
  obtain ⟨xs, e⟩ := hi.allInts.items
  have hn : numsOf (intItems xs).toList = ns := by rw [← e]; exact hi.numsOf
  rw [nums_intItems] at hn
  rw [e] at hl
  obtain ⟨hh, o1, v1, g1, d1, c1⟩ := hot
  refine call_sum_walkG (iter_intList hl fun s₂ es st hfp hlI => ?_)
  subst es
  have g2 := Heap.get?_push_of_some (h := s.heap) { cls := .type "list_iterator", data := .fields #[.ref l, .int 0 0] } g1
  refine ⟨_, _, _, _, _, _, numAt xs, rfl, walk_list_hot (A := A.in1) (x1 := x1) hh _ l hlI (Nat.ne_of_lt (Heap.lt_size g1)) (intItems xs), ⟨st.1, st.2, hh, o1, v1, g2, d1, c1⟩, fun b hb => ?_, (fun _ _ => intItems_at), fun h' tk t' hk => ?_⟩
  · rcases List.mem_cons.mp hb with z | hb
    · exact hfp b (by simp [z])
    · rcases List.mem_cons.mp hb with z | hb
      · exact hfp b (by simp [z])
      · rw [List.mem_singleton.mp hb]
        exact Heap.lt_size g2
  · have := h h' tk t' (old_kept hk)
    rw [← hn] at this
    have hp : preSum (numAt xs) (intItems xs).size = (xs.toList.map (·.1)).sum := by
      rw [show (intItems xs).size = xs.size by simp [intItems], preSum_eq, List.take_of_length_le (by simp)]
    rw [hp]
    exact this
end
section
variable {X : Cx}
theorem cr_sumH (hc : HotC X) : CallR X (.builtin "sum") (rSum X.K) := by
  intro pins s σ H vs us Q I r h
  obtain ⟨a, ns, rfl, hs, q⟩ := h
  obtain ⟨its, rv, hl, _⟩ := I.list hs
  obtain ⟨x1, hot⟩ := hc.at I
  rw [Vals.ref1 r]
  exact sum_hot hot hl.isList rv.ints fun h' tk t' hk => ⟨.int _, H, I.kept hk, ⟨_, rfl⟩, q⟩
/-- a new object, told by its place being free -/
theorem inv_laid {pins : List (Addr × Obj)} {σ : L2.St} {H : Hp} {s : Shared} {h' : Heap} {a : Addr} {o : HO} {t' : Nat} (I : Inv X pins σ H s) (k : ∀ b u, s.heap.get? b = some u → h'.get? b = some u) (hn : s.heap.get? a = none)
    (new : ObjOk X.prog X.w (upd H a o) h' a o) : Inv X pins σ (upd H a o) { s with heap := h', toks := t' } := by
  have hH : H a = none := I.hok.gone hn
  refine I.un ⟨fun b u q _ _ _ => k b u q, fun b u q _ _ _ => ⟨u.slots, k b u q⟩, fun b u q n _ => ?_, fun b u q _ => ⟨u, k b u q⟩, fun b xs q => ?_, fun b u xs q => ?_, fun b ps q => ⟨#[], ?_⟩⟩ fun b u e => ?_
  · rw [upd_ne (fun z => by rw [z, hn] at q; cases q)]; exact n
  · rw [upd_ne (ne_of_none q hH)]; exact q
  · rw [upd_ne (ne_of_none q hH)]; exact q
  · rw [upd_ne (ne_of_none q hH), q]; simp
  · by_cases hb : b = a
    · subst hb; rw [upd_same] at e; cases e; exact new
    · rw [upd_ne hb] at e
      exact (I.hok b u e).stay (fun c v _ q => k c v q) (fun c q => by rw [upd_ne (ne_of_none q hH)]; exact q) fun c xs q => by rw [upd_ne (ne_of_none q hH)]; exact q
theorem relabel_same {scope : Scope} {env : Env} (h : ∀ y ∈ scope.names, y.2 ≠ .free) : relabel scope env = scope := by
  obtain ⟨k, names, g, c, m⟩ := scope
  unfold relabel
  congr 1
  rw [← List.map_id names]
  rw [List.map_map]
  refine List.map_congr_left fun y hy => ?_
  obtain ⟨n, kd⟩ := y
  have := h (n, kd) hy
  have z : kd ≠ NameKind.free := this
  simp [z]
theorem vals_b2i : ∀ {bs : List Bool} {zs : List Value}, Paired (fun v y => ∀ b, v = Value.bool b → ∃ t, y = Value.int (if b then 1 else 0) t) (bs.map Value.bool) zs →
    Vals ((bs.map fun b => if b then (1 : Int) else 0).map V.int) zs
  | [], _, .nil => .nil
  | b :: r, _, .cons r1 r2 => .cons (r1 b rfl) (vals_b2i r2)
/-- [int(x) for x in bools] -/
def tLcIntH (K : PySem.W.Frag) (tl : TE) : TE := fun σ H Q => tl σ H fun v H1 => ∃ (a : Addr) (bs : List Bool), v = V.ref a ∧ SqL K H1 a (bs.map V.bl) ∧
  ∀ D, H1 D = none → Q (.ref D) (upd H1 D (.lst ((bs.map fun b => if b then (1 : Int) else 0).map V.int)))
theorem pe_lcIntH {x : Str} {px p1 p2 p3 pos : Pos} {scope : Scope} {iter : Expr} {tl : TE} (hc : HotC X) (hi : PE X iter tl) (hm : X.mg "int" = none) (hk : scope.kind = .function) (h1 : scope.names.lookup x = some .local)
    (h2 : scope.names.lookup ("int" : Str) = some .globalImplicit) (h3 : ∀ y ∈ scope.names, y.2 ≠ .free) (h3c : ∀ y ∈ scope.names, y.2 ≠ .cell) (h4 : ∀ y ∈ scope.names, y.2 = .local → scope.names.lookup y.1 = some .local)
    (hs : ∀ v, foldedSetIterable iter X.env v = pure v := by intro _; rfl) (hdx : (x == ("__debug__" : Str)) = false := by decide) :
    PE X (.ListComp (.Call (.Name "int" p1) [.Name x p2] [] p3) [⟨.Name x px, iter, [], 0⟩] scope pos) (tLcIntH X.K tl) := by
  refine ⟨fun pins s σ H Q I h => ?_⟩
  have hclos : closureFor scope X.env = pure (cloFrom X.env.cells scope.names []) := closure_ok fun y hy e => absurd e (h3 y hy)
  refine wpAny_ListComp_free (fun _ => true) (fun v y => ∀ b, v = .bool b → ∃ t, y = .int (if b then 1 else 0) t) hclos h3c hk h4 h1 (thn (hi.run pins s σ H _ I h) fun u s1 hu => ?_) hs
  obtain ⟨v, H1, I1, rv, a, bs, ev, hS, q⟩ := hu
  subst ev
  obtain rfl : u = Value.ref a := rv
  obtain ⟨its, rits, hl, hz⟩ := I1.list hS
  have hb := rits.bls
  obtain ⟨x1, hot⟩ := hc.at I1
  obtain ⟨hh, o1, v1, g1, d1, c1⟩ := hot
  have hlt : a < s1.heap.objs.size := by obtain ⟨_, _, e, _⟩ := hl; exact Heap.lt_size e
  refine wpAny_pyIter_list hl.isList ?_
  have g2 := Heap.get?_push_of_some (h := s1.heap) { cls := .type "list_iterator", data := .fields #[.ref a, .int 0 0] } g1
  refine ⟨s1.heap.objs.size, _, _, _, _, _, rfl, walk_list_hot (x1 := x1) hh _ a (Nat.ne_of_lt hlt) (Nat.ne_of_lt (Heap.lt_size g1)) its.toArray, ?_, ⟨⟨_, Heap.get?_push_size _ rfl, rfl, rfl⟩, hl.isList.push _, hh, o1, v1, g2, d1, c1⟩, fun b hb => ?_, ⟨?_, ?_⟩, ?_⟩
  · have := rits.length
    simp only [List.size_toArray]
    omega
  · show b < (s1.heap.push _).objs.size
    rw [Heap.size_push]
    rcases List.mem_cons.mp hb with z | hb
    · rw [z]; exact Nat.lt_succ_self _
    · rcases List.mem_cons.mp hb with z | hb
      · rw [z]; exact Nat.lt_succ_of_lt hlt
      · rw [List.mem_singleton.mp hb]
        exact Nat.lt_succ_of_lt (Heap.lt_size g1)
  · intro C i v s₃ m₃ E' _ _ _ _ _ _
    exact wpAny_tests_nil ⟨rfl, s₃.heap, s₃.toks, rfl, fun _ _ z => z⟩
  · intro C i v s₃ m₃ E' hC hv _ hn hmx hkp htk
    have hv : its[i]? = some v := by simpa using hv
    rw [hb] at hv
    obtain ⟨b, hbi, rfl⟩ : ∃ b, bs[i]? = some b ∧ v = Value.bool b := by
      rw [List.getElem?_map] at hv
      cases e : bs[i]? with
      | none => rw [e] at hv; cases hv
      | some b => rw [e] at hv; exact ⟨b, rfl, (Option.some.inj hv).symm⟩
    have er : (compEnvC scope (cloFrom X.env.cells scope.names []) C X.env).scope = scope := relabel_same h3
    have kp : ∀ b o, X.base.get? b = some o → s₃.heap.get? b = some o := fun b o e => by
      have e1 := I1.bk b o e
      exact hkp b o (fun z => by rw [List.mem_singleton.mp z] at e1; exact absurd (Heap.lt_size e1) (Nat.lt_irrefl _)) (Heap.get?_push_of_some _ e1)
    obtain ⟨mb, b1, b2⟩ := I1.mod.blt
    refine Call_ (Calls.Name_function_global (by rw [er]; exact hk) (by show (compEnvC scope _ C X.env).scope.names.lookup _ = _; rw [er]; exact h2)
      (Calls.loadGlobal_builtin (env := compEnvC scope (cloFrom X.env.cells scope.names []) C X.env) (by show s₃.heap.Ns X.env.globals _; rw [I1.ok.glob]; exact I1.mod.glob.keeps kp) hm (by show s₃.heap.Ns X.env.builtins _; rw [I1.ok.blt]; exact b1.keeps kp) ((b2 "int" (by decide)).trans (by decide +kernel : bootBuiltins "int" = some (.type "int"))) ?_))
    refine PyProof.Rows.callWith_type1 (Calls.spliced_cons (wpAny_Name (wpAny_loadName_local (by rw [er]; exact hk) (by show (compEnvC scope _ C X.env).scope.names.lookup _ = _; rw [er]; exact h1) hn hmx (Calls.spliced_nil (call_int_bool ?_))) hdx)) rfl rfl
    exact ⟨fun b' e => ⟨_, by cases e; rfl⟩, s₃.heap, s₃.toks + 1, rfl, fun _ _ z => z⟩
  · intro D h' tk ys vs hD hDl hpl hlen hP hF hkp
    obtain ⟨n, hDo⟩ := hpl
    have fr : ∀ b o, s1.heap.get? b = some o → h'.get? b = some o := fun b o e => hkp b o (fun z => by rw [List.mem_singleton.mp z] at e; exact absurd (Heap.lt_size e) (Nat.lt_irrefl _)) (Heap.get?_push_of_some _ e)
    have hD1 : s1.heap.get? D = none := by
      cases e : s1.heap.get? D with
      | none => rfl
      | some o => rw [show (s1.heap.push _).get? D = some o from Heap.get?_push_of_some _ e] at hD; cases hD
    have evs : vs = bs.map Value.bool := by
      rw [← hb]
      refine List.ext_getElem? fun j => ?_
      cases e : vs[j]? with
      | none =>
        have := List.getElem?_eq_none_iff.mp e
        exact (List.getElem?_eq_none_iff.mpr (by simp only [List.size_toArray] at hlen; omega)).symm
      | some v => simpa using (hP j v e).symm
    have rv2 : Vals ((bs.map fun b => if b then (1 : Int) else 0).map V.int) ys.toList := by
      rw [show vs.filter (fun _ => true) = vs from List.filter_eq_self.mpr fun _ _ => rfl, evs] at hF
      exact vals_b2i hF
    have hz2 : ((bs.map fun b => if b then (1 : Int) else 0).map V.int).length ≤ sizeLine := by
      simpa using hz
    have J : Inv X pins σ (upd H1 D (.lst ((bs.map fun b => if b then (1 : Int) else 0).map V.int))) { s1 with heap := h', toks := tk } := inv_laid (s := s1) (t' := tk) I1 fr hD1 ⟨hz2, ys.toList, n, rv2, by simpa using hDo⟩
    exact ⟨.ref D, _, J, rfl, q D (I1.hok.gone hD1)⟩
end
end Sv

set_option maxHeartbeats 4000000
namespace Sv
open PySem PySem.Spec PyProof.Rows L2 L2H HotX
/-! ### a def of the text, by its name -/
section
variable (P : Program) (w : World) (K : PySem.W.Frag) (mg : Str → Option Value) (base : Heap)
/-- the def st stands under its name x -/
def Here (x : Str) (st : Stmt) : Prop := ∃ f fd, Fun K x x st f fd ∧ mg x = some (.ref f)
/-- the name x is a def that keeps the promise sp, by level k -/
def Keeps' (CX : CXT) (k : Nat) (x : Str) (ps : List Str) (sp : Sp) : Prop :=
  ∃ f fd, mg x = some (.ref f) ∧ PySem.W.keepIn K (.ref f) = true ∧ Binds K fd ps [] ∧ FnOk P w K mg base CX k f fd ps sp
/-- the same within an except suite that holds the exception p -/
structure FnP (p : Addr × Obj) (k : Nat) (f : Addr) (fd : FuncData) (ps : List Str) (sp : Sp) : Prop where
  len : ∀ vs H Q E, sp vs H Q E → vs.length = ps.length
  run : ∀ (A : Around) (outer : List Env) (s : Shared) (H : Hp) (args : Args) (us : List Value) (vs : List V) (Q : VK) (E : XK), RoomH k A → Hot1 A p → PinOk outer H s p → Env0 P w K mg base A outer s H → BindsTo s fd args (ps.zip us) → Vals vs us → sp vs H Q E →
    codeAny (model P w) A (.call (.ref f) args) (CR CX0 outer P w H s Q E) s
def KeepsP (p : Addr × Obj) (k : Nat) (x : Str) (ps : List Str) (sp : Sp) : Prop :=
  ∃ f fd, mg x = some (.ref f) ∧ PySem.W.keepIn K (.ref f) = true ∧ Binds K fd ps [] ∧ FnP P w K mg base p k f fd ps sp
end
section
variable {P : Program} {w : World} {K : PySem.W.Frag} {mg : Str → Option Value} {base : Heap}
theorem Keeps'.mono {CX : CXT} {j k : Nat} {x : Str} {ps : List Str} {sp : Sp} (D : Keeps' P w K mg base CX j x ps sp) (h : j ≤ k) : Keeps' P w K mg base CX k x ps sp := by
  obtain ⟨f, fd, a, b, c, d⟩ := D
  exact ⟨f, fd, a, b, c, d.mono h⟩
theorem Keeps'.imp {CX : CXT} {k : Nat} {x : Str} {ps : List Str} {sp sp' : Sp} (D : Keeps' P w K mg base CX k x ps sp) (h : ∀ vs H Q E, sp' vs H Q E → sp vs H Q E) : Keeps' P w K mg base CX k x ps sp' := by
  obtain ⟨f, fd, a, b, c, d⟩ := D
  exact ⟨f, fd, a, b, c, d.imp h⟩
/-- a def that lets no exception out -/
theorem keeps0 {x : Str} {st : Stmt} {N ps : List Str} {k : Nat} {sp : Sp} (F : Here K mg x st) (S : FnScope N ps (defScope st))
    (hb : ∀ (kV doc pm : Value) (an : Option Addr) (cdv ct : Value) (us : List Value), us.length = ps.length → bindArgs (PySem.W.fnOf x x (defArgs st) (defBody st) (defScope st) .none kV doc pm an cdv ct) ⟨us, []⟩ = pure (ps.zip us))
    (len : ∀ vs H Q E, sp vs H Q E → vs.length = ps.length)
    (hbody : ∀ (f : Addr) (cdv : Value) (A : Around) (outer : List Env) (s : Shared) (H : Hp) (vs : List V) (Q : VK) (E : XK), Room k (A.deeper (envOfC x (defScope st) s.heap.objs.size f cdv)) → sp vs H Q E →
      ∃ t, PSs (cxOf CX0 P w K mg base N x (defScope st) f cdv A outer s H E).nox (defBody st) t ∧ t { nx := fun _ H' => Q .non H', rt := Q } (start N vs) H) : Keeps' P w K mg base CX0 (k + 1) x ps sp := by
  obtain ⟨f, fd, F, g⟩ := F
  exact ⟨f, fd, g, F.kp, F.binds hb, F.ok S len fun cdv A outer s H vs Q E hr h => hbody f cdv A outer s H vs Q E hr h⟩
/-- the def st stands under its name x, its code object at c -/
def HereC (K : PySem.W.Frag) (mg : Str → Option Value) (x : Str) (st : Stmt) (c : Addr) : Prop := ∃ (f : Addr) (oc : Value) (od : Option Addr) (kV doc pm : Value) (an : Option Addr) (ct : Value) (osl : Array (Option Value)), mg x = some (.ref f) ∧
  K.lookup f = some ⟨oc, od, .func (PySem.W.fnOf x x (defArgs st) (defBody st) (defScope st) .none kV doc pm an (.ref c) ct), osl⟩ ∧ PySem.W.codeIn K (.ref c) x = true ∧ PySem.W.keepIn K (.ref f) = true
theorem HereC.here {x : Str} {st : Stmt} {c : Addr} (h : HereC K mg x st c) : Here K mg x st := by
  obtain ⟨f, oc, od, kV, doc, pm, an, ct, osl, g, lk, hc, hk⟩ := h
  exact ⟨f, _, ⟨⟨oc, od, kV, doc, pm, an, _, ct, osl, rfl, lk, hc⟩, hk⟩, g⟩
/-- a def that makes lambdas: its code object is told -/
theorem keeps0C {x : Str} {st : Stmt} {c : Addr} {N ps : List Str} {k : Nat} {sp : Sp} (F : HereC K mg x st c) (S : FnScope N ps (defScope st))
    (hb : ∀ (kV doc pm : Value) (an : Option Addr) (cdv ct : Value) (us : List Value), us.length = ps.length → bindArgs (PySem.W.fnOf x x (defArgs st) (defBody st) (defScope st) .none kV doc pm an cdv ct) ⟨us, []⟩ = pure (ps.zip us))
    (len : ∀ vs H Q E, sp vs H Q E → vs.length = ps.length)
    (hbody : ∀ (f : Addr) (A : Around) (outer : List Env) (s : Shared) (H : Hp) (vs : List V) (Q : VK) (E : XK), Room k (A.deeper (envOfC x (defScope st) s.heap.objs.size f (.ref c))) → sp vs H Q E →
      ∃ t, PSs (cxOf CX0 P w K mg base N x (defScope st) f (.ref c) A outer s H E).nox (defBody st) t ∧ t { nx := fun _ H' => Q .non H', rt := Q } (start N vs) H) : Keeps' P w K mg base CX0 (k + 1) x ps sp := by
  obtain ⟨f, oc, od, kV, doc, pm, an, ct, osl, g, lk, hc, hk⟩ := F
  refine ⟨f, _, g, hk, .all (hb kV doc pm an _ ct), fn_of lk hc S len fun A outer s H vs Q E hr hsp => ?_⟩
  obtain ⟨t, ht, hq⟩ := hbody f A outer s H vs Q E hr hsp
  exact ⟨t, ht.nox, hq⟩
/-- the same, with the function's object told: for the law itself -/
def KeepsC (P : Program) (w : World) (K : PySem.W.Frag) (mg : Str → Option Value) (base : Heap) (CX : CXT) (k : Nat) (x : Str) (ps : List Str) (sp : Sp) : Prop :=
  ∃ f fd, (∃ oc od osl, K.lookup f = some ⟨oc, od, .func fd, osl⟩) ∧ mg x = some (.ref f) ∧ FnOk P w K mg base CX k f fd ps sp
theorem keepsLaw {x : Str} {st : Stmt} {c : Addr} {N ps : List Str} {k : Nat} {sp : Sp} (F : HereC K mg x st c) (S : FnScope N ps (defScope st))
    (len : ∀ vs H Q E, sp vs H Q E → vs.length = ps.length)
    (hbody : ∀ (f : Addr) (A : Around) (outer : List Env) (s : Shared) (H : Hp) (vs : List V) (Q : VK) (E : XK), Room k (A.deeper (envOfC x (defScope st) s.heap.objs.size f (.ref c))) → sp vs H Q E →
      ∃ t, PSs (cxOf CX0 P w K mg base N x (defScope st) f (.ref c) A outer s H E).nox (defBody st) t ∧ t { nx := fun _ H' => Q .non H', rt := Q } (start N vs) H) : KeepsC P w K mg base CX0 (k + 1) x ps sp := by
  obtain ⟨f, oc, od, kV, doc, pm, an, ct, osl, g, lk, hc, hk⟩ := F
  refine ⟨f, _, ⟨_, _, _, lk⟩, g, fn_of lk hc S len fun A outer s H vs Q E hr hsp => ?_⟩
  obtain ⟨t, ht, hq⟩ := hbody f A outer s H vs Q E hr hsp
  exact ⟨t, ht.nox, hq⟩
theorem here_mk {h : Heap} {x : Str} {st : Stmt} {f : Addr} {oc : Value} {od an : Option Addr} {osl : Array (Option Value)} {kV doc pm cdv ct : Value} (X : K.In h) (G : h.Ns mainGlobals mg) (a : PySem.W.nsIn K mainGlobals x = some (some (.ref f)))
    (l : K.lookup f = some ⟨oc, od, .func (PySem.W.fnOf x x (defArgs st) (defBody st) (defScope st) .none kV doc pm an cdv ct), osl⟩) (c : PySem.W.codeIn K cdv x = true) (k : PySem.W.keepIn K (.ref f) = true) : Here K mg x st :=
  ⟨f, _, fun_mk l c k, PySem.W.mg_of X G a⟩
theorem hereC_mk {h : Heap} {x : Str} {st : Stmt} {f cd : Addr} {oc : Value} {od an : Option Addr} {osl : Array (Option Value)} {kV doc pm ct : Value} (X : K.In h) (G : h.Ns mainGlobals mg) (a : PySem.W.nsIn K mainGlobals x = some (some (.ref f)))
    (l : K.lookup f = some ⟨oc, od, .func (PySem.W.fnOf x x (defArgs st) (defBody st) (defScope st) .none kV doc pm an (.ref cd) ct), osl⟩) (c : PySem.W.codeIn K (.ref cd) x = true) (k : PySem.W.keepIn K (.ref f) = true) : HereC K mg x st cd :=
  ⟨f, oc, od, kV, doc, pm, an, ct, osl, PySem.W.mg_of X G a, l, c, k⟩
/-- a def that may raise; the exceptions' contexts are None -/
theorem keepsN {x : Str} {st : Stmt} {N ps : List Str} {k : Nat} {sp : Sp} (F : Here K mg x st) (S : FnScope N ps (defScope st))
    (hb : ∀ (kV doc pm : Value) (an : Option Addr) (cdv ct : Value) (us : List Value), us.length = ps.length → bindArgs (PySem.W.fnOf x x (defArgs st) (defBody st) (defScope st) .none kV doc pm an cdv ct) ⟨us, []⟩ = pure (ps.zip us))
    (len : ∀ vs H Q E, sp vs H Q E → vs.length = ps.length)
    (hbody : ∀ (f : Addr) (cdv : Value) (A : Around) (outer : List Env) (s : Shared) (H : Hp) (vs : List V) (Q : VK) (E : XK), Room k (A.deeper (envOfC x (defScope st) s.heap.objs.size f cdv)) → sp vs H Q E →
      ∃ t, PSs (cxOf (L2N.CX P w) P w K mg base N x (defScope st) f cdv A outer s H E) (defBody st) t ∧ t { nx := fun _ H' => Q .non H', rt := Q } (start N vs) H) : Keeps' P w K mg base (L2N.CX P w) (k + 1) x ps sp := by
  obtain ⟨f, fd, F, g⟩ := F
  have bd := F.binds hb
  have kp := F.kp
  obtain ⟨oc, od, kV, doc, pm, an, cdv, ct, osl, rfl, lk, hcd⟩ := F.ex
  exact ⟨f, _, g, kp, bd, fn_of lk hcd S len fun A outer s H vs Q E hr hsp => hbody f cdv A outer s H vs Q E hr hsp⟩
/-- a def called in an except suite that holds p -/
theorem keepsP {x : Str} {st : Stmt} {N ps : List Str} {k : Nat} {sp : Sp} {p : Addr × Obj} (F : Here K mg x st) (S : FnScope N ps (defScope st))
    (hb : ∀ (kV doc pm : Value) (an : Option Addr) (cdv ct : Value) (us : List Value), us.length = ps.length → bindArgs (PySem.W.fnOf x x (defArgs st) (defBody st) (defScope st) .none kV doc pm an cdv ct) ⟨us, []⟩ = pure (ps.zip us))
    (len : ∀ vs H Q E, sp vs H Q E → vs.length = ps.length)
    (hbody : ∀ (f : Addr) (cdv : Value) (A : Around) (outer : List Env) (s : Shared) (H : Hp) (vs : List V) (Q : VK) (E : XK), Hot1 A p → RoomH k (A.deeper (envOfC x (defScope st) s.heap.objs.size f cdv)) → sp vs H Q E →
      ∃ t, PSs (cxH CX0 P w K mg base N x (defScope st) f cdv A outer s H E p) (defBody st) t ∧ t { nx := fun _ H' => Q .non H', rt := Q } (start N vs) H) : KeepsP P w K mg base p (k + 1) x ps sp := by
  obtain ⟨f, fd, F, g⟩ := F
  have bd := F.binds hb
  have kp := F.kp
  obtain ⟨oc, od, kV, doc, pm, an, cdv, ct, osl, rfl, lk, hcd⟩ := F.ex
  refine ⟨f, _, g, kp, bd, len, fun A outer s H args us vs Q E hr hot hpin e0 hbt r hsp => ?_⟩
  have hl := len _ _ _ _ hsp
  have KX : K.In s.heap := e0.mod.kin.keeps fun b o e => (e0.bs b o e).1
  have lim : s.heap.NoLimit := e0.mod.nolimit.keeps fun b o e => (e0.bs b o e).1
  have hkind : ∀ y ∈ ps.zip us, (defScope st).names.lookup y.1 = some .local ∨ ((defScope st).names.lookup y.1 = some .cell ∧ ((cellsFrom (s.heap.objs.size + 1) (defScope st).names []).lookup y.1).isSome = true) := by
    rintro ⟨n, v⟩ hy
    rcases S.par n (List.of_mem_zip hy).1 with q | q
    · exact .inl q
    · exact .inr ⟨q, PySem.W.cellsFrom_some _ _ _ (.inl q)⟩
  refine codeAny_call_function hr.depth (KX _ _ lk) rfl S.co S.gen rfl (PySem.W.codeRec_of KX hcd) (hbt _ _ _ _ ?_)
  refine wpAny_newFunctionEnv_cells S.kind hkind fun env he s1 ic => ?_
  subst he
  refine ⟨lim.keeps ic.toInCall.keep, codeAny_func ?_⟩
  obtain ⟨t, ht, hq⟩ := hbody f cdv A outer s H vs Q E hot (hr.deeper _) hsp
  have J : Inv (cxH CX0 P w K mg base N x (defScope st) f cdv A outer s H E p) [] (start N vs) H s1 := inv_startH S hpin e0 hl r ic
  refine wpAny_mono (ht.run [] s1 (start N vs) H _ J hq) (fun fl s' hs => ?_) fun e s' hs => hs
  cases fl with
  | ret u =>
    obtain ⟨v, σ', H', J', rv, q⟩ := hs
    exact ⟨v, H', J'.os, J'.bare, J'.base, J'.hok, rv, q⟩
  | next =>
    obtain ⟨σ', H', J', q⟩ := hs
    exact ⟨.non, H', J'.os, J'.bare, J'.base, J'.hok, rfl, q⟩
  | brk => obtain ⟨_, _, _, q⟩ := hs; exact q.elim
  | cont => obtain ⟨_, _, _, q⟩ := hs; exact q.elim
end
/-! ### calls -/
section
variable {X : Cx} {k : Nat} {x : Str} {ps : List Str} {sp : Sp} {q pos : Pos} {e : Expr} {es : List Expr} {t : TA}
/-- a def's call, its promise asked of the arguments -/
def tD (sp : Sp) (E : XK) (t : TA) : TE := fun σ H Q => t σ H fun vs H1 => sp vs H1 Q E
theorem tCall_nil (sp : Sp) (E : XK) (t : TA) : tCall sp [] E t = tD sp E t := by
  funext σ H Q
  unfold tCall tD
  simp only [List.append_nil]
theorem passN {X : Cx} : Passes (L2N.CX X.prog X.w) X E0 := fun _ _ _ _ _ _ _ h => by
  obtain ⟨_, _, _, _, _, _, _, _, _, _, _, _, z⟩ := h
  exact z.elim
/-- f(e, ..): f lets nothing out -/
theorem pe_d0 (D : Keeps' X.prog X.w X.K X.mg X.base CX0 k x ps sp) (hr : Room k X.A) (hg : Gl X x) (ha : PA X (e :: es) t) (hdb : (x == ("__debug__" : Str)) = false := by decide)
    (he : starEach (e :: es) X.env = (false, eval e X.env) :: starEach es X.env := by rfl) (hpl : (backTo pos (starEach es X.env)).any (·.1) = false := by rfl) :
    PE X (.Call (.Name x q) (e :: es) [] pos) (tD sp E0 t) := by
  obtain ⟨f, fd, a, b, c, d⟩ := D
  have h := pe_call (pos := pos) (p := q) d hr hg a b c .nil pass0 ha hdb he hpl
  rw [← tCall_nil]
  exact h
/-- f(e, ..): f may raise, but not here -/
theorem pe_dN (D : Keeps' X.prog X.w X.K X.mg X.base (L2N.CX X.prog X.w) k x ps sp) (hr : Room k X.A) (hg : Gl X x) (ha : PA X (e :: es) t) (hdb : (x == ("__debug__" : Str)) = false := by decide)
    (he : starEach (e :: es) X.env = (false, eval e X.env) :: starEach es X.env := by rfl) (hpl : (backTo pos (starEach es X.env)).any (·.1) = false := by rfl) :
    PE X (.Call (.Name x q) (e :: es) [] pos) (tD sp E0 t) := by
  obtain ⟨f, fd, a, b, c, d⟩ := D
  have h := pe_call (pos := pos) (p := q) d hr hg a b c .nil passN ha hdb he hpl
  rw [← tCall_nil]
  exact h
/-- f(e, ..) in a def that lets out what f raises -/
theorem pe_dX {W : WX} {E : XK} (D : Keeps' X.prog X.w X.K X.mg X.base (L2N.CX X.prog X.w) k x ps sp) (hr : Room k X.A) (hg : Gl X x) (tk : L2N.Takes X W) (hW : ∀ cls d σ H, E cls d H → W cls d σ H) (ha : PA X (e :: es) t)
    (hdb : (x == ("__debug__" : Str)) = false := by decide) (he : starEach (e :: es) X.env = (false, eval e X.env) :: starEach es X.env := by rfl) (hpl : (backTo pos (starEach es X.env)).any (·.1) = false := by rfl) :
    PE X (.Call (.Name x q) (e :: es) [] pos) (tD sp E t) := by
  obtain ⟨f, fd, a, b, c, d⟩ := D
  have h := pe_call (pos := pos) (p := q) (E := E) d hr hg a b c .nil (L2N.passes_call tk hW) ha hdb he hpl
  rw [← tCall_nil]
  exact h
/-- f(e, ..) within the except suite that holds p -/
theorem pe_dP {p : Addr × Obj} (D : KeepsP X.prog X.w X.K X.mg X.base p k x ps sp) (hr : RoomH k X.A) (hot : Hot1 X.A p) (hp : p ∈ X.pn) (hg : Gl X x) (ha : PA X (e :: es) t) (hdb : (x == ("__debug__" : Str)) = false := by decide)
    (he : starEach (e :: es) X.env = (false, eval e X.env) :: starEach es X.env := by rfl) (hpl : (backTo pos (starEach es X.env)).any (·.1) = false := by rfl) :
    PE X (.Call (.Name x q) (e :: es) [] pos) (tD sp E0 t) := by
  obtain ⟨f, fd, a, b, c, d⟩ := D
  refine ⟨fun pins s σ H Q I h => ?_⟩
  refine wpAny_Call_Name_kw (ld_glob I hg a ?_ hdb)
  refine PySem.W.callWith_K (h₀ := X.base) I.ok.mod.kin b (thn (ha.run pos pins s σ H _ I h) fun us s1 hu => ?_) he hpl
  obtain ⟨vs, H1, I1, r, hs⟩ := hu
  refine ⟨I1.kIn, ?_⟩
  have hl : us.length = ps.length := by rw [← r.length]; exact d.len _ _ _ _ hs
  have bd := c s1 us I1.kIn (by rw [List.append_nil]; exact hl)
  rw [List.append_nil] at bd
  have P1 := I1.pin p (List.mem_append_left _ hp)
  have hpin : PinOk X.stack H1 s1 p := ⟨P1.1, P1.2.1, fun hm => (List.mem_cons.mp (I1.stkSub p.1 hm)).elim P1.2.2.1 P1.2.2.2.1, P1.2.2.2.2⟩
  refine wpAny_call (codeAny_mono (d.run X.A X.stack s1 H1 ⟨us, []⟩ us vs Q E0 hr hot hpin I1.env0 bd r hs) fun res s' hq => ?_)
  cases res with
  | error e => exact (show False from hq).elim
  | ok fl =>
    cases fl with
    | ret u => exact I1.after hq
    | next => exact (show False from hq).elim
    | brk => exact (show False from hq).elim
    | cont => exact (show False from hq).elim
/-- isinstance(e, c), e the exception that is pinned -/
theorem call_isP {a D : Addr} {oe : Obj} (C : ExcC X.K D) (hp : (a, oe) ∈ X.pn) (hz : Zc (.ref D) none oe) (hf : ∃ vs, oe.data = .fields vs) : CallR X (.builtin "isinstance") (rIsE X.K D a) := by
  intro pins s σ H xs us Q I r h
  obtain ⟨c, cv, b, rfl, hcv, e, q⟩ := h
  obtain ⟨u1, u2, rfl, r1, r2⟩ := vals2 r
  obtain rfl : u1 = Value.ref a := r1
  have ec := hcv _ r2
  subst ec
  obtain ⟨hget, _⟩ := I.pin (a, oe) (List.mem_append_left _ hp)
  obtain ⟨vs, hv⟩ := hf
  have J : PySem.W.InstAt s.heap a oe D none := by
    obtain ⟨oc, od, oda, osl⟩ := oe
    obtain ⟨z1, z2⟩ := hz
    dsimp only at z1 z2 hv
    subst z1 z2 hv
    exact ⟨hget, rfl, rfl, trivial⟩
  exact PySem.W.kia_one (PySem.W.handS_kitx_exc C.hg C.hk C.hs C.hd C.ha C.hn C.ht C.hm) I.kIn J e (fun z => nomatch z) fun tk => ⟨.bl b, H, I.kept (t' := tk) fun _ _ z => z, rfl, q⟩
end
theorem same_new {H : Hp} {p : Addr} {o : HO} (h : H p = none) : Same H (upd H p o) := fun b x e => by
  rw [upd_ne (ne_of_none e h)]
  exact e
/-- a new object is wanted: the heap behind it by what is known of it -/
def NewQ (H : Hp) (o : HO) (Q : VK) : Prop := ∀ (p : Addr) (H' : Hp), H p = none → Same H H' → H' p = some o → Q (.ref p) H'
theorem NewQ.use {H : Hp} {o : HO} {Q : VK} (h : NewQ H o Q) : ∀ p, H p = none → Q (.ref p) (upd H p o) := fun p np => h p _ np (same_new np) upd_same
section
variable {X : Cx}
theorem PE.imp {e : Expr} {t t' : TE} (h : PE X e t) (i : ∀ σ H Q, t' σ H Q → t σ H Q) : PE X e t' := ⟨fun pins s σ H Q I q => h.run pins s σ H Q I (i σ H Q q)⟩
theorem OpR.imp {f : Value → Value → Sem Value} {r r' : R2} (h : OpR X f r) (i : ∀ x y H Q, r' x y H Q → r x y H Q) : OpR X f r' := fun pins s σ H x y v u Q I rx ry q => h pins s σ H x y v u Q I rx ry (i x y H Q q)
theorem CallR.imp {f : Value} {r r' : List V → Hp → VK → Prop} (h : CallR X f r) (i : ∀ xs H Q, r' xs H Q → r xs H Q) : CallR X f r' := fun pins s σ H xs us Q I rv q => h pins s σ H xs us Q I rv (i xs H Q q)
theorem SlR.imp {r r' : V → Option Int → Option Int → Hp → VK → Prop} (h : SlR X r) (i : ∀ x lo hi H Q, r' x lo hi H Q → r x lo hi H Q) : SlR X r' := fun pins s σ H x v vl vu lo hi sl Q I rx hs pl pu q => h pins s σ H x v vl vu lo hi sl Q I rx hs pl pu (i x lo hi H Q q)
def tTupN (t : TA) : TE := fun σ H Q => t σ H fun xs H1 => xs.length ≤ sizeLine ∧ NewQ H1 (.tup xs) Q
def tLstN (t : TA) : TE := fun σ H Q => t σ H fun xs H1 => xs.length ≤ sizeLine ∧ NewQ H1 (.lst xs) Q
theorem pe_tupN {es : List Expr} {t : TA} {x1} {pos : Pos} (h : PA X es t) : PE X (.Tuple es x1 pos) (tTupN t) := by
  refine ⟨fun pins s σ H Q I hq => ?_⟩
  refine wpAny_Tuple_spliced (thn (h.run pos pins s σ H _ I hq) fun us s1 hu => ?_)
  obtain ⟨xs, H1, I1, r, z, q⟩ := hu
  exact ⟨by rw [← r.length]; exact z, .ref s1.heap.objs.size, upd H1 s1.heap.objs.size (.tup xs), I1.laid (t' := s1.toks) (fun b u e => Heap.get?_push_of_some _ e) (Nat.le_refl _) ⟨z, us, r, ⟨_, Heap.get?_push_size _ rfl, rfl, _, rfl⟩⟩, rfl, q.use _ I1.fresh⟩
theorem pe_lstN {es : List Expr} {t : TA} {pos : Pos} (h : PA X es t) : PE X (.List es pos) (tLstN t) := by
  refine ⟨fun pins s σ H Q I hq => ?_⟩
  refine wpAny_List_spliced (thn (h.run pos pins s σ H _ I hq) fun us s1 hu => ?_)
  obtain ⟨xs, H1, I1, r, z, q⟩ := hu
  exact ⟨by rw [← r.length]; exact z, .ref s1.heap.objs.size, upd H1 s1.heap.objs.size (.lst xs), I1.laid (t' := s1.toks) (fun b u e => Heap.get?_push_of_some _ e) (Nat.le_refl _) ⟨z, us, 0, r, Heap.get?_push_size _ rfl⟩, rfl, q.use _ I1.fresh⟩
def rCatN : R2 := fun x y H Q => ∃ l b xs zs, x = .ref l ∧ y = .ref b ∧ H l = some (.lst xs) ∧ H b = some (.lst zs) ∧ xs.length + zs.length ≤ sizeLine ∧ NewQ H (.lst (xs ++ zs)) Q
theorem op_catN : OpR X (binaryOp .Add) rCatN := OpR.imp op_cat fun x y H Q h => by
  obtain ⟨l, b, xs, zs, h1, h2, h3, h4, h5, q⟩ := h
  exact ⟨l, b, xs, zs, h1, h2, h3, h4, h5, q.use⟩
/-- tuple(xs) of a list -/
theorem call_tupleN : CallR X (.type "tuple") (fun xs H Q => ∃ p ys, xs = [.ref p] ∧ SqL X.K H p ys ∧ NewQ H (.tup ys) Q) := CallR.imp call_tuple_of fun xs H Q h => by
  obtain ⟨p, ys, h1, h2, q⟩ := h
  exact ⟨p, ys, h1, .inl ⟨h2, q.use⟩⟩
/-- list(xs) of a list or a tuple -/
theorem call_listN : CallR X (.type "list") (fun xs H Q => ∃ p ys, xs = [.ref p] ∧ (SqL X.K H p ys ∨ SqT X.K H p ys) ∧ NewQ H (.lst ys) Q) := CallR.imp call_list_of fun xs H Q h => by
  obtain ⟨p, ys, h1, h2, q⟩ := h
  exact ⟨p, ys, h1, h2, q.use⟩
def rSlLN (K : PySem.W.Frag) : V → Option Int → Option Int → Hp → VK → Prop := fun x lo hi H Q => ∃ a xs, x = .ref a ∧ SqL K H a xs ∧ NewQ H (.lst (cutV xs lo hi)) Q
theorem sl_listN : SlR X (rSlLN X.K) := SlR.imp sl_list fun x lo hi H Q h => by
  obtain ⟨a, xs, h1, h2, q⟩ := h
  exact ⟨a, xs, h1, h2, q.use⟩
end
theorem szl {n : Nat} (h : Nat.ble n 1000 = true) : n ≤ sizeLine := Nat.le_of_lt (small1000 (Nat.le_of_ble_eq_true h))
theorem szlt {n : Nat} (h : Nat.ble n 1000 = true) : n < sizeLine := small1000 (Nat.le_of_ble_eq_true h)
/-! ### short words for terms -/
section
variable {X : Cx}
theorem pa1 {e1 : Expr} {t1 : TE} (h1 : PE X e1 t1) (s1 : starEach [e1] X.env = (false, eval e1 X.env) :: starEach [] X.env := by rfl) : PA X [e1] (tCons t1 tNil) := pa_cons h1 pa_nil s1
theorem pa2 {e1 e2 : Expr} {t1 t2 : TE} (h1 : PE X e1 t1) (h2 : PE X e2 t2) (s1 : starEach [e1, e2] X.env = (false, eval e1 X.env) :: starEach [e2] X.env := by rfl) (s2 : starEach [e2] X.env = (false, eval e2 X.env) :: starEach [] X.env := by rfl) :
    PA X [e1, e2] (tCons t1 (tCons t2 tNil)) := pa_cons h1 (pa_cons h2 pa_nil s2) s1
theorem pa3 {e1 e2 e3 : Expr} {t1 t2 t3 : TE} (h1 : PE X e1 t1) (h2 : PE X e2 t2) (h3 : PE X e3 t3) (s1 : starEach [e1, e2, e3] X.env = (false, eval e1 X.env) :: starEach [e2, e3] X.env := by rfl) (s2 : starEach [e2, e3] X.env = (false, eval e2 X.env) :: starEach [e3] X.env := by rfl)
    (s3 : starEach [e3] X.env = (false, eval e3 X.env) :: starEach [] X.env := by rfl) : PA X [e1, e2, e3] (tCons t1 (tCons t2 (tCons t3 tNil))) := pa_cons h1 (pa_cons h2 (pa_cons h3 pa_nil s3) s2) s1
/-- a builtin by its name -/
theorem pb {x : Str} {id : String} {r : List V → Hp → VK → Prop} {e : Expr} {es : List Expr} {t : TA} {p pos : Pos} (hc : CallR X (.builtin id) r) (hm : X.mg x = none) (hv : bootBuiltins x = some (.builtin id)) (ha : PA X (e :: es) t) (hg : Gl X x := by rfl)
    (hn : x ≠ "__name__" := by decide) (hdb : (x == ("__debug__" : Str)) = false := by decide) (h1 : starEach (e :: es) X.env = (false, eval e X.env) :: starEach es X.env := by rfl) (h2 : (backTo pos (starEach es X.env)).any (·.1) = false := by rfl) :
    PE X (.Call (.Name x p) (e :: es) [] pos) (tCB r t) := pe_callB hc hg hm hv ha hn hdb h1 h2
theorem pbt {x : Str} {T : String} {r : List V → Hp → VK → Prop} {e : Expr} {es : List Expr} {t : TA} {p pos : Pos} (hc : CallR X (.type T) r) (hm : X.mg x = none) (hv : bootBuiltins x = some (.type T)) (ha : PA X (e :: es) t) (hg : Gl X x := by rfl)
    (hn : x ≠ "__name__" := by decide) (hdb : (x == ("__debug__" : Str)) = false := by decide) (h1 : starEach (e :: es) X.env = (false, eval e X.env) :: starEach es X.env := by rfl) (h2 : (backTo pos (starEach es X.env)).any (·.1) = false := by rfl) :
    PE X (.Call (.Name x p) (e :: es) [] pos) (tCB r t) := pe_callTy hc hg hm hv ha hn hdb h1 h2
/-- a global name of the text -/
theorem pgl {x : Str} {a : Addr} {pos : Pos} (hm : X.mg x = some (.ref a)) (hg : Gl X x := by rfl) (hd : (x == ("__debug__" : Str)) = false := by decide) : PE X (.Name x pos) (tC (.ref a)) := pe_glob hg hm rfl hd
/-- x = e, x in slot i -/
theorem st (i : Nat) {x : Str} {e : Expr} {te : TE} {pos pos' : Pos} (hN : X.N.Nodup) (he : PE X e te) (hi : X.N[i]? = some x := by rfl) (hx : Loc X.env.scope x := by first | exact .inl rfl | exact .inr rfl)
    (hs : swapsWith e (some (.Name x pos')) pos.line X.env = pure false := by rfl) (hf : X.fn x = true ∨ X.env.scope.names.lookup x = some .local := by first | exact .inl rfl | exact .inr rfl) :
    PS X (.Assign [.Name x pos'] e pos) (tAsg te (gName i)) := ps_set hN hi hx he hs hf
theorem pgn (i : Nat) {x : Str} {pos : Pos} (hN : X.N.Nodup) (hi : X.N[i]? = some x := by rfl) (hx : Loc X.env.scope x := by first | exact .inl rfl | exact .inr rfl)
    (hf : X.fn x = true ∨ X.env.scope.names.lookup x = some .local := by first | exact .inl rfl | exact .inr rfl) : PG X (.Name x pos) (gName i) := pg_name hN hi hx hf
/-- a builtin class as a value -/
theorem pty {x : Str} {n : String} {pos : Pos} (hm : X.mg x = none) (hv : bootBuiltins x = some (.type n)) (hg : Gl X x := by rfl) (hn : x ≠ "__name__" := by decide) (hd : (x == ("__debug__" : Str)) = false := by decide) : PE X (.Name x pos) (tC (.ty n)) := pe_bltn hg hm hv rfl hn hd
end
end Sv

set_option maxHeartbeats 4000000
namespace Sv
open PySem PySem.Spec PyProof.Rows L2 L2H HotX LamX
/-! ### x(lambda: body), where what the body raises has no context -/
/-- the lambda's context, its exceptions told with their contexts -/
abbrev lamN (X : Cx) (A : Around) (outer : List Env) (s : Shared) (H : Hp) (E : XK) (scope : Scope) (f c' : Addr) : Cx :=
  (lamCx X A outer s H E scope f c').wish fun e s' => wpAny (model X.prog X.w) (A.deeper (lamEnv X scope s.heap.objs.size f c')) (leaving (lamEnv X scope s.heap.objs.size f c') e) (fun _ s'' => L2N.CX X.prog X.w outer H s E e s'') (fun e' s'' => L2N.CX X.prog X.w outer H s E e' s'') s'
section
variable {X : Cx} {pins : List (Addr × Obj)} {σ : L2.St} {H HZ : Hp} {s s1 : Shared}
theorem pe_actN {CXg : CXT} {Eg : XK} {Ng : List Str} {qg : Str} {sg : Scope} {g f c' : Addr} {cdg pm ctv : Value} {params : Arguments} {body : Expr} {scope : Scope} {k i : Nat} {a : Str} {pn : List (Addr × Obj)} {xe : Value → Shared → Prop} {W : WX} {E : XK} {tb : TE} {p1 p2 : Pos}
    (I : Inv X pins σ H s) (L : LamS X.env.scope scope) (hf : s.heap.get? f = some (PySem.W.kla_obj "<lambda>" (X.env.qual ++ "<lambda>") params body scope (cloFrom X.env.cells scope.names []) pm c' ctv)) (hfn : H f = none) (hfr : f ∉ frs X.stack)
    (hbind : bindArgs (PySem.W.kla_fn "<lambda>" (X.env.qual ++ "<lambda>") params body scope (cloFrom X.env.cells scope.names []) pm (.ref c') ctv) ⟨[], []⟩ = pure [])
    (tk : L2N.Takes ((cxOf CXg X.prog X.w X.K X.mg X.base Ng qg sg g cdg X.A X.stack s H Eg).tr pn xe) W) (hW : ∀ cls d (σ' : L2.St) H', σ'.length = Ng.length → E cls d H' → W cls d σ' H') (hr : Room (k + 1) (X.A.deeper (envOfC qg sg s.heap.objs.size g cdg)))
    (hbody : ∀ (A : Around) (outer : List Env) (s : Shared) (H : Hp), Room k (A.deeper (lamEnv X scope s.heap.objs.size f c')) → PE (lamN X A outer s H E scope f c') body tb)
    (hN : Ng[i]? = some a) (hv : Vis sg a) (hd : (a == ("__debug__" : Str)) = false := by decide) (hcd : (a == ("__classdict__" : Str)) = false := by decide) :
    PE ((cxOf CXg X.prog X.w X.K X.mg X.base Ng qg sg g cdg X.A X.stack s H Eg).tr pn xe) (.Call (.Name a p1) [] [] p2)
      (fun σZ HZ Q => σZ[i]? = some (some (.ref f)) ∧ HZ c' = some (CodeO c' (X.env.qual ++ "<lambda>")) ∧ tb σ HZ Q) := by
  refine ⟨fun pinsZ sZ σZ HZ Q IZ h => ?_⟩
  obtain ⟨hs, hc, ht⟩ := h
  refine wpAny_Call_Name_kw (thn ((pe_var (pos := p1) (i := i) hN hv hd hcd).run pinsZ sZ σZ HZ (fun v H1 => v = .ref f ∧ H1 = HZ) IZ ⟨.ref f, hs, rfl, rfl⟩) fun u s2 hu => ?_)
  obtain ⟨v, H1, I1, r1, ev, eH⟩ := hu
  subst ev
  rw [eH] at I1
  obtain rfl : u = Value.ref f := r1
  have of1 : s2.heap.get? f = some (PySem.W.kla_obj "<lambda>" (X.env.qual ++ "<lambda>") params body scope (cloFrom X.env.cells scope.names []) pm c' ctv) := I1.base.keep f _ hf hfn hfr (fun z => nomatch (show f ∈ ([] : List Addr) from z))
  refine PySem.W.callWith_F0 ⟨_, _, _, _, of1⟩ ?_
  have un : Un (frs X.stack) [] H HZ s.heap s2.heap := I1.base
  obtain ⟨⟨oc, vs, t, hoc, hdc, hvc⟩, _, _⟩ := I1.hok c' _ hc
  have rc : codeAny (model X.prog X.w) (X.A.deeper (envOfC qg sg s.heap.objs.size g cdg)) (.call (.ref f) ⟨[], []⟩) (CR (L2N.CX X.prog X.w) (envOfC qg sg s.heap.objs.size g cdg :: X.stack) X.prog X.w HZ s2 Q E) s2 := by
    refine PySem.W.kla_callFunE hr.depth of1 rfl L.co L.gen rfl ⟨c', oc, vs, t, rfl, hoc, hdc, hvc⟩ ?_
    rw [hbind]
    refine wpAny_pure (wpAny_newFunctionEnv (fun y hy => (L.own y hy).2) (fun y hy => absurd hy (by simp)) (fun h₁ hns hsb => ⟨I1.nolimit.fresh _ hsb, ?_⟩) L.kind)
    show codeAny _ _ (.expr body (lamEnv X scope s2.heap.objs.size f c')) _ _
    have kp : ∀ b o, s2.heap.get? b = some o → h₁.get? b = some o := fun b o e => hsb.extBut b o (Nat.ne_of_lt (Heap.lt_size e)) (Heap.get?_push_of_some _ e)
    have J0 := lam_start2 (E := E) (f := f) (c' := c') (tk := s2.toks + ([] : List (Str × Value)).length) I L I1.env0 hr.hd un hns kp
    have J : Inv (lamN X (X.A.deeper (envOfC qg sg s.heap.objs.size g cdg)) (envOfC qg sg s.heap.objs.size g cdg :: X.stack) s2 HZ E scope f c') [] σ HZ { s2 with heap := h₁, toks := s2.toks + ([] : List (Str × Value)).length } := J0.wish _
    refine PySem.W.kla_codeExpr (wpAny_mono ((hbody _ _ s2 HZ (hr.deeper _)).run [] _ _ HZ Q J ht) (fun v s' hq => ?_) fun e s' hq => hq)
    obtain ⟨w', H', J', rv, q⟩ := hq
    exact ⟨w', H', J'.os, J'.bare, J'.base, J'.hok, rv, q⟩
  refine wpAny_call (codeAny_mono rc fun r s' hq => ?_)
  cases r with
  | error e => exact tk e s' (L2N.XE.of_call I1 (fun cls d H' h => hW cls d σZ H' IZ.len h) hq)
  | ok fl =>
    cases fl with
    | ret u => exact I1.after hq
    | next => exact (show False from hq).elim
    | brk => exact (show False from hq).elim
    | cont => exact (show False from hq).elim
end
/-- the def x, called with a lambda that it calls: TT: what it makes of the lambda's reading -/
def GivesN (X : Cx) (Ng : List Str) (x : Str) (sg : Scope) (g : Addr) (cdg : Value) (bg : List Stmt) (a : Str) (q : Str) (k : Nat) (TT : (XK → Hp → VK → Prop) → Hp → VK → Prop) : Prop :=
  ∀ (f c' : Addr) (s : Shared) (H : Hp) (Q : VK) (tl : XK → Hp → VK → Prop), Room k (X.A.deeper (envOfC x sg s.heap.objs.size g cdg)) →
    (∀ (W : WX) (pn : List (Addr × Obj)) (xe : Value → Shared → Prop) (E : XK) (p1 p2 : Pos), L2N.Takes ((cxOf CX0 X.prog X.w X.K X.mg X.base Ng x sg g cdg X.A X.stack s H E0).tr pn xe) W → (∀ cls d (σ' : L2.St) H', σ'.length = Ng.length → E cls d H' → W cls d σ' H') →
      PE ((cxOf CX0 X.prog X.w X.K X.mg X.base Ng x sg g cdg X.A X.stack s H E0).tr pn xe) (.Call (.Name a p1) [] [] p2) (fun σZ HZ Q => σZ[0]? = some (some (.ref f)) ∧ HZ c' = some (CodeO c' q) ∧ tl E HZ Q)) →
    H c' = some (CodeO c' q) → TT tl H Q →
    ∃ t, PSs (cxOf CX0 X.prog X.w X.K X.mg X.base Ng x sg g cdg X.A X.stack s H E0).nox bg t ∧ t { nx := fun _ H' => Q .non H', rt := Q } (L2.start Ng [.ref f]) H
section
variable {X : Cx}
/-- x(lambda: body) -/
theorem pe_lamN {T : List (Addr × Str)} {TT : (XK → Hp → VK → Prop) → Hp → VK → Prop} {x a : Str} {c P : Addr} {k : Nat} {st : Stmt} {Ng : List Str}
    {params : Arguments} {body : Expr} {scope : Scope} {t : XK → TE} {p lpos pos : Pos} (F : Here X.K X.mg x st) (hg : Gl X x)
    (hb : ∀ (kV doc pm : Value) (an : Option Addr) (cdv ct : Value) (us : List Value), us.length = [a].length → bindArgs (PySem.W.fnOf x x (defArgs st) (defBody st) (defScope st) .none kV doc pm an cdv ct) ⟨us, []⟩ = pure ([a].zip us))
    (Sg : FnScope Ng [a] (defScope st)) (hNg : Ng[0]? = some a) (hva : Vis (defScope st) a)
    (hG : ∀ g cdv, GivesN X Ng x (defScope st) g cdv (defBody st) a (X.env.qual ++ "<lambda>") (k + 1) TT)
    (TB : TabB X.base X.mg c P) (hcode : X.env.code = .ref c) (hmT : (P, X.env.qual ++ "<lambda>") ∈ T) (hu : ∀ p ∈ T, p.1 = P → p.2 = X.env.qual ++ "<lambda>") (hr : Room (k + 2) X.A) (L : LamS X.env.scope scope) (hdef : defaultsOf params X.env = ([], []))
    (hbind : ∀ (q : Str) (cl : List (Str × Addr)) (pm cv ctv : Value), bindArgs (PySem.W.kla_fn "<lambda>" q params body scope cl pm cv ctv) ⟨[], []⟩ = pure [])
    (hbody : ∀ (A : Around) (outer : List Env) (s : Shared) (H : Hp) (E : XK) (f c' : Addr), Room k (A.deeper (lamEnv X scope s.heap.objs.size f c')) → PE (lamN X A outer s H E scope f c') body (t E))
    (hdb : (x == ("__debug__" : Str)) = false := by decide) (hd : (a == ("__debug__" : Str)) = false := by decide) (hcd : (a == ("__classdict__" : Str)) = false := by decide) :
    PE X (.Call (.Name x p) [.Lambda params body scope lpos] [] pos) (tLam T TT t) := by
  obtain ⟨g, fd, F, hm⟩ := F
  have bd := F.binds hb
  have hk := F.kp
  obtain ⟨oc, od, kV, doc, pm, an, cdv, ct, osl, rfl, lk, hcg⟩ := F.ex
  refine ⟨fun pins s σ H Q I h => ?_⟩
  obtain ⟨hT, h⟩ := h
  refine wpAny_Call_Name_kw (ld_glob I hg hm ?_ hdb)
  refine PySem.W.callWith_K (h₀ := X.base) I.ok.mod.kin hk ?_ (by rfl) (by rfl)
  show wpAny _ _ (spliced ((false, eval (.Lambda params body scope lpos) X.env) :: backTo pos (starEach [] X.env))) _ _ s
  refine Calls.spliced_cons (lam_make2 I TB hcode hmT hu hT hdef (L.has I.ok) fun f c' pm' ctv H1 s' I1 eN T1 hf hfn hfr hco => ?_)
  refine Calls.spliced_nil ⟨I1.kIn, ?_⟩
  have rc : codeAny (model X.prog X.w) X.A (.call (.ref g) ⟨[.ref f], []⟩) (CR CX0 X.stack X.prog X.w H1 s' Q E0) s' := by
    refine run_ofS (N := Ng) (ps := [a]) (us := [.ref f]) (vs := [.ref f]) lk hcg Sg hr I1.env0 (bd s' [.ref f] I1.kIn rfl) (.cons rfl .nil) rfl fun hr' => ?_
    obtain ⟨t', ht', hq'⟩ := hG g cdv f c' s' H1 Q (fun E H' Q' => t E σ H' Q') hr' (fun W pn xe E p1 p2 tk hW => pe_actN (i := 0) I1 L hf hfn hfr (hbind _ _ _ _ _) tk hW hr' (fun A outer s H hr2 => hbody A outer s H E f c' hr2) hNg hva hd hcd) hco (h H1 eN T1)
    exact ⟨t', ht'.nox, hq'⟩
  refine wpAny_call (codeAny_mono rc fun r s2 hq => ?_)
  cases r with
  | error e => exact (show False from hq).elim
  | ok fl =>
    cases fl with
    | ret u => exact I1.after hq
    | next => exact (show False from hq).elim
    | brk => exact (show False from hq).elim
    | cont => exact (show False from hq).elim
end
end Sv

set_option maxHeartbeats 4000000
namespace Sv
open PySem PySem.Spec PyProof.Rows L2 L2H HotX LamX
/-! ### the exception classes of the text -/
def excNames : List Str := ["InvalidBush", "InvalidStem", "InvalidPlayer", "InvalidStalk", "InvalidNumber", "InvalidText", "TooLarge", "NoneBetween", "NotYours", "NothingToUndo"]
def veTail : List Value := [.type "ValueError", .type "Exception", .type "BaseException", .type "object"]
/-- what is known of the class x, at C -/
structure ExcOne (K : PySem.W.Frag) (mg : Str → Option Value) (x : Str) (C : Addr) : Prop where
  g : mg x = some (.ref C)
  xi : PySem.W.excIn K C veTail "ValueError.__new__" = true
  kp : PySem.W.keepIn K (.ref C) = true
  b : PySem.W.subIn K (.ref C) (.type "BaseException") = some true
  t : PySem.W.typeIn K (.ref C) = some (.type "type")
/-- what is known of all ten, at C 0 .. C 9, and of their base at CS -/
structure Excs (K : PySem.W.Frag) (mg : Str → Option Value) (C : Nat → Addr) (CS : Addr) : Prop where
  gS : mg "StemError" = some (.ref CS)
  one : ∀ i x, excNames[i]? = some x → ExcOne K mg x (C i)
  cls : ∀ i, i < 10 → ExcC K (C i)
  apart : ∀ i j, i < 10 → j < 10 → PySem.W.kitOne K (.ref (C i)) (.ref (C j)) = some (decide (i = j))
  ve : ∀ i, i < 10 → PySem.W.kitOne K (.ref (C i)) (.type "ValueError") = some true
  stem : ∀ i, i < 10 → PySem.W.exmOne K (.ref (C i)) (.ref CS) = some true
/-- the same, to be reckoned -/
def excCB (K : PySem.W.Frag) (D : Addr) : Bool :=
  PySem.W.findIn K (.ref D) "__getattribute__" == some (some (.builtin "BaseException.__getattribute__")) && PySem.W.findIn K (.ref D) "__getattr__" == some none && PySem.W.subIn K (.ref D) (.type "BaseException") == some true &&
  PySem.W.hasDictIn K D && PySem.W.findIn K (.ref D) "__class__" == some (some (.builtin "object.__class__")) && PySem.W.specialIn K (.builtin "object.__class__") "__get__" == some (some (.builtin "getset_descriptor.__get__")) &&
  PySem.W.takesIn K (.builtin "object.__class__") == some true && PySem.W.mroIn K D (.type "object") == some true
theorem excC_of {K : PySem.W.Frag} {D : Addr} (h : excCB K D = true) : ExcC K D := by
  unfold excCB at h
  simp only [Bool.and_eq_true, beq_iff_eq] at h
  obtain ⟨⟨⟨⟨⟨⟨⟨h1, h2⟩, h3⟩, h4⟩, h5⟩, h6⟩, h7⟩, h8⟩ := h
  exact ⟨h1, h2, h3, h4, h5, h6, h7, h8⟩
def excOneB (K : PySem.W.Frag) (x : Str) (C : Addr) : Bool :=
  PySem.W.nsIn K mainGlobals x == some (some (.ref C)) && PySem.W.excIn K C veTail "ValueError.__new__" && PySem.W.keepIn K (.ref C) && PySem.W.subIn K (.ref C) (.type "BaseException") == some true && PySem.W.typeIn K (.ref C) == some (.type "type")
theorem excOne_of {K : PySem.W.Frag} {mg : Str → Option Value} {h : Heap} {x : Str} {C : Addr} (X : K.In h) (G : h.Ns mainGlobals mg) (e : excOneB K x C = true) : ExcOne K mg x C := by
  unfold excOneB at e
  simp only [Bool.and_eq_true, beq_iff_eq] at e
  obtain ⟨⟨⟨⟨h1, h2⟩, h3⟩, h4⟩, h5⟩ := e
  exact ⟨PySem.W.mg_of X G h1, h2, h3, h4, h5⟩
def excsB (K : PySem.W.Frag) (C : Nat → Addr) (CS : Addr) : Bool :=
  PySem.W.nsIn K mainGlobals "StemError" == some (some (.ref CS)) && (List.range 10).all fun i =>
    excOneB K (excNames.getD i "") (C i) && excCB K (C i) && PySem.W.kitOne K (.ref (C i)) (.type "ValueError") == some true && PySem.W.exmOne K (.ref (C i)) (.ref CS) == some true &&
      (List.range 10).all fun j => PySem.W.kitOne K (.ref (C i)) (.ref (C j)) == some (decide (i = j))
theorem excs_of {K : PySem.W.Frag} {mg : Str → Option Value} {h : Heap} {C : Nat → Addr} {CS : Addr} (X : K.In h) (G : h.Ns mainGlobals mg) (e : excsB K C CS = true) : Excs K mg C CS := by
  unfold excsB at e
  simp only [Bool.and_eq_true, beq_iff_eq, List.all_eq_true, List.mem_range] at e
  obtain ⟨h1, h2⟩ := e
  refine ⟨PySem.W.mg_of X G h1, fun i x hx => ?_, fun i hi => excC_of (h2 i hi).1.1.1.2, fun i j hi hj => (h2 i hi).2 j hj, fun i hi => (h2 i hi).1.1.2, fun i hi => (h2 i hi).1.2⟩
  have hi : i < 10 := (List.getElem?_eq_some_iff.mp hx).1
  have q := (h2 i hi).1.1.1.1
  rw [List.getD_eq_getElem?_getD, hx] at q
  exact excOne_of X G q
/-! ### raise X('..') -/
section
variable {X : Cx}
theorem ps_raiseN {x m : Str} {C : Addr} {j : Nat} {p p2 pos pos2 : Pos} {E : XK} {E₁ : Value → Shared → Prop} (hc : X.calm = true) (O : ExcOne X.K X.mg x C) (hg : Gl X x) (hs : X.stack = X.env :: X.outer) (hf : X.env.frame = some X.env.locals) (hex : X.ex = [])
    (hx : X.xe = fun e s' => wpAny (model X.prog X.w) X.A (leaving X.env e) (fun _ s'' => L2N.CX X.prog X.w X.outer X.H_0 X.s_0 E e s'') E₁ s') (hdb : (x == ("__debug__" : Str)) = false := by decide) :
    PS X (.Raise (some (.Call (.Name x p) [.Constant (.str m) j p2] [] pos)) none pos2) (fun _ _ H => E (.ref C) none H) :=
  L2N.ps_raise hc (L2N.takes_of hs hf hex hx) (L2N.pmk_own PySem.F.excBase_ValueError O.xi O.g O.kp (raises_own O.b O.t) hg hdb)
end
/-! ### what _law_term finds -/
def flagsOf (i : Nat) : List Bool := (List.range 10).map fun j => decide (i = j)
theorem flags_sum {i : Nat} (h : i < 10) : ((flagsOf i).map fun b => if b then (1 : Int) else 0).sum = 1 := by
  have : ∀ i, i < 10 → ((flagsOf i).map fun b => if b then (1 : Int) else 0).sum = 1 := by decide
  exact this i h
theorem flags_at {i : Nat} (h : i < 10) : ((flagsOf i).map V.bl)[i]? = some (.bl true) := by
  have : ∀ i, i < 10 → ((flagsOf i).map V.bl)[i]? = some (.bl true) := by decide
  exact this i h
theorem flags_ne {i m : Nat} {z : V} (h : m < i) (hz : ((flagsOf i).map V.bl)[m]? = some z) : eqV z (.bl true) = false := by
  unfold flagsOf at hz
  rw [List.map_map, List.getElem?_map] at hz
  cases e : (List.range 10)[m]? with
  | none => rw [e] at hz; cases hz
  | some j =>
    rw [e] at hz
    have hj : j = m := by
      rw [List.getElem?_range] at e
      · exact (Option.some.inj e).symm
      · exact (by have := (List.getElem?_eq_some_iff.mp e).1; simpa using this)
    subst hj
    have q := Option.some.inj hz
    subst q
    have : ¬ i = j := by omega
    show eqV (V.bl (decide (i = j))) (.bl true) = false
    rw [decide_eq_false this]
    rfl
theorem flags_flat (i : Nat) : ((flagsOf i).map V.bl).all flatV = true := by
  rw [List.all_map]
  exact List.all_eq_true.mpr fun _ _ => rfl
/-- what _law_term tells of the exception at a, of the i-th class -/
def spTerm (a : Addr) (i : Nat) : Sp := fun vs H Q _ => vs = [.ref a] ∧ ∀ H' p, Same H H' → H p = none → H' p = some (.tup [.str "error", .str (excNames.getD i "")]) → Q (.ref p) H'
/-- told: the lambda's result, or the name of its exception -/
def TTerm (C : Nat → Addr) : (XK → Hp → VK → Prop) → Hp → VK → Prop := fun tl H Q =>
  tl (fun cls d H' => d = none ∧ ∃ i, i < 10 ∧ cls = .ref (C i) ∧ ∀ H'' p, Same H' H'' → H' p = none → H'' p = some (.tup [.str "error", .str (excNames.getD i "")]) → Q (.ref p) H'') H Q
end Sv

set_option maxHeartbeats 4000000
namespace Sv
open PySem PySem.Spec PyProof.Rows L2 L2H HotX LamX
/-! ### data that never changes: None, ints, texts, tuples of these -/
mutual
def pl : PyData → Bool
  | .none => true
  | .int _ => true
  | .str x => PyData.strOk x
  | .tuple xs => plAll xs
  | .bool _ => false
  | .list _ => false
  | .dict _ => false
def plAll : List PyData → Bool
  | [] => true
  | x :: xs => pl x && plAll xs
end
mutual
theorem canLay_pl : ∀ d : PyData, pl d = true → d.canLay0 = true
  | .none, _ => rfl
  | .int _, _ => rfl
  | .str x, h => h
  | .tuple xs, h => by rw [PyData.canLay0]; exact canLayAll_pl xs (by rw [pl] at h; exact h)
  | .bool _, h => by rw [pl] at h; cases h
  | .list _, h => by rw [pl] at h; cases h
  | .dict _, h => by rw [pl] at h; cases h
theorem canLayAll_pl : ∀ xs : List PyData, plAll xs = true → PyData.canLayAll0 xs = true
  | [], _ => rfl
  | x :: xs, h => by
    rw [plAll, Bool.and_eq_true] at h
    rw [PyData.canLayAll0, canLay_pl x h.1, canLayAll_pl xs h.2]; rfl
end
mutual
theorem eqv_eq : ∀ d e : PyData, pl d = true → pl e = true → PyData.eqv d e = true → d = e
  | .none, e, _, h2, h => by cases e <;> first | rfl | (rw [PyData.eqv] at h; cases h)
  | .int i, e, _, h2, h => by
    cases e with
    | int j => rw [PyData.eqv] at h; rw [beq_iff_eq.mp h]
    | bool b => rw [pl] at h2; cases h2
    | _ => rw [PyData.eqv] at h; cases h
  | .str x, e, _, h2, h => by
    cases e with
    | str y => rw [PyData.eqv] at h; rw [beq_iff_eq.mp h]
    | _ => rw [PyData.eqv] at h; cases h
  | .tuple xs, e, h1, h2, h => by
    cases e with
    | tuple ys => rw [PyData.eqv] at h; rw [pl] at h1 h2; rw [eqvAll_eq xs ys h1 h2 h]
    | _ => rw [PyData.eqv] at h; cases h
  | .bool _, _, h1, _, _ => by rw [pl] at h1; cases h1
  | .list _, _, h1, _, _ => by rw [pl] at h1; cases h1
  | .dict _, _, h1, _, _ => by rw [pl] at h1; cases h1
theorem eqvAll_eq : ∀ xs ys : List PyData, plAll xs = true → plAll ys = true → PyData.eqvAll xs ys = true → xs = ys
  | [], [], _, _, _ => rfl
  | [], _ :: _, _, _, h => by rw [PyData.eqvAll] at h; cases h
  | _ :: _, [], _, _, h => by rw [PyData.eqvAll] at h; cases h
  | x :: xs, y :: ys, h1, h2, h => by
    rw [plAll, Bool.and_eq_true] at h1 h2
    rw [PyData.eqvAll, Bool.and_eq_true] at h
    rw [eqv_eq x y h1.1 h2.1 h.1, eqvAll_eq xs ys h1.2 h2.2 h.2]
end
theorem eqv_same {d : PyData} (h : pl d = true) : PyData.eqv d d = true := SeqAt.eqv_refl d (canLay_pl d h)
theorem eqv_ne {d e : PyData} (h1 : pl d = true) (h2 : pl e = true) (h : d ≠ e) : PyData.eqv d e = false := by
  cases q : PyData.eqv d e with
  | false => rfl
  | true => exact absurd (eqv_eq d e h1 h2 q) h
theorem shaped_of {d : PyData} (h : pl d = true) (hd : d.depth ≤ 64) : SeqAt.shaped d = true := by
  unfold SeqAt.shaped
  rw [canLay_pl d h, decide_eq_true hd]
  rfl
/-! ### where data stands -/
/-- what a step may change: not the tuples, not what is locked -/
structure Ext (H H' : Hp) : Prop where
  tup : ∀ b xs, H b = some (.tup xs) → H' b = some (.tup xs)
  frz : ∀ b o u, H b = some (.frz o u) → H' b = some (.frz o u)
theorem Same.ext {H H' : Hp} (s : Same H H') : Ext H H' := ⟨fun b xs e => s b _ e, fun b o u e => s b _ e⟩
theorem Ext.refl (H : Hp) : Ext H H := ⟨fun _ _ e => e, fun _ _ _ e => e⟩
theorem Ext.trans {H H1 H2 : Hp} (a : Ext H H1) (b : Ext H1 H2) : Ext H H2 := ⟨fun c xs e => b.tup c xs (a.tup c xs e), fun c o u e => b.frz c o u (a.frz c o u e)⟩
/-- a list (or a dict ..) is written -/
theorem Ext.wr {H : Hp} {a : Addr} {u o : HO} (e : H a = some u) (h1 : ∀ xs, u ≠ .tup xs) (h2 : ∀ o x, u ≠ .frz o x) : Ext H (upd H a o) :=
  ⟨fun b xs q => by rw [upd_ne (fun z => by rw [z, e] at q; exact h1 xs (Option.some.inj q))]; exact q, fun b ob x q => by rw [upd_ne (fun z => by rw [z, e] at q; exact h2 ob x (Option.some.inj q))]; exact q⟩
theorem Ext.lst {H : Hp} {a : Addr} {xs : List V} {o : HO} (e : H a = some (.lst xs)) : Ext H (upd H a o) := Ext.wr e (fun _ z => nomatch z) (fun _ _ z => nomatch z)
theorem Ext.sqT {K : PySem.W.Frag} {H H' : Hp} (x : Ext H H') {a : Addr} {xs : List V} (h : SqT K H a xs) : SqT K H' a xs := by
  rcases h with (h | ⟨o, h⟩) | h
  · exact .inl (.inl (x.tup _ _ h))
  · exact .inl (.inr ⟨o, x.frz _ _ _ h⟩)
  · exact .inr h
mutual
theorem dp_ext {K : PySem.W.Frag} {H H' : Hp} (x : Ext H H') : ∀ (d : PyData) (v : V), pl d = true → Dp K H v d → Dp K H' v d
  | .none, _, _, h => by cases h; exact .non
  | .int i, _, _, h => by cases h; exact .int i
  | .str z, _, _, h => by cases h; exact .str z
  | .tuple ds, _, hp, h => by
    rw [pl] at hp
    cases h with
    | tup s t => exact .tup (x.sqT s) (dpAll_ext x ds _ hp t)
  | .bool _, _, hp, _ => by rw [pl] at hp; cases hp
  | .list _, _, hp, _ => by rw [pl] at hp; cases hp
  | .dict _, _, hp, _ => by rw [pl] at hp; cases hp
theorem dpAll_ext {K : PySem.W.Frag} {H H' : Hp} (x : Ext H H') : ∀ (ds : List PyData) (vs : List V), plAll ds = true → DpAll K H vs ds → DpAll K H' vs ds
  | [], _, _, h => by cases h; exact .nil
  | d :: ds, _, hp, h => by
    rw [plAll, Bool.and_eq_true] at hp
    cases h with
    | cons a t => exact .cons (dp_ext x d _ hp.1 a) (dpAll_ext x ds _ hp.2 t)
end
/-- the data d stands at v -/
def At (K : PySem.W.Frag) (H : Hp) (v : V) (d : PyData) : Prop := pl d = true ∧ Dp K H v d
theorem At.ext {K : PySem.W.Frag} {H H' : Hp} {v : V} {d : PyData} (h : At K H v d) (x : Ext H H') : At K H' v d := ⟨h.1, dp_ext x _ _ h.1 h.2⟩
theorem At.same {K : PySem.W.Frag} {H H' : Hp} {v : V} {d : PyData} (h : At K H v d) (x : Same H H') : At K H' v d := h.ext (Same.ext x)
def AtAll (K : PySem.W.Frag) (H : Hp) (vs : List V) (ds : List PyData) : Prop := plAll ds = true ∧ DpAll K H vs ds
theorem AtAll.ext {K : PySem.W.Frag} {H H' : Hp} {vs : List V} {ds : List PyData} (h : AtAll K H vs ds) (x : Ext H H') : AtAll K H' vs ds := ⟨h.1, dpAll_ext x _ _ h.1 h.2⟩
theorem AtAll.nil {K : PySem.W.Frag} {H : Hp} : AtAll K H [] [] := ⟨rfl, .nil⟩
theorem AtAll.cons {K : PySem.W.Frag} {H : Hp} {v : V} {vs : List V} {d : PyData} {ds : List PyData} (a : At K H v d) (b : AtAll K H vs ds) : AtAll K H (v :: vs) (d :: ds) := ⟨by rw [plAll, a.1, b.1]; rfl, .cons a.2 b.2⟩
theorem AtAll.len {K : PySem.W.Frag} {H : Hp} : ∀ {vs : List V} {ds : List PyData}, DpAll K H vs ds → vs.length = ds.length
  | _, _, .nil => rfl
  | _, _, .cons _ t => by rw [List.length_cons, List.length_cons, AtAll.len t]
theorem AtAll.snoc {K : PySem.W.Frag} {H : Hp} {v : V} {d : PyData} (a : At K H v d) : ∀ {vs : List V} {ds : List PyData}, AtAll K H vs ds → AtAll K H (vs ++ [v]) (ds ++ [d])
  | _, _, ⟨h, .nil⟩ => AtAll.cons a AtAll.nil
  | _, _, ⟨h, .cons x t⟩ => by
    rw [plAll, Bool.and_eq_true] at h
    exact AtAll.cons ⟨h.1, x⟩ (AtAll.snoc a ⟨h.2, t⟩)
theorem AtAll.append {K : PySem.W.Frag} {H : Hp} {us : List V} {es : List PyData} (a : AtAll K H us es) : ∀ {vs : List V} {ds : List PyData}, AtAll K H vs ds → AtAll K H (vs ++ us) (ds ++ es)
  | _, _, ⟨h, .nil⟩ => a
  | _, _, ⟨h, .cons x t⟩ => by
    rw [plAll, Bool.and_eq_true] at h
    exact AtAll.cons ⟨h.1, x⟩ (AtAll.append a ⟨h.2, t⟩)
theorem AtAll.get {K : PySem.W.Frag} {H : Hp} : ∀ {vs : List V} {ds : List PyData} {i : Nat} {v : V}, AtAll K H vs ds → vs[i]? = some v → ∃ d, ds[i]? = some d ∧ At K H v d
  | _, _, _, _, ⟨h, .nil⟩, e => by simp at e
  | _, _, 0, _, ⟨h, .cons x t⟩, e => by
    rw [plAll, Bool.and_eq_true] at h
    simp at e; subst e
    exact ⟨_, rfl, h.1, x⟩
  | _, _, i + 1, v, ⟨h, .cons x t⟩, e => by
    rw [plAll, Bool.and_eq_true] at h
    exact AtAll.get (i := i) ⟨h.2, t⟩ (by simpa using e)
theorem AtAll.get' {K : PySem.W.Frag} {H : Hp} {vs : List V} {ds : List PyData} {i : Nat} {d : PyData} (a : AtAll K H vs ds) (e : ds[i]? = some d) : ∃ v, vs[i]? = some v ∧ At K H v d := by
  have hl := AtAll.len a.2
  have hi := (List.getElem?_eq_some_iff.mp e).1
  cases q : vs[i]? with
  | none => exact absurd (List.getElem?_eq_none_iff.mp q) (by omega)
  | some v =>
    obtain ⟨d', e', h⟩ := a.get q
    rw [e] at e'; cases e'
    exact ⟨v, rfl, h⟩
theorem At.int {K : PySem.W.Frag} {H : Hp} (i : Int) : At K H (.int i) (.int i) := ⟨rfl, .int i⟩
theorem At.non {K : PySem.W.Frag} {H : Hp} : At K H .non .none := ⟨rfl, .non⟩
theorem At.str {K : PySem.W.Frag} {H : Hp} {x : Str} (h : PyData.strOk x = true) : At K H (.str x) (.str x) := ⟨h, .str x⟩
theorem At.tup {K : PySem.W.Frag} {H : Hp} {a : Addr} {vs : List V} {ds : List PyData} (h : SqT K H a vs) (d : AtAll K H vs ds) : At K H (.ref a) (.tuple ds) := ⟨by rw [pl]; exact d.1, .tup h d.2⟩
theorem At.tupO {K : PySem.W.Frag} {H : Hp} {a : Addr} {vs : List V} {ds : List PyData} (h : H a = some (.tup vs)) (d : AtAll K H vs ds) : At K H (.ref a) (.tuple ds) := At.tup (SqT.of h) d
/-- what a tuple's data says -/
theorem At.inv {K : PySem.W.Frag} {H : Hp} {v : V} {ds : List PyData} (h : At K H v (.tuple ds)) : ∃ a vs, v = .ref a ∧ SqT K H a vs ∧ AtAll K H vs ds := by
  obtain ⟨h1, h2⟩ := h
  rw [pl] at h1
  cases h2 with
  | tup s d => exact ⟨_, _, rfl, s, h1, d⟩
theorem At.inv_int {K : PySem.W.Frag} {H : Hp} {v : V} {i : Int} (h : At K H v (.int i)) : v = .int i := by
  obtain ⟨_, h2⟩ := h
  cases h2; rfl
theorem At.inv_str {K : PySem.W.Frag} {H : Hp} {v : V} {i : Str} (h : At K H v (.str i)) : v = .str i := by
  obtain ⟨_, h2⟩ := h
  cases h2; rfl
theorem At.inv_none {K : PySem.W.Frag} {H : Hp} {v : V} (h : At K H v .none) : v = .non := by
  obtain ⟨_, h2⟩ := h
  cases h2; rfl
/-! ### any data -/
mutual
theorem dp_same {K : PySem.W.Frag} {H H' : Hp} (x : Same H H') : ∀ (d : PyData) (v : V), Dp K H v d → Dp K H' v d
  | .none, _, h => by cases h; exact .non
  | .int i, _, h => by cases h; exact .int i
  | .str z, _, h => by cases h; exact .str z
  | .bool z, _, h => by cases h; exact .bl z
  | .tuple ds, _, h => by
    cases h with
    | tup s t => exact .tup ((Same.ext x).sqT s) (dpAll_same x ds _ t)
  | .list ds, _, h => by
    cases h with
    | lst s t => exact .lst (x.seq s) (dpAll_same x ds _ t)
  | .dict _, _, h => by cases h
theorem dpAll_same {K : PySem.W.Frag} {H H' : Hp} (x : Same H H') : ∀ (ds : List PyData) (vs : List V), DpAll K H vs ds → DpAll K H' vs ds
  | [], _, h => by cases h; exact .nil
  | d :: ds, _, h => by
    cases h with
    | cons a t => exact .cons (dp_same x d _ a) (dpAll_same x ds _ t)
end
theorem dpAll_get {K : PySem.W.Frag} {H : Hp} : ∀ {vs : List V} {ds : List PyData} {i : Nat} {d : PyData}, DpAll K H vs ds → ds[i]? = some d → ∃ v, vs[i]? = some v ∧ Dp K H v d
  | _, _, _, _, .nil, e => by simp at e
  | _, _, 0, _, .cons x t, e => by simp at e; subst e; exact ⟨_, rfl, x⟩
  | _, _, i + 1, d, .cons x t, e => by
    obtain ⟨v, h1, h2⟩ := dpAll_get (i := i) t (by simpa using e)
    exact ⟨v, by simpa using h1, h2⟩
/-- the class of a piece of data -/
def tyD : PyData → String
  | .none => "NoneType"
  | .bool _ => "bool"
  | .int _ => "int"
  | .str _ => "str"
  | .list _ => "list"
  | .tuple _ => "tuple"
  | .dict _ => "dict"
theorem sqT_ty {K : PySem.W.Frag} {H : Hp} {a : Addr} {xs : List V} (h : SqT K H a xs) : TyX K H (.ref a) (.type "tuple") := by
  rcases h with (h | ⟨o, h⟩) | ⟨o, its, n, h1, h2, _⟩
  · exact .base (.tup h)
  · exact .fTuple h
  · exact .kTuple h1 h2
theorem sqL_ty {K : PySem.W.Frag} {H : Hp} {a : Addr} {xs : List V} (h : SqL K H a xs) : TyX K H (.ref a) (.type "list") := by
  rcases h with (h | ⟨o, h⟩) | ⟨o, its, n, h1, h2, _⟩
  · exact .base (.lst h)
  · exact .base (.frz h)
  · exact .kList h1 h2
theorem tyX_of {K : PySem.W.Frag} {H : Hp} {v : V} {d : PyData} (h : Dp K H v d) : TyX K H v (.type (tyD d)) := by
  cases h with
  | non => exact .base .non
  | bl b => exact .base (.bl b)
  | int i => exact .base (.int i)
  | str x => exact .base (.str x)
  | lst s _ => exact sqL_ty s
  | tup s _ => exact sqT_ty s
def isKind (d : PyData) (T : String) : Bool := (tyD d == T) || (tyD d == "bool" && T == "int")
theorem kit_int (d : PyData) (h : ∀ x, d ≠ .dict x) : kitB (tyD d) "int" = some (isKind d "int") := by cases d <;> first | (exact absurd rfl (h _)) | (simp only [tyD, isKind]; decide +kernel)
theorem kit_bool (d : PyData) (h : ∀ x, d ≠ .dict x) : kitB (tyD d) "bool" = some (isKind d "bool") := by cases d <;> first | (exact absurd rfl (h _)) | (simp only [tyD, isKind]; decide +kernel)
theorem kit_str (d : PyData) (h : ∀ x, d ≠ .dict x) : kitB (tyD d) "str" = some (isKind d "str") := by cases d <;> first | (exact absurd rfl (h _)) | (simp only [tyD, isKind]; decide +kernel)
theorem kit_tuple (d : PyData) (h : ∀ x, d ≠ .dict x) : kitB (tyD d) "tuple" = some (isKind d "tuple") := by cases d <;> first | (exact absurd rfl (h _)) | (simp only [tyD, isKind]; decide +kernel)
theorem dp_nodict {K : PySem.W.Frag} {H : Hp} {v : V} {d : PyData} (h : Dp K H v d) : ∀ x, d ≠ .dict x := fun x e => by subst e; cases h
section
variable {X : Cx}
/-- isinstance(x, T), T one of int, bool, str, tuple -/
def rIsD (K : PySem.W.Frag) : List V → Hp → VK → Prop := fun xs H Q => ∃ x T d, xs = [x, .ty T] ∧ Dp K H x d ∧ (T = "int" ∨ T = "bool" ∨ T = "str" ∨ T = "tuple") ∧ Q (.bl (isKind d T)) H
theorem call_isD : CallR X (.builtin "isinstance") (rIsD X.K) := CallR.imp call_isi fun xs H Q h => by
  obtain ⟨x, T, d, e, hd, ht, q⟩ := h
  refine ⟨x, .ty T, .type (tyD d), .type T, isKind d T, e, .ty T, tyX_of hd, kit_ty ?_, q⟩
  rcases ht with rfl | rfl | rfl | rfl
  · exact kit_int d (dp_nodict hd)
  · exact kit_bool d (dp_nodict hd)
  · exact kit_str d (dp_nodict hd)
  · exact kit_tuple d (dp_nodict hd)
end
/-! ### == of such data -/
section
variable {X : Cx}
def rEqA (K : PySem.W.Frag) : R2 := fun x y H Q => ∃ d e, At K H x d ∧ At K H y e ∧ d.depth ≤ 64 ∧ e.depth ≤ 64 ∧ (d = e → Q (.bl true) H) ∧ (d ≠ e → Q (.bl false) H)
def rNeA (K : PySem.W.Frag) : R2 := fun x y H Q => ∃ d e, At K H x d ∧ At K H y e ∧ d.depth ≤ 64 ∧ e.depth ≤ 64 ∧ (d = e → Q (.bl false) H) ∧ (d ≠ e → Q (.bl true) H)
theorem op_eqA (hu : X.A.units + 64 < cLine) : OpR X (compareOp .Eq) (rEqA X.K) := OpR.imp (op_eqD hu) fun x y H Q h => by
  obtain ⟨d, e, h1, h2, h3, h4, q1, q2⟩ := h
  refine ⟨d, e, h1.2, h2.2, shaped_of h1.1 h3, shaped_of h2.1 h4, ?_⟩
  by_cases he : d = e
  · subst he; rw [eqv_same h1.1]; exact q1 rfl
  · rw [eqv_ne h1.1 h2.1 he]; exact q2 he
theorem op_neA (hu : X.A.units + 64 < cLine) : OpR X (compareOp .NotEq) (rNeA X.K) := OpR.imp (op_neD hu) fun x y H Q h => by
  obtain ⟨d, e, h1, h2, h3, h4, q1, q2⟩ := h
  refine ⟨d, e, h1.2, h2.2, shaped_of h1.1 h3, shaped_of h2.1 h4, ?_⟩
  by_cases he : d = e
  · subst he; rw [eqv_same h1.1]; exact q1 rfl
  · rw [eqv_ne h1.1 h2.1 he]; exact q2 he
end
end Sv

set_option maxHeartbeats 4000000
namespace Sv
open PySem PySem.Spec PyProof.Rows L2 L2H HotX LamX
/-! ### comprehensions by what holds of the list so far -/
/-- how the heap may go on from H1: T; the places that are free at H1 stay as the comprehension has them -/
structure Goes1 (H1 : Hp) (T : Hp → Hp → Prop) : Prop where
  refl : ∀ H, T H1 H → T H H
  rf0 : T H1 H1
  trans : ∀ H H', T H1 H → T H H' → T H1 H'
  put : ∀ D H zs, H1 D = none → T H1 H → T H1 (upd H D (.lst zs))
  keep : ∀ D H H' o, H1 D = none → T H1 H → T H H' → H D = some o → H' D = some o
theorem goes_same (H1 : Hp) : Goes1 H1 Same where
  refl := fun H _ => Same.refl H
  rf0 := Same.refl H1
  trans := fun H H' a b => Same.trans a b
  put := fun D H zs n a b o e => by rw [upd_ne (ne_of_none e n)]; exact a b o e
  keep := fun D H H' o _ _ t e => t D o e
section
variable {J : It} {n : Nat} {G : Hp → Prop} {Y : Nat → Hp → V → Hp → Prop}
theorem lc_J (w : Walk J n G Y) {g : TG} {tt : TT} {te : TE} {vs : List Nat} {σ : L2.St} {H1 : Hp} {Q : Addr → Hp → Prop} (T : Hp → Hp → Prop) (R : Addr → Nat → List V → Hp → Prop) (hT : Goes1 H1 T) (hn : n < sizeLine)
    (hG : ∀ H, T H1 H → G H) (h0 : ∀ D, H1 D = none → R D 0 [] H1) (hR : ∀ D i ys H H', H1 D = none → Ext H H' → (∀ b o, b ≠ D → H b = some o → H' b = some o) → R D i ys H → R D i ys H')
    (step : ∀ D (E : V → Hp → Prop) (E0 : Hp → Prop) i x ys H H', H1 D = none → H D = some (.lst ys) → i < n → T H1 H → R D i ys H → Y i H x H' → (∀ y H4, T H H4 → R D (i + 1) (ys ++ [y]) H4 → E y H4) → (∀ H3, T H H3 → R D (i + 1) ys H3 → E0 H3) →
      g x (wipe σ vs) H' fun σ2 H2 => wipe σ2 vs = wipe σ vs ∧ tt σ2 H2 fun b H3 => if b = true then te σ2 H3 E else E0 H3)
    (fin : ∀ D H ys, H1 D = none → T H1 H → H D = some (.lst ys) → ys.length ≤ n → R D n ys H → Q D H) :
    ∀ D, H1 D = none → ∃ W : Nat → Nat → Hp → Prop, (∃ m, W 0 m (upd H1 D (.lst []))) ∧ ∀ i m H, W i m H →
      (J.stop i H ∧ Q D H) ∨ (J.go i H ∧ ∃ Nx : Hp → Prop, (∀ H', Nx H' → ∃ m', m' < m ∧ W (i + 1) m' H') ∧ ∀ x H', J.yld i H x H' → g x (wipe σ vs) H' fun σ2 H2 => wipe σ2 vs = wipe σ vs ∧ tt σ2 H2 fun b H3 =>
        if b = true then te σ2 H3 fun y H4 => ∃ acc, H4 D = some (.lst acc) ∧ acc.length < sizeLine ∧ Nx (upd H4 D (.lst (acc ++ [y]))) else Nx H3) := by
  intro D hD
  have other : ∀ {H : Hp} {o : HO} (b : Addr) (u : HO), b ≠ D → H b = some u → upd H D o b = some u := fun b u hb e => by rw [upd_ne hb]; exact e
  refine lc_it w (Qd := fun H => Q D H) (fun i H => T H1 H ∧ ∃ ys, H D = some (.lst ys) ∧ ys.length ≤ i ∧ R D i ys H) ⟨hT.put D H1 [] hD hT.rf0, [], upd_same, Nat.le_refl _, hR _ _ _ _ _ hD (Same.ext (same_new hD)) other (h0 D hD)⟩ (fun i H _ h => hG H h.1) ?_ ?_
  · rintro i x H H' hi ⟨t, ys, eD, hl, r⟩ y
    refine step D _ _ i x ys H H' hD eD hi t r y (fun v H4 t4 r4 => ?_) fun H3 t3 r3 => ?_
    · have e4 := hT.keep D _ _ _ hD t t4 eD
      exact ⟨ys, e4, by omega, hT.put D _ _ hD (hT.trans _ _ t t4), ys ++ [v], upd_same, by rw [List.length_append, List.length_singleton]; omega, hR _ _ _ _ _ hD (Ext.lst e4) other r4⟩
    · exact ⟨hT.trans _ _ t t3, ys, hT.keep D _ _ _ hD t t3 eD, by omega, r3⟩
  · rintro H ⟨t, ys, eD, hl, r⟩
    exact fin D H ys hD t eD hl r
end
end Sv

set_option maxHeartbeats 4000000
namespace Sv
open PySem PySem.Spec PyProof.Rows L2 L2H HotX LamX
/-! ### min of a list of pairs of ints -/
section
variable {prog : Program} {w : World} {A : Around} {R : Result → Shared → Prop} {I : Addr} {n : Nat} {P : Nat → Value → Prop} {fp wr : List Addr} {St : Nat → Heap → Prop}
/-- how two of the items compare in every state that bears what h0 bears, but for the iterator and the place S -/
def CmpIn (prog : Program) (w : World) (A : Around) (P : Nat → Value → Prop) (bt : Nat → Nat → Bool) (wr : List Addr) (S : Addr) (h0 : Heap) : Prop :=
  ∀ i j vi vj (s : Shared) (Q : Value → Shared → Prop) (E : Value → Shared → Prop), P i vi → P j vj → (∀ b o, b ∉ wr → b ≠ S → h0.get? b = some o → s.heap.get? b = some o) → Q (.bool (bt i j)) s → wpAny (model prog w) A (richCompare .Lt vi vj) Q E s
theorem min_name : (toString "min" ++ toString ".loop" : String) = "min.loop" := by decide
theorem min_on (W : Walks prog w A.in1 I fp wr n P St) (bt : Nat → Nat → Bool) (S : Addr) (h0 : Heap) (hcmp : CmpIn prog w A.in1 P bt wr S h0) (hSf : S ∉ fp) :
    ∀ (k j : Nat) (s : Shared) (vb : Value) (c : Nat), n - (j + 1) = k → j + 1 ≤ n → St (j + 1) s.heap → P (argBest bt j) vb →
    s.heap.get? S = some { cls := .type "list", dict := none, data := .seq #[vb, vb] c, slots := #[] } → (∀ b o, b ∉ wr → b ≠ S → h0.get? b = some o → s.heap.get? b = some o) →
    (∀ v h' tk, P (argBest bt (n - 1)) v → (∀ b o, b ∉ wr → b ≠ S → h0.get? b = some o → h'.get? b = some o) → R (.ok (.ret v)) { s with heap := h', toks := tk }) →
    codeAny (model prog w) A (.builtin "min.loop" ⟨[.ref I, .none, .ref S], []⟩) R s := by
  have hSw : S ∉ wr := fun h => hSf (W.sub _ h)
  intro k
  induction k with
  | zero =>
    intro j s vb c hk hj hst hPb hS k0 hR
    obtain rfl : n = j + 1 := by omega
    refine codeAny_builtin F.entry_min_loop ?_
    rw [Around.under_plainId F.plain_min_loop _]
    refine (show wpAny _ A.in1 (seqItems? (.ref S) >>= _) _ _ s from wpAny_bind (wpAny_seqItems hS rfl ?_))
    refine (show wpAny _ A.in1 (tryCatch (pyNext (.ref I)) _ >>= _) _ _ s from wpAny_bind (wpAny_tryCatch (W.done s _ _ hst fun h' tk hk' => ?_)))
    refine (show wpAny _ A.in1 (updateSeq S (fun _ => #[]) >>= _) _ _ _ from wpAny_bind ?_)
    refine wpAny_updateSeq (hk' S _ hSw hS) rfl (wpAny_bind (wpAny_letGo (wpAny_pure ?_)))
    exact hR vb _ tk hPb fun b o hbw hbS e => (Heap.get?_update_other _ _ (Ne.symm hbS)).trans (hk' b o hbw (k0 b o hbw hbS e))
  | succ k ih =>
    intro j s vb c hk hj hst hPb hS k0 hR
    have hlt : j + 1 < n := by omega
    refine codeAny_builtin F.entry_min_loop ?_
    rw [Around.under_plainId F.plain_min_loop _]
    refine (show wpAny _ A.in1 (seqItems? (.ref S) >>= _) _ _ s from wpAny_bind (wpAny_seqItems hS rfl ?_))
    refine (show wpAny _ A.in1 (tryCatch (pyNext (.ref I)) _ >>= _) _ _ s from wpAny_bind (wpAny_tryCatch (W.item (j + 1) s _ _ hlt hst fun v h' tk hP hst' hk' => ?_)))
    have hS' := hk' S _ hSw hS
    have k1 : ∀ b o, b ∉ wr → b ≠ S → h0.get? b = some o → h'.get? b = some o := fun b o hbw hbS e => hk' b o hbw (k0 b o hbw hbS e)
    refine (show wpAny _ A.in1 (tryCatch (holding [v, v] (richCompare .Lt v vb >>= _)) _ >>= _) _ _ _ from
      wpAny_bind (wpAny_tryCatch (wpAny_holding (wpAny_bind (hcmp (j + 1) (argBest bt j) v vb _ _ _ hP hPb k1 ?_)))))
    refine wpAny_bind (wpAny_holding (wpAny_truthy_bool (wpAny_bind (wpAny_letGo (wpAny_pure ?_)))))
    cases hb : bt (j + 1) (argBest bt j) with
    | true =>
      simp only [if_true]
      refine wpAny_bind (wpAny_updateSeq hS' rfl (wpAny_bind (wpAny_letGo ?_)))
      rw [min_name]
      refine wpAny_pure ⟨plainId_quiet F.plain_min_loop _, ih (j + 1) _ v _ (by omega) hlt (W.frame _ _ _ hst' fun b hbf o e => ?_) (by simp only [argBest, hb, if_true]; exact hP) (Heap.get?_update_self _ hS' rfl) (fun b o hbw hbS e => ?_)
        fun v' h'' tk'' hP' hk'' => hR v' h'' tk'' hP' hk''⟩
      · exact (Heap.get?_update_other _ _ (fun h : S = b => hSf (by rw [h]; exact hbf))).trans e
      · exact (Heap.get?_update_other _ _ (Ne.symm hbS)).trans (k1 b o hbw hbS e)
    | false =>
      simp only [Bool.false_eq_true, if_false]
      refine wpAny_bind (wpAny_letGo ?_)
      rw [min_name]
      exact wpAny_pure ⟨plainId_quiet F.plain_min_loop _, ih (j + 1) _ vb c (by omega) hlt hst' (by simp only [argBest, hb, Bool.false_eq_true, if_false]; exact hPb) hS' k1 fun v' h'' tk'' hP' hk'' => hR v' h'' tk'' hP' hk''⟩
end
section
variable {prog : Program} {w : World} {A : Around} {E : Value → Shared → Prop} {s : Shared}
theorem call_min_in {x : Value} {Q : Value → Shared → Prop}
    (h : wpAny (model prog w) A.in1 (pyIter x) (fun it s₂ => ∃ I fp wr n P St bt, it = .ref I ∧ Walks prog w A.in1 I fp wr n P St ∧ St 0 s₂.heap ∧ (∀ b ∈ fp, b < s₂.heap.objs.size) ∧ 0 < n ∧ CmpIn prog w A.in1 P bt wr s₂.heap.objs.size s₂.heap ∧
      ∀ v h' tk, P (argBest bt (n - 1)) v → (∀ b o, b ∉ wr → s₂.heap.get? b = some o → h'.get? b = some o) → Q v { s₂ with heap := h', toks := tk }) E s) :
    wpAny (model prog w) A (call (.builtin "min") [x]) Q E s := by
  refine call_function_tree F.kind_min F.plain_min F.entry_min (F.args_min1 _) ?_
  refine (show wpAny _ A.in1 (Builtin.Builtins.bindParams "min" ["key", "default"] 0 ⟨[], []⟩ >>= _) _ _ s from wpAny_bind (wpAny_of_eq (a := [none, none]) rfl (wpAny_bind (wpAny_pure ?_))))
  refine wpAny_bind (wpAny_mono h (fun it s₂ h₂ => ?_) fun _ _ e => e)
  obtain ⟨I, fp, wr, n, P, St, bt, rfl, W, hst, hfp, hn, hcmp, hQ⟩ := h₂
  refine wpAny_bind (wpAny_newObj_type ?_)
  have hSf : s₂.heap.objs.size ∉ fp := fun hm => Nat.lt_irrefl _ (hfp _ hm)
  have hSw : s₂.heap.objs.size ∉ wr := fun h => hSf (W.sub _ h)
  rw [min_name]
  refine wpAny_pure ⟨plainId_quiet F.plain_min_loop _, codeAny_builtin F.entry_min_loop ?_⟩
  rw [Around.under_plainId F.plain_min_loop _]
  refine (show wpAny _ A.in1 (seqItems? (.ref s₂.heap.objs.size) >>= _) _ _ _ from wpAny_bind (wpAny_seqItems (Heap.get?_push_size _ rfl) rfl ?_))
  refine (show wpAny _ A.in1 (tryCatch (pyNext (.ref I)) _ >>= _) _ _ _ from wpAny_bind (wpAny_tryCatch (W.item 0 _ _ _ hn (W.frame _ _ _ hst fun b _ o e => Heap.get?_push_of_some _ e) fun v h' tk hP hst' hk' => ?_)))
  have hS' := hk' s₂.heap.objs.size _ hSw (Heap.get?_push_size _ rfl)
  refine (show wpAny _ A.in1 (updateSeq s₂.heap.objs.size (fun _ => #[v, v]) >>= _) _ _ _ from wpAny_bind (wpAny_updateSeq hS' rfl ?_))
  rw [min_name]
  refine wpAny_pure ⟨plainId_quiet F.plain_min_loop _, min_on W bt s₂.heap.objs.size s₂.heap hcmp hSf _ 0 _ v _ rfl hn (W.frame _ _ _ hst' fun b hbf o e => ?_) hP (Heap.get?_update_self _ hS' rfl) (fun b o hbw hbS e => ?_) fun v' h'' tk'' hP' hk'' => ?_⟩
  · exact (Heap.get?_update_other _ _ (fun h : s₂.heap.objs.size = b => hSf (by rw [h]; exact hbf))).trans e
  · exact (Heap.get?_update_other _ _ (Ne.symm hbS)).trans (hk' b o hbw (Heap.get?_push_of_some _ e))
  · exact hQ v' h'' tk'' hP' fun b o hbw e => hk'' b o hbw (Nat.ne_of_lt (Heap.lt_size e)) e
end
/-- what argBest finds: none is less -/
theorem argBest_min (bt : Nat → Nat → Bool) (tr : ∀ i j k, bt i j = false → bt j k = false → bt i k = false) (as : ∀ i j, bt i j = true → bt j i = false) (ir : ∀ i, bt i i = false) :
    ∀ k, argBest bt k ≤ k ∧ ∀ j, j ≤ k → bt j (argBest bt k) = false
  | 0 => ⟨Nat.le_refl _, fun j hj => by
      obtain rfl : j = 0 := by omega
      exact ir _⟩
  | k + 1 => by
    obtain ⟨h1, h2⟩ := argBest_min bt tr as ir k
    rw [argBest]
    cases hb : bt (k + 1) (argBest bt k) with
    | true =>
      rw [if_pos rfl]
      refine ⟨Nat.le_refl _, fun j hj => ?_⟩
      by_cases e : j = k + 1
      · rw [e]; exact ir _
      · exact tr _ _ _ (h2 j (by omega)) (as _ _ hb)
    | false =>
      rw [if_neg Bool.false_ne_true]
      refine ⟨by omega, fun j hj => ?_⟩
      by_cases e : j = k + 1
      · rw [e]; exact hb
      · exact h2 j (by omega)
theorem lex2 (x1 y1 x2 y2 : Int) : HT.lexLt [x1, y1] [x2, y2] = decide (x1 < x2 ∨ (x1 = x2 ∧ y1 < y2)) := by
  rw [HT.lexLt_cons]
  by_cases h : x1 = x2
  · rw [if_pos h, HT.lexLt_cons]
    by_cases h2 : y1 = y2
    · rw [if_pos h2, HT.lexLt_nil_nil, decide_eq_false (by omega)]
    · rw [if_neg h2]
      by_cases h3 : y1 < y2
      · rw [decide_eq_true h3, decide_eq_true (by omega)]
      · rw [decide_eq_false h3, decide_eq_false (by omega)]
  · rw [if_neg h]
    by_cases h3 : x1 < x2
    · rw [decide_eq_true h3, decide_eq_true (by omega)]
    · rw [decide_eq_false h3, decide_eq_false (by omega)]
section
variable {X : Cx}
/-- min of a list of pairs of ints: one of them, none is less -/
def rMinP (K : PySem.W.Frag) : List V → Hp → VK → Prop := fun vs H Q => ∃ (a : Addr) (ps : List Addr) (xs : List (Int × Int)), vs = [.ref a] ∧ SqL K H a (ps.map V.ref) ∧ ps.length = xs.length ∧ 0 < xs.length ∧
  (∀ (i : Nat) (p : Addr) (x : Int × Int), ps[i]? = some p → xs[i]? = some x → SqT K H p [.int x.1, .int x.2]) ∧
  ∀ p x, SqT K H p [.int x.1, .int x.2] → x ∈ xs → (∀ y ∈ xs, ¬ (y.1 < x.1 ∨ (y.1 = x.1 ∧ y.2 < x.2))) → Q (.ref p) H
theorem cr_minP (hc : X.calm = true) (hu : X.A.units + 64 < cLine) : CallR X (.builtin "min") (rMinP X.K) := by
  intro pins s σ H vs us Q I r h
  obtain ⟨a, ps, xs, rfl, hS, hlen, hpos, hT, q⟩ := h
  obtain ⟨its, rv, hl, _⟩ := I.list hS
  rw [Vals.ref1 r]
  have hits : its = ps.map Value.ref := by
    have : ∀ {ps : List Addr} {its : List Value}, Vals (ps.map V.ref) its → its = ps.map Value.ref := by
      intro ps
      induction ps with
      | nil => intro its h; cases h; rfl
      | cons p t ih => intro its h; cases h with | cons r1 r2 => rw [show _ = Value.ref p from r1, ih r2]; rfl
    exact this rv
  have hlt : a < s.heap.objs.size := by obtain ⟨_, _, e, _⟩ := hl; exact Heap.lt_size e
  refine call_min_in (wpAny_pyIter_list hl.isList ?_)
  let g : Nat → Int × Int := fun i => xs[i]?.getD (0, 0)
  refine ⟨s.heap.objs.size, _, _, _, _, _, fun i j => HT.lexLt [(g i).1, (g i).2] [(g j).1, (g j).2], rfl, Walks.list (A := X.A.in1) (I.ok.hd hc) _ a (Nat.ne_of_lt hlt) its.toArray, ⟨⟨_, Heap.get?_push_size _ rfl, rfl, rfl⟩, hl.isList.push _⟩, ?_, ?_, ?_, ?_⟩
  · intro b hb
    show b < (s.heap.push _).objs.size
    rw [Heap.size_push]
    rcases List.mem_cons.mp hb with z | hb
    · rw [z]; exact Nat.lt_succ_self _
    · rw [List.mem_singleton.mp hb]; exact Nat.lt_succ_of_lt hlt
  · rw [hits]; simp; omega
  · have at_ : ∀ {i : Nat} {v : Value}, its.toArray[i]? = some v → ∃ p x, v = .ref p ∧ xs[i]? = some x ∧ SqT X.K H p [.int x.1, .int x.2] := by
      intro i v hv
      have hv : its[i]? = some v := by simpa using hv
      rw [hits, List.getElem?_map] at hv
      cases e : ps[i]? with
      | none => rw [e] at hv; cases hv
      | some p =>
        rw [e] at hv
        have hi : i < xs.length := by rw [← hlen]; exact (List.getElem?_eq_some_iff.mp e).1
        exact ⟨p, xs[i], (Option.some.inj hv).symm, List.getElem?_eq_getElem hi, hT i p _ e (List.getElem?_eq_getElem hi)⟩
    intro i j vi vj s' Q' E' h1 h2 k hq
    obtain ⟨p1, x1, rfl, e1, t1⟩ := at_ h1
    obtain ⟨p2, x2, rfl, e2, t2⟩ := at_ h2
    obtain ⟨i1, r1, u1, _⟩ := I.tuple t1
    obtain ⟨i2, r2, u2, _⟩ := I.tuple t2
    have up : ∀ b o, s.heap.get? b = some o → s'.heap.get? b = some o := fun b o e => by
      have hb := Heap.lt_size e
      refine k b o (fun z => by rw [List.mem_singleton.mp z] at hb; exact Nat.lt_irrefl _ hb) (fun z => ?_) (Heap.get?_push_of_some _ e)
      have z : b = s.heap.objs.size + 1 := by rw [z]; exact Heap.size_push ..
      rw [z] at hb
      exact absurd hb (Nat.not_lt.mpr (Nat.le_succ _))
    have f1 : g i = x1 := by show xs[i]?.getD (0, 0) = _; rw [e1]; rfl
    have f2 : g j = x2 := by show xs[j]?.getD (0, 0) = _; rw [e2]; rfl
    have keepT : ∀ {p : Addr} {its : Array Value}, IsTup s.heap p its → IsTup s'.heap p its := fun ⟨o, e, c⟩ => ⟨o, up _ _ e, c⟩
    exact HT.lt_tupInts (keepT u1) (keepT u2) (Vals.ints (ns := [x1.1, x1.2]) r1) (Vals.ints (ns := [x2.1, x2.2]) r2) (by show X.A.units + 1 < cLine; omega) (by rw [← f1, ← f2]; exact hq)
  · intro v h' tk hv hk
    have hsz : its.toArray.size = xs.length := by rw [hits]; simp; exact hlen
    have lx : ∀ i j, HT.lexLt [(g i).1, (g i).2] [(g j).1, (g j).2] = decide ((g i).1 < (g j).1 ∨ ((g i).1 = (g j).1 ∧ (g i).2 < (g j).2)) := fun i j => lex2 _ _ _ _
    obtain ⟨b1, b2⟩ := argBest_min (fun i j => HT.lexLt [(g i).1, (g i).2] [(g j).1, (g j).2]) (fun i j k h1 h2 => by
        rw [lx, decide_eq_false_iff_not] at h1 h2 ⊢; omega) (fun i j h => by
        rw [lx, decide_eq_true_eq] at h; rw [lx, decide_eq_false_iff_not]; omega) (fun i => by rw [lx, decide_eq_false_iff_not]; omega) (xs.length - 1)
    rw [hsz] at hv
    have hv : its[argBest (fun i j => HT.lexLt [(g i).1, (g i).2] [(g j).1, (g j).2]) (xs.length - 1)]? = some v := by simpa using hv
    generalize argBest (fun i j => HT.lexLt [(g i).1, (g i).2] [(g j).1, (g j).2]) (xs.length - 1) = m at hv b1 b2
    have hm : m < xs.length := by omega
    have em : xs[m]? = some xs[m] := List.getElem?_eq_getElem hm
    have eg : g m = xs[m] := by show xs[m]?.getD (0, 0) = _; rw [em]; rfl
    rw [hits, List.getElem?_map] at hv
    cases e : ps[m]? with
    | none => rw [e] at hv; cases hv
    | some p =>
      rw [e] at hv
      obtain rfl : v = Value.ref p := (Option.some.inj hv).symm
      have up : ∀ b o, s.heap.get? b = some o → h'.get? b = some o := fun b o e => hk b o (fun z => by have hb := Heap.lt_size e; rw [List.mem_singleton.mp z] at hb; exact Nat.lt_irrefl _ hb) (Heap.get?_push_of_some _ e)
      refine ⟨.ref p, H, I.kept up, rfl, q p xs[m] (hT m p _ e em) (List.getElem_mem hm) fun y hy => ?_⟩
      obtain ⟨j, hj, rfl⟩ := List.getElem_of_mem hy
      have := b2 j (by omega)
      rw [lx, decide_eq_false_iff_not] at this
      have eg2 : g j = xs[j] := by show xs[j]?.getD (0, 0) = _; rw [List.getElem?_eq_getElem hj]; rfl
      rw [eg, eg2] at this
      exact this
/-- list(range(..)) -/
def tLstRgN (te : L2.St → Hp → (Int → Int → Hp → Prop) → Prop) : TE := fun σ H Q => te σ H fun a b H1 => RgOk a b ∧ NewQ H1 (.lst (rgV a b)) Q
theorem pe_listRgN {e : Expr} {te : L2.St → Hp → (Int → Int → Hp → Prop) → Prop} {p pos : Pos} (hc : X.calm = true) (hg : Gl X "list") (hm : X.mg "list" = none) (he : PRg X e te) (na : starEach [e] X.env = (false, eval e X.env) :: starEach [] X.env := by rfl) :
    PE X (.Call (.Name "list" p) [e] [] pos) (tLstRgN te) := by
  refine ⟨fun pins s σ H Q I h => ?_⟩
  refine Call_ (ld_blt I hg hm boot_list (PyProof.Rows.callWith_type1 (args_cons (thn (he pins s σ H _ I h) fun x s1 hx => args_nil ?_) na) na))
  obtain ⟨r, a, b, t, u, v, H1, rfl, hr, I1, ⟨b1, b2, b3, b4, b5⟩, q⟩ := hx
  refine call_list_range (n := (b - a).toNat) (I1.ok.hd hc) hr (small_one b1 b2 b3 b4) (rangeSize_nat a b) b5 fun h' tk acc c' hk e' hi => ?_
  have ob : ObjOk X.prog X.w (upd H1 s1.heap.objs.size (.lst (rgV a b))) h' s1.heap.objs.size (.lst (rgV a b)) := ⟨by rw [rgV_length, sizeLine_eq]; omega, acc.toList, c', vals_rg hi, by rw [Array.toArray_toList]; exact e'⟩
  exact ⟨.ref s1.heap.objs.size, _, I1.laid hk (Nat.le_refl _) ob, rfl, q.use _ I1.fresh⟩
end
end Sv

set_option maxHeartbeats 4000000
namespace Sv
open PySem PySem.Spec PyProof.Rows L2 L2H HotX LamX
/-! ### the rules with the written part K told (so that a comprehension's reading is one for all its states) -/
section
variable {X : Cx} (K : PySem.W.Frag)
theorem ix_listK (h : X.K = K := by rfl) : IxR X (rIxL K) := h ▸ ix_list
theorem ix_tupK (h : X.K = K := by rfl) : IxR X (rIxT K) := h ▸ ix_tup
theorem op_in_seqK (h : X.K = K := by rfl) : OpR X (compareOp .In) (rIn K false) := h ▸ op_in_seq
theorem op_notIn_seqK (h : X.K = K := by rfl) : OpR X (compareOp .NotIn) (rIn K true) := h ▸ op_notIn_seq
def rLenS (K : PySem.W.Frag) : List V → Hp → VK → Prop := fun xs H Q => ∃ p ys, xs = [.ref p] ∧ (SqL K H p ys ∨ SqT K H p ys) ∧ Q (.int ys.length) H
theorem call_len_seqK (h : X.K = K := by rfl) : CallR X (.builtin "len") (rLenS K) := by subst h; exact call_len_seq
theorem op_eqAK (hu : X.A.units + 64 < cLine) (h : X.K = K := by rfl) : OpR X (compareOp .Eq) (rEqA K) := h ▸ op_eqA hu
theorem op_neAK (hu : X.A.units + 64 < cLine) (h : X.K = K := by rfl) : OpR X (compareOp .NotEq) (rNeA K) := h ▸ op_neA hu
theorem op_eqDK (hu : X.A.units + 64 < cLine) (h : X.K = K := by rfl) : OpR X (compareOp .Eq) (rEqD K) := h ▸ op_eqD hu
theorem op_neDK (hu : X.A.units + 64 < cLine) (h : X.K = K := by rfl) : OpR X (compareOp .NotEq) (rNeD K) := h ▸ op_neD hu
theorem call_isDK (h : X.K = K := by rfl) : CallR X (.builtin "isinstance") (rIsD K) := h ▸ call_isD
def rTupleN (K : PySem.W.Frag) : List V → Hp → VK → Prop := fun xs H Q => ∃ p ys, xs = [.ref p] ∧ SqL K H p ys ∧ NewQ H (.tup ys) Q
theorem call_tupleK (h : X.K = K := by rfl) : CallR X (.type "tuple") (rTupleN K) := by subst h; exact call_tupleN
def rListN (K : PySem.W.Frag) : List V → Hp → VK → Prop := fun xs H Q => ∃ p ys, xs = [.ref p] ∧ (SqL K H p ys ∨ SqT K H p ys) ∧ NewQ H (.lst ys) Q
theorem call_listK (h : X.K = K := by rfl) : CallR X (.type "list") (rListN K) := by subst h; exact call_listN
theorem sl_listK (h : X.K = K := by rfl) : SlR X (rSlLN K) := h ▸ sl_listN
/-- t + u of tuples -/
def rCatAN (K : PySem.W.Frag) : R2 := fun x y H Q => ∃ a b xs ys, x = .ref a ∧ y = .ref b ∧ SqT K H a xs ∧ SqT K H b ys ∧ xs.length + ys.length ≤ sizeLine ∧
  (∀ c H', Same H H' → SqT K H' c (xs ++ ys) → Q (.ref c) H')
theorem op_catAK (h : X.K = K := by rfl) : OpR X (binaryOp .Add) (rCatAN K) := by
  subst h
  refine OpR.imp op_catA fun x y H Q hh => ?_
  obtain ⟨a, b, xs, ys, e1, e2, h1, h2, h3, q⟩ := hh
  refine ⟨a, b, xs, ys, e1, e2, h1, h2, h3, fun e => ?_, fun _ e => ?_, fun _ _ p np => ?_⟩
  · subst e; exact q b H (Same.refl H) h2
  · subst e; exact q a H (Same.refl H) (by rw [List.append_nil]; exact h1)
  · exact q p _ (same_new np) (SqT.of upd_same)
/-- t[lo:hi] of a tuple -/
def rSlAN (K : PySem.W.Frag) : V → Option Int → Option Int → Hp → VK → Prop := fun x lo hi H Q => ∃ a xs, x = .ref a ∧ SqT K H a xs ∧ (∀ c H', Same H H' → SqT K H' c (cutV xs lo hi) → Q (.ref c) H')
theorem sl_tupK (h : X.K = K := by rfl) : SlR X (rSlAN K) := by
  subst h
  refine SlR.imp sl_tupA fun x lo hi H Q hh => ?_
  obtain ⟨a, xs, e1, h1, q⟩ := hh
  refine ⟨a, xs, e1, h1, fun e => ?_, fun _ p np => ?_⟩
  · refine q a H (Same.refl H) ?_
    have : cutV xs lo hi = xs := by
      unfold cutV
      rw [e.1, e.2, List.drop_zero, Nat.sub_zero, List.take_length]
    rw [this]; exact h1
  · exact q p _ (same_new np) (SqT.of upd_same)
theorem cr_anyK (hc : X.calm = true) (h : X.K = K := by rfl) : CallR X (.builtin "any") (rAny K) := h ▸ cr_any hc
theorem cr_allK (hc : X.calm = true) (h : X.K = K := by rfl) : CallR X (.builtin "all") (rAll K) := h ▸ cr_all hc
theorem cr_sumK (hc : X.calm = true) (h : X.K = K := by rfl) : CallR X (.builtin "sum") (rSum K) := h ▸ cr_sum hc
theorem cr_maxK (hc : X.calm = true) (h : X.K = K := by rfl) : CallR X (.builtin "max") (rMax K) := h ▸ cr_max hc
theorem cr_minK (hc : X.calm = true) (h : X.K = K := by rfl) : CallR X (.builtin "min") (rMin K) := h ▸ cr_min hc
theorem cr_minPK (hc : X.calm = true) (hu : X.A.units + 64 < cLine) (h : X.K = K := by rfl) : CallR X (.builtin "min") (rMinP K) := h ▸ cr_minP hc hu
theorem mt_indexK (h : X.K = K := by rfl) : MtR X "list.index" (rIndex K) := h ▸ mt_index
theorem pg_tupK {es : List Expr} {k : Nat} {t : TGs} {n : Nat} {pos : Pos} (hc : X.calm = true) (h : PGs X es t) (hn : (assignEach es X.env).length = n := by rfl) (hst : (assignEach es X.env).findIdx? (·.1) = none := by rfl) (he : X.K = K := by rfl) :
    PG X (.Tuple es k pos) (gTup K n t) := he ▸ pg_tup hc h hn hst
theorem pi_listK {tg l : Expr} {tl : TE} (hl : PE X l tl) (h : X.K = K := by rfl) : PI X tg l (iList K tl) := h ▸ pi_list hl
theorem pi_tupK {tg l : Expr} {tl : TE} (hl : PE X l tl) (h : X.K = K := by rfl) : PI X tg l (iTup K tl) := h ▸ pi_tup hl
theorem op_repTK (h : X.K = K := by rfl) : OpR X (binaryOp .Mult) (rRepT K) := h ▸ op_repT
/-! ### the law's own heap: tables of code objects beside the rest -/
theorem extN_ext {H H1 : Hp} (x : ExtN H H1) : Ext H H1 := ⟨fun b xs e => x b _ e (fun _ z => nomatch z), fun b o u e => x b _ e (fun _ z => nomatch z)⟩
theorem same_extN {H H1 : Hp} (x : Same H H1) : ExtN H H1 := fun b o e _ => x b o e
theorem tabs_keep {T : List (Addr × Str)} {H H' : Hp} {d : Addr} {xs : List V} (t : Tabs T H) (e : H d = some (.lst xs)) (k : ∀ b o, H b = some o → b ≠ d → H' b = some o) : Tabs T H' := fun p hp => by
  obtain ⟨ps, h1, h2, h3⟩ := t p hp
  refine ⟨ps, k _ _ h1 (ne_of h1 e fun z => nomatch z), h2, fun pos cv hc => ?_⟩
  obtain ⟨c, e1, e2⟩ := h3 pos cv hc
  exact ⟨c, e1, k _ _ e2 (ne_of e2 e fun z => nomatch z)⟩
/-- a list of ints against [] -/
theorem dpAll_intsL {H : Hp} : ∀ ns : List Int, DpAll K H (ns.map V.int) (ns.map PyData.int)
  | [] => .nil
  | n :: ns => .cons (.int n) (dpAll_intsL ns)
theorem lay_intsL : ∀ ns : List Int, PyData.canLayAll0 (ns.map PyData.int) = true
  | [] => rfl
  | n :: ns => by show (true && _) = true; rw [lay_intsL ns]; rfl
theorem depth_intsL : ∀ ns : List Int, PyData.depthAll (ns.map PyData.int) = 0
  | [] => rfl
  | n :: ns => by show max 0 _ = 0; rw [depth_intsL ns]; rfl
theorem shaped_intsL (ns : List Int) : SeqAt.shaped (.list (ns.map PyData.int)) = true := by
  unfold SeqAt.shaped
  rw [show PyData.canLay0 (.list (ns.map PyData.int)) = PyData.canLayAll0 (ns.map PyData.int) from rfl, lay_intsL, show PyData.depth (.list (ns.map PyData.int)) = PyData.depthAll (ns.map PyData.int) + 1 from rfl, depth_intsL]
  rfl
def rNeNil (K : PySem.W.Frag) : R2 := fun x y H Q => ∃ a b ns, x = .ref a ∧ y = .ref b ∧ SqL K H a (ns.map V.int) ∧ SqL K H b [] ∧ (ns = [] → Q (.bl false) H) ∧ (ns ≠ [] → Q (.bl true) H)
theorem op_neNilK (hu : X.A.units + 64 < cLine) (h : X.K = K := by rfl) : OpR X (compareOp .NotEq) (rNeNil K) := OpR.imp (op_neDK K hu h) fun x y H Q h => by
  obtain ⟨a, b, ns, rfl, rfl, h1, h2, q1, q2⟩ := h
  refine ⟨.list (ns.map PyData.int), .list [], .lst h1 (dpAll_intsL K ns), .lst h2 .nil, shaped_intsL ns, rfl, ?_⟩
  cases ns with
  | nil => exact q1 rfl
  | cons n t => exact q2 (fun z => nomatch z)
/-- a cut between two statements: what holds there is chosen -/
def tCut (t u : TS) : TS := fun D σ H => ∃ J : L2.St → Hp → Prop, t { D with nx := J } σ H ∧ ∀ σ' H', J σ' H' → u D σ' H'
theorem pss_cut {st : Stmt} {rest : List Stmt} {t u : TS} (h1 : PS X st t) (h2 : PSs X rest u) : PSs X (st :: rest) (tCut t u) := by
  refine ⟨fun pins s σ H D I h => ?_⟩
  obtain ⟨J, h, hJ⟩ := h
  refine wpAny_execs_cons (thn (h1.run pins s σ H { D with nx := J } I h) fun f s1 q => ?_)
  cases f with
  | next =>
    obtain ⟨σ', H', I', q⟩ := q
    exact h2.run pins s1 σ' H' D I' (hJ _ _ q)
  | ret v => exact q
  | brk => exact q
  | cont => exact q
end
end Sv

set_option maxHeartbeats 4000000
/-! ### enumerate over a tuple, over a text -/
namespace Sv
open PySem PySem.Spec PyProof.Rows L2 L2H HotX LamX
open Sem (wp)
open AutoSeq1 (wpAny_loadPart')
section
variable {prog : Program} {w : World} {A : Around} {E : Value → Shared → Prop} {s : Shared}
theorem nextOf_tuple_item {it t : Addr} {i : Nat} {items} {x : Value} {Q : Value → Shared → Prop} (hit : s.heap.IsTupleIter it t i) (ht : s.heap.IsTuple t items) (hx : items[i]? = some x)
    (hQ : ∀ h', h'.IsTupleIter it t (i + 1) → Heap.SameBut it s.heap h' → Q x { s with heap := h' }) :
    wpAny (model prog w) A (Builtin.SmallTypes.nextOf (.ref it)) Q E s := by
  obtain ⟨o, ho, hc, hd⟩ := id hit
  obtain ⟨ol, hol, _, nl, hdl⟩ := ht
  unfold Builtin.SmallTypes.nextOf
  refine wpAny_bind (wpAny_callSpecial?_slot (name := Str.ofString "__next__") hit.typeIs F.slot_tuple_iterator_next
    (wpAny_call_entry F.slot_tuple_iterator_next hit.typeIs F.entry_tuple_iterator_next ?_ (F.args_tuple_iterator_next_1 _)))
  show wpAny _ _ (field (.ref it) 0 >>= _) _ _ s
  refine wpAny_bind (wpAny_field ho hd (x := .ref t) rfl ?_)
  show wpAny _ _ (if (Value.ref t == Value.none) = true then _ else _) _ _ s
  rw [if_neg (show ¬ ((Value.ref t == Value.none) = true) from Bool.false_ne_true)]
  show wpAny _ _ (field (.ref it) 1 >>= _) _ _ s
  refine wpAny_bind (wpAny_field ho hd (x := .int i 0) rfl ?_)
  show wpAny _ _ (seqItems? (.ref t) >>= _) _ _ s
  refine wpAny_bind (wpAny_seqItems hol hdl ?_)
  simp only [Int.toNat_natCast, hx]
  refine wpAny_bind (wpAny_setField ho hd (by simp) (wpAny_pure ⟨x, rfl, wpAny_pure (hQ _ ?_ (Heap.SameBut.update ..))⟩))
  exact ⟨_, Heap.get?_update_self _ ho (Obj.isFreed_of_fields (Obj.data_mapFields hd _)), (Obj.cls_mapFields ..).trans hc, by
    rw [Obj.data_mapFields hd]; simp [rawInt]⟩
theorem nextOf_tuple_end {it t : Addr} {i : Nat} {items} {Q : Value → Shared → Prop} (hh : A.handled = none) (hit : s.heap.IsTupleIter it t i) (ht : s.heap.IsTuple t items) (hx : items[i]? = none)
    (hE : ∀ h' e, Heap.ExtBut it s.heap h' → (∃ o, h'.get? e = some o ∧ o.cls = .type "StopIteration") → E (.ref e) { s with heap := h' }) :
    wpAny (model prog w) A (Builtin.SmallTypes.nextOf (.ref it)) Q E s := by
  obtain ⟨o, ho, hc, hd⟩ := id hit
  obtain ⟨ol, hol, _, nl, hdl⟩ := ht
  unfold Builtin.SmallTypes.nextOf
  refine wpAny_bind (wpAny_callSpecial?_slot (name := Str.ofString "__next__") hit.typeIs F.slot_tuple_iterator_next
    (wpAny_call_entry F.slot_tuple_iterator_next hit.typeIs F.entry_tuple_iterator_next ?_ (F.args_tuple_iterator_next_1 _)))
  show wpAny _ _ (field (.ref it) 0 >>= _) _ _ s
  refine wpAny_bind (wpAny_field ho hd (x := .ref t) rfl ?_)
  show wpAny _ _ (if (Value.ref t == Value.none) = true then _ else _) _ _ s
  rw [if_neg (show ¬ ((Value.ref t == Value.none) = true) from Bool.false_ne_true)]
  show wpAny _ _ (field (.ref it) 1 >>= _) _ _ s
  refine wpAny_bind (wpAny_field ho hd (x := .int i 0) rfl ?_)
  show wpAny _ _ (seqItems? (.ref t) >>= _) _ _ s
  refine wpAny_bind (wpAny_seqItems hol hdl ?_)
  simp only [Int.toNat_natCast, hx]
  refine wpAny_bind (wpAny_rule (wpAny_bind (wpAny_setField ho hd (by simp) ?_)))
  show wpAny _ _ (newExc (.type "StopIteration") [] >>= _) _ _ _
  refine wpAny_bind ?_
  simp only [newExc, newTuple]
  refine wpAny_bind (wpAny_newObj_type ?_ (by size_fits))
  refine wpAny_bind (m := firstArgMember _ _) (wpAny_of_eq (a := Value.none) (by first | rfl | (simp only [firstArgMember]; rfl)) ?_)
  refine wpAny_newObj_type ?_ (by size_fits)
  simp only [raiseNew]
  refine wpAny_bind (wpAny_handled ?_)
  first | rw [show A.in1.handled = none from hh] | rw [hh]
  refine wpAny_bind (wpAny_pure (wpAny_throw ?_))
  exact hE _ _ (((Heap.SameBut.update ..).extBut.push _).push _) ⟨_, Heap.get?_push_size _ rfl, rfl⟩
end
theorem drawsT {prog : Program} {w : World} {A : Around} (hh : A.handled = none) (it l : Addr) (hne : l ≠ it) (items : Array Value) :
    Draws prog w A it [it, l] items.size (fun i v => items[i]? = some v) (fun i h => h.IsTupleIter it l i ∧ h.IsTuple l items) where
  live := fun _ _ st => let ⟨o, ho, _⟩ := st.1; ⟨o, ho⟩
  frame := fun _ _ _ st hk => ⟨let ⟨o, ho, r⟩ := st.1; ⟨o, hk it (by simp) o ho, r⟩, let ⟨o, ho, r⟩ := st.2; ⟨o, hk l (by simp) o ho, r⟩⟩
  item := fun i s Q E hi st hQ => by
    refine nextOf_tuple_item st.1 st.2 (x := items[i]) (by simp [hi]) fun h' hit' hs' => ?_
    exact hQ _ h' s.toks (by simp [hi]) ⟨hit', st.2.extBut hs'.extBut hne⟩ hs'
  done := fun s Q E st hE => nextOf_tuple_end hh st.1 st.2 (by simp) hE
theorem meets_enumT (l : Addr) (items : Array Value) (n : Nat) (dct : Option Addr) (sl : Array (Option Value)) :
    Meets (Builtin.«enumerate.__new__» ⟨[.type "enumerate", .ref l], []⟩) (fun _ R s => s.heap.get? l = some { cls := .type "tuple", dict := dct, data := .seq items n, slots := sl } ∧
      R (.ok (.ret (.ref (s.heap.push { cls := .type "tuple_iterator", data := .fields #[.ref l, .int 0 0] }).objs.size)))
        { s with heap := (s.heap.push { cls := .type "tuple_iterator", data := .fields #[.ref l, .int 0 0] }).push { cls := .type "enumerate", data := .fields #[.none, .bool false, .ref s.heap.objs.size, rawInt 0, .none, .none] } }) :=
  .of_wp fun prog w A R s h => by
    obtain ⟨hp, g, d, tk, os⟩ := s; obtain ⟨hl, h⟩ := h
    have hsub := sub_enumerate
    have hL : Heap.IsTuple (Shared.heap ⟨hp, g, d, tk, os⟩) l items := ⟨_, hl, rfl, n, rfl⟩
    wp_walk using wpAny_loadPart' hl
    refine wpAny_stack_any fun st => wpAny_pure ?_
    split
    · rename_i c _ _ _ _ _
      cases (c == Value.type "enumerate")
      · wp_walk using wpAny_loadPart' hl, wpAny_pyIter_tuple hL
        exact ⟨_, rfl, h⟩
      · wp_walk using wpAny_loadPart' hl, wpAny_pyIter_tuple hL
        exact ⟨_, rfl, h⟩
    · wp_walk using wpAny_loadPart' hl, wpAny_pyIter_tuple hL
      exact ⟨_, rfl, h⟩
section
variable {prog : Program} {w : World} {A : Around} {E : Value → Shared → Prop} {s : Shared}
theorem call_enumT {l : Addr} {items : Array Value} {Q : Value → Shared → Prop} (hL : s.heap.IsTuple l items)
    (h : ∀ h', IsEnum h' (s.heap.objs.size + 1) s.heap.objs.size 0 .none → h'.IsTupleIter s.heap.objs.size l 0 → h'.objs.size = s.heap.objs.size + 2 →
      (∀ b o, s.heap.get? b = some o → h'.get? b = some o) → Q (.ref (s.heap.objs.size + 1)) { s with heap := h' }) :
    wpAny (model prog w) A (call (.type "enumerate") [.ref l]) Q E s := by
  obtain ⟨⟨c, dct, dt, sl⟩, hl, hc, n, hd⟩ := hL
  replace hc : c = .type "tuple" := hc
  replace hd : dt = .seq items n := hd
  subst hc hd
  refine callType_new F.called_enumerate (by decide) (F.typeCall_enumerate_1 _) (F.newCall_enumerate_1 _) (fun obj => F.args_object_init_2 obj _) F.entry_enumerate_new
    (meets_enumT l items n dct sl) ⟨hl, ?_⟩
  have hz : (s.heap.push { cls := .type "tuple_iterator", data := .fields #[.ref l, .int 0 0] }).objs.size = s.heap.objs.size + 1 := Heap.size_push ..
  show _ ∧ _
  rw [hz]
  have he : IsEnum ((s.heap.push { cls := .type "tuple_iterator", data := .fields #[.ref l, .int 0 0] }).push
      { cls := .type "enumerate", data := .fields #[.none, .bool false, .ref s.heap.objs.size, rawInt 0, .none, .none] }) (s.heap.objs.size + 1) s.heap.objs.size 0 .none := by
    have := Heap.get?_push_size (s.heap.push { cls := .type "tuple_iterator", data := .fields #[.ref l, .int 0 0] })
      (o := { cls := .type "enumerate", data := .fields #[.none, .bool false, .ref s.heap.objs.size, rawInt 0, .none, .none] }) rfl
    rw [hz] at this; exact this
  refine ⟨⟨_, he, rfl⟩, h _ he ⟨_, Heap.get?_push_of_some _ (Heap.get?_push_size _ rfl), rfl, rfl⟩ (by rw [Heap.size_push, hz]) fun b o x => Heap.get?_push_of_some _ (Heap.get?_push_of_some _ x)⟩
end
/-- the pairs (i, the i-th item) while what stands is as S says; any inner iterator -/
theorem turn_enumD {P : Program} {w : World} {K : PySem.W.Frag} {elts : List Expr} {kk : Nat} {tpos : Pos} {J : It} {e it : Addr} {tn : Nat → Heap → Prop} (at_ : Nat → Hp → V → Prop) (len : Hp → Nat → Prop)
    (hJg : J.go = fun i H => ∃ n, len H n ∧ i < n) (hJy : J.yld = fun i H v H' => ∃ T x, v = .ref T ∧ H T = none ∧ H' = upd H T (.tup [.int (i : Nat), x]) ∧ at_ i H x) (hJs : J.stop = fun i H => len H i)
    (obj : ∀ i h, tn i h → ∃ o, h.get? it = some o ∧ ∀ v, o.data ≠ .cell v) (keep : ∀ i h h', tn i h → (∀ o, h.get? it = some o → h'.get? it = some o) → tn i h')
    (D : ∀ (X : Cx) (pins : List (Addr × Obj)) (s : Shared) (σ : L2.St) (H : Hp) (n : Nat), X.prog = P → X.w = w → X.K = K → X.A.handled = none → Inv X pins σ H s → len H n → ∃ (fp : List Addr) (Pv : Nat → Value → Prop) (St : Nat → Heap → Prop), Draws P w X.A.in1 it fp n Pv St ∧ (∀ i, tn i s.heap → St i s.heap) ∧ (∀ i h, St i h → tn i h) ∧
      (∀ b ∈ fp, b ≠ it → ∃ o, s.heap.get? b = some o ∧ o.cls ≠ .type "enumerate") ∧ ∀ i u, i < n → Pv i u → ∃ x, at_ i H x ∧ RelV x u) :
    Turn P w K (.Tuple elts kk tpos) J [e, it] e (fun i h => (∃ old, IsEnum h e it ((i : Nat) : Int) old) ∧ tn i h ∧ e ≠ it) where
  mem := by simp
  obj := fun i h st b hb => by
    obtain ⟨⟨old, he⟩, ht, _⟩ := st
    have e' : b = e ∨ b = it := by simpa using hb
    rcases e' with z | z
    · rw [z]; exact ⟨_, he, fun v q => nomatch q⟩
    · rw [z]; exact obj i h ht
  keep := fun i h h' st k => let ⟨⟨old, he⟩, hi, hne⟩ := st; ⟨⟨old, k e (by simp) _ he⟩, keep i h h' hi fun o q => k it (by simp) o q, hne⟩
  item := by
    intro X hP hw hK hc i pins s σ H E I hf st hg
    obtain ⟨⟨old, he⟩, hit, hne⟩ := st
    rw [hJg] at hg
    obtain ⟨n, hlen, hin⟩ := hg
    obtain ⟨fp, Pv, St, DD, h1, h2, h3, h4⟩ := D X pins s σ H n hP hw hK (I.ok.hd hc) I hlen
    subst hP hw hK
    have hef : e ∉ fp := fun z => by
      obtain ⟨o, eo, hcls⟩ := h3 e z hne
      rw [show s.heap.get? e = _ from he] at eo
      cases eo
      exact hcls rfl
    have hel : e < s.heap.objs.size := Heap.lt_size he
    have hil : it < s.heap.objs.size := by obtain ⟨_, q, _⟩ := obj i s.heap hit; exact Heap.lt_size q
    refine wpAny_pyNext_enum_itemD DD he (h1 i hit) hin hne hef fun u h' tk hPu ho hit' hT hsz hk => ?_
    obtain ⟨x, hx, ru⟩ := h4 i u hin hPu
    refine ⟨_, rfl, wpAny_letOwnedTupleGo_enum (s := { s with heap := h', toks := tk + 1 }) ho fun h'' he' sb => ?_⟩
    have hT2 : h''.get? s.heap.objs.size = some { cls := .type "tuple", data := .seq #[.int i tk, u] } := (sb.2 _ (Nat.ne_of_gt hel)).trans hT
    have new : ObjOk X.prog X.w (upd H s.heap.objs.size (.tup [.int (i : Nat), x])) h'' s.heap.objs.size (.tup [.int (i : Nat), x]) :=
      ⟨by show 2 ≤ sizeLine; decide, [.int i tk, u], .cons ⟨_, rfl⟩ (.cons ru .nil), ⟨_, hT2, rfl, _, rfl⟩⟩
    have I1 : Inv X pins σ (upd H s.heap.objs.size (.tup [.int (i : Nat), x])) { s with heap := h'', toks := tk + 1 } :=
      I.turnedNew (ch := [e, it]) (fun b ob hb q => (sb.2 b (fun z => hb (by simp [z]))).trans (hk b ob (fun z => hb (by simp [z])) (fun z => hb (by simp [z])) q)) hf (Nat.le_refl _) new
    refine ⟨.ref s.heap.objs.size, _, I1, rfl, ?_, ⟨⟨u, ?_⟩, keep _ _ _ (h2 _ _ hit') fun o q => (sb.2 it (Ne.symm hne)).trans q, hne⟩, fun b hb => ?_⟩
    · rw [hJy]
      exact ⟨_, x, rfl, I.hok.fresh (Nat.le_refl _), rfl, hx⟩
    · have e1 : ((i + 1 : Nat) : Int) = (i : Int) + 1 := by omega
      rw [e1]; exact he'
    · have hb' : b < s.heap.objs.size := by
        have e' : b = e ∨ b = it := by simpa using hb
        rcases e' with z | z
        · rw [z]; exact hel
        · rw [z]; exact hil
      rw [upd_ne (Nat.ne_of_lt hb')]
      exact (hf b hb).1
  done := by
    intro X hP hw hK hc i pins s σ H E I hf st hg
    obtain ⟨⟨old, he⟩, hit, hne⟩ := st
    rw [hJs] at hg
    obtain ⟨fp, Pv, St, DD, h1, h2, h3, h4⟩ := D X pins s σ H i hP hw hK (I.ok.hd hc) I hg
    subst hP hw hK
    obtain ⟨f0, f1, f2, f3, f4, f5⟩ := hf it (by simp)
    exact wpAny_pyNext_enum_endD DD he (h1 i hit) fun h' eb => ⟨rfl, I.turned (t' := s.toks) (fun b o hb q => eb b o hb q) f0 f1 f3 f4 f5⟩
  self := fun A i s Q E st h => let ⟨⟨_, he⟩, _⟩ := st; wpAny_pyIter_enum he h
/-- a tuple's items in new pairs -/
def atT (K : PySem.W.Frag) (a : Addr) (i : Nat) (H : Hp) (x : V) : Prop := ∀ xs, SqT K H a xs → xs[i]? = some x
def IteT (K : PySem.W.Frag) (a : Addr) : It :=
  ⟨fun i H => ∃ n, (∃ xs : List V, SqT K H a xs ∧ xs.length = n) ∧ i < n, fun i H v H' => ∃ T x, v = .ref T ∧ H T = none ∧ H' = upd H T (.tup [.int (i : Nat), x]) ∧ atT K a i H x, fun i H => ∃ xs : List V, SqT K H a xs ∧ xs.length = i⟩
theorem turn_enumT {P : Program} {w : World} {K : PySem.W.Frag} {elts : List Expr} {kk : Nat} {tpos : Pos} (a e it : Addr) (hai : a ≠ it) :
    Turn P w K (.Tuple elts kk tpos) (IteT K a) [e, it] e (fun i h => (∃ old, IsEnum h e it ((i : Nat) : Int) old) ∧ h.IsTupleIter it a i ∧ e ≠ it) := by
  refine turn_enumD (atT K a) (fun H n => ∃ xs : List V, SqT K H a xs ∧ xs.length = n) rfl rfl rfl (fun i h st => ?_) (fun i h h' st k => ?_) fun X pins s σ H n hP hw hK hh I hl => ?_
  · obtain ⟨o, ho, _, hd⟩ := st
    exact ⟨o, ho, fun v z => by rw [hd] at z; cases z⟩
  · obtain ⟨o, ho, r⟩ := st
    exact ⟨o, k o ho, r⟩
  · obtain ⟨xs, hq, rfl⟩ := hl
    subst hP hw hK
    obtain ⟨its, rv, p, hz⟩ := I.tuple hq
    have hl2 := rv.length
    have hsz : its.toArray.size = xs.length := by simp; omega
    have DD := drawsT (prog := X.prog) (w := X.w) (A := X.A.in1) hh it a hai its.toArray
    rw [hsz] at DD
    refine ⟨_, _, _, DD, fun i t => ⟨t, p⟩, fun i h t => t.1, fun b hb hbi => ?_, fun i u hi hu => ?_⟩
    · have : b = it ∨ b = a := by simpa using hb
      rcases this with z | z
      · exact absurd z hbi
      · obtain ⟨o, ho, hc, _⟩ := p
        exact ⟨o, by rw [z]; exact ho, by rw [hc]; exact fun q => absurd (Value.type.inj q) (by decide)⟩
    · have hu : its.toArray[i]? = some u := hu
      have hu' : its[i]? = some u := by simpa using hu
      obtain ⟨x, hx⟩ : ∃ x, xs[i]? = some x := ⟨xs[i], List.getElem?_eq_getElem hi⟩
      obtain ⟨u', hu2, ru⟩ := rv.get hx
      rw [hu'] at hu2
      cases hu2
      exact ⟨x, fun ys hy => by rw [I.tuple_inj hy hq]; exact hx, ru⟩
def iEnumT (K : PySem.W.Frag) (ta : TA) : TI := fun σ H R => ta σ H fun vs H1 => ∃ a xs, vs = [.ref a] ∧ SqT K H1 a xs ∧ R (IteT K a) H1
theorem pi_enumT (K : PySem.W.Frag) {X : Cx} {e : Expr} {ta : TA} {p pos tpos : Pos} {elts : List Expr} {kk : Nat} (hg : Gl X "enumerate") (hm : X.mg "enumerate" = none) (ha : PA X [e] ta) (hK : X.K = K := by rfl) (hs : starEach [e] X.env = [(false, eval e X.env)] := by rfl) :
    PI X (.Tuple elts kk tpos) (.Call (.Name "enumerate" p) [e] [] pos) (iEnumT K ta) := by
  subst hK
  refine ⟨fun pins s σ H R I h => ?_⟩
  refine Call_ (ld_blt I hg hm boot_enumerate (PyProof.Rows.callWith_type1 (thn (ha.run pos pins s σ H _ I h) fun us s1 ⟨vs, H1, I1, r1, q1⟩ => ?_) hs rfl))
  obtain ⟨a, xs, ex, hq, q⟩ := q1
  subst ex
  cases r1 with
  | cons r rr =>
    cases rr
    cases r
    obtain ⟨its, rv, p', hz⟩ := I1.tuple hq
    have hal : a < s1.heap.objs.size := by obtain ⟨o, ho, _⟩ := p'; exact Heap.lt_size ho
    refine call_enumT p' fun h' he hit hsz hk => wpAny_pyIter_enum he ?_
    have I2 : Inv X pins σ H1 { s1 with heap := h' } := I1.kept (t' := s1.toks) hk
    refine ⟨s1.heap.objs.size + 1, [s1.heap.objs.size + 1, s1.heap.objs.size], _, _, H1, rfl, I2, turn_enumT a (s1.heap.objs.size + 1) s1.heap.objs.size (Nat.ne_of_lt hal), ⟨⟨.none, he⟩, hit, Nat.succ_ne_self _⟩, fun b hb => ?_, q⟩
    have e' : b = s1.heap.objs.size + 1 ∨ b = s1.heap.objs.size := by simpa using hb
    have hle : s1.heap.objs.size ≤ b := by
      rcases e' with z | z
      · rw [z]; exact Nat.le_add_right _ _
      · rw [z]; exact Nat.le_refl _
    exact I1.fpOk hle (I1.hok.fresh hle)
/-- a text's signs in new pairs -/
def atS (x : Str) (i : Nat) (_ : Hp) (v : V) : Prop := ∃ c, x.cps[i]? = some c ∧ v = .str ⟨#[c]⟩
def IteS (x : Str) : It :=
  ⟨fun i H => ∃ n, x.cps.size = n ∧ i < n, fun i H v H' => ∃ T y, v = .ref T ∧ H T = none ∧ H' = upd H T (.tup [.int (i : Nat), y]) ∧ atS x i H y, fun i H => x.cps.size = i⟩
theorem turn_enumS {P : Program} {w : World} {K : PySem.W.Frag} {elts : List Expr} {kk : Nat} {tpos : Pos} (x : Str) (t : Tok) (e it : Addr) :
    Turn P w K (.Tuple elts kk tpos) (IteS x) [e, it] e (fun i h => (∃ old, IsEnum h e it ((i : Nat) : Int) old) ∧ h.IsStrIter it (strIterType x) x t i ∧ e ≠ it) := by
  refine turn_enumD (atS x) (fun H n => x.cps.size = n) rfl rfl rfl (fun i h st => ?_) (fun i h h' st k => ?_) fun X pins s σ H n hP hw hK hh I hl => ?_
  · obtain ⟨o, ho, _, hd⟩ := st
    exact ⟨o, ho, fun v z => by rw [hd] at z; cases z⟩
  · obtain ⟨o, ho, r⟩ := st
    exact ⟨o, k o ho, r⟩
  · subst hl
    have DD : ∃ (fp : List Addr), fp = [it] ∧ Draws P w X.A.in1 it fp x.cps.size (fun i v => ∃ c u, x.cps[i]? = some c ∧ v = .str ⟨#[c]⟩ u) (fun i h => h.IsStrIter it (strIterType x) x t i) := by
      refine ⟨_, rfl, ?_⟩
      cases ha : x.cps.all (· < 128)
      · rw [show strIterType x = "str_iterator" by simp [strIterType, ha]]
        exact Draws.strWide (A := X.A.in1) hh it x t
      · rw [show strIterType x = "str_ascii_iterator" by simp [strIterType, ha]]
        exact Draws.strAscii (A := X.A.in1) hh it x t
    obtain ⟨fp, rfl, DD⟩ := DD
    refine ⟨_, _, _, DD, fun i t => t, fun i h t => t, fun b hb hbi => absurd (List.mem_singleton.mp hb) hbi, fun i u hi hu => ?_⟩
    obtain ⟨c, t', hc, rfl⟩ := hu
    exact ⟨.str ⟨#[c]⟩, ⟨c, hc, rfl⟩, ⟨t', rfl⟩⟩
def iEnumS (ta : TA) : TI := fun σ H R => ta σ H fun vs H1 => ∃ x, vs = [.str x] ∧ R (IteS x) H1
theorem pi_enumS {X : Cx} {e : Expr} {ta : TA} {p pos tpos : Pos} {elts : List Expr} {kk : Nat} (hg : Gl X "enumerate") (hm : X.mg "enumerate" = none) (ha : PA X [e] ta) (hs : starEach [e] X.env = [(false, eval e X.env)] := by rfl) :
    PI X (.Tuple elts kk tpos) (.Call (.Name "enumerate" p) [e] [] pos) (iEnumS ta) := by
  refine ⟨fun pins s σ H R I h => ?_⟩
  refine Call_ (ld_blt I hg hm boot_enumerate (PyProof.Rows.callWith_type1 (thn (ha.run pos pins s σ H _ I h) fun us s1 ⟨vs, H1, I1, r1, q1⟩ => ?_) hs rfl))
  obtain ⟨x, ex, q⟩ := q1
  subst ex
  cases r1 with
  | cons r rr =>
    cases rr
    obtain ⟨t, rfl⟩ := r
    refine call_enumerate_str fun h' he hit hsz hk => wpAny_pyIter_enum he ?_
    have I2 : Inv X pins σ H1 { s1 with heap := h' } := I1.kept (t' := s1.toks) hk
    refine ⟨s1.heap.objs.size + 1, [s1.heap.objs.size + 1, s1.heap.objs.size], _, _, H1, rfl, I2, turn_enumS x t (s1.heap.objs.size + 1) s1.heap.objs.size, ⟨⟨.none, he⟩, hit, Nat.succ_ne_self _⟩, fun b hb => ?_, q⟩
    have e' : b = s1.heap.objs.size + 1 ∨ b = s1.heap.objs.size := by simpa using hb
    have hle : s1.heap.objs.size ≤ b := by
      rcases e' with z | z
      · rw [z]; exact Nat.le_add_right _ _
      · rw [z]; exact Nat.le_refl _
    exact I1.fpOk hle (I1.hok.fresh hle)
theorem walk_enumT {K : PySem.W.Frag} {a : Addr} {xs : List V} : Walk (IteT K a) xs.length (fun H => SqT K H a xs) (fun i H v H' => ∃ T x, v = .ref T ∧ H T = none ∧ Same H H' ∧ H' T = some (.tup [.int (i : Nat), x]) ∧ xs[i]? = some x) := by
  refine ⟨fun i H hi q => ⟨_, ⟨xs, q, rfl⟩, hi⟩, fun _ q => ⟨xs, q, rfl⟩, fun i H v H' _ q y => ?_⟩
  · obtain ⟨T, x, h1, h2, h3, h4⟩ := y
    exact ⟨T, x, h1, h2, by rw [h3]; exact same_new h2, by rw [h3]; exact upd_same, h4 xs q⟩
theorem walk_enumS {x : Str} : Walk (IteS x) x.cps.size (fun _ => True) (fun i H v H' => ∃ T c, v = .ref T ∧ H T = none ∧ Same H H' ∧ H' T = some (.tup [.int (i : Nat), .str ⟨#[c]⟩]) ∧ x.cps[i]? = some c) := by
  refine ⟨fun i H hi q => ⟨_, rfl, hi⟩, fun _ q => rfl, fun i H v H' _ q y => ?_⟩
  obtain ⟨T, y, h1, h2, h3, c, h4, rfl⟩ := y
  exact ⟨T, c, h1, h2, by rw [h3]; exact same_new h2, by rw [h3]; exact upd_same, h4⟩
theorem walk_enumL {K : PySem.W.Frag} {a : Addr} {xs : List V} : Walk (Ite K a) xs.length (fun H => SqL K H a xs) (fun i H v H' => ∃ T x, v = .ref T ∧ H T = none ∧ Same H H' ∧ H' T = some (.tup [.int (i : Nat), x]) ∧ xs[i]? = some x) := by
  refine walk_enum.mono (fun _ q => q) fun i H v H' _ _ y => ?_
  obtain ⟨T, x, y, h1, h2, h3, h4, h5⟩ := y
  cases h4
  exact ⟨T, y, h1, h2, by rw [h3]; exact same_new h2, by rw [h3]; exact upd_same, h5⟩
theorem pi_enumL (K : PySem.W.Frag) {X : Cx} {e : Expr} {ta : TA} {p pos tpos : Pos} {elts : List Expr} {kk : Nat} (hg : Gl X "enumerate") (hm : X.mg "enumerate" = none) (ha : PA X [e] ta) (hK : X.K = K := by rfl) (hs : starEach [e] X.env = [(false, eval e X.env)] := by rfl) :
    PI X (.Tuple elts kk tpos) (.Call (.Name "enumerate" p) [e] [] pos) (iEnum K ta) := hK ▸ pi_enum hg hm ha hs
end Sv

set_option maxHeartbeats 4000000
/-! ### dicts with ints and texts for keys -/
namespace Sv
open PySem PySem.Spec PyProof.Rows L2 L2H HotX LamX
section
variable {X : Cx}
def rDIn (neg : Bool) : R2 := fun x y H Q => ∃ a o, y = .ref a ∧ DGet H a x o ∧ Q (.bl (if neg then !o.isSome else o.isSome)) H
theorem op_din (hu : X.A.units + 1 < cLine) : OpR X (compareOp .In) (rDIn false) := by
  intro pins s σ H x y v u Q I rx ry h
  obtain ⟨a, o, rfl, g, q⟩ := h
  cases ry
  exact d_in hu I g rx fun s3 I3 => ⟨.bl o.isSome, H, I3, rfl, q⟩
theorem op_dnotin (hu : X.A.units + 1 < cLine) : OpR X (compareOp .NotIn) (rDIn true) := by
  intro pins s σ H x y v u Q I rx ry h
  obtain ⟨a, o, rfl, g, q⟩ := h
  cases ry
  exact d_notIn hu I g rx fun s3 I3 => ⟨.bl (!o.isSome), H, I3, rfl, q⟩
end
theorem same_put {H H1 : Hp} (s : Same H H1) {a : Addr} {o : HO} (n : H a = none) : Same H (upd H1 a o) := fun b u e => by
  rw [upd_ne (ne_of_none e n)]; exact s b u e
end Sv

set_option maxHeartbeats 4000000
/-! ### texts; statements that let no exception out -/
namespace Sv
open PySem PySem.Spec PyProof.Rows L2 L2H HotX LamX
section
variable {X : Cx}
theorem psNox {st : Stmt} {t : TS} (h : PS X.nox st t) : PS X st t := ⟨fun pins s σ H D I hw => wpAny_mono (h.run pins s σ H D (I.wish _) hw) (fun _ _ q => q.unwish) fun _ _ z => False.elim z⟩
def repS (z : Str) (n : Nat) : Str := ⟨(List.replicate n z.cps).foldl (· ++ ·) #[]⟩
theorem foldl_size (l : List (Array Nat)) (m k : Nat) (h : ∀ a ∈ l, a.size = k) (acc : Array Nat) (ha : acc.size = m) : (l.foldl (· ++ ·) acc).size = m + l.length * k := by
  induction l generalizing acc m with
  | nil => simp [ha]
  | cons a l ih =>
    rw [List.foldl_cons, ih (m + k) (fun b hb => h b (List.mem_cons_of_mem _ hb)) (acc ++ a) (by rw [Array.size_append, ha, h a (List.mem_cons_self ..)]), List.length_cons, Nat.add_mul]
    omega
theorem repS_len (z : Str) (n : Nat) : (repS z n).length = n * z.length := by
  show ((List.replicate n z.cps).foldl (· ++ ·) #[]).size = _
  rw [foldl_size _ 0 z.cps.size (fun a ha => by rw [List.eq_of_mem_replicate ha]) #[] rfl, List.length_replicate, Nat.zero_add]
  rfl
theorem op_mul_str : OpR X (binaryOp .Mult) (fun x y H Q => ∃ (z : Str) (n : Nat), x = .str z ∧ y = .int (n : Int) ∧ 2 ≤ n ∧ n ≤ 1000 ∧ 1 ≤ z.length ∧ z.length ≤ 1000 ∧ Q (.str (repS z n)) H) := by
  intro pins s σ H x y v u Q I rx ry h
  obtain ⟨z, n, rfl, rfl, h2, h3, h4, h5, q⟩ := h
  obtain ⟨t, rfl⟩ := rx
  obtain ⟨t', rfl⟩ := ry
  have hm : z.length * (n : Int).toNat ≤ 1000000 := by
    rw [Int.toNat_natCast]
    exact Nat.le_trans (Nat.mul_le_mul h5 h3) (by decide)
  refine P.mul_str ?_ (fun _ _ => ?_) (fun _ _ => ?_) ?_
  · rw [decide_eq_false (show ¬ (n : Int) < -(2 ^ 63) by omega), decide_eq_false (show ¬ (n : Int) ≥ 2 ^ 63 by omega)]; rfl
  · have h7 : (1000 : Int) ≤ (2 ^ 63 - 1) / n := by
      rw [Int.le_ediv_iff_mul_le (by omega)]
      omega
    omega
  · exact decide_eq_false (by rw [sizeLine_eq]; omega)
  · rw [if_neg (show ¬ (n : Int) < 1 by omega), if_neg]
    · refine ⟨?_, ⟨.str (repS z n), H, I.tok _, ⟨_, rfl⟩, q⟩⟩
      show (repS z n).length ≤ sizeLine
      rw [repS_len, Nat.mul_comm, sizeLine_eq]
      rw [Int.toNat_natCast] at hm
      omega
    · rw [beq_eq_false_iff_ne.mpr (show (n : Int) ≠ 1 by omega), beq_eq_false_iff_ne.mpr (show z.length ≠ 0 by omega)]; decide
end
end Sv

set_option maxHeartbeats 4000000
/-! ### dicts whose keys are tuples of any depth (below 9) -/
namespace Sv
open PySem PySem.Spec PyProof.Rows L2 L2H HotX LamX
mutual
def nk : PyData → NestedKey
  | .int i => .num i
  | .str x => .text x
  | .tuple ds => .tup (nkAll ds)
  | .none => .none
  | .bool _ => .none
  | .list _ => .none
  | .dict _ => .none
def nkAll : List PyData → List NestedKey
  | [] => []
  | d :: ds => nk d :: nkAll ds
end
mutual
theorem nk_inj : ∀ d e : PyData, pl d = true → pl e = true → nk d = nk e → d = e
  | .none, .none, _, _, _ => rfl
  | .int i, .int j, _, _, h => by simp only [nk, NestedKey.num.injEq] at h; rw [h]
  | .str i, .str j, _, _, h => by simp only [nk, NestedKey.text.injEq] at h; rw [h]
  | .tuple ds, .tuple es, h1, h2, h => by
    simp only [nk, NestedKey.tup.injEq] at h
    rw [pl] at h1 h2
    rw [nkAll_inj _ _ h1 h2 h]
  | .none, .int _, _, _, h | .none, .str _, _, _, h | .none, .tuple _, _, _, h | .int _, .none, _, _, h | .int _, .str _, _, _, h | .int _, .tuple _, _, _, h
  | .str _, .none, _, _, h | .str _, .int _, _, _, h | .str _, .tuple _, _, _, h | .tuple _, .none, _, _, h | .tuple _, .int _, _, _, h | .tuple _, .str _, _, _, h => by simp [nk] at h
  | .bool _, _, h1, _, _ | .list _, _, h1, _, _ | .dict _, _, h1, _, _ => by simp [pl] at h1
  | _, .bool _, _, h1, _ | _, .list _, _, h1, _ | _, .dict _, _, h1, _ => by simp [pl] at h1
theorem nkAll_inj : ∀ d e : List PyData, plAll d = true → plAll e = true → nkAll d = nkAll e → d = e
  | [], [], _, _, _ => rfl
  | [], _ :: _, _, _, h => by simp [nkAll] at h
  | _ :: _, [], _, _, h => by simp [nkAll] at h
  | d :: ds, e :: es, h1, h2, h => by
    rw [plAll, Bool.and_eq_true] at h1 h2
    simp only [nkAll, List.cons.injEq] at h
    rw [nk_inj d e h1.1 h2.1 h.1, nkAll_inj ds es h1.2 h2.2 h.2]
end
mutual
theorem nk_depth : ∀ d : PyData, (nk d).depth ≤ d.depth
  | .none => by simp [nk, NestedKey.depth]
  | .int i => by simp [nk, NestedKey.depth]
  | .str i => by simp [nk, NestedKey.depth]
  | .bool _ => by simp [nk, NestedKey.depth]
  | .list _ => by simp [nk, NestedKey.depth]
  | .dict _ => by simp [nk, NestedKey.depth]
  | .tuple ds => by
    have := nkAll_depth ds
    simp only [nk, NestedKey.depth, PyData.depth]
    omega
theorem nkAll_depth : ∀ ds : List PyData, NestedKey.depthAll (nkAll ds) ≤ PyData.depthAll ds
  | [] => by simp [nkAll, NestedKey.depthAll]
  | d :: ds => by
    have h1 := nk_depth d
    have h2 := nkAll_depth ds
    simp only [nkAll, NestedKey.depthAll, PyData.depthAll]
    omega
end
mutual
theorem nested_of {h : Heap} : ∀ (d : PyData) (u : Value) (as : List Addr), pl d = true → Reads h u d as → NestedIs h (nk d) u
  | .none, _, _, _, r => by cases r; exact .none
  | .int i, _, _, _, r => by cases r; exact .int _ _
  | .str i, _, _, _, r => by cases r; exact .text _ _
  | .tuple ds, _, _, hp, r => by
    rw [pl] at hp
    cases r with
    | tuple h1 h2 h3 h4 => exact .tup h1 h2 h3 (nestedAll_of ds _ _ hp h4)
  | .bool _, _, _, h1, _ | .list _, _, _, h1, _ | .dict _, _, _, h1, _ => by simp [pl] at h1
theorem nestedAll_of {h : Heap} : ∀ (ds : List PyData) (us : List Value) (as : List Addr), plAll ds = true → ReadsAll h us ds as → NestedAll h (nkAll ds) us
  | [], _, _, _, r => by cases r; exact .nil
  | d :: ds, _, _, hp, r => by
    rw [plAll, Bool.and_eq_true] at hp
    cases r with
    | cons r1 r2 => exact .cons (nested_of d _ _ hp.1 r1) (nestedAll_of ds _ _ hp.2 r2)
end
/-- a list without doubles, all of it in another one -/
theorem nodup_le {κ : Type} [DecidableEq κ] : ∀ {l m : List κ}, l.Nodup → (∀ x ∈ l, x ∈ m) → l.length ≤ m.length
  | [], _, _, _ => Nat.zero_le _
  | x :: l, m, hn, hs => by
    rw [List.nodup_cons] at hn
    have hm : x ∈ m := hs x (List.mem_cons_self ..)
    have h1 := nodup_le (l := l) (m := m.erase x) hn.2 fun y hy => by
      have hy2 := hs y (List.mem_cons_of_mem _ hy)
      have hne : y ≠ x := fun z => hn.1 (z ▸ hy)
      exact (List.mem_erase_of_ne hne).mpr hy2
    have h2 := List.length_erase_of_mem hm
    have h3 : 0 < m.length := List.length_pos_of_mem hm
    rw [List.length_cons]
    omega
abbrev NX := List (NestedKey × Addr × Value)
/-- the dict at a, by its entries -/
def NDictO (P : Program) (w : World) (a : Addr) (xs : NX) : HO := .ext fun h => xs.length ≤ sizeLine ∧ (a == sysModules) = false ∧ ∃ o es ep, h.get? a = some o ∧ o.ExactDict ∧ o.data = .dict es ep ∧ es.toList = xs.map (entryOfKey (nestedKind P w)) ∧ (xs.map (·.1)).Nodup
theorem ndict_tup {P : Program} {w : World} {a : Addr} {xs : NX} {l : List V} (z : NDictO P w a xs = .tup l) : False := by
  unfold NDictO at z; cases z
theorem ndict_frz {P : Program} {w : World} {a : Addr} {xs : NX} {o : Obj} {l : HO} (z : NDictO P w a xs = .frz o l) : False := by
  unfold NDictO at z; cases z
def putD (D : NestedKey → Option V) (k : NestedKey) (v : V) : NestedKey → Option V := fun j => if j = k then some v else D j
/-- the dict at a holds D -/
def NDat (P : Program) (w : World) (K : PySem.W.Frag) (H : Hp) (a : Addr) (D : NestedKey → Option V) : Prop :=
  ∃ xs : NX, H a = some (NDictO P w a xs) ∧ (∀ x ∈ xs, ∃ d, nk d = x.1 ∧ At K H (.ref x.2.1) d ∧ d.depth ≤ 8) ∧ ∀ k, RelO (D k) ((atKey xs k).map (·.2))
section
variable {P : Program} {w : World} {K : PySem.W.Frag} {H H' : Hp} {a : Addr} {D : NestedKey → Option V}
theorem NDat.keep (h : NDat P w K H a D) (e : H' a = H a) (x : Ext H H') : NDat P w K H' a D := by
  obtain ⟨xs, h1, h2, h3⟩ := h
  refine ⟨xs, by rw [e]; exact h1, fun y hy => ?_, h3⟩
  obtain ⟨d, e1, e2, e3⟩ := h2 y hy
  exact ⟨d, e1, e2.ext x, e3⟩
theorem NDat.same (h : NDat P w K H a D) (s : Same H H') : NDat P w K H' a D := by
  have h' := h
  obtain ⟨xs, h1, _⟩ := h'
  exact h.keep (by rw [h1]; exact s _ _ h1) (Same.ext s)
theorem NDat.isExt (h : NDat P w K H a D) : ∃ φ, H a = some (.ext φ) := by
  obtain ⟨xs, h1, _⟩ := h
  exact ⟨_, h1⟩
theorem NDat.extN (h : NDat P w K H a D) (s : ExtN H H') : NDat P w K H' a D := by
  have h' := h
  obtain ⟨xs, h1, _⟩ := h'
  exact h.keep (by rw [h1]; exact s _ _ h1 (fun _ z => by unfold NDictO at z; cases z)) (extN_ext s)
theorem atKey_mem {xs : NX} {k : NestedKey} {p : Addr × Value} (h : atKey xs k = Option.some p) : (k, p) ∈ xs := by
  unfold atKey at h
  rw [Option.map_eq_some_iff] at h
  obtain ⟨x, h1, h2⟩ := h
  have h3 := List.find?_some h1
  have h4 := List.mem_of_find?_eq_some h1
  have h5 : x.1 = k := of_decide_eq_true h3
  have : x = (k, p) := by rw [← h5, ← h2]
  rw [← this]; exact h4
theorem mem_atKey {xs : NX} {x : NestedKey × Addr × Value} (h : x ∈ xs) : (atKey xs x.1).isSome = true := by
  unfold atKey
  rw [Option.isSome_map]
  rw [List.find?_isSome]
  exact ⟨x, h, decide_eq_true rfl⟩
theorem atKey_stored (xs : NX) (k j : NestedKey) (b : Addr) (u : Value) : (atKey (storedH xs k b u) j).map (·.2) = if j = k then Option.some u else (atKey xs j).map (·.2) := by
  rw [← valueAt_pairsH, pairsH_storedH, ← valueAt_pairsH]
  have e : ∀ l : List (NestedKey × Value), valueAt (stored l k u) j = if j = k then Option.some u else valueAt l j := by
    intro l
    unfold stored valueAt
    by_cases hk : (l.any fun kv => decide (kv.1 = k)) = true
    · rw [if_pos hk]
      induction l with
      | nil => simp at hk
      | cons p r ih =>
        rw [List.map_cons, List.find?_cons, List.find?_cons]
        by_cases e1 : p.1 = k
        · rw [if_pos e1]
          by_cases e2 : j = k
          · rw [if_pos e2, decide_eq_true (show (p.1, u).1 = j by rw [e2]; exact e1)]; rfl
          · rw [if_neg e2, decide_eq_false (show ¬ (p.1, u).1 = j from fun z => e2 (z.symm.trans e1))]
            by_cases e3 : (r.any fun kv => decide (kv.1 = k)) = true
            · have := ih e3; rw [if_neg e2] at this; exact this
            · have : r.map (fun kv => if kv.1 = k then (kv.1, u) else kv) = r := by
                have hx : ∀ x ∈ r, ¬ x.1 = k := fun x hx z => e3 (List.any_eq_true.mpr ⟨x, hx, decide_eq_true z⟩)
                clear ih hk e3
                induction r with
                | nil => rfl
                | cons q t ih2 => rw [List.map_cons, if_neg (hx q (List.mem_cons_self ..)), ih2 fun x h => hx x (List.mem_cons_of_mem _ h)]
              rw [this]
        · rw [if_neg e1]
          rw [List.any_cons, decide_eq_false e1, Bool.false_or] at hk
          have := ih hk
          by_cases e2 : p.1 = j
          · rw [decide_eq_true e2, if_neg (fun z => e1 (e2.trans z))]
          · rw [decide_eq_false e2]; exact this
    · rw [if_neg hk, List.find?_append]
      by_cases e2 : j = k
      · rw [if_pos e2, e2]
        have : (l.find? fun kv => decide (kv.1 = k)) = none := by
          rw [List.find?_eq_none]
          intro x hx hz
          exact hk (List.any_eq_true.mpr ⟨x, hx, hz⟩)
        rw [this, Option.none_or, List.find?_cons, decide_eq_true rfl]; rfl
      · rw [if_neg e2, List.find?_cons, decide_eq_false (fun z => e2 z.symm)]
        cases l.find? fun kv => decide (kv.1 = j) <;> rfl
  exact e _
theorem mem_stored {xs : NX} {k : NestedKey} {b : Addr} {u : Value} {x : NestedKey × Addr × Value} (h : x ∈ storedH xs k b u) : (∃ y ∈ xs, y.1 = x.1 ∧ y.2.1 = x.2.1) ∨ (x.1 = k ∧ x.2.1 = b) := by
  unfold storedH at h
  split at h
  · obtain ⟨y, hy, rfl⟩ := List.mem_map.mp h
    refine .inl ⟨y, hy, ?_⟩
    unfold putAt
    split <;> exact ⟨rfl, rfl⟩
  · rcases List.mem_append.mp h with h | h
    · exact .inl ⟨x, h, rfl, rfl⟩
    · rw [List.mem_singleton.mp h]; exact .inr ⟨rfl, rfl⟩
theorem stored_len {xs : NX} {k : NestedKey} {b : Addr} {u : Value} : (storedH xs k b u).length ≤ xs.length + 1 := by
  unfold storedH
  split
  · rw [List.length_map]; omega
  · rw [List.length_append]; exact Nat.le_refl _
end
section
variable {X : Cx} {pins : List (Addr × Obj)} {σ : L2.St} {H : Hp} {s : Shared} {a : Addr} {y v : V} {u r : Value} {A : Around} {E : Value → Shared → Prop} {D : NestedKey → Option V} {d : PyData}
theorem key_is {ds : List PyData} (I : Inv X pins σ H s) (h : At X.K H y (.tuple ds)) (hd : (PyData.tuple ds).depth ≤ 8) (ry : RelV y u) : ∃ b, u = .ref b ∧ y = .ref b ∧ (nestedKind X.prog X.w).is s.heap (nk (.tuple ds)) b := by
  obtain ⟨as, hr⟩ := Dp.reads I _ _ _ h.2 ry
  obtain ⟨b, vs, rfl, _, _⟩ := h.inv
  cases (show u = Value.ref b from ry)
  exact ⟨b, rfl, rfl, nested_of _ _ _ h.1 hr, Nat.le_trans (nk_depth _) hd⟩
theorem key_is' (I : Inv X pins σ H s) {b : Addr} (h : At X.K H (.ref b) d) (hd : d.depth ≤ 8) : (nestedKind X.prog X.w).is s.heap (nk d) b := by
  obtain ⟨as, hr⟩ := Dp.reads I _ _ (.ref b) h.2 rfl
  exact ⟨nested_of _ _ _ h.1 hr, Nat.le_trans (nk_depth _) hd⟩
theorem NDat.dict (I : Inv X pins σ H s) (h : NDat X.prog X.w X.K H a D) : ∃ xs : NX, H a = some (NDictO X.prog X.w a xs) ∧ xs.length ≤ sizeLine ∧ (a == sysModules) = false ∧ s.heap.DictOfH (nestedKind X.prog X.w) a xs ∧ (∀ x ∈ xs, ∃ d, nk d = x.1 ∧ At X.K H (.ref x.2.1) d ∧ d.depth ≤ 8) ∧ (∀ k, RelO (D k) ((atKey xs k).map (·.2))) ∧ (xs.map (·.1)).Nodup := by
  obtain ⟨xs, h1, h2, h3⟩ := h
  obtain ⟨⟨z, hd, o, es, ep, q1, q2, q3, q4, q5⟩, _, _⟩ := I.hok a _ h1
  refine ⟨xs, h1, z, hd, ⟨o, es, ep, q1, q2, q3, q4, fun x hx => ?_, q5⟩, h2, h3, q5⟩
  obtain ⟨d, e1, e2, e3⟩ := h2 x hx
  rw [← e1]
  exact key_is' I e2 e3
/-- y in d -/
def rNIn (P : Program) (w : World) (K : PySem.W.Frag) (neg : Bool) : R2 := fun x y H Q => ∃ a D ds, y = .ref a ∧ NDat P w K H a D ∧ At K H x (.tuple ds) ∧ (PyData.tuple ds).depth ≤ 8 ∧ Q (.bl (neg != (D (nk (.tuple ds))).isSome)) H
theorem op_nin {P : Program} {w : World} {K : PySem.W.Frag} (hu : X.A.units + 64 < cLine) (hP : X.prog = P := by rfl) (hw : X.w = w := by rfl) (hK : X.K = K := by rfl) : OpR X (compareOp .In) (rNIn P w K false) := by
  subst hP hw hK
  intro pins s σ H x y v u Q I rx ry h
  obtain ⟨a, D, ds, rfl, hd, hx, hdp, q⟩ := h
  cases (show u = Value.ref a from ry)
  obtain ⟨b, rfl, _, hk⟩ := key_is I hx hdp rx
  obtain ⟨xs, _, _, hs, dd, _, rel, _⟩ := hd.dict I
  refine wpAny_in_heap (knd := nestedKind X.prog X.w) (show X.A.units + 1 + 8 < cLine by omega) hk hs dd ?_
  have e := (rel (nk (.tuple ds))).isSome_eq
  rw [Option.isSome_map] at e
  rw [← e]
  refine ⟨.bl (D (nk (.tuple ds))).isSome, H, I.tok _, rfl, ?_⟩
  have e2 : (false != (D (nk (.tuple ds))).isSome) = (D (nk (.tuple ds))).isSome := by cases (D (nk (.tuple ds))).isSome <;> rfl
  rw [← e2]; exact q
theorem op_nnotin {P : Program} {w : World} {K : PySem.W.Frag} (hu : X.A.units + 64 < cLine) (hP : X.prog = P := by rfl) (hw : X.w = w := by rfl) (hK : X.K = K := by rfl) : OpR X (compareOp .NotIn) (rNIn P w K true) := by
  subst hP hw hK
  intro pins s σ H x y v u Q I rx ry h
  obtain ⟨a, D, ds, rfl, hd, hx, hdp, q⟩ := h
  cases (show u = Value.ref a from ry)
  obtain ⟨b, rfl, _, hk⟩ := key_is I hx hdp rx
  obtain ⟨xs, _, _, hs, dd, _, rel, _⟩ := hd.dict I
  refine wpAny_notIn_heap (knd := nestedKind X.prog X.w) (show X.A.units + 1 + 8 < cLine by omega) hk hs dd ?_
  have e := (rel (nk (.tuple ds))).isSome_eq
  rw [Option.isSome_map] at e
  rw [← e]
  refine ⟨.bl (!(D (nk (.tuple ds))).isSome), H, I.tok _, rfl, ?_⟩
  have e2 : (true != (D (nk (.tuple ds))).isSome) = !(D (nk (.tuple ds))).isSome := by cases (D (nk (.tuple ds))).isSome <;> rfl
  rw [← e2]; exact q
/-- d[y], there -/
def tNGet (P : Program) (w : World) (K : PySem.W.Frag) (td ty : TE) : TE := fun σ H Q => td σ H fun x H1 => ty σ H1 fun y H2 => ∃ a D ds v, x = .ref a ∧ NDat P w K H2 a D ∧ At K H2 y (.tuple ds) ∧ (PyData.tuple ds).depth ≤ 8 ∧ D (nk (.tuple ds)) = some v ∧ Q v H2
theorem pe_nget {P : Program} {w : World} {K : PySem.W.Frag} {o i : Expr} {pos : Pos} {td ty : TE} (hu : X.A.units + 64 < cLine) (ho : PE X o td) (hi : PE X i ty) (hs : NoSl i) (hP : X.prog = P := by rfl) (hw : X.w = w := by rfl) (hK : X.K = K := by rfl) : PE X (.Subscript o i pos) (tNGet P w K td ty) := by
  subst hP hw hK
  refine ⟨fun pins s σ H Q I h => ?_⟩
  refine subD_of PySem.F.slot_dict_getitem.lookup hs (thn (ho.run pins s σ H _ I h) fun u s1 ⟨x, H1, I1, rx, q1⟩ => thn (hi.run pins s1 σ H1 _ I1 q1) fun iv s2 ⟨y, H2, I2, ry, a, D, ds, v, ex, hd, hx, hdp, hv, q2⟩ => ?_)
  subst ex
  obtain rfl : u = Value.ref a := rx
  obtain ⟨b, rfl, _, hk⟩ := key_is I2 hx hdp ry
  obtain ⟨xs, _, _, _, dd, _, rel, _⟩ := hd.dict I2
  obtain ⟨w', hw, rw'⟩ := RelO.some_of (v := v) (o := (atKey xs (nk (.tuple ds))).map (·.2)) (by rw [← hv]; exact rel _)
  obtain ⟨p, hp, hp2⟩ := Option.map_eq_some_iff.mp hw
  refine ⟨dd.typeIs, wpAny_getItem_heap (knd := nestedKind X.prog X.w) (show X.A.units + 1 + 8 < cLine by omega) hk dd hp ?_⟩
  rw [hp2]
  exact ⟨v, H2, I2.tok _, rw', q2⟩
/-- d[y] = v; L: the keys that there may be -/
def sNPut (P : Program) (w : World) (K : PySem.W.Frag) (td ty tv : TE) : TS := fun Dn σ H => tv σ H fun v H1 => td σ H1 fun x H2 => ty σ H2 fun y H3 => ∃ a D ds, x = .ref a ∧ NDat P w K H3 a D ∧ At K H3 y (.tuple ds) ∧ (PyData.tuple ds).depth ≤ 8 ∧
  (∃ L : List NestedKey, (∀ k, (D k).isSome = true → k ∈ L) ∧ L.length < sizeLine) ∧ ∀ H4, (∀ b, b ≠ a → H4 b = H3 b) → Ext H3 H4 → NDat P w K H4 a (putD D (nk (.tuple ds)) v) → Dn.nx σ H4
theorem ps_nput {P : Program} {w : World} {K : PySem.W.Frag} {o i value : Expr} {pos pos' : Pos} {td ty tv : TE} (hu : X.A.units + 64 < cLine) (ho : PE X o td) (hi : PE X i ty) (hv : PE X value tv) (hs : swapsWith value (some (.Subscript o i pos')) pos.line X.env = pure false)
    (hP : X.prog = P := by rfl) (hw : X.w = w := by rfl) (hK : X.K = K := by rfl) : PS X (.Assign [.Subscript o i pos'] value pos) (sNPut P w K td ty tv) := by
  subst hP hw hK
  refine ⟨fun pins s σ H Dn I h => ?_⟩
  refine wpAny_Assign_Subscript (thn (hv.run pins s σ H _ I h) fun r s1 ⟨v, H1, I1, rv, q1⟩ => thn (ho.run pins s1 σ H1 _ I1 q1) fun u s2 ⟨x, H2, I2, rx, q2⟩ => thn (hi.run pins s2 σ H2 _ I2 q2) fun iv s3 ⟨y, H3, I3, ry, a, D, ds, ex, hd, hx, hdp, ⟨L, hL, hLn⟩, q3⟩ => ?_) hs
  subst ex
  obtain rfl : u = Value.ref a := rx
  obtain ⟨b, rfl, rfl, hk⟩ := key_is I3 hx hdp ry
  obtain ⟨xs, eA, hz, hsy, dd, hks, rel, hnd⟩ := hd.dict I3
  have hlen : xs.length ≤ L.length := by
    rw [← List.length_map (f := (·.1)) (as := xs)]
    refine nodup_le hnd fun k hk => ?_
    obtain ⟨x, hx, rfl⟩ := List.mem_map.mp hk
    refine hL _ ?_
    have e := (rel x.1).isSome_eq
    rw [Option.isSome_map] at e
    rw [e]; exact mem_atKey hx
  refine wpAny_setItem_heap (knd := nestedKind X.prog X.w) (hsz := hz) (show X.A.units + 1 + 8 < cLine by omega) hk dd fun h' dd' hs' => ?_
  obtain ⟨q, es, ep, hq, h2, h3, h4, _, h5⟩ := dd'
  have hl : (storedH xs (nk (.tuple ds)) b r).length ≤ sizeLine := by have := stored_len (xs := xs) (k := nk (.tuple ds)) (b := b) (u := r); omega
  have x34 : Ext H3 (upd H3 a (NDictO X.prog X.w a (storedH xs (nk (.tuple ds)) b r))) := Ext.wr eA (fun _ z => ndict_tup z) (fun _ _ z => ndict_frz z)
  refine ⟨σ, upd H3 a (NDictO X.prog X.w a (storedH xs (nk (.tuple ds)) b r)), d_write I3 (by rw [eA]; exact True.intro) hs' ⟨q, hq⟩ ⟨⟨hl, hsy, q, es, ep, hq, h2, h3, h4, h5⟩, ⟨q, hq⟩, fun h1 h2 ⟨a1, a2, o, es, ep, a3, a4⟩ hst => ⟨a1, a2, o, es, ep, hst o a3, a4⟩⟩, q3 _ (fun c hc => upd_ne hc) x34 ⟨_, upd_same, fun x hx' => ?_, fun k => ?_⟩⟩
  · rcases mem_stored hx' with ⟨y, hy, e1, e2⟩ | ⟨e1, e2⟩
    · obtain ⟨d, z1, z2, z3⟩ := hks y hy
      exact ⟨d, z1.trans e1, by rw [← e2]; exact z2.ext x34, z3⟩
    · exact ⟨_, e1.symm, by rw [e2]; exact hx.ext x34, hdp⟩
  · rw [atKey_stored]
    unfold putD
    by_cases e : k = nk (.tuple ds)
    · rw [if_pos e, if_pos e]; exact rv
    · rw [if_neg e, if_neg e]; exact rel k
/-- {} -/
def tNNew (P : Program) (w : World) (K : PySem.W.Frag) : TE := fun _ H Q => ∀ p H', H p = none → Same H H' → (∀ b, b ≠ p → H' b = H b) → NDat P w K H' p (fun _ => none) → Q (.ref p) H'
theorem pe_nnew {P : Program} {w : World} {K : PySem.W.Frag} {pos : Pos} (hP : X.prog = P := by rfl) (hw : X.w = w := by rfl) (hK : X.K = K := by rfl) : PE X (.Dict [] [] pos) (tNNew P w K) := by
  subst hP hw hK
  refine ⟨fun pins s σ H Q I h => wpAny_Dict_empty ⟨.ref s.heap.objs.size, _, I.laid (a := s.heap.objs.size) (o := NDictO X.prog X.w s.heap.objs.size []) (t' := s.toks) (fun _ _ q => Heap.get?_push_of_some _ q) (Nat.le_refl _) ?_, rfl, ?_⟩⟩
  · exact ⟨⟨Nat.zero_le _, beq_eq_false_iff_ne.mpr (Ne.symm (Nat.ne_of_lt I.big)), _, #[], 0, Heap.get?_push_size _ rfl, ⟨rfl, rfl, rfl⟩, rfl, rfl, List.nodup_nil⟩, ⟨_, Heap.get?_push_size _ rfl⟩, fun h1 h2 ⟨a1, a2, o, es, ep, a3, a4⟩ hst => ⟨a1, a2, o, es, ep, hst o a3, a4⟩⟩
  · have n := I.hok.fresh (Nat.le_refl s.heap.objs.size)
    exact h _ _ n (same_new n) (fun b hb => upd_ne hb) ⟨[], upd_same, (fun _ z => nomatch z), fun _ => True.intro⟩
end
end Sv

set_option maxHeartbeats 4000000
/-! ### classes, their fields and methods -/
namespace Sv
open PySem PySem.Spec PyProof.Rows L2 L2H HotX LamX
/-- what is known of a class at C with the fields fs -/
structure ClsT (K : PySem.W.Frag) (mg : Str → Option Value) (x : Str) (C : Addr) (fs : List Str) : Prop where
  cl : Cls K C
  nf : ∀ f ∈ fs, NoAttr K C f
  g : mg x = some (.ref C)
  mkn : PySem.W.makesIn K C = true
  kp : PySem.W.keepIn K (.ref C) = true
def clsB (K : PySem.W.Frag) (C : Addr) (fs : List Str) : Bool :=
  PySem.W.plainGet K C Str.empty && PySem.W.hasDictIn K C && PySem.W.plainOver K C && PySem.W.findIn K (.ref C) "__setattr__" == some (some (.builtin "object.__setattr__")) && PySem.W.makesIn K C && PySem.W.keepIn K (.ref C) && fs.all fun f => PySem.W.findIn K (.ref C) f == some none
theorem clsT_of {K : PySem.W.Frag} {mg : Str → Option Value} {h : Heap} {x : Str} {C : Addr} {fs : List Str} (X : K.In h) (G : h.Ns mainGlobals mg) (a : PySem.W.nsIn K mainGlobals x = some (some (.ref C))) (e : clsB K C fs = true) : ClsT K mg x C fs := by
  unfold clsB at e
  simp only [Bool.and_eq_true, beq_iff_eq, List.all_eq_true] at e
  obtain ⟨⟨⟨⟨⟨⟨h1, h2⟩, h3⟩, h4⟩, h5⟩, h6⟩, h7⟩ := e
  exact ⟨⟨h1, h2, h3, h4⟩, fun f hf => h7 f hf, PySem.W.mg_of X G a, h5, h6⟩
/-- the def st is the method m of the class at C -/
def HereM (K : PySem.W.Frag) (C : Addr) (m q : Str) (st : Stmt) : Prop := ∃ f fd, Fun K m q st f fd ∧ Meth K C m f
theorem hereM_mk {K : PySem.W.Frag} {C f : Addr} {m q : Str} {st : Stmt} {oc : Value} {od an : Option Addr} {osl : Array (Option Value)} {kV doc pm cdv ct : Value} (a : PySem.W.findIn K (.ref C) m = some (some (.ref f))) (i : PySem.W.isFn K (.ref f) = true)
    (l : K.lookup f = some ⟨oc, od, .func (PySem.W.fnOf m q (defArgs st) (defBody st) (defScope st) .none kV doc pm an cdv ct), osl⟩) (c : PySem.W.codeIn K cdv q = true) (k : PySem.W.keepIn K (.ref f) = true) : HereM K C m q st :=
  ⟨f, _, fun_mk l c k, a, i, k⟩
section
variable (P : Program) (w : World) (K : PySem.W.Frag) (mg : Str → Option Value) (base : Heap)
/-- the method m keeps the promise sp -/
def KeepsM (CX : CXT) (k : Nat) (C : Addr) (m : Str) (ps : List Str) (sp : Sp) : Prop := ∃ f fd, Meth K C m f ∧ Binds K fd ps [] ∧ FnOk P w K mg base CX k f fd ps sp
end
section
variable {P : Program} {w : World} {K : PySem.W.Frag} {mg : Str → Option Value} {base : Heap} {C : Addr}
theorem KeepsM.mono {CX : CXT} {j k : Nat} {m : Str} {ps : List Str} {sp : Sp} (D : KeepsM P w K mg base CX j C m ps sp) (h : j ≤ k) : KeepsM P w K mg base CX k C m ps sp := by
  obtain ⟨f, fd, a, b, c⟩ := D
  exact ⟨f, fd, a, b, c.mono h⟩
/-- a method that lets no exception out -/
theorem keepsM0 {m q : Str} {st : Stmt} {N ps : List Str} {k : Nat} {sp : Sp} (F : HereM K C m q st) (S : FnScope N ps (defScope st))
    (hb : ∀ (kV doc pm : Value) (an : Option Addr) (cdv ct : Value) (us : List Value), us.length = ps.length → bindArgs (PySem.W.fnOf m q (defArgs st) (defBody st) (defScope st) .none kV doc pm an cdv ct) ⟨us, []⟩ = pure (ps.zip us))
    (len : ∀ vs H Q E, sp vs H Q E → vs.length = ps.length)
    (hbody : ∀ (f : Addr) (cdv : Value) (A : Around) (outer : List Env) (s : Shared) (H : Hp) (vs : List V) (Q : VK) (E : XK), Room k (A.deeper (envOfC q (defScope st) s.heap.objs.size f cdv)) → sp vs H Q E →
      ∃ t, PSs (cxOf CX0 P w K mg base N q (defScope st) f cdv A outer s H E).nox (defBody st) t ∧ t { nx := fun _ H' => Q .non H', rt := Q } (start N vs) H) : KeepsM P w K mg base CX0 (k + 1) C m ps sp := by
  obtain ⟨f, fd, F, g⟩ := F
  exact ⟨f, fd, g, F.binds hb, F.ok S len fun cdv A outer s H vs Q E hr h => hbody f cdv A outer s H vs Q E hr h⟩
/-- a method that may raise -/
theorem keepsMN {m q : Str} {st : Stmt} {N ps : List Str} {k : Nat} {sp : Sp} (F : HereM K C m q st) (S : FnScope N ps (defScope st))
    (hb : ∀ (kV doc pm : Value) (an : Option Addr) (cdv ct : Value) (us : List Value), us.length = ps.length → bindArgs (PySem.W.fnOf m q (defArgs st) (defBody st) (defScope st) .none kV doc pm an cdv ct) ⟨us, []⟩ = pure (ps.zip us))
    (len : ∀ vs H Q E, sp vs H Q E → vs.length = ps.length)
    (hbody : ∀ (f : Addr) (cdv : Value) (A : Around) (outer : List Env) (s : Shared) (H : Hp) (vs : List V) (Q : VK) (E : XK), Room k (A.deeper (envOfC q (defScope st) s.heap.objs.size f cdv)) → sp vs H Q E →
      ∃ t, PSs (cxOf (L2N.CX P w) P w K mg base N q (defScope st) f cdv A outer s H E) (defBody st) t ∧ t { nx := fun _ H' => Q .non H', rt := Q } (start N vs) H) : KeepsM P w K mg base (L2N.CX P w) (k + 1) C m ps sp := by
  obtain ⟨f, fd, F, g⟩ := F
  have bd := F.binds hb
  obtain ⟨oc, od, kV, doc, pm, an, cdv, ct, osl, rfl, lk, hcd⟩ := F.ex
  exact ⟨f, _, g, bd, fn_of lk hcd S len fun A outer s H vs Q E hr hsp => hbody f cdv A outer s H vs Q E hr hsp⟩
end
section
variable {X : Cx} {o e value : Expr} {es : List Expr} {f m x : Str} {pos pos' apos p : Pos} {ta tv : TE} {t : TA} {C : Addr} {k : Nat} {ps : List Str} {sp : Sp} {E : XK} {CX : CXT}
/-- o.f -/
def tFldK (C : Addr) (f : Str) (ta : TE) : TE := fun σ H Q => ta σ H fun x H1 => ∃ a dx fs v, x = .ref a ∧ H1 a = some (.ins C dx fs) ∧ fs.lookup f = some v ∧ Q v H1
theorem pe_fldK (c : Cls X.K C) (n : NoAttr X.K C f) (he : PE X e ta) (hb : attributeBase e f X.env (eval e X.env) = eval e X.env := by rfl) : PE X (.Attribute e f pos) (tFldK C f ta) := by
  refine ⟨fun pins s σ H Q I h => ?_⟩
  refine attr_of hb (thn (he.run pins s σ H _ I h) fun u s1 ⟨x, H1, I1, rx, a, dx, fs, v, ex, ea, l, q⟩ => ?_)
  subst ex
  obtain rfl : u = Value.ref a := rx
  exact getattr_ok I1 ea c n l fun u' s2 I2 ru => ⟨v, H1, I2, ru, q⟩
/-- o.f = e -/
def sFldK (C : Addr) (f : Str) (ta tv : TE) : TS := fun D σ H => tv σ H fun y H1 => ta σ H1 fun x H2 => ∃ a dx fs, x = .ref a ∧ H2 a = some (.ins C dx fs) ∧ fs.length < 1000 ∧ D.nx σ (upd H2 a (.ins C dx (putF f y fs)))
theorem ps_fldK (c : Cls X.K C) (n : NoAttr X.K C f) (ha : PE X o ta) (hv : PE X value tv) (hs : swapsWith value (some (.Attribute o f pos')) pos.line X.env = pure false := by rfl) : PS X (.Assign [.Attribute o f pos'] value pos) (sFldK C f ta tv) := by
  refine ⟨fun pins s σ H D I h => ?_⟩
  refine plainObj_wpAny_Assign_Attribute (thn (hv.run pins s σ H _ I h) fun u s1 ⟨y, H1, I1, ry, q⟩ => thn (ha.run pins s1 σ H1 _ I1 q) fun ov s2 ⟨x, H2, I2, rx, a, dx, fs, ex, ea, l, q2⟩ => ?_) hs
  subst ex
  obtain rfl : ov = Value.ref a := rx
  exact setattr_ok I2 ea c n l ry fun s3 I3 => ⟨σ, _, I3, q2⟩
/-- o.m(..) -/
def tMethK (C : Addr) (m : Str) (sp : Sp) (E : XK) (ta : TE) (t : TA) : TE := fun σ H Q => ta σ H fun x H1 => ∃ a dx fs, x = .ref a ∧ H1 a = some (.ins C dx fs) ∧ fs.lookup m = none ∧ t σ H1 fun vs H2 => sp (x :: vs) H2 Q E
theorem tMethK_eq (ta : TE) (t : TA) : tMeth C m sp [] E ta t = tMethK C m sp E ta t := by
  funext σ H Q
  unfold tMeth tMethK
  simp only [List.append_nil]
theorem pe_m0 {pl : Sem Bool} (D : KeepsM X.prog X.w X.K X.mg X.base CX0 k C m ps sp) (c : Cls X.K C) (hr : Room k X.A) (he : PE X o ta) (ha : PA X (e :: es) t)
    (hst : starEach (e :: es) X.env = (false, eval e X.env) :: starEach es X.env := by rfl) (hpl : (backTo pos (starEach es X.env)).any (·.1) = false := by rfl)
    (ht : eval (.Call (.Attribute o m apos) (e :: es) [] pos) X.env = (do
      let ov ← eval o X.env
      standAt apos.atName
      let (f, first) ← holding [ov] (getMethod ov m pl)
      callWith pos f first (backTo pos (starEach (e :: es) X.env)) (backToKw pos (keywordEach [] X.env))) := by rfl) : PE X (.Call (.Attribute o m apos) (e :: es) [] pos) (tMethK C m sp E0 ta t) := by
  obtain ⟨g, fd, a, b, d⟩ := D
  have h := pe_meth (pos := pos) (apos := apos) (pl := pl) he c a d hr b .nil pass0 ha hst hpl ht
  rw [← tMethK_eq]
  exact h
theorem pe_m00 {pl : Sem Bool} (D : KeepsM X.prog X.w X.K X.mg X.base CX0 k C m ps sp) (c : Cls X.K C) (hr : Room k X.A) (he : PE X o ta)
    (ht : eval (.Call (.Attribute o m apos) [] [] pos) X.env = (do
      let ov ← eval o X.env
      standAt apos.atName
      let (f, first) ← holding [ov] (getMethod ov m pl)
      callWith pos f first (backTo pos (starEach [] X.env)) (backToKw pos (keywordEach [] X.env))) := by rfl) : PE X (.Call (.Attribute o m apos) [] [] pos) (tMethK C m sp E0 ta tNil) := by
  obtain ⟨g, fd, a, b, d⟩ := D
  have h := pe_meth0 (pos := pos) (apos := apos) (pl := pl) he c a d hr b .nil pass0 ht
  rw [← tMethK_eq]
  exact h
theorem pe_mX {pl : Sem Bool} {W : WX} (D : KeepsM X.prog X.w X.K X.mg X.base (L2N.CX X.prog X.w) k C m ps sp) (c : Cls X.K C) (hr : Room k X.A) (tk : L2N.Takes X W) (hW : ∀ cls d σ H, E cls d H → W cls d σ H) (he : PE X o ta) (ha : PA X (e :: es) t)
    (hst : starEach (e :: es) X.env = (false, eval e X.env) :: starEach es X.env := by rfl) (hpl : (backTo pos (starEach es X.env)).any (·.1) = false := by rfl)
    (ht : eval (.Call (.Attribute o m apos) (e :: es) [] pos) X.env = (do
      let ov ← eval o X.env
      standAt apos.atName
      let (f, first) ← holding [ov] (getMethod ov m pl)
      callWith pos f first (backTo pos (starEach (e :: es) X.env)) (backToKw pos (keywordEach [] X.env))) := by rfl) : PE X (.Call (.Attribute o m apos) (e :: es) [] pos) (tMethK C m sp E ta t) := by
  obtain ⟨g, fd, a, b, d⟩ := D
  have h := pe_meth (pos := pos) (apos := apos) (pl := pl) (E := E) he c a d hr b .nil (L2N.passes_call tk hW) ha hst hpl ht
  rw [← tMethK_eq]
  exact h
theorem pe_mX0 {pl : Sem Bool} {W : WX} (D : KeepsM X.prog X.w X.K X.mg X.base (L2N.CX X.prog X.w) k C m ps sp) (c : Cls X.K C) (hr : Room k X.A) (tk : L2N.Takes X W) (hW : ∀ cls d σ H, E cls d H → W cls d σ H) (he : PE X o ta)
    (ht : eval (.Call (.Attribute o m apos) [] [] pos) X.env = (do
      let ov ← eval o X.env
      standAt apos.atName
      let (f, first) ← holding [ov] (getMethod ov m pl)
      callWith pos f first (backTo pos (starEach [] X.env)) (backToKw pos (keywordEach [] X.env))) := by rfl) : PE X (.Call (.Attribute o m apos) [] [] pos) (tMethK C m sp E ta tNil) := by
  obtain ⟨g, fd, a, b, d⟩ := D
  have h := pe_meth0 (pos := pos) (apos := apos) (pl := pl) (E := E) he c a d hr b .nil (L2N.passes_call tk hW) ht
  rw [← tMethK_eq]
  exact h
/-- C(..) -/
def tMakeK (C : Addr) (sp : Sp) (E : XK) (t : TA) : TE := fun σ H Q => t σ H fun vs H1 => ∀ x dx, H1 x = none → H1 dx = none → dx ≠ x → sp (.ref x :: vs) (upd (upd H1 dx (.own x)) x (.ins C dx [])) (fun v H2 => v = .non ∧ Q (.ref x) H2) E
theorem tMakeK_eq (t : TA) : tMake C sp [] E t = tMakeK C sp E t := by
  funext σ H Q
  unfold tMake tMakeK
  simp only [List.append_nil]
theorem pe_mkX {W : WX} {fs : List Str} (D : KeepsM X.prog X.w X.K X.mg X.base (L2N.CX X.prog X.w) k C "__init__" ps sp) (T : ClsT X.K X.mg x C fs) (hr : Room (k + 1) X.A) (hg : Gl X x) (tk : L2N.Takes X W) (hW : ∀ cls d σ H, E cls d H → W cls d σ H) (ha : PA X (e :: es) t)
    (hdb : (x == ("__debug__" : Str)) = false := by decide) (he : starEach (e :: es) X.env = (false, eval e X.env) :: starEach es X.env := by rfl) (hpl : (backTo pos (starEach es X.env)).any (·.1) = false := by rfl) : PE X (.Call (.Name x p) (e :: es) [] pos) (tMakeK C sp E t) := by
  obtain ⟨g, fd, a, b, d⟩ := D
  have h := pe_make (pos := pos) (p := p) (E := E) (M := ⟨T.mkn, a.at_, a.fn, T.kp⟩) d hr hg T.g b .nil (L2N.passes_call tk hW) ha hdb he hpl
  rw [← tMakeK_eq]
  exact h
theorem pe_mkN {fs : List Str} (D : KeepsM X.prog X.w X.K X.mg X.base (L2N.CX X.prog X.w) k C "__init__" ps sp) (T : ClsT X.K X.mg x C fs) (hr : Room (k + 1) X.A) (hg : Gl X x) (ha : PA X (e :: es) t)
    (hdb : (x == ("__debug__" : Str)) = false := by decide) (he : starEach (e :: es) X.env = (false, eval e X.env) :: starEach es X.env := by rfl) (hpl : (backTo pos (starEach es X.env)).any (·.1) = false := by rfl) : PE X (.Call (.Name x p) (e :: es) [] pos) (tMakeK C sp E0 t) := by
  obtain ⟨g, fd, a, b, d⟩ := D
  have h := pe_make (pos := pos) (p := p) (E := E0) (M := ⟨T.mkn, a.at_, a.fn, T.kp⟩) d hr hg T.g b .nil passN ha hdb he hpl
  rw [← tMakeK_eq]
  exact h
theorem pe_mk0 {fs : List Str} (D : KeepsM X.prog X.w X.K X.mg X.base CX0 k C "__init__" ps sp) (T : ClsT X.K X.mg x C fs) (hr : Room (k + 1) X.A) (hg : Gl X x)
    (hdb : (x == ("__debug__" : Str)) = false := by decide) : PE X (.Call (.Name x p) [] [] pos) (tMakeK C sp E0 tNil) := by
  obtain ⟨g, fd, a, b, d⟩ := D
  have h := pe_make0 (pos := pos) (p := p) (E := E0) (M := ⟨T.mkn, a.at_, a.fn, T.kp⟩) d hr hg T.g b .nil pass0 hdb
  rw [← tMakeK_eq]
  exact h
/-- len(o), by the class's own __len__ -/
def rLenOwn (C : Addr) (sp : Sp) : List V → Hp → VK → Prop := fun xs H Q => ∃ a dx fs, xs = [V.ref a] ∧ H a = some (.ins C dx fs) ∧ sp [.ref a] H (fun z H' => ∃ i, z = .int i ∧ 0 ≤ i ∧ i < 2 ^ 63 ∧ Q z H') E0
theorem call_lenOwn (D : KeepsM X.prog X.w X.K X.mg X.base CX0 k C "__len__" ps sp) (hr : Room (k + 1) X.A) : CallR X (.builtin "len") (rLenOwn C sp) := by
  obtain ⟨g, fd, hm, hb, F⟩ := D
  intro pins s σ H xs us Q I r h
  obtain ⟨a, dx, fs, rfl, ha, hsp⟩ := h
  obtain ⟨u, rfl, ru⟩ := r.one
  cases (show u = Value.ref a from ru)
  obtain ⟨mA, J, _⟩ := ins_get I.hok ha
  obtain ⟨od, J, _⟩ := J.look
  obtain ⟨m, hF⟩ := I.fr
  refine PySem.W.len_K hF I.ok.mod.kin J hm.at_ hm.fn ?_
  have hl := F.len _ _ _ _ hsp
  have e0 : Env0 X.prog X.w X.K X.mg X.base X.A.in1 X.stack s H := I.env0.in1
  refine wpAny_call (codeAny_mono (F.run X.A.in1 X.stack s H ⟨[.ref a], []⟩ [.ref a] [.ref a] _ E0 hr.in1 e0 (by
    have := hb s [.ref a] I.kIn (by simpa using hl)
    simpa using this) (.cons rfl .nil) hsp) fun r s' hq => ?_)
  cases r with
  | error e => exact (show False from hq).elim
  | ok fl =>
    cases fl with
    | ret w =>
      obtain ⟨z, H', I', rz, i, ez, h0, h1, q⟩ := I.after hq
      subst ez
      obtain ⟨t, rfl⟩ := (show ∃ t, w = Value.int i t from rz)
      exact ⟨⟨h0, h1⟩, .int i, H', I'.tok _, ⟨_, rfl⟩, q⟩
    | next => exact False.elim hq
    | brk => exact False.elim hq
    | cont => exact False.elim hq
end
end Sv

set_option maxHeartbeats 4000000
/-! ### an exception that leaves a list comprehension -/
namespace Sv
open PySem PySem.Spec PyProof.Rows L2 L2H HotX LamX
theorem note_alike {x : Value} {e1 e2 : Env} (h : e1.frame = e2.frame) : noteFrame x e1 = noteFrame x e2 := by
  unfold noteFrame PySem.frameOf
  rw [h]
section
variable {M : Model} {A : Around} {E : Value → Shared → Prop} {s : Shared} {Z : Obj → Prop} {g : Heap} {env : Env} {outer : List Env} {L e : Addr}
/-- it leaves the frame, wherever it was last seen -/
theorem leaves_any {fr : Option Addr} {Q : Unit → Shared → Prop} (hZ : PXN.Steady1 Z) (hfr : A.frames = some (env :: outer)) (hf : env.frame = some L) (kb : g.StaysIn s.heap) (en : g.get? e = none) (hl : s.heap.FunFrames g (env :: outer))
    (ht : HandSPX.TracedZ s.heap g e Z (fr.elim Value.none fun f => rawInt f)) (hQ : ∀ h', HandSPX.FlyingZ g outer e Z h' → s.heap.UpToSlots h' → Q () { s with heap := h' }) : wpAny M A (leaving env (.ref e)) Q E s := by
  by_cases hv : fr = some L
  · subst hv
    exact HandSPX.leaves_heldZ hf ⟨kb, en, hl, ht⟩ hQ
  · have hb : ¬ ((fr.elim Value.none fun f => rawInt f) == rawInt L) = true := fun z => by
      cases fr with
      | none => simp [rawInt] at z
      | some f =>
        apply hv
        have : rawInt f = rawInt L := by simpa using z
        simp [rawInt] at this
        exact congrArg some (Int.ofNat_inj.mp this)
    obtain ⟨oe, vs, T, oT, ts, he, hz, hd, q1, nT, Te, hT, dT, q3⟩ := ht
    unfold leaving noteFrame
    simp only [hf]
    refine wpAny_bind (wpAny_bind (wpAny_field he hd q1 ?_))
    have yes : (Value.ref T != Value.none) = true := by simp
    rw [if_pos yes]
    refine wpAny_bind (wpAny_field hT dT q3 ?_)
    rw [if_neg hb]
    have sz3 : 3 < ts.size := (Array.getElem?_eq_some_iff.mp q3).1
    have sz1 : 1 < vs.size := (Array.getElem?_eq_some_iff.mp q1).1
    refine wpAny_bind (wpAny_setField hT dT sz3 ?_)
    have oth : ∀ b, b ≠ T → (s.heap.update T (Obj.mapFields fun a => a.setIfInBounds 3 Value.none)).get? b = s.heap.get? b := fun b n => Heap.get?_update_other _ _ n.symm
    have norec : ∀ b o, s.heap.get? b = some o → (∀ vs, o.data ≠ .fields vs) → b ≠ T := fun b o q nf z => by
      subst z
      rw [hT] at q
      cases q
      exact nf ts dT
    have fr2 := hl.of_keeps (h' := s.heap.update T (Obj.mapFields fun a => a.setIfInBounds 3 Value.none)) fun b o q nf => ⟨o, (oth b (norec b o q nf)).trans q, rfl⟩
    have kb2 : g.StaysIn (s.heap.update T (Obj.mapFields fun a => a.setIfInBounds 3 Value.none)) := fun b o q => by
      have nb : b ≠ T := fun z => by rw [z, nT] at q; cases q
      rw [oth b nb]; exact kb b o q
    have he2 : (s.heap.update T (Obj.mapFields fun a => a.setIfInBounds 3 Value.none)).get? e = some oe := by rw [oth e Te.symm]; exact he
    refine PXN.wpAny_newEntryZ hZ hfr fr2 hf he2 kb2 en hd sz1 hz fun h' nz => ?_
    obtain ⟨z1, ⟨_, _, z2⟩, z3, z4⟩ := nz
    refine hQ h' ⟨z1, en, z2, z3⟩ fun b o q nf => ?_
    exact z4 b o ((oth b (norec b o q nf)).trans q) nf
end
section
variable {X : Cx}
/-- the comprehension's block, where what is raised is E's -/
abbrev blkR (X : Cx) (s : Shared) (H : Hp) (scope : Scope) (ce : Env) (fp : List Addr) (E : XK) : Cx :=
  (X.blk s H scope ce fp).wish fun u t => ∃ pins σ H' s', Inv (X.blk s H scope ce fp) pins σ H' s' ∧ L2N.CX X.prog X.w X.stack H' s' E u t
theorem passB {s : Shared} {H : Hp} {scope : Scope} {ce : Env} {fp : List Addr} {E : XK} : Passes (L2N.CX X.prog X.w) (blkR X s H scope ce fp E) E := fun pins σ H' s' u t I c => ⟨pins, σ, H', s', I.unwish, c⟩
/-- f(e, ..) there -/
theorem pe_dB {s : Shared} {H : Hp} {scope : Scope} {ce : Env} {fp : List Addr} {E : XK} {k : Nat} {x : Str} {ps : List Str} {sp : Sp} {q pos : Pos} {e : Expr} {es : List Expr} {t : TA} (D : Keeps' X.prog X.w X.K X.mg X.base (L2N.CX X.prog X.w) k x ps sp) (hr : Room k X.A) (hg : Gl (blkR X s H scope ce fp E) x) (ha : PA (blkR X s H scope ce fp E) (e :: es) t)
    (hdb : (x == ("__debug__" : Str)) = false := by decide) (he : starEach (e :: es) ce = (false, eval e ce) :: starEach es ce := by rfl) (hpl : (backTo pos (starEach es ce)).any (·.1) = false := by rfl) :
    PE (blkR X s H scope ce fp E) (.Call (.Name x q) (e :: es) [] pos) (tD sp E t) := by
  obtain ⟨f, fd, a, b, c, d⟩ := D
  have h := pe_call (X := blkR X s H scope ce fp E) (pos := pos) (p := q) (E := E) d hr hg a b c .nil passB ha hdb he hpl
  rw [← tCall_nil]
  exact h
/-- it leaves the block, then the def -/
theorem comp_out {pins : List (Addr × Obj)} {s3 t : Shared} {σ : L2.St} {H3 : Hp} {scope : Scope} {ce : Env} {fp : List Addr} {E : XK} {E₁ : Value → Shared → Prop} {Qf : Value → Shared → Prop} {D : Addr} {u : Value}
    (hs : X.stack = X.env :: X.outer) (hf : X.env.frame = some X.env.locals) (hex : X.ex = []) (hx : X.xe = fun e s' => wpAny (model X.prog X.w) X.A (leaving X.env e) (fun _ s'' => L2N.CX X.prog X.w X.outer X.H_0 X.s_0 E e s'') E₁ s')
    (I3 : Inv X pins σ H3 s3) (hL : ce.locals = s3.heap.objs.size) (hcf : ce.frame = X.env.frame) (hfp : ∀ b ∈ fp, (b ∈ X.ex ∨ X.s_0.heap.objs.size ≤ b) ∧ b ≠ X.env.locals ∧ (∀ x c, X.env.cells.lookup x = some c → c ≠ b) ∧ ∀ p ∈ X.pn ++ pins, p.1 ≠ b)
    (xx : (blkR X s3 H3 scope ce fp E).xe u t) : notedBy (model X.prog X.w) X.A ce (fun e s' => compPost (model X.prog X.w) X.A X.xe none Qf (.ref D) s3.heap.objs.size (.error e) s') u t := by
  obtain ⟨pb, σb, Hb, sb, Ib, a, B, H', cls, d, rfl, fl, hok, ub, na, os, ag, hE⟩ := xx
  have J : Inv X pins σ Hb sb := I3.call' (ch := fp) Ib.os Ib.base Ib.hok Ib.bare hfp
  have nC : Hb s3.heap.objs.size = none := by
    have z : Hb ce.locals = none := Ib.free
    rw [hL] at z; exact z
  obtain ⟨m, hn, _⟩ := Ib.loc
  have hn : sb.heap.Ns ce.locals m := hn
  rw [hL] at hn
  obtain ⟨oC, _, _, eC, _⟩ := id hn
  have hCf : s3.heap.objs.size ∉ frs X.stack := fun z => by
    obtain ⟨_, o, ho, _⟩ := I3.stack.mem z
    exact absurd (Heap.lt_size ho) (Nat.lt_irrefl _)
  have eB : B.get? s3.heap.objs.size = some oC := ub.keep _ _ eC nC hCf
  have nC' : H' s3.heap.objs.size = none := ub.free _ _ eC nC
  have hfr : X.A.frames = some (X.env :: X.outer) := by rw [J.ok.frames, hs]
  have fl' : HandSPX.FlyingZ B (X.env :: X.outer) a (L2N.Zn cls d) t.heap := by rw [← hs]; exact fl
  have hCnf : ∀ vs, oC.data ≠ .fields vs := by
    obtain ⟨o, es, ep, e1, e2, _⟩ := id hn
    rw [eC] at e1
    cases e1
    intro vs z
    rw [e2] at z; cases z
  show wpAny _ _ (noteFrame (.ref a) ce) _ _ _
  rw [note_alike hcf]
  refine PXN.looks_onZ L2N.Zn.steady hfr hf fl' fun h1 hh up1 => ?_
  obtain ⟨kb1, en1, ff1, tr1⟩ := hh
  refine ⟨m, hn.at fun o e => kb1 _ _ (by rw [eC] at e; cases e; exact eB), fun h2 sb2 cenv' _ => ?_⟩
  -- the ground without the block's names
  generalize hG : PySem.W.hideAll B [s3.heap.objs.size] = G
  have gB : ∀ b o, G.get? b = some o → B.get? b = some o ∧ b ≠ s3.heap.objs.size := fun b o e => by
    rw [← hG] at e
    refine ⟨PySem.W.of_hideAll _ e, fun z => ?_⟩
    rw [z, PySem.W.hideAll_none _ (List.mem_singleton.mpr rfl)] at e
    cases e
  have Bg : ∀ b o, B.get? b = some o → b ≠ s3.heap.objs.size → G.get? b = some o := fun b o e n => by
    rw [← hG]
    exact PySem.W.hideAll_get _ e fun z => n (List.mem_singleton.mp z)
  have Gn : ∀ b, B.get? b = none → G.get? b = none := fun b e => by
    cases q : G.get? b with
    | none => rfl
    | some o => rw [(gB b o q).1] at e; cases e
  have kb2 : G.StaysIn h2 := fun b o e => by
    obtain ⟨e1, e2⟩ := gB b o e
    rw [sb2.2 b e2]; exact kb1 b o e1
  have neC : ∀ b, B.get? b = none → b ≠ s3.heap.objs.size := fun b e z => by rw [z, eB] at e; cases e
  have ffG : ∀ l, h1.FunFrames B l → h2.FunFrames G l := fun l => by
    induction l with
    | nil => exact fun _ => True.intro
    | cons ev r ih =>
      rintro ⟨q1, ⟨Lx, ox, q2, q3, q4, q5⟩, q6⟩
      exact ⟨q1, ⟨Lx, ox, q2, Gn _ q3, by rw [sb2.2 Lx (neC Lx q3)]; exact q4, q5⟩, ih q6⟩
  have ff2 := ffG _ ff1
  have tr2 : HandSPX.TracedZ h2 G a (L2N.Zn cls d) (rawInt X.env.locals) := by
    obtain ⟨oe, vs, T, oT, ts, he, hz, hd, q1, nT, Te, hT, dT, q3⟩ := tr1
    exact ⟨oe, vs, T, oT, ts, by rw [sb2.2 a (neC a en1)]; exact he, hz, hd, q1, Gn _ nT, Te, by rw [sb2.2 T (neC T nT)]; exact hT, dT, q3⟩
  -- passed on
  unfold PySem.passOn
  obtain ⟨oe, vs, T, oT, ts, he, hz, hd, q1, nT, Te, hT, dT, q3⟩ := id tr2
  refine wpAny_bind (wpAny_field he hd q1 ?_)
  have no : ¬ (Value.ref T == Value.none) = true := by simp
  rw [if_neg no]
  refine wpAny_bind (HandSPX.setFlight_anyZ kb2 ff2 tr2 fun h3 kb3 ff3 tr3 up3 => wpAny_throw ?_)
  rw [hx]
  refine leaves_any L2N.Zn.steady hfr hf kb3 (Gn _ en1) ff3 tr3 fun h4 fl4 up4 => ?_
  have nst : ∀ b o, X.s_0.heap.get? b = some o → b ∉ X.fs → b ∉ frs X.stack := fun b o e hb hm => by
    rcases List.mem_cons.mp (J.stkSub b hm) with z | z
    · have l1 := Heap.lt_size e
      have l2 := J.ok.above
      rw [z] at l1
      exact absurd (Nat.lt_of_lt_of_le l1 l2) (Nat.lt_irrefl _)
    · exact hb z
  have hex' : ∀ b, b ∉ X.ex := fun b hb => by rw [hex] at hb; cases hb
  have below : ∀ b o, X.s_0.heap.get? b = some o → b ≠ s3.heap.objs.size := fun b o e z => by
    have l1 := Heap.lt_size e
    rw [z] at l1
    exact absurd (Nat.lt_of_lt_of_le l1 I3.sz) (Nat.lt_irrefl _)
  refine ⟨a, G, H', cls, d, rfl, fl4, ?_, ⟨fun b o e n hb => ?_, fun b o e hb => ?_, fun b o e n => ?_, fun b o e hb => ?_, fun b xs e => ub.tups _ _ (J.base.tups _ _ e), fun b o xs e => ub.frzs _ _ _ (J.base.frzs _ _ _ e), fun b ps e => ?_⟩, na, os.trans J.os, ag, hE⟩
  · intro b o q
    refine (hok b o q).stay (fun c v hc r => Bg c v r fun z => ?_) (fun _ r => r) fun _ _ r => r
    rcases hc with hc | hc
    · rw [← z, hc, q] at nC'; cases nC'
    · rw [← z, hc] at nC'; cases nC'
  · have e1 := J.base.keep b o e n hb (hex' b)
    have n1 := J.base.free b o e n (hex' b)
    exact Bg _ _ (ub.keep b o e1 n1 (nst b o e hb)) (below b o e)
  · obtain ⟨_, o₀, e₀, hnf⟩ := J.ok.funs.mem hb
    rw [e] at e₀
    cases e₀
    obtain ⟨sl, e1⟩ := J.base.slot b o e (J.ok.frf b hb) hb (hex' b)
    have hbs : b ∈ frs X.stack := by rw [hs]; unfold frs; rw [List.filterMap_cons, hf]; exact List.mem_cons_of_mem _ hb
    obtain ⟨sl1, e2⟩ := ub.slot b _ e1 hbs
    obtain ⟨sl2, e3⟩ := up1 b _ e2 hnf
    have e4 := (sb2.2 b (below b o e)).trans e3
    obtain ⟨sl3, e5⟩ := up3 b _ e4 hnf
    obtain ⟨sl4, e6⟩ := up4 b _ e5 hnf
    exact ⟨sl4, e6⟩
  · by_cases hb : b ∈ frs X.stack
    · have n1 := J.base.free b o e n (hex' b)
      obtain ⟨o', e1⟩ := J.base.there b o e (hex' b)
      exact ub.free b o' e1 n1
    · have n1 := J.base.free b o e n (hex' b)
      obtain ⟨o', e1⟩ := J.base.there b o e (hex' b)
      exact ub.free b o' e1 n1
  · obtain ⟨o', e1⟩ := J.base.there b o e (hex' b)
    obtain ⟨o'', e2⟩ := ub.there b o' e1 (nst b o e hb)
    exact ⟨o'', Bg _ _ e2 (below b o e)⟩
  · obtain ⟨m1, e1⟩ := J.base.tbls b ps e
    obtain ⟨m2, e2⟩ := ub.tbls b _ e1
    exact ⟨m1 ++ m2, by rw [e2, Array.append_assoc]⟩
/-- [elt for target in iter if ..] in a def; what elt raises leaves it -/
theorem pe_lcX {E : XK} {E₁ : Value → Shared → Prop} {elt tg iter : Expr} {ifs : List Expr} {scope : Scope} {own : List (Str × Nat)} {pos : Pos} {wi : TI} {g : TG} {tt : TT} {te : TE} (hs : X.stack = X.env :: X.outer) (hf : X.env.frame = some X.env.locals) (hex : X.ex = [])
    (hx : X.xe = fun e s' => wpAny (model X.prog X.w) X.A (leaving X.env e) (fun _ s'' => L2N.CX X.prog X.w X.outer X.H_0 X.s_0 E e s'') E₁ s') (hc : X.calm = true) (hN : X.N.Nodup) (hi : PI X tg iter wi) (ok : BlkOk X.N X.env.scope scope own)
    (hg : ∀ (s : Shared) (H : Hp) (C : Addr) (cl : List (Str × Addr)) (fp : List Addr), PG (X.blk s H scope (compEnvC scope cl C X.env) fp) tg g) (ht : ∀ (s : Shared) (H : Hp) (C : Addr) (cl : List (Str × Addr)) (fp : List Addr), PTs (X.blk s H scope (compEnvC scope cl C X.env) fp) ifs tt)
    (he : ∀ (s : Shared) (H : Hp) (C : Addr) (cl : List (Str × Addr)) (fp : List Addr), PE (blkR X s H scope (compEnvC scope cl C X.env) fp E) elt te) (hfo : ∀ x, foldedSetIterable iter X.env x = pure x := by intro _; rfl) :
    PE X (.ListComp elt [⟨tg, iter, ifs, 0⟩] scope pos) (tLc wi g tt te (own.map (·.2))) := by
  refine ⟨fun pins sa σ Ha Q Ia hw => ?_⟩
  rw [eval_ListComp]
  have hfree : ∀ y ∈ scope.names, y.2 = .free → ∃ c, X.env.cells.lookup y.1 = some c := fun y hy e => (ok.free y hy e).elim (fun k => Ia.ok.has _ (.inl k)) fun k => Ia.ok.has _ (.inr k)
  refine wpAny_comprehension_free (use := none) rfl hfo (closure_ok hfree) ok.kind (fun y hy e => by rw [ok.uniq y hy, e]) ?_
  refine thn (hi.run pins sa σ Ha _ Ia hw) fun xv s1 q1 => thn q1 fun itv sb qb => ?_
  obtain ⟨it, fp, tn, J, Hb, e, Ib, T, stb, fb, q⟩ := qb
  subst e
  refine wpAny_newObj_type (newEnv_comp ?_) (by show 0 ≤ sizeLine; decide)
  generalize hD : sb.heap.objs.size = D
  have nD : Hb D = none := Ib.hok.fresh (Nat.le_of_eq hD)
  obtain ⟨W, ⟨m0, w0⟩, turn⟩ := q D nD
  generalize hsc : ({ sb with heap := sb.heap.push { cls := .type "list", data := .seq ([] : List Value).toArray } } : Shared) = sc
  have Ic : Inv X pins σ (upd Hb D (.lst [])) sc := by
    subst hsc
    refine Ib.laid (t' := sb.toks) (fun b o z => Heap.get?_push_of_some _ z) (Nat.le_of_eq hD) ⟨Nat.zero_le _, [], 0, .nil, ?_⟩
    subst hD
    exact Heap.get?_push_size _ rfl
  have hch : sc.heap = sb.heap.push { cls := .type "list", data := .seq ([] : List Value).toArray } := by subst hsc; rfl
  have lt : ∀ b ∈ fp, b < sb.heap.objs.size := fun b hb => let ⟨_, z, _⟩ := T.obj _ _ stb b hb; Heap.lt_size z
  have fc : ∀ b ∈ fp, FpOk X pins (upd Hb D (.lst [])) b ∧ b < sc.heap.objs.size := fun b hb => by
    have hlt := lt b hb
    have hbD : b ≠ D := by subst hD; exact Nat.ne_of_lt hlt
    refine ⟨⟨by rw [upd_ne hbD]; exact (fb b hb).1, (fb b hb).2⟩, ?_⟩
    rw [hch, Heap.size_push]
    exact Nat.lt_succ_of_lt hlt
  have stc : tn 0 sc.heap := T.keep _ _ _ stb fun b _ o z => by rw [hch]; exact Heap.get?_push_of_some _ z
  have Id := block_start Ic ok hN fc
  have pg := hg sc (upd Hb D (.lst [])) sc.heap.objs.size (cellsFrom (sc.heap.objs.size + 1) scope.names (cloFrom X.env.cells scope.names [])) fp
  have pt := ht sc (upd Hb D (.lst [])) sc.heap.objs.size (cellsFrom (sc.heap.objs.size + 1) scope.names (cloFrom X.env.cells scope.names [])) fp
  have pe := he sc (upd Hb D (.lst [])) sc.heap.objs.size (cellsFrom (sc.heap.objs.size + 1) scope.names (cloFrom X.env.cells scope.names [])) fp
  have nfp : ∀ b ∈ fp, (upd Hb D (.lst [])) b = none := fun b hb => (fc b hb).1.1
  show codeAny _ _ (.compStart _ 0 (.ref it) (.ref D) (compEnvC scope (cellsFrom (sc.heap.objs.size + 1) scope.names (cloFrom X.env.cells scope.names [])) sc.heap.objs.size X.env)) (compPost (model X.prog X.w) X.A X.xe none _ (.ref D) sc.heap.objs.size) { sc with heap := pushCells (sc.heap.push { cls := .type "dict", data := .dict #[] }) scope.names }
  generalize hce : compEnvC scope (cellsFrom (sc.heap.objs.size + 1) scope.names (cloFrom X.env.cells scope.names [])) sc.heap.objs.size X.env = ce at Id pg pt pe ⊢
  have ceL : ce.locals = sc.heap.objs.size := by subst hce; rfl
  have ceF : ce.frame = X.env.frame := by subst hce; rfl
  generalize hHc : upd Hb D (.lst []) = Hc at Ic Id pg pt pe w0 nfp fc
  generalize hsd : ({ sc with heap := pushCells (sc.heap.push { cls := .type "dict", data := .dict #[] }) scope.names } : Shared) = sd at Id ⊢
  have std : tn 0 sd.heap := T.keep _ _ _ stc fun b _ o z => by subst hsd; exact pushCells_keeps _ _ _ _ (Heap.get?_push_of_some _ z)
  have fch : ∀ b ∈ fp, (b ∈ X.ex ∨ X.s_0.heap.objs.size ≤ b) ∧ b ≠ X.env.locals ∧ (∀ x c, X.env.cells.lookup x = some c → c ≠ b) ∧ ∀ p ∈ X.pn ++ pins, p.1 ≠ b := fun b hb => ⟨(fc b hb).1.2.2.2.1, (fc b hb).1.2.1, (fc b hb).1.2.2.2.2.1, (fc b hb).1.2.2.2.2.2⟩
  have stat : ∀ {σ' : L2.St} {H' : Hp} {s' : Shared}, Inv (X.blk sc Hc scope ce fp) [] σ' H' s' → (∀ b ∈ fp, H' b = none) → ∀ b ∈ fp, FpOk (X.blk sc Hc scope ce fp) [] H' b := fun {σ' H' s'} I' hn b hb =>
    ⟨hn b hb, (I'.ok.exf b hb).1, I'.ok.exfs b hb, .inl hb, (I'.ok.exf b hb).2, fun p hp => by simp at hp⟩
  have loop : codeAny (model X.prog X.w) X.A (.compLoop (.ListComp elt [⟨tg, iter, ifs, 0⟩] scope pos) 0 (.ref it) (.ref D) ce) (compPost (model X.prog X.w) X.A X.xe none (EP X pins σ Q) (.ref D) sc.heap.objs.size) sd := by
    refine compLoop_any (fun n s' => ∃ i H', Inv (X.blk sc Hc scope ce fp) [] (wipe σ (own.map (·.2))) H' s' ∧ tn i s'.heap ∧ (∀ b ∈ fp, H' b = none) ∧ W i n H') ?_ m0 ⟨0, Hc, Id, std, nfp, w0⟩
    rintro n se ⟨i, He, Ie, ste, ne, we⟩
    rcases turn i n He we with ⟨stop, qq⟩ | ⟨go, Nx, hNx, step⟩
    · refine thnF (T.done (X.blk sc Hc scope ce fp) rfl rfl rfl hc i [] se _ He (fun _ _ => False) Ie (stat Ie ne) ste stop) fun r sf ⟨hr, If⟩ => ?_
      subst hr
      have Ig : Inv X pins σ He sf := Ic.call' (ch := fp) If.os If.base If.hok If.bare fch
      have nC : He sc.heap.objs.size = none := by
        have z : He ce.locals = none := If.free
        rw [ceL] at z; exact z
      obtain ⟨m, hn, _⟩ := If.loc
      have hn : sf.heap.Ns ce.locals m := hn
      rw [ceL] at hn
      obtain ⟨f0, f1, f2, f3, f4, f5⟩ := Ic.fpOk (H' := He) (Nat.le_refl sc.heap.objs.size) nC
      exact ⟨m, hn, fun h'' sb'' => ⟨.ref D, He, Ig.turned (t' := sf.toks) (fun b o hb z => (sb''.2 b hb).trans z) f0 f1 f3 f4 f5, rfl, qq⟩⟩
    · refine thnF (T.item (X.blk sc Hc scope ce fp) rfl rfl rfl hc i [] se _ He (fun _ _ => False) Ie (stat Ie ne) ste go) fun r sf ⟨u, hr, qf⟩ => ?_
      subst hr
      refine thnF qf fun _ sg ⟨x, Hg, Ig, rg, yg, stg, ng⟩ => ?_
      have Ig' := Ig.pinned (stat Ig ng) (T.obj _ _ stg)
      refine thnF (pg.run _ sg _ Hg x u _ Ig' rg (step x Hg yg)) fun _ sh ⟨σh, Hh, Ih, hwh, qh⟩ => ?_
      refine thnF (pt.run _ sh σh Hh _ Ih qh) fun b si ⟨Hi, Ii, qi⟩ => ?_
      have fin : ∀ {s' : Shared} {H' : Hp}, Inv (X.blk sc Hc scope ce fp) ([] ++ pinsAt fp sg.heap) σh H' s' → Nx H' → ∃ m, m < n ∧ ∃ i H', Inv (X.blk sc Hc scope ce fp) [] (wipe σ (own.map (·.2))) H' s' ∧ tn i s'.heap ∧ (∀ b ∈ fp, H' b = none) ∧ W i m H' := fun {s' H'} I' nx => by
        obtain ⟨m', hm, w'⟩ := hNx H' nx
        have pin' : ∀ b ∈ fp, ∀ o, sg.heap.get? b = some o → s'.heap.get? b = some o ∧ H' b = none := fun b hb o z =>
          let y := I'.pin (b, o) (List.mem_append_right _ (List.mem_append_right _ (mem_pinsAt hb z)))
          ⟨y.1, y.2.1⟩
        have hl : (wipe σ (own.map (·.2))).length = σh.length := by rw [← hwh, wipe_length]
        refine ⟨m', hm, i + 1, H', (I'.unpinned (pins := [])).weak hl (fun j v z => ?_), T.keep _ _ _ stg fun b hb o z => (pin' b hb o z).1, fun b hb => ?_, w'⟩
        · rw [← hwh] at z
          exact (wipe_some z).1
        · obtain ⟨o, z, _⟩ := T.obj _ _ stg b hb
          exact (pin' b hb o z).2
      cases b with
      | false => exact fin Ii qi
      | true =>
        have qi : te σh Hi _ := qi
        show wpAny _ _ (eval elt ce) _ _ _
        refine wpAny_mono (pe.run _ si σh Hi _ (Ii.wish _) qi) (fun z sj hj => ?_) fun u' t' hu => comp_out hs hf hex hx Ic ceL ceF fch hu
        obtain ⟨yv, Hj, Ij, rj, acc, eD, hz, nx⟩ := hj
        exact app_ok (X := X.blk sc Hc scope ce fp) Ij.unwish eD hz rj fun sk Ik => fin Ik nx
  exact codeAny_compStart_list loop (T.self X.A 0 _ _ _ std loop)
end
end Sv

set_option maxHeartbeats 4000000
namespace Sv
open PySem PySem.Spec PyProof.Rows L2 L2H HotX LamX
/-! ### the text: where its defs stand -/
def topS (i : Nat) : Stmt := PySem.Challenge.pw_stemvalues_k20_whole_texts.main.body.getD i (.Pass ⟨0, 0, 0, 0⟩)
abbrev s_is_whole : Stmt := topS 13
abbrev s_is_stem : Stmt := topS 14
abbrev s_is_bush : Stmt := topS 15
abbrev s_need_bush : Stmt := topS 16
abbrev s_format_bush : Stmt := topS 18
abbrev s_stem_of : Stmt := topS 19
abbrev s_parse_bush : Stmt := topS 20
abbrev s_law_cell : Stmt := topS 22
abbrev s_law_drawn : Stmt := topS 23
abbrev s_law_roll : Stmt := topS 24
abbrev s_law_rounds : Stmt := topS 25
abbrev s_law_term : Stmt := topS 26
abbrev s_law_told : Stmt := topS 27
abbrev s_law_any_bush : Stmt := topS 28
abbrev s_law : Stmt := topS 29
end Sv

set_option maxHeartbeats 4000000
namespace Sv
open PySem PySem.Spec PyProof.Rows L2 L2H HotX LamX
/-- the builtins' names are the builtins' still -/
structure Blt (mg : Str → Option Value) : Prop where
  len : mg "len" = none
  range : mg "range" = none
  max : mg "max" = none
  min : mg "min" = none
  isinstance : mg "isinstance" = none
  int : mg "int" = none
  sum : mg "sum" = none
  any : mg "any" = none
  all : mg "all" = none
  sorted : mg "sorted" = none
  set : mg "set" = none
  tuple : mg "tuple" = none
  list : mg "list" = none
  enumerate : mg "enumerate" = none
  str : mg "str" = none
  abs : mg "abs" = none
  bool : mg "bool" = none
  ve : mg "ValueError" = none
def bltB (K : PySem.W.Frag) : Bool := (["len", "range", "max", "min", "isinstance", "int", "sum", "any", "all", "sorted", "set", "tuple", "list", "enumerate", "str", "abs", "bool", "ValueError"] : List Str).all fun x => PySem.W.nsIn K mainGlobals x == some none
theorem blt_of {K : PySem.W.Frag} {mg : Str → Option Value} {h : Heap} (X : K.In h) (G : h.Ns mainGlobals mg) (e : bltB K = true) : Blt mg := by
  unfold bltB at e
  simp only [List.all_cons, List.all_nil, Bool.and_true, Bool.and_eq_true, beq_iff_eq] at e
  obtain ⟨h1, h2, h3, h4, h5, h6, h7, h8, h9, h10, h11, h12, h13, h14, h15, h16, h17, h18⟩ := e
  have n : ∀ {x : Str}, PySem.W.nsIn K mainGlobals x = some none → mg x = none := fun e => PySem.W.mg_none_of X G e
  exact ⟨n h1, n h2, n h3, n h4, n h5, n h6, n h7, n h8, n h9, n h10, n h11, n h12, n h13, n h14, n h15, n h16, n h17, n h18⟩
section
variable {P : Program} {w : World} {K : PySem.W.Frag} {mg : Str → Option Value} {base : Heap} {C : Nat → Addr} {CS : Addr}
/-! ### _law_term -/
theorem scTerm : FnScope ["e", "flags", "kinds"] ["e"] (defScope s_law_term) := ⟨rfl, rfl, rfl, by decide +kernel, rfl, by decide +kernel, by decide +kernel⟩
theorem k_term (F : Here K mg "_law_term" s_law_term) (B : Blt mg) (X : Excs K mg C CS) {a : Addr} {oe : Obj} {i : Nat} (hi : i < 10) (hz : Zc (.ref (C i)) none oe) (hf : ∃ vs, oe.data = .fields vs) :
    KeepsP P w K mg base (a, oe) 1 "_law_term" ["e"] (spTerm a i) := by
  refine keepsP F scTerm (fun _ _ _ _ _ _ us hl => match us, hl with | [_], _ => rfl) (fun vs H Q E h => by rw [h.1]; rfl) fun f cdv A outer s H vs Q E hot hr h => ?_
  obtain ⟨rfl, q⟩ := h
  have hC : HotC (cxH CX0 P w K mg base ["e", "flags", "kinds"] "_law_term" (defScope s_law_term) f cdv A outer s H E (a, oe)) := ⟨(a, oe), hot, List.mem_singleton.mpr rfl⟩
  have is : CallR (cxH CX0 P w K mg base ["e", "flags", "kinds"] "_law_term" (defScope s_law_term) f cdv A outer s H E (a, oe)) (.builtin "isinstance") (rIsE K (C i) a) := call_isP (X.cls i hi) (List.mem_singleton.mpr rfl) hz hf
  have g : ∀ j x, excNames[j]? = some x → mg x = some (.ref (C j)) := fun j x hx => (X.one j x hx).g
  refine ⟨_, pss_cons (st 1 scTerm.nd (pe_lstN (pa3 (pb is B.isinstance boot_isinstance (pa2 (pv 0) (pgl (g 0 _ rfl)))) (pb is B.isinstance boot_isinstance (pa2 (pv 0) (pgl (g 1 _ rfl)))) (pb is B.isinstance boot_isinstance (pa2 (pv 0) (pgl (g 2 _ rfl)))))))
    (pss_cons (st 1 scTerm.nd (pe_op op_catN (pv 1) (pe_lstN (pa3 (pb is B.isinstance boot_isinstance (pa2 (pv 0) (pgl (g 3 _ rfl)))) (pb is B.isinstance boot_isinstance (pa2 (pv 0) (pgl (g 4 _ rfl)))) (pb is B.isinstance boot_isinstance (pa2 (pv 0) (pgl (g 5 _ rfl))))))))
    (pss_cons (st 1 scTerm.nd (pe_op op_catN (pv 1) (pe_lstN (pa3 (pb is B.isinstance boot_isinstance (pa2 (pv 0) (pgl (g 6 _ rfl)))) (pb is B.isinstance boot_isinstance (pa2 (pv 0) (pgl (g 7 _ rfl)))) (pb is B.isinstance boot_isinstance (pa2 (pv 0) (pgl (g 8 _ rfl))))))))
    (pss_cons (st 1 scTerm.nd (pe_op op_catN (pv 1) (pe_lstN (pa1 (pb is B.isinstance boot_isinstance (pa2 (pv 0) (pgl (g 9 _ rfl))))))))
    (pss_cons (st 2 scTerm.nd (pe_lstN (pa_cons pe_str (pa_cons pe_str (pa_cons pe_str (pa3 pe_str pe_str pe_str))))))
    (pss_cons (st 2 scTerm.nd (pe_op op_catN (pv 2) (pe_lstN (pa_cons pe_str (pa3 pe_str pe_str pe_str)))))
    (pss_cons (ps_if (PW.pt (pw_or (pt_cmpR op_ne (pb (cr_sumH hC) B.sum boot_sum (pa1 (pe_lcIntH hC (pv 1) B.int rfl rfl rfl (by decide +kernel) (by decide +kernel) (by decide +kernel)))) pe_int (nomark _)) (pw_or1 (pt_not (pt_val (pb is B.isinstance boot_isinstance (pa2 (pv 0) (pty (n := "ValueError") B.ve (by decide +kernel)))))))))
      (pss_one (ps_ret (pe_tupN (pa2 pe_str pe_str))))
      (pss_nil))
    (pss_one (ps_ret (pe_tupN (pa2 pe_str (pe_ix (ix_listK K) (pv 2) (pe_bm PySem.F.plainAttrs_list PySem.F.slot_list_index PySem.F.type_list_index (mt_indexK K) (pv 1) (pa1 pe_bl)) (fun _ _ => rfl)))))))))))), ?_⟩
  refine ⟨_, rfl, _, _, _, rfl, fun _ r => r, X.apart i 0 hi (by decide), _, rfl, _, _, _, rfl, fun _ r => r, X.apart i 1 hi (by decide), _, rfl, _, _, _, rfl, fun _ r => r, X.apart i 2 hi (by decide), szl rfl, fun l1 H1 n1 s1 e1 => ?_⟩
  refine ⟨_, rfl, _, rfl, _, _, _, rfl, fun _ r => r, X.apart i 3 hi (by decide), _, rfl, _, _, _, rfl, fun _ r => r, X.apart i 4 hi (by decide), _, rfl, _, _, _, rfl, fun _ r => r, X.apart i 5 hi (by decide), szl rfl, fun m2 H2 k2 s2 f2 => ?_⟩
  refine ⟨l1, m2, _, _, rfl, rfl, s2 _ _ e1, f2, szl rfl, fun l2 H3 n2 s3 e2 => ?_⟩
  refine ⟨_, rfl, _, rfl, _, _, _, rfl, fun _ r => r, X.apart i 6 hi (by decide), _, rfl, _, _, _, rfl, fun _ r => r, X.apart i 7 hi (by decide), _, rfl, _, _, _, rfl, fun _ r => r, X.apart i 8 hi (by decide), szl rfl, fun m3 H4 k3 s4 f3 => ?_⟩
  refine ⟨l2, m3, _, _, rfl, rfl, s4 _ _ e2, f3, szl rfl, fun l3 H5 n3 s5 e3 => ?_⟩
  refine ⟨_, rfl, _, rfl, _, _, _, rfl, fun _ r => r, X.apart i 9 hi (by decide), szl rfl, fun m4 H6 k4 s6 f4 => ?_⟩
  refine ⟨l3, m4, _, _, rfl, rfl, s6 _ _ e3, f4, szl rfl, fun l4 H7 n4 s7 e4 => ?_⟩
  refine ⟨szl rfl, fun l5 H8 n5 s8 e5 => ?_⟩
  refine ⟨_, rfl, szl rfl, fun m6 H9 k6 s9 f6 => ?_⟩
  refine ⟨l5, m6, _, _, rfl, rfl, s9 _ _ e5, f6, szl rfl, fun l6 H10 n6 s10 e6 => ?_⟩
  have e4' : H10 l4 = some (.lst ((flagsOf i).map V.bl)) := s10 _ _ (s9 _ _ (s8 _ _ e4))
  -- sum([int(flag) for flag in flags]) != 1 or not isinstance(e, ValueError)
  refine ⟨_, rfl, l4, flagsOf i, rfl, SqL.of e4', fun D nD => ⟨D, _, rfl, SqL.of upd_same, rfl, _, rfl, ?_⟩⟩
  rw [flags_sum hi]
  refine iteF ⟨_, rfl, _, _, _, rfl, fun _ r => r, X.ve i hi, _, rfl, iteF ?_⟩
  -- ('error', kinds[flags.index(True)])
  have s11 := same_new (o := .lst (((flagsOf i).map fun b => if b then (1 : Int) else 0).map V.int)) nD
  have e4'' := s11 _ _ e4'
  refine ⟨_, rfl, _, rfl, .inl ⟨rfl, _, SqL.of e4''⟩, l4, (flagsOf i).map V.bl, .bl true, i, .bl true, rfl, rfl, SqL.of e4'', rfl, flags_flat i, flags_at hi, rfl, fun m z hm hz => flags_ne hm hz, ?_⟩
  refine ⟨l6, excNames.map V.str, (i : Int), .str (excNames.getD i ""), rfl, rfl, SqL.of (s11 _ _ e6), atI_nat ?_, szl rfl, fun r H12 nr s12 er => ?_⟩
  · rw [List.getElem?_map, List.getD_eq_getElem?_getD]
    cases e : excNames[i]? with
    | none => exact absurd (List.getElem?_eq_none_iff.mp e) (by show ¬ 10 ≤ i; omega)
    | some x => rfl
  · have sa := s1.trans (s2.trans (s3.trans (s4.trans (s5.trans (s6.trans (s7.trans (s8.trans (s9.trans (s10.trans s11)))))))))
    exact q _ r (sa.trans s12) (sa.free nr) er
end
/-! ### _law_told -/
theorem scTold : FnScope ["deed", "e"] ["deed"] (defScope s_law_told) := ⟨rfl, rfl, rfl, by decide +kernel, rfl, by decide +kernel, by decide +kernel⟩
theorem takesN0 {X : Cx} : L2N.Takes X (fun _ _ _ _ => False) := fun _ _ x => by
  obtain ⟨_, _, _, _, _, _, _, _, _, _, _, _, _, _, _, _, z⟩ := x
  exact z.elim
section
variable {X : Cx} {C : Nat → Addr} {CS : Addr}
theorem g_told (FT : Here X.K X.mg "_law_term" s_law_term) (B : Blt X.mg) (Ex : Excs X.K X.mg C CS) {g : Addr} {cdg : Value} {q : Str} {k : Nat} (hk : 1 ≤ k) :
    GivesN X ["deed", "e"] "_law_told" (defScope s_law_told) g cdg (defBody s_law_told) "deed" q k (TTerm C) := by
  intro f c' s H Q tl hr act hc h
  refine ⟨_, pss_one (L2N.ps_try_as (X := (cxOf CX0 X.prog X.w X.K X.mg X.base ["deed", "e"] "_law_told" (defScope s_law_told) g cdg X.A X.stack s H E0).nox) (c := .ref CS) (i := 1)
      (tb := fun W D σ H => ∃ Ech : XK, (∀ cls d (σ' : L2.St) H', σ'.length = 2 → Ech cls d H' → W cls d σ' H') ∧ σ[0]? = some (some (.ref f)) ∧ H c' = some (CodeO c' q) ∧ tl Ech H D.rt)
      (ts := fun a cls d D σ H => ∃ i, i < 10 ∧ cls = .ref (C i) ∧ d = none ∧ tRet (tD (spTerm a i) E0 (tCons (tVar 1) tNil)) D σ H)
      rfl rfl scTold.nd rfl rfl ⟨by rfl, by decide, .inl Ex.gS⟩ takesN0 (fun W pn xe tk _ => ?_) (fun a oe cls d pn hz hf => ?_)), ?_⟩
  · refine ⟨fun pins s' σ H' D I h' => ?_⟩
    obtain ⟨Ech, hW, h1, h2, h3⟩ := h'
    exact (pss_one (ps_ret (act W pn xe Ech _ _ tk hW))).run pins s' σ H' D I ⟨h1, h2, h3⟩
  · refine ⟨fun pins s' σ H' D I h' => ?_⟩
    obtain ⟨i, hi, rfl, rfl, h1⟩ := h'
    have kt := k_term (P := X.prog) (w := X.w) (base := X.base) FT B Ex (a := a) hi hz.zc hf
    obtain ⟨vs, hv⟩ := hf
    refine (pss_one (ps_ret (pe_dP (X := (cxOf CX0 X.prog X.w X.K X.mg X.base ["deed", "e"] "_law_told" (defScope s_law_told) g cdg X.A X.stack s H E0).nox.suite a ((a, oe) :: pn)) kt ?_ ?_ ?_ (by rfl) (pa1 (pv 1))))).run pins s' σ H' D I h1
    · exact ⟨(hr.mono hk).dp, (hr.mono hk).un⟩
    · exact ⟨rfl, vs, hv, hz.2.2 vs hv⟩
    · exact List.mem_cons_self
  · refine ⟨fun cls d H' => d = none ∧ ∃ i, i < 10 ∧ cls = .ref (C i) ∧ ∀ H'' p, Same H' H'' → H' p = none → H'' p = some (.tup [.str "error", .str (excNames.getD i "")]) → Q (.ref p) H'', fun cls d σ' H' hl hh => ?_, rfl, hc, h⟩
    obtain ⟨rfl, i, hi, rfl, hq⟩ := hh
    exact ⟨true, Ex.stem i hi, fun _ a na => ⟨i, hi, rfl, rfl, _, List.getElem?_set_self (by omega), rfl, hq⟩, fun z => nomatch z⟩
/-- what a def that calls _law_told with lambdas must know -/
structure ToldS (X : Cx) (C : Nat → Addr) (CS c P : Addr) : Prop where
  told : Here X.K X.mg "_law_told" s_law_told
  term : Here X.K X.mg "_law_term" s_law_term
  blt : Blt X.mg
  exc : Excs X.K X.mg C CS
  tab : TabB X.base X.mg c P
/-- the name under which the lambdas of the def n stand -/
abbrev qOf (n : Str) : Str := n ++ ".<locals>."
abbrev lawT (Pt : Addr) : List (Addr × Str) := [(Pt, qOf "law" ++ "<lambda>")]
theorem lawT_mem {Pt : Addr} : (Pt, qOf "law" ++ "<lambda>") ∈ lawT Pt := List.mem_singleton.mpr rfl
theorem lawT_one {Pt : Addr} : ∀ p ∈ lawT Pt, p.1 = Pt → p.2 = qOf "law" ++ "<lambda>" := fun p hp _ => by rw [List.mem_singleton.mp hp]
/-- _law_told(lambda: body) -/
theorem pe_told {CS c P : Addr} {T : List (Addr × Str)} (sc : Scope) (q : Str) {params : Arguments} {body : Expr} {scope : Scope} {t : XK → TE} {p lpos pos : Pos} {k : Nat} (S : ToldS X C CS c P) (hr : Room (k + 2) X.A)
    (hbody : ∀ (A : Around) (outer : List Env) (s : Shared) (H : Hp) (E : XK) (f c' : Addr), Room k (A.deeper (lamEnv X scope s.heap.objs.size f c')) → PE (lamN X A outer s H E scope f c') body (t E))
    (hmT : (P, q ++ "<lambda>") ∈ T) (hu : ∀ p ∈ T, p.1 = P → p.2 = q ++ "<lambda>")
    (hsc : X.env.scope = sc := by rfl) (hq : X.env.qual = q := by rfl)
    (L : lamSB sc scope = true := by decide +kernel) (hg : Gl X "_law_told" := by rfl) (hcode : X.env.code = .ref c := by rfl) (hdef : defaultsOf params X.env = ([], []) := by rfl)
    (hbind : ∀ (q : Str) (cl : List (Str × Addr)) (pm cv ctv : Value), bindArgs (PySem.W.kla_fn "<lambda>" q params body scope cl pm cv ctv) ⟨[], []⟩ = pure [] := by intros; rfl) :
    PE X (.Call (.Name "_law_told" p) [.Lambda params body scope lpos] [] pos) (tLam T (TTerm C) t) := by
  subst hsc
  subst hq
  exact pe_lamN (k := k) S.told hg (fun _ _ _ _ _ _ us hl => match us, hl with | [_], _ => rfl) scTold rfl (.inl rfl) (fun g cdv => g_told S.term S.blt S.exc (Nat.le_add_left 1 k)) S.tab hcode hmT hu hr (lamS_by L) hdef hbind hbody
end
end Sv

set_option maxHeartbeats 4000000
namespace Sv
open PySem PySem.Spec PyProof.Rows L2 L2H HotX LamX
section
variable {P : Program} {w : World} {K : PySem.W.Frag} {mg : Str → Option Value} {base : Heap}
/-! ### _law_cell -/
def spCell (K : PySem.W.Frag) : Sp := fun vs H Q _ => ∃ (a : Addr) (ns : List Int) (k : Int), vs = [.ref a, .int k] ∧ SqL K H a (ns.map V.int) ∧ ns.length ≤ 63 ∧ ∀ H' z, Same H H' → Q (.int z) H'
theorem scCell : FnScope ["script", "k"] ["script", "k"] (defScope s_law_cell) := ⟨rfl, rfl, rfl, by decide +kernel, rfl, by decide +kernel, by decide +kernel⟩
theorem dp_ints {K : PySem.W.Frag} {H : Hp} : ∀ ns : List Int, DpAll K H (ns.map V.int) (ns.map PyData.int)
  | [] => .nil
  | n :: r => .cons (.int n) (dp_ints r)
theorem canLay_ints : ∀ ns : List Int, PyData.canLayAll0 (ns.map PyData.int) = true
  | [] => rfl
  | n :: r => by rw [List.map_cons, PyData.canLayAll0, canLay_ints r]; rfl
theorem depth_ints : ∀ ns : List Int, PyData.depthAll (ns.map PyData.int) = 0
  | [] => rfl
  | n :: r => by rw [List.map_cons, PyData.depthAll, depth_ints r]; rfl
theorem shaped_ints (ns : List Int) : SeqAt.shaped (.list (ns.map PyData.int)) = true := by
  unfold SeqAt.shaped
  rw [PyData.canLay0, canLay_ints, PyData.depth, depth_ints]; rfl
theorem k_cell (F : Here K mg "_law_cell" s_law_cell) (B : Blt mg) : Keeps' P w K mg base CX0 1 "_law_cell" ["script", "k"] (spCell K) := by
  refine keeps0 F scCell (fun _ _ _ _ _ _ us hl => match us, hl with | [_, _], _ => rfl) (fun vs H Q E h => by obtain ⟨a, ns, k, e, _⟩ := h; rw [e]; rfl) fun f cdv A outer s H vs Q E hr h => ?_
  obtain ⟨a, ns, k, rfl, hS, hn, q⟩ := h
  refine ⟨_, pss_cons (ps_if (pt_cmpR (op_eqDK K hr.units) (pv 0) (pe_lstN pa_nil) (nomark _))
      (pss_one (ps_ret (pe_op op_mul (pv 1) pe_int)))
      (pss_nil))
    (pss_one (ps_ret (pe_op op_add (pe_ix (ix_listK K) (pv 0) (pe_op op_mod (pv 1) (pb (call_len_seqK K) B.len PySem.boot_len (pa1 (pv 0)))) (fun _ _ => rfl)) (pe_op op_mul (pe_op op_fdiv (pv 1) (pb (call_len_seqK K) B.len PySem.boot_len (pa1 (pv 0)))) pe_int)))), ?_⟩
  refine ⟨_, rfl, szl rfl, fun p H1 np s1 e1 => ⟨.list (ns.map PyData.int), .list [], .lst (s1.seq hS) (dp_ints ns), .lst (SqL.of e1) .nil, shaped_ints ns, rfl, _, rfl, ?_⟩⟩
  have hS1 := s1.seq hS
  refine ite2 (fun e => ?_) fun e => ?_
  · exact ⟨_, rfl, _, _, rfl, rfl, .inr ⟨by decide, by decide⟩, q _ _ s1⟩
  · have hpos : 0 < ns.length := by
      cases ns with
      | nil => exact absurd rfl e
      | cons x r => exact Nat.succ_pos _
    have hlen : ((ns.map V.int).length : Int) = ns.length := by rw [List.length_map]
    have hm : 0 ≤ k % (ns.length : Int) := Int.emod_nonneg _ (by omega)
    have hm2 : k % (ns.length : Int) < ns.length := Int.emod_lt_of_pos _ (by omega)
    obtain ⟨z, hz⟩ : ∃ z, ns[(k % (ns.length : Int)).toNat]? = some z := ⟨_, List.getElem?_eq_getElem (by omega)⟩
    refine ⟨_, rfl, _, rfl, _, rfl, a, _, rfl, .inl hS1, _, _, rfl, rfl, by rw [hlen]; omega, a, _, _, .int z, rfl, rfl, hS1, ?_, ?_⟩
    · rw [hlen]
      refine at_of (j := (k % (ns.length : Int)).toNat) (by omega) ?_
      rw [List.getElem?_map, hz]; rfl
    · exact ⟨_, rfl, _, rfl, a, _, rfl, .inl hS1, _, _, rfl, rfl, ⟨by rw [hlen]; omega, by rw [hlen]; omega⟩, _, _, rfl, rfl, .inr ⟨by decide, by decide⟩, _, _, rfl, rfl, q _ _ s1⟩
/-! ### _law_drawn -/
def spDrawn : Sp := fun vs H Q _ => ∃ (c k : Int), vs = [.int c, .int k] ∧ ∀ z, 0 ≤ z → Q (.int z) H
theorem scDrawn : FnScope ["cell", "k", "more"] ["cell", "k"] (defScope s_law_drawn) := ⟨rfl, rfl, rfl, by decide +kernel, rfl, by decide +kernel, by decide +kernel⟩
theorem k_drawn (F : Here K mg "_law_drawn" s_law_drawn) : Keeps' P w K mg base CX0 1 "_law_drawn" ["cell", "k"] spDrawn := by
  refine keeps0 F scDrawn (fun _ _ _ _ _ _ us hl => match us, hl with | [_, _], _ => rfl) (fun vs H Q E h => by obtain ⟨c, k, e, _⟩ := h; rw [e]; rfl) fun f cdv A outer s H vs Q E hr h => ?_
  obtain ⟨c, k, rfl, q⟩ := h
  refine ⟨_, pss_cons (st 2 scDrawn.nd (pe_op op_mod (pe_op op_add (pe_op op_mul (pv 0) pe_int) (pe_op op_mul (pe_op op_add (pv 1) pe_int) pe_int)) pe_int))
    (pss_cons (st 2 scDrawn.nd (pe_op op_mod (pe_op op_mulW (pv 2) (pv 2)) pe_int))
    (pss_cons (st 2 scDrawn.nd (pe_op op_mulW (pe_op op_mulW (pe_op op_add (pe_op op_mod (pv 2) pe_int) pe_int) (pe_op op_add (pe_op op_fdivW (pv 2) pe_int) pe_int)) (pv 2)))
    (pss_one (ps_ret (pe_op op_mod (pv 2) pe_int))))), ?_⟩
  refine ⟨_, rfl, _, _, rfl, rfl, .inr ⟨by decide, by decide⟩, _, rfl, _, _, rfl, rfl, _, _, rfl, rfl, .inr ⟨by decide, by decide⟩, _, _, rfl, rfl, _, _, rfl, rfl, (show (0 : Int) < 340282366920938463463374607431768211507 by decide), ?_⟩
  have e129 : (2 : Nat) ^ 129 = 680564733841876926926749214863536422912 := by decide
  have e65 : (2 : Nat) ^ 65 = 36893488147419103232 := by decide
  have n1 : ∀ x0 : Int, (x0 % 340282366920938463463374607431768211507).natAbs < 2 ^ 129 := fun x0 => by omega
  have n2 : ∀ x0 : Int, (x0 % 340282366920938463463374607431768211297).natAbs < 2 ^ 129 := fun x0 => by omega
  have m1 : ∀ x0 : Int, (x0 % 18446744073709551557 + 1).natAbs < 2 ^ 65 := fun x0 => by omega
  have m2 : ∀ x0 : Int, (x0 % 340282366920938463463374607431768211297 / 18446744073709551557 + 1).natAbs < 2 ^ 129 := fun x0 => by omega
  refine ⟨_, rfl, _, rfl, _, _, rfl, rfl, wide_mul (n1 _) (n1 _) (by decide) (by decide) (by decide), _, _, rfl, rfl, (show (0 : Int) < 340282366920938463463374607431768211297 by decide), ?_⟩
  refine ⟨_, rfl, _, _, rfl, rfl, (show (0 : Int) < 18446744073709551557 by decide), _, _, rfl, rfl, _, rfl, _, _, rfl, rfl, ⟨by decide, by decide⟩, _, _, rfl, rfl, ?_⟩
  refine ⟨_, _, rfl, rfl, wide_mul (m1 _) (m2 _) (by decide) (by decide) (by decide), _, rfl, _, _, rfl, rfl, wide_mul (wide_lt (m1 _) (m2 _)) (n2 _) (by decide) (by decide) (by decide), ?_⟩
  refine ⟨_, rfl, _, _, rfl, rfl, (show (0 : Int) < 340282366920938463463374607431768211507 by decide), ?_⟩
  exact q _ (Int.emod_nonneg _ (by decide))
/-! ### _law_roll -/
/-- the dice at d are two ints -/
def Dice (H : Hp) (d : Addr) : Prop := ∃ x y : Int, H d = some (.lst [.int x, .int y])
/-- all but the dice stays -/
structure Mv (d : Addr) (H H' : Hp) : Prop where
  keep : ∀ b o, H b = some o → b ≠ d → H' b = some o
  dice : Dice H' d
theorem Mv.trans {d : Addr} {H H1 H2 : Hp} (a : Mv d H H1) (b : Mv d H1 H2) : Mv d H H2 := ⟨fun c o e n => b.keep c o (a.keep c o e n) n, b.dice⟩
theorem Mv.same {d : Addr} {H H1 H2 : Hp} (a : Mv d H H1) (b : Same H1 H2) : Mv d H H2 := ⟨fun c o e n => b c o (a.keep c o e n), by obtain ⟨x, y, e⟩ := a.dice; exact ⟨x, y, b _ _ e⟩⟩
theorem Mv.of_same {d : Addr} {H H1 : Hp} (h : Dice H d) (b : Same H H1) : Mv d H H1 := ⟨fun c o e n => b c o e, by obtain ⟨x, y, e⟩ := h; exact ⟨x, y, b _ _ e⟩⟩
theorem Mv.ext {d : Addr} {H H1 : Hp} (h : Dice H d) (a : Mv d H H1) : Ext H H1 := by
  obtain ⟨x, y, e⟩ := h
  exact ⟨fun b xs q => a.keep b _ q (ne_of q e fun z => nomatch z), fun b o u q => a.keep b _ q (ne_of q e fun z => nomatch z)⟩
theorem Mv.free {d : Addr} {H H1 : Hp} (h : Dice H d) (a : Mv d H H1) {p : Addr} (e : H1 p = none) : H p = none := by
  cases q : H p with
  | none => rfl
  | some o =>
    by_cases hp : p = d
    · obtain ⟨x, y, z⟩ := a.dice
      rw [hp, z] at e; cases e
    · rw [a.keep p o q hp] at e; cases e
def spRoll : Sp := fun vs H Q _ => ∃ (d : Addr) (many : Int), vs = [.ref d, .int many] ∧ Dice H d ∧ 0 < many ∧ many < 1000000 ∧ ∀ H' z, Mv d H H' → 0 ≤ z → z < many → Q (.int z) H'
theorem scRoll : FnScope ["dice", "many", "told"] ["dice", "many"] (defScope s_law_roll) := ⟨rfl, rfl, rfl, by decide +kernel, rfl, by decide +kernel, by decide +kernel⟩
theorem mv_upd {d : Addr} {H : Hp} {x y : Int} : Mv d H (upd H d (.lst [.int x, .int y])) := ⟨fun b o e n => by rw [upd_ne n]; exact e, x, y, upd_same⟩
theorem k_roll (F : Here K mg "_law_roll" s_law_roll) (d_drawn : Keeps' P w K mg base CX0 1 "_law_drawn" ["cell", "k"] spDrawn) : Keeps' P w K mg base CX0 2 "_law_roll" ["dice", "many"] spRoll := by
  refine keeps0 F scRoll (fun _ _ _ _ _ _ us hl => match us, hl with | [_, _], _ => rfl) (fun vs H Q E h => by obtain ⟨c, k, e, _⟩ := h; rw [e]; rfl) fun f cdv A outer s H vs Q E hr h => ?_
  obtain ⟨d, many, rfl, ⟨x, y, e⟩, h0, h1, q⟩ := h
  refine ⟨_, pss_cons (ps_if (pt_cmpR op_ge (pe_ix (ix_listK K) (pv 0) pe_int (fun _ _ => rfl)) (pe_op op_pow pe_int pe_int) (nomark _))
      (pss_cons (st 2 scRoll.nd (pe_op op_mod (pe_ix (ix_listK K) (pv 0) pe_int (fun _ _ => rfl)) (pv 1)))
        (pss_cons (ps_asg (pe_op op_fdiv (pe_ix (ix_listK K) (pv 0) pe_int (fun _ _ => rfl)) (pv 1)) (pg_sub (pv 0) pe_int set_list))
        (pss_one (ps_ret (pv 2)))))
      (pss_nil))
    (pss_cons (ps_asg (pe_op op_add (pe_ix (ix_listK K) (pv 0) pe_int (fun _ _ => rfl)) pe_int) (pg_sub (pv 0) pe_int set_list))
    (pss_one (ps_ret (pe_op op_mod (pe_op op_fdiv (pe_d0 d_drawn (hr.mono (by decide)) (by rfl) (pa2 (pe_ix (ix_listK K) (pv 0) pe_int (fun _ _ => rfl)) (pe_ix (ix_listK K) (pv 0) pe_int (fun _ _ => rfl)))) pe_int) (pv 1))))), ?_⟩
  refine ⟨_, rfl, d, _, 0, _, rfl, rfl, SqL.of e, atI_nat (j := 0) rfl, _, _, rfl, rfl, ⟨by decide, by decide, by decide⟩, _, _, rfl, rfl, _, rfl, ite2 (fun c => ?_) fun c => ?_⟩
  · refine ⟨_, rfl, d, _, 0, _, rfl, rfl, SqL.of e, atI_nat (j := 0) rfl, _, rfl, _, _, rfl, rfl, h0, ?_⟩
    refine ⟨_, rfl, d, _, 0, _, rfl, rfl, SqL.of e, atI_nat (j := 0) rfl, _, rfl, _, _, rfl, rfl, ⟨h0, by omega⟩, _, rfl, d, _, 0, 0, rfl, rfl, e, rfl, _, rfl, ?_⟩
    exact q _ _ mv_upd (Int.emod_nonneg _ (by omega)) (Int.emod_lt_of_pos _ h0)
  · refine ⟨_, rfl, d, _, 1, _, rfl, rfl, SqL.of e, atI_nat (j := 1) rfl, _, _, rfl, rfl, _, rfl, d, _, 1, 1, rfl, rfl, e, rfl, ?_⟩
    have e2 : (upd H d (.lst [.int x, .int (y + 1)])) d = some (.lst [.int x, .int (y + 1)]) := upd_same
    refine ⟨_, rfl, d, _, 0, _, rfl, rfl, SqL.of e2, atI_nat (j := 0) rfl, _, rfl, d, _, 1, _, rfl, rfl, SqL.of e2, atI_nat (j := 1) rfl, _, _, rfl, fun z hz => ?_⟩
    refine ⟨_, _, rfl, rfl, ⟨by decide, by decide⟩, _, rfl, _, _, rfl, rfl, h0, ?_⟩
    exact q _ _ mv_upd (Int.emod_nonneg _ (by omega)) (Int.emod_lt_of_pos _ h0)
/-! ### _law_rounds -/
def spRounds (K : PySem.W.Frag) : Sp := fun vs H Q _ => ∃ (a : Addr) (ns : List Int) (most : Int), vs = [.ref a, .int most] ∧ SqL K H a (ns.map V.int) ∧ ns.length ≤ 63 ∧ most ≤ 63 ∧
  ∀ H' p (ds : List Addr), Same H H' → H p = none → H' p = some (.lst (ds.map V.ref)) → (∀ d ∈ ds, H d = none ∧ Dice H' d) → Q (.ref p) H'
theorem scRounds : FnScope ["script", "most", "k"] ["script", "most"] (defScope s_law_rounds) := ⟨rfl, rfl, rfl, by decide +kernel, rfl, by decide +kernel, by decide +kernel⟩
theorem k_rounds (F : Here K mg "_law_rounds" s_law_rounds) (B : Blt mg) (d_cell : Keeps' P w K mg base CX0 1 "_law_cell" ["script", "k"] (spCell K)) : Keeps' P w K mg base CX0 2 "_law_rounds" ["script", "most"] (spRounds K) := by
  refine keeps0 F scRounds (fun _ _ _ _ _ _ us hl => match us, hl with | [_, _], _ => rfl) (fun vs H Q E h => by obtain ⟨a, ns, k, e, _⟩ := h; rw [e]; rfl) fun f cdv A outer s H vs Q E hr h => ?_
  obtain ⟨a, ns, most, rfl, hS, hn, hm, q⟩ := h
  refine ⟨_, pss_one (ps_ret (pe_lc (own := [("k", 2)]) rfl scRounds.nd (pi_range1 (by rfl) B.range (pa1 (pb (call_max2 rfl) B.max boot_max (pa2 pe_int (pb (call_min2 rfl) B.min boot_min (pa2 (pv 1) (pb (call_len_seqK K) B.len PySem.boot_len (pa1 (pv 0))))))))) (blkOk_by (own := [("k", 2)]) (N := ["script", "most", "k"]) (sc := defScope s_law_rounds) (by decide +kernel)) (fun _ _ _ _ _ => pgn 2 scRounds.nd) (fun _ _ _ _ _ => pts_nil) (fun _ _ _ _ _ => pe_lstN (pa2 (pe_d0 d_cell (hr.mono (by decide)) (by rfl) (pa2 (pv 0) (pv 2))) pe_int)))), ?_⟩
  have hl : ((ns.map V.int).length : Int) = ns.length := by rw [List.length_map]
  refine ⟨_, rfl, _, rfl, a, _, rfl, .inl hS, _, _, rfl, _, _, rfl, _, rfl, ?_, ?_, ?_⟩
  · show (-(2 ^ 62) : Int) ≤ if (if ((ns.map V.int).length : Int) < most then ((ns.map V.int).length : Int) else most) > 1 then _ else 1
    repeat' split
    all_goals omega
  · show (if (if ((ns.map V.int).length : Int) < most then ((ns.map V.int).length : Int) else most) > 1 then (if ((ns.map V.int).length : Int) < most then ((ns.map V.int).length : Int) else most) else 1) < 2 ^ 62
    repeat' split
    all_goals omega
  refine lc_J (walk_range (lo := 0)) Same (fun D i ys H' => ∃ ds : List Addr, ys = ds.map V.ref ∧ ∀ d ∈ ds, H d = none ∧ d ≠ D ∧ Dice H' d) (goes_same H) ?_ (fun _ _ => trivial) (fun _ _ => ⟨[], rfl, fun _ z => nomatch z⟩) ?_ ?_ ?_
  · refine szlt (Nat.ble_eq_true_of_le (Nat.le_trans (m := 63) ?_ (by decide)))
    show (if (if ((ns.map V.int).length : Int) < most then ((ns.map V.int).length : Int) else most) > 1 then (if ((ns.map V.int).length : Int) < most then ((ns.map V.int).length : Int) else most) else 1).toNat ≤ 63
    repeat' split
    all_goals omega
  · rintro D i ys H1 H2 nD x k ⟨ds, e, h⟩
    refine ⟨ds, e, fun d hd => ?_⟩
    obtain ⟨h1, h2, x, y, h3⟩ := h d hd
    exact ⟨h1, h2, x, y, k d _ h2 h3⟩
  · rintro D E E0 i x ys H1 H2 nD eD hi t ⟨ds, e, h⟩ ⟨rfl, rfl⟩ f1 f0
    refine ⟨rfl, ⟨_, rfl, _, rfl, a, ns, _, rfl, t.seq hS, hn, fun H3 z s3 => ⟨szl rfl, fun p H4 np s4 e4 => ?_⟩⟩⟩
    refine f1 _ H4 (s3.trans s4) ⟨ds ++ [p], by rw [e, List.map_append]; rfl, fun d hd => ?_⟩
    rcases List.mem_append.mp hd with hd | hd
    · obtain ⟨h1, h2, x, y, h3⟩ := h d hd
      exact ⟨h1, h2, x, y, s4 _ _ (s3 _ _ h3)⟩
    · rw [List.mem_singleton.mp hd]
      exact ⟨t.free (s3.free np), (ne_of_none (s3 _ _ eD) np).symm, _, _, e4⟩
  · rintro D H1 ys nD t eD _ ⟨ds, e, h⟩
    rw [e] at eD
    exact q H1 D ds t nD eD fun d hd => ⟨(h d hd).1, (h d hd).2.2⟩
end
end Sv

set_option maxHeartbeats 4000000
namespace Sv
open PySem PySem.Spec PyProof.Rows L2 L2H HotX LamX
/-! ### what every round of a law leaves as it was: the rounds' list, the dice, the tables -/
structure Live (T : List (Addr × Str)) (p : Addr) (ds : List Addr) (H : Hp) : Prop where
  rounds : H p = some (.lst (ds.map V.ref))
  dice : ∀ d ∈ ds, Dice H d
  tabs : Tabs T H
section
variable {T : List (Addr × Str)} {p d l : Addr} {ds : List Addr} {H H' : Hp}
theorem Dice.same (h : Dice H d) (s : Same H H') : Dice H' d := let ⟨x, y, e⟩ := h; ⟨x, y, s _ _ e⟩
theorem Live.same (h : Live T p ds H) (s : Same H H') : Live T p ds H' := ⟨s _ _ h.rounds, fun d hd => (h.dice d hd).same s, fun q hq => (h.tabs q hq).ext s⟩
theorem Live.extN (h : Live T p ds H) (x : ExtN H H') (t : Tabs T H') : Live T p ds H' :=
  ⟨x _ _ h.rounds (fun _ z => nomatch z), fun d hd => let ⟨a, b, e⟩ := h.dice d hd; ⟨a, b, x _ _ e (fun _ z => nomatch z)⟩, t⟩
theorem dice_ne (h : H p = some (.lst (ds.map V.ref))) (k : Dice H d) : p ≠ d := fun z => by
  obtain ⟨x, y, e⟩ := k
  rw [z, e] at h
  cases ds with
  | nil => cases h
  | cons a t => cases h
theorem Live.mv (h : Live T p ds H) (m : Mv d H H') (k : Dice H d) : Live T p ds H' := by
  refine ⟨m.keep _ _ h.rounds (dice_ne h.rounds k), fun e he => ?_, ?_⟩
  · by_cases z : e = d
    · rw [z]; exact m.dice
    · obtain ⟨x, y, q⟩ := h.dice e he
      exact ⟨x, y, m.keep _ _ q z⟩
  · obtain ⟨x, y, q⟩ := k
    exact tabs_keep h.tabs q fun b o e n => m.keep b o e n
theorem Live.put {xs ys : List V} (h : Live T p ds H) (e : H l = some (.lst xs)) (h1 : l ≠ p) (h2 : l ∉ ds) : Live T p ds (upd H l (.lst ys)) := by
  refine ⟨by rw [upd_ne h1.symm]; exact h.rounds, fun d hd => ?_, ?_⟩
  · obtain ⟨x, y, q⟩ := h.dice d hd
    exact ⟨x, y, by rw [upd_ne (show d ≠ l from fun z => h2 (z ▸ hd))]; exact q⟩
  · exact tabs_keep h.tabs e fun b o e n => by rw [upd_ne n]; exact e
theorem Live.fresh (h : Live T p ds H) (n : H l = none) : l ≠ p ∧ l ∉ ds := ⟨fun z => (by rw [z, h.rounds] at n; cases n), fun z => by obtain ⟨x, y, q⟩ := h.dice l z; rw [q] at n; cases n⟩
theorem Live.get (h : Live T p ds H) {i : Nat} {x : V} (e : (ds.map V.ref)[i]? = some x) : ∃ d, x = .ref d ∧ d ∈ ds ∧ Dice H d := by
  rw [List.getElem?_map] at e
  cases q : ds[i]? with
  | none => rw [q] at e; cases e
  | some d =>
    rw [q] at e
    cases e
    exact ⟨d, rfl, List.mem_of_getElem? q, h.dice d (List.mem_of_getElem? q)⟩
theorem Dice.ne (h : Dice H d) (n : H l = none) : l ≠ d := by
  obtain ⟨x, y, e⟩ := h
  exact (ne_of_none e n).symm
theorem Mv.lst {xs : List V} (m : Mv d H H') (e : H l = some (.lst xs)) (n : l ≠ d) : H' l = some (.lst xs) := m.keep l _ e n
/-- what _law_told tells of the i-th exception -/
def errD (i : Nat) : PyData := .tuple [.str "error", .str (excNames.getD i "")]
theorem exc_ok : ∀ i, i < 10 → PyData.strOk (excNames.getD i "") = true := by decide +kernel
theorem at_err {K : PySem.W.Frag} {i : Nat} (hi : i < 10) {a : Addr} (h : H a = some (.tup [.str "error", .str (excNames.getD i "")])) : At K H (.ref a) (errD i) :=
  At.tupO h (.cons (.str (by decide +kernel)) (.cons (.str (exc_ok i hi)) .nil))
theorem seq_extN {K : PySem.W.Frag} {a : Addr} {xs : List V} (x : ExtN H H') (h : SqL K H a xs) : SqL K H' a xs := by
  rcases h with (h | ⟨o, h⟩) | h
  · exact .inl (.inl (x _ _ h (fun _ z => nomatch z)))
  · exact .inl (.inr ⟨o, x _ _ h (fun _ z => nomatch z)⟩)
  · exact .inr h
mutual
theorem dp_extN {K : PySem.W.Frag} (x : ExtN H H') : ∀ (d : PyData) (v : V), Dp K H v d → Dp K H' v d
  | .none, _, h => by cases h; exact .non
  | .int i, _, h => by cases h; exact .int i
  | .str z, _, h => by cases h; exact .str z
  | .bool z, _, h => by cases h; exact .bl z
  | .tuple ds, _, h => by
    cases h with
    | tup s t => exact .tup ((extN_ext x).sqT s) (dpAll_extN x ds _ t)
  | .list ds, _, h => by
    cases h with
    | lst s t => exact .lst (seq_extN x s) (dpAll_extN x ds _ t)
  | .dict _, _, h => by cases h
theorem dpAll_extN {K : PySem.W.Frag} (x : ExtN H H') : ∀ (ds : List PyData) (vs : List V), DpAll K H vs ds → DpAll K H' vs ds
  | [], _, h => by cases h; exact .nil
  | d :: ds, _, h => by
    cases h with
    | cons a t => exact .cons (dp_extN x d _ a) (dpAll_extN x ds _ t)
end
end
end Sv

set_option maxHeartbeats 4000000
namespace Sv
open PySem PySem.Spec PyProof.Rows L2 L2H HotX LamX
section
variable {P : Program} {w : World} {K : PySem.W.Frag} {mg : Str → Option Value} {base : Heap}
/-! ### is_whole -/
def whole (d : PyData) (lo hi : Int) : Bool := match d with
  | .int i => decide (lo ≤ i) && decide (i ≤ hi)
  | _ => false
def spWhole (K : PySem.W.Frag) : Sp := fun vs H Q _ => ∃ v d lo hi, vs = [v, .int lo, .int hi] ∧ Dp K H v d ∧ Q (.bl (whole d lo hi)) H
theorem scWhole : FnScope ["value", "low", "high"] ["value", "low", "high"] (defScope s_is_whole) := ⟨rfl, rfl, rfl, by decide +kernel, rfl, by decide +kernel, by decide +kernel⟩
theorem k_whole (F : Here K mg "is_whole" s_is_whole) (B : Blt mg) : Keeps' P w K mg base CX0 1 "is_whole" ["value", "low", "high"] (spWhole K) := by
  refine keeps0 F scWhole (fun _ _ _ _ _ _ us hl => match us, hl with | [_, _, _], _ => rfl) (fun vs H Q E h => by obtain ⟨_, _, _, _, e, _⟩ := h; rw [e]; rfl) fun f cdv A outer s H vs Q E hr h => ?_
  obtain ⟨v, d, lo, hi, rfl, hd, q⟩ := h
  refine ⟨_, pss_one (ps_ret (pe_and (pb (call_isDK K) B.isinstance boot_isinstance (pa2 (pv 0) (pty B.int boot_int))) (pe_and (pe_not (pb (call_isDK K) B.isinstance boot_isinstance (pa2 (pv 0) (pty B.bool boot_bool)))) (pe_one (pe_chain op_le op_le (pv 1) (pv 0) (pv 2)))))), ?_⟩
  refine ⟨_, rfl, _, _, d, rfl, hd, .inl rfl, _, rfl, ?_⟩
  cases hd with
  | int i =>
    refine ⟨_, rfl, _, _, _, rfl, .int i, .inr (.inl rfl), _, rfl, _, rfl, ?_⟩
    refine ⟨_, rfl, _, rfl, _, _, rfl, rfl, _, rfl, ?_⟩
    show if decide (lo ≤ i) = true then _ else _
    by_cases h1 : lo ≤ i
    · rw [decide_eq_true h1]
      refine ⟨_, rfl, _, _, rfl, rfl, ?_⟩
      have q : Q (.bl (decide (lo ≤ i) && decide (i ≤ hi))) H := q
      rw [decide_eq_true h1, Bool.true_and] at q
      exact q
    · rw [decide_eq_false h1]
      have q : Q (.bl (decide (lo ≤ i) && decide (i ≤ hi))) H := q
      rw [decide_eq_false h1, Bool.false_and] at q
      exact iteF q
  | bl b => exact ⟨_, rfl, _, _, _, rfl, .bl b, .inr (.inl rfl), _, rfl, _, rfl, q⟩
  | non => exact q
  | str x => exact q
  | lst _ _ => exact q
  | tup _ _ => exact q
theorem whole_int {d : PyData} {lo hi : Int} (h : whole d lo hi = true) : ∃ i, d = .int i ∧ lo ≤ i ∧ i ≤ hi := by
  cases d with
  | int i =>
    have h : (decide (lo ≤ i) && decide (i ≤ hi)) = true := h
    rw [Bool.and_eq_true, decide_eq_true_eq, decide_eq_true_eq] at h
    exact ⟨i, rfl, h.1, h.2⟩
  | _ => cases h
end
end Sv

set_option maxHeartbeats 4000000
namespace Sv
open PySem PySem.Spec PyProof.Rows L2 L2H HotX LamX
inductive Col where | w | b | g
  deriving DecidableEq
def Col.s : Col → Str
  | .w => "w"
  | .b => "b"
  | .g => "g"
abbrev Bsh := List (Int × Col)
/-- a bush as data -/
def stemD (s : Int × Col) : PyData := .tuple [.int s.1, .str s.2.s]
def bushD (b : Bsh) : PyData := .tuple (b.map stemD)
def isCol (d : PyData) : Bool := match d with
  | .str x => ([Col.w.s, Col.b.s, Col.g.s] : List Str).contains x
  | _ => false
def isStem (d : PyData) (n : Int) : Bool := match d with
  | .tuple [a, c] => whole a (-1) (n - 1) && isCol c
  | _ => false
def stemAt (ds : List PyData) (j : Nat) : Bool := isStem (ds.getD j .none) j
def stemsOk (ds : List PyData) : Bool := ((List.range ds.length).map (stemAt ds)).all id
def isBush (d : PyData) : Bool := match d with
  | .tuple ds => decide (ds.length ≤ 7) && stemsOk ds
  | _ => false
/-- what is_bush asks of a bush -/
structure BushOk (b : Bsh) : Prop where
  len : b.length ≤ 7
  low : ∀ (i : Nat) (s : Int × Col), b[i]? = some s → -1 ≤ s.1 ∧ s.1 < i
/-- the same, with more stems -/
structure BushLo (b : Bsh) : Prop where
  len : b.length ≤ 100
  low : ∀ (i : Nat) (s : Int × Col), b[i]? = some s → -1 ≤ s.1 ∧ s.1 < i
theorem BushOk.lo {b : Bsh} (h : BushOk b) : BushLo b := ⟨Nat.le_trans h.len (by decide), h.low⟩
theorem inV_strs (u : Str) : ∀ l : List Str, inV (.str u) (l.map V.str) = l.contains u
  | [] => rfl
  | x :: r => by
    show (eqV (.str x) (.str u) || inV (.str u) (r.map V.str)) = _
    rw [inV_strs u r, List.contains_cons]
    have : eqV (.str x) (.str u) = (u == x) := by
      show (x == u) = (u == x)
      exact Bool.beq_comm
    rw [this]
section
variable {P : Program} {w : World} {K : PySem.W.Frag} {mg : Str → Option Value} {base : Heap} {C : Nat → Addr} {CS : Addr}
/-! ### is_stem -/
def spIsStem (K : PySem.W.Frag) : Sp := fun vs H Q _ => ∃ v d n, vs = [v, .int n] ∧ Dp K H v d ∧ ∀ H', Same H H' → Q (.bl (isStem d n)) H'
theorem scIsStem : FnScope ["value", "number"] ["value", "number"] (defScope s_is_stem) := ⟨rfl, rfl, rfl, by decide +kernel, rfl, by decide +kernel, by decide +kernel⟩
theorem k_is_stem (F : Here K mg "is_stem" s_is_stem) (B : Blt mg) (d_whole : Keeps' P w K mg base CX0 1 "is_whole" ["value", "low", "high"] (spWhole K)) : Keeps' P w K mg base CX0 2 "is_stem" ["value", "number"] (spIsStem K) := by
  refine keeps0 F scIsStem (fun _ _ _ _ _ _ us hl => match us, hl with | [_, _], _ => rfl) (fun vs H Q E h => by obtain ⟨_, _, _, e, _⟩ := h; rw [e]; rfl) fun f cdv A outer s H vs Q E hr h => ?_
  obtain ⟨v, d, n, rfl, hd, q⟩ := h
  refine ⟨_, pss_cons (ps_if (PW.pt (pw_or (pt_not (pt_val (pb (call_isDK K) B.isinstance boot_isinstance (pa2 (pv 0) (pty B.tuple boot_tuple))))) (pw_or (pt_cmpR op_ne (pb (call_len_seqK K) B.len PySem.boot_len (pa1 (pv 0))) pe_int (nomark _)) (pw_or1 (pt_not (pt_val (pe_d0 d_whole (hr.mono (by decide)) (by rfl) (pa3 (pe_ix (ix_tupK K) (pv 0) pe_int (fun _ _ => rfl)) (pe_un un_neg pe_int) (pe_op op_sub (pv 1) pe_int)))))))))
      (pss_one (ps_ret pe_bl))
      (pss_nil))
    (pss_one (ps_ret (pe_and (pb (call_isDK K) B.isinstance boot_isinstance (pa2 (pe_ix (ix_tupK K) (pv 0) pe_int (fun _ _ => rfl)) (pty B.str boot_str))) (pe_one (pe_cmpR (op_in_seqK K) (pe_ix (ix_tupK K) (pv 0) pe_int (fun _ _ => rfl)) (pe_tupN (pa3 pe_str pe_str pe_str)) (by rfl)))))), ?_⟩
  refine ⟨_, rfl, _, _, d, rfl, hd, .inr (.inr (.inr rfl)), _, rfl, ?_⟩
  cases hd with
  | non => exact q _ (Same.refl H)
  | bl b => exact q _ (Same.refl H)
  | int i => exact q _ (Same.refl H)
  | str x => exact q _ (Same.refl H)
  | lst _ _ => exact q _ (Same.refl H)
  | @tup a vs ds hs ht =>
    refine iteF ⟨_, rfl, a, vs, rfl, .inr hs, rfl, _, rfl, ?_⟩
    have hl := AtAll.len ht
    by_cases h2 : ds.length = 2
    · obtain ⟨d0, d1, rfl⟩ : ∃ d0 d1, ds = [d0, d1] := by
        match ds, h2 with
        | [x, y], _ => exact ⟨x, y, rfl⟩
      obtain ⟨v0, e0, p0⟩ := dpAll_get (i := 0) ht rfl
      obtain ⟨v1, e1, p1⟩ := dpAll_get (i := 1) ht rfl
      obtain rfl : vs = [v0, v1] := by
        match vs, hl, e0, e1 with
        | [x, y], _, e0, e1 => simp at e0 e1; rw [e0, e1]
      refine iteF ⟨_, rfl, a, _, 0, v0, rfl, rfl, hs, atI_nat (j := 0) rfl, _, rfl, _, rfl, _, _, rfl, rfl, v0, d0, -1, n - 1, rfl, p0, _, rfl, ?_⟩
      have qn : ∀ H', Same H H' → Q (.bl (whole d0 (-1) (n - 1) && isCol d1)) H' := q
      cases hw : whole d0 (-1) (n - 1) with
      | false =>
        rw [hw, Bool.false_and] at qn
        exact qn _ (Same.refl H)
      | true =>
        rw [hw, Bool.true_and] at qn
        refine ⟨_, rfl, a, _, 1, v1, rfl, rfl, hs, atI_nat (j := 1) rfl, _, _, d1, rfl, p1, .inr (.inr (.inl rfl)), _, rfl, ?_⟩
        cases p1 with
        | non => exact qn _ (Same.refl H)
        | bl b => exact qn _ (Same.refl H)
        | int i => exact qn _ (Same.refl H)
        | lst _ _ => exact qn _ (Same.refl H)
        | tup _ _ => exact qn _ (Same.refl H)
        | str x =>
          refine iteT ⟨_, rfl, a, _, 1, _, rfl, rfl, hs, atI_nat (j := 1) rfl, szl rfl, fun p H1 np s1 e1 => ⟨p, ([Col.w.s, Col.b.s, Col.g.s] : List Str).map V.str, rfl, .inr (SqT.of e1), rfl, rfl, ?_⟩⟩
          show Q (.bl (inV (.str x) (([Col.w.s, Col.b.s, Col.g.s] : List Str).map V.str))) H1
          rw [inV_strs]
          exact qn _ s1
    · have hne : ¬ ((vs.length : Int) = 2) := by omega
      have e : isStem (.tuple ds) n = false := by
        match ds, h2 with
        | [], _ => rfl
        | [_], _ => rfl
        | _ :: _ :: _ :: _, _ => rfl
        | [x, y], h => exact absurd rfl h
      rw [e] at q
      rw [decide_eq_false (fun z => hne (V.int.inj z))]
      exact q _ (Same.refl H)
/-! ### is_bush -/
def spIsBush (K : PySem.W.Frag) : Sp := fun vs H Q _ => ∃ v d, vs = [v] ∧ Dp K H v d ∧ ∀ H', Same H H' → Q (.bl (isBush d)) H'
theorem scIsBush : FnScope ["value", "number", "one"] ["value"] (defScope s_is_bush) := ⟨rfl, rfl, rfl, by decide +kernel, rfl, by decide +kernel, by decide +kernel⟩
theorem k_is_bush (F : Here K mg "is_bush" s_is_bush) (B : Blt mg) (d_stem : Keeps' P w K mg base CX0 2 "is_stem" ["value", "number"] (spIsStem K)) : Keeps' P w K mg base CX0 3 "is_bush" ["value"] (spIsBush K) := by
  refine keeps0 F scIsBush (fun _ _ _ _ _ _ us hl => match us, hl with | [_], _ => rfl) (fun vs H Q E h => by obtain ⟨_, _, e, _⟩ := h; rw [e]; rfl) fun f cdv A outer s H vs Q E hr h => ?_
  obtain ⟨v, d, rfl, hd, q⟩ := h
  refine ⟨_, pss_cons (ps_if (PW.pt (pw_or (pt_not (pt_val (pb (call_isDK K) B.isinstance boot_isinstance (pa2 (pv 0) (pty B.tuple boot_tuple))))) (pw_or1 (pt_cmpR op_gt (pb (call_len_seqK K) B.len PySem.boot_len (pa1 (pv 0))) pe_int (nomark _)))))
      (pss_one (ps_ret pe_bl))
      (pss_nil))
    (pss_one (ps_ret (pb (cr_allK K rfl) B.all boot_all (pa1 (pe_lc (own := [("number", 1), ("one", 2)]) rfl scIsBush.nd (pi_enumT K (by rfl) B.enumerate (pa1 (pv 0))) (blkOk_by (own := [("number", 1), ("one", 2)]) (N := ["value", "number", "one"]) (sc := defScope s_is_bush) (by decide +kernel)) (fun _ _ _ _ _ => pg_tupK K (n := 2) rfl (pgs_cons (pgn 1 scIsBush.nd) (pgs_cons (pgn 2 scIsBush.nd) pgs_nil))) (fun _ _ _ _ _ => pts_nil) (fun _ _ _ _ _ => pe_d0 d_stem (hr.mono (by decide)) (by rfl) (pa2 (pv 2) (pv 1)))))))), ?_⟩
  refine ⟨_, rfl, _, _, d, rfl, hd, .inr (.inr (.inr rfl)), _, rfl, ?_⟩
  cases hd with
  | non => exact q _ (Same.refl H)
  | bl b => exact q _ (Same.refl H)
  | int i => exact q _ (Same.refl H)
  | str x => exact q _ (Same.refl H)
  | lst _ _ => exact q _ (Same.refl H)
  | @tup a vs ds hs ht =>
    refine iteF ⟨_, rfl, a, vs, rfl, .inr hs, _, _, rfl, rfl, _, rfl, ?_⟩
    have hl := AtAll.len ht
    have q : ∀ H', Same H H' → Q (.bl (decide (ds.length ≤ 7) && stemsOk ds)) H' := q
    by_cases h7 : ds.length ≤ 7
    · rw [decide_eq_true h7, Bool.true_and] at q
      refine ite2 (fun z => absurd (of_decide_eq_true z) (by omega)) fun _ => ?_
      refine ⟨_, rfl, a, vs, rfl, hs, ?_⟩
      refine lc_J (walk_enumT (xs := vs)) Same (fun D i ys H' => ys = ((List.range i).map (stemAt ds)).map V.bl) (goes_same H) (by rw [sizeLine_eq]; omega) (fun H' t => (Same.ext t).sqT hs) (fun _ _ => rfl) (fun _ _ _ _ _ _ _ _ r => r) ?_ ?_
      · rintro D E E0 i x ys H1 H2 nD eD hi t rfl ⟨T, y, rfl, nT, s2, eT, hy⟩ k1 k0
        refine ⟨T, _, rfl, SqT.of eT, rfl, _, _, rfl, _, _, rfl, rfl, rfl, ?_⟩
        obtain ⟨d, hd⟩ : ∃ d, ds[i]? = some d := ⟨ds[i]'(by omega), List.getElem?_eq_getElem (by omega)⟩
        obtain ⟨y', hy', pd⟩ := dpAll_get ht hd
        rw [hy] at hy'
        cases hy'
        refine ⟨_, rfl, _, rfl, y, d, _, rfl, dp_same (t.trans s2) _ _ pd, fun H3 s3 => k1 _ _ (s2.trans s3) ?_⟩
        rw [List.range_succ, List.map_append, List.map_append]
        show _ = _ ++ [V.bl (isStem (ds.getD i .none) i)]
        rw [List.getD_eq_getElem?_getD, hd]
        rfl
      · rintro D H1 ys nD t eD _ rfl
        rw [hl] at eD
        exact ⟨D, _, rfl, SqL.of eD, q _ t⟩
    · rw [decide_eq_false h7, Bool.false_and] at q
      refine ite2 (fun _ => q _ (Same.refl H)) fun z => absurd (decide_eq_true (show (7 : Int) < vs.length by omega)) z
end
end Sv

set_option maxHeartbeats 4000000
namespace Sv
open PySem PySem.Spec PyProof.Rows L2 L2H HotX LamX
/-! ### bushes as data -/
theorem isCol_iff {d : PyData} : isCol d = true ↔ ∃ c : Col, d = .str c.s := by
  constructor
  · intro h
    match d, h with
    | .str x, h =>
      have h : ([Col.w.s, Col.b.s, Col.g.s] : List Str).contains x = true := h
      rw [List.contains_iff_mem] at h
      simp only [List.mem_cons, List.not_mem_nil, or_false] at h
      rcases h with h | h | h
      · exact ⟨.w, by rw [h]⟩
      · exact ⟨.b, by rw [h]⟩
      · exact ⟨.g, by rw [h]⟩
    | .none, h | .bool _, h | .int _, h | .list _, h | .dict _, h | .tuple _, h => cases h
  · rintro ⟨c, rfl⟩
    cases c <;> decide
theorem isStem_iff {d : PyData} {n : Int} : isStem d n = true ↔ ∃ s : Int × Col, d = stemD s ∧ -1 ≤ s.1 ∧ s.1 < n := by
  constructor
  · intro h
    match d, h with
    | .tuple [a, c], h =>
      have h : (whole a (-1) (n - 1) && isCol c) = true := h
      rw [Bool.and_eq_true] at h
      obtain ⟨i, rfl, h1, h2⟩ := whole_int h.1
      obtain ⟨c, rfl⟩ := isCol_iff.mp h.2
      exact ⟨(i, c), rfl, h1, by dsimp only; omega⟩
    | .none, h | .bool _, h | .int _, h | .str _, h | .list _, h | .dict _, h => cases h
    | .tuple [], h | .tuple [_], h | .tuple (_ :: _ :: _ :: _), h => cases h
  · rintro ⟨s, rfl, h1, h2⟩
    show (whole (.int s.1) (-1) (n - 1) && isCol (.str s.2.s)) = true
    rw [Bool.and_eq_true]
    refine ⟨?_, isCol_iff.mpr ⟨_, rfl⟩⟩
    show (decide (-1 ≤ s.1) && decide (s.1 ≤ n - 1)) = true
    rw [decide_eq_true h1, decide_eq_true (show s.1 ≤ n - 1 by omega)]; rfl
theorem isBush_iff {d : PyData} : isBush d = true ↔ ∃ b : Bsh, d = bushD b ∧ BushOk b := by
  constructor
  · intro h
    match d, h with
    | .tuple ds, h =>
      have h : (decide (ds.length ≤ 7) && stemsOk ds) = true := h
      rw [Bool.and_eq_true, decide_eq_true_eq] at h
      obtain ⟨h7, h⟩ := h
      unfold stemsOk at h
      rw [List.all_eq_true] at h
      have hs : ∀ j, j < ds.length → ∃ s : Int × Col, ds[j]? = some (stemD s) ∧ -1 ≤ s.1 ∧ s.1 < j := fun j hj => by
        have := h _ (List.mem_map.mpr ⟨j, List.mem_range.mpr hj, rfl⟩)
        have this : isStem (ds.getD j .none) j = true := this
        obtain ⟨s, e, h1, h2⟩ := isStem_iff.mp this
        refine ⟨s, ?_, h1, h2⟩
        rw [List.getD_eq_getElem?_getD, List.getElem?_eq_getElem hj] at e
        rw [List.getElem?_eq_getElem hj, ← e]; rfl
      have key : ∀ n, n ≤ ds.length → ∃ b : Bsh, b.length = n ∧ ds.take n = b.map stemD ∧ ∀ (i : Nat) (s : Int × Col), b[i]? = some s → -1 ≤ s.1 ∧ s.1 < i := by
        intro n
        induction n with
        | zero => exact fun _ => ⟨[], rfl, rfl, fun i s z => by simp at z⟩
        | succ n ih =>
          intro hn
          obtain ⟨b, e1, e2, e3⟩ := ih (by omega)
          obtain ⟨s, hs1, hs2, hs3⟩ := hs n (by omega)
          refine ⟨b ++ [s], by rw [List.length_append, e1]; rfl, ?_, fun i t ht => ?_⟩
          · rw [List.take_add_one, hs1, e2, List.map_append]; rfl
          · by_cases hi : i < n
            · rw [List.getElem?_append_left (by omega)] at ht
              exact e3 i t ht
            · rw [List.getElem?_append_right (by omega)] at ht
              have : i - b.length = 0 := by
                have := (List.getElem?_eq_some_iff.mp ht).1
                simp at this
                omega
              rw [this] at ht
              cases ht
              have : i = n := by omega
              rw [this]
              exact ⟨hs2, hs3⟩
      obtain ⟨b, e1, e2, e3⟩ := key ds.length (Nat.le_refl _)
      rw [List.take_length] at e2
      exact ⟨b, by rw [e2]; rfl, by omega, e3⟩
    | .none, h | .bool _, h | .int _, h | .str _, h | .list _, h | .dict _, h => cases h
  · rintro ⟨b, rfl, h⟩
    show (decide ((b.map stemD).length ≤ 7) && stemsOk (b.map stemD)) = true
    rw [List.length_map, decide_eq_true h.len, Bool.true_and]
    unfold stemsOk
    rw [List.all_eq_true]
    intro x hx
    obtain ⟨j, hj, rfl⟩ := List.mem_map.mp hx
    rw [List.mem_range, List.length_map] at hj
    refine isStem_iff.mpr ⟨b[j], ?_, h.low j _ (List.getElem?_eq_getElem hj)⟩
    rw [List.getD_eq_getElem?_getD, List.getElem?_map, List.getElem?_eq_getElem hj]; rfl
theorem col_ok (c : Col) : PyData.strOk c.s = true := by cases c <;> decide +kernel
theorem pl_stem (s : Int × Col) : pl (stemD s) = true := by
  show (true && (PyData.strOk s.2.s && true)) = true
  rw [col_ok]; rfl
theorem pl_stems : ∀ b : Bsh, plAll (b.map stemD) = true
  | [] => rfl
  | s :: b => by rw [List.map_cons, plAll, pl_stem, pl_stems b]; rfl
theorem pl_bush (b : Bsh) : pl (bushD b) = true := pl_stems b
theorem depth_stems : ∀ b : Bsh, PyData.depthAll (b.map stemD) ≤ 1
  | [] => by decide
  | s :: b => by
    rw [List.map_cons, PyData.depthAll]
    have := depth_stems b
    have : (stemD s).depth = 1 := rfl
    omega
theorem bush_depth {b : Bsh} : (bushD b).depth ≤ 64 := by
  show PyData.depthAll (b.map stemD) + 1 ≤ 64
  have := depth_stems b
  omega
theorem stemD_inj {s t : Int × Col} (h : stemD s = stemD t) : s = t := by
  obtain ⟨i, c⟩ := s
  obtain ⟨j, e⟩ := t
  have h1 : (PyData.int i) = .int j ∧ (PyData.str c.s) = .str e.s := by
    have := congrArg (fun d => match d with | PyData.tuple [x, y] => (x, y) | _ => (.none, .none)) h
    exact Prod.mk.inj this
  have h2 : i = j := PyData.int.inj h1.1
  have h3 : c.s = e.s := PyData.str.inj h1.2
  have h4 : c = e := by
    cases c <;> cases e <;> first | rfl | (exact absurd h3 (by decide))
  rw [h2, h4]
theorem bushD_inj {a b : Bsh} (h : bushD a = bushD b) : a = b := by
  have h := PyData.tuple.inj h
  exact (List.map_inj_right (fun _ _ => stemD_inj)).mp h
theorem stem_at {K : PySem.W.Frag} {H : Hp} {v : V} {s : Int × Col} (h : At K H v (stemD s)) : ∃ a, v = .ref a ∧ SqT K H a [.int s.1, .str s.2.s] := by
  obtain ⟨a, vs, rfl, hs, _, hd⟩ := At.inv (ds := [.int s.1, .str s.2.s]) h
  cases hd with
  | cons x r =>
    cases x
    cases r with
    | cons y r2 => cases y; cases r2; exact ⟨a, rfl, hs⟩
theorem at_stem {K : PySem.W.Frag} {H : Hp} {a : Addr} {s : Int × Col} (h : H a = some (.tup [.int s.1, .str s.2.s])) : At K H (.ref a) (stemD s) := At.tupO h (.cons (.int s.1) (.cons (.str (col_ok _)) .nil))
theorem bush_at {K : PySem.W.Frag} {H : Hp} {v : V} {b : Bsh} (h : At K H v (bushD b)) : ∃ a vs, v = .ref a ∧ SqT K H a vs ∧ AtAll K H vs (b.map stemD) ∧ vs.length = b.length := by
  obtain ⟨a, vs, e, h1, h2⟩ := At.inv h
  exact ⟨a, vs, e, h1, h2, by rw [AtAll.len h2.2, List.length_map]⟩
/-- the i-th stem -/
theorem bush_get {K : PySem.W.Frag} {H : Hp} {vs : List V} {b : Bsh} {i : Nat} {v : V} (h : AtAll K H vs (b.map stemD)) (e : vs[i]? = some v) : ∃ s a, b[i]? = some s ∧ v = .ref a ∧ SqT K H a [.int s.1, .str s.2.s] := by
  obtain ⟨d, h1, h2⟩ := h.get e
  rw [List.getElem?_map] at h1
  cases q : b[i]? with
  | none => rw [q] at h1; cases h1
  | some s =>
    rw [q] at h1
    cases h1
    obtain ⟨a, h3, h4⟩ := stem_at h2
    exact ⟨s, a, rfl, h3, h4⟩
section
variable {P : Program} {w : World} {K : PySem.W.Frag} {mg : Str → Option Value} {base : Heap} {C : Nat → Addr} {CS : Addr}
/-! ### need_bush -/
def spNeedBush (K : PySem.W.Frag) (C : Nat → Addr) : Sp := fun vs H Q E => ∃ v d, vs = [v] ∧ Dp K H v d ∧ (isBush d = true → ∀ H', Same H H' → Q .non H') ∧ (isBush d = false → ∀ H', Same H H' → E (.ref (C 0)) none H')
theorem scNeedBush : FnScope ["bush"] ["bush"] (defScope s_need_bush) := ⟨rfl, rfl, rfl, by decide +kernel, rfl, by decide +kernel, by decide +kernel⟩
theorem k_need_bush (F : Here K mg "need_bush" s_need_bush) (O : ExcOne K mg "InvalidBush" (C 0)) (d_bush : Keeps' P w K mg base CX0 3 "is_bush" ["value"] (spIsBush K)) : Keeps' P w K mg base (L2N.CX P w) 4 "need_bush" ["bush"] (spNeedBush K C) := by
  refine keepsN F scNeedBush (fun _ _ _ _ _ _ us hl => match us, hl with | [_], _ => rfl) (fun vs H Q E h => by obtain ⟨_, _, e, _⟩ := h; rw [e]; rfl) fun f cdv A outer s H vs Q E hr h => ?_
  obtain ⟨v, d, rfl, hd, q1, q2⟩ := h
  refine ⟨_, pss_one (ps_if (pt_not (pt_val (pe_d0 d_bush (hr.mono (by decide)) (by rfl) (pa1 (pv 0)))))
      (pss_one (ps_raiseN rfl O (by rfl) rfl rfl rfl rfl))
      (pss_nil)), ?_⟩
  refine ⟨_, rfl, _, _, rfl, hd, fun H1 s1 => ⟨_, rfl, ?_⟩⟩
  cases hn : isBush d with
  | true => exact q1 hn _ s1
  | false => exact q2 hn _ s1
end
/-! ### _law_any_bush -/
def Col.code : Col → Nat
  | .w => 119
  | .b => 98
  | .g => 103
def colStr (cs : List Col) : Str := ⟨(cs.map Col.code).toArray⟩
theorem col_code (c : Col) : c.s = ⟨#[c.code]⟩ := by cases c <;> rfl
section
variable {P : Program} {w : World} {K : PySem.W.Frag} {mg : Str → Option Value} {base : Heap} {C : Nat → Addr} {CS : Addr}
def spAnyBush (K : PySem.W.Frag) : Sp := fun vs H Q _ => ∃ (d : Addr) (most : Int) (cs : List Col), vs = [.ref d, .int most, .str (colStr cs)] ∧ Dice H d ∧ 0 ≤ most ∧ most ≤ 7 ∧ 0 < cs.length ∧ cs.length < 100 ∧
  ∀ H' p b, Mv d H H' → H p = none → At K H' (.ref p) (bushD b) → BushOk b → b.length ≤ most → (∀ s ∈ b, s.2 ∈ cs) → Q (.ref p) H'
theorem scAnyBush : FnScope ["dice", "most", "colours", "act", "found", "number", "below"] ["dice", "most", "colours"] (defScope s_law_any_bush) := ⟨rfl, rfl, rfl, by decide +kernel, rfl, by decide +kernel, by decide +kernel⟩
theorem k_any_bush (F : Here K mg "_law_any_bush" s_law_any_bush) (B : Blt mg) (d_roll : Keeps' P w K mg base CX0 2 "_law_roll" ["dice", "many"] spRoll) : Keeps' P w K mg base CX0 3 "_law_any_bush" ["dice", "most", "colours"] (spAnyBush K) := by
  refine keeps0 F scAnyBush (fun _ _ _ _ _ _ us hl => match us, hl with | [_, _, _], _ => rfl) (fun vs H Q E h => by obtain ⟨_, _, _, e, _⟩ := h; rw [e]; rfl) fun f cdv A outer s H vs Q E hr h => ?_
  obtain ⟨d, most, cs, rfl, hD, hm0, hm7, hc0, hc9, q⟩ := h
  refine ⟨_, pss_cons (ps_par (i := 3) (j := 4) rfl scAnyBush.nd rfl rfl (by decide) rfl rfl (pa2 (pe_d0 d_roll (hr.mono (by decide)) (by rfl) (pa2 (pv 0) pe_int)) (pe_lstN pa_nil)) (by rfl))
    (pss_cons (ps_for PassesOwn.never rfl (pi_range1 (by rfl) B.range (pa1 (pe_d0 d_roll (hr.mono (by decide)) (by rfl) (pa2 (pv 0) (pe_op op_add (pv 1) pe_int))))) (pgn 5 scAnyBush.nd)
      (pss_cut (st 6 scAnyBush.nd (pe_ifExp (pt_cmpR op_eq (pv 3) pe_int (nomark _)) (pe_op op_sub (pv 5) pe_int) (pe_op op_sub (pe_d0 d_roll (hr.mono (by decide)) (by rfl) (pa2 (pv 0) (pe_op op_add (pv 5) pe_int))) pe_int)))
        (pss_one (ps_expr (pe_bm PySem.F.plainAttrs_list PySem.F.slot_list_append PySem.F.type_list_append mt_append (pv 4) (pa1 (pe_tupN (pa2 (pv 6) (pe_ix ix_str (pv 2) (pe_d0 d_roll (hr.mono (by decide)) (by rfl) (pa2 (pv 0) (pb call_len_str B.len PySem.boot_len (pa1 (pv 2))))) (fun _ _ => rfl))))))))))
    (pss_one (ps_ret (pbt (call_tupleK K) B.tuple boot_tuple (pa1 (pv 4)))))), ?_⟩
  have hlen : (colStr cs).length = cs.length := by
    show ((cs.map Col.code).toArray).size = _
    simp
  refine ⟨_, rfl, d, 4, rfl, hD, by decide, by decide, fun H1 z1 m1 _ _ => ⟨szl rfl, fun l H2 nl s2 el => ?_⟩⟩
  have hD1 := m1.dice
  refine ⟨_, _, rfl, _, rfl, _, rfl, _, _, rfl, rfl, d, _, rfl, hD1.same s2, by omega, by omega, fun H3 n m3 n0 n1 => ?_⟩
  have hld : l ≠ d := hD1.ne nl
  have m13 : Mv d H H3 := (m1.same s2).trans m3
  have nlH : H l = none := Mv.free hD (m1) nl
  refine ⟨n, rfl, by omega, by omega, for_it (walk_range (lo := 0)) (fun i σ H' => ∃ y5 y6 vs b, σ = [some (.ref d), some (.int most), some (.str (colStr cs)), some (.int z1), some (.ref l), y5, y6] ∧ Mv d H H' ∧ H' l = some (.lst vs) ∧
    AtAll K H' vs (b.map stemD) ∧ b.length = i ∧ (∀ (i : Nat) (s : Int × Col), b[i]? = some s → -1 ≤ s.1 ∧ s.1 < i) ∧ ∀ s ∈ b, s.2 ∈ cs)
    ⟨none, none, [], [], rfl, m13, m3.lst el hld, AtAll.nil, rfl, (fun i s z => by rw [List.getElem?_nil] at z; cases z), (fun _ z => nomatch z)⟩ (fun _ _ _ _ _ => trivial) ?_ ?_⟩
  · rintro i x σ H4 H4' hi ⟨y5, y6, vs, b, rfl, m4, el4, hvs, hb, hlow, hcol⟩ ⟨rfl, rfl⟩
    have hi7 : i ≤ 6 := by omega
    have D4 := m4.dice
    refine ⟨fun σ H' => ∃ below : Int, σ = [some (.ref d), some (.int most), some (.str (colStr cs)), some (.int z1), some (.ref l), some (.int (0 + (i : Nat))), some (.int below)] ∧ Mv d H4' H' ∧ -1 ≤ below ∧ below < i, ?_, ?_⟩
    · refine ⟨_, rfl, rfl, _, rfl, ?_⟩
      refine ite2 (fun _ => ⟨_, rfl, _, _, rfl, rfl, 0 + (i : Nat) - 1, rfl, Mv.of_same D4 (Same.refl _), by omega, by omega⟩) fun _ => ?_
      refine ⟨_, rfl, _, rfl, _, _, rfl, rfl, d, _, rfl, D4, by omega, by omega, fun H5 z m5 z0 z9 => ⟨_, _, rfl, rfl, z - 1, rfl, m5, by omega, by omega⟩⟩
    · rintro σ H5 ⟨below, rfl, m5, b0, b1⟩
      have D5 := m5.dice
      have el5 := m5.lst el4 hld
      refine ⟨_, rfl, .inl ⟨rfl, _, SqL.of el5⟩, _, rfl, _, rfl, _, rfl, _, rfl, _, rfl, by rw [hlen, sizeLine_eq]; omega, d, _, rfl, D5, by rw [hlen]; omega, by rw [hlen]; omega, fun H6 z m6 z0 z9 => ?_⟩
      rw [hlen] at z9
      obtain ⟨c, hc⟩ : ∃ c, cs[z.toNat]? = some c := ⟨cs[z.toNat]'(by omega), List.getElem?_eq_getElem (by omega)⟩
      have hat : atI (colStr cs).cps.toList z = some c.code := by
        have e : (z.toNat : Int) = z := by omega
        rw [← e]
        refine atI_nat ?_
        show (cs.map Col.code).toArray.toList[z.toNat]? = _
        rw [List.toList_toArray, List.getElem?_map, hc]; rfl
      refine ⟨_, z, _, rfl, rfl, by rw [hlen, sizeLine_eq]; omega, hat, szl rfl, fun t H7 nt s7 et => ?_⟩
      have et' : H7 t = some (.tup [.int below, .str c.s]) := by rw [col_code]; exact et
      have el7 := s7 _ _ (m6.lst el5 hld)
      have x47 : Ext H4' H7 := (Mv.ext D4 m5).trans ((Mv.ext D5 m6).trans (Same.ext s7))
      have x7 := Ext.lst (o := .lst (vs ++ [.ref t])) el7
      refine ⟨l, vs, .ref t, rfl, rfl, el7, ?_, ?_⟩
      · have := AtAll.len hvs.2
        rw [List.length_map] at this
        rw [sizeLine_eq]; omega
      refine ⟨_, _, vs ++ [.ref t], b ++ [(below, c)], rfl, ?_, upd_same, ?_, by rw [List.length_append, hb]; rfl, fun j s hs => ?_, fun s hs => ?_⟩
      · have mm := m4.trans (m5.trans (m6.same s7))
        refine ⟨fun b o e n => ?_, ?_⟩
        · rw [upd_ne (ne_of_none e nlH)]; exact mm.keep b o e n
        · obtain ⟨x, y, e⟩ := mm.dice
          exact ⟨x, y, by rw [upd_ne hld.symm]; exact e⟩
      · rw [List.map_append]
        exact AtAll.snoc ((at_stem (s := (below, c)) et').ext x7) (hvs.ext (x47.trans x7))
      · by_cases hj : j < b.length
        · rw [List.getElem?_append_left hj] at hs
          exact hlow j s hs
        · rw [List.getElem?_append_right (by omega)] at hs
          have h0 : j - b.length = 0 := by
            have := (List.getElem?_eq_some_iff.mp hs).1
            simp at this
            omega
          rw [h0] at hs
          cases hs
          exact ⟨b0, by dsimp only; omega⟩
      · rcases List.mem_append.mp hs with hs | hs
        · exact hcol s hs
        · rw [List.mem_singleton.mp hs]
          exact List.mem_of_getElem? hc
  · rintro σ H4 ⟨y5, y6, vs, b, rfl, m4, el4, hvs, hb, hlow, hcol⟩
    refine ⟨_, rfl, l, vs, rfl, SqL.of el4, fun p H5 np s5 e5 => ?_⟩
    refine q H5 p b (m4.same s5) (Mv.free hD m4 np) (At.tupO e5 (hvs.ext (Same.ext s5))) ⟨by omega, hlow⟩ (by omega) hcol
end
end Sv

set_option maxHeartbeats 4000000
namespace Sv
open PySem PySem.Spec PyProof.Rows L2 L2H HotX LamX
/-! ### bushes as texts, in plain words -/
def digC (i : Int) : Nat := if i < 0 then 45 else 48 + i.toNat
def wordL (s : Int × Col) : List Nat := [digC s.1, s.2.code]
def wordB (s : Int × Col) : Str := ⟨(wordL s).toArray⟩
def textB (b : Bsh) : Str := Txt.join " " (b.map wordB)
theorem word_eq {s : Int × Col} (h1 : -1 ≤ s.1) (h2 : s.1 ≤ 6) : ((if s.1 < 0 then ("-" : Str) else Str.ofString (toString s.1)) ++ s.2.s) = wordB s := by
  obtain ⟨i, c⟩ := s
  have : i = -1 ∨ i = 0 ∨ i = 1 ∨ i = 2 ∨ i = 3 ∨ i = 4 ∨ i = 5 ∨ i = 6 := by dsimp only at h1 h2; omega
  rcases this with rfl | rfl | rfl | rfl | rfl | rfl | rfl | rfl <;> cases c <;> decide +kernel
/-- read back -/
def colOf (c : Nat) : Option Col := if c = 119 then some .w else if c = 98 then some .b else if c = 103 then some .g else none
def digOf (a : Nat) : Option Int := if a = 45 then some (-1) else if 48 ≤ a ∧ a ≤ 54 then some ((a : Int) - 48) else none
def goL : List Nat → Option Bsh
  | [a, c] => match digOf a, colOf c with
    | some i, some k => some [(i, k)]
    | _, _ => none
  | a :: c :: 32 :: r => match digOf a, colOf c, goL r with
    | some i, some k, some b => some ((i, k) :: b)
    | _, _, _ => none
  | _ => none
def readL (l : List Nat) : Option Bsh := if l = [] then some [] else goL l
theorem colOf_code (c : Col) : colOf c.code = some c := by cases c <;> rfl
theorem digOf_dig {i : Int} (h1 : -1 ≤ i) (h2 : i ≤ 6) : digOf (digC i) = some i := by
  have : i = -1 ∨ i = 0 ∨ i = 1 ∨ i = 2 ∨ i = 3 ∨ i = 4 ∨ i = 5 ∨ i = 6 := by omega
  rcases this with rfl | rfl | rfl | rfl | rfl | rfl | rfl | rfl <;> decide
def Small (b : Bsh) : Prop := ∀ s ∈ b, -1 ≤ s.1 ∧ s.1 ≤ 6
theorem BushOk.small {b : Bsh} (h : BushOk b) : Small b := fun s hs => by
  obtain ⟨i, hi⟩ := List.mem_iff_getElem?.mp hs
  have h1 := h.low i s hi
  have h2 := h.len
  have h3 := (List.getElem?_eq_some_iff.mp hi).1
  omega
theorem goL_cons (a c : Nat) (r : List Nat) : goL (a :: c :: 32 :: r) = match digOf a, colOf c, goL r with
    | some i, some k, some b => some ((i, k) :: b)
    | _, _, _ => none := by rw [goL]
theorem goL_join : ∀ b : Bsh, b ≠ [] → Small b → goL (TL.joinL [32] (b.map wordL)) = some b
  | [], h, _ => absurd rfl h
  | [s], _, h => by
    have hs := h s (List.mem_singleton.mpr rfl)
    show goL [digC s.1, s.2.code] = _
    unfold goL
    rw [digOf_dig hs.1 hs.2, colOf_code]
  | s :: t :: r, _, h => by
    have hs := h s (List.mem_cons_self ..)
    have ih := goL_join (t :: r) (by simp) fun x hx => h x (List.mem_cons_of_mem _ hx)
    show goL (digC s.1 :: s.2.code :: 32 :: TL.joinL [32] ((t :: r).map wordL)) = _
    rw [goL_cons, digOf_dig hs.1 hs.2, colOf_code, ih]
theorem textB_tl (b : Bsh) : TL.tl (textB b) = TL.joinL [32] (b.map wordL) := by
  unfold textB
  rw [TL.join_eq, TL.tl_join, List.map_map]
  rfl
theorem readL_text {b : Bsh} (h : Small b) : readL (TL.tl (textB b)) = some b := by
  rw [textB_tl]
  unfold readL
  cases b with
  | nil => rfl
  | cons s r =>
    rw [if_neg, goL_join _ (by simp) h]
    cases r <;> simp [TL.joinL, wordL]
/-- no bush has this text -/
theorem not_text {z : Str} (h : (match readL (TL.tl z) with | some b => isBush (bushD b) | none => false) = false) (b : Bsh) (hb : BushOk b) : textB b ≠ z := fun e => by
  rw [← e, readL_text hb.small] at h
  have h : isBush (bushD b) = false := h
  rw [isBush_iff.mpr ⟨b, rfl, hb⟩] at h
  cases h
theorem textB_len (b : Bsh) : (textB b).length ≤ 3 * b.length := by
  have h : ∀ b : Bsh, (TL.joinL [32] (b.map wordL)).length ≤ 3 * b.length := by
    intro b
    induction b with
    | nil => simp [TL.joinL]
    | cons s r ih =>
      cases r with
      | nil => simp [TL.joinL, wordL]
      | cons t r =>
        show (wordL s ++ ([32] ++ TL.joinL [32] ((t :: r).map wordL))).length ≤ _
        rw [List.length_append, List.length_append]
        simp only [List.length_cons, wordL, List.length_nil] at ih ⊢
        omega
  have e := h b
  rw [← textB_tl] at e
  exact e
theorem words_sum (b : Bsh) : ((b.map wordB).map fun x => x.length).sum + (b.map wordB).length * (" " : Str).length = 3 * b.length := by
  have h2 : (" " : Str).length = 1 := rfl
  rw [h2, Nat.mul_one, List.length_map, List.map_map]
  induction b with
  | nil => rfl
  | cons s r ih =>
    rw [List.map_cons, List.sum_cons, List.length_cons]
    have h1 : ((fun x : Str => x.length) ∘ wordB) s = 2 := rfl
    rw [h1]
    omega
theorem join_split (z : Str) : Txt.join " " (Txt.split z " ") = z := by
  unfold Txt.split
  split
  · exact TL.join_eq _ _ 
  · split
    · exact TL.join_eq _ _
    · unfold Txt.join
      exact StrLaws.glued_between_self ..
theorem split_text {b : Bsh} (hne : b ≠ []) (h : Small b) : Txt.split (textB b) " " = b.map wordB := by
  refine TL.split_join (s := 32) (S := []) rfl (by decide +kernel) (fun z => hne (List.map_eq_nil_iff.mp z)) fun p hp => ?_
  obtain ⟨s, hs, rfl⟩ := List.mem_map.mp hp
  have h1 := h s hs
  show 32 ∉ [digC s.1, s.2.code]
  have h2 : 32 ≠ digC s.1 := by unfold digC; split <;> omega
  have h3 : 32 ≠ s.2.code := by cases s.2 <;> decide
  simp [h2, h3]
theorem joinL_len : ∀ L : List (List Nat), L.length ≤ (TL.joinL [32] L).length + 1 ∧ ∀ p ∈ L, p.length ≤ (TL.joinL [32] L).length
  | [] => ⟨by simp, fun p hp => by cases hp⟩
  | [p] => ⟨by simp, fun q hq => by rw [List.mem_singleton.mp hq]; exact Nat.le_refl _⟩
  | p :: q :: r => by
    obtain ⟨h1, h2⟩ := joinL_len (q :: r)
    have e : (TL.joinL [32] (p :: q :: r)).length = p.length + 1 + (TL.joinL [32] (q :: r)).length := by
      show (p ++ ([32] ++ TL.joinL [32] (q :: r))).length = _
      rw [List.length_append, List.length_append, List.length_singleton]; omega
    refine ⟨?_, fun x hx => ?_⟩
    · simp only [List.length_cons] at h1 ⊢; omega
    · rw [e]
      rcases List.mem_cons.mp hx with rfl | hx
      · omega
      · have := h2 x hx; omega
/-- what a word tells -/
def stemOf (z : Str) : Option (Int × Nat) := match TL.tl z with
  | [a, c] => (digOf a).map fun i => (i, c)
  | _ => none
theorem stemOf_word {s : Int × Col} (h1 : -1 ≤ s.1) (h2 : s.1 ≤ 6) : stemOf (wordB s) = some (s.1, s.2.code) := by
  show (digOf (digC s.1)).map (fun i => (i, s.2.code)) = _
  rw [digOf_dig h1 h2]; rfl
theorem digOf_inv {a : Nat} {i : Int} (h : digOf a = some i) : -1 ≤ i ∧ i ≤ 6 ∧ digC i = a := by
  unfold digOf at h
  split at h
  · cases h; rename_i e; subst e; decide
  · split at h
    · cases h
      rename_i _ e
      refine ⟨by omega, by omega, ?_⟩
      unfold digC
      rw [if_neg (by omega)]
      omega
    · cases h
theorem word_of_stem {z : Str} {i : Int} {c : Col} (h : stemOf z = some (i, c.code)) : wordB (i, c) = z := by
  unfold stemOf at h
  split at h
  · rename_i a k e
    rw [Option.map_eq_some_iff] at h
    obtain ⟨j, h1, h2⟩ := h
    cases h2
    obtain ⟨_, _, h3⟩ := digOf_inv h1
    show (⟨[digC i, c.code].toArray⟩ : Str) = z
    rw [h3, ← TL.mk_tl z, e]
  · cases h
section
variable {P : Program} {w : World} {K : PySem.W.Frag} {mg : Str → Option Value} {base : Heap} {C : Nat → Addr} {CS : Addr}
/-! ### format_bush -/
def spFormat (K : PySem.W.Frag) : Sp := fun vs H Q _ => ∃ (v : V) (b : Bsh), vs = [v] ∧ At K H v (bushD b) ∧ BushOk b ∧ ∀ H', Same H H' → Q (.str (textB b)) H'
theorem scFormat : FnScope ["bush", "below", "colour"] ["bush"] (defScope s_format_bush) := ⟨rfl, rfl, rfl, by decide +kernel, rfl, by decide +kernel, by decide +kernel⟩
theorem k_format (F : Here K mg "format_bush" s_format_bush) (B : Blt mg) (d_need : Keeps' P w K mg base (L2N.CX P w) 4 "need_bush" ["bush"] (spNeedBush K C)) : Keeps' P w K mg base CX0 5 "format_bush" ["bush"] (spFormat K) := by
  refine keeps0 F scFormat (fun _ _ _ _ _ _ us hl => match us, hl with | [_], _ => rfl) (fun vs H Q E h => by obtain ⟨_, _, e, _⟩ := h; rw [e]; rfl) fun f cdv A outer s H vs Q E hr h => ?_
  obtain ⟨v, b, rfl, hA, hb, q⟩ := h
  refine ⟨_, pss_cons (ps_expr (pe_dN d_need (hr.mono (by decide)) (by rfl) (pa1 (pv 0))))
    (pss_one (ps_ret (pe_join pe_str (pe_lc (own := [("below", 1), ("colour", 2)]) rfl scFormat.nd (pi_tupK K (pv 0)) (blkOk_by (own := [("below", 1), ("colour", 2)]) (N := ["bush", "below", "colour"]) (sc := defScope s_format_bush) (by decide +kernel)) (fun _ _ _ _ _ => pg_tupK K (n := 2) rfl (pgs_cons (pgn 1 scFormat.nd) (pgs_cons (pgn 2 scFormat.nd) pgs_nil))) (fun _ _ _ _ _ => pts_nil) (fun _ _ _ _ _ => pe_op op_add_str (pe_ifExp (pt_cmpR op_lt (pv 1) pe_int (nomark _)) pe_str (pbt call_str_int B.str boot_str (pa1 (pv 1)))) (pv 2)))))), ?_⟩
  have nb := isBush_iff.mpr ⟨b, rfl, hb⟩
  refine ⟨_, rfl, v, _, rfl, hA.2, fun _ H1 s1 => ?_, (fun z => absurd (nb.symm.trans z) (by decide))⟩
  obtain ⟨a, vs, rfl, hs, hvs, hlen⟩ := bush_at (hA.same s1)
  have hb7 := hb.len
  refine ⟨⟨_, rfl⟩, _, rfl, a, rfl, ⟨_, hs⟩, ?_⟩
  refine lc_J (walk_tup (xs := vs)) Same (fun D i ys H' => ys = ((b.take i).map wordB).map V.str) (goes_same H1) (by rw [sizeLine_eq]; omega) (fun H' t => (Same.ext t).sqT hs) (fun _ _ => rfl) (fun _ _ _ _ _ _ _ _ r => r) ?_ ?_
  · rintro D E E0 i x ys H2 H2' nD eD hi t rfl ⟨rfl, hx⟩ k1 k0
    obtain ⟨st, sa, hst, rfl, hsa⟩ := bush_get hvs hx
    have hsm := hb.small st (List.mem_of_getElem? hst)
    refine ⟨sa, _, rfl, (Same.ext t).sqT hsa, rfl, _, _, rfl, _, _, rfl, rfl, rfl, ?_⟩
    have we := word_eq hsm.1 hsm.2
    have fin : ∀ z : Str, z ++ st.2.s = wordB st → V.str (z ++ st.2.s) = V.str (wordB st) := fun z e => by rw [e]
    have step : ((b.take i).map wordB).map V.str ++ [V.str (wordB st)] = ((b.take (i + 1)).map wordB).map V.str := by
      rw [List.take_add_one, hst, List.map_append, List.map_append]; rfl
    have hc2 : st.2.s.length = 1 := by cases st.2 <;> rfl
    refine ⟨_, rfl, _, _, rfl, rfl, _, rfl, ?_⟩
    by_cases h0 : st.1 < 0
    · rw [if_pos h0] at we
      refine ite2 (fun _ => ?_) fun z => absurd (decide_eq_true h0) z
      refine ⟨_, rfl, _, _, rfl, rfl, by rw [hc2]; decide, ?_⟩
      rw [fin _ we]
      exact k1 _ _ (Same.refl _) step
    · rw [if_neg h0] at we
      refine ite2 (fun z => absurd (of_decide_eq_true z) h0) fun _ => ?_
      refine ⟨_, rfl, _, rfl, ?_, _, rfl, _, _, rfl, rfl, ?_, ?_⟩
      · have : st.1.natAbs ≤ 6 := by omega
        have : st.1.natAbs.log2 ≤ st.1.natAbs := Nat.log2_le_self _
        omega
      · have hwl := congrArg Str.length we
        rw [Str.length_append] at hwl
        rw [hwl]; exact (by decide : 2 ≤ sizeLine)
      · rw [fin _ we]
        exact k1 _ _ (Same.refl _) step
  · rintro D H2 ys nD t eD _ rfl
    rw [hlen, List.take_length] at eD
    refine ⟨_, D, b.map wordB, rfl, rfl, .inl (SqL.of eD), ?_, q H2 (s1.trans t)⟩
    rw [words_sum]; omega
/-! ### stem_of -/
def spStemOf (K : PySem.W.Frag) (C : Nat → Addr) : Sp := fun vs H Q E => ∃ z : Str, vs = [.str z] ∧ z.length ≤ 1000 ∧ (stemOf z = none → ∀ H', Same H H' → E (.ref (C 5)) none H') ∧ ∀ i c, stemOf z = some (i, c) → ∀ H' p, Same H H' → H p = none → H' p = some (.tup [.int i, .str ⟨#[c]⟩]) → Q (.ref p) H'
theorem scStemOf : FnScope ["word"] ["word"] (defScope s_stem_of) := ⟨rfl, rfl, rfl, by decide +kernel, rfl, by decide +kernel, by decide +kernel⟩
theorem k_stem_of (F : Here K mg "stem_of" s_stem_of) (B : Blt mg) (O : ExcOne K mg "InvalidText" (C 5)) : Keeps' P w K mg base (L2N.CX P w) 1 "stem_of" ["word"] (spStemOf K C) := by
  refine keepsN F scStemOf (fun _ _ _ _ _ _ us hl => match us, hl with | [_], _ => rfl) (fun vs H Q E h => by obtain ⟨_, e, _⟩ := h; rw [e]; rfl) fun f cdv A outer s H vs Q E hr h => ?_
  obtain ⟨z, rfl, hz, q1, q2⟩ := h
  refine ⟨_, pss_cons (ps_if (PW.pt (pw_or (pt_cmpR op_ne (pb call_len_str B.len PySem.boot_len (pa1 (pv 0))) pe_int (nomark _)) (pw_or1 (pt_cmpR op_notin_str (pe_ix ix_str (pv 0) pe_int (fun _ _ => rfl)) pe_str (by rfl)))))
      (pss_one (ps_raiseN rfl O (by rfl) rfl rfl rfl rfl))
      (pss_nil))
    (pss_one (ps_ret (pe_tupN (pa2 (pe_ifExp (pt_cmpR op_eq (pe_ix ix_str (pv 0) pe_int (fun _ _ => rfl)) pe_str (nomark _)) (pe_un un_neg pe_int) (pbt call_int_str B.int boot_int (pa1 (pe_ix ix_str (pv 0) pe_int (fun _ _ => rfl))))) (pe_ix ix_str (pv 0) pe_int (fun _ _ => rfl)))))), ?_⟩
  have hzl : z.length = (TL.tl z).length := TL.len_tl z
  refine ⟨_, rfl, z, rfl, by rw [sizeLine_eq]; omega, rfl, _, rfl, ?_⟩
  by_cases h2 : z.length = 2
  · refine ite2 (fun y => ?_) fun _ => ?_
    · simp [h2] at y
    obtain ⟨a, c, hac⟩ : ∃ a c, TL.tl z = [a, c] := by
      rw [hzl] at h2
      match TL.tl z, h2 with
      | [a, c], _ => exact ⟨a, c, rfl⟩
    have hso : stemOf z = (digOf a).map fun i => (i, c) := by unfold stemOf; rw [hac]
    have hcp : z.cps.toList = [a, c] := hac
    refine ⟨_, rfl, z, 0, a, rfl, rfl, by rw [sizeLine_eq]; omega, by rw [hcp]; exact atI_nat (j := 0) rfl, _, _, rfl, rfl, _, rfl, ?_⟩
    rw [StrLaws.found_one]
    have hin : decide (a ∈ (Str.ofString "-0123456").cps.toList) = (digOf a).isSome := by
      show decide (a ∈ [45, 48, 49, 50, 51, 52, 53, 54]) = _
      unfold digOf
      by_cases h1 : a = 45
      · subst h1; rfl
      · rw [if_neg h1]
        by_cases h3 : 48 ≤ a ∧ a ≤ 54
        · rw [if_pos h3]
          have : a = 48 ∨ a = 49 ∨ a = 50 ∨ a = 51 ∨ a = 52 ∨ a = 53 ∨ a = 54 := by omega
          rcases this with rfl | rfl | rfl | rfl | rfl | rfl | rfl <;> decide
        · rw [if_neg h3]
          simp
          omega
    rw [hin]
    cases hd : digOf a with
    | none =>
      rw [hd] at hso
      exact q1 hso H (Same.refl H)
    | some i =>
      rw [hd] at hso
      have q3 := q2 i c hso
      have end_ : ∀ Hx, Same H Hx → tTupN (tCons (tC (.int i)) (tCons (tOp rIxS (tVar 0) (tC (.int 1))) tNil)) [some (.str z)] Hx Q := fun Hx sx => by
        refine ⟨_, rfl, z, 1, c, rfl, rfl, by rw [sizeLine_eq]; omega, by rw [hcp]; exact atI_nat (j := 1) rfl, szl rfl, fun p H1 np s1 e1 => ?_⟩
        exact q3 H1 p (sx.trans s1) (sx.free np) e1
      refine ⟨_, rfl, z, 0, a, rfl, rfl, by rw [sizeLine_eq]; omega, by rw [hcp]; exact atI_nat (j := 0) rfl, rfl, _, rfl, ?_⟩
      by_cases h1 : a = 45
      · subst h1
        have : i = -1 := by
          have : digOf 45 = some (-1) := rfl
          rw [this] at hd; cases hd; rfl
        subst this
        refine ite2 (fun _ => ?_) fun y => absurd (by decide) y
        exact ⟨_, rfl, end_ H (Same.refl H)⟩
      · refine ite2 (fun y => ?_) fun _ => ?_
        · have y := of_decide_eq_true y
          have y := congrArg (fun v => match v with | V.str x => x.cps.toList | _ => []) y
          have y : [a] = [45] := y
          exact absurd (List.cons.inj y).1 h1
        · obtain ⟨j1, j2, j3⟩ := digOf_inv hd
          have hi : intText? ⟨#[a]⟩ = some i := by
            rw [← j3]
            have j0 : 0 ≤ i := by
              rcases Int.lt_or_le i 0 with k | k
              · exfalso
                apply h1
                rw [← j3]
                unfold digC
                rw [if_pos k]
              · exact k
            have : i = 0 ∨ i = 1 ∨ i = 2 ∨ i = 3 ∨ i = 4 ∨ i = 5 ∨ i = 6 := by omega
            rcases this with rfl | rfl | rfl | rfl | rfl | rfl | rfl <;> decide +kernel
          exact ⟨_, rfl, z, 0, a, rfl, rfl, by rw [sizeLine_eq]; omega, by rw [hcp]; exact atI_nat (j := 0) rfl, _, i, rfl, hi, (show 1 ≤ 640 by decide), end_ H (Same.refl H)⟩
  · refine ite2 (fun _ => ?_) fun y => ?_
    · refine q1 ?_ H (Same.refl H)
      unfold stemOf
      rw [hzl] at h2
      match TL.tl z, h2 with
      | [], _ => rfl
      | [_], _ => rfl
      | _ :: _ :: _ :: _, _ => rfl
      | [_, _], h2 => exact absurd rfl h2
    · exfalso
      apply y
      have : ¬ V.int (z.length : Int) = V.int 2 := fun e => h2 (by have := V.int.inj e; omega)
      rw [decide_eq_false this]; rfl
/-! ### parse_bush -/
def rawD (s : Int × Nat) : PyData := .tuple [.int s.1, .str ⟨#[s.2]⟩]
theorem raw_stem (s : Int × Col) : rawD (s.1, s.2.code) = stemD s := by
  show PyData.tuple [.int s.1, .str ⟨#[s.2.code]⟩] = .tuple [.int s.1, .str s.2.s]
  rw [col_code]
theorem words_of {b : Bsh} {ws : List Str} {ss : List (Int × Nat)} (h1 : ws.map stemOf = ss.map some) (h2 : ss.map rawD = b.map stemD) : ws = b.map wordB := by
  have hl1 : ws.length = ss.length := by have := congrArg List.length h1; simpa using this
  have hl2 : ss.length = b.length := by have := congrArg List.length h2; simpa using this
  refine List.ext_getElem? fun i => ?_
  rw [List.getElem?_map]
  by_cases hi : i < b.length
  · have e1 : b[i]? = some b[i] := List.getElem?_eq_getElem hi
    have e2 : ss[i]? = some ss[i] := List.getElem?_eq_getElem (by omega)
    have e3 : ws[i]? = some ws[i] := List.getElem?_eq_getElem (by omega)
    have q1 : (ws.map stemOf)[i]? = (ss.map some)[i]? := by rw [h1]
    rw [List.getElem?_map, List.getElem?_map, e2, e3] at q1
    have q1 : stemOf ws[i] = some ss[i] := Option.some.inj q1
    have q2 : (ss.map rawD)[i]? = (b.map stemD)[i]? := by rw [h2]
    rw [List.getElem?_map, List.getElem?_map, e1, e2] at q2
    have q2 : rawD ss[i] = stemD b[i] := Option.some.inj q2
    have q3 : ss[i] = ((b[i]).1, (b[i]).2.code) := by
      have q4 := PyData.tuple.inj q2
      simp only [List.cons.injEq, and_true, PyData.int.injEq, PyData.str.injEq] at q4
      obtain ⟨q5, q6⟩ := q4
      rw [col_code] at q6
      have q7 : [ss[i].2] = [(b[i]).2.code] := congrArg (fun x : Str => x.cps.toList) q6
      exact Prod.ext q5 (List.cons.inj q7).1
    rw [q3] at q1
    rw [e1, e3]
    exact congrArg some (word_of_stem (c := (b[i]).2) q1).symm
  · rw [List.getElem?_eq_none (by omega), List.getElem?_eq_none (by omega)]; rfl
theorem stems_of {b : Bsh} (hb : Small b) : (b.map wordB).map stemOf = (b.map fun s => (s.1, s.2.code)).map some := by
  rw [List.map_map, List.map_map]
  refine List.map_congr_left fun s hs => ?_
  exact stemOf_word (hb s hs).1 (hb s hs).2
def spParse (K : PySem.W.Frag) (C : Nat → Addr) : Sp := fun vs H Q E => ∃ v d, vs = [v] ∧ Dp K H v d ∧ (∀ z, d = .str z → z.length ≤ 1000) ∧ ((∀ b z, d = .str z → BushOk b → textB b ≠ z) → ∀ H', Same H H' → E (.ref (C 5)) none H') ∧
  ∀ b z, d = .str z → BushOk b → textB b = z → ∀ H' p, Same H H' → H p = none → At K H' (.ref p) (bushD b) → Q (.ref p) H'
theorem scParse : FnScope ["text", "bush", "word"] ["text"] (defScope s_parse_bush) := ⟨rfl, rfl, rfl, by decide +kernel, rfl, by decide +kernel, by decide +kernel⟩
theorem k_parse (F : Here K mg "parse_bush" s_parse_bush) (B : Blt mg) (O : ExcOne K mg "InvalidText" (C 5)) (d_stem : Keeps' P w K mg base (L2N.CX P w) 1 "stem_of" ["word"] (spStemOf K C)) (d_bush : Keeps' P w K mg base CX0 3 "is_bush" ["value"] (spIsBush K)) : Keeps' P w K mg base (L2N.CX P w) 4 "parse_bush" ["text"] (spParse K C) := by
  refine keepsN F scParse (fun _ _ _ _ _ _ us hl => match us, hl with | [_], _ => rfl) (fun vs H Q E h => by obtain ⟨_, _, e, _⟩ := h; rw [e]; rfl) fun f cdv A outer s H vs Q E hr h => ?_
  obtain ⟨v, d, rfl, hd, hz, q1, q2⟩ := h
  refine ⟨_, pss_cons (ps_if (pt_not (pt_val (pb (call_isDK K) B.isinstance boot_isinstance (pa2 (pv 0) (pty B.str boot_str)))))
      (pss_one (ps_raiseN rfl O (by rfl) rfl rfl rfl rfl))
      (pss_nil))
    (pss_cons (st 1 scParse.nd (pe_ifExp (pt_cmpR op_ne (pv 0) pe_str (nomark _)) (pbt (call_tupleK K) B.tuple boot_tuple (pa1 (pe_lcX (own := [("word", 2)]) rfl rfl rfl rfl rfl scParse.nd (pi_listK K (pe_split (pv 0) pe_str)) (blkOk_by (own := [("word", 2)]) (N := ["text", "bush", "word"]) (sc := defScope s_parse_bush) (by decide +kernel)) (fun _ _ _ _ _ => pgn 2 scParse.nd) (fun _ _ _ _ _ => pts_nil) (fun _ _ _ _ _ => pe_dB d_stem (hr.mono (by decide)) (by rfl) (pa1 (pv 2)))))) (pe_tupN pa_nil)))
    (pss_cons (ps_if (pt_not (pt_val (pe_d0 d_bush (hr.mono (by decide)) (by rfl) (pa1 (pv 1)))))
      (pss_one (ps_raiseN rfl O (by rfl) rfl rfl rfl rfl))
      (pss_nil))
    (pss_one (ps_ret (pv 1))))), ?_⟩
  refine ⟨_, rfl, _, _, d, rfl, hd, .inr (.inr (.inl rfl)), _, rfl, ?_⟩
  cases hd with
  | non => exact q1 (fun b z e => nomatch e) _ (Same.refl H)
  | bl b => exact q1 (fun b z e => nomatch e) _ (Same.refl H)
  | int i => exact q1 (fun b z e => nomatch e) _ (Same.refl H)
  | lst _ _ => exact q1 (fun b z e => nomatch e) _ (Same.refl H)
  | tup _ _ => exact q1 (fun b z e => nomatch e) _ (Same.refl H)
  | str z =>
    have hz := hz z rfl
    have q1 : (∀ b, BushOk b → textB b ≠ z) → ∀ H', Same H H' → E (.ref (C 5)) none H' := fun h => q1 fun b y e hb => by cases e; exact h b hb
    have q2 : ∀ b, BushOk b → textB b = z → ∀ H' p, Same H H' → H p = none → At K H' (.ref p) (bushD b) → Q (.ref p) H' := fun b hb e => q2 b z rfl hb e
    refine iteF ⟨_, rfl, rfl, _, rfl, ?_⟩
    by_cases h0 : z = ""
    · subst h0
      refine ite2 (fun y => ?_) fun _ => ?_
      · simp at y
      refine ⟨szl rfl, fun p H1 np s1 e1 => ⟨_, rfl, .ref p, .tuple [], rfl, .tup (SqT.of e1) .nil, fun H2 s2 => ⟨_, rfl, ?_⟩⟩⟩
      refine iteF ⟨_, rfl, q2 [] ⟨by decide, fun i s z => by simp at z⟩ rfl H2 p (s1.trans s2) np ?_⟩
      exact At.tupO (s2 _ _ e1) AtAll.nil
    · refine ite2 (fun _ => ?_) fun y => ?_
      rotate_left
      · exfalso
        apply y
        rw [decide_eq_false (fun e => h0 (V.str.inj e))]; rfl
      generalize hws : Txt.split z " " = ws
      have hjoin : Txt.join " " ws = z := by rw [← hws]; exact join_split z
      have hsp : ∀ b, BushOk b → textB b = z → ws = b.map wordB := fun b hb e => by
        have hne : b ≠ [] := fun y => h0 (by rw [← e, y]; rfl)
        rw [← hws, ← e]
        exact split_text hne hb.small
      have hjl := joinL_len (ws.map TL.tl)
      have hjz : TL.joinL [32] (ws.map TL.tl) = TL.tl z := by rw [← hjoin, TL.join_eq, TL.tl_join]; rfl
      rw [hjz, ← TL.len_tl z, List.length_map] at hjl
      have hwl : ws.length ≤ 2000 := by omega
      have hwz : ∀ x ∈ ws, x.length ≤ 1000 := fun x hx => by
        have := hjl.2 (TL.tl x) (List.mem_map.mpr ⟨x, hx, rfl⟩)
        rw [TL.len_tl x]; omega
      refine ⟨_, rfl, ⟨_, rfl⟩, z, _, rfl, rfl, rfl, by rw [sizeLine_eq]; omega, fun l nl => ?_⟩
      rw [hws]
      have sl : Same H (upd H l (.lst (ws.map V.str))) := same_new nl
      refine ⟨l, rfl, ⟨_, SqL.of upd_same⟩, ?_⟩
      refine lc_J (walk_list (xs := ws.map V.str)) Same (fun D i ys H' => ∃ ss : List (Int × Nat), (ws.take i).map stemOf = ss.map some ∧ ys.length = ss.length ∧ ∀ (j : Nat) (y : V), ys[j]? = some y → ∃ (T : Addr) (s : Int × Nat), y = V.ref T ∧ ss[j]? = some s ∧ T ≠ D ∧ H' T = some (.tup [.int s.1, .str ⟨#[s.2]⟩])) (goes_same _) ?_ (fun H' t => SqL.of (t _ _ upd_same)) (fun _ _ => ⟨[], rfl, rfl, fun j y e => by simp at e⟩) ?_ ?_ ?_
      · rw [List.length_map, sizeLine_eq]; omega
      · rintro D i ys Ha Hb nD x k ⟨ss, e1, e2, e3⟩
        refine ⟨ss, e1, e2, fun j y hy => ?_⟩
        obtain ⟨T, s, e4, e5, e6, e7⟩ := e3 j y hy
        exact ⟨T, s, e4, e5, e6, k T _ e6 e7⟩
      · rintro D E' E0 i x ys Ha Ha' nD eD hi t ⟨ss, e1, e2, e3⟩ ⟨rfl, hx⟩ k1 k0
        rw [List.getElem?_map] at hx
        cases hj : ws[i]? with
        | none => rw [hj] at hx; cases hx
        | some wd =>
          rw [hj] at hx
          cases hx
          refine ⟨rfl, _, rfl, wd, rfl, hwz wd (List.mem_of_getElem? hj), fun hn Hb sb => ?_, fun n c hs Hb pT sb nT eT => ?_⟩
          · refine q1 (fun b hb e => ?_) Hb (sl.trans (t.trans sb))
            have hw := hsp b hb e
            have hst := stems_of hb.small
            rw [← hw] at hst
            have : (ws.map stemOf)[i]? = some none := by rw [List.getElem?_map, hj]; exact congrArg some hn
            rw [hst, List.getElem?_map] at this
            cases q : (b.map fun s => (s.1, s.2.code))[i]? with
            | none => rw [q] at this; cases this
            | some u => rw [q] at this; cases this
          · refine k1 _ Hb sb ⟨ss ++ [(n, c)], ?_, by rw [List.length_append, List.length_append, e2]; rfl, fun j y hy => ?_⟩
            · rw [List.take_add_one, hj, List.map_append, List.map_append, e1]
              show _ ++ [stemOf wd] = _
              rw [hs]; rfl
            · by_cases hjl : j < ys.length
              · rw [List.getElem?_append_left hjl] at hy
                obtain ⟨T, s, e4, e5, e6, e7⟩ := e3 j y hy
                exact ⟨T, s, e4, by rw [List.getElem?_append_left (by omega)]; exact e5, e6, sb _ _ e7⟩
              · rw [List.getElem?_append_right (by omega)] at hy
                have hj0 : j - ys.length = 0 := by
                  have := (List.getElem?_eq_some_iff.mp hy).1
                  simp at this
                  omega
                rw [hj0] at hy
                cases hy
                exact ⟨pT, (n, c), rfl, by rw [List.getElem?_append_right (by omega), ← e2, hj0]; rfl, (ne_of_none eD nT).symm, eT⟩
      · rintro D Ha ys nD t eD _ ⟨ss, e1, e2, e3⟩
        rw [List.length_map, List.take_length] at e1
        refine ⟨D, ys, rfl, SqL.of eD, fun p Hb np sb eb => ?_⟩
        have sA := sl.trans (t.trans sb)
        have hdp : DpAll K Hb ys (ss.map rawD) := by
          have key : ∀ (ys : List V) (ss : List (Int × Nat)), ys.length = ss.length → (∀ (j : Nat) (y : V), ys[j]? = some y → ∃ (T : Addr) (s : Int × Nat), y = V.ref T ∧ ss[j]? = some s ∧ T ≠ D ∧ Ha T = some (.tup [.int s.1, .str ⟨#[s.2]⟩])) → DpAll K Hb ys (ss.map rawD) := by
            intro ys
            induction ys with
            | nil =>
              intro ss hl _
              cases ss with
              | nil => exact .nil
              | cons _ _ => simp at hl
            | cons y r ih =>
              intro ss hl h
              cases ss with
              | nil => simp at hl
              | cons s r2 =>
                obtain ⟨T, s', e4, e5, _, e7⟩ := h 0 y rfl
                cases e5
                subst e4
                refine .cons (.tup (SqT.of (sb _ _ e7)) (.cons (.int _) (.cons (.str _) .nil))) (ih r2 (by simpa using hl) fun j y hy => ?_)
                exact h (j + 1) y hy
          exact key ys ss e2 e3
        refine ⟨_, rfl, .ref p, .tuple (ss.map rawD), rfl, .tup (SqT.of eb) hdp, fun Hc sc => ⟨_, rfl, ?_⟩⟩
        cases hib : isBush (.tuple (ss.map rawD)) with
        | false =>
          refine q1 (fun b hb e => ?_) Hc (sA.trans sc)
          have hw := hsp b hb e
          have hst := stems_of hb.small
          rw [← hw, e1] at hst
          have hss : ss = b.map fun s => (s.1, s.2.code) := (List.map_inj_right (fun _ _ h => Option.some.inj h)).mp hst
          have : ss.map rawD = b.map stemD := by
            rw [hss, List.map_map]
            exact List.map_congr_left fun s _ => raw_stem s
          rw [this] at hib
          have hib : isBush (bushD b) = false := hib
          rw [isBush_iff.mpr ⟨b, rfl, hb⟩] at hib
          cases hib
        | true =>
          obtain ⟨b, e, hb⟩ := isBush_iff.mp hib
          have e' : ss.map rawD = b.map stemD := PyData.tuple.inj e
          have hw := words_of e1 e'
          refine ⟨_, rfl, q2 b hb ?_ Hc p (sA.trans sc) ((sl.trans t).free np) ?_⟩
          · show Txt.join " " (b.map wordB) = z
            rw [← hw]; exact hjoin
          · refine ⟨pl_bush b, ?_⟩
            rw [← e]
            exact dp_same sc _ _ (.tup (SqT.of eb) hdp)
end
end Sv

set_option maxHeartbeats 8000000
namespace Sv
open PySem PySem.Spec PyProof.Rows L2 L2H HotX LamX
theorem textB_inj {a b : Bsh} (ha : Small a) (hb : Small b) (h : textB a = textB b) : a = b := by
  have := readL_text ha
  rw [h, readL_text hb] at this
  exact (Option.some.inj this).symm
theorem err_ne (b : Bsh) (i : Nat) : bushD b ≠ errD i := fun h => by
  have h := PyData.tuple.inj h
  cases b with
  | nil => cases h
  | cons s r => cases (List.cons.inj h).1
section
variable {P : Program} {w : World} {K : PySem.W.Frag} {mg : Str → Option Value} {base : Heap} {C : Nat → Addr} {CS c Pt : Addr}
def spLaw (K : PySem.W.Frag) (Pt : Addr) : Sp := fun vs H Q _ => ∃ (a : Addr) (ns : List Int), vs = [.ref a] ∧ SqL K H a (ns.map V.int) ∧ ns.length ≤ 63 ∧ Tabs (lawT Pt) H ∧ ∀ H', Q (.bl true) H'
def Iv (K : PySem.W.Frag) (Pt p : Addr) (ds : List Addr) (d pb : Addr) (b : Bsh) (y0 : Option V) (σ : L2.St) (H : Hp) : Prop :=
  (∃ y4 y5 y6 y7 y8 y9 y10 y11 y12, σ = [y0, some (.ref d), some (.ref pb), some (.str (textB b)), y4, y5, y6, y7, y8, y9, y10, y11, y12]) ∧ Live (lawT Pt) p ds H ∧ At K H (.ref pb) (bushD b)
theorem scLaw : FnScope ["script", "dice", "bush", "text", "turn", "at", "sign", "bent", "made", "cases", "bad", "below", "colour"] ["script"] (defScope s_law) := ⟨rfl, rfl, rfl, by decide +kernel, rfl, by decide +kernel, by decide +kernel⟩
theorem k_law (F : HereC K mg "law" s_law c) (Ft : Here K mg "_law_told" s_law_told) (Fm : Here K mg "_law_term" s_law_term) (B : Blt mg) (Ex : Excs K mg C CS) (TB : TabB base mg c Pt)
    (d_rounds : Keeps' P w K mg base CX0 2 "_law_rounds" ["script", "most"] (spRounds K)) (d_roll : Keeps' P w K mg base CX0 2 "_law_roll" ["dice", "many"] spRoll) (d_any : Keeps' P w K mg base CX0 3 "_law_any_bush" ["dice", "most", "colours"] (spAnyBush K)) (d_bush : Keeps' P w K mg base CX0 3 "is_bush" ["value"] (spIsBush K))
    (d_format : Keeps' P w K mg base CX0 5 "format_bush" ["bush"] (spFormat K)) (d_parse : Keeps' P w K mg base (L2N.CX P w) 4 "parse_bush" ["text"] (spParse K C)) :
    KeepsC P w K mg base CX0 10 "law" ["script"] (spLaw K Pt) := by
  refine keepsLaw F scLaw (fun vs H Q E h => by obtain ⟨_, _, e, _⟩ := h; rw [e]; rfl) fun f A outer s H vs Q E hr h => ?_
  obtain ⟨a, ns, rfl, hS, hn, hT, q⟩ := h
  have TS : ToldS (cxOf CX0 P w K mg base ["script", "dice", "bush", "text", "turn", "at", "sign", "bent", "made", "cases", "bad", "below", "colour"] "law" (defScope s_law) f (.ref c) A outer s H E).nox C CS c Pt := ⟨Ft, Fm, B, Ex, TB⟩
  have hmT := lawT_mem (Pt := Pt)
  have huT := lawT_one (Pt := Pt)
  refine ⟨_, pss_cons (ps_for PassesOwn.never rfl (pi_listK K (pe_d0 d_rounds (hr.mono (by decide)) (by rfl) (pa2 (pv 0) pe_int))) (pgn 1 scLaw.nd)
      (pss_cons (st 2 scLaw.nd (pe_d0 d_any (hr.mono (by decide)) (by rfl) (pa3 (pv 1) pe_int pe_str)))
        (pss_cut (st 3 scLaw.nd (pe_join pe_str (pe_lc (own := [("below", 11), ("colour", 12)]) rfl scLaw.nd (pi_tupK K (pv 2)) (blkOk_by (own := [("below", 11), ("colour", 12)]) (N := ["script", "dice", "bush", "text", "turn", "at", "sign", "bent", "made", "cases", "bad", "below", "colour"]) (sc := defScope s_law) (by decide +kernel)) (fun _ _ _ _ _ => pg_tupK K (n := 2) rfl (pgs_cons (pgn 11 scLaw.nd) (pgs_cons (pgn 12 scLaw.nd) pgs_nil))) (fun _ _ _ _ _ => pts_nil) (fun _ _ _ _ _ => pe_op op_add_str (pe_ifExp (pt_cmpR op_lt (pv 11) pe_int (nomark _)) pe_str (pbt call_str_int B.str boot_str (pa1 (pv 11)))) (pv 12)))))
        (pss_cut (ps_if (PW.pt (pw_or (pt_cmpR op_ne (pe_d0 d_format (hr.mono (by decide)) (by rfl) (pa1 (pv 2))) (pv 3) (nomark _)) (pw_or1 (pt_cmpR (op_neAK K hr.units) (pe_told (defScope s_law) (qOf "law") (k := 6) TS (hr.mono (by decide)) (fun A outer s H E f c' hr' => pe_dX d_parse (hr'.mono (by decide)) (by rfl) (L2N.takes_of rfl rfl rfl rfl) (fun _ _ _ _ h => h) (pa1 (pv 3))) hmT huT) (pv 2) (nomark _)))))
          (pss_one (ps_ret pe_bl))
          (pss_nil))
        (pss_cut (ps_for PassesOwn.never rfl (pi_range1 (by rfl) B.range (pa1 pe_int)) (pgn 4 scLaw.nd)
          (pss_cut (ps_par (i := 5) (j := 6) rfl scLaw.nd rfl rfl (by decide) rfl rfl (pa2 (pe_d0 d_roll (hr.mono (by decide)) (by rfl) (pa2 (pv 1) (pe_op op_add (pb call_len_str B.len PySem.boot_len (pa1 (pv 3))) pe_int))) (pe_ix ix_str pe_str (pe_d0 d_roll (hr.mono (by decide)) (by rfl) (pa2 (pv 1) pe_int)) (fun _ _ => rfl))) (by rfl))
            (pss_cut (st 7 scLaw.nd (pe_ix (ix_listK K) (pe_lstN (pa_cons (pe_op op_add_str (pe_slice sl_str (pv 3) po_none (po_some (pv 5))) (pe_slice sl_str (pv 3) (po_some (pe_op op_add (pv 5) pe_int)) po_none)) (pa3 (pe_op op_add_str (pe_op op_add_str (pe_slice sl_str (pv 3) po_none (po_some (pv 5))) (pv 6)) (pe_slice sl_str (pv 3) (po_some (pv 5)) po_none)) (pe_op op_add_str (pv 3) (pv 6)) (pe_slice sl_str (pv 3) po_none (po_some (pv 5)))))) (pe_op op_mod (pv 4) pe_int) (fun _ _ => rfl)))
            (pss_cons (st 8 scLaw.nd (pe_told (defScope s_law) (qOf "law") (k := 6) TS (hr.mono (by decide)) (fun A outer s H E f c' hr' => pe_dX d_parse (hr'.mono (by decide)) (by rfl) (L2N.takes_of rfl rfl rfl rfl) (fun _ _ _ _ h => h) (pa1 (pv 7))) hmT huT))
            (pss_one (ps_if (pt_cmpR (op_neAK K hr.units) (pv 8) (pe_tupN (pa2 pe_str pe_str)) (nomark _))
              (pss_one (ps_if (PW.pt (pw_or (pt_not (pt_val (pe_d0 d_bush (hr.mono (by decide)) (by rfl) (pa1 (pv 8))))) (pw_or1 (pt_cmpR op_ne (pe_d0 d_format (hr.mono (by decide)) (by rfl) (pa1 (pv 8))) (pv 7) (nomark _)))))
                  (pss_one (ps_ret pe_bl))
                  (pss_nil)))
              (pss_nil)))))))
        (pss_cut (st 9 scLaw.nd (pe_lstN (pa_cons pe_str (pa_cons pe_non (pa_cons pe_int (pa_cons pe_str (pa_cons pe_str (pa_cons pe_str (pa_cons pe_str (pa_cons pe_str (pa_cons pe_str (pa3 pe_str (pv 2) (pe_lstN (pa1 (pv 3)))))))))))))))
        (pss_cut (st 9 scLaw.nd (pe_op op_catN (pv 9) (pe_lstN (pa1 (pe_op op_add_str (pe_op op_mul_str pe_str pe_int) pe_str)))))
        (pss_one (ps_for PassesOwn.never rfl (pi_listK K (pv 9)) (pgn 10 scLaw.nd)
          (pss_one (ps_if (pt_cmpR (op_neAK K hr.units) (pe_told (defScope s_law) (qOf "law") (k := 6) TS (hr.mono (by decide)) (fun A outer s H E f c' hr' => pe_dX d_parse (hr'.mono (by decide)) (by rfl) (L2N.takes_of rfl rfl rfl rfl) (fun _ _ _ _ h => h) (pa1 (pv 10))) hmT huT) (pe_tupN (pa2 pe_str pe_str)) (nomark _))
              (pss_one (ps_ret pe_bl))
              (pss_nil))))))))))))
    (pss_one (ps_ret pe_bl)), ?_⟩
  refine ⟨_, rfl, a, ns, 5, rfl, hS, hn, by decide, fun H1 p ds s1 np e1 hds => ?_⟩
  refine ⟨p, rfl, ⟨_, SqL.of e1⟩, for_it (walk_list (xs := ds.map V.ref)) (fun i σ H' => σ.length = 13 ∧ Live (lawT Pt) p ds H') ⟨rfl, e1, fun d hd => (hds d hd).2, fun t ht => (hT t ht).ext s1⟩ (fun i σ H' _ h => SqL.of h.2.rounds) ?_ ?_⟩
  · rintro i x σ H2 H2' hi ⟨hσ, L⟩ ⟨rfl, hx⟩
    obtain ⟨d, rfl, hd, hD⟩ := L.get hx
    match σ, hσ with
    | [y0, y1, y2, y3, y4, y5, y6, y7, y8, y9, y10, y11, y12], _ =>
    refine ⟨_, rfl, d, 7, [.w, .b, .g], rfl, hD, by decide, by decide, by decide, by decide, fun H4 pb b m4 npb hA hb hb7 hcs => ?_⟩
    have L4 := L.mv m4 hD
    have nb := isBush_iff.mpr ⟨b, rfl, hb⟩
    have hb7 := hb.len
    have htl := textB_len b
    -- text
    refine ⟨fun σ H' => Iv K Pt p ds d pb b y0 σ H', ?_, ?_⟩
    · obtain ⟨av, vs, eav, hs, hvs, hlen⟩ := bush_at hA
      cases eav
      refine ⟨⟨_, rfl⟩, _, rfl, pb, rfl, ⟨_, hs⟩, ?_⟩
      refine lc_J (walk_tup (xs := vs)) Same (fun D i ys H' => ys = ((b.take i).map wordB).map V.str) (goes_same H4) (by rw [sizeLine_eq]; omega) (fun H' t => (Same.ext t).sqT hs) (fun _ _ => rfl) (fun _ _ _ _ _ _ _ _ r => r) ?_ ?_
      · rintro D E E0 i x ys H2 H2' nD eD hi t rfl ⟨rfl, hx⟩ k1 k0
        obtain ⟨st, sa, hst, rfl, hsa⟩ := bush_get hvs hx
        have hsm := hb.small st (List.mem_of_getElem? hst)
        refine ⟨sa, _, rfl, (Same.ext t).sqT hsa, rfl, _, _, rfl, _, _, rfl, rfl, rfl, ?_⟩
        have we := word_eq hsm.1 hsm.2
        have fin : ∀ z : Str, z ++ st.2.s = wordB st → V.str (z ++ st.2.s) = V.str (wordB st) := fun z e => by rw [e]
        have step : ((b.take i).map wordB).map V.str ++ [V.str (wordB st)] = ((b.take (i + 1)).map wordB).map V.str := by
          rw [List.take_add_one, hst, List.map_append, List.map_append]; rfl
        have hc2 : st.2.s.length = 1 := by cases st.2 <;> rfl
        refine ⟨_, rfl, _, _, rfl, rfl, _, rfl, ?_⟩
        by_cases h0 : st.1 < 0
        · rw [if_pos h0] at we
          refine ite2 (fun _ => ?_) fun z => absurd (decide_eq_true h0) z
          refine ⟨_, rfl, _, _, rfl, rfl, by rw [hc2]; decide, ?_⟩
          rw [fin _ we]
          exact k1 _ _ (Same.refl _) step
        · rw [if_neg h0] at we
          refine ite2 (fun z => absurd (of_decide_eq_true z) h0) fun _ => ?_
          refine ⟨_, rfl, _, rfl, ?_, _, rfl, _, _, rfl, rfl, ?_, ?_⟩
          · have : st.1.natAbs ≤ 6 := by omega
            have : st.1.natAbs.log2 ≤ st.1.natAbs := Nat.log2_le_self _
            omega
          · have hwl := congrArg Str.length we
            rw [Str.length_append] at hwl
            rw [hwl]; exact (by decide : 2 ≤ sizeLine)
          · rw [fin _ we]
            exact k1 _ _ (Same.refl _) step
      · rintro D H2 ys nD t eD _ rfl
        rw [hlen, List.take_length] at eD
        refine ⟨_, D, b.map wordB, rfl, rfl, .inl (SqL.of eD), ?_, ⟨⟨_, _, _, _, _, _, _, _, _, rfl⟩, L4.same t, hA.same t⟩⟩
        rw [words_sum]; omega
    rintro σ H5 ⟨⟨z4, z5, z6, z7, z8, z9, z10, z11, z12, rfl⟩, L5, A5⟩
    -- format_bush(bush) != text ..
    refine ⟨fun σ H' => Iv K Pt p ds d pb b y0 σ H', ?_, ?_⟩
    · refine ⟨_, rfl, .ref pb, b, rfl, A5, hb, fun H6 s6 => ⟨_, rfl, rfl, _, rfl, ?_⟩⟩
      refine ite2 (fun z => ?_) fun _ => ?_
      · simp at z
      refine ⟨(L5.same s6).tabs, fun H7 x7 T7 => ⟨_, rfl, .str (textB b), .str (textB b), rfl, .str _, (fun z e => by cases e; omega), (fun z => absurd rfl (z b _ rfl hb)), fun b' z e hb' ht H8 pp s8 n8 h8 => ?_⟩⟩
      cases e
      cases textB_inj hb'.small hb.small ht
      have L7 := (L5.same s6).extN x7 T7
      have A7 := (A5.same s6).ext (extN_ext x7)
      exact ⟨_, rfl, bushD b, bushD b, h8, A7.same s8, bush_depth, bush_depth, fun _ => ⟨_, rfl, iteF ⟨⟨_, _, _, _, _, _, _, _, _, rfl⟩, L7.same s8, A7.same s8⟩⟩, fun z => absurd rfl z⟩
    rintro σ H6 ⟨⟨z4, z5, z6, z7, z8, z9, z10, z11, z12, rfl⟩, L6, A6⟩
    refine ⟨fun σ H' => Iv K Pt p ds d pb b y0 σ H', ?_, ?_⟩
    · refine ⟨10, rfl, by decide, by decide, for_it (walk_range (lo := 0)) (fun i σ H' => Iv K Pt p ds d pb b y0 σ H') ⟨⟨_, _, _, _, _, _, _, _, _, rfl⟩, L6, A6⟩ (fun _ _ _ _ _ => trivial) ?_ (fun σ H' h => h)⟩
      rintro i z σ H7 H7' hi ⟨⟨z4, z5, z6, z7, z8, z9, z10, z11, z12, rfl⟩, L7, A7⟩ ⟨rfl, rfl⟩
      have D7 := L7.dice d hd
      -- at, sign
      refine ⟨fun σ H' => ∃ (n : Nat) (sg : Str) (y7 y8 y9 y10 y11 y12 : Option V), n ≤ (textB b).length ∧ sg.length = 1 ∧ σ = [y0, some (.ref d), some (.ref pb), some (.str (textB b)), some (.int (0 + (i : Int))), some (.int (n : Int)), some (.str sg), y7, y8, y9, y10, y11, y12] ∧ Live (lawT Pt) p ds H' ∧ At K H' (.ref pb) (bushD b), ?_, ?_⟩
      · refine ⟨_, rfl, _, rfl, _, rfl, by rw [sizeLine_eq]; omega, _, _, rfl, rfl, d, _, rfl, D7, by omega, by omega, fun H8 n m8 n0 n1 => ?_⟩
        refine ⟨_, rfl, d, 8, rfl, m8.dice, by decide, by decide, fun H9 k m9 k0 k8 => ?_⟩
        obtain ⟨ch, hch⟩ : ∃ ch, atI (Str.ofString " -wbg012").cps.toList k = some ch := by
          have : k = ((k.toNat : Nat) : Int) := by omega
          rw [this]
          have hk : k.toNat < (Str.ofString " -wbg012").cps.toList.length := by show k.toNat < 8; omega
          exact ⟨_, atI_nat (List.getElem?_eq_getElem hk)⟩
        refine ⟨_, _, ch, rfl, rfl, by decide, hch, _, _, rfl, n.toNat, ⟨#[ch]⟩, z7, z8, z9, z10, z11, z12, by omega, rfl, ?_, (L7.mv m8 D7).mv m9 m8.dice, (A7.ext (Mv.ext D7 m8)).ext (Mv.ext m8.dice m9)⟩
        have : ((n.toNat : Nat) : Int) = n := by omega
        rw [this]
        rfl
      rintro σ H8 ⟨n, sg, y7, y8, y9, y10, y11, y12, hn, hsg, rfl, L8, A8⟩
      -- bent
      refine ⟨fun σ H' => ∃ (z : Str) (y8 y9 y10 y11 y12 : Option V), z.length ≤ 1000 ∧ σ = [y0, some (.ref d), some (.ref pb), some (.str (textB b)), some (.int (0 + (i : Int))), some (.int (n : Int)), some (.str sg), some (.str z), y8, y9, y10, y11, y12] ∧ Live (lawT Pt) p ds H' ∧ At K H' (.ref pb) (bushD b), ?_, ?_⟩
      · have hS : ∀ (lo hi : Option Int), (cutS (textB b) lo hi).length ≤ 100 := fun lo hi => Nat.le_trans (cutS_length _ lo hi) (by omega)
        have ht : (textB b).length ≤ sizeLine := by rw [sizeLine_eq]; omega
        have le : ∀ {n m : Nat}, n ≤ 100 → m ≤ 200 → n + m ≤ sizeLine := fun h1 h2 => by rw [sizeLine_eq]; omega
        have l1 := hS none (some (n : Int))
        have l2 := hS (some ((n : Int) + 1)) none
        have l3 := hS (some (n : Int)) none
        have q1 : (cutS (textB b) none (some (n : Int)) ++ sg).length ≤ 101 := by rw [Str.length_append]; omega
        refine ⟨_, rfl, _, rfl, (n : Int), rfl, _, rfl, ht, _, rfl, _, rfl, _, _, rfl, rfl, (n : Int) + 1, rfl, _, rfl, ht, _, _, rfl, rfl, le l1 (by omega), ?_⟩
        refine ⟨_, rfl, _, rfl, (n : Int), rfl, _, rfl, ht, _, rfl, _, _, rfl, rfl, le l1 (by omega), _, rfl, _, rfl, (n : Int), rfl, _, rfl, ht, _, _, rfl, rfl, by rw [sizeLine_eq]; omega, ?_⟩
        refine ⟨_, rfl, _, rfl, _, _, rfl, rfl, by rw [sizeLine_eq]; omega, _, rfl, _, rfl, (n : Int), rfl, _, rfl, ht, szl rfl, fun g H9 ng s9 eg => ?_⟩
        refine ⟨_, rfl, _, _, rfl, rfl, (by show (0 : Int) < 4; decide), ?_⟩
        have fin : ∀ z : Str, z.length ≤ 1000 → ∃ (z' : Str) (y8 y9 y10 y11 y12 : Option V), z'.length ≤ 1000 ∧ [y0, some (V.ref d), some (.ref pb), some (.str (textB b)), some (.int (0 + (i : Int))), some (.int (n : Int)), some (.str sg), some (.str z), _, _, _, _, _] = [y0, some (V.ref d), some (.ref pb), some (.str (textB b)), some (.int (0 + (i : Int))), some (.int (n : Int)), some (.str sg), some (.str z'), y8, y9, y10, y11, y12] ∧ Live (lawT Pt) p ds H9 ∧ At K H9 (.ref pb) (bushD b) :=
          fun z hz => ⟨z, y8, y9, y10, y11, y12, hz, rfl, L8.same s9, A8.same s9⟩
        have h4 : (0 + (i : Int)) % 4 = 0 ∨ (0 + (i : Int)) % 4 = 1 ∨ (0 + (i : Int)) % 4 = 2 ∨ (0 + (i : Int)) % 4 = 3 := by omega
        obtain ⟨z, hz, hat⟩ : ∃ z : Str, z.length ≤ 1000 ∧ atI [V.str (cutS (textB b) none (some (n : Int)) ++ cutS (textB b) (some ((n : Int) + 1)) none), V.str (cutS (textB b) none (some (n : Int)) ++ sg ++ cutS (textB b) (some (n : Int)) none), V.str (textB b ++ sg), V.str (cutS (textB b) none (some (n : Int)))] ((0 + (i : Int)) % 4) = some (.str z) := by
          rcases h4 with h4 | h4 | h4 | h4 <;> rw [h4]
          · exact ⟨_, by rw [Str.length_append]; omega, atI_nat (j := 0) rfl⟩
          · exact ⟨_, by rw [Str.length_append, Str.length_append]; omega, atI_nat (j := 1) rfl⟩
          · exact ⟨_, by rw [Str.length_append]; omega, atI_nat (j := 2) rfl⟩
          · exact ⟨_, by omega, atI_nat (j := 3) rfl⟩
        exact ⟨g, _, _, .str z, rfl, rfl, SqL.of eg, hat, fin z hz⟩
      rintro σ H9 ⟨z, y8, y9, y10, y11, y12, hz, rfl, L9, A9⟩
      refine ⟨L9.tabs, fun H10 x10 T10 => ⟨_, rfl, .str z, .str z, rfl, .str _, (fun z' e => by cases e; exact hz), fun _ H11 s11 => ⟨rfl, 5, by decide, rfl, fun H12 pe s12 ne ee => ?_⟩, fun b' z' e hb' ht H11 pp s11 n11 h11 => ?_⟩⟩
      · have L10 := L9.extN x10 T10
        have A10 := A9.ext (extN_ext x10)
        refine ⟨_, rfl, szl rfl, fun pf H13 nf s13 ef => ⟨errD 5, errD 5, at_err (by decide) (s13 _ _ ee), at_err (by decide) ef, by decide, by decide, fun _ => ⟨_, rfl, iteF ?_⟩, fun z => absurd rfl z⟩⟩
        have sA := s11.trans (s12.trans s13)
        exact ⟨⟨_, _, _, _, _, _, _, _, _, rfl⟩, L10.same sA, A10.same sA⟩
      · have L10 := L9.extN x10 T10
        have A10 := A9.ext (extN_ext x10)
        cases e
        refine ⟨_, rfl, szl rfl, fun pf H13 nf s13 ef => ⟨bushD b', errD 5, h11.same s13, at_err (by decide) ef, bush_depth, by decide, fun z => absurd z (err_ne _ _), fun _ => ⟨_, rfl, iteT ?_⟩⟩⟩
        refine ⟨_, rfl, .ref pp, bushD b', rfl, (h11.same s13).2, fun H14 s14 => ⟨_, rfl, ?_⟩⟩
        rw [isBush_iff.mpr ⟨b', rfl, hb'⟩]
        refine iteF ⟨_, rfl, .ref pp, b', rfl, (h11.same s13).same s14, hb', fun H15 s15 => ⟨_, rfl, rfl, _, rfl, ?_⟩⟩
        have sA := s11.trans (s13.trans (s14.trans s15))
        refine ite2 (fun y => ?_) fun _ => ⟨⟨_, _, _, _, _, _, _, _, _, rfl⟩, L10.same sA, A10.same sA⟩
        rw [ht] at y
        simp at y
    rintro σ H7 ⟨⟨z4, z5, z6, z7, z8, z9, z10, z11, z12, rfl⟩, L7, A7⟩
    let L12 : List V := [.str " ", .non, .int 5, .str "0w", .str "w", .str "-x", .str "-w  -b", .str "-w 1b", .str "--w", .str "-w,-b"]
    refine ⟨fun σ H' => ∃ (g t1 : Addr) (y10 y11 y12 : Option V), (∃ y4 y5 y6 y7 y8, σ = [y0, some (.ref d), some (.ref pb), some (.str (textB b)), y4, y5, y6, y7, y8, some (.ref g), y10, y11, y12]) ∧ Live (lawT Pt) p ds H' ∧ At K H' (.ref pb) (bushD b) ∧ H' g = some (.lst (L12 ++ [.ref pb, .ref t1])) ∧ H' t1 = some (.lst [.str (textB b)]), ?_, ?_⟩
    · refine ⟨_, rfl, _, rfl, szl rfl, fun t1 H8 n8 s8 e8 => ⟨szl rfl, fun g H9 n9 s9 e9 => ?_⟩⟩
      have sA := s8.trans s9
      exact ⟨g, t1, _, _, _, ⟨_, _, _, _, _, rfl⟩, L7.same sA, A7.same sA, e9, s9 _ _ e8⟩
    rintro σ H8 ⟨g0, t1, y10, y11, y12, ⟨y4, y5, y6, y7, y8, rfl⟩, L8, A8, eg0, et1⟩
    refine ⟨fun σ H' => ∃ (g : Addr), (∃ y4 y5 y6 y7 y8 y10 y11 y12, σ = [y0, some (.ref d), some (.ref pb), some (.str (textB b)), y4, y5, y6, y7, y8, some (.ref g), y10, y11, y12]) ∧ Live (lawT Pt) p ds H' ∧ At K H' (.ref pb) (bushD b) ∧ H' g = some (.lst (L12 ++ [.ref pb, .ref t1] ++ [.str (repS "-w " 8 ++ "-w")])) ∧ H' t1 = some (.lst [.str (textB b)]), ?_, ?_⟩
    · refine ⟨_, rfl, _, 8, rfl, rfl, by decide, by decide, by decide, by decide, _, _, rfl, rfl, by decide, szl rfl, fun l1 H9 n9 s9 e9 => ⟨g0, l1, _, _, rfl, rfl, s9 _ _ eg0, e9, (show 13 ≤ sizeLine by decide), fun g H10 n10 s10 e10 => ?_⟩⟩
      have sA := s9.trans s10
      exact ⟨g, ⟨_, _, _, _, _, _, _, _, rfl⟩, L8.same sA, A8.same sA, e10, sA _ _ et1⟩
    rintro σ H9 ⟨g, ⟨y4, y5, y6, y7, y8, y10, y11, y12, rfl⟩, L9, A9, eg, et9⟩
    refine ⟨_, rfl, g, rfl, ⟨_, SqL.of eg⟩, ?_⟩
    refine for_it (walk_list (xs := L12 ++ [.ref pb, .ref t1] ++ [.str (repS "-w " 8 ++ "-w")])) (fun _ σ H' => Iv K Pt p ds d pb b y0 σ H' ∧ H' g = some (.lst (L12 ++ [.ref pb, .ref t1] ++ [.str (repS "-w " 8 ++ "-w")])) ∧ H' t1 = some (.lst [.str (textB b)]))
      ⟨⟨⟨_, _, _, _, _, _, _, _, _, rfl⟩, L9, A9⟩, eg, et9⟩ (fun _ _ _ _ h => SqL.of h.2.1) ?_ ?_
    · rintro j x σ H10 H10' hj ⟨⟨⟨z4, z5, z6, z7, z8, z9, z10, z11, z12, rfl⟩, L10, A10⟩, eg10, et10⟩ ⟨rfl, hx⟩
      have no : ∀ z : Str, (match readL (TL.tl z) with | some b => isBush (bushD b) | none => false) = false → z.length ≤ 1000 → ∃ dd, Dp K H10' (.str z) dd ∧ (∀ z, dd = .str z → z.length ≤ 1000) ∧ ∀ (b : Bsh) z, dd = .str z → BushOk b → textB b ≠ z := fun z h hl =>
        ⟨.str z, .str _, (fun y e => by cases e; exact hl), fun b y e hb => by cases e; exact not_text h b hb⟩
      obtain ⟨dd, hdd, hl1, hno⟩ : ∃ dd, Dp K H10' x dd ∧ (∀ z, dd = .str z → z.length ≤ 1000) ∧ ∀ (b : Bsh) z, dd = .str z → BushOk b → textB b ≠ z := by
        match j, hj with
        | 0, _ => cases hx; exact no _ (by decide +kernel) (by decide)
        | 1, _ => cases hx; exact ⟨.none, .non, (fun z e => nomatch e), fun b z e => nomatch e⟩
        | 2, _ => cases hx; exact ⟨.int 5, .int _, (fun z e => nomatch e), fun b z e => nomatch e⟩
        | 3, _ => cases hx; exact no _ (by decide +kernel) (by decide)
        | 4, _ => cases hx; exact no _ (by decide +kernel) (by decide)
        | 5, _ => cases hx; exact no _ (by decide +kernel) (by decide)
        | 6, _ => cases hx; exact no _ (by decide +kernel) (by decide)
        | 7, _ => cases hx; exact no _ (by decide +kernel) (by decide)
        | 8, _ => cases hx; exact no _ (by decide +kernel) (by decide)
        | 9, _ => cases hx; exact no _ (by decide +kernel) (by decide)
        | 10, _ => cases hx; exact ⟨bushD b, A10.2, (fun z e => nomatch e), fun b z e => nomatch e⟩
        | 11, _ => cases hx; exact ⟨.list [.str (textB b)], .lst (SqL.of et10) (.cons (.str _) .nil), (fun z e => nomatch e), fun b z e => nomatch e⟩
        | 12, _ => cases hx; exact no _ (by decide +kernel) (by decide +kernel)
      refine ⟨L10.tabs, fun H11 x11 T11 => ⟨_, rfl, x, dd, rfl, dp_extN x11 _ _ hdd, hl1, fun _ H12 s12 => ⟨rfl, 5, by decide, rfl, fun H13 pe s13 ne ee => ?_⟩, fun b' z' e hb' ht => absurd ht (hno b' z' e hb')⟩⟩
      refine ⟨szl rfl, fun pf H14 nf s14 ef => ⟨errD 5, errD 5, at_err (by decide) (s14 _ _ ee), at_err (by decide) ef, by decide, by decide, fun _ => ⟨_, rfl, iteF ?_⟩, fun z => absurd rfl z⟩⟩
      have sA := s12.trans (s13.trans s14)
      exact ⟨⟨⟨_, _, _, _, _, _, _, _, _, rfl⟩, (L10.extN x11 T11).same sA, (A10.ext (extN_ext x11)).same sA⟩, sA _ _ (x11 _ _ eg10 (fun _ z => nomatch z)), sA _ _ (x11 _ _ et10 (fun _ z => nomatch z))⟩
    rintro σ H10 ⟨⟨⟨z4, z5, z6, z7, z8, z9, z10, z11, z12, rfl⟩, L10, A10⟩, _⟩
    exact ⟨rfl, L10⟩
  · rintro σ H2 ⟨hσ, L⟩
    exact q _
end
end Sv

set_option maxHeartbeats 4000000
namespace Sv
open PySem PySem.Spec PyProof.Rows L2 L2H HotX LamX
/-- the classes' places -/
def cls10 (l : List Addr) : Nat → Addr := fun i => l.getD i 0
theorem tabs1 {h : Heap} {c Pt : Addr} (e : h.get? Pt = some (PySem.W.tabObj #[])) : ∀ p ∈ [(c, Pt)], h.get? p.2 = some (PySem.W.tabObj #[]) := fun p hp => by rw [List.mem_singleton.mp hp]; exact e
theorem tabs2 {h : Heap} {c c2 Pt P2 : Addr} (e : h.get? Pt = some (PySem.W.tabObj #[])) (e2 : h.get? P2 = some (PySem.W.tabObj #[])) : ∀ p ∈ [(c, Pt), (c2, P2)], h.get? p.2 = some (PySem.W.tabObj #[]) := fun p hp => by
  rcases List.mem_cons.mp hp with rfl | hp
  · exact e
  · rw [List.mem_singleton.mp hp]; exact e2
section
variable {P : Program} {w : World} {K : PySem.W.Frag} {mg : Str → Option Value} {base : Heap}
/-- the end: what walk_ofTs asks of the law -/
theorem lawAt {l : PySem.W.OpenLaw} {h : Heap} {fa c : Addr} {x : Str} {st : Stmt} {cs : List (Addr × Addr)} {sp : Sp} {n k : Nat} (X : K.In h) (FL : HereC K mg "law" st c) (hfa : mg "law" = some (.ref fa)) (hT : ∀ p ∈ cs, h.get? p.2 = some (PySem.W.tabObj #[])) (hn : (cs.all fun p => (K.lookup p.2).isNone) = true) (hc : (cs.all fun p => PySem.W.codeHdIn K p.1 p.2) = true)
    (hb : ∀ (kV doc pm : Value) (an : Option Addr) (cdv ct : Value) (us : List Value), us.length = 1 → bindArgs (PySem.W.fnOf "law" "law" (defArgs st) (defBody st) (defScope st) .none kV doc pm an cdv ct) ⟨us, []⟩ = pure ([x].zip us))
    (hsp : ∀ (H : Hp) (a : Addr) (ns : List Int), ns.length ≤ n → (∀ z ∈ ns, Builtin.Int.intBits z ≤ 1048576) → (∀ p ∈ cs, H p.2 = some (.tbl #[])) → SqL K H a (ns.map V.int) → sp [.ref a] H (fun v _ => v = .bl true) fun _ _ _ => False)
    (ok : ∀ base : Heap, K.In base → base.Ns mainGlobals mg → (∀ p ∈ cs, TabB base mg p.1 p.2) → KeepsC l.prog w K mg base CX0 k "law" [x] sp) : LawAtS l w K CX0 k n x mg fa h := by
  obtain ⟨f, oc, od, kV, doc, pm, an, ct, osl, g, lk, hcd, hk⟩ := FL
  cases hfa.symm.trans g
  refine ⟨PySem.W.fnOf "law" "law" (defArgs st) (defBody st) (defScope st) .none kV doc pm an (.ref c) ct, cs, sp, fun p hp => hT p hp, fun p hp => ?_, fun p hp => PySem.W.codeHd_of_K X (List.all_eq_true.mp hc p hp), fun s u => .of_eq (hb kV doc pm an _ ct [u] rfl), hsp, fun base KB GB TB => ?_⟩
  · have := List.all_eq_true.mp hn p hp
    exact Option.isNone_iff_eq_none.mp this
  · obtain ⟨f', fd', ⟨oc', od', osl', lk'⟩, g', F⟩ := ok base KB GB TB
    cases g.symm.trans g'
    rw [lk] at lk'
    cases lk'
    exact F
end
theorem walk {l : PySem.W.OpenLaw} {n k : Nat} {q : Program} {loose : List Str} {XP : (Str → Option Value) → Heap → Prop} {YP : World → Heap → Prop} {d : DefRec} {K : Params → PySem.W.Frag} {x : Str}
    (hn : l.most = some n) (hn2 : n ≤ sizeLine) (hdf : d.params.defaults = []) (hr : Room k callerA) (hY : ∀ (w : World) (h : Heap), YP w h → (K w.params).In h)
    (F : ∀ (w : World) (mg : Str → Option Value) (fa : Addr) (h : Heap), YP w h → (K w.params).In h → h.Ns mainGlobals mg → mg d.name = some (.ref fa) → LawAtS l w (K w.params) CX0 k n x mg fa h) :
    PySem.W.WalkO q loose XP YP l.row.toRowW d [] (fun f vs => PySem.call f vs) :=
  walk_ofTs (CX := fun _ => CX0) hn hn2 hdf hr hY F fun _ _ _ _ _ z => z
end Sv

set_option maxHeartbeats 4000000
namespace Sv
open PySem PySem.Spec PyProof.Rows L2 L2H HotX LamX
theorem fin {l : PySem.W.OpenLaw} {w : World} {K : PySem.W.Frag} {mg : Str → Option Value} {h : Heap} {fa c Pt CS : Addr} {C : Nat → Addr} (X : K.In h) (G : h.Ns mainGlobals mg) (hfa : mg "law" = some (.ref fa))
    (F_law_told : Here K mg "_law_told" s_law_told) (F_law_term : Here K mg "_law_term" s_law_term) (F_law_cell : Here K mg "_law_cell" s_law_cell) (F_law_rounds : Here K mg "_law_rounds" s_law_rounds) (F_law_drawn : Here K mg "_law_drawn" s_law_drawn) (F_law_roll : Here K mg "_law_roll" s_law_roll) (F_law_any_bush : Here K mg "_law_any_bush" s_law_any_bush) (F_is_whole : Here K mg "is_whole" s_is_whole) (F_is_stem : Here K mg "is_stem" s_is_stem) (F_is_bush : Here K mg "is_bush" s_is_bush) (F_need_bush : Here K mg "need_bush" s_need_bush) (F_format_bush : Here K mg "format_bush" s_format_bush) (F_stem_of : Here K mg "stem_of" s_stem_of) (F_parse_bush : Here K mg "parse_bush" s_parse_bush)
    (FL : HereC K mg "law" s_law c) (hB : bltB K = true) (hE : excsB K C CS = true) (hT : ∀ p ∈ [(c, Pt)], h.get? p.2 = some (PySem.W.tabObj #[])) (hn : (K.lookup Pt).isNone = true) (hc : PySem.W.codeHdIn K c Pt = true)  :
    LawAtS l w K CX0 10 63 "script" mg fa h := by
  have B := blt_of X G hB
  have Ex := excs_of X G hE
  refine lawAt (st := s_law) (c := c) (cs := [(c, Pt)]) (sp := spLaw K Pt) X FL hfa hT (by simp only [List.all_cons, List.all_nil, hn]; rfl) (by simp only [List.all_cons, List.all_nil, hc]; rfl) (fun _ _ _ _ _ _ us hl => match us, hl with | [_], _ => rfl) ?_ ?_
  · intro H a ns hl _ hH hS
    refine ⟨a, ns, rfl, hS, hl, fun p hp => ?_, fun _ => rfl⟩
    rw [List.mem_singleton.mp hp]
    exact TabS.nil (hH _ (List.mem_singleton.mpr rfl))
  · intro base _ _ TB
    have d_cell := k_cell (P := l.prog) (w := w) (base := base) F_law_cell B
    have d_rounds := k_rounds F_law_rounds B d_cell
    have d_drawn := k_drawn (P := l.prog) (w := w) (base := base) F_law_drawn
    have d_roll := k_roll F_law_roll d_drawn
    have d_any := k_any_bush F_law_any_bush B d_roll
    have d_whole := k_whole (P := l.prog) (w := w) (base := base) F_is_whole B
    have d_stem := k_is_stem F_is_stem B d_whole
    have d_bush := k_is_bush F_is_bush B d_stem
    have d_nb := k_need_bush (C := C) F_need_bush (Ex.one 0 _ rfl) d_bush
    have d_format := k_format F_format_bush B d_nb
    have d_stemof := k_stem_of (P := l.prog) (w := w) (base := base) (C := C) F_stem_of B (Ex.one 5 _ rfl)
    have d_parse := k_parse F_parse_bush B (Ex.one 5 _ rfl) d_stemof d_bush
    exact k_law FL F_law_told F_law_term B Ex (TB _ (List.mem_singleton.mpr rfl)) d_rounds d_roll d_any d_bush d_format d_parse
end Sv

open PySem PySem.W PyProof.Rows in
set_option maxRecDepth 100000 in
set_option maxHeartbeats 0 in
theorem PySem.Challenge.cw_stemvalues_k20_whole_texts_holds : PySem.Challenge.rw_stemvalues_k20_whole_texts.Holds := by
  w_on; o_law; k_head; (case hw => w_witness2)
  k_fill
  refine Sv.walk (l := PySem.Challenge.rw_stemvalues_k20_whole_texts) (n := 63) (k := 10) (x := "script") rfl (by decide) rfl ⟨rfl, by decide, by decide⟩ (fun w h Y => PySem.W.km_in_of Y) ?F
  case F =>
    intro w mg fa h Y KX G hmg
    refine' Sv.fin (Pt := 237) (CS := 24) (C := Sv.cls10 [37,49,61,73,85,97,109,121,133,145]) KX G hmg (Sv.here_mk KX G ?a0 ?l0 ?c0 ?k0) (Sv.here_mk KX G ?a1 ?l1 ?c1 ?k1) (Sv.here_mk KX G ?a2 ?l2 ?c2 ?k2) (Sv.here_mk KX G ?a3 ?l3 ?c3 ?k3) (Sv.here_mk KX G ?a4 ?l4 ?c4 ?k4) (Sv.here_mk KX G ?a5 ?l5 ?c5 ?k5) (Sv.here_mk KX G ?a6 ?l6 ?c6 ?k6) (Sv.here_mk KX G ?a7 ?l7 ?c7 ?k7) (Sv.here_mk KX G ?a8 ?l8 ?c8 ?k8) (Sv.here_mk KX G ?a9 ?l9 ?c9 ?k9) (Sv.here_mk KX G ?a10 ?l10 ?c10 ?k10) (Sv.here_mk KX G ?a11 ?l11 ?c11 ?k11) (Sv.here_mk KX G ?a12 ?l12 ?c12 ?k12) (Sv.here_mk KX G ?a13 ?l13 ?c13 ?k13) (Sv.hereC_mk KX G ?a14 ?l14 ?c14 ?k14) ?z15 ?z16 (Sv.tabs1 (PySem.W.km_tabs_of Y 237 (List.mem_singleton.mpr rfl))) ?z18 ?z19
    (case a0 => k_is)
    (case l0 => k_is)
    (case c0 => k_is)
    (case k0 => k_is)
    (case a1 => k_is)
    (case l1 => k_is)
    (case c1 => k_is)
    (case k1 => k_is)
    (case a2 => k_is)
    (case l2 => k_is)
    (case c2 => k_is)
    (case k2 => k_is)
    (case a3 => k_is)
    (case l3 => k_is)
    (case c3 => k_is)
    (case k3 => k_is)
    (case a4 => k_is)
    (case l4 => k_is)
    (case c4 => k_is)
    (case k4 => k_is)
    (case a5 => k_is)
    (case l5 => k_is)
    (case c5 => k_is)
    (case k5 => k_is)
    (case a6 => k_is)
    (case l6 => k_is)
    (case c6 => k_is)
    (case k6 => k_is)
    (case a7 => k_is)
    (case l7 => k_is)
    (case c7 => k_is)
    (case k7 => k_is)
    (case a8 => k_is)
    (case l8 => k_is)
    (case c8 => k_is)
    (case k8 => k_is)
    (case a9 => k_is)
    (case l9 => k_is)
    (case c9 => k_is)
    (case k9 => k_is)
    (case a10 => k_is)
    (case l10 => k_is)
    (case c10 => k_is)
    (case k10 => k_is)
    (case a11 => k_is)
    (case l11 => k_is)
    (case c11 => k_is)
    (case k11 => k_is)
    (case a12 => k_is)
    (case l12 => k_is)
    (case c12 => k_is)
    (case k12 => k_is)
    (case a13 => k_is)
    (case l13 => k_is)
    (case c13 => k_is)
    (case k13 => k_is)
    (case a14 => k_is)
    (case l14 => k_is)
    (case c14 => k_is)
    (case k14 => k_is)
    (case z15 => kernel_rfl)
    (case z16 => kernel_rfl)
    (case z18 => kernel_rfl)
    (case z19 => kernel_rfl)

