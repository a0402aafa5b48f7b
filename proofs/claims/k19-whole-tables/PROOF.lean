import PyProof.Rows.All
import Wide.All
import OpenK.AllK
import Wide.FinOn
import HandS.ForMost
import HandS.ForExc
import HandS.ExcIs
import HandS.IsInst
import HandS.HotCalls
import HandS.ExcCtx
import HandS.Lambda
import HandS.EndTab
import HandS.Wide
import HandS.Walk
import HandS.Conv
import HandS.TupAny
import HandS.TupMul
import HandS.TryOnly
import HandS.Style
import HandS.Small
import HandS.Text
import HandS.Replace
import KE.KDictKeyed
import PySem.Challenge.RW_stemvalues_k19_whole_tables
set_option Elab.async false
set_option linter.all false
set_option maxRecDepth 100000
set_option maxHeartbeats 4000000
namespace Sv
open PySem PySem.Spec PyProof.Rows L2 L2H HotX
/-! ### rules for code that runs while an exception is handled: the end of a list's walk, sum, a comprehension of int(x) -/
section
variable {prog : Program} {w : World} {A : Around} {E : Value → Shared → Prop} {s : Shared}
theorem next_list_end_hot {it l x1 : Addr} {i : Nat} {items : Array Value} {Q : Option Value → Shared → Prop} (hot : HotAt A x1 s.heap) (hxi : x1 ≠ it)
    (hit : s.heap.IsListIter it l i) (hl : s.heap.IsList l items) (hx : items[i]? = none)
    (hQ : ∀ h', (∀ b o, b ≠ it → s.heap.get? b = some o → h'.get? b = some o) → Q none { s with heap := h' }) : wpAny (model prog w) A (pyNext (.ref it)) Q E s := by
  obtain ⟨hh, o1, vs1, h1, d1, c1⟩ := hot
  obtain ⟨oi, hoi, hci, hdi⟩ := id hit
  obtain ⟨ol, hol, _, nl, hdl⟩ := hl
  unfold pyNext
  refine wpAny_bind (wpAny_attempt (wpAny_callSpecial?_slot (name := Str.ofString "__next__") hit.typeIs slot_listiter_next
    (wpAny_call_entry slot_listiter_next hit.typeIs entry_listiter_next ?_ (args_listiter_next _))))
  show wpAny _ _ (field (.ref it) 0 >>= _) _ _ s
  refine wpAny_bind (wpAny_field hoi hdi (x := .ref l) rfl ?_)
  show wpAny _ _ (if (Value.ref l == Value.none) = true then _ else _) _ _ s
  rw [if_neg (show ¬ (Value.ref l == Value.none) = true by simp)]
  show wpAny _ _ (field (.ref it) 1 >>= _) _ _ s
  refine wpAny_bind (wpAny_field hoi hdi (x := .int i 0) rfl ?_)
  show wpAny _ _ (seqItems? (.ref l) >>= _) _ _ s
  refine wpAny_bind (wpAny_seqItems hol hdl ?_)
  simp only [Int.toNat_natCast, hx]
  refine wpAny_bind (wpAny_rule (wpAny_bind (wpAny_setField hoi hdi (by simp) ?_)))
  show wpAny _ _ (newExc (.type "StopIteration") [] >>= _) _ _ _
  refine wpAny_bind ?_
  simp only [newExc, newTuple]
  refine wpAny_bind (wpAny_newObj_type ?_ (by size_fits))
  refine wpAny_bind (m := firstArgMember _ _) (wpAny_of_eq (a := Value.none) (by first | rfl | (simp only [firstArgMember]; rfl)) ?_)
  refine wpAny_newObj_type ?_ (by size_fits)
  have h1' := (Heap.get?_update_other s.heap (Obj.mapFields (·.setIfInBounds 0 Value.none)) (Ne.symm hxi)).trans h1
  refine raiseNew_hot ⟨hh, o1, vs1, Heap.get?_push_of_some _ (Heap.get?_push_of_some _ h1'), d1, c1⟩ (Nat.ne_of_lt (Heap.lt_size (Heap.get?_push_of_some _ h1'))) (Heap.get?_push_size _ rfl) rfl (by first | (simp; done) | (simp; omega)) ?_
  refine wpAny_bind (wpAny_isInstance (T := "StopIteration") (b := true) ⟨_, Heap.get?_update_self _ (Heap.get?_push_size _ rfl) rfl, rfl⟩ isSubtype_stop ?_)
  refine wpAny_pure (hQ _ fun b o hb e => ?_)
  have e' := (Heap.get?_update_other s.heap (Obj.mapFields (·.setIfInBounds 0 Value.none)) (Ne.symm hb)).trans e
  rw [Heap.get?_update_other _ _ (Nat.ne_of_gt (Heap.lt_size (Heap.get?_push_of_some _ e')))]
  exact Heap.get?_push_of_some _ (Heap.get?_push_of_some _ e')
/-- the walk of a list, where the exception at x1 is handled -/
theorem walk_list_hot {x1 : Addr} (hh : A.handled = some (.ref x1)) (I ax : Addr) (hne : ax ≠ I) (hx : x1 ≠ I) (items : Array Value) :
    Walks prog w A I [I, ax, x1] [I] items.size (fun i v => items[i]? = some v) (fun i h => h.IsListIter I ax i ∧ h.IsList ax items ∧ HotAt A x1 h) where
  sub := fun b hb => by simp at hb; simp [hb]
  frame := fun _ _ _ st hk => ⟨st.1.at fun o e => hk I (by simp) o e, st.2.1.at fun o e => hk ax (by simp) o e, by
    obtain ⟨_, h1, o, vs, e, r⟩ := st.2
    exact ⟨hh, o, vs, hk x1 (by simp) o e, r⟩⟩
  item := fun i s Q E hi st hQ => by
    refine wpAny_pyNext_list_item st.1 st.2.1 (x := items[i]) (by simp [hi]) fun h' hit' hs' => ?_
    refine hQ _ h' s.toks (by simp [hi]) ⟨hit', st.2.1.extBut hs'.extBut hne, ?_⟩ fun b o hb e => hs'.extBut b o (fun h => hb (by simp [h])) e
    obtain ⟨_, h1, o, vs, e, r⟩ := st.2
    exact ⟨hh, o, vs, hs'.extBut x1 o hx e, r⟩
  done := fun s Q E st hQ => next_list_end_hot st.2.2 hx st.1 st.2.1 (by simp) fun h' he' => hQ h' s.toks fun b o hb e => he' b o (fun h => hb (by simp [h])) e
  self := fun _ _ _ _ st hQ => wpAny_pyIter_listiter st.1 hQ
theorem sum_hot {x1 l : Addr} {its : List Value} {ns : List Int} {Q : Value → Shared → Prop} (hot : HotAt A x1 s.heap) (hl : s.heap.IsList l its.toArray) (hi : IntsAre its ns)
    (h : ∀ h' tk t', (∀ b o, s.heap.get? b = some o → h'.get? b = some o) → Q (.int ns.sum t') { s with heap := h', toks := tk }) : wpAny (model prog w) A (call (.builtin "sum") [.ref l]) Q E s := by
  obtain ⟨xs, e⟩ := hi.allInts.items
  have hn : numsOf (intItems xs).toList = ns := by rw [← e]; exact hi.numsOf
  rw [nums_intItems] at hn
  rw [e] at hl
  obtain ⟨hh, o1, v1, g1, d1, c1⟩ := hot
  refine call_sum_walkG (iter_intList hl fun s₂ es st hfp hlI => ?_)
  subst es
  have g2 := Heap.get?_push_of_some (h := s.heap) { cls := .type "list_iterator", data := .fields #[.ref l, .int 0 0] } g1
  refine ⟨_, _, _, _, _, _, numAt xs, rfl, walk_list_hot (A := A.in1) (x1 := x1) hh _ l hlI (Nat.ne_of_lt (Heap.lt_size g1)) (intItems xs), ⟨st.1, st.2, hh, o1, v1, g2, d1, c1⟩, fun b hb => ?_, (fun _ _ => intItems_at), fun h' tk t' hk => ?_⟩
  · rcases List.mem_cons.mp hb with z | hb
    · exact hfp b (by simp [z])
    · rcases List.mem_cons.mp hb with z | hb
      · exact hfp b (by simp [z])
      · rw [List.mem_singleton.mp hb]
        exact Heap.lt_size g2
  · have := h h' tk t' (old_kept hk)
    rw [← hn] at this
    have hp : preSum (numAt xs) (intItems xs).size = (xs.toList.map (·.1)).sum := by
      rw [show (intItems xs).size = xs.size by simp [intItems], preSum_eq, List.take_of_length_le (by simp)]
    rw [hp]
    exact this
end
section
variable {X : Cx}
theorem cr_sumH (hc : HotC X) : CallR X (.builtin "sum") (rSum X.K) := by
  intro pins s σ H vs us Q I r h
  obtain ⟨a, ns, rfl, hs, q⟩ := h
  obtain ⟨its, rv, hl, _⟩ := I.list hs
  obtain ⟨x1, hot⟩ := hc.at I
  rw [Vals.ref1 r]
  exact sum_hot hot hl.isList rv.ints fun h' tk t' hk => ⟨.int _, H, I.kept hk, ⟨_, rfl⟩, q⟩
/-- a new object, told by its place being free -/
theorem inv_laid {pins : List (Addr × Obj)} {σ : L2.St} {H : Hp} {s : Shared} {h' : Heap} {a : Addr} {o : HO} {t' : Nat} (I : Inv X pins σ H s) (k : ∀ b u, s.heap.get? b = some u → h'.get? b = some u) (hn : s.heap.get? a = none)
    (new : ObjOk X.prog X.w (upd H a o) h' a o) : Inv X pins σ (upd H a o) { s with heap := h', toks := t' } := by
  have hH : H a = none := I.hok.gone hn
  refine I.un ⟨fun b u q _ _ _ => k b u q, fun b u q _ _ _ => ⟨u.slots, k b u q⟩, fun b u q n _ => ?_, fun b u q _ => ⟨u, k b u q⟩, fun b xs q => ?_, fun b u xs q => ?_, fun b ps q => ⟨#[], ?_⟩⟩ fun b u e => ?_
  · rw [upd_ne (fun z => by rw [z, hn] at q; cases q)]; exact n
  · rw [upd_ne (ne_of_none q hH)]; exact q
  · rw [upd_ne (ne_of_none q hH)]; exact q
  · rw [upd_ne (ne_of_none q hH), q]; simp
  · by_cases hb : b = a
    · subst hb; rw [upd_same] at e; cases e; exact new
    · rw [upd_ne hb] at e
      exact (I.hok b u e).stay (fun c v _ q => k c v q) (fun c q => by rw [upd_ne (ne_of_none q hH)]; exact q) fun c xs q => by rw [upd_ne (ne_of_none q hH)]; exact q
theorem relabel_same {scope : Scope} {env : Env} (h : ∀ y ∈ scope.names, y.2 ≠ .free) : relabel scope env = scope := by
  obtain ⟨k, names, g, c, m⟩ := scope
  unfold relabel
  congr 1
  rw [← List.map_id names]
  rw [List.map_map]
  refine List.map_congr_left fun y hy => ?_
  obtain ⟨n, kd⟩ := y
  have := h (n, kd) hy
  have z : kd ≠ NameKind.free := this
  simp [z]
theorem vals_b2i : ∀ {bs : List Bool} {zs : List Value}, Paired (fun v y => ∀ b, v = Value.bool b → ∃ t, y = Value.int (if b then 1 else 0) t) (bs.map Value.bool) zs →
    Vals ((bs.map fun b => if b then (1 : Int) else 0).map V.int) zs
  | [], _, .nil => .nil
  | b :: r, _, .cons r1 r2 => .cons (r1 b rfl) (vals_b2i r2)
/-- [int(x) for x in bools] -/
def tLcIntH (K : PySem.W.Frag) (tl : TE) : TE := fun σ H Q => tl σ H fun v H1 => ∃ (a : Addr) (bs : List Bool), v = V.ref a ∧ SqL K H1 a (bs.map V.bl) ∧
  ∀ D, H1 D = none → Q (.ref D) (upd H1 D (.lst ((bs.map fun b => if b then (1 : Int) else 0).map V.int)))
theorem pe_lcIntH {x : Str} {px p1 p2 p3 pos : Pos} {scope : Scope} {iter : Expr} {tl : TE} (hc : HotC X) (hi : PE X iter tl) (hm : X.mg "int" = none) (hk : scope.kind = .function) (h1 : scope.names.lookup x = some .local)
    (h2 : scope.names.lookup ("int" : Str) = some .globalImplicit) (h3 : ∀ y ∈ scope.names, y.2 ≠ .free) (h3c : ∀ y ∈ scope.names, y.2 ≠ .cell) (h4 : ∀ y ∈ scope.names, y.2 = .local → scope.names.lookup y.1 = some .local)
    (hs : ∀ v, foldedSetIterable iter X.env v = pure v := by intro _; rfl) (hdx : (x == ("__debug__" : Str)) = false := by decide) :
    PE X (.ListComp (.Call (.Name "int" p1) [.Name x p2] [] p3) [⟨.Name x px, iter, [], 0⟩] scope pos) (tLcIntH X.K tl) := by
  refine ⟨fun pins s σ H Q I h => ?_⟩
  have hclos : closureFor scope X.env = pure (cloFrom X.env.cells scope.names []) := closure_ok fun y hy e => absurd e (h3 y hy)
  refine wpAny_ListComp_free (fun _ => true) (fun v y => ∀ b, v = .bool b → ∃ t, y = .int (if b then 1 else 0) t) hclos h3c hk h4 h1 (thn (hi.run pins s σ H _ I h) fun u s1 hu => ?_) hs
  obtain ⟨v, H1, I1, rv, a, bs, ev, hS, q⟩ := hu
  subst ev
  obtain rfl : u = Value.ref a := rv
  obtain ⟨its, rits, hl, hz⟩ := I1.list hS
  have hb := rits.bls
  obtain ⟨x1, hot⟩ := hc.at I1
  obtain ⟨hh, o1, v1, g1, d1, c1⟩ := hot
  have hlt : a < s1.heap.objs.size := by obtain ⟨_, _, e, _⟩ := hl; exact Heap.lt_size e
  refine wpAny_pyIter_list hl.isList ?_
  have g2 := Heap.get?_push_of_some (h := s1.heap) { cls := .type "list_iterator", data := .fields #[.ref a, .int 0 0] } g1
  refine ⟨s1.heap.objs.size, _, _, _, _, _, rfl, walk_list_hot (x1 := x1) hh _ a (Nat.ne_of_lt hlt) (Nat.ne_of_lt (Heap.lt_size g1)) its.toArray, ?_, ⟨⟨_, Heap.get?_push_size _ rfl, rfl, rfl⟩, hl.isList.push _, hh, o1, v1, g2, d1, c1⟩, fun b hb => ?_, ⟨?_, ?_⟩, ?_⟩
  · have := rits.length
    simp only [List.size_toArray]
    omega
  · show b < (s1.heap.push _).objs.size
    rw [Heap.size_push]
    rcases List.mem_cons.mp hb with z | hb
    · rw [z]; exact Nat.lt_succ_self _
    · rcases List.mem_cons.mp hb with z | hb
      · rw [z]; exact Nat.lt_succ_of_lt hlt
      · rw [List.mem_singleton.mp hb]
        exact Nat.lt_succ_of_lt (Heap.lt_size g1)
  · intro C i v s₃ m₃ E' _ _ _ _ _ _
    exact wpAny_tests_nil ⟨rfl, s₃.heap, s₃.toks, rfl, fun _ _ z => z⟩
  · intro C i v s₃ m₃ E' hC hv _ hn hmx hkp htk
    have hv : its[i]? = some v := by simpa using hv
    rw [hb] at hv
    obtain ⟨b, hbi, rfl⟩ : ∃ b, bs[i]? = some b ∧ v = Value.bool b := by
      rw [List.getElem?_map] at hv
      cases e : bs[i]? with
      | none => rw [e] at hv; cases hv
      | some b => rw [e] at hv; exact ⟨b, rfl, (Option.some.inj hv).symm⟩
    have er : (compEnvC scope (cloFrom X.env.cells scope.names []) C X.env).scope = scope := relabel_same h3
    have kp : ∀ b o, X.base.get? b = some o → s₃.heap.get? b = some o := fun b o e => by
      have e1 := I1.bk b o e
      exact hkp b o (fun z => by rw [List.mem_singleton.mp z] at e1; exact absurd (Heap.lt_size e1) (Nat.lt_irrefl _)) (Heap.get?_push_of_some _ e1)
    obtain ⟨mb, b1, b2⟩ := I1.mod.blt
    refine Call_ (Calls.Name_function_global (by rw [er]; exact hk) (by show (compEnvC scope _ C X.env).scope.names.lookup _ = _; rw [er]; exact h2)
      (Calls.loadGlobal_builtin (env := compEnvC scope (cloFrom X.env.cells scope.names []) C X.env) (by show s₃.heap.Ns X.env.globals _; rw [I1.ok.glob]; exact I1.mod.glob.keeps kp) hm (by show s₃.heap.Ns X.env.builtins _; rw [I1.ok.blt]; exact b1.keeps kp) ((b2 "int" (by decide)).trans (by decide +kernel : bootBuiltins "int" = some (.type "int"))) ?_))
    refine PyProof.Rows.callWith_type1 (Calls.spliced_cons (wpAny_Name (wpAny_loadName_local (by rw [er]; exact hk) (by show (compEnvC scope _ C X.env).scope.names.lookup _ = _; rw [er]; exact h1) hn hmx (Calls.spliced_nil (call_int_bool ?_))) hdx)) rfl rfl
    exact ⟨fun b' e => ⟨_, by cases e; rfl⟩, s₃.heap, s₃.toks + 1, rfl, fun _ _ z => z⟩
  · intro D h' tk ys vs hD hDl hpl hlen hP hF hkp
    obtain ⟨n, hDo⟩ := hpl
    have fr : ∀ b o, s1.heap.get? b = some o → h'.get? b = some o := fun b o e => hkp b o (fun z => by rw [List.mem_singleton.mp z] at e; exact absurd (Heap.lt_size e) (Nat.lt_irrefl _)) (Heap.get?_push_of_some _ e)
    have hD1 : s1.heap.get? D = none := by
      cases e : s1.heap.get? D with
      | none => rfl
      | some o => rw [show (s1.heap.push _).get? D = some o from Heap.get?_push_of_some _ e] at hD; cases hD
    have evs : vs = bs.map Value.bool := by
      rw [← hb]
      refine List.ext_getElem? fun j => ?_
      cases e : vs[j]? with
      | none =>
        have := List.getElem?_eq_none_iff.mp e
        exact (List.getElem?_eq_none_iff.mpr (by simp only [List.size_toArray] at hlen; omega)).symm
      | some v => simpa using (hP j v e).symm
    have rv2 : Vals ((bs.map fun b => if b then (1 : Int) else 0).map V.int) ys.toList := by
      rw [show vs.filter (fun _ => true) = vs from List.filter_eq_self.mpr fun _ _ => rfl, evs] at hF
      exact vals_b2i hF
    have hz2 : ((bs.map fun b => if b then (1 : Int) else 0).map V.int).length ≤ sizeLine := by
      simpa using hz
    have J : Inv X pins σ (upd H1 D (.lst ((bs.map fun b => if b then (1 : Int) else 0).map V.int))) { s1 with heap := h', toks := tk } := inv_laid (s := s1) (t' := tk) I1 fr hD1 ⟨hz2, ys.toList, n, rv2, by simpa using hDo⟩
    exact ⟨.ref D, _, J, rfl, q D (I1.hok.gone hD1)⟩
end
end Sv

set_option maxHeartbeats 4000000
namespace Sv
open PySem PySem.Spec PyProof.Rows L2 L2H HotX
/-! ### a def of the text, by its name -/
section
variable (P : Program) (w : World) (K : PySem.W.Frag) (mg : Str → Option Value) (base : Heap)
/-- the def st stands under its name x -/
def Here (x : Str) (st : Stmt) : Prop := ∃ f fd, Fun K x x st f fd ∧ mg x = some (.ref f)
/-- the name x is a def that keeps the promise sp, by level k -/
def Keeps' (CX : CXT) (k : Nat) (x : Str) (ps : List Str) (sp : Sp) : Prop :=
  ∃ f fd, mg x = some (.ref f) ∧ PySem.W.keepIn K (.ref f) = true ∧ Binds K fd ps [] ∧ FnOk P w K mg base CX k f fd ps sp
/-- the same within an except suite that holds the exception p -/
structure FnP (p : Addr × Obj) (k : Nat) (f : Addr) (fd : FuncData) (ps : List Str) (sp : Sp) : Prop where
  len : ∀ vs H Q E, sp vs H Q E → vs.length = ps.length
  run : ∀ (A : Around) (outer : List Env) (s : Shared) (H : Hp) (args : Args) (us : List Value) (vs : List V) (Q : VK) (E : XK), RoomH k A → Hot1 A p → PinOk outer H s p → Env0 P w K mg base A outer s H → BindsTo s fd args (ps.zip us) → Vals vs us → sp vs H Q E →
    codeAny (model P w) A (.call (.ref f) args) (CR CX0 outer P w H s Q E) s
def KeepsP (p : Addr × Obj) (k : Nat) (x : Str) (ps : List Str) (sp : Sp) : Prop :=
  ∃ f fd, mg x = some (.ref f) ∧ PySem.W.keepIn K (.ref f) = true ∧ Binds K fd ps [] ∧ FnP P w K mg base p k f fd ps sp
end
section
variable {P : Program} {w : World} {K : PySem.W.Frag} {mg : Str → Option Value} {base : Heap}
theorem Keeps'.mono {CX : CXT} {j k : Nat} {x : Str} {ps : List Str} {sp : Sp} (D : Keeps' P w K mg base CX j x ps sp) (h : j ≤ k) : Keeps' P w K mg base CX k x ps sp := by
  obtain ⟨f, fd, a, b, c, d⟩ := D
  exact ⟨f, fd, a, b, c, d.mono h⟩
theorem Keeps'.imp {CX : CXT} {k : Nat} {x : Str} {ps : List Str} {sp sp' : Sp} (D : Keeps' P w K mg base CX k x ps sp) (h : ∀ vs H Q E, sp' vs H Q E → sp vs H Q E) : Keeps' P w K mg base CX k x ps sp' := by
  obtain ⟨f, fd, a, b, c, d⟩ := D
  exact ⟨f, fd, a, b, c, d.imp h⟩
/-- a def that lets no exception out -/
theorem keeps0 {x : Str} {st : Stmt} {N ps : List Str} {k : Nat} {sp : Sp} (F : Here K mg x st) (S : FnScope N ps (defScope st))
    (hb : ∀ (kV doc pm : Value) (an : Option Addr) (cdv ct : Value) (us : List Value), us.length = ps.length → bindArgs (PySem.W.fnOf x x (defArgs st) (defBody st) (defScope st) .none kV doc pm an cdv ct) ⟨us, []⟩ = pure (ps.zip us))
    (len : ∀ vs H Q E, sp vs H Q E → vs.length = ps.length)
    (hbody : ∀ (f : Addr) (cdv : Value) (A : Around) (outer : List Env) (s : Shared) (H : Hp) (vs : List V) (Q : VK) (E : XK), Room k (A.deeper (envOfC x (defScope st) s.heap.objs.size f cdv)) → sp vs H Q E →
      ∃ t, PSs (cxOf CX0 P w K mg base N x (defScope st) f cdv A outer s H E).nox (defBody st) t ∧ t { nx := fun _ H' => Q .non H', rt := Q } (start N vs) H) : Keeps' P w K mg base CX0 (k + 1) x ps sp := by
  obtain ⟨f, fd, F, g⟩ := F
  exact ⟨f, fd, g, F.kp, F.binds hb, F.ok S len fun cdv A outer s H vs Q E hr h => hbody f cdv A outer s H vs Q E hr h⟩
/-- the def st stands under its name x, its code object at c -/
def HereC (K : PySem.W.Frag) (mg : Str → Option Value) (x : Str) (st : Stmt) (c : Addr) : Prop := ∃ (f : Addr) (oc : Value) (od : Option Addr) (kV doc pm : Value) (an : Option Addr) (ct : Value) (osl : Array (Option Value)), mg x = some (.ref f) ∧
  K.lookup f = some ⟨oc, od, .func (PySem.W.fnOf x x (defArgs st) (defBody st) (defScope st) .none kV doc pm an (.ref c) ct), osl⟩ ∧ PySem.W.codeIn K (.ref c) x = true ∧ PySem.W.keepIn K (.ref f) = true
theorem HereC.here {x : Str} {st : Stmt} {c : Addr} (h : HereC K mg x st c) : Here K mg x st := by
  obtain ⟨f, oc, od, kV, doc, pm, an, ct, osl, g, lk, hc, hk⟩ := h
  exact ⟨f, _, ⟨⟨oc, od, kV, doc, pm, an, _, ct, osl, rfl, lk, hc⟩, hk⟩, g⟩
/-- a def that makes lambdas: its code object is told -/
theorem keeps0C {x : Str} {st : Stmt} {c : Addr} {N ps : List Str} {k : Nat} {sp : Sp} (F : HereC K mg x st c) (S : FnScope N ps (defScope st))
    (hb : ∀ (kV doc pm : Value) (an : Option Addr) (cdv ct : Value) (us : List Value), us.length = ps.length → bindArgs (PySem.W.fnOf x x (defArgs st) (defBody st) (defScope st) .none kV doc pm an cdv ct) ⟨us, []⟩ = pure (ps.zip us))
    (len : ∀ vs H Q E, sp vs H Q E → vs.length = ps.length)
    (hbody : ∀ (f : Addr) (A : Around) (outer : List Env) (s : Shared) (H : Hp) (vs : List V) (Q : VK) (E : XK), Room k (A.deeper (envOfC x (defScope st) s.heap.objs.size f (.ref c))) → sp vs H Q E →
      ∃ t, PSs (cxOf CX0 P w K mg base N x (defScope st) f (.ref c) A outer s H E).nox (defBody st) t ∧ t { nx := fun _ H' => Q .non H', rt := Q } (start N vs) H) : Keeps' P w K mg base CX0 (k + 1) x ps sp := by
  obtain ⟨f, oc, od, kV, doc, pm, an, ct, osl, g, lk, hc, hk⟩ := F
  refine ⟨f, _, g, hk, .all (hb kV doc pm an _ ct), fn_of lk hc S len fun A outer s H vs Q E hr hsp => ?_⟩
  obtain ⟨t, ht, hq⟩ := hbody f A outer s H vs Q E hr hsp
  exact ⟨t, ht.nox, hq⟩
/-- the same, with the function's object told: for the law itself -/
def KeepsC (P : Program) (w : World) (K : PySem.W.Frag) (mg : Str → Option Value) (base : Heap) (CX : CXT) (k : Nat) (x : Str) (ps : List Str) (sp : Sp) : Prop :=
  ∃ f fd, (∃ oc od osl, K.lookup f = some ⟨oc, od, .func fd, osl⟩) ∧ mg x = some (.ref f) ∧ FnOk P w K mg base CX k f fd ps sp
theorem keepsLaw {x : Str} {st : Stmt} {c : Addr} {N ps : List Str} {k : Nat} {sp : Sp} (F : HereC K mg x st c) (S : FnScope N ps (defScope st))
    (len : ∀ vs H Q E, sp vs H Q E → vs.length = ps.length)
    (hbody : ∀ (f : Addr) (A : Around) (outer : List Env) (s : Shared) (H : Hp) (vs : List V) (Q : VK) (E : XK), Room k (A.deeper (envOfC x (defScope st) s.heap.objs.size f (.ref c))) → sp vs H Q E →
      ∃ t, PSs (cxOf CX0 P w K mg base N x (defScope st) f (.ref c) A outer s H E).nox (defBody st) t ∧ t { nx := fun _ H' => Q .non H', rt := Q } (start N vs) H) : KeepsC P w K mg base CX0 (k + 1) x ps sp := by
  obtain ⟨f, oc, od, kV, doc, pm, an, ct, osl, g, lk, hc, hk⟩ := F
  refine ⟨f, _, ⟨_, _, _, lk⟩, g, fn_of lk hc S len fun A outer s H vs Q E hr hsp => ?_⟩
  obtain ⟨t, ht, hq⟩ := hbody f A outer s H vs Q E hr hsp
  exact ⟨t, ht.nox, hq⟩
theorem here_mk {h : Heap} {x : Str} {st : Stmt} {f : Addr} {oc : Value} {od an : Option Addr} {osl : Array (Option Value)} {kV doc pm cdv ct : Value} (X : K.In h) (G : h.Ns mainGlobals mg) (a : PySem.W.nsIn K mainGlobals x = some (some (.ref f)))
    (l : K.lookup f = some ⟨oc, od, .func (PySem.W.fnOf x x (defArgs st) (defBody st) (defScope st) .none kV doc pm an cdv ct), osl⟩) (c : PySem.W.codeIn K cdv x = true) (k : PySem.W.keepIn K (.ref f) = true) : Here K mg x st :=
  ⟨f, _, fun_mk l c k, PySem.W.mg_of X G a⟩
theorem hereC_mk {h : Heap} {x : Str} {st : Stmt} {f cd : Addr} {oc : Value} {od an : Option Addr} {osl : Array (Option Value)} {kV doc pm ct : Value} (X : K.In h) (G : h.Ns mainGlobals mg) (a : PySem.W.nsIn K mainGlobals x = some (some (.ref f)))
    (l : K.lookup f = some ⟨oc, od, .func (PySem.W.fnOf x x (defArgs st) (defBody st) (defScope st) .none kV doc pm an (.ref cd) ct), osl⟩) (c : PySem.W.codeIn K (.ref cd) x = true) (k : PySem.W.keepIn K (.ref f) = true) : HereC K mg x st cd :=
  ⟨f, oc, od, kV, doc, pm, an, ct, osl, PySem.W.mg_of X G a, l, c, k⟩
/-- a def that may raise; the exceptions' contexts are None -/
theorem keepsN {x : Str} {st : Stmt} {N ps : List Str} {k : Nat} {sp : Sp} (F : Here K mg x st) (S : FnScope N ps (defScope st))
    (hb : ∀ (kV doc pm : Value) (an : Option Addr) (cdv ct : Value) (us : List Value), us.length = ps.length → bindArgs (PySem.W.fnOf x x (defArgs st) (defBody st) (defScope st) .none kV doc pm an cdv ct) ⟨us, []⟩ = pure (ps.zip us))
    (len : ∀ vs H Q E, sp vs H Q E → vs.length = ps.length)
    (hbody : ∀ (f : Addr) (cdv : Value) (A : Around) (outer : List Env) (s : Shared) (H : Hp) (vs : List V) (Q : VK) (E : XK), Room k (A.deeper (envOfC x (defScope st) s.heap.objs.size f cdv)) → sp vs H Q E →
      ∃ t, PSs (cxOf (L2N.CX P w) P w K mg base N x (defScope st) f cdv A outer s H E) (defBody st) t ∧ t { nx := fun _ H' => Q .non H', rt := Q } (start N vs) H) : Keeps' P w K mg base (L2N.CX P w) (k + 1) x ps sp := by
  obtain ⟨f, fd, F, g⟩ := F
  have bd := F.binds hb
  have kp := F.kp
  obtain ⟨oc, od, kV, doc, pm, an, cdv, ct, osl, rfl, lk, hcd⟩ := F.ex
  exact ⟨f, _, g, kp, bd, fn_of lk hcd S len fun A outer s H vs Q E hr hsp => hbody f cdv A outer s H vs Q E hr hsp⟩
/-- a def called in an except suite that holds p -/
theorem keepsP {x : Str} {st : Stmt} {N ps : List Str} {k : Nat} {sp : Sp} {p : Addr × Obj} (F : Here K mg x st) (S : FnScope N ps (defScope st))
    (hb : ∀ (kV doc pm : Value) (an : Option Addr) (cdv ct : Value) (us : List Value), us.length = ps.length → bindArgs (PySem.W.fnOf x x (defArgs st) (defBody st) (defScope st) .none kV doc pm an cdv ct) ⟨us, []⟩ = pure (ps.zip us))
    (len : ∀ vs H Q E, sp vs H Q E → vs.length = ps.length)
    (hbody : ∀ (f : Addr) (cdv : Value) (A : Around) (outer : List Env) (s : Shared) (H : Hp) (vs : List V) (Q : VK) (E : XK), Hot1 A p → RoomH k (A.deeper (envOfC x (defScope st) s.heap.objs.size f cdv)) → sp vs H Q E →
      ∃ t, PSs (cxH CX0 P w K mg base N x (defScope st) f cdv A outer s H E p) (defBody st) t ∧ t { nx := fun _ H' => Q .non H', rt := Q } (start N vs) H) : KeepsP P w K mg base p (k + 1) x ps sp := by
  obtain ⟨f, fd, F, g⟩ := F
  have bd := F.binds hb
  have kp := F.kp
  obtain ⟨oc, od, kV, doc, pm, an, cdv, ct, osl, rfl, lk, hcd⟩ := F.ex
  refine ⟨f, _, g, kp, bd, len, fun A outer s H args us vs Q E hr hot hpin e0 hbt r hsp => ?_⟩
  have hl := len _ _ _ _ hsp
  have KX : K.In s.heap := e0.mod.kin.keeps fun b o e => (e0.bs b o e).1
  have lim : s.heap.NoLimit := e0.mod.nolimit.keeps fun b o e => (e0.bs b o e).1
  have hkind : ∀ y ∈ ps.zip us, (defScope st).names.lookup y.1 = some .local ∨ ((defScope st).names.lookup y.1 = some .cell ∧ ((cellsFrom (s.heap.objs.size + 1) (defScope st).names []).lookup y.1).isSome = true) := by
    rintro ⟨n, v⟩ hy
    rcases S.par n (List.of_mem_zip hy).1 with q | q
    · exact .inl q
    · exact .inr ⟨q, PySem.W.cellsFrom_some _ _ _ (.inl q)⟩
  refine codeAny_call_function hr.depth (KX _ _ lk) rfl S.co S.gen rfl (PySem.W.codeRec_of KX hcd) (hbt _ _ _ _ ?_)
  refine wpAny_newFunctionEnv_cells S.kind hkind fun env he s1 ic => ?_
  subst he
  refine ⟨lim.keeps ic.toInCall.keep, codeAny_func ?_⟩
  obtain ⟨t, ht, hq⟩ := hbody f cdv A outer s H vs Q E hot (hr.deeper _) hsp
  have J : Inv (cxH CX0 P w K mg base N x (defScope st) f cdv A outer s H E p) [] (start N vs) H s1 := inv_startH S hpin e0 hl r ic
  refine wpAny_mono (ht.run [] s1 (start N vs) H _ J hq) (fun fl s' hs => ?_) fun e s' hs => hs
  cases fl with
  | ret u =>
    obtain ⟨v, σ', H', J', rv, q⟩ := hs
    exact ⟨v, H', J'.os, J'.bare, J'.base, J'.hok, rv, q⟩
  | next =>
    obtain ⟨σ', H', J', q⟩ := hs
    exact ⟨.non, H', J'.os, J'.bare, J'.base, J'.hok, rfl, q⟩
  | brk => obtain ⟨_, _, _, q⟩ := hs; exact q.elim
  | cont => obtain ⟨_, _, _, q⟩ := hs; exact q.elim
end
/-! ### calls -/
section
variable {X : Cx} {k : Nat} {x : Str} {ps : List Str} {sp : Sp} {q pos : Pos} {e : Expr} {es : List Expr} {t : TA}
/-- a def's call, its promise asked of the arguments -/
def tD (sp : Sp) (E : XK) (t : TA) : TE := fun σ H Q => t σ H fun vs H1 => sp vs H1 Q E
theorem tCall_nil (sp : Sp) (E : XK) (t : TA) : tCall sp [] E t = tD sp E t := by
  funext σ H Q
  unfold tCall tD
  simp only [List.append_nil]
theorem passN {X : Cx} : Passes (L2N.CX X.prog X.w) X E0 := fun _ _ _ _ _ _ _ h => by
  obtain ⟨_, _, _, _, _, _, _, _, _, _, _, _, z⟩ := h
  exact z.elim
/-- f(e, ..): f lets nothing out -/
theorem pe_d0 (D : Keeps' X.prog X.w X.K X.mg X.base CX0 k x ps sp) (hr : Room k X.A) (hg : Gl X x) (ha : PA X (e :: es) t) (hdb : (x == ("__debug__" : Str)) = false := by decide)
    (he : starEach (e :: es) X.env = (false, eval e X.env) :: starEach es X.env := by rfl) (hpl : (backTo pos (starEach es X.env)).any (·.1) = false := by rfl) :
    PE X (.Call (.Name x q) (e :: es) [] pos) (tD sp E0 t) := by
  obtain ⟨f, fd, a, b, c, d⟩ := D
  have h := pe_call (pos := pos) (p := q) d hr hg a b c .nil pass0 ha hdb he hpl
  rw [← tCall_nil]
  exact h
/-- f(e, ..): f may raise, but not here -/
theorem pe_dN (D : Keeps' X.prog X.w X.K X.mg X.base (L2N.CX X.prog X.w) k x ps sp) (hr : Room k X.A) (hg : Gl X x) (ha : PA X (e :: es) t) (hdb : (x == ("__debug__" : Str)) = false := by decide)
    (he : starEach (e :: es) X.env = (false, eval e X.env) :: starEach es X.env := by rfl) (hpl : (backTo pos (starEach es X.env)).any (·.1) = false := by rfl) :
    PE X (.Call (.Name x q) (e :: es) [] pos) (tD sp E0 t) := by
  obtain ⟨f, fd, a, b, c, d⟩ := D
  have h := pe_call (pos := pos) (p := q) d hr hg a b c .nil passN ha hdb he hpl
  rw [← tCall_nil]
  exact h
/-- f(e, ..) in a def that lets out what f raises -/
theorem pe_dX {W : WX} {E : XK} (D : Keeps' X.prog X.w X.K X.mg X.base (L2N.CX X.prog X.w) k x ps sp) (hr : Room k X.A) (hg : Gl X x) (tk : L2N.Takes X W) (hW : ∀ cls d σ H, E cls d H → W cls d σ H) (ha : PA X (e :: es) t)
    (hdb : (x == ("__debug__" : Str)) = false := by decide) (he : starEach (e :: es) X.env = (false, eval e X.env) :: starEach es X.env := by rfl) (hpl : (backTo pos (starEach es X.env)).any (·.1) = false := by rfl) :
    PE X (.Call (.Name x q) (e :: es) [] pos) (tD sp E t) := by
  obtain ⟨f, fd, a, b, c, d⟩ := D
  have h := pe_call (pos := pos) (p := q) (E := E) d hr hg a b c .nil (L2N.passes_call tk hW) ha hdb he hpl
  rw [← tCall_nil]
  exact h
/-- f(e, ..) within the except suite that holds p -/
theorem pe_dP {p : Addr × Obj} (D : KeepsP X.prog X.w X.K X.mg X.base p k x ps sp) (hr : RoomH k X.A) (hot : Hot1 X.A p) (hp : p ∈ X.pn) (hg : Gl X x) (ha : PA X (e :: es) t) (hdb : (x == ("__debug__" : Str)) = false := by decide)
    (he : starEach (e :: es) X.env = (false, eval e X.env) :: starEach es X.env := by rfl) (hpl : (backTo pos (starEach es X.env)).any (·.1) = false := by rfl) :
    PE X (.Call (.Name x q) (e :: es) [] pos) (tD sp E0 t) := by
  obtain ⟨f, fd, a, b, c, d⟩ := D
  refine ⟨fun pins s σ H Q I h => ?_⟩
  refine wpAny_Call_Name_kw (ld_glob I hg a ?_ hdb)
  refine PySem.W.callWith_K (h₀ := X.base) I.ok.mod.kin b (thn (ha.run pos pins s σ H _ I h) fun us s1 hu => ?_) he hpl
  obtain ⟨vs, H1, I1, r, hs⟩ := hu
  refine ⟨I1.kIn, ?_⟩
  have hl : us.length = ps.length := by rw [← r.length]; exact d.len _ _ _ _ hs
  have bd := c s1 us I1.kIn (by rw [List.append_nil]; exact hl)
  rw [List.append_nil] at bd
  have P1 := I1.pin p (List.mem_append_left _ hp)
  have hpin : PinOk X.stack H1 s1 p := ⟨P1.1, P1.2.1, fun hm => (List.mem_cons.mp (I1.stkSub p.1 hm)).elim P1.2.2.1 P1.2.2.2.1, P1.2.2.2.2⟩
  refine wpAny_call (codeAny_mono (d.run X.A X.stack s1 H1 ⟨us, []⟩ us vs Q E0 hr hot hpin I1.env0 bd r hs) fun res s' hq => ?_)
  cases res with
  | error e => exact (show False from hq).elim
  | ok fl =>
    cases fl with
    | ret u => exact I1.after hq
    | next => exact (show False from hq).elim
    | brk => exact (show False from hq).elim
    | cont => exact (show False from hq).elim
/-- isinstance(e, c), e the exception that is pinned -/
theorem call_isP {a D : Addr} {oe : Obj} (C : ExcC X.K D) (hp : (a, oe) ∈ X.pn) (hz : Zc (.ref D) none oe) (hf : ∃ vs, oe.data = .fields vs) : CallR X (.builtin "isinstance") (rIsE X.K D a) := by
  intro pins s σ H xs us Q I r h
  obtain ⟨c, cv, b, rfl, hcv, e, q⟩ := h
  obtain ⟨u1, u2, rfl, r1, r2⟩ := vals2 r
  obtain rfl : u1 = Value.ref a := r1
  have ec := hcv _ r2
  subst ec
  obtain ⟨hget, _⟩ := I.pin (a, oe) (List.mem_append_left _ hp)
  obtain ⟨vs, hv⟩ := hf
  have J : PySem.W.InstAt s.heap a oe D none := by
    obtain ⟨oc, od, oda, osl⟩ := oe
    obtain ⟨z1, z2⟩ := hz
    dsimp only at z1 z2 hv
    subst z1 z2 hv
    exact ⟨hget, rfl, rfl, trivial⟩
  exact PySem.W.kia_one (PySem.W.handS_kitx_exc C.hg C.hk C.hs C.hd C.ha C.hn C.ht C.hm) I.kIn J e (fun z => nomatch z) fun tk => ⟨.bl b, H, I.kept (t' := tk) fun _ _ z => z, rfl, q⟩
end
theorem same_new {H : Hp} {p : Addr} {o : HO} (h : H p = none) : Same H (upd H p o) := fun b x e => by
  rw [upd_ne (ne_of_none e h)]
  exact e
/-- a new object is wanted: the heap behind it by what is known of it -/
def NewQ (H : Hp) (o : HO) (Q : VK) : Prop := ∀ (p : Addr) (H' : Hp), H p = none → Same H H' → H' p = some o → Q (.ref p) H'
theorem NewQ.use {H : Hp} {o : HO} {Q : VK} (h : NewQ H o Q) : ∀ p, H p = none → Q (.ref p) (upd H p o) := fun p np => h p _ np (same_new np) upd_same
section
variable {X : Cx}
theorem PE.imp {e : Expr} {t t' : TE} (h : PE X e t) (i : ∀ σ H Q, t' σ H Q → t σ H Q) : PE X e t' := ⟨fun pins s σ H Q I q => h.run pins s σ H Q I (i σ H Q q)⟩
theorem OpR.imp {f : Value → Value → Sem Value} {r r' : R2} (h : OpR X f r) (i : ∀ x y H Q, r' x y H Q → r x y H Q) : OpR X f r' := fun pins s σ H x y v u Q I rx ry q => h pins s σ H x y v u Q I rx ry (i x y H Q q)
theorem CallR.imp {f : Value} {r r' : List V → Hp → VK → Prop} (h : CallR X f r) (i : ∀ xs H Q, r' xs H Q → r xs H Q) : CallR X f r' := fun pins s σ H xs us Q I rv q => h pins s σ H xs us Q I rv (i xs H Q q)
theorem SlR.imp {r r' : V → Option Int → Option Int → Hp → VK → Prop} (h : SlR X r) (i : ∀ x lo hi H Q, r' x lo hi H Q → r x lo hi H Q) : SlR X r' := fun pins s σ H x v vl vu lo hi sl Q I rx hs pl pu q => h pins s σ H x v vl vu lo hi sl Q I rx hs pl pu (i x lo hi H Q q)
def tTupN (t : TA) : TE := fun σ H Q => t σ H fun xs H1 => xs.length ≤ sizeLine ∧ NewQ H1 (.tup xs) Q
def tLstN (t : TA) : TE := fun σ H Q => t σ H fun xs H1 => xs.length ≤ sizeLine ∧ NewQ H1 (.lst xs) Q
theorem pe_tupN {es : List Expr} {t : TA} {x1} {pos : Pos} (h : PA X es t) : PE X (.Tuple es x1 pos) (tTupN t) := by
  refine ⟨fun pins s σ H Q I hq => ?_⟩
  refine wpAny_Tuple_spliced (thn (h.run pos pins s σ H _ I hq) fun us s1 hu => ?_)
  obtain ⟨xs, H1, I1, r, z, q⟩ := hu
  exact ⟨by rw [← r.length]; exact z, .ref s1.heap.objs.size, upd H1 s1.heap.objs.size (.tup xs), I1.laid (t' := s1.toks) (fun b u e => Heap.get?_push_of_some _ e) (Nat.le_refl _) ⟨z, us, r, ⟨_, Heap.get?_push_size _ rfl, rfl, _, rfl⟩⟩, rfl, q.use _ I1.fresh⟩
theorem pe_lstN {es : List Expr} {t : TA} {pos : Pos} (h : PA X es t) : PE X (.List es pos) (tLstN t) := by
  refine ⟨fun pins s σ H Q I hq => ?_⟩
  refine wpAny_List_spliced (thn (h.run pos pins s σ H _ I hq) fun us s1 hu => ?_)
  obtain ⟨xs, H1, I1, r, z, q⟩ := hu
  exact ⟨by rw [← r.length]; exact z, .ref s1.heap.objs.size, upd H1 s1.heap.objs.size (.lst xs), I1.laid (t' := s1.toks) (fun b u e => Heap.get?_push_of_some _ e) (Nat.le_refl _) ⟨z, us, 0, r, Heap.get?_push_size _ rfl⟩, rfl, q.use _ I1.fresh⟩
def rCatN : R2 := fun x y H Q => ∃ l b xs zs, x = .ref l ∧ y = .ref b ∧ H l = some (.lst xs) ∧ H b = some (.lst zs) ∧ xs.length + zs.length ≤ sizeLine ∧ NewQ H (.lst (xs ++ zs)) Q
theorem op_catN : OpR X (binaryOp .Add) rCatN := OpR.imp op_cat fun x y H Q h => by
  obtain ⟨l, b, xs, zs, h1, h2, h3, h4, h5, q⟩ := h
  exact ⟨l, b, xs, zs, h1, h2, h3, h4, h5, q.use⟩
/-- tuple(xs) of a list -/
theorem call_tupleN : CallR X (.type "tuple") (fun xs H Q => ∃ p ys, xs = [.ref p] ∧ SqL X.K H p ys ∧ NewQ H (.tup ys) Q) := CallR.imp call_tuple_of fun xs H Q h => by
  obtain ⟨p, ys, h1, h2, q⟩ := h
  exact ⟨p, ys, h1, .inl ⟨h2, q.use⟩⟩
/-- list(xs) of a list or a tuple -/
theorem call_listN : CallR X (.type "list") (fun xs H Q => ∃ p ys, xs = [.ref p] ∧ (SqL X.K H p ys ∨ SqT X.K H p ys) ∧ NewQ H (.lst ys) Q) := CallR.imp call_list_of fun xs H Q h => by
  obtain ⟨p, ys, h1, h2, q⟩ := h
  exact ⟨p, ys, h1, h2, q.use⟩
def rSlLN (K : PySem.W.Frag) : V → Option Int → Option Int → Hp → VK → Prop := fun x lo hi H Q => ∃ a xs, x = .ref a ∧ SqL K H a xs ∧ NewQ H (.lst (cutV xs lo hi)) Q
theorem sl_listN : SlR X (rSlLN X.K) := SlR.imp sl_list fun x lo hi H Q h => by
  obtain ⟨a, xs, h1, h2, q⟩ := h
  exact ⟨a, xs, h1, h2, q.use⟩
end
theorem szl {n : Nat} (h : Nat.ble n 1000 = true) : n ≤ sizeLine := Nat.le_of_lt (small1000 (Nat.le_of_ble_eq_true h))
theorem szlt {n : Nat} (h : Nat.ble n 1000 = true) : n < sizeLine := small1000 (Nat.le_of_ble_eq_true h)
/-! ### short words for terms -/
section
variable {X : Cx}
theorem pa1 {e1 : Expr} {t1 : TE} (h1 : PE X e1 t1) (s1 : starEach [e1] X.env = (false, eval e1 X.env) :: starEach [] X.env := by rfl) : PA X [e1] (tCons t1 tNil) := pa_cons h1 pa_nil s1
theorem pa2 {e1 e2 : Expr} {t1 t2 : TE} (h1 : PE X e1 t1) (h2 : PE X e2 t2) (s1 : starEach [e1, e2] X.env = (false, eval e1 X.env) :: starEach [e2] X.env := by rfl) (s2 : starEach [e2] X.env = (false, eval e2 X.env) :: starEach [] X.env := by rfl) :
    PA X [e1, e2] (tCons t1 (tCons t2 tNil)) := pa_cons h1 (pa_cons h2 pa_nil s2) s1
theorem pa3 {e1 e2 e3 : Expr} {t1 t2 t3 : TE} (h1 : PE X e1 t1) (h2 : PE X e2 t2) (h3 : PE X e3 t3) (s1 : starEach [e1, e2, e3] X.env = (false, eval e1 X.env) :: starEach [e2, e3] X.env := by rfl) (s2 : starEach [e2, e3] X.env = (false, eval e2 X.env) :: starEach [e3] X.env := by rfl)
    (s3 : starEach [e3] X.env = (false, eval e3 X.env) :: starEach [] X.env := by rfl) : PA X [e1, e2, e3] (tCons t1 (tCons t2 (tCons t3 tNil))) := pa_cons h1 (pa_cons h2 (pa_cons h3 pa_nil s3) s2) s1
/-- a builtin by its name -/
theorem pb {x : Str} {id : String} {r : List V → Hp → VK → Prop} {e : Expr} {es : List Expr} {t : TA} {p pos : Pos} (hc : CallR X (.builtin id) r) (hm : X.mg x = none) (hv : bootBuiltins x = some (.builtin id)) (ha : PA X (e :: es) t) (hg : Gl X x := by rfl)
    (hn : x ≠ "__name__" := by decide) (hdb : (x == ("__debug__" : Str)) = false := by decide) (h1 : starEach (e :: es) X.env = (false, eval e X.env) :: starEach es X.env := by rfl) (h2 : (backTo pos (starEach es X.env)).any (·.1) = false := by rfl) :
    PE X (.Call (.Name x p) (e :: es) [] pos) (tCB r t) := pe_callB hc hg hm hv ha hn hdb h1 h2
theorem pbt {x : Str} {T : String} {r : List V → Hp → VK → Prop} {e : Expr} {es : List Expr} {t : TA} {p pos : Pos} (hc : CallR X (.type T) r) (hm : X.mg x = none) (hv : bootBuiltins x = some (.type T)) (ha : PA X (e :: es) t) (hg : Gl X x := by rfl)
    (hn : x ≠ "__name__" := by decide) (hdb : (x == ("__debug__" : Str)) = false := by decide) (h1 : starEach (e :: es) X.env = (false, eval e X.env) :: starEach es X.env := by rfl) (h2 : (backTo pos (starEach es X.env)).any (·.1) = false := by rfl) :
    PE X (.Call (.Name x p) (e :: es) [] pos) (tCB r t) := pe_callTy hc hg hm hv ha hn hdb h1 h2
/-- a global name of the text -/
theorem pgl {x : Str} {a : Addr} {pos : Pos} (hm : X.mg x = some (.ref a)) (hg : Gl X x := by rfl) (hd : (x == ("__debug__" : Str)) = false := by decide) : PE X (.Name x pos) (tC (.ref a)) := pe_glob hg hm rfl hd
/-- x = e, x in slot i -/
theorem st (i : Nat) {x : Str} {e : Expr} {te : TE} {pos pos' : Pos} (hN : X.N.Nodup) (he : PE X e te) (hi : X.N[i]? = some x := by rfl) (hx : Loc X.env.scope x := by first | exact .inl rfl | exact .inr rfl)
    (hs : swapsWith e (some (.Name x pos')) pos.line X.env = pure false := by rfl) (hf : X.fn x = true ∨ X.env.scope.names.lookup x = some .local := by first | exact .inl rfl | exact .inr rfl) :
    PS X (.Assign [.Name x pos'] e pos) (tAsg te (gName i)) := ps_set hN hi hx he hs hf
theorem pgn (i : Nat) {x : Str} {pos : Pos} (hN : X.N.Nodup) (hi : X.N[i]? = some x := by rfl) (hx : Loc X.env.scope x := by first | exact .inl rfl | exact .inr rfl)
    (hf : X.fn x = true ∨ X.env.scope.names.lookup x = some .local := by first | exact .inl rfl | exact .inr rfl) : PG X (.Name x pos) (gName i) := pg_name hN hi hx hf
/-- a builtin class as a value -/
theorem pty {x : Str} {n : String} {pos : Pos} (hm : X.mg x = none) (hv : bootBuiltins x = some (.type n)) (hg : Gl X x := by rfl) (hn : x ≠ "__name__" := by decide) (hd : (x == ("__debug__" : Str)) = false := by decide) : PE X (.Name x pos) (tC (.ty n)) := pe_bltn hg hm hv rfl hn hd
end
end Sv

set_option maxHeartbeats 4000000
namespace Sv
open PySem PySem.Spec PyProof.Rows L2 L2H HotX LamX
/-! ### x(lambda: body), where what the body raises has no context -/
/-- the lambda's context, its exceptions told with their contexts -/
abbrev lamN (X : Cx) (A : Around) (outer : List Env) (s : Shared) (H : Hp) (E : XK) (scope : Scope) (f c' : Addr) : Cx :=
  (lamCx X A outer s H E scope f c').wish fun e s' => wpAny (model X.prog X.w) (A.deeper (lamEnv X scope s.heap.objs.size f c')) (leaving (lamEnv X scope s.heap.objs.size f c') e) (fun _ s'' => L2N.CX X.prog X.w outer H s E e s'') (fun e' s'' => L2N.CX X.prog X.w outer H s E e' s'') s'
section
variable {X : Cx} {pins : List (Addr × Obj)} {σ : L2.St} {H HZ : Hp} {s s1 : Shared}
theorem pe_actN {CXg : CXT} {Eg : XK} {Ng : List Str} {qg : Str} {sg : Scope} {g f c' : Addr} {cdg pm ctv : Value} {params : Arguments} {body : Expr} {scope : Scope} {k i : Nat} {a : Str} {pn : List (Addr × Obj)} {xe : Value → Shared → Prop} {W : WX} {E : XK} {tb : TE} {p1 p2 : Pos}
    (I : Inv X pins σ H s) (L : LamS X.env.scope scope) (hf : s.heap.get? f = some (PySem.W.kla_obj "<lambda>" (X.env.qual ++ "<lambda>") params body scope (cloFrom X.env.cells scope.names []) pm c' ctv)) (hfn : H f = none) (hfr : f ∉ frs X.stack)
    (hbind : bindArgs (PySem.W.kla_fn "<lambda>" (X.env.qual ++ "<lambda>") params body scope (cloFrom X.env.cells scope.names []) pm (.ref c') ctv) ⟨[], []⟩ = pure [])
    (tk : L2N.Takes ((cxOf CXg X.prog X.w X.K X.mg X.base Ng qg sg g cdg X.A X.stack s H Eg).tr pn xe) W) (hW : ∀ cls d (σ' : L2.St) H', σ'.length = Ng.length → E cls d H' → W cls d σ' H') (hr : Room (k + 1) (X.A.deeper (envOfC qg sg s.heap.objs.size g cdg)))
    (hbody : ∀ (A : Around) (outer : List Env) (s : Shared) (H : Hp), Room k (A.deeper (lamEnv X scope s.heap.objs.size f c')) → PE (lamN X A outer s H E scope f c') body tb)
    (hN : Ng[i]? = some a) (hv : Vis sg a) (hd : (a == ("__debug__" : Str)) = false := by decide) (hcd : (a == ("__classdict__" : Str)) = false := by decide) :
    PE ((cxOf CXg X.prog X.w X.K X.mg X.base Ng qg sg g cdg X.A X.stack s H Eg).tr pn xe) (.Call (.Name a p1) [] [] p2)
      (fun σZ HZ Q => σZ[i]? = some (some (.ref f)) ∧ HZ c' = some (CodeO c' (X.env.qual ++ "<lambda>")) ∧ tb σ HZ Q) := by
  refine ⟨fun pinsZ sZ σZ HZ Q IZ h => ?_⟩
  obtain ⟨hs, hc, ht⟩ := h
  refine wpAny_Call_Name_kw (thn ((pe_var (pos := p1) (i := i) hN hv hd hcd).run pinsZ sZ σZ HZ (fun v H1 => v = .ref f ∧ H1 = HZ) IZ ⟨.ref f, hs, rfl, rfl⟩) fun u s2 hu => ?_)
  obtain ⟨v, H1, I1, r1, ev, eH⟩ := hu
  subst ev
  rw [eH] at I1
  obtain rfl : u = Value.ref f := r1
  have of1 : s2.heap.get? f = some (PySem.W.kla_obj "<lambda>" (X.env.qual ++ "<lambda>") params body scope (cloFrom X.env.cells scope.names []) pm c' ctv) := I1.base.keep f _ hf hfn hfr (fun z => nomatch (show f ∈ ([] : List Addr) from z))
  refine PySem.W.callWith_F0 ⟨_, _, _, _, of1⟩ ?_
  have un : Un (frs X.stack) [] H HZ s.heap s2.heap := I1.base
  obtain ⟨⟨oc, vs, t, hoc, hdc, hvc⟩, _, _⟩ := I1.hok c' _ hc
  have rc : codeAny (model X.prog X.w) (X.A.deeper (envOfC qg sg s.heap.objs.size g cdg)) (.call (.ref f) ⟨[], []⟩) (CR (L2N.CX X.prog X.w) (envOfC qg sg s.heap.objs.size g cdg :: X.stack) X.prog X.w HZ s2 Q E) s2 := by
    refine PySem.W.kla_callFunE hr.depth of1 rfl L.co L.gen rfl ⟨c', oc, vs, t, rfl, hoc, hdc, hvc⟩ ?_
    rw [hbind]
    refine wpAny_pure (wpAny_newFunctionEnv (fun y hy => (L.own y hy).2) (fun y hy => absurd hy (by simp)) (fun h₁ hns hsb => ⟨I1.nolimit.fresh _ hsb, ?_⟩) L.kind)
    show codeAny _ _ (.expr body (lamEnv X scope s2.heap.objs.size f c')) _ _
    have kp : ∀ b o, s2.heap.get? b = some o → h₁.get? b = some o := fun b o e => hsb.extBut b o (Nat.ne_of_lt (Heap.lt_size e)) (Heap.get?_push_of_some _ e)
    have J0 := lam_start2 (E := E) (f := f) (c' := c') (tk := s2.toks + ([] : List (Str × Value)).length) I L I1.env0 hr.hd un hns kp
    have J : Inv (lamN X (X.A.deeper (envOfC qg sg s.heap.objs.size g cdg)) (envOfC qg sg s.heap.objs.size g cdg :: X.stack) s2 HZ E scope f c') [] σ HZ { s2 with heap := h₁, toks := s2.toks + ([] : List (Str × Value)).length } := J0.wish _
    refine PySem.W.kla_codeExpr (wpAny_mono ((hbody _ _ s2 HZ (hr.deeper _)).run [] _ _ HZ Q J ht) (fun v s' hq => ?_) fun e s' hq => hq)
    obtain ⟨w', H', J', rv, q⟩ := hq
    exact ⟨w', H', J'.os, J'.bare, J'.base, J'.hok, rv, q⟩
  refine wpAny_call (codeAny_mono rc fun r s' hq => ?_)
  cases r with
  | error e => exact tk e s' (L2N.XE.of_call I1 (fun cls d H' h => hW cls d σZ H' IZ.len h) hq)
  | ok fl =>
    cases fl with
    | ret u => exact I1.after hq
    | next => exact (show False from hq).elim
    | brk => exact (show False from hq).elim
    | cont => exact (show False from hq).elim
end
/-- the def x, called with a lambda that it calls: TT: what it makes of the lambda's reading -/
def GivesN (X : Cx) (Ng : List Str) (x : Str) (sg : Scope) (g : Addr) (cdg : Value) (bg : List Stmt) (a : Str) (q : Str) (k : Nat) (TT : (XK → Hp → VK → Prop) → Hp → VK → Prop) : Prop :=
  ∀ (f c' : Addr) (s : Shared) (H : Hp) (Q : VK) (tl : XK → Hp → VK → Prop), Room k (X.A.deeper (envOfC x sg s.heap.objs.size g cdg)) →
    (∀ (W : WX) (pn : List (Addr × Obj)) (xe : Value → Shared → Prop) (E : XK) (p1 p2 : Pos), L2N.Takes ((cxOf CX0 X.prog X.w X.K X.mg X.base Ng x sg g cdg X.A X.stack s H E0).tr pn xe) W → (∀ cls d (σ' : L2.St) H', σ'.length = Ng.length → E cls d H' → W cls d σ' H') →
      PE ((cxOf CX0 X.prog X.w X.K X.mg X.base Ng x sg g cdg X.A X.stack s H E0).tr pn xe) (.Call (.Name a p1) [] [] p2) (fun σZ HZ Q => σZ[0]? = some (some (.ref f)) ∧ HZ c' = some (CodeO c' q) ∧ tl E HZ Q)) →
    H c' = some (CodeO c' q) → TT tl H Q →
    ∃ t, PSs (cxOf CX0 X.prog X.w X.K X.mg X.base Ng x sg g cdg X.A X.stack s H E0).nox bg t ∧ t { nx := fun _ H' => Q .non H', rt := Q } (L2.start Ng [.ref f]) H
section
variable {X : Cx}
/-- x(lambda: body) -/
theorem pe_lamN {T : List (Addr × Str)} {TT : (XK → Hp → VK → Prop) → Hp → VK → Prop} {x a : Str} {c P : Addr} {k : Nat} {st : Stmt} {Ng : List Str}
    {params : Arguments} {body : Expr} {scope : Scope} {t : XK → TE} {p lpos pos : Pos} (F : Here X.K X.mg x st) (hg : Gl X x)
    (hb : ∀ (kV doc pm : Value) (an : Option Addr) (cdv ct : Value) (us : List Value), us.length = [a].length → bindArgs (PySem.W.fnOf x x (defArgs st) (defBody st) (defScope st) .none kV doc pm an cdv ct) ⟨us, []⟩ = pure ([a].zip us))
    (Sg : FnScope Ng [a] (defScope st)) (hNg : Ng[0]? = some a) (hva : Vis (defScope st) a)
    (hG : ∀ g cdv, GivesN X Ng x (defScope st) g cdv (defBody st) a (X.env.qual ++ "<lambda>") (k + 1) TT)
    (TB : TabB X.base X.mg c P) (hcode : X.env.code = .ref c) (hmT : (P, X.env.qual ++ "<lambda>") ∈ T) (hu : ∀ p ∈ T, p.1 = P → p.2 = X.env.qual ++ "<lambda>") (hr : Room (k + 2) X.A) (L : LamS X.env.scope scope) (hdef : defaultsOf params X.env = ([], []))
    (hbind : ∀ (q : Str) (cl : List (Str × Addr)) (pm cv ctv : Value), bindArgs (PySem.W.kla_fn "<lambda>" q params body scope cl pm cv ctv) ⟨[], []⟩ = pure [])
    (hbody : ∀ (A : Around) (outer : List Env) (s : Shared) (H : Hp) (E : XK) (f c' : Addr), Room k (A.deeper (lamEnv X scope s.heap.objs.size f c')) → PE (lamN X A outer s H E scope f c') body (t E))
    (hdb : (x == ("__debug__" : Str)) = false := by decide) (hd : (a == ("__debug__" : Str)) = false := by decide) (hcd : (a == ("__classdict__" : Str)) = false := by decide) :
    PE X (.Call (.Name x p) [.Lambda params body scope lpos] [] pos) (tLam T TT t) := by
  obtain ⟨g, fd, F, hm⟩ := F
  have bd := F.binds hb
  have hk := F.kp
  obtain ⟨oc, od, kV, doc, pm, an, cdv, ct, osl, rfl, lk, hcg⟩ := F.ex
  refine ⟨fun pins s σ H Q I h => ?_⟩
  obtain ⟨hT, h⟩ := h
  refine wpAny_Call_Name_kw (ld_glob I hg hm ?_ hdb)
  refine PySem.W.callWith_K (h₀ := X.base) I.ok.mod.kin hk ?_ (by rfl) (by rfl)
  show wpAny _ _ (spliced ((false, eval (.Lambda params body scope lpos) X.env) :: backTo pos (starEach [] X.env))) _ _ s
  refine Calls.spliced_cons (lam_make2 I TB hcode hmT hu hT hdef (L.has I.ok) fun f c' pm' ctv H1 s' I1 eN T1 hf hfn hfr hco => ?_)
  refine Calls.spliced_nil ⟨I1.kIn, ?_⟩
  have rc : codeAny (model X.prog X.w) X.A (.call (.ref g) ⟨[.ref f], []⟩) (CR CX0 X.stack X.prog X.w H1 s' Q E0) s' := by
    refine run_ofS (N := Ng) (ps := [a]) (us := [.ref f]) (vs := [.ref f]) lk hcg Sg hr I1.env0 (bd s' [.ref f] I1.kIn rfl) (.cons rfl .nil) rfl fun hr' => ?_
    obtain ⟨t', ht', hq'⟩ := hG g cdv f c' s' H1 Q (fun E H' Q' => t E σ H' Q') hr' (fun W pn xe E p1 p2 tk hW => pe_actN (i := 0) I1 L hf hfn hfr (hbind _ _ _ _ _) tk hW hr' (fun A outer s H hr2 => hbody A outer s H E f c' hr2) hNg hva hd hcd) hco (h H1 eN T1)
    exact ⟨t', ht'.nox, hq'⟩
  refine wpAny_call (codeAny_mono rc fun r s2 hq => ?_)
  cases r with
  | error e => exact (show False from hq).elim
  | ok fl =>
    cases fl with
    | ret u => exact I1.after hq
    | next => exact (show False from hq).elim
    | brk => exact (show False from hq).elim
    | cont => exact (show False from hq).elim
end
end Sv

set_option maxHeartbeats 4000000
namespace Sv
open PySem PySem.Spec PyProof.Rows L2 L2H HotX LamX
/-! ### the exception classes of the text -/
def excNames : List Str := ["InvalidBush", "InvalidStem", "InvalidPlayer", "InvalidStalk", "InvalidNumber", "InvalidText", "TooLarge", "NoneBetween", "NotYours", "NothingToUndo"]
def veTail : List Value := [.type "ValueError", .type "Exception", .type "BaseException", .type "object"]
/-- what is known of the class x, at C -/
structure ExcOne (K : PySem.W.Frag) (mg : Str → Option Value) (x : Str) (C : Addr) : Prop where
  g : mg x = some (.ref C)
  xi : PySem.W.excIn K C veTail "ValueError.__new__" = true
  kp : PySem.W.keepIn K (.ref C) = true
  b : PySem.W.subIn K (.ref C) (.type "BaseException") = some true
  t : PySem.W.typeIn K (.ref C) = some (.type "type")
/-- what is known of all ten, at C 0 .. C 9, and of their base at CS -/
structure Excs (K : PySem.W.Frag) (mg : Str → Option Value) (C : Nat → Addr) (CS : Addr) : Prop where
  gS : mg "StemError" = some (.ref CS)
  one : ∀ i x, excNames[i]? = some x → ExcOne K mg x (C i)
  cls : ∀ i, i < 10 → ExcC K (C i)
  apart : ∀ i j, i < 10 → j < 10 → PySem.W.kitOne K (.ref (C i)) (.ref (C j)) = some (decide (i = j))
  ve : ∀ i, i < 10 → PySem.W.kitOne K (.ref (C i)) (.type "ValueError") = some true
  stem : ∀ i, i < 10 → PySem.W.exmOne K (.ref (C i)) (.ref CS) = some true
/-- the same, to be reckoned -/
def excCB (K : PySem.W.Frag) (D : Addr) : Bool :=
  PySem.W.findIn K (.ref D) "__getattribute__" == some (some (.builtin "BaseException.__getattribute__")) && PySem.W.findIn K (.ref D) "__getattr__" == some none && PySem.W.subIn K (.ref D) (.type "BaseException") == some true &&
  PySem.W.hasDictIn K D && PySem.W.findIn K (.ref D) "__class__" == some (some (.builtin "object.__class__")) && PySem.W.specialIn K (.builtin "object.__class__") "__get__" == some (some (.builtin "getset_descriptor.__get__")) &&
  PySem.W.takesIn K (.builtin "object.__class__") == some true && PySem.W.mroIn K D (.type "object") == some true
theorem excC_of {K : PySem.W.Frag} {D : Addr} (h : excCB K D = true) : ExcC K D := by
  unfold excCB at h
  simp only [Bool.and_eq_true, beq_iff_eq] at h
  obtain ⟨⟨⟨⟨⟨⟨⟨h1, h2⟩, h3⟩, h4⟩, h5⟩, h6⟩, h7⟩, h8⟩ := h
  exact ⟨h1, h2, h3, h4, h5, h6, h7, h8⟩
def excOneB (K : PySem.W.Frag) (x : Str) (C : Addr) : Bool :=
  PySem.W.nsIn K mainGlobals x == some (some (.ref C)) && PySem.W.excIn K C veTail "ValueError.__new__" && PySem.W.keepIn K (.ref C) && PySem.W.subIn K (.ref C) (.type "BaseException") == some true && PySem.W.typeIn K (.ref C) == some (.type "type")
theorem excOne_of {K : PySem.W.Frag} {mg : Str → Option Value} {h : Heap} {x : Str} {C : Addr} (X : K.In h) (G : h.Ns mainGlobals mg) (e : excOneB K x C = true) : ExcOne K mg x C := by
  unfold excOneB at e
  simp only [Bool.and_eq_true, beq_iff_eq] at e
  obtain ⟨⟨⟨⟨h1, h2⟩, h3⟩, h4⟩, h5⟩ := e
  exact ⟨PySem.W.mg_of X G h1, h2, h3, h4, h5⟩
def excsB (K : PySem.W.Frag) (C : Nat → Addr) (CS : Addr) : Bool :=
  PySem.W.nsIn K mainGlobals "StemError" == some (some (.ref CS)) && (List.range 10).all fun i =>
    excOneB K (excNames.getD i "") (C i) && excCB K (C i) && PySem.W.kitOne K (.ref (C i)) (.type "ValueError") == some true && PySem.W.exmOne K (.ref (C i)) (.ref CS) == some true &&
      (List.range 10).all fun j => PySem.W.kitOne K (.ref (C i)) (.ref (C j)) == some (decide (i = j))
theorem excs_of {K : PySem.W.Frag} {mg : Str → Option Value} {h : Heap} {C : Nat → Addr} {CS : Addr} (X : K.In h) (G : h.Ns mainGlobals mg) (e : excsB K C CS = true) : Excs K mg C CS := by
  unfold excsB at e
  simp only [Bool.and_eq_true, beq_iff_eq, List.all_eq_true, List.mem_range] at e
  obtain ⟨h1, h2⟩ := e
  refine ⟨PySem.W.mg_of X G h1, fun i x hx => ?_, fun i hi => excC_of (h2 i hi).1.1.1.2, fun i j hi hj => (h2 i hi).2 j hj, fun i hi => (h2 i hi).1.1.2, fun i hi => (h2 i hi).1.2⟩
  have hi : i < 10 := (List.getElem?_eq_some_iff.mp hx).1
  have q := (h2 i hi).1.1.1.1
  rw [List.getD_eq_getElem?_getD, hx] at q
  exact excOne_of X G q
/-! ### raise X('..') -/
section
variable {X : Cx}
theorem ps_raiseN {x m : Str} {C : Addr} {j : Nat} {p p2 pos pos2 : Pos} {E : XK} {E₁ : Value → Shared → Prop} (hc : X.calm = true) (O : ExcOne X.K X.mg x C) (hg : Gl X x) (hs : X.stack = X.env :: X.outer) (hf : X.env.frame = some X.env.locals) (hex : X.ex = [])
    (hx : X.xe = fun e s' => wpAny (model X.prog X.w) X.A (leaving X.env e) (fun _ s'' => L2N.CX X.prog X.w X.outer X.H_0 X.s_0 E e s'') E₁ s') (hdb : (x == ("__debug__" : Str)) = false := by decide) :
    PS X (.Raise (some (.Call (.Name x p) [.Constant (.str m) j p2] [] pos)) none pos2) (fun _ _ H => E (.ref C) none H) :=
  L2N.ps_raise hc (L2N.takes_of hs hf hex hx) (L2N.pmk_own PySem.F.excBase_ValueError O.xi O.g O.kp (raises_own O.b O.t) hg hdb)
end
/-! ### what _law_term finds -/
def flagsOf (i : Nat) : List Bool := (List.range 10).map fun j => decide (i = j)
theorem flags_sum {i : Nat} (h : i < 10) : ((flagsOf i).map fun b => if b then (1 : Int) else 0).sum = 1 := by
  have : ∀ i, i < 10 → ((flagsOf i).map fun b => if b then (1 : Int) else 0).sum = 1 := by decide
  exact this i h
theorem flags_at {i : Nat} (h : i < 10) : ((flagsOf i).map V.bl)[i]? = some (.bl true) := by
  have : ∀ i, i < 10 → ((flagsOf i).map V.bl)[i]? = some (.bl true) := by decide
  exact this i h
theorem flags_ne {i m : Nat} {z : V} (h : m < i) (hz : ((flagsOf i).map V.bl)[m]? = some z) : eqV z (.bl true) = false := by
  unfold flagsOf at hz
  rw [List.map_map, List.getElem?_map] at hz
  cases e : (List.range 10)[m]? with
  | none => rw [e] at hz; cases hz
  | some j =>
    rw [e] at hz
    have hj : j = m := by
      rw [List.getElem?_range] at e
      · exact (Option.some.inj e).symm
      · exact (by have := (List.getElem?_eq_some_iff.mp e).1; simpa using this)
    subst hj
    have q := Option.some.inj hz
    subst q
    have : ¬ i = j := by omega
    show eqV (V.bl (decide (i = j))) (.bl true) = false
    rw [decide_eq_false this]
    rfl
theorem flags_flat (i : Nat) : ((flagsOf i).map V.bl).all flatV = true := by
  rw [List.all_map]
  exact List.all_eq_true.mpr fun _ _ => rfl
/-- what _law_term tells of the exception at a, of the i-th class -/
def spTerm (a : Addr) (i : Nat) : Sp := fun vs H Q _ => vs = [.ref a] ∧ ∀ H' p, Same H H' → H p = none → H' p = some (.tup [.str "error", .str (excNames.getD i "")]) → Q (.ref p) H'
/-- told: the lambda's result, or the name of its exception -/
def TTerm (C : Nat → Addr) : (XK → Hp → VK → Prop) → Hp → VK → Prop := fun tl H Q =>
  tl (fun cls d H' => d = none ∧ ∃ i, i < 10 ∧ cls = .ref (C i) ∧ ∀ H'' p, Same H' H'' → H' p = none → H'' p = some (.tup [.str "error", .str (excNames.getD i "")]) → Q (.ref p) H'') H Q
end Sv

set_option maxHeartbeats 4000000
namespace Sv
open PySem PySem.Spec PyProof.Rows L2 L2H HotX LamX
/-! ### data that never changes: None, ints, texts, tuples of these -/
mutual
def pl : PyData → Bool
  | .none => true
  | .int _ => true
  | .str x => PyData.strOk x
  | .tuple xs => plAll xs
  | .bool _ => false
  | .list _ => false
  | .dict _ => false
def plAll : List PyData → Bool
  | [] => true
  | x :: xs => pl x && plAll xs
end
mutual
theorem canLay_pl : ∀ d : PyData, pl d = true → d.canLay0 = true
  | .none, _ => rfl
  | .int _, _ => rfl
  | .str x, h => h
  | .tuple xs, h => by rw [PyData.canLay0]; exact canLayAll_pl xs (by rw [pl] at h; exact h)
  | .bool _, h => by rw [pl] at h; cases h
  | .list _, h => by rw [pl] at h; cases h
  | .dict _, h => by rw [pl] at h; cases h
theorem canLayAll_pl : ∀ xs : List PyData, plAll xs = true → PyData.canLayAll0 xs = true
  | [], _ => rfl
  | x :: xs, h => by
    rw [plAll, Bool.and_eq_true] at h
    rw [PyData.canLayAll0, canLay_pl x h.1, canLayAll_pl xs h.2]; rfl
end
mutual
theorem eqv_eq : ∀ d e : PyData, pl d = true → pl e = true → PyData.eqv d e = true → d = e
  | .none, e, _, h2, h => by cases e <;> first | rfl | (rw [PyData.eqv] at h; cases h)
  | .int i, e, _, h2, h => by
    cases e with
    | int j => rw [PyData.eqv] at h; rw [beq_iff_eq.mp h]
    | bool b => rw [pl] at h2; cases h2
    | _ => rw [PyData.eqv] at h; cases h
  | .str x, e, _, h2, h => by
    cases e with
    | str y => rw [PyData.eqv] at h; rw [beq_iff_eq.mp h]
    | _ => rw [PyData.eqv] at h; cases h
  | .tuple xs, e, h1, h2, h => by
    cases e with
    | tuple ys => rw [PyData.eqv] at h; rw [pl] at h1 h2; rw [eqvAll_eq xs ys h1 h2 h]
    | _ => rw [PyData.eqv] at h; cases h
  | .bool _, _, h1, _, _ => by rw [pl] at h1; cases h1
  | .list _, _, h1, _, _ => by rw [pl] at h1; cases h1
  | .dict _, _, h1, _, _ => by rw [pl] at h1; cases h1
theorem eqvAll_eq : ∀ xs ys : List PyData, plAll xs = true → plAll ys = true → PyData.eqvAll xs ys = true → xs = ys
  | [], [], _, _, _ => rfl
  | [], _ :: _, _, _, h => by rw [PyData.eqvAll] at h; cases h
  | _ :: _, [], _, _, h => by rw [PyData.eqvAll] at h; cases h
  | x :: xs, y :: ys, h1, h2, h => by
    rw [plAll, Bool.and_eq_true] at h1 h2
    rw [PyData.eqvAll, Bool.and_eq_true] at h
    rw [eqv_eq x y h1.1 h2.1 h.1, eqvAll_eq xs ys h1.2 h2.2 h.2]
end
theorem eqv_same {d : PyData} (h : pl d = true) : PyData.eqv d d = true := SeqAt.eqv_refl d (canLay_pl d h)
theorem eqv_ne {d e : PyData} (h1 : pl d = true) (h2 : pl e = true) (h : d ≠ e) : PyData.eqv d e = false := by
  cases q : PyData.eqv d e with
  | false => rfl
  | true => exact absurd (eqv_eq d e h1 h2 q) h
theorem shaped_of {d : PyData} (h : pl d = true) (hd : d.depth ≤ 64) : SeqAt.shaped d = true := by
  unfold SeqAt.shaped
  rw [canLay_pl d h, decide_eq_true hd]
  rfl
/-! ### where data stands -/
/-- what a step may change: not the tuples, not what is locked -/
structure Ext (H H' : Hp) : Prop where
  tup : ∀ b xs, H b = some (.tup xs) → H' b = some (.tup xs)
  frz : ∀ b o u, H b = some (.frz o u) → H' b = some (.frz o u)
theorem Same.ext {H H' : Hp} (s : Same H H') : Ext H H' := ⟨fun b xs e => s b _ e, fun b o u e => s b _ e⟩
theorem Ext.refl (H : Hp) : Ext H H := ⟨fun _ _ e => e, fun _ _ _ e => e⟩
theorem Ext.trans {H H1 H2 : Hp} (a : Ext H H1) (b : Ext H1 H2) : Ext H H2 := ⟨fun c xs e => b.tup c xs (a.tup c xs e), fun c o u e => b.frz c o u (a.frz c o u e)⟩
/-- a list (or a dict ..) is written -/
theorem Ext.wr {H : Hp} {a : Addr} {u o : HO} (e : H a = some u) (h1 : ∀ xs, u ≠ .tup xs) (h2 : ∀ o x, u ≠ .frz o x) : Ext H (upd H a o) :=
  ⟨fun b xs q => by rw [upd_ne (fun z => by rw [z, e] at q; exact h1 xs (Option.some.inj q))]; exact q, fun b ob x q => by rw [upd_ne (fun z => by rw [z, e] at q; exact h2 ob x (Option.some.inj q))]; exact q⟩
theorem Ext.lst {H : Hp} {a : Addr} {xs : List V} {o : HO} (e : H a = some (.lst xs)) : Ext H (upd H a o) := Ext.wr e (fun _ z => nomatch z) (fun _ _ z => nomatch z)
theorem Ext.sqT {K : PySem.W.Frag} {H H' : Hp} (x : Ext H H') {a : Addr} {xs : List V} (h : SqT K H a xs) : SqT K H' a xs := by
  rcases h with (h | ⟨o, h⟩) | h
  · exact .inl (.inl (x.tup _ _ h))
  · exact .inl (.inr ⟨o, x.frz _ _ _ h⟩)
  · exact .inr h
mutual
theorem dp_ext {K : PySem.W.Frag} {H H' : Hp} (x : Ext H H') : ∀ (d : PyData) (v : V), pl d = true → Dp K H v d → Dp K H' v d
  | .none, _, _, h => by cases h; exact .non
  | .int i, _, _, h => by cases h; exact .int i
  | .str z, _, _, h => by cases h; exact .str z
  | .tuple ds, _, hp, h => by
    rw [pl] at hp
    cases h with
    | tup s t => exact .tup (x.sqT s) (dpAll_ext x ds _ hp t)
  | .bool _, _, hp, _ => by rw [pl] at hp; cases hp
  | .list _, _, hp, _ => by rw [pl] at hp; cases hp
  | .dict _, _, hp, _ => by rw [pl] at hp; cases hp
theorem dpAll_ext {K : PySem.W.Frag} {H H' : Hp} (x : Ext H H') : ∀ (ds : List PyData) (vs : List V), plAll ds = true → DpAll K H vs ds → DpAll K H' vs ds
  | [], _, _, h => by cases h; exact .nil
  | d :: ds, _, hp, h => by
    rw [plAll, Bool.and_eq_true] at hp
    cases h with
    | cons a t => exact .cons (dp_ext x d _ hp.1 a) (dpAll_ext x ds _ hp.2 t)
end
/-- the data d stands at v -/
def At (K : PySem.W.Frag) (H : Hp) (v : V) (d : PyData) : Prop := pl d = true ∧ Dp K H v d
theorem At.ext {K : PySem.W.Frag} {H H' : Hp} {v : V} {d : PyData} (h : At K H v d) (x : Ext H H') : At K H' v d := ⟨h.1, dp_ext x _ _ h.1 h.2⟩
theorem At.same {K : PySem.W.Frag} {H H' : Hp} {v : V} {d : PyData} (h : At K H v d) (x : Same H H') : At K H' v d := h.ext (Same.ext x)
def AtAll (K : PySem.W.Frag) (H : Hp) (vs : List V) (ds : List PyData) : Prop := plAll ds = true ∧ DpAll K H vs ds
theorem AtAll.ext {K : PySem.W.Frag} {H H' : Hp} {vs : List V} {ds : List PyData} (h : AtAll K H vs ds) (x : Ext H H') : AtAll K H' vs ds := ⟨h.1, dpAll_ext x _ _ h.1 h.2⟩
theorem AtAll.nil {K : PySem.W.Frag} {H : Hp} : AtAll K H [] [] := ⟨rfl, .nil⟩
theorem AtAll.cons {K : PySem.W.Frag} {H : Hp} {v : V} {vs : List V} {d : PyData} {ds : List PyData} (a : At K H v d) (b : AtAll K H vs ds) : AtAll K H (v :: vs) (d :: ds) := ⟨by rw [plAll, a.1, b.1]; rfl, .cons a.2 b.2⟩
theorem AtAll.len {K : PySem.W.Frag} {H : Hp} : ∀ {vs : List V} {ds : List PyData}, DpAll K H vs ds → vs.length = ds.length
  | _, _, .nil => rfl
  | _, _, .cons _ t => by rw [List.length_cons, List.length_cons, AtAll.len t]
theorem AtAll.snoc {K : PySem.W.Frag} {H : Hp} {v : V} {d : PyData} (a : At K H v d) : ∀ {vs : List V} {ds : List PyData}, AtAll K H vs ds → AtAll K H (vs ++ [v]) (ds ++ [d])
  | _, _, ⟨h, .nil⟩ => AtAll.cons a AtAll.nil
  | _, _, ⟨h, .cons x t⟩ => by
    rw [plAll, Bool.and_eq_true] at h
    exact AtAll.cons ⟨h.1, x⟩ (AtAll.snoc a ⟨h.2, t⟩)
theorem AtAll.append {K : PySem.W.Frag} {H : Hp} {us : List V} {es : List PyData} (a : AtAll K H us es) : ∀ {vs : List V} {ds : List PyData}, AtAll K H vs ds → AtAll K H (vs ++ us) (ds ++ es)
  | _, _, ⟨h, .nil⟩ => a
  | _, _, ⟨h, .cons x t⟩ => by
    rw [plAll, Bool.and_eq_true] at h
    exact AtAll.cons ⟨h.1, x⟩ (AtAll.append a ⟨h.2, t⟩)
theorem AtAll.get {K : PySem.W.Frag} {H : Hp} : ∀ {vs : List V} {ds : List PyData} {i : Nat} {v : V}, AtAll K H vs ds → vs[i]? = some v → ∃ d, ds[i]? = some d ∧ At K H v d
  | _, _, _, _, ⟨h, .nil⟩, e => by simp at e
  | _, _, 0, _, ⟨h, .cons x t⟩, e => by
    rw [plAll, Bool.and_eq_true] at h
    simp at e; subst e
    exact ⟨_, rfl, h.1, x⟩
  | _, _, i + 1, v, ⟨h, .cons x t⟩, e => by
    rw [plAll, Bool.and_eq_true] at h
    exact AtAll.get (i := i) ⟨h.2, t⟩ (by simpa using e)
theorem AtAll.get' {K : PySem.W.Frag} {H : Hp} {vs : List V} {ds : List PyData} {i : Nat} {d : PyData} (a : AtAll K H vs ds) (e : ds[i]? = some d) : ∃ v, vs[i]? = some v ∧ At K H v d := by
  have hl := AtAll.len a.2
  have hi := (List.getElem?_eq_some_iff.mp e).1
  cases q : vs[i]? with
  | none => exact absurd (List.getElem?_eq_none_iff.mp q) (by omega)
  | some v =>
    obtain ⟨d', e', h⟩ := a.get q
    rw [e] at e'; cases e'
    exact ⟨v, rfl, h⟩
theorem At.int {K : PySem.W.Frag} {H : Hp} (i : Int) : At K H (.int i) (.int i) := ⟨rfl, .int i⟩
theorem At.non {K : PySem.W.Frag} {H : Hp} : At K H .non .none := ⟨rfl, .non⟩
theorem At.str {K : PySem.W.Frag} {H : Hp} {x : Str} (h : PyData.strOk x = true) : At K H (.str x) (.str x) := ⟨h, .str x⟩
theorem At.tup {K : PySem.W.Frag} {H : Hp} {a : Addr} {vs : List V} {ds : List PyData} (h : SqT K H a vs) (d : AtAll K H vs ds) : At K H (.ref a) (.tuple ds) := ⟨by rw [pl]; exact d.1, .tup h d.2⟩
theorem At.tupO {K : PySem.W.Frag} {H : Hp} {a : Addr} {vs : List V} {ds : List PyData} (h : H a = some (.tup vs)) (d : AtAll K H vs ds) : At K H (.ref a) (.tuple ds) := At.tup (SqT.of h) d
/-- what a tuple's data says -/
theorem At.inv {K : PySem.W.Frag} {H : Hp} {v : V} {ds : List PyData} (h : At K H v (.tuple ds)) : ∃ a vs, v = .ref a ∧ SqT K H a vs ∧ AtAll K H vs ds := by
  obtain ⟨h1, h2⟩ := h
  rw [pl] at h1
  cases h2 with
  | tup s d => exact ⟨_, _, rfl, s, h1, d⟩
theorem At.inv_int {K : PySem.W.Frag} {H : Hp} {v : V} {i : Int} (h : At K H v (.int i)) : v = .int i := by
  obtain ⟨_, h2⟩ := h
  cases h2; rfl
theorem At.inv_str {K : PySem.W.Frag} {H : Hp} {v : V} {i : Str} (h : At K H v (.str i)) : v = .str i := by
  obtain ⟨_, h2⟩ := h
  cases h2; rfl
theorem At.inv_none {K : PySem.W.Frag} {H : Hp} {v : V} (h : At K H v .none) : v = .non := by
  obtain ⟨_, h2⟩ := h
  cases h2; rfl
/-! ### any data -/
mutual
theorem dp_same {K : PySem.W.Frag} {H H' : Hp} (x : Same H H') : ∀ (d : PyData) (v : V), Dp K H v d → Dp K H' v d
  | .none, _, h => by cases h; exact .non
  | .int i, _, h => by cases h; exact .int i
  | .str z, _, h => by cases h; exact .str z
  | .bool z, _, h => by cases h; exact .bl z
  | .tuple ds, _, h => by
    cases h with
    | tup s t => exact .tup ((Same.ext x).sqT s) (dpAll_same x ds _ t)
  | .list ds, _, h => by
    cases h with
    | lst s t => exact .lst (x.seq s) (dpAll_same x ds _ t)
  | .dict _, _, h => by cases h
theorem dpAll_same {K : PySem.W.Frag} {H H' : Hp} (x : Same H H') : ∀ (ds : List PyData) (vs : List V), DpAll K H vs ds → DpAll K H' vs ds
  | [], _, h => by cases h; exact .nil
  | d :: ds, _, h => by
    cases h with
    | cons a t => exact .cons (dp_same x d _ a) (dpAll_same x ds _ t)
end
theorem dpAll_get {K : PySem.W.Frag} {H : Hp} : ∀ {vs : List V} {ds : List PyData} {i : Nat} {d : PyData}, DpAll K H vs ds → ds[i]? = some d → ∃ v, vs[i]? = some v ∧ Dp K H v d
  | _, _, _, _, .nil, e => by simp at e
  | _, _, 0, _, .cons x t, e => by simp at e; subst e; exact ⟨_, rfl, x⟩
  | _, _, i + 1, d, .cons x t, e => by
    obtain ⟨v, h1, h2⟩ := dpAll_get (i := i) t (by simpa using e)
    exact ⟨v, by simpa using h1, h2⟩
/-- the class of a piece of data -/
def tyD : PyData → String
  | .none => "NoneType"
  | .bool _ => "bool"
  | .int _ => "int"
  | .str _ => "str"
  | .list _ => "list"
  | .tuple _ => "tuple"
  | .dict _ => "dict"
theorem sqT_ty {K : PySem.W.Frag} {H : Hp} {a : Addr} {xs : List V} (h : SqT K H a xs) : TyX K H (.ref a) (.type "tuple") := by
  rcases h with (h | ⟨o, h⟩) | ⟨o, its, n, h1, h2, _⟩
  · exact .base (.tup h)
  · exact .fTuple h
  · exact .kTuple h1 h2
theorem sqL_ty {K : PySem.W.Frag} {H : Hp} {a : Addr} {xs : List V} (h : SqL K H a xs) : TyX K H (.ref a) (.type "list") := by
  rcases h with (h | ⟨o, h⟩) | ⟨o, its, n, h1, h2, _⟩
  · exact .base (.lst h)
  · exact .base (.frz h)
  · exact .kList h1 h2
theorem tyX_of {K : PySem.W.Frag} {H : Hp} {v : V} {d : PyData} (h : Dp K H v d) : TyX K H v (.type (tyD d)) := by
  cases h with
  | non => exact .base .non
  | bl b => exact .base (.bl b)
  | int i => exact .base (.int i)
  | str x => exact .base (.str x)
  | lst s _ => exact sqL_ty s
  | tup s _ => exact sqT_ty s
def isKind (d : PyData) (T : String) : Bool := (tyD d == T) || (tyD d == "bool" && T == "int")
theorem kit_int (d : PyData) (h : ∀ x, d ≠ .dict x) : kitB (tyD d) "int" = some (isKind d "int") := by cases d <;> first | (exact absurd rfl (h _)) | (simp only [tyD, isKind]; decide +kernel)
theorem kit_bool (d : PyData) (h : ∀ x, d ≠ .dict x) : kitB (tyD d) "bool" = some (isKind d "bool") := by cases d <;> first | (exact absurd rfl (h _)) | (simp only [tyD, isKind]; decide +kernel)
theorem kit_str (d : PyData) (h : ∀ x, d ≠ .dict x) : kitB (tyD d) "str" = some (isKind d "str") := by cases d <;> first | (exact absurd rfl (h _)) | (simp only [tyD, isKind]; decide +kernel)
theorem kit_tuple (d : PyData) (h : ∀ x, d ≠ .dict x) : kitB (tyD d) "tuple" = some (isKind d "tuple") := by cases d <;> first | (exact absurd rfl (h _)) | (simp only [tyD, isKind]; decide +kernel)
theorem dp_nodict {K : PySem.W.Frag} {H : Hp} {v : V} {d : PyData} (h : Dp K H v d) : ∀ x, d ≠ .dict x := fun x e => by subst e; cases h
section
variable {X : Cx}
/-- isinstance(x, T), T one of int, bool, str, tuple -/
def rIsD (K : PySem.W.Frag) : List V → Hp → VK → Prop := fun xs H Q => ∃ x T d, xs = [x, .ty T] ∧ Dp K H x d ∧ (T = "int" ∨ T = "bool" ∨ T = "str" ∨ T = "tuple") ∧ Q (.bl (isKind d T)) H
theorem call_isD : CallR X (.builtin "isinstance") (rIsD X.K) := CallR.imp call_isi fun xs H Q h => by
  obtain ⟨x, T, d, e, hd, ht, q⟩ := h
  refine ⟨x, .ty T, .type (tyD d), .type T, isKind d T, e, .ty T, tyX_of hd, kit_ty ?_, q⟩
  rcases ht with rfl | rfl | rfl | rfl
  · exact kit_int d (dp_nodict hd)
  · exact kit_bool d (dp_nodict hd)
  · exact kit_str d (dp_nodict hd)
  · exact kit_tuple d (dp_nodict hd)
end
/-! ### == of such data -/
section
variable {X : Cx}
def rEqA (K : PySem.W.Frag) : R2 := fun x y H Q => ∃ d e, At K H x d ∧ At K H y e ∧ d.depth ≤ 64 ∧ e.depth ≤ 64 ∧ (d = e → Q (.bl true) H) ∧ (d ≠ e → Q (.bl false) H)
def rNeA (K : PySem.W.Frag) : R2 := fun x y H Q => ∃ d e, At K H x d ∧ At K H y e ∧ d.depth ≤ 64 ∧ e.depth ≤ 64 ∧ (d = e → Q (.bl false) H) ∧ (d ≠ e → Q (.bl true) H)
theorem op_eqA (hu : X.A.units + 64 < cLine) : OpR X (compareOp .Eq) (rEqA X.K) := OpR.imp (op_eqD hu) fun x y H Q h => by
  obtain ⟨d, e, h1, h2, h3, h4, q1, q2⟩ := h
  refine ⟨d, e, h1.2, h2.2, shaped_of h1.1 h3, shaped_of h2.1 h4, ?_⟩
  by_cases he : d = e
  · subst he; rw [eqv_same h1.1]; exact q1 rfl
  · rw [eqv_ne h1.1 h2.1 he]; exact q2 he
theorem op_neA (hu : X.A.units + 64 < cLine) : OpR X (compareOp .NotEq) (rNeA X.K) := OpR.imp (op_neD hu) fun x y H Q h => by
  obtain ⟨d, e, h1, h2, h3, h4, q1, q2⟩ := h
  refine ⟨d, e, h1.2, h2.2, shaped_of h1.1 h3, shaped_of h2.1 h4, ?_⟩
  by_cases he : d = e
  · subst he; rw [eqv_same h1.1]; exact q1 rfl
  · rw [eqv_ne h1.1 h2.1 he]; exact q2 he
end
end Sv

set_option maxHeartbeats 4000000
namespace Sv
open PySem PySem.Spec PyProof.Rows L2 L2H HotX LamX
/-! ### comprehensions by what holds of the list so far -/
/-- how the heap may go on from H1: T; the places that are free at H1 stay as the comprehension has them -/
structure Goes1 (H1 : Hp) (T : Hp → Hp → Prop) : Prop where
  refl : ∀ H, T H1 H → T H H
  rf0 : T H1 H1
  trans : ∀ H H', T H1 H → T H H' → T H1 H'
  put : ∀ D H zs, H1 D = none → T H1 H → T H1 (upd H D (.lst zs))
  keep : ∀ D H H' o, H1 D = none → T H1 H → T H H' → H D = some o → H' D = some o
theorem goes_same (H1 : Hp) : Goes1 H1 Same where
  refl := fun H _ => Same.refl H
  rf0 := Same.refl H1
  trans := fun H H' a b => Same.trans a b
  put := fun D H zs n a b o e => by rw [upd_ne (ne_of_none e n)]; exact a b o e
  keep := fun D H H' o _ _ t e => t D o e
section
variable {J : It} {n : Nat} {G : Hp → Prop} {Y : Nat → Hp → V → Hp → Prop}
theorem lc_J (w : Walk J n G Y) {g : TG} {tt : TT} {te : TE} {vs : List Nat} {σ : L2.St} {H1 : Hp} {Q : Addr → Hp → Prop} (T : Hp → Hp → Prop) (R : Addr → Nat → List V → Hp → Prop) (hT : Goes1 H1 T) (hn : n < sizeLine)
    (hG : ∀ H, T H1 H → G H) (h0 : ∀ D, H1 D = none → R D 0 [] H1) (hR : ∀ D i ys H H', H1 D = none → Ext H H' → (∀ b o, b ≠ D → H b = some o → H' b = some o) → R D i ys H → R D i ys H')
    (step : ∀ D (E : V → Hp → Prop) (E0 : Hp → Prop) i x ys H H', H1 D = none → H D = some (.lst ys) → i < n → T H1 H → R D i ys H → Y i H x H' → (∀ y H4, T H H4 → R D (i + 1) (ys ++ [y]) H4 → E y H4) → (∀ H3, T H H3 → R D (i + 1) ys H3 → E0 H3) →
      g x (wipe σ vs) H' fun σ2 H2 => wipe σ2 vs = wipe σ vs ∧ tt σ2 H2 fun b H3 => if b = true then te σ2 H3 E else E0 H3)
    (fin : ∀ D H ys, H1 D = none → T H1 H → H D = some (.lst ys) → ys.length ≤ n → R D n ys H → Q D H) :
    ∀ D, H1 D = none → ∃ W : Nat → Nat → Hp → Prop, (∃ m, W 0 m (upd H1 D (.lst []))) ∧ ∀ i m H, W i m H →
      (J.stop i H ∧ Q D H) ∨ (J.go i H ∧ ∃ Nx : Hp → Prop, (∀ H', Nx H' → ∃ m', m' < m ∧ W (i + 1) m' H') ∧ ∀ x H', J.yld i H x H' → g x (wipe σ vs) H' fun σ2 H2 => wipe σ2 vs = wipe σ vs ∧ tt σ2 H2 fun b H3 =>
        if b = true then te σ2 H3 fun y H4 => ∃ acc, H4 D = some (.lst acc) ∧ acc.length < sizeLine ∧ Nx (upd H4 D (.lst (acc ++ [y]))) else Nx H3) := by
  intro D hD
  have other : ∀ {H : Hp} {o : HO} (b : Addr) (u : HO), b ≠ D → H b = some u → upd H D o b = some u := fun b u hb e => by rw [upd_ne hb]; exact e
  refine lc_it w (Qd := fun H => Q D H) (fun i H => T H1 H ∧ ∃ ys, H D = some (.lst ys) ∧ ys.length ≤ i ∧ R D i ys H) ⟨hT.put D H1 [] hD hT.rf0, [], upd_same, Nat.le_refl _, hR _ _ _ _ _ hD (Same.ext (same_new hD)) other (h0 D hD)⟩ (fun i H _ h => hG H h.1) ?_ ?_
  · rintro i x H H' hi ⟨t, ys, eD, hl, r⟩ y
    refine step D _ _ i x ys H H' hD eD hi t r y (fun v H4 t4 r4 => ?_) fun H3 t3 r3 => ?_
    · have e4 := hT.keep D _ _ _ hD t t4 eD
      exact ⟨ys, e4, by omega, hT.put D _ _ hD (hT.trans _ _ t t4), ys ++ [v], upd_same, by rw [List.length_append, List.length_singleton]; omega, hR _ _ _ _ _ hD (Ext.lst e4) other r4⟩
    · exact ⟨hT.trans _ _ t t3, ys, hT.keep D _ _ _ hD t t3 eD, by omega, r3⟩
  · rintro H ⟨t, ys, eD, hl, r⟩
    exact fin D H ys hD t eD hl r
end
end Sv

set_option maxHeartbeats 4000000
namespace Sv
open PySem PySem.Spec PyProof.Rows L2 L2H HotX LamX
/-! ### min of a list of pairs of ints -/
section
variable {prog : Program} {w : World} {A : Around} {R : Result → Shared → Prop} {I : Addr} {n : Nat} {P : Nat → Value → Prop} {fp wr : List Addr} {St : Nat → Heap → Prop}
/-- how two of the items compare in every state that bears what h0 bears, but for the iterator and the place S -/
def CmpIn (prog : Program) (w : World) (A : Around) (P : Nat → Value → Prop) (bt : Nat → Nat → Bool) (wr : List Addr) (S : Addr) (h0 : Heap) : Prop :=
  ∀ i j vi vj (s : Shared) (Q : Value → Shared → Prop) (E : Value → Shared → Prop), P i vi → P j vj → (∀ b o, b ∉ wr → b ≠ S → h0.get? b = some o → s.heap.get? b = some o) → Q (.bool (bt i j)) s → wpAny (model prog w) A (richCompare .Lt vi vj) Q E s
theorem min_name : (toString "min" ++ toString ".loop" : String) = "min.loop" := by decide
theorem min_on (W : Walks prog w A.in1 I fp wr n P St) (bt : Nat → Nat → Bool) (S : Addr) (h0 : Heap) (hcmp : CmpIn prog w A.in1 P bt wr S h0) (hSf : S ∉ fp) :
    ∀ (k j : Nat) (s : Shared) (vb : Value) (c : Nat), n - (j + 1) = k → j + 1 ≤ n → St (j + 1) s.heap → P (argBest bt j) vb →
    s.heap.get? S = some { cls := .type "list", dict := none, data := .seq #[vb, vb] c, slots := #[] } → (∀ b o, b ∉ wr → b ≠ S → h0.get? b = some o → s.heap.get? b = some o) →
    (∀ v h' tk, P (argBest bt (n - 1)) v → (∀ b o, b ∉ wr → b ≠ S → h0.get? b = some o → h'.get? b = some o) → R (.ok (.ret v)) { s with heap := h', toks := tk }) →
    codeAny (model prog w) A (.builtin "min.loop" ⟨[.ref I, .none, .ref S], []⟩) R s := by
  have hSw : S ∉ wr := fun h => hSf (W.sub _ h)
  intro k
  induction k with
  | zero =>
    intro j s vb c hk hj hst hPb hS k0 hR
    obtain rfl : n = j + 1 := by omega
    refine codeAny_builtin F.entry_min_loop ?_
    rw [Around.under_plainId F.plain_min_loop _]
    refine (show wpAny _ A.in1 (seqItems? (.ref S) >>= _) _ _ s from wpAny_bind (wpAny_seqItems hS rfl ?_))
    refine (show wpAny _ A.in1 (tryCatch (pyNext (.ref I)) _ >>= _) _ _ s from wpAny_bind (wpAny_tryCatch (W.done s _ _ hst fun h' tk hk' => ?_)))
    refine (show wpAny _ A.in1 (updateSeq S (fun _ => #[]) >>= _) _ _ _ from wpAny_bind ?_)
    refine wpAny_updateSeq (hk' S _ hSw hS) rfl (wpAny_bind (wpAny_letGo (wpAny_pure ?_)))
    exact hR vb _ tk hPb fun b o hbw hbS e => (Heap.get?_update_other _ _ (Ne.symm hbS)).trans (hk' b o hbw (k0 b o hbw hbS e))
  | succ k ih =>
    intro j s vb c hk hj hst hPb hS k0 hR
    have hlt : j + 1 < n := by omega
    refine codeAny_builtin F.entry_min_loop ?_
    rw [Around.under_plainId F.plain_min_loop _]
    refine (show wpAny _ A.in1 (seqItems? (.ref S) >>= _) _ _ s from wpAny_bind (wpAny_seqItems hS rfl ?_))
    refine (show wpAny _ A.in1 (tryCatch (pyNext (.ref I)) _ >>= _) _ _ s from wpAny_bind (wpAny_tryCatch (W.item (j + 1) s _ _ hlt hst fun v h' tk hP hst' hk' => ?_)))
    have hS' := hk' S _ hSw hS
    have k1 : ∀ b o, b ∉ wr → b ≠ S → h0.get? b = some o → h'.get? b = some o := fun b o hbw hbS e => hk' b o hbw (k0 b o hbw hbS e)
    refine (show wpAny _ A.in1 (tryCatch (holding [v, v] (richCompare .Lt v vb >>= _)) _ >>= _) _ _ _ from
      wpAny_bind (wpAny_tryCatch (wpAny_holding (wpAny_bind (hcmp (j + 1) (argBest bt j) v vb _ _ _ hP hPb k1 ?_)))))
    refine wpAny_bind (wpAny_holding (wpAny_truthy_bool (wpAny_bind (wpAny_letGo (wpAny_pure ?_)))))
    cases hb : bt (j + 1) (argBest bt j) with
    | true =>
      simp only [if_true]
      refine wpAny_bind (wpAny_updateSeq hS' rfl (wpAny_bind (wpAny_letGo ?_)))
      rw [min_name]
      refine wpAny_pure ⟨plainId_quiet F.plain_min_loop _, ih (j + 1) _ v _ (by omega) hlt (W.frame _ _ _ hst' fun b hbf o e => ?_) (by simp only [argBest, hb, if_true]; exact hP) (Heap.get?_update_self _ hS' rfl) (fun b o hbw hbS e => ?_)
        fun v' h'' tk'' hP' hk'' => hR v' h'' tk'' hP' hk''⟩
      · exact (Heap.get?_update_other _ _ (fun h : S = b => hSf (by rw [h]; exact hbf))).trans e
      · exact (Heap.get?_update_other _ _ (Ne.symm hbS)).trans (k1 b o hbw hbS e)
    | false =>
      simp only [Bool.false_eq_true, if_false]
      refine wpAny_bind (wpAny_letGo ?_)
      rw [min_name]
      exact wpAny_pure ⟨plainId_quiet F.plain_min_loop _, ih (j + 1) _ vb c (by omega) hlt hst' (by simp only [argBest, hb, Bool.false_eq_true, if_false]; exact hPb) hS' k1 fun v' h'' tk'' hP' hk'' => hR v' h'' tk'' hP' hk''⟩
end
section
variable {prog : Program} {w : World} {A : Around} {E : Value → Shared → Prop} {s : Shared}
theorem call_min_in {x : Value} {Q : Value → Shared → Prop}
    (h : wpAny (model prog w) A.in1 (pyIter x) (fun it s₂ => ∃ I fp wr n P St bt, it = .ref I ∧ Walks prog w A.in1 I fp wr n P St ∧ St 0 s₂.heap ∧ (∀ b ∈ fp, b < s₂.heap.objs.size) ∧ 0 < n ∧ CmpIn prog w A.in1 P bt wr s₂.heap.objs.size s₂.heap ∧
      ∀ v h' tk, P (argBest bt (n - 1)) v → (∀ b o, b ∉ wr → s₂.heap.get? b = some o → h'.get? b = some o) → Q v { s₂ with heap := h', toks := tk }) E s) :
    wpAny (model prog w) A (call (.builtin "min") [x]) Q E s := by
  refine call_function_tree F.kind_min F.plain_min F.entry_min (F.args_min1 _) ?_
  refine (show wpAny _ A.in1 (Builtin.Builtins.bindParams "min" ["key", "default"] 0 ⟨[], []⟩ >>= _) _ _ s from wpAny_bind (wpAny_of_eq (a := [none, none]) rfl (wpAny_bind (wpAny_pure ?_))))
  refine wpAny_bind (wpAny_mono h (fun it s₂ h₂ => ?_) fun _ _ e => e)
  obtain ⟨I, fp, wr, n, P, St, bt, rfl, W, hst, hfp, hn, hcmp, hQ⟩ := h₂
  refine wpAny_bind (wpAny_newObj_type ?_)
  have hSf : s₂.heap.objs.size ∉ fp := fun hm => Nat.lt_irrefl _ (hfp _ hm)
  have hSw : s₂.heap.objs.size ∉ wr := fun h => hSf (W.sub _ h)
  rw [min_name]
  refine wpAny_pure ⟨plainId_quiet F.plain_min_loop _, codeAny_builtin F.entry_min_loop ?_⟩
  rw [Around.under_plainId F.plain_min_loop _]
  refine (show wpAny _ A.in1 (seqItems? (.ref s₂.heap.objs.size) >>= _) _ _ _ from wpAny_bind (wpAny_seqItems (Heap.get?_push_size _ rfl) rfl ?_))
  refine (show wpAny _ A.in1 (tryCatch (pyNext (.ref I)) _ >>= _) _ _ _ from wpAny_bind (wpAny_tryCatch (W.item 0 _ _ _ hn (W.frame _ _ _ hst fun b _ o e => Heap.get?_push_of_some _ e) fun v h' tk hP hst' hk' => ?_)))
  have hS' := hk' s₂.heap.objs.size _ hSw (Heap.get?_push_size _ rfl)
  refine (show wpAny _ A.in1 (updateSeq s₂.heap.objs.size (fun _ => #[v, v]) >>= _) _ _ _ from wpAny_bind (wpAny_updateSeq hS' rfl ?_))
  rw [min_name]
  refine wpAny_pure ⟨plainId_quiet F.plain_min_loop _, min_on W bt s₂.heap.objs.size s₂.heap hcmp hSf _ 0 _ v _ rfl hn (W.frame _ _ _ hst' fun b hbf o e => ?_) hP (Heap.get?_update_self _ hS' rfl) (fun b o hbw hbS e => ?_) fun v' h'' tk'' hP' hk'' => ?_⟩
  · exact (Heap.get?_update_other _ _ (fun h : s₂.heap.objs.size = b => hSf (by rw [h]; exact hbf))).trans e
  · exact (Heap.get?_update_other _ _ (Ne.symm hbS)).trans (hk' b o hbw (Heap.get?_push_of_some _ e))
  · exact hQ v' h'' tk'' hP' fun b o hbw e => hk'' b o hbw (Nat.ne_of_lt (Heap.lt_size e)) e
end
/-- what argBest finds: none is less -/
theorem argBest_min (bt : Nat → Nat → Bool) (tr : ∀ i j k, bt i j = false → bt j k = false → bt i k = false) (as : ∀ i j, bt i j = true → bt j i = false) (ir : ∀ i, bt i i = false) :
    ∀ k, argBest bt k ≤ k ∧ ∀ j, j ≤ k → bt j (argBest bt k) = false
  | 0 => ⟨Nat.le_refl _, fun j hj => by
      obtain rfl : j = 0 := by omega
      exact ir _⟩
  | k + 1 => by
    obtain ⟨h1, h2⟩ := argBest_min bt tr as ir k
    rw [argBest]
    cases hb : bt (k + 1) (argBest bt k) with
    | true =>
      rw [if_pos rfl]
      refine ⟨Nat.le_refl _, fun j hj => ?_⟩
      by_cases e : j = k + 1
      · rw [e]; exact ir _
      · exact tr _ _ _ (h2 j (by omega)) (as _ _ hb)
    | false =>
      rw [if_neg Bool.false_ne_true]
      refine ⟨by omega, fun j hj => ?_⟩
      by_cases e : j = k + 1
      · rw [e]; exact hb
      · exact h2 j (by omega)
theorem lex2 (x1 y1 x2 y2 : Int) : HT.lexLt [x1, y1] [x2, y2] = decide (x1 < x2 ∨ (x1 = x2 ∧ y1 < y2)) := by
  rw [HT.lexLt_cons]
  by_cases h : x1 = x2
  · rw [if_pos h, HT.lexLt_cons]
    by_cases h2 : y1 = y2
    · rw [if_pos h2, HT.lexLt_nil_nil, decide_eq_false (by omega)]
    · rw [if_neg h2]
      by_cases h3 : y1 < y2
      · rw [decide_eq_true h3, decide_eq_true (by omega)]
      · rw [decide_eq_false h3, decide_eq_false (by omega)]
  · rw [if_neg h]
    by_cases h3 : x1 < x2
    · rw [decide_eq_true h3, decide_eq_true (by omega)]
    · rw [decide_eq_false h3, decide_eq_false (by omega)]
section
variable {X : Cx}
/-- min of a list of pairs of ints: one of them, none is less -/
def rMinP (K : PySem.W.Frag) : List V → Hp → VK → Prop := fun vs H Q => ∃ (a : Addr) (ps : List Addr) (xs : List (Int × Int)), vs = [.ref a] ∧ SqL K H a (ps.map V.ref) ∧ ps.length = xs.length ∧ 0 < xs.length ∧
  (∀ (i : Nat) (p : Addr) (x : Int × Int), ps[i]? = some p → xs[i]? = some x → SqT K H p [.int x.1, .int x.2]) ∧
  ∀ p x, SqT K H p [.int x.1, .int x.2] → x ∈ xs → (∀ y ∈ xs, ¬ (y.1 < x.1 ∨ (y.1 = x.1 ∧ y.2 < x.2))) → Q (.ref p) H
theorem cr_minP (hc : X.calm = true) (hu : X.A.units + 64 < cLine) : CallR X (.builtin "min") (rMinP X.K) := by
  intro pins s σ H vs us Q I r h
  obtain ⟨a, ps, xs, rfl, hS, hlen, hpos, hT, q⟩ := h
  obtain ⟨its, rv, hl, _⟩ := I.list hS
  rw [Vals.ref1 r]
  have hits : its = ps.map Value.ref := by
    have : ∀ {ps : List Addr} {its : List Value}, Vals (ps.map V.ref) its → its = ps.map Value.ref := by
      intro ps
      induction ps with
      | nil => intro its h; cases h; rfl
      | cons p t ih => intro its h; cases h with | cons r1 r2 => rw [show _ = Value.ref p from r1, ih r2]; rfl
    exact this rv
  have hlt : a < s.heap.objs.size := by obtain ⟨_, _, e, _⟩ := hl; exact Heap.lt_size e
  refine call_min_in (wpAny_pyIter_list hl.isList ?_)
  let g : Nat → Int × Int := fun i => xs[i]?.getD (0, 0)
  refine ⟨s.heap.objs.size, _, _, _, _, _, fun i j => HT.lexLt [(g i).1, (g i).2] [(g j).1, (g j).2], rfl, Walks.list (A := X.A.in1) (I.ok.hd hc) _ a (Nat.ne_of_lt hlt) its.toArray, ⟨⟨_, Heap.get?_push_size _ rfl, rfl, rfl⟩, hl.isList.push _⟩, ?_, ?_, ?_, ?_⟩
  · intro b hb
    show b < (s.heap.push _).objs.size
    rw [Heap.size_push]
    rcases List.mem_cons.mp hb with z | hb
    · rw [z]; exact Nat.lt_succ_self _
    · rw [List.mem_singleton.mp hb]; exact Nat.lt_succ_of_lt hlt
  · rw [hits]; simp; omega
  · have at_ : ∀ {i : Nat} {v : Value}, its.toArray[i]? = some v → ∃ p x, v = .ref p ∧ xs[i]? = some x ∧ SqT X.K H p [.int x.1, .int x.2] := by
      intro i v hv
      have hv : its[i]? = some v := by simpa using hv
      rw [hits, List.getElem?_map] at hv
      cases e : ps[i]? with
      | none => rw [e] at hv; cases hv
      | some p =>
        rw [e] at hv
        have hi : i < xs.length := by rw [← hlen]; exact (List.getElem?_eq_some_iff.mp e).1
        exact ⟨p, xs[i], (Option.some.inj hv).symm, List.getElem?_eq_getElem hi, hT i p _ e (List.getElem?_eq_getElem hi)⟩
    intro i j vi vj s' Q' E' h1 h2 k hq
    obtain ⟨p1, x1, rfl, e1, t1⟩ := at_ h1
    obtain ⟨p2, x2, rfl, e2, t2⟩ := at_ h2
    obtain ⟨i1, r1, u1, _⟩ := I.tuple t1
    obtain ⟨i2, r2, u2, _⟩ := I.tuple t2
    have up : ∀ b o, s.heap.get? b = some o → s'.heap.get? b = some o := fun b o e => by
      have hb := Heap.lt_size e
      refine k b o (fun z => by rw [List.mem_singleton.mp z] at hb; exact Nat.lt_irrefl _ hb) (fun z => ?_) (Heap.get?_push_of_some _ e)
      have z : b = s.heap.objs.size + 1 := by rw [z]; exact Heap.size_push ..
      rw [z] at hb
      exact absurd hb (Nat.not_lt.mpr (Nat.le_succ _))
    have f1 : g i = x1 := by show xs[i]?.getD (0, 0) = _; rw [e1]; rfl
    have f2 : g j = x2 := by show xs[j]?.getD (0, 0) = _; rw [e2]; rfl
    have keepT : ∀ {p : Addr} {its : Array Value}, IsTup s.heap p its → IsTup s'.heap p its := fun ⟨o, e, c⟩ => ⟨o, up _ _ e, c⟩
    exact HT.lt_tupInts (keepT u1) (keepT u2) (Vals.ints (ns := [x1.1, x1.2]) r1) (Vals.ints (ns := [x2.1, x2.2]) r2) (by show X.A.units + 1 < cLine; omega) (by rw [← f1, ← f2]; exact hq)
  · intro v h' tk hv hk
    have hsz : its.toArray.size = xs.length := by rw [hits]; simp; exact hlen
    have lx : ∀ i j, HT.lexLt [(g i).1, (g i).2] [(g j).1, (g j).2] = decide ((g i).1 < (g j).1 ∨ ((g i).1 = (g j).1 ∧ (g i).2 < (g j).2)) := fun i j => lex2 _ _ _ _
    obtain ⟨b1, b2⟩ := argBest_min (fun i j => HT.lexLt [(g i).1, (g i).2] [(g j).1, (g j).2]) (fun i j k h1 h2 => by
        rw [lx, decide_eq_false_iff_not] at h1 h2 ⊢; omega) (fun i j h => by
        rw [lx, decide_eq_true_eq] at h; rw [lx, decide_eq_false_iff_not]; omega) (fun i => by rw [lx, decide_eq_false_iff_not]; omega) (xs.length - 1)
    rw [hsz] at hv
    have hv : its[argBest (fun i j => HT.lexLt [(g i).1, (g i).2] [(g j).1, (g j).2]) (xs.length - 1)]? = some v := by simpa using hv
    generalize argBest (fun i j => HT.lexLt [(g i).1, (g i).2] [(g j).1, (g j).2]) (xs.length - 1) = m at hv b1 b2
    have hm : m < xs.length := by omega
    have em : xs[m]? = some xs[m] := List.getElem?_eq_getElem hm
    have eg : g m = xs[m] := by show xs[m]?.getD (0, 0) = _; rw [em]; rfl
    rw [hits, List.getElem?_map] at hv
    cases e : ps[m]? with
    | none => rw [e] at hv; cases hv
    | some p =>
      rw [e] at hv
      obtain rfl : v = Value.ref p := (Option.some.inj hv).symm
      have up : ∀ b o, s.heap.get? b = some o → h'.get? b = some o := fun b o e => hk b o (fun z => by have hb := Heap.lt_size e; rw [List.mem_singleton.mp z] at hb; exact Nat.lt_irrefl _ hb) (Heap.get?_push_of_some _ e)
      refine ⟨.ref p, H, I.kept up, rfl, q p xs[m] (hT m p _ e em) (List.getElem_mem hm) fun y hy => ?_⟩
      obtain ⟨j, hj, rfl⟩ := List.getElem_of_mem hy
      have := b2 j (by omega)
      rw [lx, decide_eq_false_iff_not] at this
      have eg2 : g j = xs[j] := by show xs[j]?.getD (0, 0) = _; rw [List.getElem?_eq_getElem hj]; rfl
      rw [eg, eg2] at this
      exact this
/-- list(range(..)) -/
def tLstRgN (te : L2.St → Hp → (Int → Int → Hp → Prop) → Prop) : TE := fun σ H Q => te σ H fun a b H1 => RgOk a b ∧ NewQ H1 (.lst (rgV a b)) Q
theorem pe_listRgN {e : Expr} {te : L2.St → Hp → (Int → Int → Hp → Prop) → Prop} {p pos : Pos} (hc : X.calm = true) (hg : Gl X "list") (hm : X.mg "list" = none) (he : PRg X e te) (na : starEach [e] X.env = (false, eval e X.env) :: starEach [] X.env := by rfl) :
    PE X (.Call (.Name "list" p) [e] [] pos) (tLstRgN te) := by
  refine ⟨fun pins s σ H Q I h => ?_⟩
  refine Call_ (ld_blt I hg hm boot_list (PyProof.Rows.callWith_type1 (args_cons (thn (he pins s σ H _ I h) fun x s1 hx => args_nil ?_) na) na))
  obtain ⟨r, a, b, t, u, v, H1, rfl, hr, I1, ⟨b1, b2, b3, b4, b5⟩, q⟩ := hx
  refine call_list_range (n := (b - a).toNat) (I1.ok.hd hc) hr (small_one b1 b2 b3 b4) (rangeSize_nat a b) b5 fun h' tk acc c' hk e' hi => ?_
  have ob : ObjOk X.prog X.w (upd H1 s1.heap.objs.size (.lst (rgV a b))) h' s1.heap.objs.size (.lst (rgV a b)) := ⟨by rw [rgV_length, sizeLine_eq]; omega, acc.toList, c', vals_rg hi, by rw [Array.toArray_toList]; exact e'⟩
  exact ⟨.ref s1.heap.objs.size, _, I1.laid hk (Nat.le_refl _) ob, rfl, q.use _ I1.fresh⟩
end
end Sv

set_option maxHeartbeats 4000000
namespace Sv
open PySem PySem.Spec PyProof.Rows L2 L2H HotX LamX
/-! ### the rules with the written part K told (so that a comprehension's reading is one for all its states) -/
section
variable {X : Cx} (K : PySem.W.Frag)
theorem ix_listK (h : X.K = K := by rfl) : IxR X (rIxL K) := h ▸ ix_list
theorem ix_tupK (h : X.K = K := by rfl) : IxR X (rIxT K) := h ▸ ix_tup
theorem op_in_seqK (h : X.K = K := by rfl) : OpR X (compareOp .In) (rIn K false) := h ▸ op_in_seq
theorem op_notIn_seqK (h : X.K = K := by rfl) : OpR X (compareOp .NotIn) (rIn K true) := h ▸ op_notIn_seq
def rLenS (K : PySem.W.Frag) : List V → Hp → VK → Prop := fun xs H Q => ∃ p ys, xs = [.ref p] ∧ (SqL K H p ys ∨ SqT K H p ys) ∧ Q (.int ys.length) H
theorem call_len_seqK (h : X.K = K := by rfl) : CallR X (.builtin "len") (rLenS K) := by subst h; exact call_len_seq
theorem op_eqAK (hu : X.A.units + 64 < cLine) (h : X.K = K := by rfl) : OpR X (compareOp .Eq) (rEqA K) := h ▸ op_eqA hu
theorem op_neAK (hu : X.A.units + 64 < cLine) (h : X.K = K := by rfl) : OpR X (compareOp .NotEq) (rNeA K) := h ▸ op_neA hu
theorem op_eqDK (hu : X.A.units + 64 < cLine) (h : X.K = K := by rfl) : OpR X (compareOp .Eq) (rEqD K) := h ▸ op_eqD hu
theorem op_neDK (hu : X.A.units + 64 < cLine) (h : X.K = K := by rfl) : OpR X (compareOp .NotEq) (rNeD K) := h ▸ op_neD hu
theorem call_isDK (h : X.K = K := by rfl) : CallR X (.builtin "isinstance") (rIsD K) := h ▸ call_isD
def rTupleN (K : PySem.W.Frag) : List V → Hp → VK → Prop := fun xs H Q => ∃ p ys, xs = [.ref p] ∧ SqL K H p ys ∧ NewQ H (.tup ys) Q
theorem call_tupleK (h : X.K = K := by rfl) : CallR X (.type "tuple") (rTupleN K) := by subst h; exact call_tupleN
def rListN (K : PySem.W.Frag) : List V → Hp → VK → Prop := fun xs H Q => ∃ p ys, xs = [.ref p] ∧ (SqL K H p ys ∨ SqT K H p ys) ∧ NewQ H (.lst ys) Q
theorem call_listK (h : X.K = K := by rfl) : CallR X (.type "list") (rListN K) := by subst h; exact call_listN
theorem sl_listK (h : X.K = K := by rfl) : SlR X (rSlLN K) := h ▸ sl_listN
/-- t + u of tuples -/
def rCatAN (K : PySem.W.Frag) : R2 := fun x y H Q => ∃ a b xs ys, x = .ref a ∧ y = .ref b ∧ SqT K H a xs ∧ SqT K H b ys ∧ xs.length + ys.length ≤ sizeLine ∧
  (∀ c H', Same H H' → SqT K H' c (xs ++ ys) → Q (.ref c) H')
theorem op_catAK (h : X.K = K := by rfl) : OpR X (binaryOp .Add) (rCatAN K) := by
  subst h
  refine OpR.imp op_catA fun x y H Q hh => ?_
  obtain ⟨a, b, xs, ys, e1, e2, h1, h2, h3, q⟩ := hh
  refine ⟨a, b, xs, ys, e1, e2, h1, h2, h3, fun e => ?_, fun _ e => ?_, fun _ _ p np => ?_⟩
  · subst e; exact q b H (Same.refl H) h2
  · subst e; exact q a H (Same.refl H) (by rw [List.append_nil]; exact h1)
  · exact q p _ (same_new np) (SqT.of upd_same)
/-- t[lo:hi] of a tuple -/
def rSlAN (K : PySem.W.Frag) : V → Option Int → Option Int → Hp → VK → Prop := fun x lo hi H Q => ∃ a xs, x = .ref a ∧ SqT K H a xs ∧ (∀ c H', Same H H' → SqT K H' c (cutV xs lo hi) → Q (.ref c) H')
theorem sl_tupK (h : X.K = K := by rfl) : SlR X (rSlAN K) := by
  subst h
  refine SlR.imp sl_tupA fun x lo hi H Q hh => ?_
  obtain ⟨a, xs, e1, h1, q⟩ := hh
  refine ⟨a, xs, e1, h1, fun e => ?_, fun _ p np => ?_⟩
  · refine q a H (Same.refl H) ?_
    have : cutV xs lo hi = xs := by
      unfold cutV
      rw [e.1, e.2, List.drop_zero, Nat.sub_zero, List.take_length]
    rw [this]; exact h1
  · exact q p _ (same_new np) (SqT.of upd_same)
theorem cr_anyK (hc : X.calm = true) (h : X.K = K := by rfl) : CallR X (.builtin "any") (rAny K) := h ▸ cr_any hc
theorem cr_allK (hc : X.calm = true) (h : X.K = K := by rfl) : CallR X (.builtin "all") (rAll K) := h ▸ cr_all hc
theorem cr_sumK (hc : X.calm = true) (h : X.K = K := by rfl) : CallR X (.builtin "sum") (rSum K) := h ▸ cr_sum hc
theorem cr_maxK (hc : X.calm = true) (h : X.K = K := by rfl) : CallR X (.builtin "max") (rMax K) := h ▸ cr_max hc
theorem cr_minK (hc : X.calm = true) (h : X.K = K := by rfl) : CallR X (.builtin "min") (rMin K) := h ▸ cr_min hc
theorem cr_minPK (hc : X.calm = true) (hu : X.A.units + 64 < cLine) (h : X.K = K := by rfl) : CallR X (.builtin "min") (rMinP K) := h ▸ cr_minP hc hu
theorem mt_indexK (h : X.K = K := by rfl) : MtR X "list.index" (rIndex K) := h ▸ mt_index
theorem pg_tupK {es : List Expr} {k : Nat} {t : TGs} {n : Nat} {pos : Pos} (hc : X.calm = true) (h : PGs X es t) (hn : (assignEach es X.env).length = n := by rfl) (hst : (assignEach es X.env).findIdx? (·.1) = none := by rfl) (he : X.K = K := by rfl) :
    PG X (.Tuple es k pos) (gTup K n t) := he ▸ pg_tup hc h hn hst
theorem pi_listK {tg l : Expr} {tl : TE} (hl : PE X l tl) (h : X.K = K := by rfl) : PI X tg l (iList K tl) := h ▸ pi_list hl
theorem pi_tupK {tg l : Expr} {tl : TE} (hl : PE X l tl) (h : X.K = K := by rfl) : PI X tg l (iTup K tl) := h ▸ pi_tup hl
theorem op_repTK (h : X.K = K := by rfl) : OpR X (binaryOp .Mult) (rRepT K) := h ▸ op_repT
/-! ### the law's own heap: tables of code objects beside the rest -/
theorem extN_ext {H H1 : Hp} (x : ExtN H H1) : Ext H H1 := ⟨fun b xs e => x b _ e (fun _ z => nomatch z), fun b o u e => x b _ e (fun _ z => nomatch z)⟩
theorem same_extN {H H1 : Hp} (x : Same H H1) : ExtN H H1 := fun b o e _ => x b o e
theorem tabs_keep {T : List (Addr × Str)} {H H' : Hp} {d : Addr} {xs : List V} (t : Tabs T H) (e : H d = some (.lst xs)) (k : ∀ b o, H b = some o → b ≠ d → H' b = some o) : Tabs T H' := fun p hp => by
  obtain ⟨ps, h1, h2, h3⟩ := t p hp
  refine ⟨ps, k _ _ h1 (ne_of h1 e fun z => nomatch z), h2, fun pos cv hc => ?_⟩
  obtain ⟨c, e1, e2⟩ := h3 pos cv hc
  exact ⟨c, e1, k _ _ e2 (ne_of e2 e fun z => nomatch z)⟩
/-- a list of ints against [] -/
theorem dpAll_intsL {H : Hp} : ∀ ns : List Int, DpAll K H (ns.map V.int) (ns.map PyData.int)
  | [] => .nil
  | n :: ns => .cons (.int n) (dpAll_intsL ns)
theorem lay_intsL : ∀ ns : List Int, PyData.canLayAll0 (ns.map PyData.int) = true
  | [] => rfl
  | n :: ns => by show (true && _) = true; rw [lay_intsL ns]; rfl
theorem depth_intsL : ∀ ns : List Int, PyData.depthAll (ns.map PyData.int) = 0
  | [] => rfl
  | n :: ns => by show max 0 _ = 0; rw [depth_intsL ns]; rfl
theorem shaped_intsL (ns : List Int) : SeqAt.shaped (.list (ns.map PyData.int)) = true := by
  unfold SeqAt.shaped
  rw [show PyData.canLay0 (.list (ns.map PyData.int)) = PyData.canLayAll0 (ns.map PyData.int) from rfl, lay_intsL, show PyData.depth (.list (ns.map PyData.int)) = PyData.depthAll (ns.map PyData.int) + 1 from rfl, depth_intsL]
  rfl
def rNeNil (K : PySem.W.Frag) : R2 := fun x y H Q => ∃ a b ns, x = .ref a ∧ y = .ref b ∧ SqL K H a (ns.map V.int) ∧ SqL K H b [] ∧ (ns = [] → Q (.bl false) H) ∧ (ns ≠ [] → Q (.bl true) H)
theorem op_neNilK (hu : X.A.units + 64 < cLine) (h : X.K = K := by rfl) : OpR X (compareOp .NotEq) (rNeNil K) := OpR.imp (op_neDK K hu h) fun x y H Q h => by
  obtain ⟨a, b, ns, rfl, rfl, h1, h2, q1, q2⟩ := h
  refine ⟨.list (ns.map PyData.int), .list [], .lst h1 (dpAll_intsL K ns), .lst h2 .nil, shaped_intsL ns, rfl, ?_⟩
  cases ns with
  | nil => exact q1 rfl
  | cons n t => exact q2 (fun z => nomatch z)
/-- a cut between two statements: what holds there is chosen -/
def tCut (t u : TS) : TS := fun D σ H => ∃ J : L2.St → Hp → Prop, t { D with nx := J } σ H ∧ ∀ σ' H', J σ' H' → u D σ' H'
theorem pss_cut {st : Stmt} {rest : List Stmt} {t u : TS} (h1 : PS X st t) (h2 : PSs X rest u) : PSs X (st :: rest) (tCut t u) := by
  refine ⟨fun pins s σ H D I h => ?_⟩
  obtain ⟨J, h, hJ⟩ := h
  refine wpAny_execs_cons (thn (h1.run pins s σ H { D with nx := J } I h) fun f s1 q => ?_)
  cases f with
  | next =>
    obtain ⟨σ', H', I', q⟩ := q
    exact h2.run pins s1 σ' H' D I' (hJ _ _ q)
  | ret v => exact q
  | brk => exact q
  | cont => exact q
end
end Sv

set_option maxHeartbeats 4000000
/-! ### enumerate over a tuple, over a text -/
namespace Sv
open PySem PySem.Spec PyProof.Rows L2 L2H HotX LamX
open Sem (wp)
open AutoSeq1 (wpAny_loadPart')
section
variable {prog : Program} {w : World} {A : Around} {E : Value → Shared → Prop} {s : Shared}
theorem nextOf_tuple_item {it t : Addr} {i : Nat} {items} {x : Value} {Q : Value → Shared → Prop} (hit : s.heap.IsTupleIter it t i) (ht : s.heap.IsTuple t items) (hx : items[i]? = some x)
    (hQ : ∀ h', h'.IsTupleIter it t (i + 1) → Heap.SameBut it s.heap h' → Q x { s with heap := h' }) :
    wpAny (model prog w) A (Builtin.SmallTypes.nextOf (.ref it)) Q E s := by
  obtain ⟨o, ho, hc, hd⟩ := id hit
  obtain ⟨ol, hol, _, nl, hdl⟩ := ht
  unfold Builtin.SmallTypes.nextOf
  refine wpAny_bind (wpAny_callSpecial?_slot (name := Str.ofString "__next__") hit.typeIs F.slot_tuple_iterator_next
    (wpAny_call_entry F.slot_tuple_iterator_next hit.typeIs F.entry_tuple_iterator_next ?_ (F.args_tuple_iterator_next_1 _)))
  show wpAny _ _ (field (.ref it) 0 >>= _) _ _ s
  refine wpAny_bind (wpAny_field ho hd (x := .ref t) rfl ?_)
  show wpAny _ _ (if (Value.ref t == Value.none) = true then _ else _) _ _ s
  rw [if_neg (show ¬ ((Value.ref t == Value.none) = true) from Bool.false_ne_true)]
  show wpAny _ _ (field (.ref it) 1 >>= _) _ _ s
  refine wpAny_bind (wpAny_field ho hd (x := .int i 0) rfl ?_)
  show wpAny _ _ (seqItems? (.ref t) >>= _) _ _ s
  refine wpAny_bind (wpAny_seqItems hol hdl ?_)
  simp only [Int.toNat_natCast, hx]
  refine wpAny_bind (wpAny_setField ho hd (by simp) (wpAny_pure ⟨x, rfl, wpAny_pure (hQ _ ?_ (Heap.SameBut.update ..))⟩))
  exact ⟨_, Heap.get?_update_self _ ho (Obj.isFreed_of_fields (Obj.data_mapFields hd _)), (Obj.cls_mapFields ..).trans hc, by
    rw [Obj.data_mapFields hd]; simp [rawInt]⟩
theorem nextOf_tuple_end {it t : Addr} {i : Nat} {items} {Q : Value → Shared → Prop} (hh : A.handled = none) (hit : s.heap.IsTupleIter it t i) (ht : s.heap.IsTuple t items) (hx : items[i]? = none)
    (hE : ∀ h' e, Heap.ExtBut it s.heap h' → (∃ o, h'.get? e = some o ∧ o.cls = .type "StopIteration") → E (.ref e) { s with heap := h' }) :
    wpAny (model prog w) A (Builtin.SmallTypes.nextOf (.ref it)) Q E s := by
  obtain ⟨o, ho, hc, hd⟩ := id hit
  obtain ⟨ol, hol, _, nl, hdl⟩ := ht
  unfold Builtin.SmallTypes.nextOf
  refine wpAny_bind (wpAny_callSpecial?_slot (name := Str.ofString "__next__") hit.typeIs F.slot_tuple_iterator_next
    (wpAny_call_entry F.slot_tuple_iterator_next hit.typeIs F.entry_tuple_iterator_next ?_ (F.args_tuple_iterator_next_1 _)))
  show wpAny _ _ (field (.ref it) 0 >>= _) _ _ s
  refine wpAny_bind (wpAny_field ho hd (x := .ref t) rfl ?_)
  show wpAny _ _ (if (Value.ref t == Value.none) = true then _ else _) _ _ s
  rw [if_neg (show ¬ ((Value.ref t == Value.none) = true) from Bool.false_ne_true)]
  show wpAny _ _ (field (.ref it) 1 >>= _) _ _ s
  refine wpAny_bind (wpAny_field ho hd (x := .int i 0) rfl ?_)
  show wpAny _ _ (seqItems? (.ref t) >>= _) _ _ s
  refine wpAny_bind (wpAny_seqItems hol hdl ?_)
  simp only [Int.toNat_natCast, hx]
  refine wpAny_bind (wpAny_rule (wpAny_bind (wpAny_setField ho hd (by simp) ?_)))
  show wpAny _ _ (newExc (.type "StopIteration") [] >>= _) _ _ _
  refine wpAny_bind ?_
  simp only [newExc, newTuple]
  refine wpAny_bind (wpAny_newObj_type ?_ (by size_fits))
  refine wpAny_bind (m := firstArgMember _ _) (wpAny_of_eq (a := Value.none) (by first | rfl | (simp only [firstArgMember]; rfl)) ?_)
  refine wpAny_newObj_type ?_ (by size_fits)
  simp only [raiseNew]
  refine wpAny_bind (wpAny_handled ?_)
  first | rw [show A.in1.handled = none from hh] | rw [hh]
  refine wpAny_bind (wpAny_pure (wpAny_throw ?_))
  exact hE _ _ (((Heap.SameBut.update ..).extBut.push _).push _) ⟨_, Heap.get?_push_size _ rfl, rfl⟩
end
theorem drawsT {prog : Program} {w : World} {A : Around} (hh : A.handled = none) (it l : Addr) (hne : l ≠ it) (items : Array Value) :
    Draws prog w A it [it, l] items.size (fun i v => items[i]? = some v) (fun i h => h.IsTupleIter it l i ∧ h.IsTuple l items) where
  live := fun _ _ st => let ⟨o, ho, _⟩ := st.1; ⟨o, ho⟩
  frame := fun _ _ _ st hk => ⟨let ⟨o, ho, r⟩ := st.1; ⟨o, hk it (by simp) o ho, r⟩, let ⟨o, ho, r⟩ := st.2; ⟨o, hk l (by simp) o ho, r⟩⟩
  item := fun i s Q E hi st hQ => by
    refine nextOf_tuple_item st.1 st.2 (x := items[i]) (by simp [hi]) fun h' hit' hs' => ?_
    exact hQ _ h' s.toks (by simp [hi]) ⟨hit', st.2.extBut hs'.extBut hne⟩ hs'
  done := fun s Q E st hE => nextOf_tuple_end hh st.1 st.2 (by simp) hE
theorem meets_enumT (l : Addr) (items : Array Value) (n : Nat) (dct : Option Addr) (sl : Array (Option Value)) :
    Meets (Builtin.«enumerate.__new__» ⟨[.type "enumerate", .ref l], []⟩) (fun _ R s => s.heap.get? l = some { cls := .type "tuple", dict := dct, data := .seq items n, slots := sl } ∧
      R (.ok (.ret (.ref (s.heap.push { cls := .type "tuple_iterator", data := .fields #[.ref l, .int 0 0] }).objs.size)))
        { s with heap := (s.heap.push { cls := .type "tuple_iterator", data := .fields #[.ref l, .int 0 0] }).push { cls := .type "enumerate", data := .fields #[.none, .bool false, .ref s.heap.objs.size, rawInt 0, .none, .none] } }) :=
  .of_wp fun prog w A R s h => by
    obtain ⟨hp, g, d, tk, os⟩ := s; obtain ⟨hl, h⟩ := h
    have hsub := sub_enumerate
    have hL : Heap.IsTuple (Shared.heap ⟨hp, g, d, tk, os⟩) l items := ⟨_, hl, rfl, n, rfl⟩
    wp_walk using wpAny_loadPart' hl
    refine wpAny_stack_any fun st => wpAny_pure ?_
    split
    · rename_i c _ _ _ _ _
      cases (c == Value.type "enumerate")
      · wp_walk using wpAny_loadPart' hl, wpAny_pyIter_tuple hL
        exact ⟨_, rfl, h⟩
      · wp_walk using wpAny_loadPart' hl, wpAny_pyIter_tuple hL
        exact ⟨_, rfl, h⟩
    · wp_walk using wpAny_loadPart' hl, wpAny_pyIter_tuple hL
      exact ⟨_, rfl, h⟩
section
variable {prog : Program} {w : World} {A : Around} {E : Value → Shared → Prop} {s : Shared}
theorem call_enumT {l : Addr} {items : Array Value} {Q : Value → Shared → Prop} (hL : s.heap.IsTuple l items)
    (h : ∀ h', IsEnum h' (s.heap.objs.size + 1) s.heap.objs.size 0 .none → h'.IsTupleIter s.heap.objs.size l 0 → h'.objs.size = s.heap.objs.size + 2 →
      (∀ b o, s.heap.get? b = some o → h'.get? b = some o) → Q (.ref (s.heap.objs.size + 1)) { s with heap := h' }) :
    wpAny (model prog w) A (call (.type "enumerate") [.ref l]) Q E s := by
  obtain ⟨⟨c, dct, dt, sl⟩, hl, hc, n, hd⟩ := hL
  replace hc : c = .type "tuple" := hc
  replace hd : dt = .seq items n := hd
  subst hc hd
  refine callType_new F.called_enumerate (by decide) (F.typeCall_enumerate_1 _) (F.newCall_enumerate_1 _) (fun obj => F.args_object_init_2 obj _) F.entry_enumerate_new
    (meets_enumT l items n dct sl) ⟨hl, ?_⟩
  have hz : (s.heap.push { cls := .type "tuple_iterator", data := .fields #[.ref l, .int 0 0] }).objs.size = s.heap.objs.size + 1 := Heap.size_push ..
  show _ ∧ _
  rw [hz]
  have he : IsEnum ((s.heap.push { cls := .type "tuple_iterator", data := .fields #[.ref l, .int 0 0] }).push
      { cls := .type "enumerate", data := .fields #[.none, .bool false, .ref s.heap.objs.size, rawInt 0, .none, .none] }) (s.heap.objs.size + 1) s.heap.objs.size 0 .none := by
    have := Heap.get?_push_size (s.heap.push { cls := .type "tuple_iterator", data := .fields #[.ref l, .int 0 0] })
      (o := { cls := .type "enumerate", data := .fields #[.none, .bool false, .ref s.heap.objs.size, rawInt 0, .none, .none] }) rfl
    rw [hz] at this; exact this
  refine ⟨⟨_, he, rfl⟩, h _ he ⟨_, Heap.get?_push_of_some _ (Heap.get?_push_size _ rfl), rfl, rfl⟩ (by rw [Heap.size_push, hz]) fun b o x => Heap.get?_push_of_some _ (Heap.get?_push_of_some _ x)⟩
end
/-- the pairs (i, the i-th item) while what stands is as S says; any inner iterator -/
theorem turn_enumD {P : Program} {w : World} {K : PySem.W.Frag} {elts : List Expr} {kk : Nat} {tpos : Pos} {J : It} {e it : Addr} {tn : Nat → Heap → Prop} (at_ : Nat → Hp → V → Prop) (len : Hp → Nat → Prop)
    (hJg : J.go = fun i H => ∃ n, len H n ∧ i < n) (hJy : J.yld = fun i H v H' => ∃ T x, v = .ref T ∧ H T = none ∧ H' = upd H T (.tup [.int (i : Nat), x]) ∧ at_ i H x) (hJs : J.stop = fun i H => len H i)
    (obj : ∀ i h, tn i h → ∃ o, h.get? it = some o ∧ ∀ v, o.data ≠ .cell v) (keep : ∀ i h h', tn i h → (∀ o, h.get? it = some o → h'.get? it = some o) → tn i h')
    (D : ∀ (X : Cx) (pins : List (Addr × Obj)) (s : Shared) (σ : L2.St) (H : Hp) (n : Nat), X.prog = P → X.w = w → X.K = K → X.A.handled = none → Inv X pins σ H s → len H n → ∃ (fp : List Addr) (Pv : Nat → Value → Prop) (St : Nat → Heap → Prop), Draws P w X.A.in1 it fp n Pv St ∧ (∀ i, tn i s.heap → St i s.heap) ∧ (∀ i h, St i h → tn i h) ∧
      (∀ b ∈ fp, b ≠ it → ∃ o, s.heap.get? b = some o ∧ o.cls ≠ .type "enumerate") ∧ ∀ i u, i < n → Pv i u → ∃ x, at_ i H x ∧ RelV x u) :
    Turn P w K (.Tuple elts kk tpos) J [e, it] e (fun i h => (∃ old, IsEnum h e it ((i : Nat) : Int) old) ∧ tn i h ∧ e ≠ it) where
  mem := by simp
  obj := fun i h st b hb => by
    obtain ⟨⟨old, he⟩, ht, _⟩ := st
    have e' : b = e ∨ b = it := by simpa using hb
    rcases e' with z | z
    · rw [z]; exact ⟨_, he, fun v q => nomatch q⟩
    · rw [z]; exact obj i h ht
  keep := fun i h h' st k => let ⟨⟨old, he⟩, hi, hne⟩ := st; ⟨⟨old, k e (by simp) _ he⟩, keep i h h' hi fun o q => k it (by simp) o q, hne⟩
  item := by
    intro X hP hw hK hc i pins s σ H E I hf st hg
    obtain ⟨⟨old, he⟩, hit, hne⟩ := st
    rw [hJg] at hg
    obtain ⟨n, hlen, hin⟩ := hg
    obtain ⟨fp, Pv, St, DD, h1, h2, h3, h4⟩ := D X pins s σ H n hP hw hK (I.ok.hd hc) I hlen
    subst hP hw hK
    have hef : e ∉ fp := fun z => by
      obtain ⟨o, eo, hcls⟩ := h3 e z hne
      rw [show s.heap.get? e = _ from he] at eo
      cases eo
      exact hcls rfl
    have hel : e < s.heap.objs.size := Heap.lt_size he
    have hil : it < s.heap.objs.size := by obtain ⟨_, q, _⟩ := obj i s.heap hit; exact Heap.lt_size q
    refine wpAny_pyNext_enum_itemD DD he (h1 i hit) hin hne hef fun u h' tk hPu ho hit' hT hsz hk => ?_
    obtain ⟨x, hx, ru⟩ := h4 i u hin hPu
    refine ⟨_, rfl, wpAny_letOwnedTupleGo_enum (s := { s with heap := h', toks := tk + 1 }) ho fun h'' he' sb => ?_⟩
    have hT2 : h''.get? s.heap.objs.size = some { cls := .type "tuple", data := .seq #[.int i tk, u] } := (sb.2 _ (Nat.ne_of_gt hel)).trans hT
    have new : ObjOk X.prog X.w (upd H s.heap.objs.size (.tup [.int (i : Nat), x])) h'' s.heap.objs.size (.tup [.int (i : Nat), x]) :=
      ⟨by show 2 ≤ sizeLine; decide, [.int i tk, u], .cons ⟨_, rfl⟩ (.cons ru .nil), ⟨_, hT2, rfl, _, rfl⟩⟩
    have I1 : Inv X pins σ (upd H s.heap.objs.size (.tup [.int (i : Nat), x])) { s with heap := h'', toks := tk + 1 } :=
      I.turnedNew (ch := [e, it]) (fun b ob hb q => (sb.2 b (fun z => hb (by simp [z]))).trans (hk b ob (fun z => hb (by simp [z])) (fun z => hb (by simp [z])) q)) hf (Nat.le_refl _) new
    refine ⟨.ref s.heap.objs.size, _, I1, rfl, ?_, ⟨⟨u, ?_⟩, keep _ _ _ (h2 _ _ hit') fun o q => (sb.2 it (Ne.symm hne)).trans q, hne⟩, fun b hb => ?_⟩
    · rw [hJy]
      exact ⟨_, x, rfl, I.hok.fresh (Nat.le_refl _), rfl, hx⟩
    · have e1 : ((i + 1 : Nat) : Int) = (i : Int) + 1 := by omega
      rw [e1]; exact he'
    · have hb' : b < s.heap.objs.size := by
        have e' : b = e ∨ b = it := by simpa using hb
        rcases e' with z | z
        · rw [z]; exact hel
        · rw [z]; exact hil
      rw [upd_ne (Nat.ne_of_lt hb')]
      exact (hf b hb).1
  done := by
    intro X hP hw hK hc i pins s σ H E I hf st hg
    obtain ⟨⟨old, he⟩, hit, hne⟩ := st
    rw [hJs] at hg
    obtain ⟨fp, Pv, St, DD, h1, h2, h3, h4⟩ := D X pins s σ H i hP hw hK (I.ok.hd hc) I hg
    subst hP hw hK
    obtain ⟨f0, f1, f2, f3, f4, f5⟩ := hf it (by simp)
    exact wpAny_pyNext_enum_endD DD he (h1 i hit) fun h' eb => ⟨rfl, I.turned (t' := s.toks) (fun b o hb q => eb b o hb q) f0 f1 f3 f4 f5⟩
  self := fun A i s Q E st h => let ⟨⟨_, he⟩, _⟩ := st; wpAny_pyIter_enum he h
/-- a tuple's items in new pairs -/
def atT (K : PySem.W.Frag) (a : Addr) (i : Nat) (H : Hp) (x : V) : Prop := ∀ xs, SqT K H a xs → xs[i]? = some x
def IteT (K : PySem.W.Frag) (a : Addr) : It :=
  ⟨fun i H => ∃ n, (∃ xs : List V, SqT K H a xs ∧ xs.length = n) ∧ i < n, fun i H v H' => ∃ T x, v = .ref T ∧ H T = none ∧ H' = upd H T (.tup [.int (i : Nat), x]) ∧ atT K a i H x, fun i H => ∃ xs : List V, SqT K H a xs ∧ xs.length = i⟩
theorem turn_enumT {P : Program} {w : World} {K : PySem.W.Frag} {elts : List Expr} {kk : Nat} {tpos : Pos} (a e it : Addr) (hai : a ≠ it) :
    Turn P w K (.Tuple elts kk tpos) (IteT K a) [e, it] e (fun i h => (∃ old, IsEnum h e it ((i : Nat) : Int) old) ∧ h.IsTupleIter it a i ∧ e ≠ it) := by
  refine turn_enumD (atT K a) (fun H n => ∃ xs : List V, SqT K H a xs ∧ xs.length = n) rfl rfl rfl (fun i h st => ?_) (fun i h h' st k => ?_) fun X pins s σ H n hP hw hK hh I hl => ?_
  · obtain ⟨o, ho, _, hd⟩ := st
    exact ⟨o, ho, fun v z => by rw [hd] at z; cases z⟩
  · obtain ⟨o, ho, r⟩ := st
    exact ⟨o, k o ho, r⟩
  · obtain ⟨xs, hq, rfl⟩ := hl
    subst hP hw hK
    obtain ⟨its, rv, p, hz⟩ := I.tuple hq
    have hl2 := rv.length
    have hsz : its.toArray.size = xs.length := by simp; omega
    have DD := drawsT (prog := X.prog) (w := X.w) (A := X.A.in1) hh it a hai its.toArray
    rw [hsz] at DD
    refine ⟨_, _, _, DD, fun i t => ⟨t, p⟩, fun i h t => t.1, fun b hb hbi => ?_, fun i u hi hu => ?_⟩
    · have : b = it ∨ b = a := by simpa using hb
      rcases this with z | z
      · exact absurd z hbi
      · obtain ⟨o, ho, hc, _⟩ := p
        exact ⟨o, by rw [z]; exact ho, by rw [hc]; exact fun q => absurd (Value.type.inj q) (by decide)⟩
    · have hu : its.toArray[i]? = some u := hu
      have hu' : its[i]? = some u := by simpa using hu
      obtain ⟨x, hx⟩ : ∃ x, xs[i]? = some x := ⟨xs[i], List.getElem?_eq_getElem hi⟩
      obtain ⟨u', hu2, ru⟩ := rv.get hx
      rw [hu'] at hu2
      cases hu2
      exact ⟨x, fun ys hy => by rw [I.tuple_inj hy hq]; exact hx, ru⟩
def iEnumT (K : PySem.W.Frag) (ta : TA) : TI := fun σ H R => ta σ H fun vs H1 => ∃ a xs, vs = [.ref a] ∧ SqT K H1 a xs ∧ R (IteT K a) H1
theorem pi_enumT (K : PySem.W.Frag) {X : Cx} {e : Expr} {ta : TA} {p pos tpos : Pos} {elts : List Expr} {kk : Nat} (hg : Gl X "enumerate") (hm : X.mg "enumerate" = none) (ha : PA X [e] ta) (hK : X.K = K := by rfl) (hs : starEach [e] X.env = [(false, eval e X.env)] := by rfl) :
    PI X (.Tuple elts kk tpos) (.Call (.Name "enumerate" p) [e] [] pos) (iEnumT K ta) := by
  subst hK
  refine ⟨fun pins s σ H R I h => ?_⟩
  refine Call_ (ld_blt I hg hm boot_enumerate (PyProof.Rows.callWith_type1 (thn (ha.run pos pins s σ H _ I h) fun us s1 ⟨vs, H1, I1, r1, q1⟩ => ?_) hs rfl))
  obtain ⟨a, xs, ex, hq, q⟩ := q1
  subst ex
  cases r1 with
  | cons r rr =>
    cases rr
    cases r
    obtain ⟨its, rv, p', hz⟩ := I1.tuple hq
    have hal : a < s1.heap.objs.size := by obtain ⟨o, ho, _⟩ := p'; exact Heap.lt_size ho
    refine call_enumT p' fun h' he hit hsz hk => wpAny_pyIter_enum he ?_
    have I2 : Inv X pins σ H1 { s1 with heap := h' } := I1.kept (t' := s1.toks) hk
    refine ⟨s1.heap.objs.size + 1, [s1.heap.objs.size + 1, s1.heap.objs.size], _, _, H1, rfl, I2, turn_enumT a (s1.heap.objs.size + 1) s1.heap.objs.size (Nat.ne_of_lt hal), ⟨⟨.none, he⟩, hit, Nat.succ_ne_self _⟩, fun b hb => ?_, q⟩
    have e' : b = s1.heap.objs.size + 1 ∨ b = s1.heap.objs.size := by simpa using hb
    have hle : s1.heap.objs.size ≤ b := by
      rcases e' with z | z
      · rw [z]; exact Nat.le_add_right _ _
      · rw [z]; exact Nat.le_refl _
    exact I1.fpOk hle (I1.hok.fresh hle)
/-- a text's signs in new pairs -/
def atS (x : Str) (i : Nat) (_ : Hp) (v : V) : Prop := ∃ c, x.cps[i]? = some c ∧ v = .str ⟨#[c]⟩
def IteS (x : Str) : It :=
  ⟨fun i H => ∃ n, x.cps.size = n ∧ i < n, fun i H v H' => ∃ T y, v = .ref T ∧ H T = none ∧ H' = upd H T (.tup [.int (i : Nat), y]) ∧ atS x i H y, fun i H => x.cps.size = i⟩
theorem turn_enumS {P : Program} {w : World} {K : PySem.W.Frag} {elts : List Expr} {kk : Nat} {tpos : Pos} (x : Str) (t : Tok) (e it : Addr) :
    Turn P w K (.Tuple elts kk tpos) (IteS x) [e, it] e (fun i h => (∃ old, IsEnum h e it ((i : Nat) : Int) old) ∧ h.IsStrIter it (strIterType x) x t i ∧ e ≠ it) := by
  refine turn_enumD (atS x) (fun H n => x.cps.size = n) rfl rfl rfl (fun i h st => ?_) (fun i h h' st k => ?_) fun X pins s σ H n hP hw hK hh I hl => ?_
  · obtain ⟨o, ho, _, hd⟩ := st
    exact ⟨o, ho, fun v z => by rw [hd] at z; cases z⟩
  · obtain ⟨o, ho, r⟩ := st
    exact ⟨o, k o ho, r⟩
  · subst hl
    have DD : ∃ (fp : List Addr), fp = [it] ∧ Draws P w X.A.in1 it fp x.cps.size (fun i v => ∃ c u, x.cps[i]? = some c ∧ v = .str ⟨#[c]⟩ u) (fun i h => h.IsStrIter it (strIterType x) x t i) := by
      refine ⟨_, rfl, ?_⟩
      cases ha : x.cps.all (· < 128)
      · rw [show strIterType x = "str_iterator" by simp [strIterType, ha]]
        exact Draws.strWide (A := X.A.in1) hh it x t
      · rw [show strIterType x = "str_ascii_iterator" by simp [strIterType, ha]]
        exact Draws.strAscii (A := X.A.in1) hh it x t
    obtain ⟨fp, rfl, DD⟩ := DD
    refine ⟨_, _, _, DD, fun i t => t, fun i h t => t, fun b hb hbi => absurd (List.mem_singleton.mp hb) hbi, fun i u hi hu => ?_⟩
    obtain ⟨c, t', hc, rfl⟩ := hu
    exact ⟨.str ⟨#[c]⟩, ⟨c, hc, rfl⟩, ⟨t', rfl⟩⟩
def iEnumS (ta : TA) : TI := fun σ H R => ta σ H fun vs H1 => ∃ x, vs = [.str x] ∧ R (IteS x) H1
theorem pi_enumS {X : Cx} {e : Expr} {ta : TA} {p pos tpos : Pos} {elts : List Expr} {kk : Nat} (hg : Gl X "enumerate") (hm : X.mg "enumerate" = none) (ha : PA X [e] ta) (hs : starEach [e] X.env = [(false, eval e X.env)] := by rfl) :
    PI X (.Tuple elts kk tpos) (.Call (.Name "enumerate" p) [e] [] pos) (iEnumS ta) := by
  refine ⟨fun pins s σ H R I h => ?_⟩
  refine Call_ (ld_blt I hg hm boot_enumerate (PyProof.Rows.callWith_type1 (thn (ha.run pos pins s σ H _ I h) fun us s1 ⟨vs, H1, I1, r1, q1⟩ => ?_) hs rfl))
  obtain ⟨x, ex, q⟩ := q1
  subst ex
  cases r1 with
  | cons r rr =>
    cases rr
    obtain ⟨t, rfl⟩ := r
    refine call_enumerate_str fun h' he hit hsz hk => wpAny_pyIter_enum he ?_
    have I2 : Inv X pins σ H1 { s1 with heap := h' } := I1.kept (t' := s1.toks) hk
    refine ⟨s1.heap.objs.size + 1, [s1.heap.objs.size + 1, s1.heap.objs.size], _, _, H1, rfl, I2, turn_enumS x t (s1.heap.objs.size + 1) s1.heap.objs.size, ⟨⟨.none, he⟩, hit, Nat.succ_ne_self _⟩, fun b hb => ?_, q⟩
    have e' : b = s1.heap.objs.size + 1 ∨ b = s1.heap.objs.size := by simpa using hb
    have hle : s1.heap.objs.size ≤ b := by
      rcases e' with z | z
      · rw [z]; exact Nat.le_add_right _ _
      · rw [z]; exact Nat.le_refl _
    exact I1.fpOk hle (I1.hok.fresh hle)
theorem walk_enumT {K : PySem.W.Frag} {a : Addr} {xs : List V} : Walk (IteT K a) xs.length (fun H => SqT K H a xs) (fun i H v H' => ∃ T x, v = .ref T ∧ H T = none ∧ Same H H' ∧ H' T = some (.tup [.int (i : Nat), x]) ∧ xs[i]? = some x) := by
  refine ⟨fun i H hi q => ⟨_, ⟨xs, q, rfl⟩, hi⟩, fun _ q => ⟨xs, q, rfl⟩, fun i H v H' _ q y => ?_⟩
  · obtain ⟨T, x, h1, h2, h3, h4⟩ := y
    exact ⟨T, x, h1, h2, by rw [h3]; exact same_new h2, by rw [h3]; exact upd_same, h4 xs q⟩
theorem walk_enumS {x : Str} : Walk (IteS x) x.cps.size (fun _ => True) (fun i H v H' => ∃ T c, v = .ref T ∧ H T = none ∧ Same H H' ∧ H' T = some (.tup [.int (i : Nat), .str ⟨#[c]⟩]) ∧ x.cps[i]? = some c) := by
  refine ⟨fun i H hi q => ⟨_, rfl, hi⟩, fun _ q => rfl, fun i H v H' _ q y => ?_⟩
  obtain ⟨T, y, h1, h2, h3, c, h4, rfl⟩ := y
  exact ⟨T, c, h1, h2, by rw [h3]; exact same_new h2, by rw [h3]; exact upd_same, h4⟩
theorem walk_enumL {K : PySem.W.Frag} {a : Addr} {xs : List V} : Walk (Ite K a) xs.length (fun H => SqL K H a xs) (fun i H v H' => ∃ T x, v = .ref T ∧ H T = none ∧ Same H H' ∧ H' T = some (.tup [.int (i : Nat), x]) ∧ xs[i]? = some x) := by
  refine walk_enum.mono (fun _ q => q) fun i H v H' _ _ y => ?_
  obtain ⟨T, x, y, h1, h2, h3, h4, h5⟩ := y
  cases h4
  exact ⟨T, y, h1, h2, by rw [h3]; exact same_new h2, by rw [h3]; exact upd_same, h5⟩
theorem pi_enumL (K : PySem.W.Frag) {X : Cx} {e : Expr} {ta : TA} {p pos tpos : Pos} {elts : List Expr} {kk : Nat} (hg : Gl X "enumerate") (hm : X.mg "enumerate" = none) (ha : PA X [e] ta) (hK : X.K = K := by rfl) (hs : starEach [e] X.env = [(false, eval e X.env)] := by rfl) :
    PI X (.Tuple elts kk tpos) (.Call (.Name "enumerate" p) [e] [] pos) (iEnum K ta) := hK ▸ pi_enum hg hm ha hs
end Sv

set_option maxHeartbeats 4000000
/-! ### dicts with ints and texts for keys -/
namespace Sv
open PySem PySem.Spec PyProof.Rows L2 L2H HotX LamX
section
variable {X : Cx}
def rDIn (neg : Bool) : R2 := fun x y H Q => ∃ a o, y = .ref a ∧ DGet H a x o ∧ Q (.bl (if neg then !o.isSome else o.isSome)) H
theorem op_din (hu : X.A.units + 1 < cLine) : OpR X (compareOp .In) (rDIn false) := by
  intro pins s σ H x y v u Q I rx ry h
  obtain ⟨a, o, rfl, g, q⟩ := h
  cases ry
  exact d_in hu I g rx fun s3 I3 => ⟨.bl o.isSome, H, I3, rfl, q⟩
theorem op_dnotin (hu : X.A.units + 1 < cLine) : OpR X (compareOp .NotIn) (rDIn true) := by
  intro pins s σ H x y v u Q I rx ry h
  obtain ⟨a, o, rfl, g, q⟩ := h
  cases ry
  exact d_notIn hu I g rx fun s3 I3 => ⟨.bl (!o.isSome), H, I3, rfl, q⟩
end
theorem same_put {H H1 : Hp} (s : Same H H1) {a : Addr} {o : HO} (n : H a = none) : Same H (upd H1 a o) := fun b u e => by
  rw [upd_ne (ne_of_none e n)]; exact s b u e
end Sv

set_option maxHeartbeats 4000000
/-! ### texts; statements that let no exception out -/
namespace Sv
open PySem PySem.Spec PyProof.Rows L2 L2H HotX LamX
section
variable {X : Cx}
theorem psNox {st : Stmt} {t : TS} (h : PS X.nox st t) : PS X st t := ⟨fun pins s σ H D I hw => wpAny_mono (h.run pins s σ H D (I.wish _) hw) (fun _ _ q => q.unwish) fun _ _ z => False.elim z⟩
def repS (z : Str) (n : Nat) : Str := ⟨(List.replicate n z.cps).foldl (· ++ ·) #[]⟩
theorem foldl_size (l : List (Array Nat)) (m k : Nat) (h : ∀ a ∈ l, a.size = k) (acc : Array Nat) (ha : acc.size = m) : (l.foldl (· ++ ·) acc).size = m + l.length * k := by
  induction l generalizing acc m with
  | nil => simp [ha]
  | cons a l ih =>
    rw [List.foldl_cons, ih (m + k) (fun b hb => h b (List.mem_cons_of_mem _ hb)) (acc ++ a) (by rw [Array.size_append, ha, h a (List.mem_cons_self ..)]), List.length_cons, Nat.add_mul]
    omega
theorem repS_len (z : Str) (n : Nat) : (repS z n).length = n * z.length := by
  show ((List.replicate n z.cps).foldl (· ++ ·) #[]).size = _
  rw [foldl_size _ 0 z.cps.size (fun a ha => by rw [List.eq_of_mem_replicate ha]) #[] rfl, List.length_replicate, Nat.zero_add]
  rfl
theorem op_mul_str : OpR X (binaryOp .Mult) (fun x y H Q => ∃ (z : Str) (n : Nat), x = .str z ∧ y = .int (n : Int) ∧ 2 ≤ n ∧ n ≤ 1000 ∧ 1 ≤ z.length ∧ z.length ≤ 1000 ∧ Q (.str (repS z n)) H) := by
  intro pins s σ H x y v u Q I rx ry h
  obtain ⟨z, n, rfl, rfl, h2, h3, h4, h5, q⟩ := h
  obtain ⟨t, rfl⟩ := rx
  obtain ⟨t', rfl⟩ := ry
  have hm : z.length * (n : Int).toNat ≤ 1000000 := by
    rw [Int.toNat_natCast]
    exact Nat.le_trans (Nat.mul_le_mul h5 h3) (by decide)
  refine P.mul_str ?_ (fun _ _ => ?_) (fun _ _ => ?_) ?_
  · rw [decide_eq_false (show ¬ (n : Int) < -(2 ^ 63) by omega), decide_eq_false (show ¬ (n : Int) ≥ 2 ^ 63 by omega)]; rfl
  · have h7 : (1000 : Int) ≤ (2 ^ 63 - 1) / n := by
      rw [Int.le_ediv_iff_mul_le (by omega)]
      omega
    omega
  · exact decide_eq_false (by rw [sizeLine_eq]; omega)
  · rw [if_neg (show ¬ (n : Int) < 1 by omega), if_neg]
    · refine ⟨?_, ⟨.str (repS z n), H, I.tok _, ⟨_, rfl⟩, q⟩⟩
      show (repS z n).length ≤ sizeLine
      rw [repS_len, Nat.mul_comm, sizeLine_eq]
      rw [Int.toNat_natCast] at hm
      omega
    · rw [beq_eq_false_iff_ne.mpr (show (n : Int) ≠ 1 by omega), beq_eq_false_iff_ne.mpr (show z.length ≠ 0 by omega)]; decide
end
end Sv

set_option maxHeartbeats 4000000
/-! ### dicts whose keys are tuples of any depth (below 9) -/
namespace Sv
open PySem PySem.Spec PyProof.Rows L2 L2H HotX LamX
mutual
def nk : PyData → NestedKey
  | .int i => .num i
  | .str x => .text x
  | .tuple ds => .tup (nkAll ds)
  | .none => .none
  | .bool _ => .none
  | .list _ => .none
  | .dict _ => .none
def nkAll : List PyData → List NestedKey
  | [] => []
  | d :: ds => nk d :: nkAll ds
end
mutual
theorem nk_inj : ∀ d e : PyData, pl d = true → pl e = true → nk d = nk e → d = e
  | .none, .none, _, _, _ => rfl
  | .int i, .int j, _, _, h => by simp only [nk, NestedKey.num.injEq] at h; rw [h]
  | .str i, .str j, _, _, h => by simp only [nk, NestedKey.text.injEq] at h; rw [h]
  | .tuple ds, .tuple es, h1, h2, h => by
    simp only [nk, NestedKey.tup.injEq] at h
    rw [pl] at h1 h2
    rw [nkAll_inj _ _ h1 h2 h]
  | .none, .int _, _, _, h | .none, .str _, _, _, h | .none, .tuple _, _, _, h | .int _, .none, _, _, h | .int _, .str _, _, _, h | .int _, .tuple _, _, _, h
  | .str _, .none, _, _, h | .str _, .int _, _, _, h | .str _, .tuple _, _, _, h | .tuple _, .none, _, _, h | .tuple _, .int _, _, _, h | .tuple _, .str _, _, _, h => by simp [nk] at h
  | .bool _, _, h1, _, _ | .list _, _, h1, _, _ | .dict _, _, h1, _, _ => by simp [pl] at h1
  | _, .bool _, _, h1, _ | _, .list _, _, h1, _ | _, .dict _, _, h1, _ => by simp [pl] at h1
theorem nkAll_inj : ∀ d e : List PyData, plAll d = true → plAll e = true → nkAll d = nkAll e → d = e
  | [], [], _, _, _ => rfl
  | [], _ :: _, _, _, h => by simp [nkAll] at h
  | _ :: _, [], _, _, h => by simp [nkAll] at h
  | d :: ds, e :: es, h1, h2, h => by
    rw [plAll, Bool.and_eq_true] at h1 h2
    simp only [nkAll, List.cons.injEq] at h
    rw [nk_inj d e h1.1 h2.1 h.1, nkAll_inj ds es h1.2 h2.2 h.2]
end
mutual
theorem nk_depth : ∀ d : PyData, (nk d).depth ≤ d.depth
  | .none => by simp [nk, NestedKey.depth]
  | .int i => by simp [nk, NestedKey.depth]
  | .str i => by simp [nk, NestedKey.depth]
  | .bool _ => by simp [nk, NestedKey.depth]
  | .list _ => by simp [nk, NestedKey.depth]
  | .dict _ => by simp [nk, NestedKey.depth]
  | .tuple ds => by
    have := nkAll_depth ds
    simp only [nk, NestedKey.depth, PyData.depth]
    omega
theorem nkAll_depth : ∀ ds : List PyData, NestedKey.depthAll (nkAll ds) ≤ PyData.depthAll ds
  | [] => by simp [nkAll, NestedKey.depthAll]
  | d :: ds => by
    have h1 := nk_depth d
    have h2 := nkAll_depth ds
    simp only [nkAll, NestedKey.depthAll, PyData.depthAll]
    omega
end
mutual
theorem nested_of {h : Heap} : ∀ (d : PyData) (u : Value) (as : List Addr), pl d = true → Reads h u d as → NestedIs h (nk d) u
  | .none, _, _, _, r => by cases r; exact .none
  | .int i, _, _, _, r => by cases r; exact .int _ _
  | .str i, _, _, _, r => by cases r; exact .text _ _
  | .tuple ds, _, _, hp, r => by
    rw [pl] at hp
    cases r with
    | tuple h1 h2 h3 h4 => exact .tup h1 h2 h3 (nestedAll_of ds _ _ hp h4)
  | .bool _, _, _, h1, _ | .list _, _, _, h1, _ | .dict _, _, _, h1, _ => by simp [pl] at h1
theorem nestedAll_of {h : Heap} : ∀ (ds : List PyData) (us : List Value) (as : List Addr), plAll ds = true → ReadsAll h us ds as → NestedAll h (nkAll ds) us
  | [], _, _, _, r => by cases r; exact .nil
  | d :: ds, _, _, hp, r => by
    rw [plAll, Bool.and_eq_true] at hp
    cases r with
    | cons r1 r2 => exact .cons (nested_of d _ _ hp.1 r1) (nestedAll_of ds _ _ hp.2 r2)
end
/-- a list without doubles, all of it in another one -/
theorem nodup_le {κ : Type} [DecidableEq κ] : ∀ {l m : List κ}, l.Nodup → (∀ x ∈ l, x ∈ m) → l.length ≤ m.length
  | [], _, _, _ => Nat.zero_le _
  | x :: l, m, hn, hs => by
    rw [List.nodup_cons] at hn
    have hm : x ∈ m := hs x (List.mem_cons_self ..)
    have h1 := nodup_le (l := l) (m := m.erase x) hn.2 fun y hy => by
      have hy2 := hs y (List.mem_cons_of_mem _ hy)
      have hne : y ≠ x := fun z => hn.1 (z ▸ hy)
      exact (List.mem_erase_of_ne hne).mpr hy2
    have h2 := List.length_erase_of_mem hm
    have h3 : 0 < m.length := List.length_pos_of_mem hm
    rw [List.length_cons]
    omega
abbrev NX := List (NestedKey × Addr × Value)
/-- the dict at a, by its entries -/
def NDictO (P : Program) (w : World) (a : Addr) (xs : NX) : HO := .ext fun h => xs.length ≤ sizeLine ∧ (a == sysModules) = false ∧ ∃ o es ep, h.get? a = some o ∧ o.ExactDict ∧ o.data = .dict es ep ∧ es.toList = xs.map (entryOfKey (nestedKind P w)) ∧ (xs.map (·.1)).Nodup
theorem ndict_tup {P : Program} {w : World} {a : Addr} {xs : NX} {l : List V} (z : NDictO P w a xs = .tup l) : False := by
  unfold NDictO at z; cases z
theorem ndict_frz {P : Program} {w : World} {a : Addr} {xs : NX} {o : Obj} {l : HO} (z : NDictO P w a xs = .frz o l) : False := by
  unfold NDictO at z; cases z
def putD (D : NestedKey → Option V) (k : NestedKey) (v : V) : NestedKey → Option V := fun j => if j = k then some v else D j
/-- the dict at a holds D -/
def NDat (P : Program) (w : World) (K : PySem.W.Frag) (H : Hp) (a : Addr) (D : NestedKey → Option V) : Prop :=
  ∃ xs : NX, H a = some (NDictO P w a xs) ∧ (∀ x ∈ xs, ∃ d, nk d = x.1 ∧ At K H (.ref x.2.1) d ∧ d.depth ≤ 8) ∧ ∀ k, RelO (D k) ((atKey xs k).map (·.2))
section
variable {P : Program} {w : World} {K : PySem.W.Frag} {H H' : Hp} {a : Addr} {D : NestedKey → Option V}
theorem NDat.keep (h : NDat P w K H a D) (e : H' a = H a) (x : Ext H H') : NDat P w K H' a D := by
  obtain ⟨xs, h1, h2, h3⟩ := h
  refine ⟨xs, by rw [e]; exact h1, fun y hy => ?_, h3⟩
  obtain ⟨d, e1, e2, e3⟩ := h2 y hy
  exact ⟨d, e1, e2.ext x, e3⟩
theorem NDat.same (h : NDat P w K H a D) (s : Same H H') : NDat P w K H' a D := by
  have h' := h
  obtain ⟨xs, h1, _⟩ := h'
  exact h.keep (by rw [h1]; exact s _ _ h1) (Same.ext s)
theorem NDat.isExt (h : NDat P w K H a D) : ∃ φ, H a = some (.ext φ) := by
  obtain ⟨xs, h1, _⟩ := h
  exact ⟨_, h1⟩
theorem NDat.extN (h : NDat P w K H a D) (s : ExtN H H') : NDat P w K H' a D := by
  have h' := h
  obtain ⟨xs, h1, _⟩ := h'
  exact h.keep (by rw [h1]; exact s _ _ h1 (fun _ z => by unfold NDictO at z; cases z)) (extN_ext s)
theorem atKey_mem {xs : NX} {k : NestedKey} {p : Addr × Value} (h : atKey xs k = Option.some p) : (k, p) ∈ xs := by
  unfold atKey at h
  rw [Option.map_eq_some_iff] at h
  obtain ⟨x, h1, h2⟩ := h
  have h3 := List.find?_some h1
  have h4 := List.mem_of_find?_eq_some h1
  have h5 : x.1 = k := of_decide_eq_true h3
  have : x = (k, p) := by rw [← h5, ← h2]
  rw [← this]; exact h4
theorem mem_atKey {xs : NX} {x : NestedKey × Addr × Value} (h : x ∈ xs) : (atKey xs x.1).isSome = true := by
  unfold atKey
  rw [Option.isSome_map]
  rw [List.find?_isSome]
  exact ⟨x, h, decide_eq_true rfl⟩
theorem atKey_stored (xs : NX) (k j : NestedKey) (b : Addr) (u : Value) : (atKey (storedH xs k b u) j).map (·.2) = if j = k then Option.some u else (atKey xs j).map (·.2) := by
  rw [← valueAt_pairsH, pairsH_storedH, ← valueAt_pairsH]
  have e : ∀ l : List (NestedKey × Value), valueAt (stored l k u) j = if j = k then Option.some u else valueAt l j := by
    intro l
    unfold stored valueAt
    by_cases hk : (l.any fun kv => decide (kv.1 = k)) = true
    · rw [if_pos hk]
      induction l with
      | nil => simp at hk
      | cons p r ih =>
        rw [List.map_cons, List.find?_cons, List.find?_cons]
        by_cases e1 : p.1 = k
        · rw [if_pos e1]
          by_cases e2 : j = k
          · rw [if_pos e2, decide_eq_true (show (p.1, u).1 = j by rw [e2]; exact e1)]; rfl
          · rw [if_neg e2, decide_eq_false (show ¬ (p.1, u).1 = j from fun z => e2 (z.symm.trans e1))]
            by_cases e3 : (r.any fun kv => decide (kv.1 = k)) = true
            · have := ih e3; rw [if_neg e2] at this; exact this
            · have : r.map (fun kv => if kv.1 = k then (kv.1, u) else kv) = r := by
                have hx : ∀ x ∈ r, ¬ x.1 = k := fun x hx z => e3 (List.any_eq_true.mpr ⟨x, hx, decide_eq_true z⟩)
                clear ih hk e3
                induction r with
                | nil => rfl
                | cons q t ih2 => rw [List.map_cons, if_neg (hx q (List.mem_cons_self ..)), ih2 fun x h => hx x (List.mem_cons_of_mem _ h)]
              rw [this]
        · rw [if_neg e1]
          rw [List.any_cons, decide_eq_false e1, Bool.false_or] at hk
          have := ih hk
          by_cases e2 : p.1 = j
          · rw [decide_eq_true e2, if_neg (fun z => e1 (e2.trans z))]
          · rw [decide_eq_false e2]; exact this
    · rw [if_neg hk, List.find?_append]
      by_cases e2 : j = k
      · rw [if_pos e2, e2]
        have : (l.find? fun kv => decide (kv.1 = k)) = none := by
          rw [List.find?_eq_none]
          intro x hx hz
          exact hk (List.any_eq_true.mpr ⟨x, hx, hz⟩)
        rw [this, Option.none_or, List.find?_cons, decide_eq_true rfl]; rfl
      · rw [if_neg e2, List.find?_cons, decide_eq_false (fun z => e2 z.symm)]
        cases l.find? fun kv => decide (kv.1 = j) <;> rfl
  exact e _
theorem mem_stored {xs : NX} {k : NestedKey} {b : Addr} {u : Value} {x : NestedKey × Addr × Value} (h : x ∈ storedH xs k b u) : (∃ y ∈ xs, y.1 = x.1 ∧ y.2.1 = x.2.1) ∨ (x.1 = k ∧ x.2.1 = b) := by
  unfold storedH at h
  split at h
  · obtain ⟨y, hy, rfl⟩ := List.mem_map.mp h
    refine .inl ⟨y, hy, ?_⟩
    unfold putAt
    split <;> exact ⟨rfl, rfl⟩
  · rcases List.mem_append.mp h with h | h
    · exact .inl ⟨x, h, rfl, rfl⟩
    · rw [List.mem_singleton.mp h]; exact .inr ⟨rfl, rfl⟩
theorem stored_len {xs : NX} {k : NestedKey} {b : Addr} {u : Value} : (storedH xs k b u).length ≤ xs.length + 1 := by
  unfold storedH
  split
  · rw [List.length_map]; omega
  · rw [List.length_append]; exact Nat.le_refl _
end
section
variable {X : Cx} {pins : List (Addr × Obj)} {σ : L2.St} {H : Hp} {s : Shared} {a : Addr} {y v : V} {u r : Value} {A : Around} {E : Value → Shared → Prop} {D : NestedKey → Option V} {d : PyData}
theorem key_is {ds : List PyData} (I : Inv X pins σ H s) (h : At X.K H y (.tuple ds)) (hd : (PyData.tuple ds).depth ≤ 8) (ry : RelV y u) : ∃ b, u = .ref b ∧ y = .ref b ∧ (nestedKind X.prog X.w).is s.heap (nk (.tuple ds)) b := by
  obtain ⟨as, hr⟩ := Dp.reads I _ _ _ h.2 ry
  obtain ⟨b, vs, rfl, _, _⟩ := h.inv
  cases (show u = Value.ref b from ry)
  exact ⟨b, rfl, rfl, nested_of _ _ _ h.1 hr, Nat.le_trans (nk_depth _) hd⟩
theorem key_is' (I : Inv X pins σ H s) {b : Addr} (h : At X.K H (.ref b) d) (hd : d.depth ≤ 8) : (nestedKind X.prog X.w).is s.heap (nk d) b := by
  obtain ⟨as, hr⟩ := Dp.reads I _ _ (.ref b) h.2 rfl
  exact ⟨nested_of _ _ _ h.1 hr, Nat.le_trans (nk_depth _) hd⟩
theorem NDat.dict (I : Inv X pins σ H s) (h : NDat X.prog X.w X.K H a D) : ∃ xs : NX, H a = some (NDictO X.prog X.w a xs) ∧ xs.length ≤ sizeLine ∧ (a == sysModules) = false ∧ s.heap.DictOfH (nestedKind X.prog X.w) a xs ∧ (∀ x ∈ xs, ∃ d, nk d = x.1 ∧ At X.K H (.ref x.2.1) d ∧ d.depth ≤ 8) ∧ (∀ k, RelO (D k) ((atKey xs k).map (·.2))) ∧ (xs.map (·.1)).Nodup := by
  obtain ⟨xs, h1, h2, h3⟩ := h
  obtain ⟨⟨z, hd, o, es, ep, q1, q2, q3, q4, q5⟩, _, _⟩ := I.hok a _ h1
  refine ⟨xs, h1, z, hd, ⟨o, es, ep, q1, q2, q3, q4, fun x hx => ?_, q5⟩, h2, h3, q5⟩
  obtain ⟨d, e1, e2, e3⟩ := h2 x hx
  rw [← e1]
  exact key_is' I e2 e3
/-- y in d -/
def rNIn (P : Program) (w : World) (K : PySem.W.Frag) (neg : Bool) : R2 := fun x y H Q => ∃ a D ds, y = .ref a ∧ NDat P w K H a D ∧ At K H x (.tuple ds) ∧ (PyData.tuple ds).depth ≤ 8 ∧ Q (.bl (neg != (D (nk (.tuple ds))).isSome)) H
theorem op_nin {P : Program} {w : World} {K : PySem.W.Frag} (hu : X.A.units + 64 < cLine) (hP : X.prog = P := by rfl) (hw : X.w = w := by rfl) (hK : X.K = K := by rfl) : OpR X (compareOp .In) (rNIn P w K false) := by
  subst hP hw hK
  intro pins s σ H x y v u Q I rx ry h
  obtain ⟨a, D, ds, rfl, hd, hx, hdp, q⟩ := h
  cases (show u = Value.ref a from ry)
  obtain ⟨b, rfl, _, hk⟩ := key_is I hx hdp rx
  obtain ⟨xs, _, _, hs, dd, _, rel, _⟩ := hd.dict I
  refine wpAny_in_heap (knd := nestedKind X.prog X.w) (show X.A.units + 1 + 8 < cLine by omega) hk hs dd ?_
  have e := (rel (nk (.tuple ds))).isSome_eq
  rw [Option.isSome_map] at e
  rw [← e]
  refine ⟨.bl (D (nk (.tuple ds))).isSome, H, I.tok _, rfl, ?_⟩
  have e2 : (false != (D (nk (.tuple ds))).isSome) = (D (nk (.tuple ds))).isSome := by cases (D (nk (.tuple ds))).isSome <;> rfl
  rw [← e2]; exact q
theorem op_nnotin {P : Program} {w : World} {K : PySem.W.Frag} (hu : X.A.units + 64 < cLine) (hP : X.prog = P := by rfl) (hw : X.w = w := by rfl) (hK : X.K = K := by rfl) : OpR X (compareOp .NotIn) (rNIn P w K true) := by
  subst hP hw hK
  intro pins s σ H x y v u Q I rx ry h
  obtain ⟨a, D, ds, rfl, hd, hx, hdp, q⟩ := h
  cases (show u = Value.ref a from ry)
  obtain ⟨b, rfl, _, hk⟩ := key_is I hx hdp rx
  obtain ⟨xs, _, _, hs, dd, _, rel, _⟩ := hd.dict I
  refine wpAny_notIn_heap (knd := nestedKind X.prog X.w) (show X.A.units + 1 + 8 < cLine by omega) hk hs dd ?_
  have e := (rel (nk (.tuple ds))).isSome_eq
  rw [Option.isSome_map] at e
  rw [← e]
  refine ⟨.bl (!(D (nk (.tuple ds))).isSome), H, I.tok _, rfl, ?_⟩
  have e2 : (true != (D (nk (.tuple ds))).isSome) = !(D (nk (.tuple ds))).isSome := by cases (D (nk (.tuple ds))).isSome <;> rfl
  rw [← e2]; exact q
/-- d[y], there -/
def tNGet (P : Program) (w : World) (K : PySem.W.Frag) (td ty : TE) : TE := fun σ H Q => td σ H fun x H1 => ty σ H1 fun y H2 => ∃ a D ds v, x = .ref a ∧ NDat P w K H2 a D ∧ At K H2 y (.tuple ds) ∧ (PyData.tuple ds).depth ≤ 8 ∧ D (nk (.tuple ds)) = some v ∧ Q v H2
theorem pe_nget {P : Program} {w : World} {K : PySem.W.Frag} {o i : Expr} {pos : Pos} {td ty : TE} (hu : X.A.units + 64 < cLine) (ho : PE X o td) (hi : PE X i ty) (hs : NoSl i) (hP : X.prog = P := by rfl) (hw : X.w = w := by rfl) (hK : X.K = K := by rfl) : PE X (.Subscript o i pos) (tNGet P w K td ty) := by
  subst hP hw hK
  refine ⟨fun pins s σ H Q I h => ?_⟩
  refine subD_of PySem.F.slot_dict_getitem.lookup hs (thn (ho.run pins s σ H _ I h) fun u s1 ⟨x, H1, I1, rx, q1⟩ => thn (hi.run pins s1 σ H1 _ I1 q1) fun iv s2 ⟨y, H2, I2, ry, a, D, ds, v, ex, hd, hx, hdp, hv, q2⟩ => ?_)
  subst ex
  obtain rfl : u = Value.ref a := rx
  obtain ⟨b, rfl, _, hk⟩ := key_is I2 hx hdp ry
  obtain ⟨xs, _, _, _, dd, _, rel, _⟩ := hd.dict I2
  obtain ⟨w', hw, rw'⟩ := RelO.some_of (v := v) (o := (atKey xs (nk (.tuple ds))).map (·.2)) (by rw [← hv]; exact rel _)
  obtain ⟨p, hp, hp2⟩ := Option.map_eq_some_iff.mp hw
  refine ⟨dd.typeIs, wpAny_getItem_heap (knd := nestedKind X.prog X.w) (show X.A.units + 1 + 8 < cLine by omega) hk dd hp ?_⟩
  rw [hp2]
  exact ⟨v, H2, I2.tok _, rw', q2⟩
/-- d[y] = v; L: the keys that there may be -/
def sNPut (P : Program) (w : World) (K : PySem.W.Frag) (td ty tv : TE) : TS := fun Dn σ H => tv σ H fun v H1 => td σ H1 fun x H2 => ty σ H2 fun y H3 => ∃ a D ds, x = .ref a ∧ NDat P w K H3 a D ∧ At K H3 y (.tuple ds) ∧ (PyData.tuple ds).depth ≤ 8 ∧
  (∃ L : List NestedKey, (∀ k, (D k).isSome = true → k ∈ L) ∧ L.length < sizeLine) ∧ ∀ H4, (∀ b, b ≠ a → H4 b = H3 b) → Ext H3 H4 → NDat P w K H4 a (putD D (nk (.tuple ds)) v) → Dn.nx σ H4
theorem ps_nput {P : Program} {w : World} {K : PySem.W.Frag} {o i value : Expr} {pos pos' : Pos} {td ty tv : TE} (hu : X.A.units + 64 < cLine) (ho : PE X o td) (hi : PE X i ty) (hv : PE X value tv) (hs : swapsWith value (some (.Subscript o i pos')) pos.line X.env = pure false)
    (hP : X.prog = P := by rfl) (hw : X.w = w := by rfl) (hK : X.K = K := by rfl) : PS X (.Assign [.Subscript o i pos'] value pos) (sNPut P w K td ty tv) := by
  subst hP hw hK
  refine ⟨fun pins s σ H Dn I h => ?_⟩
  refine wpAny_Assign_Subscript (thn (hv.run pins s σ H _ I h) fun r s1 ⟨v, H1, I1, rv, q1⟩ => thn (ho.run pins s1 σ H1 _ I1 q1) fun u s2 ⟨x, H2, I2, rx, q2⟩ => thn (hi.run pins s2 σ H2 _ I2 q2) fun iv s3 ⟨y, H3, I3, ry, a, D, ds, ex, hd, hx, hdp, ⟨L, hL, hLn⟩, q3⟩ => ?_) hs
  subst ex
  obtain rfl : u = Value.ref a := rx
  obtain ⟨b, rfl, rfl, hk⟩ := key_is I3 hx hdp ry
  obtain ⟨xs, eA, hz, hsy, dd, hks, rel, hnd⟩ := hd.dict I3
  have hlen : xs.length ≤ L.length := by
    rw [← List.length_map (f := (·.1)) (as := xs)]
    refine nodup_le hnd fun k hk => ?_
    obtain ⟨x, hx, rfl⟩ := List.mem_map.mp hk
    refine hL _ ?_
    have e := (rel x.1).isSome_eq
    rw [Option.isSome_map] at e
    rw [e]; exact mem_atKey hx
  refine wpAny_setItem_heap (knd := nestedKind X.prog X.w) (hsz := hz) (show X.A.units + 1 + 8 < cLine by omega) hk dd fun h' dd' hs' => ?_
  obtain ⟨q, es, ep, hq, h2, h3, h4, _, h5⟩ := dd'
  have hl : (storedH xs (nk (.tuple ds)) b r).length ≤ sizeLine := by have := stored_len (xs := xs) (k := nk (.tuple ds)) (b := b) (u := r); omega
  have x34 : Ext H3 (upd H3 a (NDictO X.prog X.w a (storedH xs (nk (.tuple ds)) b r))) := Ext.wr eA (fun _ z => ndict_tup z) (fun _ _ z => ndict_frz z)
  refine ⟨σ, upd H3 a (NDictO X.prog X.w a (storedH xs (nk (.tuple ds)) b r)), d_write I3 (by rw [eA]; exact True.intro) hs' ⟨q, hq⟩ ⟨⟨hl, hsy, q, es, ep, hq, h2, h3, h4, h5⟩, ⟨q, hq⟩, fun h1 h2 ⟨a1, a2, o, es, ep, a3, a4⟩ hst => ⟨a1, a2, o, es, ep, hst o a3, a4⟩⟩, q3 _ (fun c hc => upd_ne hc) x34 ⟨_, upd_same, fun x hx' => ?_, fun k => ?_⟩⟩
  · rcases mem_stored hx' with ⟨y, hy, e1, e2⟩ | ⟨e1, e2⟩
    · obtain ⟨d, z1, z2, z3⟩ := hks y hy
      exact ⟨d, z1.trans e1, by rw [← e2]; exact z2.ext x34, z3⟩
    · exact ⟨_, e1.symm, by rw [e2]; exact hx.ext x34, hdp⟩
  · rw [atKey_stored]
    unfold putD
    by_cases e : k = nk (.tuple ds)
    · rw [if_pos e, if_pos e]; exact rv
    · rw [if_neg e, if_neg e]; exact rel k
/-- {} -/
def tNNew (P : Program) (w : World) (K : PySem.W.Frag) : TE := fun _ H Q => ∀ p H', H p = none → Same H H' → (∀ b, b ≠ p → H' b = H b) → NDat P w K H' p (fun _ => none) → Q (.ref p) H'
theorem pe_nnew {P : Program} {w : World} {K : PySem.W.Frag} {pos : Pos} (hP : X.prog = P := by rfl) (hw : X.w = w := by rfl) (hK : X.K = K := by rfl) : PE X (.Dict [] [] pos) (tNNew P w K) := by
  subst hP hw hK
  refine ⟨fun pins s σ H Q I h => wpAny_Dict_empty ⟨.ref s.heap.objs.size, _, I.laid (a := s.heap.objs.size) (o := NDictO X.prog X.w s.heap.objs.size []) (t' := s.toks) (fun _ _ q => Heap.get?_push_of_some _ q) (Nat.le_refl _) ?_, rfl, ?_⟩⟩
  · exact ⟨⟨Nat.zero_le _, beq_eq_false_iff_ne.mpr (Ne.symm (Nat.ne_of_lt I.big)), _, #[], 0, Heap.get?_push_size _ rfl, ⟨rfl, rfl, rfl⟩, rfl, rfl, List.nodup_nil⟩, ⟨_, Heap.get?_push_size _ rfl⟩, fun h1 h2 ⟨a1, a2, o, es, ep, a3, a4⟩ hst => ⟨a1, a2, o, es, ep, hst o a3, a4⟩⟩
  · have n := I.hok.fresh (Nat.le_refl s.heap.objs.size)
    exact h _ _ n (same_new n) (fun b hb => upd_ne hb) ⟨[], upd_same, (fun _ z => nomatch z), fun _ => True.intro⟩
end
end Sv

set_option maxHeartbeats 4000000
/-! ### classes, their fields and methods -/
namespace Sv
open PySem PySem.Spec PyProof.Rows L2 L2H HotX LamX
/-- what is known of a class at C with the fields fs -/
structure ClsT (K : PySem.W.Frag) (mg : Str → Option Value) (x : Str) (C : Addr) (fs : List Str) : Prop where
  cl : Cls K C
  nf : ∀ f ∈ fs, NoAttr K C f
  g : mg x = some (.ref C)
  mkn : PySem.W.makesIn K C = true
  kp : PySem.W.keepIn K (.ref C) = true
def clsB (K : PySem.W.Frag) (C : Addr) (fs : List Str) : Bool :=
  PySem.W.plainGet K C Str.empty && PySem.W.hasDictIn K C && PySem.W.plainOver K C && PySem.W.findIn K (.ref C) "__setattr__" == some (some (.builtin "object.__setattr__")) && PySem.W.makesIn K C && PySem.W.keepIn K (.ref C) && fs.all fun f => PySem.W.findIn K (.ref C) f == some none
theorem clsT_of {K : PySem.W.Frag} {mg : Str → Option Value} {h : Heap} {x : Str} {C : Addr} {fs : List Str} (X : K.In h) (G : h.Ns mainGlobals mg) (a : PySem.W.nsIn K mainGlobals x = some (some (.ref C))) (e : clsB K C fs = true) : ClsT K mg x C fs := by
  unfold clsB at e
  simp only [Bool.and_eq_true, beq_iff_eq, List.all_eq_true] at e
  obtain ⟨⟨⟨⟨⟨⟨h1, h2⟩, h3⟩, h4⟩, h5⟩, h6⟩, h7⟩ := e
  exact ⟨⟨h1, h2, h3, h4⟩, fun f hf => h7 f hf, PySem.W.mg_of X G a, h5, h6⟩
/-- the def st is the method m of the class at C -/
def HereM (K : PySem.W.Frag) (C : Addr) (m q : Str) (st : Stmt) : Prop := ∃ f fd, Fun K m q st f fd ∧ Meth K C m f
theorem hereM_mk {K : PySem.W.Frag} {C f : Addr} {m q : Str} {st : Stmt} {oc : Value} {od an : Option Addr} {osl : Array (Option Value)} {kV doc pm cdv ct : Value} (a : PySem.W.findIn K (.ref C) m = some (some (.ref f))) (i : PySem.W.isFn K (.ref f) = true)
    (l : K.lookup f = some ⟨oc, od, .func (PySem.W.fnOf m q (defArgs st) (defBody st) (defScope st) .none kV doc pm an cdv ct), osl⟩) (c : PySem.W.codeIn K cdv q = true) (k : PySem.W.keepIn K (.ref f) = true) : HereM K C m q st :=
  ⟨f, _, fun_mk l c k, a, i, k⟩
section
variable (P : Program) (w : World) (K : PySem.W.Frag) (mg : Str → Option Value) (base : Heap)
/-- the method m keeps the promise sp -/
def KeepsM (CX : CXT) (k : Nat) (C : Addr) (m : Str) (ps : List Str) (sp : Sp) : Prop := ∃ f fd, Meth K C m f ∧ Binds K fd ps [] ∧ FnOk P w K mg base CX k f fd ps sp
end
section
variable {P : Program} {w : World} {K : PySem.W.Frag} {mg : Str → Option Value} {base : Heap} {C : Addr}
theorem KeepsM.mono {CX : CXT} {j k : Nat} {m : Str} {ps : List Str} {sp : Sp} (D : KeepsM P w K mg base CX j C m ps sp) (h : j ≤ k) : KeepsM P w K mg base CX k C m ps sp := by
  obtain ⟨f, fd, a, b, c⟩ := D
  exact ⟨f, fd, a, b, c.mono h⟩
/-- a method that lets no exception out -/
theorem keepsM0 {m q : Str} {st : Stmt} {N ps : List Str} {k : Nat} {sp : Sp} (F : HereM K C m q st) (S : FnScope N ps (defScope st))
    (hb : ∀ (kV doc pm : Value) (an : Option Addr) (cdv ct : Value) (us : List Value), us.length = ps.length → bindArgs (PySem.W.fnOf m q (defArgs st) (defBody st) (defScope st) .none kV doc pm an cdv ct) ⟨us, []⟩ = pure (ps.zip us))
    (len : ∀ vs H Q E, sp vs H Q E → vs.length = ps.length)
    (hbody : ∀ (f : Addr) (cdv : Value) (A : Around) (outer : List Env) (s : Shared) (H : Hp) (vs : List V) (Q : VK) (E : XK), Room k (A.deeper (envOfC q (defScope st) s.heap.objs.size f cdv)) → sp vs H Q E →
      ∃ t, PSs (cxOf CX0 P w K mg base N q (defScope st) f cdv A outer s H E).nox (defBody st) t ∧ t { nx := fun _ H' => Q .non H', rt := Q } (start N vs) H) : KeepsM P w K mg base CX0 (k + 1) C m ps sp := by
  obtain ⟨f, fd, F, g⟩ := F
  exact ⟨f, fd, g, F.binds hb, F.ok S len fun cdv A outer s H vs Q E hr h => hbody f cdv A outer s H vs Q E hr h⟩
/-- a method that may raise -/
theorem keepsMN {m q : Str} {st : Stmt} {N ps : List Str} {k : Nat} {sp : Sp} (F : HereM K C m q st) (S : FnScope N ps (defScope st))
    (hb : ∀ (kV doc pm : Value) (an : Option Addr) (cdv ct : Value) (us : List Value), us.length = ps.length → bindArgs (PySem.W.fnOf m q (defArgs st) (defBody st) (defScope st) .none kV doc pm an cdv ct) ⟨us, []⟩ = pure (ps.zip us))
    (len : ∀ vs H Q E, sp vs H Q E → vs.length = ps.length)
    (hbody : ∀ (f : Addr) (cdv : Value) (A : Around) (outer : List Env) (s : Shared) (H : Hp) (vs : List V) (Q : VK) (E : XK), Room k (A.deeper (envOfC q (defScope st) s.heap.objs.size f cdv)) → sp vs H Q E →
      ∃ t, PSs (cxOf (L2N.CX P w) P w K mg base N q (defScope st) f cdv A outer s H E) (defBody st) t ∧ t { nx := fun _ H' => Q .non H', rt := Q } (start N vs) H) : KeepsM P w K mg base (L2N.CX P w) (k + 1) C m ps sp := by
  obtain ⟨f, fd, F, g⟩ := F
  have bd := F.binds hb
  obtain ⟨oc, od, kV, doc, pm, an, cdv, ct, osl, rfl, lk, hcd⟩ := F.ex
  exact ⟨f, _, g, bd, fn_of lk hcd S len fun A outer s H vs Q E hr hsp => hbody f cdv A outer s H vs Q E hr hsp⟩
end
section
variable {X : Cx} {o e value : Expr} {es : List Expr} {f m x : Str} {pos pos' apos p : Pos} {ta tv : TE} {t : TA} {C : Addr} {k : Nat} {ps : List Str} {sp : Sp} {E : XK} {CX : CXT}
/-- o.f -/
def tFldK (C : Addr) (f : Str) (ta : TE) : TE := fun σ H Q => ta σ H fun x H1 => ∃ a dx fs v, x = .ref a ∧ H1 a = some (.ins C dx fs) ∧ fs.lookup f = some v ∧ Q v H1
theorem pe_fldK (c : Cls X.K C) (n : NoAttr X.K C f) (he : PE X e ta) (hb : attributeBase e f X.env (eval e X.env) = eval e X.env := by rfl) : PE X (.Attribute e f pos) (tFldK C f ta) := by
  refine ⟨fun pins s σ H Q I h => ?_⟩
  refine attr_of hb (thn (he.run pins s σ H _ I h) fun u s1 ⟨x, H1, I1, rx, a, dx, fs, v, ex, ea, l, q⟩ => ?_)
  subst ex
  obtain rfl : u = Value.ref a := rx
  exact getattr_ok I1 ea c n l fun u' s2 I2 ru => ⟨v, H1, I2, ru, q⟩
/-- o.f = e -/
def sFldK (C : Addr) (f : Str) (ta tv : TE) : TS := fun D σ H => tv σ H fun y H1 => ta σ H1 fun x H2 => ∃ a dx fs, x = .ref a ∧ H2 a = some (.ins C dx fs) ∧ fs.length < 1000 ∧ D.nx σ (upd H2 a (.ins C dx (putF f y fs)))
theorem ps_fldK (c : Cls X.K C) (n : NoAttr X.K C f) (ha : PE X o ta) (hv : PE X value tv) (hs : swapsWith value (some (.Attribute o f pos')) pos.line X.env = pure false := by rfl) : PS X (.Assign [.Attribute o f pos'] value pos) (sFldK C f ta tv) := by
  refine ⟨fun pins s σ H D I h => ?_⟩
  refine plainObj_wpAny_Assign_Attribute (thn (hv.run pins s σ H _ I h) fun u s1 ⟨y, H1, I1, ry, q⟩ => thn (ha.run pins s1 σ H1 _ I1 q) fun ov s2 ⟨x, H2, I2, rx, a, dx, fs, ex, ea, l, q2⟩ => ?_) hs
  subst ex
  obtain rfl : ov = Value.ref a := rx
  exact setattr_ok I2 ea c n l ry fun s3 I3 => ⟨σ, _, I3, q2⟩
/-- o.m(..) -/
def tMethK (C : Addr) (m : Str) (sp : Sp) (E : XK) (ta : TE) (t : TA) : TE := fun σ H Q => ta σ H fun x H1 => ∃ a dx fs, x = .ref a ∧ H1 a = some (.ins C dx fs) ∧ fs.lookup m = none ∧ t σ H1 fun vs H2 => sp (x :: vs) H2 Q E
theorem tMethK_eq (ta : TE) (t : TA) : tMeth C m sp [] E ta t = tMethK C m sp E ta t := by
  funext σ H Q
  unfold tMeth tMethK
  simp only [List.append_nil]
theorem pe_m0 {pl : Sem Bool} (D : KeepsM X.prog X.w X.K X.mg X.base CX0 k C m ps sp) (c : Cls X.K C) (hr : Room k X.A) (he : PE X o ta) (ha : PA X (e :: es) t)
    (hst : starEach (e :: es) X.env = (false, eval e X.env) :: starEach es X.env := by rfl) (hpl : (backTo pos (starEach es X.env)).any (·.1) = false := by rfl)
    (ht : eval (.Call (.Attribute o m apos) (e :: es) [] pos) X.env = (do
      let ov ← eval o X.env
      standAt apos.atName
      let (f, first) ← holding [ov] (getMethod ov m pl)
      callWith pos f first (backTo pos (starEach (e :: es) X.env)) (backToKw pos (keywordEach [] X.env))) := by rfl) : PE X (.Call (.Attribute o m apos) (e :: es) [] pos) (tMethK C m sp E0 ta t) := by
  obtain ⟨g, fd, a, b, d⟩ := D
  have h := pe_meth (pos := pos) (apos := apos) (pl := pl) he c a d hr b .nil pass0 ha hst hpl ht
  rw [← tMethK_eq]
  exact h
theorem pe_m00 {pl : Sem Bool} (D : KeepsM X.prog X.w X.K X.mg X.base CX0 k C m ps sp) (c : Cls X.K C) (hr : Room k X.A) (he : PE X o ta)
    (ht : eval (.Call (.Attribute o m apos) [] [] pos) X.env = (do
      let ov ← eval o X.env
      standAt apos.atName
      let (f, first) ← holding [ov] (getMethod ov m pl)
      callWith pos f first (backTo pos (starEach [] X.env)) (backToKw pos (keywordEach [] X.env))) := by rfl) : PE X (.Call (.Attribute o m apos) [] [] pos) (tMethK C m sp E0 ta tNil) := by
  obtain ⟨g, fd, a, b, d⟩ := D
  have h := pe_meth0 (pos := pos) (apos := apos) (pl := pl) he c a d hr b .nil pass0 ht
  rw [← tMethK_eq]
  exact h
theorem pe_mX {pl : Sem Bool} {W : WX} (D : KeepsM X.prog X.w X.K X.mg X.base (L2N.CX X.prog X.w) k C m ps sp) (c : Cls X.K C) (hr : Room k X.A) (tk : L2N.Takes X W) (hW : ∀ cls d σ H, E cls d H → W cls d σ H) (he : PE X o ta) (ha : PA X (e :: es) t)
    (hst : starEach (e :: es) X.env = (false, eval e X.env) :: starEach es X.env := by rfl) (hpl : (backTo pos (starEach es X.env)).any (·.1) = false := by rfl)
    (ht : eval (.Call (.Attribute o m apos) (e :: es) [] pos) X.env = (do
      let ov ← eval o X.env
      standAt apos.atName
      let (f, first) ← holding [ov] (getMethod ov m pl)
      callWith pos f first (backTo pos (starEach (e :: es) X.env)) (backToKw pos (keywordEach [] X.env))) := by rfl) : PE X (.Call (.Attribute o m apos) (e :: es) [] pos) (tMethK C m sp E ta t) := by
  obtain ⟨g, fd, a, b, d⟩ := D
  have h := pe_meth (pos := pos) (apos := apos) (pl := pl) (E := E) he c a d hr b .nil (L2N.passes_call tk hW) ha hst hpl ht
  rw [← tMethK_eq]
  exact h
theorem pe_mX0 {pl : Sem Bool} {W : WX} (D : KeepsM X.prog X.w X.K X.mg X.base (L2N.CX X.prog X.w) k C m ps sp) (c : Cls X.K C) (hr : Room k X.A) (tk : L2N.Takes X W) (hW : ∀ cls d σ H, E cls d H → W cls d σ H) (he : PE X o ta)
    (ht : eval (.Call (.Attribute o m apos) [] [] pos) X.env = (do
      let ov ← eval o X.env
      standAt apos.atName
      let (f, first) ← holding [ov] (getMethod ov m pl)
      callWith pos f first (backTo pos (starEach [] X.env)) (backToKw pos (keywordEach [] X.env))) := by rfl) : PE X (.Call (.Attribute o m apos) [] [] pos) (tMethK C m sp E ta tNil) := by
  obtain ⟨g, fd, a, b, d⟩ := D
  have h := pe_meth0 (pos := pos) (apos := apos) (pl := pl) (E := E) he c a d hr b .nil (L2N.passes_call tk hW) ht
  rw [← tMethK_eq]
  exact h
/-- C(..) -/
def tMakeK (C : Addr) (sp : Sp) (E : XK) (t : TA) : TE := fun σ H Q => t σ H fun vs H1 => ∀ x dx, H1 x = none → H1 dx = none → dx ≠ x → sp (.ref x :: vs) (upd (upd H1 dx (.own x)) x (.ins C dx [])) (fun v H2 => v = .non ∧ Q (.ref x) H2) E
theorem tMakeK_eq (t : TA) : tMake C sp [] E t = tMakeK C sp E t := by
  funext σ H Q
  unfold tMake tMakeK
  simp only [List.append_nil]
theorem pe_mkX {W : WX} {fs : List Str} (D : KeepsM X.prog X.w X.K X.mg X.base (L2N.CX X.prog X.w) k C "__init__" ps sp) (T : ClsT X.K X.mg x C fs) (hr : Room (k + 1) X.A) (hg : Gl X x) (tk : L2N.Takes X W) (hW : ∀ cls d σ H, E cls d H → W cls d σ H) (ha : PA X (e :: es) t)
    (hdb : (x == ("__debug__" : Str)) = false := by decide) (he : starEach (e :: es) X.env = (false, eval e X.env) :: starEach es X.env := by rfl) (hpl : (backTo pos (starEach es X.env)).any (·.1) = false := by rfl) : PE X (.Call (.Name x p) (e :: es) [] pos) (tMakeK C sp E t) := by
  obtain ⟨g, fd, a, b, d⟩ := D
  have h := pe_make (pos := pos) (p := p) (E := E) (M := ⟨T.mkn, a.at_, a.fn, T.kp⟩) d hr hg T.g b .nil (L2N.passes_call tk hW) ha hdb he hpl
  rw [← tMakeK_eq]
  exact h
theorem pe_mkN {fs : List Str} (D : KeepsM X.prog X.w X.K X.mg X.base (L2N.CX X.prog X.w) k C "__init__" ps sp) (T : ClsT X.K X.mg x C fs) (hr : Room (k + 1) X.A) (hg : Gl X x) (ha : PA X (e :: es) t)
    (hdb : (x == ("__debug__" : Str)) = false := by decide) (he : starEach (e :: es) X.env = (false, eval e X.env) :: starEach es X.env := by rfl) (hpl : (backTo pos (starEach es X.env)).any (·.1) = false := by rfl) : PE X (.Call (.Name x p) (e :: es) [] pos) (tMakeK C sp E0 t) := by
  obtain ⟨g, fd, a, b, d⟩ := D
  have h := pe_make (pos := pos) (p := p) (E := E0) (M := ⟨T.mkn, a.at_, a.fn, T.kp⟩) d hr hg T.g b .nil passN ha hdb he hpl
  rw [← tMakeK_eq]
  exact h
theorem pe_mk0 {fs : List Str} (D : KeepsM X.prog X.w X.K X.mg X.base CX0 k C "__init__" ps sp) (T : ClsT X.K X.mg x C fs) (hr : Room (k + 1) X.A) (hg : Gl X x)
    (hdb : (x == ("__debug__" : Str)) = false := by decide) : PE X (.Call (.Name x p) [] [] pos) (tMakeK C sp E0 tNil) := by
  obtain ⟨g, fd, a, b, d⟩ := D
  have h := pe_make0 (pos := pos) (p := p) (E := E0) (M := ⟨T.mkn, a.at_, a.fn, T.kp⟩) d hr hg T.g b .nil pass0 hdb
  rw [← tMakeK_eq]
  exact h
/-- len(o), by the class's own __len__ -/
def rLenOwn (C : Addr) (sp : Sp) : List V → Hp → VK → Prop := fun xs H Q => ∃ a dx fs, xs = [V.ref a] ∧ H a = some (.ins C dx fs) ∧ sp [.ref a] H (fun z H' => ∃ i, z = .int i ∧ 0 ≤ i ∧ i < 2 ^ 63 ∧ Q z H') E0
theorem call_lenOwn (D : KeepsM X.prog X.w X.K X.mg X.base CX0 k C "__len__" ps sp) (hr : Room (k + 1) X.A) : CallR X (.builtin "len") (rLenOwn C sp) := by
  obtain ⟨g, fd, hm, hb, F⟩ := D
  intro pins s σ H xs us Q I r h
  obtain ⟨a, dx, fs, rfl, ha, hsp⟩ := h
  obtain ⟨u, rfl, ru⟩ := r.one
  cases (show u = Value.ref a from ru)
  obtain ⟨mA, J, _⟩ := ins_get I.hok ha
  obtain ⟨od, J, _⟩ := J.look
  obtain ⟨m, hF⟩ := I.fr
  refine PySem.W.len_K hF I.ok.mod.kin J hm.at_ hm.fn ?_
  have hl := F.len _ _ _ _ hsp
  have e0 : Env0 X.prog X.w X.K X.mg X.base X.A.in1 X.stack s H := I.env0.in1
  refine wpAny_call (codeAny_mono (F.run X.A.in1 X.stack s H ⟨[.ref a], []⟩ [.ref a] [.ref a] _ E0 hr.in1 e0 (by
    have := hb s [.ref a] I.kIn (by simpa using hl)
    simpa using this) (.cons rfl .nil) hsp) fun r s' hq => ?_)
  cases r with
  | error e => exact (show False from hq).elim
  | ok fl =>
    cases fl with
    | ret w =>
      obtain ⟨z, H', I', rz, i, ez, h0, h1, q⟩ := I.after hq
      subst ez
      obtain ⟨t, rfl⟩ := (show ∃ t, w = Value.int i t from rz)
      exact ⟨⟨h0, h1⟩, .int i, H', I'.tok _, ⟨_, rfl⟩, q⟩
    | next => exact False.elim hq
    | brk => exact False.elim hq
    | cont => exact False.elim hq
end
end Sv

set_option maxHeartbeats 4000000
namespace Sv
open PySem PySem.Spec PyProof.Rows L2 L2H HotX LamX
/-! ### the text: where its defs stand -/
def topS (i : Nat) : Stmt := PySem.Challenge.pw_stemvalues_k19_whole_tables.main.body.getD i (.Pass ⟨0, 0, 0, 0⟩)
abbrev s_is_whole : Stmt := topS 13
abbrev s_is_stem : Stmt := topS 14
abbrev s_is_bush : Stmt := topS 15
abbrev s_need_bush : Stmt := topS 16
abbrev s_need_stem : Stmt := topS 17
abbrev s_without : Stmt := topS 18
abbrev s_cuts_of : Stmt := topS 19
abbrev s_Table_init : Stmt := inClass (topS 21) 0
abbrev s_Table_cut : Stmt := inClass (topS 21) 1
abbrev s_Table_bush : Stmt := inClass (topS 21) 2
abbrev s_Table_player : Stmt := inClass (topS 21) 3
abbrev s_Table_undo : Stmt := inClass (topS 21) 4
abbrev s_Table_redo : Stmt := inClass (topS 21) 5
abbrev s_Table_len : Stmt := inClass (topS 21) 6
abbrev s_law_cell : Stmt := topS 23
abbrev s_law_drawn : Stmt := topS 24
abbrev s_law_roll : Stmt := topS 25
abbrev s_law_rounds : Stmt := topS 26
abbrev s_law_term : Stmt := topS 27
abbrev s_law_told : Stmt := topS 28
abbrev s_law_any_bush : Stmt := topS 29
abbrev s_law_without : Stmt := topS 30
abbrev s_law_moves : Stmt := topS 31
abbrev s_law_done : Stmt := topS 32
abbrev s_law_turn : Stmt := topS 33
abbrev s_law : Stmt := topS 34
end Sv

set_option maxHeartbeats 4000000
namespace Sv
open PySem PySem.Spec PyProof.Rows L2 L2H HotX LamX
/-- the builtins' names are the builtins' still -/
structure Blt (mg : Str → Option Value) : Prop where
  len : mg "len" = none
  range : mg "range" = none
  max : mg "max" = none
  min : mg "min" = none
  isinstance : mg "isinstance" = none
  int : mg "int" = none
  sum : mg "sum" = none
  any : mg "any" = none
  all : mg "all" = none
  sorted : mg "sorted" = none
  set : mg "set" = none
  tuple : mg "tuple" = none
  list : mg "list" = none
  enumerate : mg "enumerate" = none
  str : mg "str" = none
  abs : mg "abs" = none
  bool : mg "bool" = none
  ve : mg "ValueError" = none
def bltB (K : PySem.W.Frag) : Bool := (["len", "range", "max", "min", "isinstance", "int", "sum", "any", "all", "sorted", "set", "tuple", "list", "enumerate", "str", "abs", "bool", "ValueError"] : List Str).all fun x => PySem.W.nsIn K mainGlobals x == some none
theorem blt_of {K : PySem.W.Frag} {mg : Str → Option Value} {h : Heap} (X : K.In h) (G : h.Ns mainGlobals mg) (e : bltB K = true) : Blt mg := by
  unfold bltB at e
  simp only [List.all_cons, List.all_nil, Bool.and_true, Bool.and_eq_true, beq_iff_eq] at e
  obtain ⟨h1, h2, h3, h4, h5, h6, h7, h8, h9, h10, h11, h12, h13, h14, h15, h16, h17, h18⟩ := e
  have n : ∀ {x : Str}, PySem.W.nsIn K mainGlobals x = some none → mg x = none := fun e => PySem.W.mg_none_of X G e
  exact ⟨n h1, n h2, n h3, n h4, n h5, n h6, n h7, n h8, n h9, n h10, n h11, n h12, n h13, n h14, n h15, n h16, n h17, n h18⟩
section
variable {P : Program} {w : World} {K : PySem.W.Frag} {mg : Str → Option Value} {base : Heap} {C : Nat → Addr} {CS : Addr}
/-! ### _law_term -/
theorem scTerm : FnScope ["e", "flags", "kinds"] ["e"] (defScope s_law_term) := ⟨rfl, rfl, rfl, by decide +kernel, rfl, by decide +kernel, by decide +kernel⟩
theorem k_term (F : Here K mg "_law_term" s_law_term) (B : Blt mg) (X : Excs K mg C CS) {a : Addr} {oe : Obj} {i : Nat} (hi : i < 10) (hz : Zc (.ref (C i)) none oe) (hf : ∃ vs, oe.data = .fields vs) :
    KeepsP P w K mg base (a, oe) 1 "_law_term" ["e"] (spTerm a i) := by
  refine keepsP F scTerm (fun _ _ _ _ _ _ us hl => match us, hl with | [_], _ => rfl) (fun vs H Q E h => by rw [h.1]; rfl) fun f cdv A outer s H vs Q E hot hr h => ?_
  obtain ⟨rfl, q⟩ := h
  have hC : HotC (cxH CX0 P w K mg base ["e", "flags", "kinds"] "_law_term" (defScope s_law_term) f cdv A outer s H E (a, oe)) := ⟨(a, oe), hot, List.mem_singleton.mpr rfl⟩
  have is : CallR (cxH CX0 P w K mg base ["e", "flags", "kinds"] "_law_term" (defScope s_law_term) f cdv A outer s H E (a, oe)) (.builtin "isinstance") (rIsE K (C i) a) := call_isP (X.cls i hi) (List.mem_singleton.mpr rfl) hz hf
  have g : ∀ j x, excNames[j]? = some x → mg x = some (.ref (C j)) := fun j x hx => (X.one j x hx).g
  refine ⟨_, pss_cons (st 1 scTerm.nd (pe_lstN (pa3 (pb is B.isinstance boot_isinstance (pa2 (pv 0) (pgl (g 0 _ rfl)))) (pb is B.isinstance boot_isinstance (pa2 (pv 0) (pgl (g 1 _ rfl)))) (pb is B.isinstance boot_isinstance (pa2 (pv 0) (pgl (g 2 _ rfl)))))))
    (pss_cons (st 1 scTerm.nd (pe_op op_catN (pv 1) (pe_lstN (pa3 (pb is B.isinstance boot_isinstance (pa2 (pv 0) (pgl (g 3 _ rfl)))) (pb is B.isinstance boot_isinstance (pa2 (pv 0) (pgl (g 4 _ rfl)))) (pb is B.isinstance boot_isinstance (pa2 (pv 0) (pgl (g 5 _ rfl))))))))
    (pss_cons (st 1 scTerm.nd (pe_op op_catN (pv 1) (pe_lstN (pa3 (pb is B.isinstance boot_isinstance (pa2 (pv 0) (pgl (g 6 _ rfl)))) (pb is B.isinstance boot_isinstance (pa2 (pv 0) (pgl (g 7 _ rfl)))) (pb is B.isinstance boot_isinstance (pa2 (pv 0) (pgl (g 8 _ rfl))))))))
    (pss_cons (st 1 scTerm.nd (pe_op op_catN (pv 1) (pe_lstN (pa1 (pb is B.isinstance boot_isinstance (pa2 (pv 0) (pgl (g 9 _ rfl))))))))
    (pss_cons (st 2 scTerm.nd (pe_lstN (pa_cons pe_str (pa_cons pe_str (pa_cons pe_str (pa3 pe_str pe_str pe_str))))))
    (pss_cons (st 2 scTerm.nd (pe_op op_catN (pv 2) (pe_lstN (pa_cons pe_str (pa3 pe_str pe_str pe_str)))))
    (pss_cons (ps_if (PW.pt (pw_or (pt_cmpR op_ne (pb (cr_sumH hC) B.sum boot_sum (pa1 (pe_lcIntH hC (pv 1) B.int rfl rfl rfl (by decide +kernel) (by decide +kernel) (by decide +kernel)))) pe_int (nomark _)) (pw_or1 (pt_not (pt_val (pb is B.isinstance boot_isinstance (pa2 (pv 0) (pty (n := "ValueError") B.ve (by decide +kernel)))))))))
      (pss_one (ps_ret (pe_tupN (pa2 pe_str pe_str))))
      (pss_nil))
    (pss_one (ps_ret (pe_tupN (pa2 pe_str (pe_ix (ix_listK K) (pv 2) (pe_bm PySem.F.plainAttrs_list PySem.F.slot_list_index PySem.F.type_list_index (mt_indexK K) (pv 1) (pa1 pe_bl)) (fun _ _ => rfl)))))))))))), ?_⟩
  refine ⟨_, rfl, _, _, _, rfl, fun _ r => r, X.apart i 0 hi (by decide), _, rfl, _, _, _, rfl, fun _ r => r, X.apart i 1 hi (by decide), _, rfl, _, _, _, rfl, fun _ r => r, X.apart i 2 hi (by decide), szl rfl, fun l1 H1 n1 s1 e1 => ?_⟩
  refine ⟨_, rfl, _, rfl, _, _, _, rfl, fun _ r => r, X.apart i 3 hi (by decide), _, rfl, _, _, _, rfl, fun _ r => r, X.apart i 4 hi (by decide), _, rfl, _, _, _, rfl, fun _ r => r, X.apart i 5 hi (by decide), szl rfl, fun m2 H2 k2 s2 f2 => ?_⟩
  refine ⟨l1, m2, _, _, rfl, rfl, s2 _ _ e1, f2, szl rfl, fun l2 H3 n2 s3 e2 => ?_⟩
  refine ⟨_, rfl, _, rfl, _, _, _, rfl, fun _ r => r, X.apart i 6 hi (by decide), _, rfl, _, _, _, rfl, fun _ r => r, X.apart i 7 hi (by decide), _, rfl, _, _, _, rfl, fun _ r => r, X.apart i 8 hi (by decide), szl rfl, fun m3 H4 k3 s4 f3 => ?_⟩
  refine ⟨l2, m3, _, _, rfl, rfl, s4 _ _ e2, f3, szl rfl, fun l3 H5 n3 s5 e3 => ?_⟩
  refine ⟨_, rfl, _, rfl, _, _, _, rfl, fun _ r => r, X.apart i 9 hi (by decide), szl rfl, fun m4 H6 k4 s6 f4 => ?_⟩
  refine ⟨l3, m4, _, _, rfl, rfl, s6 _ _ e3, f4, szl rfl, fun l4 H7 n4 s7 e4 => ?_⟩
  refine ⟨szl rfl, fun l5 H8 n5 s8 e5 => ?_⟩
  refine ⟨_, rfl, szl rfl, fun m6 H9 k6 s9 f6 => ?_⟩
  refine ⟨l5, m6, _, _, rfl, rfl, s9 _ _ e5, f6, szl rfl, fun l6 H10 n6 s10 e6 => ?_⟩
  have e4' : H10 l4 = some (.lst ((flagsOf i).map V.bl)) := s10 _ _ (s9 _ _ (s8 _ _ e4))
  -- sum([int(flag) for flag in flags]) != 1 or not isinstance(e, ValueError)
  refine ⟨_, rfl, l4, flagsOf i, rfl, SqL.of e4', fun D nD => ⟨D, _, rfl, SqL.of upd_same, rfl, _, rfl, ?_⟩⟩
  rw [flags_sum hi]
  refine iteF ⟨_, rfl, _, _, _, rfl, fun _ r => r, X.ve i hi, _, rfl, iteF ?_⟩
  -- ('error', kinds[flags.index(True)])
  have s11 := same_new (o := .lst (((flagsOf i).map fun b => if b then (1 : Int) else 0).map V.int)) nD
  have e4'' := s11 _ _ e4'
  refine ⟨_, rfl, _, rfl, .inl ⟨rfl, _, SqL.of e4''⟩, l4, (flagsOf i).map V.bl, .bl true, i, .bl true, rfl, rfl, SqL.of e4'', rfl, flags_flat i, flags_at hi, rfl, fun m z hm hz => flags_ne hm hz, ?_⟩
  refine ⟨l6, excNames.map V.str, (i : Int), .str (excNames.getD i ""), rfl, rfl, SqL.of (s11 _ _ e6), atI_nat ?_, szl rfl, fun r H12 nr s12 er => ?_⟩
  · rw [List.getElem?_map, List.getD_eq_getElem?_getD]
    cases e : excNames[i]? with
    | none => exact absurd (List.getElem?_eq_none_iff.mp e) (by show ¬ 10 ≤ i; omega)
    | some x => rfl
  · have sa := s1.trans (s2.trans (s3.trans (s4.trans (s5.trans (s6.trans (s7.trans (s8.trans (s9.trans (s10.trans s11)))))))))
    exact q _ r (sa.trans s12) (sa.free nr) er
end
/-! ### _law_told -/
theorem scTold : FnScope ["deed", "e"] ["deed"] (defScope s_law_told) := ⟨rfl, rfl, rfl, by decide +kernel, rfl, by decide +kernel, by decide +kernel⟩
theorem takesN0 {X : Cx} : L2N.Takes X (fun _ _ _ _ => False) := fun _ _ x => by
  obtain ⟨_, _, _, _, _, _, _, _, _, _, _, _, _, _, _, _, z⟩ := x
  exact z.elim
section
variable {X : Cx} {C : Nat → Addr} {CS : Addr}
theorem g_told (FT : Here X.K X.mg "_law_term" s_law_term) (B : Blt X.mg) (Ex : Excs X.K X.mg C CS) {g : Addr} {cdg : Value} {q : Str} {k : Nat} (hk : 1 ≤ k) :
    GivesN X ["deed", "e"] "_law_told" (defScope s_law_told) g cdg (defBody s_law_told) "deed" q k (TTerm C) := by
  intro f c' s H Q tl hr act hc h
  refine ⟨_, pss_one (L2N.ps_try_as (X := (cxOf CX0 X.prog X.w X.K X.mg X.base ["deed", "e"] "_law_told" (defScope s_law_told) g cdg X.A X.stack s H E0).nox) (c := .ref CS) (i := 1)
      (tb := fun W D σ H => ∃ Ech : XK, (∀ cls d (σ' : L2.St) H', σ'.length = 2 → Ech cls d H' → W cls d σ' H') ∧ σ[0]? = some (some (.ref f)) ∧ H c' = some (CodeO c' q) ∧ tl Ech H D.rt)
      (ts := fun a cls d D σ H => ∃ i, i < 10 ∧ cls = .ref (C i) ∧ d = none ∧ tRet (tD (spTerm a i) E0 (tCons (tVar 1) tNil)) D σ H)
      rfl rfl scTold.nd rfl rfl ⟨by rfl, by decide, .inl Ex.gS⟩ takesN0 (fun W pn xe tk _ => ?_) (fun a oe cls d pn hz hf => ?_)), ?_⟩
  · refine ⟨fun pins s' σ H' D I h' => ?_⟩
    obtain ⟨Ech, hW, h1, h2, h3⟩ := h'
    exact (pss_one (ps_ret (act W pn xe Ech _ _ tk hW))).run pins s' σ H' D I ⟨h1, h2, h3⟩
  · refine ⟨fun pins s' σ H' D I h' => ?_⟩
    obtain ⟨i, hi, rfl, rfl, h1⟩ := h'
    have kt := k_term (P := X.prog) (w := X.w) (base := X.base) FT B Ex (a := a) hi hz.zc hf
    obtain ⟨vs, hv⟩ := hf
    refine (pss_one (ps_ret (pe_dP (X := (cxOf CX0 X.prog X.w X.K X.mg X.base ["deed", "e"] "_law_told" (defScope s_law_told) g cdg X.A X.stack s H E0).nox.suite a ((a, oe) :: pn)) kt ?_ ?_ ?_ (by rfl) (pa1 (pv 1))))).run pins s' σ H' D I h1
    · exact ⟨(hr.mono hk).dp, (hr.mono hk).un⟩
    · exact ⟨rfl, vs, hv, hz.2.2 vs hv⟩
    · exact List.mem_cons_self
  · refine ⟨fun cls d H' => d = none ∧ ∃ i, i < 10 ∧ cls = .ref (C i) ∧ ∀ H'' p, Same H' H'' → H' p = none → H'' p = some (.tup [.str "error", .str (excNames.getD i "")]) → Q (.ref p) H'', fun cls d σ' H' hl hh => ?_, rfl, hc, h⟩
    obtain ⟨rfl, i, hi, rfl, hq⟩ := hh
    exact ⟨true, Ex.stem i hi, fun _ a na => ⟨i, hi, rfl, rfl, _, List.getElem?_set_self (by omega), rfl, hq⟩, fun z => nomatch z⟩
/-- what a def that calls _law_told with lambdas must know -/
structure ToldS (X : Cx) (C : Nat → Addr) (CS c P : Addr) : Prop where
  told : Here X.K X.mg "_law_told" s_law_told
  term : Here X.K X.mg "_law_term" s_law_term
  blt : Blt X.mg
  exc : Excs X.K X.mg C CS
  tab : TabB X.base X.mg c P
/-- the name under which the lambdas of the def n stand -/
abbrev qOf (n : Str) : Str := n ++ ".<locals>."
abbrev lawT (Pt : Addr) : List (Addr × Str) := [(Pt, qOf "law" ++ "<lambda>")]
theorem lawT_mem {Pt : Addr} : (Pt, qOf "law" ++ "<lambda>") ∈ lawT Pt := List.mem_singleton.mpr rfl
theorem lawT_one {Pt : Addr} : ∀ p ∈ lawT Pt, p.1 = Pt → p.2 = qOf "law" ++ "<lambda>" := fun p hp _ => by rw [List.mem_singleton.mp hp]
/-- _law_told(lambda: body) -/
theorem pe_told {CS c P : Addr} {T : List (Addr × Str)} (sc : Scope) (q : Str) {params : Arguments} {body : Expr} {scope : Scope} {t : XK → TE} {p lpos pos : Pos} {k : Nat} (S : ToldS X C CS c P) (hr : Room (k + 2) X.A)
    (hbody : ∀ (A : Around) (outer : List Env) (s : Shared) (H : Hp) (E : XK) (f c' : Addr), Room k (A.deeper (lamEnv X scope s.heap.objs.size f c')) → PE (lamN X A outer s H E scope f c') body (t E))
    (hmT : (P, q ++ "<lambda>") ∈ T) (hu : ∀ p ∈ T, p.1 = P → p.2 = q ++ "<lambda>")
    (hsc : X.env.scope = sc := by rfl) (hq : X.env.qual = q := by rfl)
    (L : lamSB sc scope = true := by decide +kernel) (hg : Gl X "_law_told" := by rfl) (hcode : X.env.code = .ref c := by rfl) (hdef : defaultsOf params X.env = ([], []) := by rfl)
    (hbind : ∀ (q : Str) (cl : List (Str × Addr)) (pm cv ctv : Value), bindArgs (PySem.W.kla_fn "<lambda>" q params body scope cl pm cv ctv) ⟨[], []⟩ = pure [] := by intros; rfl) :
    PE X (.Call (.Name "_law_told" p) [.Lambda params body scope lpos] [] pos) (tLam T (TTerm C) t) := by
  subst hsc
  subst hq
  exact pe_lamN (k := k) S.told hg (fun _ _ _ _ _ _ us hl => match us, hl with | [_], _ => rfl) scTold rfl (.inl rfl) (fun g cdv => g_told S.term S.blt S.exc (Nat.le_add_left 1 k)) S.tab hcode hmT hu hr (lamS_by L) hdef hbind hbody
end
end Sv

set_option maxHeartbeats 4000000
namespace Sv
open PySem PySem.Spec PyProof.Rows L2 L2H HotX LamX
section
variable {P : Program} {w : World} {K : PySem.W.Frag} {mg : Str → Option Value} {base : Heap}
/-! ### _law_cell -/
def spCell (K : PySem.W.Frag) : Sp := fun vs H Q _ => ∃ (a : Addr) (ns : List Int) (k : Int), vs = [.ref a, .int k] ∧ SqL K H a (ns.map V.int) ∧ ns.length ≤ 63 ∧ ∀ H' z, Same H H' → Q (.int z) H'
theorem scCell : FnScope ["script", "k"] ["script", "k"] (defScope s_law_cell) := ⟨rfl, rfl, rfl, by decide +kernel, rfl, by decide +kernel, by decide +kernel⟩
theorem dp_ints {K : PySem.W.Frag} {H : Hp} : ∀ ns : List Int, DpAll K H (ns.map V.int) (ns.map PyData.int)
  | [] => .nil
  | n :: r => .cons (.int n) (dp_ints r)
theorem canLay_ints : ∀ ns : List Int, PyData.canLayAll0 (ns.map PyData.int) = true
  | [] => rfl
  | n :: r => by rw [List.map_cons, PyData.canLayAll0, canLay_ints r]; rfl
theorem depth_ints : ∀ ns : List Int, PyData.depthAll (ns.map PyData.int) = 0
  | [] => rfl
  | n :: r => by rw [List.map_cons, PyData.depthAll, depth_ints r]; rfl
theorem shaped_ints (ns : List Int) : SeqAt.shaped (.list (ns.map PyData.int)) = true := by
  unfold SeqAt.shaped
  rw [PyData.canLay0, canLay_ints, PyData.depth, depth_ints]; rfl
theorem k_cell (F : Here K mg "_law_cell" s_law_cell) (B : Blt mg) : Keeps' P w K mg base CX0 1 "_law_cell" ["script", "k"] (spCell K) := by
  refine keeps0 F scCell (fun _ _ _ _ _ _ us hl => match us, hl with | [_, _], _ => rfl) (fun vs H Q E h => by obtain ⟨a, ns, k, e, _⟩ := h; rw [e]; rfl) fun f cdv A outer s H vs Q E hr h => ?_
  obtain ⟨a, ns, k, rfl, hS, hn, q⟩ := h
  refine ⟨_, pss_cons (ps_if (pt_cmpR (op_eqDK K hr.units) (pv 0) (pe_lstN pa_nil) (nomark _))
      (pss_one (ps_ret (pe_op op_mul (pv 1) pe_int)))
      (pss_nil))
    (pss_one (ps_ret (pe_op op_add (pe_ix (ix_listK K) (pv 0) (pe_op op_mod (pv 1) (pb (call_len_seqK K) B.len PySem.boot_len (pa1 (pv 0)))) (fun _ _ => rfl)) (pe_op op_mul (pe_op op_fdiv (pv 1) (pb (call_len_seqK K) B.len PySem.boot_len (pa1 (pv 0)))) pe_int)))), ?_⟩
  refine ⟨_, rfl, szl rfl, fun p H1 np s1 e1 => ⟨.list (ns.map PyData.int), .list [], .lst (s1.seq hS) (dp_ints ns), .lst (SqL.of e1) .nil, shaped_ints ns, rfl, _, rfl, ?_⟩⟩
  have hS1 := s1.seq hS
  refine ite2 (fun e => ?_) fun e => ?_
  · exact ⟨_, rfl, _, _, rfl, rfl, .inr ⟨by decide, by decide⟩, q _ _ s1⟩
  · have hpos : 0 < ns.length := by
      cases ns with
      | nil => exact absurd rfl e
      | cons x r => exact Nat.succ_pos _
    have hlen : ((ns.map V.int).length : Int) = ns.length := by rw [List.length_map]
    have hm : 0 ≤ k % (ns.length : Int) := Int.emod_nonneg _ (by omega)
    have hm2 : k % (ns.length : Int) < ns.length := Int.emod_lt_of_pos _ (by omega)
    obtain ⟨z, hz⟩ : ∃ z, ns[(k % (ns.length : Int)).toNat]? = some z := ⟨_, List.getElem?_eq_getElem (by omega)⟩
    refine ⟨_, rfl, _, rfl, _, rfl, a, _, rfl, .inl hS1, _, _, rfl, rfl, by rw [hlen]; omega, a, _, _, .int z, rfl, rfl, hS1, ?_, ?_⟩
    · rw [hlen]
      refine at_of (j := (k % (ns.length : Int)).toNat) (by omega) ?_
      rw [List.getElem?_map, hz]; rfl
    · exact ⟨_, rfl, _, rfl, a, _, rfl, .inl hS1, _, _, rfl, rfl, ⟨by rw [hlen]; omega, by rw [hlen]; omega⟩, _, _, rfl, rfl, .inr ⟨by decide, by decide⟩, _, _, rfl, rfl, q _ _ s1⟩
/-! ### _law_drawn -/
def spDrawn : Sp := fun vs H Q _ => ∃ (c k : Int), vs = [.int c, .int k] ∧ ∀ z, 0 ≤ z → Q (.int z) H
theorem scDrawn : FnScope ["cell", "k", "more"] ["cell", "k"] (defScope s_law_drawn) := ⟨rfl, rfl, rfl, by decide +kernel, rfl, by decide +kernel, by decide +kernel⟩
theorem k_drawn (F : Here K mg "_law_drawn" s_law_drawn) : Keeps' P w K mg base CX0 1 "_law_drawn" ["cell", "k"] spDrawn := by
  refine keeps0 F scDrawn (fun _ _ _ _ _ _ us hl => match us, hl with | [_, _], _ => rfl) (fun vs H Q E h => by obtain ⟨c, k, e, _⟩ := h; rw [e]; rfl) fun f cdv A outer s H vs Q E hr h => ?_
  obtain ⟨c, k, rfl, q⟩ := h
  refine ⟨_, pss_cons (st 2 scDrawn.nd (pe_op op_mod (pe_op op_add (pe_op op_mul (pv 0) pe_int) (pe_op op_mul (pe_op op_add (pv 1) pe_int) pe_int)) pe_int))
    (pss_cons (st 2 scDrawn.nd (pe_op op_mod (pe_op op_mulW (pv 2) (pv 2)) pe_int))
    (pss_cons (st 2 scDrawn.nd (pe_op op_mulW (pe_op op_mulW (pe_op op_add (pe_op op_mod (pv 2) pe_int) pe_int) (pe_op op_add (pe_op op_fdivW (pv 2) pe_int) pe_int)) (pv 2)))
    (pss_one (ps_ret (pe_op op_mod (pv 2) pe_int))))), ?_⟩
  refine ⟨_, rfl, _, _, rfl, rfl, .inr ⟨by decide, by decide⟩, _, rfl, _, _, rfl, rfl, _, _, rfl, rfl, .inr ⟨by decide, by decide⟩, _, _, rfl, rfl, _, _, rfl, rfl, (show (0 : Int) < 340282366920938463463374607431768211507 by decide), ?_⟩
  have e129 : (2 : Nat) ^ 129 = 680564733841876926926749214863536422912 := by decide
  have e65 : (2 : Nat) ^ 65 = 36893488147419103232 := by decide
  have n1 : ∀ x0 : Int, (x0 % 340282366920938463463374607431768211507).natAbs < 2 ^ 129 := fun x0 => by omega
  have n2 : ∀ x0 : Int, (x0 % 340282366920938463463374607431768211297).natAbs < 2 ^ 129 := fun x0 => by omega
  have m1 : ∀ x0 : Int, (x0 % 18446744073709551557 + 1).natAbs < 2 ^ 65 := fun x0 => by omega
  have m2 : ∀ x0 : Int, (x0 % 340282366920938463463374607431768211297 / 18446744073709551557 + 1).natAbs < 2 ^ 129 := fun x0 => by omega
  refine ⟨_, rfl, _, rfl, _, _, rfl, rfl, wide_mul (n1 _) (n1 _) (by decide) (by decide) (by decide), _, _, rfl, rfl, (show (0 : Int) < 340282366920938463463374607431768211297 by decide), ?_⟩
  refine ⟨_, rfl, _, _, rfl, rfl, (show (0 : Int) < 18446744073709551557 by decide), _, _, rfl, rfl, _, rfl, _, _, rfl, rfl, ⟨by decide, by decide⟩, _, _, rfl, rfl, ?_⟩
  refine ⟨_, _, rfl, rfl, wide_mul (m1 _) (m2 _) (by decide) (by decide) (by decide), _, rfl, _, _, rfl, rfl, wide_mul (wide_lt (m1 _) (m2 _)) (n2 _) (by decide) (by decide) (by decide), ?_⟩
  refine ⟨_, rfl, _, _, rfl, rfl, (show (0 : Int) < 340282366920938463463374607431768211507 by decide), ?_⟩
  exact q _ (Int.emod_nonneg _ (by decide))
/-! ### _law_roll -/
/-- the dice at d are two ints -/
def Dice (H : Hp) (d : Addr) : Prop := ∃ x y : Int, H d = some (.lst [.int x, .int y])
/-- all but the dice stays -/
structure Mv (d : Addr) (H H' : Hp) : Prop where
  keep : ∀ b o, H b = some o → b ≠ d → H' b = some o
  dice : Dice H' d
theorem Mv.trans {d : Addr} {H H1 H2 : Hp} (a : Mv d H H1) (b : Mv d H1 H2) : Mv d H H2 := ⟨fun c o e n => b.keep c o (a.keep c o e n) n, b.dice⟩
theorem Mv.same {d : Addr} {H H1 H2 : Hp} (a : Mv d H H1) (b : Same H1 H2) : Mv d H H2 := ⟨fun c o e n => b c o (a.keep c o e n), by obtain ⟨x, y, e⟩ := a.dice; exact ⟨x, y, b _ _ e⟩⟩
theorem Mv.of_same {d : Addr} {H H1 : Hp} (h : Dice H d) (b : Same H H1) : Mv d H H1 := ⟨fun c o e n => b c o e, by obtain ⟨x, y, e⟩ := h; exact ⟨x, y, b _ _ e⟩⟩
theorem Mv.ext {d : Addr} {H H1 : Hp} (h : Dice H d) (a : Mv d H H1) : Ext H H1 := by
  obtain ⟨x, y, e⟩ := h
  exact ⟨fun b xs q => a.keep b _ q (ne_of q e fun z => nomatch z), fun b o u q => a.keep b _ q (ne_of q e fun z => nomatch z)⟩
theorem Mv.free {d : Addr} {H H1 : Hp} (h : Dice H d) (a : Mv d H H1) {p : Addr} (e : H1 p = none) : H p = none := by
  cases q : H p with
  | none => rfl
  | some o =>
    by_cases hp : p = d
    · obtain ⟨x, y, z⟩ := a.dice
      rw [hp, z] at e; cases e
    · rw [a.keep p o q hp] at e; cases e
def spRoll : Sp := fun vs H Q _ => ∃ (d : Addr) (many : Int), vs = [.ref d, .int many] ∧ Dice H d ∧ 0 < many ∧ many < 1000000 ∧ ∀ H' z, Mv d H H' → 0 ≤ z → z < many → Q (.int z) H'
theorem scRoll : FnScope ["dice", "many", "told"] ["dice", "many"] (defScope s_law_roll) := ⟨rfl, rfl, rfl, by decide +kernel, rfl, by decide +kernel, by decide +kernel⟩
theorem mv_upd {d : Addr} {H : Hp} {x y : Int} : Mv d H (upd H d (.lst [.int x, .int y])) := ⟨fun b o e n => by rw [upd_ne n]; exact e, x, y, upd_same⟩
theorem k_roll (F : Here K mg "_law_roll" s_law_roll) (d_drawn : Keeps' P w K mg base CX0 1 "_law_drawn" ["cell", "k"] spDrawn) : Keeps' P w K mg base CX0 2 "_law_roll" ["dice", "many"] spRoll := by
  refine keeps0 F scRoll (fun _ _ _ _ _ _ us hl => match us, hl with | [_, _], _ => rfl) (fun vs H Q E h => by obtain ⟨c, k, e, _⟩ := h; rw [e]; rfl) fun f cdv A outer s H vs Q E hr h => ?_
  obtain ⟨d, many, rfl, ⟨x, y, e⟩, h0, h1, q⟩ := h
  refine ⟨_, pss_cons (ps_if (pt_cmpR op_ge (pe_ix (ix_listK K) (pv 0) pe_int (fun _ _ => rfl)) (pe_op op_pow pe_int pe_int) (nomark _))
      (pss_cons (st 2 scRoll.nd (pe_op op_mod (pe_ix (ix_listK K) (pv 0) pe_int (fun _ _ => rfl)) (pv 1)))
        (pss_cons (ps_asg (pe_op op_fdiv (pe_ix (ix_listK K) (pv 0) pe_int (fun _ _ => rfl)) (pv 1)) (pg_sub (pv 0) pe_int set_list))
        (pss_one (ps_ret (pv 2)))))
      (pss_nil))
    (pss_cons (ps_asg (pe_op op_add (pe_ix (ix_listK K) (pv 0) pe_int (fun _ _ => rfl)) pe_int) (pg_sub (pv 0) pe_int set_list))
    (pss_one (ps_ret (pe_op op_mod (pe_op op_fdiv (pe_d0 d_drawn (hr.mono (by decide)) (by rfl) (pa2 (pe_ix (ix_listK K) (pv 0) pe_int (fun _ _ => rfl)) (pe_ix (ix_listK K) (pv 0) pe_int (fun _ _ => rfl)))) pe_int) (pv 1))))), ?_⟩
  refine ⟨_, rfl, d, _, 0, _, rfl, rfl, SqL.of e, atI_nat (j := 0) rfl, _, _, rfl, rfl, ⟨by decide, by decide, by decide⟩, _, _, rfl, rfl, _, rfl, ite2 (fun c => ?_) fun c => ?_⟩
  · refine ⟨_, rfl, d, _, 0, _, rfl, rfl, SqL.of e, atI_nat (j := 0) rfl, _, rfl, _, _, rfl, rfl, h0, ?_⟩
    refine ⟨_, rfl, d, _, 0, _, rfl, rfl, SqL.of e, atI_nat (j := 0) rfl, _, rfl, _, _, rfl, rfl, ⟨h0, by omega⟩, _, rfl, d, _, 0, 0, rfl, rfl, e, rfl, _, rfl, ?_⟩
    exact q _ _ mv_upd (Int.emod_nonneg _ (by omega)) (Int.emod_lt_of_pos _ h0)
  · refine ⟨_, rfl, d, _, 1, _, rfl, rfl, SqL.of e, atI_nat (j := 1) rfl, _, _, rfl, rfl, _, rfl, d, _, 1, 1, rfl, rfl, e, rfl, ?_⟩
    have e2 : (upd H d (.lst [.int x, .int (y + 1)])) d = some (.lst [.int x, .int (y + 1)]) := upd_same
    refine ⟨_, rfl, d, _, 0, _, rfl, rfl, SqL.of e2, atI_nat (j := 0) rfl, _, rfl, d, _, 1, _, rfl, rfl, SqL.of e2, atI_nat (j := 1) rfl, _, _, rfl, fun z hz => ?_⟩
    refine ⟨_, _, rfl, rfl, ⟨by decide, by decide⟩, _, rfl, _, _, rfl, rfl, h0, ?_⟩
    exact q _ _ mv_upd (Int.emod_nonneg _ (by omega)) (Int.emod_lt_of_pos _ h0)
/-! ### _law_rounds -/
def spRounds (K : PySem.W.Frag) : Sp := fun vs H Q _ => ∃ (a : Addr) (ns : List Int) (most : Int), vs = [.ref a, .int most] ∧ SqL K H a (ns.map V.int) ∧ ns.length ≤ 63 ∧ most ≤ 63 ∧
  ∀ H' p (ds : List Addr), Same H H' → H p = none → H' p = some (.lst (ds.map V.ref)) → (∀ d ∈ ds, H d = none ∧ Dice H' d) → Q (.ref p) H'
theorem scRounds : FnScope ["script", "most", "k"] ["script", "most"] (defScope s_law_rounds) := ⟨rfl, rfl, rfl, by decide +kernel, rfl, by decide +kernel, by decide +kernel⟩
theorem k_rounds (F : Here K mg "_law_rounds" s_law_rounds) (B : Blt mg) (d_cell : Keeps' P w K mg base CX0 1 "_law_cell" ["script", "k"] (spCell K)) : Keeps' P w K mg base CX0 2 "_law_rounds" ["script", "most"] (spRounds K) := by
  refine keeps0 F scRounds (fun _ _ _ _ _ _ us hl => match us, hl with | [_, _], _ => rfl) (fun vs H Q E h => by obtain ⟨a, ns, k, e, _⟩ := h; rw [e]; rfl) fun f cdv A outer s H vs Q E hr h => ?_
  obtain ⟨a, ns, most, rfl, hS, hn, hm, q⟩ := h
  refine ⟨_, pss_one (ps_ret (pe_lc (own := [("k", 2)]) rfl scRounds.nd (pi_range1 (by rfl) B.range (pa1 (pb (call_max2 rfl) B.max boot_max (pa2 pe_int (pb (call_min2 rfl) B.min boot_min (pa2 (pv 1) (pb (call_len_seqK K) B.len PySem.boot_len (pa1 (pv 0))))))))) (blkOk_by (own := [("k", 2)]) (N := ["script", "most", "k"]) (sc := defScope s_law_rounds) (by decide +kernel)) (fun _ _ _ _ _ => pgn 2 scRounds.nd) (fun _ _ _ _ _ => pts_nil) (fun _ _ _ _ _ => pe_lstN (pa2 (pe_d0 d_cell (hr.mono (by decide)) (by rfl) (pa2 (pv 0) (pv 2))) pe_int)))), ?_⟩
  have hl : ((ns.map V.int).length : Int) = ns.length := by rw [List.length_map]
  refine ⟨_, rfl, _, rfl, a, _, rfl, .inl hS, _, _, rfl, _, _, rfl, _, rfl, ?_, ?_, ?_⟩
  · show (-(2 ^ 62) : Int) ≤ if (if ((ns.map V.int).length : Int) < most then ((ns.map V.int).length : Int) else most) > 1 then _ else 1
    repeat' split
    all_goals omega
  · show (if (if ((ns.map V.int).length : Int) < most then ((ns.map V.int).length : Int) else most) > 1 then (if ((ns.map V.int).length : Int) < most then ((ns.map V.int).length : Int) else most) else 1) < 2 ^ 62
    repeat' split
    all_goals omega
  refine lc_J (walk_range (lo := 0)) Same (fun D i ys H' => ∃ ds : List Addr, ys = ds.map V.ref ∧ ∀ d ∈ ds, H d = none ∧ d ≠ D ∧ Dice H' d) (goes_same H) ?_ (fun _ _ => trivial) (fun _ _ => ⟨[], rfl, fun _ z => nomatch z⟩) ?_ ?_ ?_
  · refine szlt (Nat.ble_eq_true_of_le (Nat.le_trans (m := 63) ?_ (by decide)))
    show (if (if ((ns.map V.int).length : Int) < most then ((ns.map V.int).length : Int) else most) > 1 then (if ((ns.map V.int).length : Int) < most then ((ns.map V.int).length : Int) else most) else 1).toNat ≤ 63
    repeat' split
    all_goals omega
  · rintro D i ys H1 H2 nD x k ⟨ds, e, h⟩
    refine ⟨ds, e, fun d hd => ?_⟩
    obtain ⟨h1, h2, x, y, h3⟩ := h d hd
    exact ⟨h1, h2, x, y, k d _ h2 h3⟩
  · rintro D E E0 i x ys H1 H2 nD eD hi t ⟨ds, e, h⟩ ⟨rfl, rfl⟩ f1 f0
    refine ⟨rfl, ⟨_, rfl, _, rfl, a, ns, _, rfl, t.seq hS, hn, fun H3 z s3 => ⟨szl rfl, fun p H4 np s4 e4 => ?_⟩⟩⟩
    refine f1 _ H4 (s3.trans s4) ⟨ds ++ [p], by rw [e, List.map_append]; rfl, fun d hd => ?_⟩
    rcases List.mem_append.mp hd with hd | hd
    · obtain ⟨h1, h2, x, y, h3⟩ := h d hd
      exact ⟨h1, h2, x, y, s4 _ _ (s3 _ _ h3)⟩
    · rw [List.mem_singleton.mp hd]
      exact ⟨t.free (s3.free np), (ne_of_none (s3 _ _ eD) np).symm, _, _, e4⟩
  · rintro D H1 ys nD t eD _ ⟨ds, e, h⟩
    rw [e] at eD
    exact q H1 D ds t nD eD fun d hd => ⟨(h d hd).1, (h d hd).2.2⟩
end
end Sv

set_option maxHeartbeats 4000000
namespace Sv
open PySem PySem.Spec PyProof.Rows L2 L2H HotX LamX
/-! ### what every round of a law leaves as it was: the rounds' list, the dice, the tables -/
structure Live (T : List (Addr × Str)) (p : Addr) (ds : List Addr) (H : Hp) : Prop where
  rounds : H p = some (.lst (ds.map V.ref))
  dice : ∀ d ∈ ds, Dice H d
  tabs : Tabs T H
section
variable {T : List (Addr × Str)} {p d l : Addr} {ds : List Addr} {H H' : Hp}
theorem Dice.same (h : Dice H d) (s : Same H H') : Dice H' d := let ⟨x, y, e⟩ := h; ⟨x, y, s _ _ e⟩
theorem Live.same (h : Live T p ds H) (s : Same H H') : Live T p ds H' := ⟨s _ _ h.rounds, fun d hd => (h.dice d hd).same s, fun q hq => (h.tabs q hq).ext s⟩
theorem Live.extN (h : Live T p ds H) (x : ExtN H H') (t : Tabs T H') : Live T p ds H' :=
  ⟨x _ _ h.rounds (fun _ z => nomatch z), fun d hd => let ⟨a, b, e⟩ := h.dice d hd; ⟨a, b, x _ _ e (fun _ z => nomatch z)⟩, t⟩
theorem dice_ne (h : H p = some (.lst (ds.map V.ref))) (k : Dice H d) : p ≠ d := fun z => by
  obtain ⟨x, y, e⟩ := k
  rw [z, e] at h
  cases ds with
  | nil => cases h
  | cons a t => cases h
theorem Live.mv (h : Live T p ds H) (m : Mv d H H') (k : Dice H d) : Live T p ds H' := by
  refine ⟨m.keep _ _ h.rounds (dice_ne h.rounds k), fun e he => ?_, ?_⟩
  · by_cases z : e = d
    · rw [z]; exact m.dice
    · obtain ⟨x, y, q⟩ := h.dice e he
      exact ⟨x, y, m.keep _ _ q z⟩
  · obtain ⟨x, y, q⟩ := k
    exact tabs_keep h.tabs q fun b o e n => m.keep b o e n
theorem Live.put {xs ys : List V} (h : Live T p ds H) (e : H l = some (.lst xs)) (h1 : l ≠ p) (h2 : l ∉ ds) : Live T p ds (upd H l (.lst ys)) := by
  refine ⟨by rw [upd_ne h1.symm]; exact h.rounds, fun d hd => ?_, ?_⟩
  · obtain ⟨x, y, q⟩ := h.dice d hd
    exact ⟨x, y, by rw [upd_ne (show d ≠ l from fun z => h2 (z ▸ hd))]; exact q⟩
  · exact tabs_keep h.tabs e fun b o e n => by rw [upd_ne n]; exact e
theorem Live.fresh (h : Live T p ds H) (n : H l = none) : l ≠ p ∧ l ∉ ds := ⟨fun z => (by rw [z, h.rounds] at n; cases n), fun z => by obtain ⟨x, y, q⟩ := h.dice l z; rw [q] at n; cases n⟩
theorem Live.get (h : Live T p ds H) {i : Nat} {x : V} (e : (ds.map V.ref)[i]? = some x) : ∃ d, x = .ref d ∧ d ∈ ds ∧ Dice H d := by
  rw [List.getElem?_map] at e
  cases q : ds[i]? with
  | none => rw [q] at e; cases e
  | some d =>
    rw [q] at e
    cases e
    exact ⟨d, rfl, List.mem_of_getElem? q, h.dice d (List.mem_of_getElem? q)⟩
theorem Dice.ne (h : Dice H d) (n : H l = none) : l ≠ d := by
  obtain ⟨x, y, e⟩ := h
  exact (ne_of_none e n).symm
theorem Mv.lst {xs : List V} (m : Mv d H H') (e : H l = some (.lst xs)) (n : l ≠ d) : H' l = some (.lst xs) := m.keep l _ e n
/-- what _law_told tells of the i-th exception -/
def errD (i : Nat) : PyData := .tuple [.str "error", .str (excNames.getD i "")]
theorem exc_ok : ∀ i, i < 10 → PyData.strOk (excNames.getD i "") = true := by decide +kernel
theorem at_err {K : PySem.W.Frag} {i : Nat} (hi : i < 10) {a : Addr} (h : H a = some (.tup [.str "error", .str (excNames.getD i "")])) : At K H (.ref a) (errD i) :=
  At.tupO h (.cons (.str (by decide +kernel)) (.cons (.str (exc_ok i hi)) .nil))
theorem seq_extN {K : PySem.W.Frag} {a : Addr} {xs : List V} (x : ExtN H H') (h : SqL K H a xs) : SqL K H' a xs := by
  rcases h with (h | ⟨o, h⟩) | h
  · exact .inl (.inl (x _ _ h (fun _ z => nomatch z)))
  · exact .inl (.inr ⟨o, x _ _ h (fun _ z => nomatch z)⟩)
  · exact .inr h
mutual
theorem dp_extN {K : PySem.W.Frag} (x : ExtN H H') : ∀ (d : PyData) (v : V), Dp K H v d → Dp K H' v d
  | .none, _, h => by cases h; exact .non
  | .int i, _, h => by cases h; exact .int i
  | .str z, _, h => by cases h; exact .str z
  | .bool z, _, h => by cases h; exact .bl z
  | .tuple ds, _, h => by
    cases h with
    | tup s t => exact .tup ((extN_ext x).sqT s) (dpAll_extN x ds _ t)
  | .list ds, _, h => by
    cases h with
    | lst s t => exact .lst (seq_extN x s) (dpAll_extN x ds _ t)
  | .dict _, _, h => by cases h
theorem dpAll_extN {K : PySem.W.Frag} (x : ExtN H H') : ∀ (ds : List PyData) (vs : List V), DpAll K H vs ds → DpAll K H' vs ds
  | [], _, h => by cases h; exact .nil
  | d :: ds, _, h => by
    cases h with
    | cons a t => exact .cons (dp_extN x d _ a) (dpAll_extN x ds _ t)
end
end
end Sv

set_option maxHeartbeats 4000000
namespace Sv
open PySem PySem.Spec PyProof.Rows L2 L2H HotX LamX
section
variable {P : Program} {w : World} {K : PySem.W.Frag} {mg : Str → Option Value} {base : Heap}
/-! ### is_whole -/
def whole (d : PyData) (lo hi : Int) : Bool := match d with
  | .int i => decide (lo ≤ i) && decide (i ≤ hi)
  | _ => false
def spWhole (K : PySem.W.Frag) : Sp := fun vs H Q _ => ∃ v d lo hi, vs = [v, .int lo, .int hi] ∧ Dp K H v d ∧ Q (.bl (whole d lo hi)) H
theorem scWhole : FnScope ["value", "low", "high"] ["value", "low", "high"] (defScope s_is_whole) := ⟨rfl, rfl, rfl, by decide +kernel, rfl, by decide +kernel, by decide +kernel⟩
theorem k_whole (F : Here K mg "is_whole" s_is_whole) (B : Blt mg) : Keeps' P w K mg base CX0 1 "is_whole" ["value", "low", "high"] (spWhole K) := by
  refine keeps0 F scWhole (fun _ _ _ _ _ _ us hl => match us, hl with | [_, _, _], _ => rfl) (fun vs H Q E h => by obtain ⟨_, _, _, _, e, _⟩ := h; rw [e]; rfl) fun f cdv A outer s H vs Q E hr h => ?_
  obtain ⟨v, d, lo, hi, rfl, hd, q⟩ := h
  refine ⟨_, pss_one (ps_ret (pe_and (pb (call_isDK K) B.isinstance boot_isinstance (pa2 (pv 0) (pty B.int boot_int))) (pe_and (pe_not (pb (call_isDK K) B.isinstance boot_isinstance (pa2 (pv 0) (pty B.bool boot_bool)))) (pe_one (pe_chain op_le op_le (pv 1) (pv 0) (pv 2)))))), ?_⟩
  refine ⟨_, rfl, _, _, d, rfl, hd, .inl rfl, _, rfl, ?_⟩
  cases hd with
  | int i =>
    refine ⟨_, rfl, _, _, _, rfl, .int i, .inr (.inl rfl), _, rfl, _, rfl, ?_⟩
    refine ⟨_, rfl, _, rfl, _, _, rfl, rfl, _, rfl, ?_⟩
    show if decide (lo ≤ i) = true then _ else _
    by_cases h1 : lo ≤ i
    · rw [decide_eq_true h1]
      refine ⟨_, rfl, _, _, rfl, rfl, ?_⟩
      have q : Q (.bl (decide (lo ≤ i) && decide (i ≤ hi))) H := q
      rw [decide_eq_true h1, Bool.true_and] at q
      exact q
    · rw [decide_eq_false h1]
      have q : Q (.bl (decide (lo ≤ i) && decide (i ≤ hi))) H := q
      rw [decide_eq_false h1, Bool.false_and] at q
      exact iteF q
  | bl b => exact ⟨_, rfl, _, _, _, rfl, .bl b, .inr (.inl rfl), _, rfl, _, rfl, q⟩
  | non => exact q
  | str x => exact q
  | lst _ _ => exact q
  | tup _ _ => exact q
theorem whole_int {d : PyData} {lo hi : Int} (h : whole d lo hi = true) : ∃ i, d = .int i ∧ lo ≤ i ∧ i ≤ hi := by
  cases d with
  | int i =>
    have h : (decide (lo ≤ i) && decide (i ≤ hi)) = true := h
    rw [Bool.and_eq_true, decide_eq_true_eq, decide_eq_true_eq] at h
    exact ⟨i, rfl, h.1, h.2⟩
  | _ => cases h
end
end Sv

set_option maxHeartbeats 4000000
namespace Sv
open PySem PySem.Spec PyProof.Rows L2 L2H HotX LamX
inductive Col where | w | b | g
  deriving DecidableEq
def Col.s : Col → Str
  | .w => "w"
  | .b => "b"
  | .g => "g"
abbrev Bsh := List (Int × Col)
/-- a bush as data -/
def stemD (s : Int × Col) : PyData := .tuple [.int s.1, .str s.2.s]
def bushD (b : Bsh) : PyData := .tuple (b.map stemD)
def isCol (d : PyData) : Bool := match d with
  | .str x => ([Col.w.s, Col.b.s, Col.g.s] : List Str).contains x
  | _ => false
def isStem (d : PyData) (n : Int) : Bool := match d with
  | .tuple [a, c] => whole a (-1) (n - 1) && isCol c
  | _ => false
def stemAt (ds : List PyData) (j : Nat) : Bool := isStem (ds.getD j .none) j
def stemsOk (ds : List PyData) : Bool := ((List.range ds.length).map (stemAt ds)).all id
def isBush (d : PyData) : Bool := match d with
  | .tuple ds => decide (ds.length ≤ 7) && stemsOk ds
  | _ => false
/-- what is_bush asks of a bush -/
structure BushOk (b : Bsh) : Prop where
  len : b.length ≤ 7
  low : ∀ (i : Nat) (s : Int × Col), b[i]? = some s → -1 ≤ s.1 ∧ s.1 < i
/-- the same, with more stems -/
structure BushLo (b : Bsh) : Prop where
  len : b.length ≤ 100
  low : ∀ (i : Nat) (s : Int × Col), b[i]? = some s → -1 ≤ s.1 ∧ s.1 < i
theorem BushOk.lo {b : Bsh} (h : BushOk b) : BushLo b := ⟨Nat.le_trans h.len (by decide), h.low⟩
theorem inV_strs (u : Str) : ∀ l : List Str, inV (.str u) (l.map V.str) = l.contains u
  | [] => rfl
  | x :: r => by
    show (eqV (.str x) (.str u) || inV (.str u) (r.map V.str)) = _
    rw [inV_strs u r, List.contains_cons]
    have : eqV (.str x) (.str u) = (u == x) := by
      show (x == u) = (u == x)
      exact Bool.beq_comm
    rw [this]
section
variable {P : Program} {w : World} {K : PySem.W.Frag} {mg : Str → Option Value} {base : Heap} {C : Nat → Addr} {CS : Addr}
/-! ### is_stem -/
def spIsStem (K : PySem.W.Frag) : Sp := fun vs H Q _ => ∃ v d n, vs = [v, .int n] ∧ Dp K H v d ∧ ∀ H', Same H H' → Q (.bl (isStem d n)) H'
theorem scIsStem : FnScope ["value", "number"] ["value", "number"] (defScope s_is_stem) := ⟨rfl, rfl, rfl, by decide +kernel, rfl, by decide +kernel, by decide +kernel⟩
theorem k_is_stem (F : Here K mg "is_stem" s_is_stem) (B : Blt mg) (d_whole : Keeps' P w K mg base CX0 1 "is_whole" ["value", "low", "high"] (spWhole K)) : Keeps' P w K mg base CX0 2 "is_stem" ["value", "number"] (spIsStem K) := by
  refine keeps0 F scIsStem (fun _ _ _ _ _ _ us hl => match us, hl with | [_, _], _ => rfl) (fun vs H Q E h => by obtain ⟨_, _, _, e, _⟩ := h; rw [e]; rfl) fun f cdv A outer s H vs Q E hr h => ?_
  obtain ⟨v, d, n, rfl, hd, q⟩ := h
  refine ⟨_, pss_cons (ps_if (PW.pt (pw_or (pt_not (pt_val (pb (call_isDK K) B.isinstance boot_isinstance (pa2 (pv 0) (pty B.tuple boot_tuple))))) (pw_or (pt_cmpR op_ne (pb (call_len_seqK K) B.len PySem.boot_len (pa1 (pv 0))) pe_int (nomark _)) (pw_or1 (pt_not (pt_val (pe_d0 d_whole (hr.mono (by decide)) (by rfl) (pa3 (pe_ix (ix_tupK K) (pv 0) pe_int (fun _ _ => rfl)) (pe_un un_neg pe_int) (pe_op op_sub (pv 1) pe_int)))))))))
      (pss_one (ps_ret pe_bl))
      (pss_nil))
    (pss_one (ps_ret (pe_and (pb (call_isDK K) B.isinstance boot_isinstance (pa2 (pe_ix (ix_tupK K) (pv 0) pe_int (fun _ _ => rfl)) (pty B.str boot_str))) (pe_one (pe_cmpR (op_in_seqK K) (pe_ix (ix_tupK K) (pv 0) pe_int (fun _ _ => rfl)) (pe_tupN (pa3 pe_str pe_str pe_str)) (by rfl)))))), ?_⟩
  refine ⟨_, rfl, _, _, d, rfl, hd, .inr (.inr (.inr rfl)), _, rfl, ?_⟩
  cases hd with
  | non => exact q _ (Same.refl H)
  | bl b => exact q _ (Same.refl H)
  | int i => exact q _ (Same.refl H)
  | str x => exact q _ (Same.refl H)
  | lst _ _ => exact q _ (Same.refl H)
  | @tup a vs ds hs ht =>
    refine iteF ⟨_, rfl, a, vs, rfl, .inr hs, rfl, _, rfl, ?_⟩
    have hl := AtAll.len ht
    by_cases h2 : ds.length = 2
    · obtain ⟨d0, d1, rfl⟩ : ∃ d0 d1, ds = [d0, d1] := by
        match ds, h2 with
        | [x, y], _ => exact ⟨x, y, rfl⟩
      obtain ⟨v0, e0, p0⟩ := dpAll_get (i := 0) ht rfl
      obtain ⟨v1, e1, p1⟩ := dpAll_get (i := 1) ht rfl
      obtain rfl : vs = [v0, v1] := by
        match vs, hl, e0, e1 with
        | [x, y], _, e0, e1 => simp at e0 e1; rw [e0, e1]
      refine iteF ⟨_, rfl, a, _, 0, v0, rfl, rfl, hs, atI_nat (j := 0) rfl, _, rfl, _, rfl, _, _, rfl, rfl, v0, d0, -1, n - 1, rfl, p0, _, rfl, ?_⟩
      have qn : ∀ H', Same H H' → Q (.bl (whole d0 (-1) (n - 1) && isCol d1)) H' := q
      cases hw : whole d0 (-1) (n - 1) with
      | false =>
        rw [hw, Bool.false_and] at qn
        exact qn _ (Same.refl H)
      | true =>
        rw [hw, Bool.true_and] at qn
        refine ⟨_, rfl, a, _, 1, v1, rfl, rfl, hs, atI_nat (j := 1) rfl, _, _, d1, rfl, p1, .inr (.inr (.inl rfl)), _, rfl, ?_⟩
        cases p1 with
        | non => exact qn _ (Same.refl H)
        | bl b => exact qn _ (Same.refl H)
        | int i => exact qn _ (Same.refl H)
        | lst _ _ => exact qn _ (Same.refl H)
        | tup _ _ => exact qn _ (Same.refl H)
        | str x =>
          refine iteT ⟨_, rfl, a, _, 1, _, rfl, rfl, hs, atI_nat (j := 1) rfl, szl rfl, fun p H1 np s1 e1 => ⟨p, ([Col.w.s, Col.b.s, Col.g.s] : List Str).map V.str, rfl, .inr (SqT.of e1), rfl, rfl, ?_⟩⟩
          show Q (.bl (inV (.str x) (([Col.w.s, Col.b.s, Col.g.s] : List Str).map V.str))) H1
          rw [inV_strs]
          exact qn _ s1
    · have hne : ¬ ((vs.length : Int) = 2) := by omega
      have e : isStem (.tuple ds) n = false := by
        match ds, h2 with
        | [], _ => rfl
        | [_], _ => rfl
        | _ :: _ :: _ :: _, _ => rfl
        | [x, y], h => exact absurd rfl h
      rw [e] at q
      rw [decide_eq_false (fun z => hne (V.int.inj z))]
      exact q _ (Same.refl H)
/-! ### is_bush -/
def spIsBush (K : PySem.W.Frag) : Sp := fun vs H Q _ => ∃ v d, vs = [v] ∧ Dp K H v d ∧ ∀ H', Same H H' → Q (.bl (isBush d)) H'
theorem scIsBush : FnScope ["value", "number", "one"] ["value"] (defScope s_is_bush) := ⟨rfl, rfl, rfl, by decide +kernel, rfl, by decide +kernel, by decide +kernel⟩
theorem k_is_bush (F : Here K mg "is_bush" s_is_bush) (B : Blt mg) (d_stem : Keeps' P w K mg base CX0 2 "is_stem" ["value", "number"] (spIsStem K)) : Keeps' P w K mg base CX0 3 "is_bush" ["value"] (spIsBush K) := by
  refine keeps0 F scIsBush (fun _ _ _ _ _ _ us hl => match us, hl with | [_], _ => rfl) (fun vs H Q E h => by obtain ⟨_, _, e, _⟩ := h; rw [e]; rfl) fun f cdv A outer s H vs Q E hr h => ?_
  obtain ⟨v, d, rfl, hd, q⟩ := h
  refine ⟨_, pss_cons (ps_if (PW.pt (pw_or (pt_not (pt_val (pb (call_isDK K) B.isinstance boot_isinstance (pa2 (pv 0) (pty B.tuple boot_tuple))))) (pw_or1 (pt_cmpR op_gt (pb (call_len_seqK K) B.len PySem.boot_len (pa1 (pv 0))) pe_int (nomark _)))))
      (pss_one (ps_ret pe_bl))
      (pss_nil))
    (pss_one (ps_ret (pb (cr_allK K rfl) B.all boot_all (pa1 (pe_lc (own := [("number", 1), ("one", 2)]) rfl scIsBush.nd (pi_enumT K (by rfl) B.enumerate (pa1 (pv 0))) (blkOk_by (own := [("number", 1), ("one", 2)]) (N := ["value", "number", "one"]) (sc := defScope s_is_bush) (by decide +kernel)) (fun _ _ _ _ _ => pg_tupK K (n := 2) rfl (pgs_cons (pgn 1 scIsBush.nd) (pgs_cons (pgn 2 scIsBush.nd) pgs_nil))) (fun _ _ _ _ _ => pts_nil) (fun _ _ _ _ _ => pe_d0 d_stem (hr.mono (by decide)) (by rfl) (pa2 (pv 2) (pv 1)))))))), ?_⟩
  refine ⟨_, rfl, _, _, d, rfl, hd, .inr (.inr (.inr rfl)), _, rfl, ?_⟩
  cases hd with
  | non => exact q _ (Same.refl H)
  | bl b => exact q _ (Same.refl H)
  | int i => exact q _ (Same.refl H)
  | str x => exact q _ (Same.refl H)
  | lst _ _ => exact q _ (Same.refl H)
  | @tup a vs ds hs ht =>
    refine iteF ⟨_, rfl, a, vs, rfl, .inr hs, _, _, rfl, rfl, _, rfl, ?_⟩
    have hl := AtAll.len ht
    have q : ∀ H', Same H H' → Q (.bl (decide (ds.length ≤ 7) && stemsOk ds)) H' := q
    by_cases h7 : ds.length ≤ 7
    · rw [decide_eq_true h7, Bool.true_and] at q
      refine ite2 (fun z => absurd (of_decide_eq_true z) (by omega)) fun _ => ?_
      refine ⟨_, rfl, a, vs, rfl, hs, ?_⟩
      refine lc_J (walk_enumT (xs := vs)) Same (fun D i ys H' => ys = ((List.range i).map (stemAt ds)).map V.bl) (goes_same H) (by rw [sizeLine_eq]; omega) (fun H' t => (Same.ext t).sqT hs) (fun _ _ => rfl) (fun _ _ _ _ _ _ _ _ r => r) ?_ ?_
      · rintro D E E0 i x ys H1 H2 nD eD hi t rfl ⟨T, y, rfl, nT, s2, eT, hy⟩ k1 k0
        refine ⟨T, _, rfl, SqT.of eT, rfl, _, _, rfl, _, _, rfl, rfl, rfl, ?_⟩
        obtain ⟨d, hd⟩ : ∃ d, ds[i]? = some d := ⟨ds[i]'(by omega), List.getElem?_eq_getElem (by omega)⟩
        obtain ⟨y', hy', pd⟩ := dpAll_get ht hd
        rw [hy] at hy'
        cases hy'
        refine ⟨_, rfl, _, rfl, y, d, _, rfl, dp_same (t.trans s2) _ _ pd, fun H3 s3 => k1 _ _ (s2.trans s3) ?_⟩
        rw [List.range_succ, List.map_append, List.map_append]
        show _ = _ ++ [V.bl (isStem (ds.getD i .none) i)]
        rw [List.getD_eq_getElem?_getD, hd]
        rfl
      · rintro D H1 ys nD t eD _ rfl
        rw [hl] at eD
        exact ⟨D, _, rfl, SqL.of eD, q _ t⟩
    · rw [decide_eq_false h7, Bool.false_and] at q
      refine ite2 (fun _ => q _ (Same.refl H)) fun z => absurd (decide_eq_true (show (7 : Int) < vs.length by omega)) z
end
end Sv

set_option maxHeartbeats 4000000
namespace Sv
open PySem PySem.Spec PyProof.Rows L2 L2H HotX LamX
/-! ### bushes as data -/
theorem isCol_iff {d : PyData} : isCol d = true ↔ ∃ c : Col, d = .str c.s := by
  constructor
  · intro h
    match d, h with
    | .str x, h =>
      have h : ([Col.w.s, Col.b.s, Col.g.s] : List Str).contains x = true := h
      rw [List.contains_iff_mem] at h
      simp only [List.mem_cons, List.not_mem_nil, or_false] at h
      rcases h with h | h | h
      · exact ⟨.w, by rw [h]⟩
      · exact ⟨.b, by rw [h]⟩
      · exact ⟨.g, by rw [h]⟩
    | .none, h | .bool _, h | .int _, h | .list _, h | .dict _, h | .tuple _, h => cases h
  · rintro ⟨c, rfl⟩
    cases c <;> decide
theorem isStem_iff {d : PyData} {n : Int} : isStem d n = true ↔ ∃ s : Int × Col, d = stemD s ∧ -1 ≤ s.1 ∧ s.1 < n := by
  constructor
  · intro h
    match d, h with
    | .tuple [a, c], h =>
      have h : (whole a (-1) (n - 1) && isCol c) = true := h
      rw [Bool.and_eq_true] at h
      obtain ⟨i, rfl, h1, h2⟩ := whole_int h.1
      obtain ⟨c, rfl⟩ := isCol_iff.mp h.2
      exact ⟨(i, c), rfl, h1, by dsimp only; omega⟩
    | .none, h | .bool _, h | .int _, h | .str _, h | .list _, h | .dict _, h => cases h
    | .tuple [], h | .tuple [_], h | .tuple (_ :: _ :: _ :: _), h => cases h
  · rintro ⟨s, rfl, h1, h2⟩
    show (whole (.int s.1) (-1) (n - 1) && isCol (.str s.2.s)) = true
    rw [Bool.and_eq_true]
    refine ⟨?_, isCol_iff.mpr ⟨_, rfl⟩⟩
    show (decide (-1 ≤ s.1) && decide (s.1 ≤ n - 1)) = true
    rw [decide_eq_true h1, decide_eq_true (show s.1 ≤ n - 1 by omega)]; rfl
theorem isBush_iff {d : PyData} : isBush d = true ↔ ∃ b : Bsh, d = bushD b ∧ BushOk b := by
  constructor
  · intro h
    match d, h with
    | .tuple ds, h =>
      have h : (decide (ds.length ≤ 7) && stemsOk ds) = true := h
      rw [Bool.and_eq_true, decide_eq_true_eq] at h
      obtain ⟨h7, h⟩ := h
      unfold stemsOk at h
      rw [List.all_eq_true] at h
      have hs : ∀ j, j < ds.length → ∃ s : Int × Col, ds[j]? = some (stemD s) ∧ -1 ≤ s.1 ∧ s.1 < j := fun j hj => by
        have := h _ (List.mem_map.mpr ⟨j, List.mem_range.mpr hj, rfl⟩)
        have this : isStem (ds.getD j .none) j = true := this
        obtain ⟨s, e, h1, h2⟩ := isStem_iff.mp this
        refine ⟨s, ?_, h1, h2⟩
        rw [List.getD_eq_getElem?_getD, List.getElem?_eq_getElem hj] at e
        rw [List.getElem?_eq_getElem hj, ← e]; rfl
      have key : ∀ n, n ≤ ds.length → ∃ b : Bsh, b.length = n ∧ ds.take n = b.map stemD ∧ ∀ (i : Nat) (s : Int × Col), b[i]? = some s → -1 ≤ s.1 ∧ s.1 < i := by
        intro n
        induction n with
        | zero => exact fun _ => ⟨[], rfl, rfl, fun i s z => by simp at z⟩
        | succ n ih =>
          intro hn
          obtain ⟨b, e1, e2, e3⟩ := ih (by omega)
          obtain ⟨s, hs1, hs2, hs3⟩ := hs n (by omega)
          refine ⟨b ++ [s], by rw [List.length_append, e1]; rfl, ?_, fun i t ht => ?_⟩
          · rw [List.take_add_one, hs1, e2, List.map_append]; rfl
          · by_cases hi : i < n
            · rw [List.getElem?_append_left (by omega)] at ht
              exact e3 i t ht
            · rw [List.getElem?_append_right (by omega)] at ht
              have : i - b.length = 0 := by
                have := (List.getElem?_eq_some_iff.mp ht).1
                simp at this
                omega
              rw [this] at ht
              cases ht
              have : i = n := by omega
              rw [this]
              exact ⟨hs2, hs3⟩
      obtain ⟨b, e1, e2, e3⟩ := key ds.length (Nat.le_refl _)
      rw [List.take_length] at e2
      exact ⟨b, by rw [e2]; rfl, by omega, e3⟩
    | .none, h | .bool _, h | .int _, h | .str _, h | .list _, h | .dict _, h => cases h
  · rintro ⟨b, rfl, h⟩
    show (decide ((b.map stemD).length ≤ 7) && stemsOk (b.map stemD)) = true
    rw [List.length_map, decide_eq_true h.len, Bool.true_and]
    unfold stemsOk
    rw [List.all_eq_true]
    intro x hx
    obtain ⟨j, hj, rfl⟩ := List.mem_map.mp hx
    rw [List.mem_range, List.length_map] at hj
    refine isStem_iff.mpr ⟨b[j], ?_, h.low j _ (List.getElem?_eq_getElem hj)⟩
    rw [List.getD_eq_getElem?_getD, List.getElem?_map, List.getElem?_eq_getElem hj]; rfl
theorem col_ok (c : Col) : PyData.strOk c.s = true := by cases c <;> decide +kernel
theorem pl_stem (s : Int × Col) : pl (stemD s) = true := by
  show (true && (PyData.strOk s.2.s && true)) = true
  rw [col_ok]; rfl
theorem pl_stems : ∀ b : Bsh, plAll (b.map stemD) = true
  | [] => rfl
  | s :: b => by rw [List.map_cons, plAll, pl_stem, pl_stems b]; rfl
theorem pl_bush (b : Bsh) : pl (bushD b) = true := pl_stems b
theorem depth_stems : ∀ b : Bsh, PyData.depthAll (b.map stemD) ≤ 1
  | [] => by decide
  | s :: b => by
    rw [List.map_cons, PyData.depthAll]
    have := depth_stems b
    have : (stemD s).depth = 1 := rfl
    omega
theorem bush_depth {b : Bsh} : (bushD b).depth ≤ 64 := by
  show PyData.depthAll (b.map stemD) + 1 ≤ 64
  have := depth_stems b
  omega
theorem stemD_inj {s t : Int × Col} (h : stemD s = stemD t) : s = t := by
  obtain ⟨i, c⟩ := s
  obtain ⟨j, e⟩ := t
  have h1 : (PyData.int i) = .int j ∧ (PyData.str c.s) = .str e.s := by
    have := congrArg (fun d => match d with | PyData.tuple [x, y] => (x, y) | _ => (.none, .none)) h
    exact Prod.mk.inj this
  have h2 : i = j := PyData.int.inj h1.1
  have h3 : c.s = e.s := PyData.str.inj h1.2
  have h4 : c = e := by
    cases c <;> cases e <;> first | rfl | (exact absurd h3 (by decide))
  rw [h2, h4]
theorem bushD_inj {a b : Bsh} (h : bushD a = bushD b) : a = b := by
  have h := PyData.tuple.inj h
  exact (List.map_inj_right (fun _ _ => stemD_inj)).mp h
theorem stem_at {K : PySem.W.Frag} {H : Hp} {v : V} {s : Int × Col} (h : At K H v (stemD s)) : ∃ a, v = .ref a ∧ SqT K H a [.int s.1, .str s.2.s] := by
  obtain ⟨a, vs, rfl, hs, _, hd⟩ := At.inv (ds := [.int s.1, .str s.2.s]) h
  cases hd with
  | cons x r =>
    cases x
    cases r with
    | cons y r2 => cases y; cases r2; exact ⟨a, rfl, hs⟩
theorem at_stem {K : PySem.W.Frag} {H : Hp} {a : Addr} {s : Int × Col} (h : H a = some (.tup [.int s.1, .str s.2.s])) : At K H (.ref a) (stemD s) := At.tupO h (.cons (.int s.1) (.cons (.str (col_ok _)) .nil))
theorem bush_at {K : PySem.W.Frag} {H : Hp} {v : V} {b : Bsh} (h : At K H v (bushD b)) : ∃ a vs, v = .ref a ∧ SqT K H a vs ∧ AtAll K H vs (b.map stemD) ∧ vs.length = b.length := by
  obtain ⟨a, vs, e, h1, h2⟩ := At.inv h
  exact ⟨a, vs, e, h1, h2, by rw [AtAll.len h2.2, List.length_map]⟩
/-- the i-th stem -/
theorem bush_get {K : PySem.W.Frag} {H : Hp} {vs : List V} {b : Bsh} {i : Nat} {v : V} (h : AtAll K H vs (b.map stemD)) (e : vs[i]? = some v) : ∃ s a, b[i]? = some s ∧ v = .ref a ∧ SqT K H a [.int s.1, .str s.2.s] := by
  obtain ⟨d, h1, h2⟩ := h.get e
  rw [List.getElem?_map] at h1
  cases q : b[i]? with
  | none => rw [q] at h1; cases h1
  | some s =>
    rw [q] at h1
    cases h1
    obtain ⟨a, h3, h4⟩ := stem_at h2
    exact ⟨s, a, rfl, h3, h4⟩
section
variable {P : Program} {w : World} {K : PySem.W.Frag} {mg : Str → Option Value} {base : Heap} {C : Nat → Addr} {CS : Addr}
/-! ### need_bush -/
def spNeedBush (K : PySem.W.Frag) (C : Nat → Addr) : Sp := fun vs H Q E => ∃ v d, vs = [v] ∧ Dp K H v d ∧ (isBush d = true → ∀ H', Same H H' → Q .non H') ∧ (isBush d = false → ∀ H', Same H H' → E (.ref (C 0)) none H')
theorem scNeedBush : FnScope ["bush"] ["bush"] (defScope s_need_bush) := ⟨rfl, rfl, rfl, by decide +kernel, rfl, by decide +kernel, by decide +kernel⟩
theorem k_need_bush (F : Here K mg "need_bush" s_need_bush) (O : ExcOne K mg "InvalidBush" (C 0)) (d_bush : Keeps' P w K mg base CX0 3 "is_bush" ["value"] (spIsBush K)) : Keeps' P w K mg base (L2N.CX P w) 4 "need_bush" ["bush"] (spNeedBush K C) := by
  refine keepsN F scNeedBush (fun _ _ _ _ _ _ us hl => match us, hl with | [_], _ => rfl) (fun vs H Q E h => by obtain ⟨_, _, e, _⟩ := h; rw [e]; rfl) fun f cdv A outer s H vs Q E hr h => ?_
  obtain ⟨v, d, rfl, hd, q1, q2⟩ := h
  refine ⟨_, pss_one (ps_if (pt_not (pt_val (pe_d0 d_bush (hr.mono (by decide)) (by rfl) (pa1 (pv 0)))))
      (pss_one (ps_raiseN rfl O (by rfl) rfl rfl rfl rfl))
      (pss_nil)), ?_⟩
  refine ⟨_, rfl, _, _, rfl, hd, fun H1 s1 => ⟨_, rfl, ?_⟩⟩
  cases hn : isBush d with
  | true => exact q1 hn _ s1
  | false => exact q2 hn _ s1
end
/-! ### _law_any_bush -/
def Col.code : Col → Nat
  | .w => 119
  | .b => 98
  | .g => 103
def colStr (cs : List Col) : Str := ⟨(cs.map Col.code).toArray⟩
theorem col_code (c : Col) : c.s = ⟨#[c.code]⟩ := by cases c <;> rfl
section
variable {P : Program} {w : World} {K : PySem.W.Frag} {mg : Str → Option Value} {base : Heap} {C : Nat → Addr} {CS : Addr}
def spAnyBush (K : PySem.W.Frag) : Sp := fun vs H Q _ => ∃ (d : Addr) (most : Int) (cs : List Col), vs = [.ref d, .int most, .str (colStr cs)] ∧ Dice H d ∧ 0 ≤ most ∧ most ≤ 7 ∧ 0 < cs.length ∧ cs.length < 100 ∧
  ∀ H' p b, Mv d H H' → H p = none → At K H' (.ref p) (bushD b) → BushOk b → b.length ≤ most → (∀ s ∈ b, s.2 ∈ cs) → Q (.ref p) H'
theorem scAnyBush : FnScope ["dice", "most", "colours", "act", "found", "number", "below"] ["dice", "most", "colours"] (defScope s_law_any_bush) := ⟨rfl, rfl, rfl, by decide +kernel, rfl, by decide +kernel, by decide +kernel⟩
theorem k_any_bush (F : Here K mg "_law_any_bush" s_law_any_bush) (B : Blt mg) (d_roll : Keeps' P w K mg base CX0 2 "_law_roll" ["dice", "many"] spRoll) : Keeps' P w K mg base CX0 3 "_law_any_bush" ["dice", "most", "colours"] (spAnyBush K) := by
  refine keeps0 F scAnyBush (fun _ _ _ _ _ _ us hl => match us, hl with | [_, _, _], _ => rfl) (fun vs H Q E h => by obtain ⟨_, _, _, e, _⟩ := h; rw [e]; rfl) fun f cdv A outer s H vs Q E hr h => ?_
  obtain ⟨d, most, cs, rfl, hD, hm0, hm7, hc0, hc9, q⟩ := h
  refine ⟨_, pss_cons (ps_par (i := 3) (j := 4) rfl scAnyBush.nd rfl rfl (by decide) rfl rfl (pa2 (pe_d0 d_roll (hr.mono (by decide)) (by rfl) (pa2 (pv 0) pe_int)) (pe_lstN pa_nil)) (by rfl))
    (pss_cons (ps_for PassesOwn.never rfl (pi_range1 (by rfl) B.range (pa1 (pe_d0 d_roll (hr.mono (by decide)) (by rfl) (pa2 (pv 0) (pe_op op_add (pv 1) pe_int))))) (pgn 5 scAnyBush.nd)
      (pss_cut (st 6 scAnyBush.nd (pe_ifExp (pt_cmpR op_eq (pv 3) pe_int (nomark _)) (pe_op op_sub (pv 5) pe_int) (pe_op op_sub (pe_d0 d_roll (hr.mono (by decide)) (by rfl) (pa2 (pv 0) (pe_op op_add (pv 5) pe_int))) pe_int)))
        (pss_one (ps_expr (pe_bm PySem.F.plainAttrs_list PySem.F.slot_list_append PySem.F.type_list_append mt_append (pv 4) (pa1 (pe_tupN (pa2 (pv 6) (pe_ix ix_str (pv 2) (pe_d0 d_roll (hr.mono (by decide)) (by rfl) (pa2 (pv 0) (pb call_len_str B.len PySem.boot_len (pa1 (pv 2))))) (fun _ _ => rfl))))))))))
    (pss_one (ps_ret (pbt (call_tupleK K) B.tuple boot_tuple (pa1 (pv 4)))))), ?_⟩
  have hlen : (colStr cs).length = cs.length := by
    show ((cs.map Col.code).toArray).size = _
    simp
  refine ⟨_, rfl, d, 4, rfl, hD, by decide, by decide, fun H1 z1 m1 _ _ => ⟨szl rfl, fun l H2 nl s2 el => ?_⟩⟩
  have hD1 := m1.dice
  refine ⟨_, _, rfl, _, rfl, _, rfl, _, _, rfl, rfl, d, _, rfl, hD1.same s2, by omega, by omega, fun H3 n m3 n0 n1 => ?_⟩
  have hld : l ≠ d := hD1.ne nl
  have m13 : Mv d H H3 := (m1.same s2).trans m3
  have nlH : H l = none := Mv.free hD (m1) nl
  refine ⟨n, rfl, by omega, by omega, for_it (walk_range (lo := 0)) (fun i σ H' => ∃ y5 y6 vs b, σ = [some (.ref d), some (.int most), some (.str (colStr cs)), some (.int z1), some (.ref l), y5, y6] ∧ Mv d H H' ∧ H' l = some (.lst vs) ∧
    AtAll K H' vs (b.map stemD) ∧ b.length = i ∧ (∀ (i : Nat) (s : Int × Col), b[i]? = some s → -1 ≤ s.1 ∧ s.1 < i) ∧ ∀ s ∈ b, s.2 ∈ cs)
    ⟨none, none, [], [], rfl, m13, m3.lst el hld, AtAll.nil, rfl, (fun i s z => by rw [List.getElem?_nil] at z; cases z), (fun _ z => nomatch z)⟩ (fun _ _ _ _ _ => trivial) ?_ ?_⟩
  · rintro i x σ H4 H4' hi ⟨y5, y6, vs, b, rfl, m4, el4, hvs, hb, hlow, hcol⟩ ⟨rfl, rfl⟩
    have hi7 : i ≤ 6 := by omega
    have D4 := m4.dice
    refine ⟨fun σ H' => ∃ below : Int, σ = [some (.ref d), some (.int most), some (.str (colStr cs)), some (.int z1), some (.ref l), some (.int (0 + (i : Nat))), some (.int below)] ∧ Mv d H4' H' ∧ -1 ≤ below ∧ below < i, ?_, ?_⟩
    · refine ⟨_, rfl, rfl, _, rfl, ?_⟩
      refine ite2 (fun _ => ⟨_, rfl, _, _, rfl, rfl, 0 + (i : Nat) - 1, rfl, Mv.of_same D4 (Same.refl _), by omega, by omega⟩) fun _ => ?_
      refine ⟨_, rfl, _, rfl, _, _, rfl, rfl, d, _, rfl, D4, by omega, by omega, fun H5 z m5 z0 z9 => ⟨_, _, rfl, rfl, z - 1, rfl, m5, by omega, by omega⟩⟩
    · rintro σ H5 ⟨below, rfl, m5, b0, b1⟩
      have D5 := m5.dice
      have el5 := m5.lst el4 hld
      refine ⟨_, rfl, .inl ⟨rfl, _, SqL.of el5⟩, _, rfl, _, rfl, _, rfl, _, rfl, _, rfl, by rw [hlen, sizeLine_eq]; omega, d, _, rfl, D5, by rw [hlen]; omega, by rw [hlen]; omega, fun H6 z m6 z0 z9 => ?_⟩
      rw [hlen] at z9
      obtain ⟨c, hc⟩ : ∃ c, cs[z.toNat]? = some c := ⟨cs[z.toNat]'(by omega), List.getElem?_eq_getElem (by omega)⟩
      have hat : atI (colStr cs).cps.toList z = some c.code := by
        have e : (z.toNat : Int) = z := by omega
        rw [← e]
        refine atI_nat ?_
        show (cs.map Col.code).toArray.toList[z.toNat]? = _
        rw [List.toList_toArray, List.getElem?_map, hc]; rfl
      refine ⟨_, z, _, rfl, rfl, by rw [hlen, sizeLine_eq]; omega, hat, szl rfl, fun t H7 nt s7 et => ?_⟩
      have et' : H7 t = some (.tup [.int below, .str c.s]) := by rw [col_code]; exact et
      have el7 := s7 _ _ (m6.lst el5 hld)
      have x47 : Ext H4' H7 := (Mv.ext D4 m5).trans ((Mv.ext D5 m6).trans (Same.ext s7))
      have x7 := Ext.lst (o := .lst (vs ++ [.ref t])) el7
      refine ⟨l, vs, .ref t, rfl, rfl, el7, ?_, ?_⟩
      · have := AtAll.len hvs.2
        rw [List.length_map] at this
        rw [sizeLine_eq]; omega
      refine ⟨_, _, vs ++ [.ref t], b ++ [(below, c)], rfl, ?_, upd_same, ?_, by rw [List.length_append, hb]; rfl, fun j s hs => ?_, fun s hs => ?_⟩
      · have mm := m4.trans (m5.trans (m6.same s7))
        refine ⟨fun b o e n => ?_, ?_⟩
        · rw [upd_ne (ne_of_none e nlH)]; exact mm.keep b o e n
        · obtain ⟨x, y, e⟩ := mm.dice
          exact ⟨x, y, by rw [upd_ne hld.symm]; exact e⟩
      · rw [List.map_append]
        exact AtAll.snoc ((at_stem (s := (below, c)) et').ext x7) (hvs.ext (x47.trans x7))
      · by_cases hj : j < b.length
        · rw [List.getElem?_append_left hj] at hs
          exact hlow j s hs
        · rw [List.getElem?_append_right (by omega)] at hs
          have h0 : j - b.length = 0 := by
            have := (List.getElem?_eq_some_iff.mp hs).1
            simp at this
            omega
          rw [h0] at hs
          cases hs
          exact ⟨b0, by dsimp only; omega⟩
      · rcases List.mem_append.mp hs with hs | hs
        · exact hcol s hs
        · rw [List.mem_singleton.mp hs]
          exact List.mem_of_getElem? hc
  · rintro σ H4 ⟨y5, y6, vs, b, rfl, m4, el4, hvs, hb, hlow, hcol⟩
    refine ⟨_, rfl, l, vs, rfl, SqL.of el4, fun p H5 np s5 e5 => ?_⟩
    refine q H5 p b (m4.same s5) (Mv.free hD m4 np) (At.tupO e5 (hvs.ext (Same.ext s5))) ⟨by omega, hlow⟩ (by omega) hcol
end
end Sv

set_option maxHeartbeats 4000000
namespace Sv
open PySem PySem.Spec PyProof.Rows L2 L2H HotX LamX
/-! ### cutting, in plain words -/
/-- the new number of what a stem grows from -/
def nameOf (ns : List (Option Nat)) (below : Int) : Option Int := if below < 0 then some (-1) else (ns.getD below.toNat none).map fun j => (j : Int)
def wStep (n i : Nat) (s : Int × Col) (st : List (Option Nat) × Bsh) : List (Option Nat) × Bsh :=
  if i = n then (st.1 ++ [none], st.2) else match nameOf st.1 s.1 with
  | none => (st.1 ++ [none], st.2)
  | some j => (st.1 ++ [some st.2.length], st.2 ++ [(j, s.2)])
def wSt (b : Bsh) (n : Nat) : Nat → List (Option Nat) × Bsh
  | 0 => ([], [])
  | i + 1 => match b[i]? with
    | none => wSt b n i
    | some s => wStep n i s (wSt b n i)
/-- the bush b after its n-th stem was cut -/
def withoutB (b : Bsh) (n : Nat) : Bsh := (wSt b n b.length).2
theorem wSt_succ {b : Bsh} {n i : Nat} {s : Int × Col} (h : b[i]? = some s) : wSt b n (i + 1) = wStep n i s (wSt b n i) := by
  show (match b[i]? with | none => wSt b n i | some s => wStep n i s (wSt b n i)) = _
  rw [h]
theorem wStep_len {n i : Nat} {s : Int × Col} {st : List (Option Nat) × Bsh} : (wStep n i s st).1.length = st.1.length + 1 ∧ (wStep n i s st).2.length ≤ st.2.length + 1 := by
  unfold wStep
  split
  · simp
  · split <;> simp
theorem wSt_len {b : Bsh} {n : Nat} : ∀ i, i ≤ b.length → (wSt b n i).1.length = i ∧ (wSt b n i).2.length ≤ i
  | 0, _ => ⟨rfl, Nat.le_refl _⟩
  | i + 1, h => by
    have ih := wSt_len (b := b) (n := n) i (by omega)
    rw [wSt_succ (List.getElem?_eq_getElem (show i < b.length by omega))]
    have := wStep_len (n := n) (i := i) (s := b[i]) (st := wSt b n i)
    omega
section
variable {P : Program} {w : World} {K : PySem.W.Frag} {mg : Str → Option Value} {base : Heap} {C : Nat → Addr} {CS : Addr}
/-! ### without -/
def spWithout (K : PySem.W.Frag) : Sp := fun vs H Q _ => ∃ (v : V) (b : Bsh) (n : Nat), vs = [v, .int (n : Nat)] ∧ At K H v (bushD b) ∧ BushLo b ∧ ∀ H' p, Same H H' → H p = none → At K H' (.ref p) (bushD (withoutB b n)) → Q (.ref p) H'
theorem scWithout : FnScope ["bush", "number", "names", "left", "at", "below", "colour"] ["bush", "number"] (defScope s_without) := ⟨rfl, rfl, rfl, by decide +kernel, rfl, by decide +kernel, by decide +kernel⟩
/-- the dict names says what ns says -/
structure Names (kvs : List (Key × V)) (ns : List (Option Nat)) : Prop where
  gnd : valV kvs (.inl (-1)) = some (.int (-1))
  at_ : ∀ k : Nat, valV kvs (.inl (k : Int)) = (ns.getD k none).map fun j => .int (j : Int)
  len : kvs.length ≤ ns.length + 1
theorem Names.get {kvs : List (Key × V)} {ns : List (Option Nat)} (h : Names kvs ns) {below : Int} (h1 : -1 ≤ below) : valV kvs (.inl below) = (nameOf ns below).map V.int := by
  unfold nameOf
  by_cases hb : below < 0
  · have : below = -1 := by omega
    subst this
    rw [if_pos hb, h.gnd]; rfl
  · rw [if_neg hb]
    have := h.at_ below.toNat
    rw [show ((below.toNat : Nat) : Int) = below by omega] at this
    rw [this]
    cases ns.getD below.toNat none <;> rfl
theorem Names.skip {kvs : List (Key × V)} {ns : List (Option Nat)} (h : Names kvs ns) : Names kvs (ns ++ [none]) := by
  refine ⟨h.gnd, fun k => ?_, by rw [List.length_append]; have := h.len; omega⟩
  rw [h.at_ k, List.getD_eq_getElem?_getD, List.getD_eq_getElem?_getD]
  by_cases hk : k < ns.length
  · rw [List.getElem?_append_left hk]
  · rw [List.getElem?_eq_none (by omega), List.getElem?_append_right (by omega)]
    cases k - ns.length with
    | zero => rfl
    | succ m => rfl
theorem Names.put {kvs : List (Key × V)} {ns : List (Option Nat)} (h : Names kvs ns) (j : Nat) : Names (putK kvs (.inl (ns.length : Int)) (.int (j : Int))) (ns ++ [some j]) := by
  refine ⟨?_, fun k => ?_, ?_⟩
  · rw [valV_put, if_neg (fun z => by have := Sum.inl.inj z; omega)]; exact h.gnd
  · rw [valV_put, List.getD_eq_getElem?_getD]
    by_cases hk : k < ns.length
    · rw [if_neg (fun z => by have := Sum.inl.inj z; omega), h.at_ k, List.getElem?_append_left hk, List.getD_eq_getElem?_getD]
    · by_cases e : k = ns.length
      · subst e
        rw [if_pos rfl, List.getElem?_append_right (Nat.le_refl _), Nat.sub_self]; rfl
      · rw [if_neg (fun z => by have := Sum.inl.inj z; omega), h.at_ k, List.getD_eq_getElem?_getD, List.getElem?_eq_none (by omega), List.getElem?_eq_none (by rw [List.length_append]; simp; omega)]
  · have h1 := length_putK kvs (.inl (ns.length : Int)) (.int (j : Int))
    have h2 := h.len
    rw [List.length_append]; simp; omega
theorem k_without (F : Here K mg "without" s_without) (B : Blt mg) : Keeps' P w K mg base CX0 1 "without" ["bush", "number"] (spWithout K) := by
  refine keeps0 F scWithout (fun _ _ _ _ _ _ us hl => match us, hl with | [_, _], _ => rfl) (fun vs H Q E h => by obtain ⟨_, _, _, e, _⟩ := h; rw [e]; rfl) fun f cdv A outer s H vs Q E hr h => ?_
  obtain ⟨v, b, n, rfl, hA, hb, q⟩ := h
  refine ⟨_, pss_cons (ps_par (i := 2) (j := 3) rfl scWithout.nd rfl rfl (by decide) rfl rfl (pa2 (pe_disp (pps_cons (pe_un un_neg pe_int) (pe_un un_neg pe_int) pps_nil) rfl rfl (fun z => nomatch z) (by decide)) (pe_lstN pa_nil)) (by rfl))
    (pss_cons (ps_for PassesOwn.never rfl (pi_enumT K (by rfl) B.enumerate (pa1 (pv 0))) (pg_tupK K (n := 2) rfl (pgs_cons (pgn 4 scWithout.nd) (pgs_cons (pg_tupK K (n := 2) rfl (pgs_cons (pgn 5 scWithout.nd) (pgs_cons (pgn 6 scWithout.nd) pgs_nil))) pgs_nil)))
      (pss_one (ps_if (PW.pt (pw_and (pt_cmpR op_ne (pv 4) (pv 1) (nomark _)) (pw_and1 (pt_cmpR (op_din (hu_of hr)) (pv 5) (pv 2) (by rfl)))))
          (pss_cons (ps_dput (hu_of hr) (pv 2) (pv 4) (pb (call_len_seqK K) B.len PySem.boot_len (pa1 (pv 3))) (by rfl))
            (pss_one (ps_expr (pe_bm PySem.F.plainAttrs_list PySem.F.slot_list_append PySem.F.type_list_append mt_append (pv 3) (pa1 (pe_tupN (pa2 (pe_dget (hu_of hr) (pv 2) (pv 5) (fun _ _ => rfl)) (pv 6))))))))
          (pss_nil))))
    (pss_one (ps_ret (pbt (call_tupleK K) B.tuple boot_tuple (pa1 (pv 3)))))), ?_⟩
  obtain ⟨a, vs, rfl, hs, hvs, hlen⟩ := bush_at hA
  intro dn ndn
  refine ⟨_, rfl, _, rfl, upd_same, [(Sum.inl (-1), V.int (-1))], rfl, by decide, szl rfl, fun l H2 nl s2 el => ?_⟩
  have ed : H2 dn = some (.dK [(Sum.inl (-1), V.int (-1))]) := s2 _ _ upd_same
  have hdl : l ≠ dn := fun z => by rw [z, upd_same] at nl; cases nl
  have nlH : H l = none := by
    rw [upd_ne hdl, upd_ne hdl] at nl; exact nl
  have s01 : Same H (upd H dn (.dK [])) := same_new ndn
  have s02 : Same H H2 := (same_put s01 ndn).trans s2
  refine ⟨_, _, rfl, _, rfl, a, vs, rfl, (Same.ext s02).sqT hs, for_it (walk_enumT (xs := vs)) (fun i σ H' => ∃ y4 y5 y6 kvs lv, σ = [some (.ref a), some (.int (n : Nat)), some (.ref dn), some (.ref l), y4, y5, y6] ∧ Same H H' ∧ H' dn = some (.dK kvs) ∧ Names kvs (wSt b n i).1 ∧ H' l = some (.lst lv) ∧ AtAll K H' lv ((wSt b n i).2.map stemD))
    ⟨none, none, none, _, [], rfl, s02, ed, ⟨rfl, fun k => rfl, Nat.le_refl 1⟩, el, AtAll.nil⟩ (fun i σ H' _ h => by obtain ⟨_, _, _, _, _, _, s', _⟩ := h; exact (Same.ext s').sqT hs) ?_ ?_⟩
  · rintro i x σ H3 H4 hi ⟨y4, y5, y6, kvs, lv, rfl, s3, ed3, hN, el3, hlv⟩ ⟨T, y, rfl, nT, s4, eT, hy⟩
    obtain ⟨st, sa, hst, rfl, hsa⟩ := bush_get hvs hy
    have s04 := s3.trans s4
    have hsa4 := (Same.ext s04).sqT hsa
    have hlo := hb.low i st hst
    have hib : i < b.length := by omega
    have hw := wSt_succ (n := n) hst
    have hwl := wSt_len (b := b) (n := n) i (by omega)
    have hb7 := hb.len
    refine ⟨T, _, rfl, SqT.of eT, rfl, _, _, rfl, _, _, rfl, sa, _, rfl, hsa4, rfl, _, _, rfl, _, _, rfl, rfl, rfl, ?_⟩
    have ed4 := s4 _ _ ed3
    have el4 := s4 _ _ el3
    have hg : DGet H4 dn (.int st.1) ((nameOf (wSt b n i).1 st.1).map V.int) := by
      rw [← hN.get hlo.1]
      exact DGet.k (k := .inl st.1) ed4
    have skip : wSt b n (i + 1) = ((wSt b n i).1 ++ [none], (wSt b n i).2) → Names kvs (wSt b n (i + 1)).1 ∧ AtAll K H4 lv ((wSt b n (i + 1)).2.map stemD) := fun e => by
      rw [e]
      exact ⟨hN.skip, hlv.ext (Same.ext s4)⟩
    refine ⟨_, rfl, _, rfl, rfl, _, rfl, ?_⟩
    by_cases hin : i = n
    · subst hin
      have e : wSt b i (i + 1) = ((wSt b i i).1 ++ [none], (wSt b i i).2) := by rw [hw]; unfold wStep; rw [if_pos rfl]
      refine ite2 (fun z => absurd z (by simp)) fun _ => iteF ⟨_, _, _, kvs, lv, rfl, s04, ed4, (skip e).1, el4, (skip e).2⟩
    · refine ite2 (fun _ => ?_) fun z => absurd (show (!decide (V.int (i : Int) = V.int (n : Int))) = true by
        rw [decide_eq_false (fun z => hin (by have := V.int.inj z; omega))]; rfl) z
      refine ⟨_, rfl, _, rfl, dn, _, rfl, hg, _, rfl, ?_⟩
      cases hj : nameOf (wSt b n i).1 st.1 with
      | none =>
        have e : wSt b n (i + 1) = ((wSt b n i).1 ++ [none], (wSt b n i).2) := by rw [hw]; unfold wStep; rw [if_neg hin, hj]
        exact iteF ⟨_, _, _, kvs, lv, rfl, s04, ed4, (skip e).1, el4, (skip e).2⟩
      | some j =>
        have e : wSt b n (i + 1) = ((wSt b n i).1 ++ [some (wSt b n i).2.length], (wSt b n i).2 ++ [(j, st.2)]) := by rw [hw]; unfold wStep; rw [if_neg hin, hj]
        have hll : lv.length = (wSt b n i).2.length := by rw [AtAll.len hlv.2, List.length_map]
        have hN2 := hN.put (wSt b n i).2.length
        rw [hwl.1, ← hll] at hN2
        refine iteT ⟨_, rfl, l, lv, rfl, .inl (SqL.of el4), _, rfl, _, rfl, dn, _, rfl, DPut.k (k := .inl (i : Int)) ed4 (by have := hN.len; rw [sizeLine_eq]; omega), ?_⟩
        have hld : l ≠ dn := hdl
        have el5 : (upd H4 dn (.dK (putK kvs (.inl (i : Int)) (.int (lv.length : Int))))) l = some (.lst lv) := by rw [upd_ne hld]; exact el4
        have ed5 : (upd H4 dn (.dK (putK kvs (.inl (i : Int)) (.int (lv.length : Int))))) dn = some (.dK (putK kvs (.inl (i : Int)) (.int (lv.length : Int)))) := upd_same
        have hg5 : DGet (upd H4 dn (.dK (putK kvs (.inl (i : Int)) (.int (lv.length : Int))))) dn (.int st.1) (some (.int j)) := by
          have h5 := DGet.k (k := .inl st.1) ed5
          rw [valV_put, if_neg (fun z => by have := Sum.inl.inj z; omega), hN.get hlo.1, hj] at h5
          exact h5
        have x45 : Ext H4 (upd H4 dn (.dK (putK kvs (.inl (i : Int)) (.int (lv.length : Int))))) := Ext.wr ed4 (fun _ z => nomatch z) (fun _ _ z => nomatch z)
        refine ⟨_, rfl, .inl ⟨rfl, _, SqL.of el5⟩, _, rfl, _, rfl, dn, _, rfl, hg5, _, rfl, szl rfl, fun t H6 nt s6 et => ?_⟩
        have el6 := s6 _ _ el5
        have x6 := Ext.lst (o := .lst (lv ++ [.ref t])) el6
        refine ⟨l, lv, .ref t, rfl, rfl, el6, by rw [sizeLine_eq]; omega, ?_⟩
        refine ⟨_, _, _, _, lv ++ [.ref t], rfl, same_put ((same_put s04 ndn).trans s6) nlH, by rw [upd_ne hld.symm]; exact s6 _ _ ed5, ?_, upd_same, ?_⟩
        · rw [e]
          show Names _ ((wSt b n i).1 ++ [some (wSt b n i).2.length])
          rw [← hll]; exact hN2
        · rw [e, List.map_append]
          exact AtAll.snoc ((at_stem (s := (j, st.2)) et).ext x6) ((hlv.ext (Same.ext s4)).ext (x45.trans ((Same.ext s6).trans x6)))
  · rintro σ H3 ⟨y4, y5, y6, kvs, lv, rfl, s3, ed3, hN, el3, hlv⟩
    rw [hlen] at hlv
    refine ⟨_, rfl, l, lv, rfl, SqL.of el3, fun p H4 np s4 e4 => ?_⟩
    exact q H4 p (s3.trans s4) (s3.free np) (At.tupO e4 (hlv.ext (Same.ext s4)))
/-! ### need_stem, need_player -/
def spNeedStem (K : PySem.W.Frag) (C : Nat → Addr) : Sp := fun vs H Q E => ∃ v v2 ds d, vs = [v, v2] ∧ At K H v (.tuple ds) ∧ Dp K H v2 d ∧ (whole d 0 (ds.length - 1) = true → ∀ H', Same H H' → Q .non H') ∧ (whole d 0 (ds.length - 1) = false → ∀ H', Same H H' → E (.ref (C 1)) none H')
theorem scNeedStem : FnScope ["bush", "number"] ["bush", "number"] (defScope s_need_stem) := ⟨rfl, rfl, rfl, by decide +kernel, rfl, by decide +kernel, by decide +kernel⟩
theorem k_need_stem (F : Here K mg "need_stem" s_need_stem) (B : Blt mg) (O : ExcOne K mg "InvalidStem" (C 1)) (d_whole : Keeps' P w K mg base CX0 1 "is_whole" ["value", "low", "high"] (spWhole K)) : Keeps' P w K mg base (L2N.CX P w) 2 "need_stem" ["bush", "number"] (spNeedStem K C) := by
  refine keepsN F scNeedStem (fun _ _ _ _ _ _ us hl => match us, hl with | [_, _], _ => rfl) (fun vs H Q E h => by obtain ⟨_, _, _, _, e, _⟩ := h; rw [e]; rfl) fun f cdv A outer s H vs Q E hr h => ?_
  obtain ⟨v, v2, ds, d, rfl, hA, hd, q1, q2⟩ := h
  obtain ⟨a, us, rfl, hs, hus⟩ := hA.inv
  have hl := AtAll.len hus.2
  refine ⟨_, pss_one (ps_if (pt_not (pt_val (pe_d0 d_whole (hr.mono (by decide)) (by rfl) (pa3 (pv 1) pe_int (pe_op op_sub (pb (call_len_seqK K) B.len PySem.boot_len (pa1 (pv 0))) pe_int)))))
      (pss_one (ps_raiseN rfl O (by rfl) rfl rfl rfl rfl))
      (pss_nil)), ?_⟩
  refine ⟨_, rfl, _, rfl, a, us, rfl, .inr hs, _, _, rfl, rfl, v2, d, 0, (us.length : Int) - 1, rfl, hd, _, rfl, ?_⟩
  rw [hl]
  cases hn : whole d 0 (ds.length - 1) with
  | true => exact q1 hn _ (Same.refl H)
  | false => exact q2 hn _ (Same.refl H)
end
end Sv

set_option maxHeartbeats 4000000
namespace Sv
open PySem PySem.Spec PyProof.Rows L2 L2H HotX LamX
/-! ### who may cut what -/
def mayB (b : Bsh) (c : Col) (j : Nat) : Bool := match b[j]? with
  | some s => s.2 == c || s.2 == .g
  | none => false
def cutsUp (b : Bsh) (c : Col) (i : Nat) : List Nat := (List.range i).filter (mayB b c)
def cutsB (b : Bsh) (c : Col) : List Nat := cutsUp b c b.length
theorem cutsUp_yes {b : Bsh} {c : Col} {i : Nat} (h : mayB b c i = true) : cutsUp b c (i + 1) = cutsUp b c i ++ [i] := by
  unfold cutsUp
  rw [List.range_succ, List.filter_append, List.filter_cons, if_pos h]; rfl
theorem cutsUp_no {b : Bsh} {c : Col} {i : Nat} (h : ¬ mayB b c i = true) : cutsUp b c (i + 1) = cutsUp b c i := by
  unfold cutsUp
  rw [List.range_succ, List.filter_append, List.filter_cons, if_neg h]; simp
theorem mayB_at {b : Bsh} {c : Col} {i : Nat} {s : Int × Col} (h : b[i]? = some s) : mayB b c i = (s.2 == c || s.2 == .g) := by
  unfold mayB
  rw [h]
theorem cs_beq (a c : Col) : (a.s == c.s) = (a == c) := by cases a <;> cases c <;> decide
theorem cs_inj {a c : Col} (h : a.s = c.s) : a = c := by
  have := cs_beq a c
  rw [h, beq_self_eq_true] at this
  exact of_decide_eq_true this.symm
/-- numbers as data -/
def natsD (ns : List Nat) : PyData := .tuple (ns.map fun (n : Nat) => .int n)
theorem atAll_nats {K : PySem.W.Frag} {H : Hp} : ∀ ns : List Nat, AtAll K H (ns.map fun (n : Nat) => V.int n) (ns.map fun (n : Nat) => PyData.int n)
  | [] => .nil
  | n :: ns => .cons (.int n) (atAll_nats ns)
theorem natsD_depth (ns : List Nat) : (natsD ns).depth ≤ 64 := by
  have : ∀ l : List Nat, PyData.depthAll (l.map fun (n : Nat) => PyData.int n) = 0 := by
    intro l
    induction l with
    | nil => rfl
    | cons n l ih => rw [List.map_cons, PyData.depthAll, ih]; rfl
  show PyData.depthAll _ + 1 ≤ 64
  rw [this]; decide
section
variable {P : Program} {w : World} {K : PySem.W.Frag} {mg : Str → Option Value} {base : Heap} {C : Nat → Addr} {CS : Addr}
/-! ### cuts_of -/
def spCutsOf (K : PySem.W.Frag) : Sp := fun vs H Q _ => ∃ (v : V) (b : Bsh) (c : Col), vs = [v, .str c.s] ∧ At K H v (bushD b) ∧ BushLo b ∧ ∀ H' p, Same H H' → H p = none → H' p = some (.lst ((cutsB b c).map fun (n : Nat) => V.int n)) → Q (.ref p) H'
theorem scCutsOf : FnScope ["bush", "player", "at", "below", "colour"] ["bush", "player"] (defScope s_cuts_of) := ⟨rfl, rfl, rfl, by decide +kernel, rfl, by decide +kernel, by decide +kernel⟩
theorem k_cuts_of (F : Here K mg "cuts_of" s_cuts_of) (B : Blt mg) : Keeps' P w K mg base CX0 1 "cuts_of" ["bush", "player"] (spCutsOf K) := by
  refine keeps0 F scCutsOf (fun _ _ _ _ _ _ us hl => match us, hl with | [_, _], _ => rfl) (fun vs H Q E h => by obtain ⟨_, _, _, e, _⟩ := h; rw [e]; rfl) fun f cdv A outer s H vs Q E hr h => ?_
  obtain ⟨v, b, c, rfl, hA, hb, q⟩ := h
  refine ⟨_, pss_one (ps_ret (pe_lc (own := [("at", 2), ("below", 3), ("colour", 4)]) rfl scCutsOf.nd (pi_enumT K (by rfl) B.enumerate (pa1 (pv 0))) (blkOk_by (own := [("at", 2), ("below", 3), ("colour", 4)]) (N := ["bush", "player", "at", "below", "colour"]) (sc := defScope s_cuts_of) (by decide +kernel)) (fun _ _ _ _ _ => pg_tupK K (n := 2) rfl (pgs_cons (pgn 2 scCutsOf.nd) (pgs_cons (pg_tupK K (n := 2) rfl (pgs_cons (pgn 3 scCutsOf.nd) (pgs_cons (pgn 4 scCutsOf.nd) pgs_nil))) pgs_nil))) (fun _ _ _ _ _ => pts_one (pt_cmpR (op_in_seqK K) (pv 4) (pe_tupN (pa2 (pv 1) pe_str)) (by rfl))) (fun _ _ _ _ _ => pv 2))), ?_⟩
  obtain ⟨a, vs, rfl, hs, hvs, hlen⟩ := bush_at hA
  have hb7 := hb.len
  refine ⟨_, rfl, a, vs, rfl, hs, ?_⟩
  refine lc_J (walk_enumT (xs := vs)) Same (fun D i ys H' => ys = (cutsUp b c i).map fun (n : Nat) => V.int n) (goes_same H) (by rw [sizeLine_eq]; omega) (fun H' t => (Same.ext t).sqT hs) (fun _ _ => rfl) (fun _ _ _ _ _ _ _ _ r => r) ?_ ?_
  · rintro D E E0 i x ys H1 H2 nD eD hi t rfl ⟨T, y, rfl, nT, s2, eT, hy⟩ k1 k0
    obtain ⟨st, sa, hst, rfl, hsa⟩ := bush_get hvs hy
    have hsa2 := (Same.ext (t.trans s2)).sqT hsa
    refine ⟨T, _, rfl, SqT.of eT, rfl, _, _, rfl, _, _, rfl, sa, _, rfl, hsa2, rfl, _, _, rfl, _, _, rfl, rfl, rfl, rfl, ?_⟩
    refine ⟨_, rfl, _, rfl, szl rfl, fun p H3 np s3 e3 => ⟨p, ([c.s, Col.g.s] : List Str).map V.str, rfl, .inr (SqT.of e3), rfl, rfl, _, rfl, ?_⟩⟩
    show if inV (.str st.2.s) (([c.s, Col.g.s] : List Str).map V.str) = true then _ else _
    rw [inV_strs]
    have e : ([c.s, Col.g.s] : List Str).contains st.2.s = mayB b c i := by
      rw [mayB_at hst, List.contains_cons, List.contains_cons, cs_beq, cs_beq, List.contains_nil, Bool.or_false]
    rw [e]
    refine ite2 (fun z => ⟨_, rfl, k1 _ _ (s2.trans s3) ?_⟩) fun z => k0 _ (s2.trans s3) ?_
    · rw [cutsUp_yes z, List.map_append]; rfl
    · rw [cutsUp_no z]
  · rintro D H1 ys nD t eD _ rfl
    rw [hlen] at eD
    exact q H1 D t nD eD
/-! ### the law's own -/
theorem scMoves : FnScope ["bush", "player", "at", "below", "colour"] ["bush", "player"] (defScope s_law_moves) := ⟨rfl, rfl, rfl, by decide +kernel, rfl, by decide +kernel, by decide +kernel⟩
theorem k_moves (F : Here K mg "_law_moves" s_law_moves) (B : Blt mg) : Keeps' P w K mg base CX0 1 "_law_moves" ["bush", "player"] (spCutsOf K) := by
  refine keeps0 F scMoves (fun _ _ _ _ _ _ us hl => match us, hl with | [_, _], _ => rfl) (fun vs H Q E h => by obtain ⟨_, _, _, e, _⟩ := h; rw [e]; rfl) fun f cdv A outer s H vs Q E hr h => ?_
  obtain ⟨v, b, c, rfl, hA, hb, q⟩ := h
  refine ⟨_, pss_one (ps_ret (pe_lc (own := [("at", 2), ("below", 3), ("colour", 4)]) rfl scMoves.nd (pi_enumT K (by rfl) B.enumerate (pa1 (pv 0))) (blkOk_by (own := [("at", 2), ("below", 3), ("colour", 4)]) (N := ["bush", "player", "at", "below", "colour"]) (sc := defScope s_law_moves) (by decide +kernel)) (fun _ _ _ _ _ => pg_tupK K (n := 2) rfl (pgs_cons (pgn 2 scMoves.nd) (pgs_cons (pg_tupK K (n := 2) rfl (pgs_cons (pgn 3 scMoves.nd) (pgs_cons (pgn 4 scMoves.nd) pgs_nil))) pgs_nil))) (fun _ _ _ _ _ => pts_one (PW.pt (pw_or (pt_cmpR op_eq (pv 4) (pv 1) (nomark _)) (pw_or1 (pt_cmpR op_eq (pv 4) pe_str (nomark _)))))) (fun _ _ _ _ _ => pv 2))), ?_⟩
  obtain ⟨a, vs, rfl, hs, hvs, hlen⟩ := bush_at hA
  have hb7 := hb.len
  refine ⟨_, rfl, a, vs, rfl, hs, ?_⟩
  refine lc_J (walk_enumT (xs := vs)) Same (fun D i ys H' => ys = (cutsUp b c i).map fun (n : Nat) => V.int n) (goes_same H) (by rw [sizeLine_eq]; omega) (fun H' t => (Same.ext t).sqT hs) (fun _ _ => rfl) (fun _ _ _ _ _ _ _ _ r => r) ?_ ?_
  · rintro D E E0 i x ys H1 H2 nD eD hi t rfl ⟨T, y, rfl, nT, s2, eT, hy⟩ k1 k0
    obtain ⟨st, sa, hst, rfl, hsa⟩ := bush_get hvs hy
    have hsa2 := (Same.ext (t.trans s2)).sqT hsa
    have yes : mayB b c i = true → List.map (fun (n : Nat) => V.int n) (cutsUp b c i) ++ [V.int (i : Nat)] = (cutsUp b c (i + 1)).map fun (n : Nat) => V.int n := fun z => by rw [cutsUp_yes z, List.map_append]; rfl
    refine ⟨T, _, rfl, SqT.of eT, rfl, _, _, rfl, _, _, rfl, sa, _, rfl, hsa2, rfl, _, _, rfl, _, _, rfl, rfl, rfl, rfl, ?_⟩
    refine ⟨_, rfl, _, rfl, rfl, _, rfl, ?_⟩
    by_cases h1 : st.2 = c
    · refine ite2 (fun _ => iteT ⟨_, rfl, k1 _ _ s2 (yes (by rw [mayB_at hst, h1, beq_self_eq_true]; rfl))⟩) fun z => absurd (decide_eq_true (by rw [h1])) z
    · refine ite2 (fun z => absurd (cs_inj (V.str.inj (of_decide_eq_true z))) h1) fun _ => ?_
      refine ⟨_, rfl, rfl, _, rfl, ?_⟩
      by_cases h2 : st.2 = .g
      · refine ite2 (fun _ => ⟨_, rfl, k1 _ _ s2 (yes (by rw [mayB_at hst, h2]; cases c <;> rfl))⟩) fun z => absurd (decide_eq_true (by rw [h2]; rfl)) z
      · refine ite2 (fun z => absurd (cs_inj (V.str.inj (of_decide_eq_true z) : st.2.s = Col.g.s)) h2) fun _ => k0 _ s2 ?_
        rw [cutsUp_no]
        rw [mayB_at hst, beq_eq_false_iff_ne.mpr h1, beq_eq_false_iff_ne.mpr h2]
        decide
  · rintro D H1 ys nD t eD _ rfl
    rw [hlen] at eD
    exact q H1 D t nD eD
/-- what the law's lists say -/
structure Gone (gs ns : List V) (st : List (Option Nat)) (n : Nat) : Prop where
  flat : gs.all flatV = true
  mem : ∀ k : Int, inV (.int k) gs = (decide (k = n) || (decide (0 ≤ k) && decide (k.toNat < st.length) && (st.getD k.toNat none).isNone))
  names : ns = st.map fun o => match o with | none => V.non | some j => V.int (j : Int)
  glen : gs.length ≤ st.length + 1
theorem inV_snoc {x y : V} {l : List V} : inV x (l ++ [y]) = (inV x l || eqV y x) := by
  unfold inV
  rw [List.any_append]
  simp
theorem Gone.skip {gs ns : List V} {st : List (Option Nat)} {n : Nat} (h : Gone gs ns st n) : Gone (gs ++ [.int (st.length : Int)]) (ns ++ [.non]) (st ++ [none]) n := by
  refine ⟨by rw [List.all_append, h.flat]; rfl, fun k => ?_, by rw [h.names, List.map_append]; rfl, by rw [List.length_append, List.length_append]; have := h.glen; simp; omega⟩
  rw [inV_snoc, h.mem k, Bool.or_assoc]
  congr 1
  show (_ || ((st.length : Int) == k)) = _
  rw [List.length_append, List.length_singleton, List.getD_eq_getElem?_getD, List.getD_eq_getElem?_getD]
  by_cases h0 : 0 ≤ k
  · rw [decide_eq_true h0, Bool.true_and, Bool.true_and]
    by_cases h1 : k.toNat < st.length
    · rw [decide_eq_true h1, decide_eq_true (show k.toNat < st.length + 1 by omega), List.getElem?_append_left h1, beq_eq_false_iff_ne.mpr (show (st.length : Int) ≠ k by omega), Bool.or_false]
    · by_cases h2 : k.toNat = st.length
      · rw [decide_eq_false h1, Bool.false_and, Bool.false_or, decide_eq_true (show k.toNat < st.length + 1 by omega), h2, List.getElem?_append_right (Nat.le_refl _), Nat.sub_self]
        have : (st.length : Int) = k := by omega
        rw [this, beq_self_eq_true]; rfl
      · rw [decide_eq_false h1, decide_eq_false (show ¬ k.toNat < st.length + 1 by omega), beq_eq_false_iff_ne.mpr (show (st.length : Int) ≠ k by omega)]; rfl
  · rw [decide_eq_false h0, beq_eq_false_iff_ne.mpr (show (st.length : Int) ≠ k by omega)]; rfl
theorem Gone.put {gs ns : List V} {st : List (Option Nat)} {n : Nat} (h : Gone gs ns st n) (j : Nat) : Gone gs (ns ++ [.int (j : Int)]) (st ++ [some j]) n := by
  refine ⟨h.flat, fun k => ?_, by rw [h.names, List.map_append]; rfl, by rw [List.length_append]; have := h.glen; omega⟩
  rw [h.mem k]
  congr 1
  rw [List.length_append, List.length_singleton, List.getD_eq_getElem?_getD, List.getD_eq_getElem?_getD]
  by_cases h0 : 0 ≤ k
  · rw [decide_eq_true h0, Bool.true_and, Bool.true_and]
    by_cases h1 : k.toNat < st.length
    · rw [decide_eq_true h1, decide_eq_true (show k.toNat < st.length + 1 by omega), List.getElem?_append_left h1]
    · by_cases h2 : k.toNat = st.length
      · rw [decide_eq_false h1, Bool.false_and, decide_eq_true (show k.toNat < st.length + 1 by omega), h2, List.getElem?_append_right (Nat.le_refl _), Nat.sub_self]; rfl
      · rw [decide_eq_false h1, decide_eq_false (show ¬ k.toNat < st.length + 1 by omega)]; rfl
  · rw [decide_eq_false h0]; rfl
/-- the stem that is cut has no name -/
theorem wSt_gone {b : Bsh} {n : Nat} : ∀ i, i ≤ b.length → n < i → (wSt b n i).1.getD n none = none
  | 0, _, h => by omega
  | i + 1, h, hn => by
    have hl := wSt_len (b := b) (n := n) i (by omega)
    rw [wSt_succ (List.getElem?_eq_getElem (show i < b.length by omega))]
    unfold wStep
    by_cases e : i = n
    · rw [if_pos e]
      show ((wSt b n i).1 ++ [none]).getD n none = none
      rw [List.getD_eq_getElem?_getD, List.getElem?_append_right (by omega), hl.1, e, Nat.sub_self]; rfl
    · have ih := wSt_gone (b := b) (n := n) i (by omega) (by omega)
      rw [if_neg e]
      rw [List.getD_eq_getElem?_getD] at ih
      split
      · show ((wSt b n i).1 ++ [none]).getD n none = none
        rw [List.getD_eq_getElem?_getD, List.getElem?_append_left (by omega)]; exact ih
      · show ((wSt b n i).1 ++ [some _]).getD n none = none
        rw [List.getD_eq_getElem?_getD, List.getElem?_append_left (by omega)]; exact ih
theorem scLWithout : FnScope ["bush", "number", "gone", "names", "found", "at", "below", "colour"] ["bush", "number"] (defScope s_law_without) := ⟨rfl, rfl, rfl, by decide +kernel, rfl, by decide +kernel, by decide +kernel⟩
theorem k_law_without (F : Here K mg "_law_without" s_law_without) (B : Blt mg) : Keeps' P w K mg base CX0 1 "_law_without" ["bush", "number"] (spWithout K) := by
  refine keeps0 F scLWithout (fun _ _ _ _ _ _ us hl => match us, hl with | [_, _], _ => rfl) (fun vs H Q E h => by obtain ⟨_, _, _, e, _⟩ := h; rw [e]; rfl) fun f cdv A outer s H vs Q E hr h => ?_
  obtain ⟨v, b, n, rfl, hA, hb, q⟩ := h
  refine ⟨_, pss_cons (ps_par3 (i := 2) (j := 3) (l := 4) rfl scLWithout.nd rfl rfl rfl (by decide) (by decide) (by decide) rfl rfl rfl (pa3 (pe_lstN (pa1 (pv 1))) (pe_lstN pa_nil) (pe_lstN pa_nil)) (by rfl))
    (pss_cons (ps_for PassesOwn.never rfl (pi_enumT K (by rfl) B.enumerate (pa1 (pv 0))) (pg_tupK K (n := 2) rfl (pgs_cons (pgn 5 scLWithout.nd) (pgs_cons (pg_tupK K (n := 2) rfl (pgs_cons (pgn 6 scLWithout.nd) (pgs_cons (pgn 7 scLWithout.nd) pgs_nil))) pgs_nil)))
      (pss_one (ps_if (PW.pt (pw_or (pt_cmpR (op_in_seqK K) (pv 5) (pv 2) (by rfl)) (pw_or1 (pt_cmpR (op_in_seqK K) (pv 6) (pv 2) (by rfl)))))
          (pss_cons (ps_expr (pe_bm PySem.F.plainAttrs_list PySem.F.slot_list_append PySem.F.type_list_append mt_append (pv 2) (pa1 (pv 5))))
            (pss_one (ps_expr (pe_bm PySem.F.plainAttrs_list PySem.F.slot_list_append PySem.F.type_list_append mt_append (pv 3) (pa1 pe_non)))))
          (pss_cons (ps_expr (pe_bm PySem.F.plainAttrs_list PySem.F.slot_list_append PySem.F.type_list_append mt_append (pv 3) (pa1 (pb (call_len_seqK K) B.len PySem.boot_len (pa1 (pv 4))))))
            (pss_one (ps_expr (pe_bm PySem.F.plainAttrs_list PySem.F.slot_list_append PySem.F.type_list_append mt_append (pv 4) (pa1 (pe_tupN (pa2 (pe_ifExp (pt_cmpR op_lt (pv 6) pe_int (nomark _)) (pe_un un_neg pe_int) (pe_ix (ix_listK K) (pv 3) (pv 6) (fun _ _ => rfl))) (pv 7)))))))))))
    (pss_one (ps_ret (pbt (call_tupleK K) B.tuple boot_tuple (pa1 (pv 4)))))), ?_⟩
  obtain ⟨a, vs, rfl, hs, hvs, hlen⟩ := bush_at hA
  have hb7 := hb.len
  refine ⟨_, rfl, szl rfl, fun g H1 ng s1 eg => ⟨szl rfl, fun m H2 nm s2 em => ⟨szl rfl, fun l H3 nl s3 el => ?_⟩⟩⟩
  have hmg : m ≠ g := fun z => by rw [z, eg] at nm; cases nm
  have hlg : l ≠ g := fun z => by rw [z, s2 _ _ eg] at nl; cases nl
  have hlm : l ≠ m := fun z => by rw [z, em] at nl; cases nl
  have nmH : H m = none := s1.free nm
  have nlH : H l = none := s1.free (s2.free nl)
  have s03 := s1.trans (s2.trans s3)
  refine ⟨_, _, _, rfl, _, rfl, a, vs, rfl, (Same.ext s03).sqT hs, for_it (walk_enumT (xs := vs)) (fun i σ H' => ∃ y5 y6 y7 gs ns lv, σ = [some (.ref a), some (.int (n : Nat)), some (.ref g), some (.ref m), some (.ref l), y5, y6, y7] ∧ Same H H' ∧
      H' g = some (.lst gs) ∧ H' m = some (.lst ns) ∧ H' l = some (.lst lv) ∧ Gone gs ns (wSt b n i).1 n ∧ AtAll K H' lv ((wSt b n i).2.map stemD))
    ⟨none, none, none, _, _, _, rfl, s03, s3 _ _ (s2 _ _ eg), s3 _ _ em, el, ⟨rfl, fun k => ?_, rfl, Nat.le_refl 1⟩, AtAll.nil⟩ (fun i σ H' _ h => by obtain ⟨_, _, _, _, _, _, _, s', _⟩ := h; exact (Same.ext s').sqT hs) ?_ ?_⟩
  · show (((n : Int) == k) || false) = (decide (k = n) || (decide (0 ≤ k) && decide (k.toNat < 0) && true))
    rw [Bool.or_false, decide_eq_false (show ¬ k.toNat < 0 by omega), Bool.and_false, Bool.false_and, Bool.or_false]
    by_cases e : k = n
    · rw [e, decide_eq_true rfl, beq_self_eq_true]
    · rw [decide_eq_false e, beq_eq_false_iff_ne.mpr (Ne.symm e)]
  · rintro i x σ H4 H5 hi ⟨y5, y6, y7, gs, ns, lv, rfl, s4, eg4, em4, el4, hG, hlv⟩ ⟨T, y, rfl, nT, s5, eT, hy⟩
    obtain ⟨st, sa, hst, rfl, hsa⟩ := bush_get hvs hy
    have s05 := s4.trans s5
    have hsa5 := (Same.ext s05).sqT hsa
    have hlo := hb.low i st hst
    have hib : i < b.length := by omega
    have hw := wSt_succ (n := n) hst
    have hwl := wSt_len (b := b) (n := n) i (by omega)
    have eg5 := s5 _ _ eg4
    have em5 := s5 _ _ em4
    have el5 := s5 _ _ el4
    refine ⟨T, _, rfl, SqT.of eT, rfl, _, _, rfl, _, _, rfl, sa, _, rfl, hsa5, rfl, _, _, rfl, _, _, rfl, rfl, rfl, ?_⟩
    refine ⟨_, rfl, _, rfl, g, gs, rfl, .inl (SqL.of eg5), rfl, hG.flat, _, rfl, ?_⟩
    have hgl := hG.glen
    have hnl : ns.length = i := by rw [hG.names, List.length_map, hwl.1]
    have hlvl : lv.length = (wSt b n i).2.length := by rw [AtAll.len hlv.2, List.length_map]
    have in1 : inV (.int (i : Int)) gs = decide (i = n) := by
      rw [hG.mem, decide_eq_false (show ¬ ((i : Int)).toNat < (wSt b n i).1.length by omega), Bool.and_false, Bool.false_and, Bool.or_false]
      by_cases e : i = n
      · rw [decide_eq_true e, decide_eq_true (by rw [e])]
      · rw [decide_eq_false e, decide_eq_false (by omega)]
    show if inV (.int (i : Int)) gs = true then _ else _
    rw [in1]
    by_cases hin : i = n
    · have e : wSt b n (i + 1) = ((wSt b n i).1 ++ [none], (wSt b n i).2) := by rw [hw]; unfold wStep; rw [if_pos hin]
      refine ite2 (fun _ => ?_) fun z => absurd (decide_eq_true hin) z
      refine iteT ?_
      refine ⟨_, rfl, .inl ⟨rfl, _, SqL.of eg5⟩, _, rfl, g, gs, .int (i : Nat), rfl, rfl, eg5, by rw [sizeLine_eq]; omega, ?_⟩
      have em6 : (upd H5 g (.lst (gs ++ [.int (i : Nat)]))) m = some (.lst ns) := by rw [upd_ne hmg]; exact em5
      refine ⟨_, rfl, .inl ⟨rfl, _, SqL.of em6⟩, m, ns, .non, rfl, rfl, em6, by rw [sizeLine_eq]; omega, ?_⟩
      refine ⟨_, _, _, gs ++ [.int (i : Nat)], ns ++ [.non], lv, rfl, same_put (same_put s05 ng) nmH, by rw [upd_ne hmg.symm]; exact upd_same, upd_same, by rw [upd_ne hlm, upd_ne hlg]; exact el5, ?_, ?_⟩
      · rw [e]; have := hG.skip; rw [hwl.1] at this; exact this
      · rw [e]; exact (hlv.ext (Same.ext s5)).ext ((Ext.lst eg5).trans (Ext.lst em6))
    · refine ite2 (fun z => absurd (of_decide_eq_true z) hin) fun _ => ?_
      refine ⟨_, rfl, _, rfl, g, gs, rfl, .inl (SqL.of eg5), rfl, hG.flat, _, rfl, ?_⟩
      have in2 : inV (.int st.1) gs = (nameOf (wSt b n i).1 st.1).isNone := by
        rw [hG.mem]
        unfold nameOf
        by_cases h0 : st.1 < 0
        · rw [if_pos h0, decide_eq_false (show ¬ st.1 = n by omega), decide_eq_false (show ¬ 0 ≤ st.1 by omega)]; rfl
        · rw [if_neg h0, decide_eq_true (show 0 ≤ st.1 by omega), decide_eq_true (show st.1.toNat < (wSt b n i).1.length by omega), Bool.true_and, Bool.true_and]
          by_cases e : st.1 = n
          · have := wSt_gone (b := b) (n := n) i (by omega) (by omega)
            rw [show st.1.toNat = n by omega, this, decide_eq_true e]; rfl
          · rw [decide_eq_false e, Bool.false_or]
            cases (wSt b n i).1.getD st.1.toNat none <;> rfl
      show if inV (.int st.1) gs = true then _ else _
      rw [in2]
      cases hj : nameOf (wSt b n i).1 st.1 with
      | none =>
        have e : wSt b n (i + 1) = ((wSt b n i).1 ++ [none], (wSt b n i).2) := by rw [hw]; unfold wStep; rw [if_neg hin, hj]
        refine iteT ?_
        refine ⟨_, rfl, .inl ⟨rfl, _, SqL.of eg5⟩, _, rfl, g, gs, .int (i : Nat), rfl, rfl, eg5, by rw [sizeLine_eq]; omega, ?_⟩
        have em6 : (upd H5 g (.lst (gs ++ [.int (i : Nat)]))) m = some (.lst ns) := by rw [upd_ne hmg]; exact em5
        refine ⟨_, rfl, .inl ⟨rfl, _, SqL.of em6⟩, m, ns, .non, rfl, rfl, em6, by rw [sizeLine_eq]; omega, ?_⟩
        refine ⟨_, _, _, gs ++ [.int (i : Nat)], ns ++ [.non], lv, rfl, same_put (same_put s05 ng) nmH, by rw [upd_ne hmg.symm]; exact upd_same, upd_same, by rw [upd_ne hlm, upd_ne hlg]; exact el5, ?_, ?_⟩
        · rw [e]; have := hG.skip; rw [hwl.1] at this; exact this
        · rw [e]; exact (hlv.ext (Same.ext s5)).ext ((Ext.lst eg5).trans (Ext.lst em6))
      | some j =>
        have e : wSt b n (i + 1) = ((wSt b n i).1 ++ [some (wSt b n i).2.length], (wSt b n i).2 ++ [(j, st.2)]) := by rw [hw]; unfold wStep; rw [if_neg hin, hj]
        refine iteF ⟨_, rfl, .inl ⟨rfl, _, SqL.of em5⟩, _, rfl, l, lv, rfl, .inl (SqL.of el5), m, ns, _, rfl, rfl, em5, by rw [sizeLine_eq]; omega, ?_⟩
        have em6 : (upd H5 m (.lst (ns ++ [.int (lv.length : Int)]))) m = some (.lst (ns ++ [.int (lv.length : Int)])) := upd_same
        have el6 : (upd H5 m (.lst (ns ++ [.int (lv.length : Int)]))) l = some (.lst lv) := by rw [upd_ne hlm]; exact el5
        have eg6 : (upd H5 m (.lst (ns ++ [.int (lv.length : Int)]))) g = some (.lst gs) := by rw [upd_ne hmg.symm]; exact eg5
        have x56 : Ext H5 (upd H5 m (.lst (ns ++ [.int (lv.length : Int)]))) := Ext.lst em5
        have s06 : Same H (upd H5 m (.lst (ns ++ [.int (lv.length : Int)]))) := same_put s05 nmH
        have fin : ∀ (t : Addr) (H7 : Hp), Same (upd H5 m (.lst (ns ++ [.int (lv.length : Int)]))) H7 → H7 t = some (.tup [.int j, .str st.2.s]) → Same H (upd H7 l (.lst (lv ++ [.ref t]))) ∧ (upd H7 l (.lst (lv ++ [.ref t]))) g = some (.lst gs) ∧ (upd H7 l (.lst (lv ++ [.ref t]))) m = some (.lst (ns ++ [.int (lv.length : Int)])) ∧
            Gone gs (ns ++ [.int (lv.length : Int)]) (wSt b n (i + 1)).1 n ∧ AtAll K (upd H7 l (.lst (lv ++ [.ref t]))) (lv ++ [.ref t]) ((wSt b n (i + 1)).2.map stemD) := fun t H7 s7 et => by
          have x7 := Ext.lst (o := .lst (lv ++ [.ref t])) (s7 _ _ el6)
          refine ⟨same_put (s06.trans s7) nlH, by rw [upd_ne hlg.symm]; exact s7 _ _ eg6, by rw [upd_ne hlm.symm]; exact s7 _ _ em6, ?_, ?_⟩
          · rw [e]
            show Gone gs _ ((wSt b n i).1 ++ [some (wSt b n i).2.length]) n
            rw [← hlvl]; exact hG.put lv.length
          · rw [e, List.map_append]
            exact AtAll.snoc ((at_stem (s := (j, st.2)) et).ext x7) ((hlv.ext (Same.ext s5)).ext (x56.trans ((Same.ext s7).trans x7)))
        refine ⟨_, rfl, .inl ⟨rfl, _, SqL.of el6⟩, _, rfl, _, _, rfl, rfl, _, rfl, ?_⟩
        unfold nameOf at hj
        by_cases h0 : st.1 < 0
        · rw [if_pos h0] at hj
          have hj1 : j = -1 := (Option.some.inj hj).symm
          refine ite2 (fun _ => ?_) fun z => absurd (decide_eq_true h0) z
          refine ⟨_, rfl, _, rfl, szl rfl, fun t H7 nt s7 et => ⟨l, lv, .ref t, rfl, rfl, s7 _ _ el6, by rw [sizeLine_eq]; omega, ?_⟩⟩
          obtain ⟨f1, f2, f3, f4, f5⟩ := fin t H7 s7 (by rw [hj1]; exact et)
          exact ⟨_, _, _, gs, _, _, rfl, f1, f2, f3, upd_same, f4, f5⟩
        · rw [if_neg h0] at hj
          refine ite2 (fun z => absurd (of_decide_eq_true z) h0) fun _ => ?_
          have hat : atI (ns ++ [V.int (lv.length : Int)]) st.1 = some (.int j) := by
            have e1 : ((st.1.toNat : Nat) : Int) = st.1 := by omega
            rw [← e1]
            refine atI_nat ?_
            rw [List.getElem?_append_left (by omega), hG.names, List.getElem?_map]
            rw [List.getD_eq_getElem?_getD] at hj
            cases q1 : (wSt b n i).1[st.1.toNat]? with
            | none => rw [q1] at hj; cases hj
            | some o =>
              rw [q1] at hj
              cases o with
              | none => cases hj
              | some k => rw [← Option.some.inj hj]; rfl
          refine ⟨_, rfl, _, rfl, m, _, _, _, rfl, rfl, SqL.of em6, hat, _, rfl, szl rfl, fun t H7 nt s7 et => ⟨l, lv, .ref t, rfl, rfl, s7 _ _ el6, by rw [sizeLine_eq]; omega, ?_⟩⟩
          obtain ⟨f1, f2, f3, f4, f5⟩ := fin t H7 s7 et
          exact ⟨_, _, _, gs, _, _, rfl, f1, f2, f3, upd_same, f4, f5⟩
  · rintro σ H4 ⟨y5, y6, y7, gs, ns, lv, rfl, s4, eg4, em4, el4, hG, hlv⟩
    rw [hlen] at hlv
    refine ⟨_, rfl, l, lv, rfl, SqL.of el4, fun p H5 np s5 e5 => ?_⟩
    exact q H5 p (s4.trans s5) (s4.free np) (At.tupO e5 (hlv.ext (Same.ext s5)))
end
end Sv

set_option maxHeartbeats 4000000
namespace Sv
open PySem PySem.Spec PyProof.Rows L2 L2H HotX LamX
/-! ### cutting keeps a bush a bush, and makes it smaller -/
def WOk (st : List (Option Nat) × Bsh) (n i : Nat) : Prop := (∀ (k j : Nat), st.1[k]? = some (some j) → j < st.2.length) ∧ (∀ (k : Nat) (s : Int × Col), st.2[k]? = some s → -1 ≤ s.1 ∧ s.1 < k) ∧ st.2.length ≤ i ∧ (n < i → st.2.length < i)
theorem wSt_ok {b : Bsh} {n : Nat} (hb : BushLo b) : ∀ i, i ≤ b.length → WOk (wSt b n i) n i
  | 0, _ => by
    refine ⟨fun k j h => ?_, fun k s h => ?_, Nat.le_refl _, fun h => absurd h (by omega)⟩
    · simp [wSt] at h
    · simp [wSt] at h
  | i + 1, hi => by
    obtain ⟨h1, h2, h3, h4⟩ := wSt_ok (n := n) hb i (by omega)
    have hg : b[i]? = some b[i] := List.getElem?_eq_getElem (show i < b.length by omega)
    have hl := wSt_len (b := b) (n := n) i (by omega)
    rw [wSt_succ hg]
    have skip : wStep n i b[i] (wSt b n i) = ((wSt b n i).1 ++ [none], (wSt b n i).2) → WOk (wStep n i b[i] (wSt b n i)) n (i + 1) := fun e => by
      rw [e]
      show (∀ (k j : Nat), ((wSt b n i).1 ++ [none])[k]? = some (some j) → j < (wSt b n i).2.length) ∧ (∀ (k : Nat) (s : Int × Col), (wSt b n i).2[k]? = some s → -1 ≤ s.1 ∧ s.1 < k) ∧ (wSt b n i).2.length ≤ i + 1 ∧ (n < i + 1 → (wSt b n i).2.length < i + 1)
      refine ⟨fun k j h => ?_, h2, by omega, fun _ => by omega⟩
      by_cases hk : k < (wSt b n i).1.length
      · rw [List.getElem?_append_left hk] at h; exact h1 k j h
      · rw [List.getElem?_append_right (by omega)] at h
        cases q : k - (wSt b n i).1.length with
        | zero => rw [q] at h; simp at h
        | succ m => rw [q] at h; simp at h
    by_cases hin : i = n
    · exact skip (by unfold wStep; rw [if_pos hin])
    · cases hj : nameOf (wSt b n i).1 b[i].1 with
      | none => exact skip (by unfold wStep; rw [if_neg hin, hj])
      | some j =>
        have e : wStep n i b[i] (wSt b n i) = ((wSt b n i).1 ++ [some (wSt b n i).2.length], (wSt b n i).2 ++ [(j, b[i].2)]) := by unfold wStep; rw [if_neg hin, hj]
        rw [e]
        have hjl : -1 ≤ j ∧ j < (wSt b n i).2.length := by
          unfold nameOf at hj
          split at hj
          · cases hj; omega
          · rename_i hneg
            rw [List.getD_eq_getElem?_getD] at hj
            cases q : (wSt b n i).1[(b[i].1).toNat]? with
            | none => rw [q] at hj; cases hj
            | some o =>
              rw [q] at hj
              cases o with
              | none => cases hj
              | some j' =>
                cases hj
                have := h1 _ _ q
                show -1 ≤ (j' : Int) ∧ (j' : Int) < _
                omega
        refine ⟨fun k m h => ?_, fun k s h => ?_, ?_, fun hn => ?_⟩
        · show m < ((wSt b n i).2 ++ [(j, b[i].2)]).length
          rw [List.length_append, List.length_singleton]
          by_cases hk : k < (wSt b n i).1.length
          · have h : ((wSt b n i).1 ++ [some (wSt b n i).2.length])[k]? = some (some m) := h
            rw [List.getElem?_append_left hk] at h; have := h1 k m h; omega
          · have h : ((wSt b n i).1 ++ [some (wSt b n i).2.length])[k]? = some (some m) := h
            rw [List.getElem?_append_right (by omega)] at h
            cases q : k - (wSt b n i).1.length with
            | zero => rw [q] at h; simp at h; omega
            | succ m => rw [q] at h; simp at h
        · have h : ((wSt b n i).2 ++ [(j, b[i].2)])[k]? = some s := h
          by_cases hk : k < (wSt b n i).2.length
          · rw [List.getElem?_append_left hk] at h; exact h2 k s h
          · rw [List.getElem?_append_right (by omega)] at h
            cases q : k - (wSt b n i).2.length with
            | zero =>
              rw [q] at h; simp at h; subst h
              exact ⟨hjl.1, by show j < _; omega⟩
            | succ m => rw [q] at h; simp at h
        · show ((wSt b n i).2 ++ [(j, b[i].2)]).length ≤ i + 1
          rw [List.length_append, List.length_singleton]; omega
        · show ((wSt b n i).2 ++ [(j, b[i].2)]).length < i + 1
          rw [List.length_append, List.length_singleton]
          have := h4 (by omega)
          omega
theorem without_lo {b : Bsh} {n : Nat} (hb : BushLo b) : BushLo (withoutB b n) := by
  obtain ⟨_, h2, h3, _⟩ := wSt_ok (n := n) hb b.length (Nat.le_refl _)
  exact ⟨Nat.le_trans h3 hb.len, h2⟩
theorem without_lt {b : Bsh} {n : Nat} (hb : BushLo b) (hn : n < b.length) : (withoutB b n).length < b.length := (wSt_ok (n := n) hb b.length (Nat.le_refl _)).2.2.2 hn
theorem without_le {b : Bsh} {n : Nat} (hb : BushLo b) : (withoutB b n).length ≤ b.length := (wSt_ok (n := n) hb b.length (Nat.le_refl _)).2.2.1
theorem without_ok {b : Bsh} {n : Nat} (hb : BushOk b) : BushOk (withoutB b n) := ⟨Nat.le_trans (without_le hb.lo) hb.len, (without_lo hb.lo).low⟩
theorem cutsB_lt {b : Bsh} {c : Col} {i : Nat} (h : i ∈ cutsB b c) : i < b.length := by
  unfold cutsB cutsUp at h
  exact List.mem_range.mp (List.mem_filter.mp h).1
/-! ### who wins -/
def Col.opp : Col → Col
  | .w => .b
  | .b => .w
  | .g => .g
def winsF : Nat → Bsh → Col → Bool
  | 0, _, _ => false
  | n + 1, b, c => (cutsB b c).any fun i => !winsF n (withoutB b i) c.opp
/-- whether the player c, who begins, wins b -/
def wins (b : Bsh) (c : Col) : Bool := winsF b.length b c
theorem winsF_eq : ∀ (n m : Nat) (b : Bsh) (c : Col), BushLo b → b.length ≤ n → b.length ≤ m → winsF n b c = winsF m b c
  | 0, 0, _, _, _, _, _ => rfl
  | 0, m + 1, b, c, _, h, _ => by
    have : b = [] := List.eq_nil_of_length_eq_zero (by omega)
    subst this
    rfl
  | n + 1, 0, b, c, _, _, h => by
    have : b = [] := List.eq_nil_of_length_eq_zero (by omega)
    subst this
    rfl
  | n + 1, m + 1, b, c, hb, h1, h2 => by
    show (cutsB b c).any _ = (cutsB b c).any _
    rw [Bool.eq_iff_iff, List.any_eq_true, List.any_eq_true]
    have key : ∀ i ∈ cutsB b c, winsF n (withoutB b i) c.opp = winsF m (withoutB b i) c.opp := fun i hi => by
      have := without_lt hb (cutsB_lt hi)
      exact winsF_eq n m _ _ (without_lo hb) (by omega) (by omega)
    constructor
    · rintro ⟨i, hi, h⟩; exact ⟨i, hi, by rw [← key i hi]; exact h⟩
    · rintro ⟨i, hi, h⟩; exact ⟨i, hi, by rw [key i hi]; exact h⟩
theorem wins_eq {b : Bsh} {c : Col} (hb : BushLo b) : wins b c = (cutsB b c).any fun i => !wins (withoutB b i) c.opp := by
  unfold wins
  rw [winsF_eq b.length (b.length + 1) b c hb (Nat.le_refl _) (by omega)]
  show (cutsB b c).any _ = (cutsB b c).any _
  rw [Bool.eq_iff_iff, List.any_eq_true, List.any_eq_true]
  have key : ∀ i ∈ cutsB b c, winsF b.length (withoutB b i) c.opp = winsF (withoutB b i).length (withoutB b i) c.opp := fun i hi => by
    have := without_lt hb (cutsB_lt hi)
    exact winsF_eq _ _ _ _ (without_lo hb) (by omega) (by omega)
  constructor
  · rintro ⟨i, hi, h⟩; exact ⟨i, hi, by rw [← key i hi]; exact h⟩
  · rintro ⟨i, hi, h⟩; exact ⟨i, hi, by rw [key i hi]; exact h⟩
/-! ### what may come of a bush, by cuts -/
def reachF : Nat → Bsh → List Bsh
  | 0, b => [b]
  | n + 1, b => b :: (List.range b.length).flatMap fun i => reachF n (withoutB b i)
def reachN : Nat → Nat
  | 0 => 1
  | n + 1 => 1 + (n + 1) * reachN n
theorem flat_len {α β : Type} (f : α → List β) (m : Nat) : ∀ l : List α, (∀ x ∈ l, (f x).length ≤ m) → (l.flatMap f).length ≤ l.length * m
  | [], _ => by simp
  | x :: l, h => by
    rw [List.flatMap_cons, List.length_append, List.length_cons, Nat.add_mul]
    have h1 := h x (List.mem_cons_self ..)
    have h2 := flat_len f m l fun y hy => h y (List.mem_cons_of_mem _ hy)
    omega
theorem reachN_mono : ∀ n, reachN n ≤ reachN (n + 1)
  | 0 => by decide
  | n + 1 => by
    show 1 + (n + 1) * reachN n ≤ 1 + (n + 2) * reachN (n + 1)
    have := Nat.mul_le_mul (show n + 1 ≤ n + 2 by omega) (reachN_mono n)
    omega
theorem reachF_len : ∀ (n : Nat) (b : Bsh), BushLo b → b.length ≤ n → (reachF n b).length ≤ reachN n
  | 0, _, _, _ => Nat.le_refl _
  | n + 1, b, hb, h => by
    show (b :: _).length ≤ _
    rw [List.length_cons]
    have := flat_len (fun i => reachF n (withoutB b i)) (reachN n) (List.range b.length) fun i hi => by
      have h2 := without_lt hb (List.mem_range.mp hi)
      exact reachF_len n _ (without_lo hb) (by omega)
    rw [List.length_range] at this
    have h3 := Nat.mul_le_mul_right (reachN n) h
    show _ ≤ 1 + (n + 1) * reachN n
    omega
theorem reachF_self : ∀ (n : Nat) (b : Bsh), b ∈ reachF n b
  | 0, b => List.mem_singleton.mpr rfl
  | n + 1, b => List.mem_cons_self ..
theorem reachF_cut : ∀ (n : Nat) (b c : Bsh) (i : Nat), BushLo b → b.length ≤ n → c ∈ reachF n b → i < c.length → withoutB c i ∈ reachF n b
  | 0, b, c, i, _, h, hc, hi => by
    have : c = b := List.mem_singleton.mp hc
    subst this
    omega
  | n + 1, b, c, i, hb, h, hc, hi => by
    rcases List.mem_cons.mp hc with rfl | hc
    · exact List.mem_cons_of_mem _ (List.mem_flatMap.mpr ⟨i, List.mem_range.mpr hi, reachF_self _ _⟩)
    · obtain ⟨j, hj, hc⟩ := List.mem_flatMap.mp hc
      have h2 := without_lt hb (List.mem_range.mp hj)
      exact List.mem_cons_of_mem _ (List.mem_flatMap.mpr ⟨j, hj, reachF_cut n _ c i (without_lo hb) (by omega) hc hi⟩)
end Sv

set_option maxHeartbeats 4000000
namespace Sv
open PySem PySem.Spec PyProof.Rows L2 L2H HotX LamX
/-! ### the dict of what is known -/
def wkeyD (b : Bsh) (c : Col) : PyData := .tuple [bushD b, .str c.s]
theorem wkey_pl (b : Bsh) (c : Col) : pl (wkeyD b c) = true := by
  show (pl (bushD b) && (PyData.strOk c.s && true)) = true
  rw [pl_bush, col_ok]; rfl
theorem wkey_depth (b : Bsh) (c : Col) : (wkeyD b c).depth ≤ 8 := by
  show max (PyData.depthAll (b.map stemD) + 1) (max 0 0) + 1 ≤ 8
  have := depth_stems b
  omega
theorem wkey_inj {b b' : Bsh} {c c' : Col} (h : nk (wkeyD b c) = nk (wkeyD b' c')) : b = b' ∧ c = c' := by
  have h := nk_inj _ _ (wkey_pl _ _) (wkey_pl _ _) h
  have h := PyData.tuple.inj h
  simp only [List.cons.injEq, and_true] at h
  exact ⟨bushD_inj h.1, cs_inj (PyData.str.inj h.2)⟩
/-- what stands in the dict is right -/
def Known (b0 : Bsh) (D : NestedKey → Option V) : Prop := ∀ k v, D k = some v → ∃ b c, k = nk (wkeyD b c) ∧ b ∈ reachF b0.length b0 ∧ v = .bl (wins b c)
theorem Known.nil (b0 : Bsh) : Known b0 (fun _ => none) := fun _ _ z => nomatch z
theorem Known.put {b0 b : Bsh} {D : NestedKey → Option V} {c : Col} (h : Known b0 D) (hb : b ∈ reachF b0.length b0) : Known b0 (putD D (nk (wkeyD b c)) (.bl (wins b c))) := fun k v e => by
  unfold putD at e
  split at e
  · rename_i e1
    exact ⟨b, c, e1, hb, (Option.some.inj e).symm⟩
  · exact h k v e
theorem Known.get {b0 b : Bsh} {D : NestedKey → Option V} {c : Col} {v : V} (h : Known b0 D) (e : D (nk (wkeyD b c)) = some v) : v = .bl (wins b c) := by
  obtain ⟨b', c', e1, _, e2⟩ := h _ _ e
  obtain ⟨rfl, rfl⟩ := wkey_inj e1
  exact e2
def colsAll : List Col := [.w, .b, .g]
theorem Known.few {b0 : Bsh} {D : NestedKey → Option V} (h : Known b0 D) (h0 : BushLo b0) (h8 : b0.length ≤ 8) : ∃ L : List NestedKey, (∀ k, (D k).isSome = true → k ∈ L) ∧ L.length < sizeLine := by
  refine ⟨(reachF b0.length b0).flatMap fun b => colsAll.map fun c => nk (wkeyD b c), fun k hk => ?_, ?_⟩
  · obtain ⟨v, hv⟩ := Option.isSome_iff_exists.mp hk
    obtain ⟨b, c, rfl, hb, _⟩ := h k v hv
    exact List.mem_flatMap.mpr ⟨b, hb, List.mem_map.mpr ⟨c, by cases c <;> decide, rfl⟩⟩
  · have h1 := flat_len (fun b => colsAll.map fun c => nk (wkeyD b c)) 3 (reachF b0.length b0) fun _ _ => by rw [List.length_map]; exact Nat.le_refl _
    have h2 := reachF_len b0.length b0 h0 (Nat.le_refl _)
    have h3 : reachN b0.length ≤ 109601 := by
      have : ∀ n, n ≤ 8 → reachN n ≤ 109601 := by decide
      exact this _ h8
    rw [sizeLine_eq]; omega
/-- all but what stands at a stays -/
def MvA (a : Addr) (H H' : Hp) : Prop := ∀ b o, H b = some o → b ≠ a → H' b = some o
theorem MvA.refl (a : Addr) (H : Hp) : MvA a H H := fun _ _ e _ => e
theorem MvA.trans {a : Addr} {H H1 H2 : Hp} (x : MvA a H H1) (y : MvA a H1 H2) : MvA a H H2 := fun b o e n => y b o (x b o e n) n
theorem MvA.of_same {a : Addr} {H H' : Hp} (s : Same H H') : MvA a H H' := fun b o e _ => s b o e
theorem MvA.same {a : Addr} {H H1 H2 : Hp} (x : MvA a H H1) (y : Same H1 H2) : MvA a H H2 := x.trans (MvA.of_same y)
section
variable {P : Program} {w : World} {K : PySem.W.Frag} {a : Addr} {D D' : NestedKey → Option V} {H H' : Hp}
theorem MvA.ext (x : MvA a H H') (h : NDat P w K H a D) : Ext H H' := by
  obtain ⟨φ, e⟩ := h.isExt
  exact ⟨fun b xs q => x b _ q (ne_of q e fun z => nomatch z), fun b o u q => x b _ q (ne_of q e fun z => nomatch z)⟩
theorem MvA.free (x : MvA a H H') (h : NDat P w K H' a D) {p : Addr} (e : H' p = none) : H p = none := by
  cases q : H p with
  | none => rfl
  | some o =>
    by_cases hp : p = a
    · obtain ⟨φ, z⟩ := h.isExt
      rw [hp, z] at e; cases e
    · rw [x p o q hp] at e; cases e
theorem goes_mvA {H1 : Hp} (ha : H1 a ≠ none) : Goes1 H1 (MvA a) where
  refl := fun H _ => MvA.refl a H
  rf0 := MvA.refl a H1
  trans := fun H H' x y => x.trans y
  put := fun Dl H zs n x b o e hb => by rw [upd_ne (ne_of_none e n)]; exact x b o e hb
  keep := fun Dl H H' o n _ t e => t Dl o e (fun z => ha (z ▸ n))
end
theorem cutsB_len (b : Bsh) (c : Col) : (cutsB b c).length ≤ b.length := by
  unfold cutsB cutsUp
  have := List.length_filter_le (mayB b c) (List.range b.length)
  rw [List.length_range] at this
  exact this
theorem opp_ne {c : Col} (h : c ≠ .g) : c.opp ≠ .g := by cases c <;> first | decide | exact absurd rfl h
theorem any_map {α : Type} (f : α → Bool) : ∀ l : List α, (l.map f).any id = l.any f
  | [] => rfl
  | x :: l => by rw [List.map_cons, List.any_cons, List.any_cons, any_map f l]; rfl
section
variable {P : Program} {w : World} {K : PySem.W.Frag} {mg : Str → Option Value} {base : Heap} {C : Nat → Addr} {CS : Addr}
/-- whether a player wins, what is known being written down -/
def spWins (P : Program) (w : World) (K : PySem.W.Frag) (n : Nat) : Sp := fun vs H Q _ => ∃ (v : V) (b b0 : Bsh) (c : Col) (a : Addr) (D : NestedKey → Option V), vs = [v, .str c.s, .ref a] ∧ At K H v (bushD b) ∧ BushLo b ∧ b.length < n ∧ BushLo b0 ∧ b0.length ≤ 8 ∧ b ∈ reachF b0.length b0 ∧ c ≠ .g ∧
  NDat P w K H a D ∧ Known b0 D ∧ ∀ H' D', MvA a H H' → NDat P w K H' a D' → Known b0 D' → Q (.bl (wins b c)) H'
end
end Sv

set_option maxHeartbeats 4000000
namespace Sv
open PySem PySem.Spec PyProof.Rows L2 L2H HotX LamX
/-! ### a table -/
def fldsT : List Str := ["now", "earlier", "undone"]
def tf (v : V) (le lu : Addr) : List (Str × V) := [("now", v), ("earlier", .ref le), ("undone", .ref lu)]
theorem tf_now (v u : V) (le lu : Addr) : putF "now" u (tf v le lu) = tf u le lu := by unfold tf putF; rw [if_pos rfl]
theorem tf_ear (v : V) (le lu l : Addr) : putF "earlier" (.ref l) (tf v le lu) = tf v l lu := by
  unfold tf putF
  rw [if_neg (by decide +kernel)]
  unfold putF
  rw [if_pos rfl]
theorem tf_und (v : V) (le lu l : Addr) : putF "undone" (.ref l) (tf v le lu) = tf v le l := by
  unfold tf putF
  rw [if_neg (by decide +kernel)]
  unfold putF
  rw [if_neg (by decide +kernel)]
  unfold putF
  rw [if_pos rfl]
theorem tf_g0 (v : V) (le lu : Addr) : (tf v le lu).lookup ("now" : Str) = some v := rfl
theorem tf_g1 (v : V) (le lu : Addr) : (tf v le lu).lookup ("earlier" : Str) = some (V.ref le) := rfl
theorem tf_g2 (v : V) (le lu : Addr) : (tf v le lu).lookup ("undone" : Str) = some (V.ref lu) := rfl
theorem tf_no (v : V) (le lu : Addr) {m : Str} (h : (fldsT.contains m) = false) : (tf v le lu).lookup m = none := by
  have h1 : ∀ f ∈ fldsT, (m == f) = false := fun f hf => by
    cases q : m == f with
    | false => rfl
    | true =>
      rw [eq_of_beq q] at h
      rw [List.contains_iff_mem.mpr hf] at h
      cases h
  unfold tf
  rw [List.lookup_cons, h1 _ (by decide), List.lookup_cons, h1 _ (by decide), List.lookup_cons, h1 _ (by decide)]
  rfl
/-- the table at x: the bush, the earlier ones, those taken back -/
def TabAt (K : PySem.W.Frag) (C : Addr) (H : Hp) (x : Addr) (b : Bsh) (ear und : List Bsh) : Prop :=
  ∃ dx v le lu vs us, H x = some (.ins C dx (tf v le lu)) ∧ At K H v (bushD b) ∧ H le = some (.lst vs) ∧ AtAll K H vs (ear.map bushD) ∧ H lu = some (.lst us) ∧ AtAll K H us (und.map bushD)
def plc (n : Nat) : Col := if n % 2 = 0 then .w else .b
section
variable {P : Program} {w : World} {K : PySem.W.Frag} {mg : Str → Option Value} {base : Heap} {C : Nat → Addr} {CS CT : Addr}
theorem TabAt.same {H H' : Hp} {x : Addr} {b : Bsh} {ear und : List Bsh} (h : TabAt K CT H x b ear und) (s : Same H H') : TabAt K CT H' x b ear und := by
  obtain ⟨dx, v, le, lu, vs, us, h1, h2, h3, h4, h5, h6⟩ := h
  exact ⟨dx, v, le, lu, vs, us, s _ _ h1, h2.same s, s _ _ h3, h4.ext (Same.ext s), s _ _ h5, h6.ext (Same.ext s)⟩
/-! ### its methods -/
def spTInit (K : PySem.W.Frag) (C : Nat → Addr) (CT : Addr) : Sp := fun vs H Q E => ∃ x dx v d, vs = [.ref x, v] ∧ H x = some (.ins CT dx []) ∧ Dp K H v d ∧ (isBush d = false → ∀ H', Same H H' → E (.ref (C 0)) none H') ∧ ∀ b, d = bushD b → BushOk b → ∀ H', MvA x H H' → TabAt K CT H' x b [] [] → Q .non H'
theorem putF_lt {f : Str} {v : V} : ∀ {fs : List (Str × V)} {k : Nat}, fs.length < k → (putF f v fs).length < k + 1
  | [], k, h => by unfold putF; simp at h ⊢; omega
  | (g, x) :: r, k, h => by
    unfold putF
    split
    · simp at h ⊢; omega
    · have := putF_lt (f := f) (v := v) (fs := r) (k := k - 1) (by simp at h; omega)
      simp at h ⊢; omega
theorem putF_few {f : Str} {v : V} {fs : List (Str × V)} (h : fs.length < 100) : (putF f v fs).length < 1000 := Nat.lt_of_lt_of_le (putF_lt h) (by decide)
theorem mvA_upd {H : Hp} {x : Addr} {o : HO} : MvA x H (upd H x o) := fun b u e n => by rw [upd_ne n]; exact e
theorem MvA.ins {H H' : Hp} {x C dx : Addr} {fs : List (Str × V)} (m : MvA x H H') (e : H x = some (.ins C dx fs)) : Ext H H' :=
  ⟨fun b xs q => m b _ q (ne_of q e fun z => nomatch z), fun b o u q => m b _ q (ne_of q e fun z => nomatch z)⟩
theorem scTInit : FnScope ["self", "bush"] ["self", "bush"] (defScope s_Table_init) := ⟨rfl, rfl, rfl, by decide +kernel, rfl, by decide +kernel, by decide +kernel⟩
theorem k_t_init (F : HereM K CT "__init__" "Table.__init__" s_Table_init) (T : ClsT K mg "Table" CT fldsT) (d_need : Keeps' P w K mg base (L2N.CX P w) 4 "need_bush" ["bush"] (spNeedBush K C)) : KeepsM P w K mg base (L2N.CX P w) 5 CT "__init__" ["self", "bush"] (spTInit K C CT) := by
  refine keepsMN F scTInit (fun _ _ _ _ _ _ us hl => match us, hl with | [_, _], _ => rfl) (fun vs H Q E h => by obtain ⟨_, _, _, _, e, _⟩ := h; rw [e]; rfl) fun f cdv A outer s H vs Q E hr h => ?_
  obtain ⟨x, dx, v, d, rfl, hx, hd, q1, q2⟩ := h
  have n0 : NoAttr K CT "now" := T.nf _ (by decide)
  have n1 : NoAttr K CT "earlier" := T.nf _ (by decide)
  have n2 : NoAttr K CT "undone" := T.nf _ (by decide)
  refine ⟨_, pss_cons (ps_expr (pe_dX d_need (hr.mono (by decide)) (by rfl) (L2N.takes_of rfl rfl rfl rfl) (fun _ _ _ _ h => h) (pa1 (pv 1))))
    (pss_cons (ps_fldK T.cl n0 (pv 0) (pv 1))
    (pss_cons (ps_fldK T.cl n1 (pv 0) (pe_lstN pa_nil))
    (pss_one (ps_fldK T.cl n2 (pv 0) (pe_lstN pa_nil))))), ?_⟩
  refine ⟨_, rfl, v, d, rfl, hd, fun g1 H1 s1 => ?_, fun g1 H1 s1 => q1 g1 H1 s1⟩
  obtain ⟨b, rfl, hb⟩ := isBush_iff.mp g1
  refine ⟨_, rfl, _, rfl, x, dx, [], rfl, s1 _ _ hx, by decide, szl rfl, fun l H2 nl s2 el => ⟨_, rfl, x, dx, _, rfl, s2 _ _ upd_same, putF_few (by decide), szl rfl, fun l2 H3 nl2 s3 el2 => ⟨_, rfl, x, dx, _, rfl, s3 _ _ upd_same, putF_few (Nat.lt_of_lt_of_le (putF_lt (k := 1) (by decide)) (by decide)), ?_⟩⟩⟩
  have el3 := s3 _ _ (show (upd H2 x (.ins CT dx (putF "earlier" (.ref l) (putF "now" v [])))) l = some (.lst []) by rw [upd_ne (fun z => by rw [z, upd_same] at nl; cases nl)]; exact el)
  have nx : x ≠ l := fun z => by rw [← z, upd_same] at nl; cases nl
  have nx2 : x ≠ l2 := fun z => by rw [← z, upd_same] at nl2; cases nl2
  have m0 : MvA x H H3 := ((((MvA.of_same s1).trans mvA_upd).same s2).trans mvA_upd).same s3
  refine q2 b rfl hb _ (m0.trans mvA_upd) ⟨dx, v, l, l2, [], [], ?_, (At.ext ⟨pl_bush b, hd⟩ ((m0.trans mvA_upd).ins hx)), ?_, AtAll.nil, ?_, AtAll.nil⟩
  · rw [upd_same]; rfl
  · rw [upd_ne nx.symm]; exact el3
  · rw [upd_ne nx2.symm]; exact el2
def spTBush (K : PySem.W.Frag) (CT : Addr) : Sp := fun vs H Q _ => ∃ x b ear und, vs = [.ref x] ∧ TabAt K CT H x b ear und ∧ ∀ u, At K H u (bushD b) → Q u H
theorem scTBush : FnScope ["self"] ["self"] (defScope s_Table_bush) := ⟨rfl, rfl, rfl, by decide +kernel, rfl, by decide +kernel, by decide +kernel⟩
theorem k_t_bush (F : HereM K CT "bush" "Table.bush" s_Table_bush) (T : ClsT K mg "Table" CT fldsT) : KeepsM P w K mg base CX0 1 CT "bush" ["self"] (spTBush K CT) := by
  refine keepsM0 F scTBush (fun _ _ _ _ _ _ us hl => match us, hl with | [_], _ => rfl) (fun vs H Q E h => by obtain ⟨_, _, _, _, e, _⟩ := h; rw [e]; rfl) fun f cdv A outer s H vs Q E hr h => ?_
  obtain ⟨x, b, ear, und, rfl, ⟨dx, v, le, lu, vs, us, h1, h2, h3, h4, h5, h6⟩, q⟩ := h
  have n0 : NoAttr K CT "now" := T.nf _ (by decide)
  refine ⟨_, pss_one (ps_ret (pe_fldK T.cl n0 (pv 0))), ?_⟩
  exact ⟨_, rfl, x, dx, _, v, rfl, h1, rfl, q v h2⟩
def spTPlayer (K : PySem.W.Frag) (CT : Addr) : Sp := fun vs H Q _ => ∃ x b ear und, vs = [.ref x] ∧ TabAt K CT H x b ear und ∧ Q (.str (plc ear.length).s) H
theorem scTPlayer : FnScope ["self"] ["self"] (defScope s_Table_player) := ⟨rfl, rfl, rfl, by decide +kernel, rfl, by decide +kernel, by decide +kernel⟩
theorem k_t_player (F : HereM K CT "player" "Table.player" s_Table_player) (T : ClsT K mg "Table" CT fldsT) (B : Blt mg) : KeepsM P w K mg base CX0 1 CT "player" ["self"] (spTPlayer K CT) := by
  refine keepsM0 F scTPlayer (fun _ _ _ _ _ _ us hl => match us, hl with | [_], _ => rfl) (fun vs H Q E h => by obtain ⟨_, _, _, _, e, _⟩ := h; rw [e]; rfl) fun f cdv A outer s H vs Q E hr h => ?_
  obtain ⟨x, b, ear, und, rfl, ⟨dx, v, le, lu, vs, us, h1, h2, h3, h4, h5, h6⟩, q⟩ := h
  have n1 : NoAttr K CT "earlier" := T.nf _ (by decide)
  refine ⟨_, pss_one (ps_ret (pe_ifExp (pt_cmpR op_eq (pe_op op_mod (pb (call_len_seqK K) B.len PySem.boot_len (pa1 (pe_fldK T.cl n1 (pv 0)))) pe_int) pe_int (nomark _)) pe_str pe_str)), ?_⟩
  refine ⟨_, rfl, x, dx, _, _, rfl, h1, rfl, le, vs, rfl, .inl (SqL.of h3), _, _, rfl, rfl, (by show (0 : Int) < 2; decide), rfl, _, rfl, ?_⟩
  have hl : vs.length = ear.length := by rw [AtAll.len h4.2, List.length_map]
  rw [hl]
  unfold plc at q
  by_cases h0 : ear.length % 2 = 0
  · rw [if_pos h0] at q
    exact ite2 (fun _ => q) fun z => absurd (decide_eq_true (by show V.int ((ear.length : Int) % 2) = V.int 0; congr 1; omega)) z
  · rw [if_neg h0] at q
    exact ite2 (fun z => absurd (V.int.inj (of_decide_eq_true z)) (by omega)) fun _ => q
def spTLen (K : PySem.W.Frag) (CT : Addr) : Sp := fun vs H Q _ => ∃ x b ear und, vs = [.ref x] ∧ TabAt K CT H x b ear und ∧ Q (.int (ear.length : Int)) H
theorem scTLen : FnScope ["self"] ["self"] (defScope s_Table_len) := ⟨rfl, rfl, rfl, by decide +kernel, rfl, by decide +kernel, by decide +kernel⟩
theorem k_t_len (F : HereM K CT "__len__" "Table.__len__" s_Table_len) (T : ClsT K mg "Table" CT fldsT) (B : Blt mg) : KeepsM P w K mg base CX0 1 CT "__len__" ["self"] (spTLen K CT) := by
  refine keepsM0 F scTLen (fun _ _ _ _ _ _ us hl => match us, hl with | [_], _ => rfl) (fun vs H Q E h => by obtain ⟨_, _, _, _, e, _⟩ := h; rw [e]; rfl) fun f cdv A outer s H vs Q E hr h => ?_
  obtain ⟨x, b, ear, und, rfl, ⟨dx, v, le, lu, vs, us, h1, h2, h3, h4, h5, h6⟩, q⟩ := h
  have n1 : NoAttr K CT "earlier" := T.nf _ (by decide)
  refine ⟨_, pss_one (ps_ret (pb (call_len_seqK K) B.len PySem.boot_len (pa1 (pe_fldK T.cl n1 (pv 0))))), ?_⟩
  have hl : vs.length = ear.length := by rw [AtAll.len h4.2, List.length_map]
  rw [← hl] at q
  exact ⟨_, rfl, x, dx, _, _, rfl, h1, rfl, le, vs, rfl, .inl (SqL.of h3), q⟩
end
end Sv

set_option maxHeartbeats 4000000
namespace Sv
open PySem PySem.Spec PyProof.Rows L2 L2H HotX LamX
theorem inV_nats (n : Nat) : ∀ l : List Nat, inV (.int (n : Int)) (l.map fun (k : Nat) => V.int k) = decide (n ∈ l)
  | [] => by simp [inV]
  | k :: l => by
    show (eqV (.int (k : Int)) (.int (n : Int)) || inV (.int (n : Int)) (l.map fun (k : Nat) => V.int k)) = _
    rw [inV_nats n l]
    show (((k : Int) == (n : Int)) || decide (n ∈ l)) = _
    by_cases h : n = k
    · subst h; simp
    · rw [beq_eq_false_iff_ne.mpr (fun z => h (by omega)), Bool.false_or]
      simp [h]
theorem flat_nats (l : List Nat) : (l.map fun (k : Nat) => V.int k).all flatV = true := by
  rw [List.all_map]; exact List.all_eq_true.mpr fun _ _ => rfl
theorem AtAll.takeT {K : PySem.W.Frag} {H : Hp} : ∀ (n : Nat) {vs : List V} {ds : List PyData}, AtAll K H vs ds → AtAll K H (vs.take n) (ds.take n)
  | 0, _, _, _ => AtAll.nil
  | n + 1, _, _, ⟨h, .nil⟩ => AtAll.nil
  | n + 1, _, _, ⟨h, .cons x t⟩ => by
    rw [plAll, Bool.and_eq_true] at h
    exact AtAll.cons ⟨h.1, x⟩ (AtAll.takeT n ⟨h.2, t⟩)
theorem eqv_nil (ds : List PyData) : PyData.eqv (.list ds) (.list []) = ds.isEmpty := by
  cases ds with
  | nil => rfl
  | cons d r => rfl
theorem bushesD_ok : ∀ l : List Bsh, PyData.canLayAll0 (l.map bushD) = true
  | [] => rfl
  | b :: l => by rw [List.map_cons, PyData.canLayAll0, canLay_pl _ (pl_bush b), bushesD_ok l]; rfl
theorem bushesD_depth : ∀ l : List Bsh, PyData.depthAll (l.map bushD) ≤ 2
  | [] => by decide
  | b :: l => by
    rw [List.map_cons, PyData.depthAll]
    have h1 := bushesD_depth l
    have h2 := depth_stems b
    have h3 : (bushD b).depth = PyData.depthAll (b.map stemD) + 1 := rfl
    omega
theorem shaped_bushes (l : List Bsh) : SeqAt.shaped (.list (l.map bushD)) = true := by
  unfold SeqAt.shaped
  have := bushesD_depth l
  rw [show PyData.canLay0 (.list (l.map bushD)) = PyData.canLayAll0 (l.map bushD) from rfl, bushesD_ok, show PyData.depth (.list (l.map bushD)) = PyData.depthAll (l.map bushD) + 1 from rfl, decide_eq_true (by omega)]
  rfl
theorem cutV_init (xs : List V) (v : V) : cutV (xs ++ [v]) none (some (-1)) = xs := by
  unfold cutV
  rw [HT.sIx_none, List.drop_zero, Nat.sub_zero]
  have e : HT.sIx (xs ++ [v]).length (xs ++ [v]).length (some (-1)) = xs.length := by
    show (if (-1 : Int) < 0 then ((-1 : Int) + ((xs ++ [v]).length : Int)).toNat else min (-1 : Int).toNat (xs ++ [v]).length) = xs.length
    rw [if_pos (by decide), List.length_append, List.length_singleton]
    omega
  rw [e]
  exact List.take_left ..
theorem snoc_of {α : Type} {l : List α} (h : l ≠ []) : ∃ i x, l = i ++ [x] := ⟨l.dropLast, l.getLast h, (List.dropLast_concat_getLast h).symm⟩
theorem AtAll.unsnoc {K : PySem.W.Frag} {H : Hp} {vs : List V} {ds : List PyData} {d : PyData} (h : AtAll K H vs (ds ++ [d])) : ∃ us u, vs = us ++ [u] ∧ AtAll K H us ds ∧ At K H u d := by
  have hl := AtAll.len h.2
  have hne : vs ≠ [] := fun z => by rw [z] at hl; simp at hl
  obtain ⟨us, u, rfl⟩ := snoc_of hne
  have hlen : us.length = ds.length := by rw [List.length_append, List.length_append] at hl; simpa using hl
  refine ⟨us, u, rfl, ?_, ?_⟩
  · have := AtAll.takeT us.length h
    rw [List.take_left, hlen, List.take_left] at this
    exact this
  · obtain ⟨d', e, hd⟩ := h.get (i := us.length) (v := u) (by rw [List.getElem?_append_right (Nat.le_refl _)]; simp)
    rw [hlen, List.getElem?_append_right (Nat.le_refl _)] at e
    simp at e
    rw [e]; exact hd
section
variable {P : Program} {w : World} {K : PySem.W.Frag} {mg : Str → Option Value} {base : Heap} {C : Nat → Addr} {CS CT : Addr}
def spTCut (K : PySem.W.Frag) (C : Nat → Addr) (CT : Addr) : Sp := fun vs H Q E => ∃ x v2 b ear und d2, vs = [.ref x, v2] ∧ TabAt K CT H x b ear und ∧ BushOk b ∧ ear.length ≤ 1000 ∧ Dp K H v2 d2 ∧ (whole d2 0 (b.length - 1) = false → ∀ H', Same H H' → E (.ref (C 1)) none H') ∧
  ∀ n : Nat, d2 = .int n → n < b.length → (n ∉ cutsB b (plc ear.length) → ∀ H', Same H H' → E (.ref (C 8)) none H') ∧ (n ∈ cutsB b (plc ear.length) → ∀ H' u, MvA x H H' → TabAt K CT H' x (withoutB b n) (ear ++ [b]) [] → At K H' u (bushD (withoutB b n)) → Q u H')
theorem scTCut : FnScope ["self", "number"] ["self", "number"] (defScope s_Table_cut) := ⟨rfl, rfl, rfl, by decide +kernel, rfl, by decide +kernel, by decide +kernel⟩
theorem k_t_cut (F : HereM K CT "cut" "Table.cut" s_Table_cut) (T : ClsT K mg "Table" CT fldsT) (O : ExcOne K mg "NotYours" (C 8)) (d_stem : Keeps' P w K mg base (L2N.CX P w) 2 "need_stem" ["bush", "number"] (spNeedStem K C)) (d_cuts : Keeps' P w K mg base CX0 1 "cuts_of" ["bush", "player"] (spCutsOf K))
    (d_player : KeepsM P w K mg base CX0 1 CT "player" ["self"] (spTPlayer K CT)) (d_without : Keeps' P w K mg base CX0 1 "without" ["bush", "number"] (spWithout K)) : KeepsM P w K mg base (L2N.CX P w) 3 CT "cut" ["self", "number"] (spTCut K C CT) := by
  refine keepsMN F scTCut (fun _ _ _ _ _ _ us hl => match us, hl with | [_, _], _ => rfl) (fun vs H Q E h => by obtain ⟨_, _, _, _, _, _, e, _⟩ := h; rw [e]; rfl) fun f cdv A outer s H vs Q E hr h => ?_
  obtain ⟨x, v2, b, ear, und, d2, rfl, hT, hb, hl, hd2, q1, q2⟩ := h
  obtain ⟨dx, v, le, lu, vs, us, h1, h2, h3, h4, h5, h6⟩ := id hT
  have n0 : NoAttr K CT "now" := T.nf _ (by decide)
  have n1 : NoAttr K CT "earlier" := T.nf _ (by decide)
  have n2 : NoAttr K CT "undone" := T.nf _ (by decide)
  refine ⟨_, pss_cons (ps_expr (pe_dX d_stem (hr.mono (by decide)) (by rfl) (L2N.takes_of rfl rfl rfl rfl) (fun _ _ _ _ h => h) (pa2 (pe_fldK T.cl n0 (pv 0)) (pv 1))))
    (pss_cons (ps_if (pt_cmpR (op_notIn_seqK K) (pv 1) (pe_d0 d_cuts (hr.mono (by decide)) (by rfl) (pa2 (pe_fldK T.cl n0 (pv 0)) (pe_m00 d_player T.cl (hr.mono (by decide)) (pv 0)))) (by rfl))
      (pss_one (ps_raiseN rfl O (by rfl) rfl rfl rfl rfl))
      (pss_nil))
    (pss_cons (ps_fldK T.cl n1 (pv 0) (pe_op op_catN (pe_fldK T.cl n1 (pv 0)) (pe_lstN (pa1 (pe_fldK T.cl n0 (pv 0))))))
    (pss_cons (ps_fldK T.cl n2 (pv 0) (pe_lstN pa_nil))
    (pss_cons (ps_fldK T.cl n0 (pv 0) (pe_d0 d_without (hr.mono (by decide)) (by rfl) (pa2 (pe_fldK T.cl n0 (pv 0)) (pv 1))))
    (pss_one (ps_ret (pe_fldK T.cl n0 (pv 0)))))))), ?_⟩
  refine ⟨_, rfl, x, dx, _, v, rfl, h1, rfl, _, rfl, v, v2, b.map stemD, d2, rfl, h2, hd2, fun g1 H1 s1 => ?_, fun g1 H1 s1 => q1 (by rw [List.length_map] at g1; exact g1) H1 s1⟩
  rw [List.length_map] at g1
  obtain ⟨i, rfl, i0, i1⟩ := whole_int g1
  obtain ⟨n, rfl⟩ : ∃ n : Nat, i = (n : Int) := ⟨i.toNat, by omega⟩
  cases hd2
  obtain ⟨q3, q4⟩ := q2 n rfl (by omega)
  refine ⟨_, rfl, _, rfl, x, dx, _, v, rfl, s1 _ _ h1, rfl, _, rfl, x, dx, _, rfl, s1 _ _ h1, tf_no _ _ _ (by decide), x, b, ear, und, rfl, hT.same s1, ?_⟩
  refine ⟨v, b, plc ear.length, rfl, h2.same s1, hb.lo, fun H2 p s2 np ep => ⟨p, _, rfl, .inl (SqL.of ep), rfl, flat_nats _, _, rfl, ?_⟩⟩
  have s12 := s1.trans s2
  show if (!inV (.int (n : Int)) ((cutsB b (plc ear.length)).map fun (k : Nat) => V.int k)) = true then _ else _
  rw [inV_nats]
  by_cases hn : n ∈ cutsB b (plc ear.length)
  · rw [decide_eq_true hn]
    have q5 := q4 hn
    have hx2 := s12 _ _ h1
    refine ⟨_, rfl, x, dx, _, _, rfl, hx2, rfl, _, rfl, x, dx, _, v, rfl, hx2, rfl, szl rfl, fun l H3 nl s3 el => ⟨le, l, vs, [v], rfl, rfl, s3 _ _ (s12 _ _ h3), el, ?_, fun l2 H4 nl2 s4 el2 => ?_⟩⟩
    · have := AtAll.len h4.2
      rw [List.length_map] at this
      rw [sizeLine_eq]; simp; omega
    have s14 := s12.trans (s3.trans s4)
    refine ⟨_, rfl, x, dx, _, rfl, s14 _ _ h1, (by show 3 < 1000; decide), ?_⟩
    rw [tf_ear]
    refine ⟨szl rfl, fun l3 H5 nl3 s5 el3 => ⟨_, rfl, x, dx, _, rfl, s5 _ _ upd_same, (by show 3 < 1000; decide), ?_⟩⟩
    rw [tf_und]
    have nx3 : x ≠ l3 := fun z => by rw [← z, upd_same] at nl3; cases nl3
    have nx2 : x ≠ l2 := fun z => by rw [← z, s3 _ _ hx2] at nl2; cases nl2
    have m5 : MvA x H H5 := ((MvA.of_same s14).trans mvA_upd).same s5
    have m6 := m5.trans (mvA_upd (o := .ins CT dx (tf v l2 l3)))
    have el2' : H5 l2 = some (.lst (vs ++ [v])) := s5 _ _ (by rw [upd_ne nx2.symm]; exact el2)
    refine ⟨_, rfl, x, dx, _, v, rfl, upd_same, rfl, _, rfl, v, b, n, rfl, h2.ext (m6.ins h1), hb.lo, fun H7 pw s7 npw hpw => ⟨_, rfl, x, dx, _, rfl, s7 _ _ upd_same, (by show 3 < 1000; decide), ?_⟩⟩
    rw [tf_now]
    have m8 := (m6.same s7).trans (mvA_upd (o := .ins CT dx (tf (.ref pw) l2 l3)))
    have x8 := m8.ins h1
    have hpw8 : At K (upd H7 x (.ins CT dx (tf (.ref pw) l2 l3))) (.ref pw) (bushD (withoutB b n)) := hpw.ext (mvA_upd.ins (s7 _ _ upd_same))
    refine ⟨_, rfl, x, dx, _, .ref pw, rfl, upd_same, rfl, q5 _ _ m8 ⟨dx, .ref pw, l2, l3, vs ++ [v], [], upd_same, hpw8, ?_, ?_, ?_, AtAll.nil⟩ hpw8⟩
    · rw [upd_ne nx2.symm]
      exact s7 _ _ (by rw [upd_ne nx2.symm]; exact el2')
    · rw [List.map_append]
      exact AtAll.snoc (h2.ext x8) (h4.ext x8)
    · rw [upd_ne nx3.symm]
      exact s7 _ _ (by rw [upd_ne nx3.symm]; exact el3)
  · rw [decide_eq_false hn]
    exact q3 hn H2 s12
def spTUndo (K : PySem.W.Frag) (C : Nat → Addr) (CT : Addr) : Sp := fun vs H Q E => ∃ x b ear und, vs = [.ref x] ∧ TabAt K CT H x b ear und ∧ und.length ≤ 1000 ∧ (ear = [] → ∀ H', Same H H' → E (.ref (C 9)) none H') ∧
  ∀ e l, ear = e ++ [l] → ∀ H' u, MvA x H H' → TabAt K CT H' x l e (und ++ [b]) → At K H' u (bushD l) → Q u H'
theorem scTUndo : FnScope ["self"] ["self"] (defScope s_Table_undo) := ⟨rfl, rfl, rfl, by decide +kernel, rfl, by decide +kernel, by decide +kernel⟩
theorem k_t_undo (F : HereM K CT "undo" "Table.undo" s_Table_undo) (T : ClsT K mg "Table" CT fldsT) (O : ExcOne K mg "NothingToUndo" (C 9)) : KeepsM P w K mg base (L2N.CX P w) 1 CT "undo" ["self"] (spTUndo K C CT) := by
  refine keepsMN F scTUndo (fun _ _ _ _ _ _ us hl => match us, hl with | [_], _ => rfl) (fun vs H Q E h => by obtain ⟨_, _, _, _, e, _⟩ := h; rw [e]; rfl) fun f cdv A outer s H vs Q E hr h => ?_
  obtain ⟨x, b, ear, und, rfl, hT, hl, q1, q2⟩ := h
  obtain ⟨dx, v, le, lu, vs, us, h1, h2, h3, h4, h5, h6⟩ := id hT
  have n0 : NoAttr K CT "now" := T.nf _ (by decide)
  have n1 : NoAttr K CT "earlier" := T.nf _ (by decide)
  have n2 : NoAttr K CT "undone" := T.nf _ (by decide)
  refine ⟨_, pss_cons (ps_if (pt_cmpR (op_eqDK K hr.units) (pe_fldK T.cl n1 (pv 0)) (pe_lstN pa_nil) (nomark _))
      (pss_one (ps_raiseN rfl O (by rfl) rfl rfl rfl rfl))
      (pss_nil))
    (pss_cons (ps_fldK T.cl n2 (pv 0) (pe_op op_catN (pe_fldK T.cl n2 (pv 0)) (pe_lstN (pa1 (pe_fldK T.cl n0 (pv 0))))))
    (pss_cons (ps_fldK T.cl n0 (pv 0) (pe_ix (ix_listK K) (pe_fldK T.cl n1 (pv 0)) (pe_un un_neg pe_int) (fun _ _ => rfl)))
    (pss_cons (ps_fldK T.cl n1 (pv 0) (pe_slice (sl_listK K) (pe_fldK T.cl n1 (pv 0)) po_none (po_some (pe_un un_neg pe_int))))
    (pss_one (ps_ret (pe_fldK T.cl n0 (pv 0))))))), ?_⟩
  refine ⟨_, rfl, x, dx, _, _, rfl, h1, rfl, szl rfl, fun e0 H1 ne0 s1 ee0 => ⟨.list (ear.map bushD), .list [], .lst (SqL.of (s1 _ _ h3)) (h4.ext (Same.ext s1)).2, .lst (SqL.of ee0) .nil, shaped_bushes ear, rfl, _, rfl, ?_⟩⟩
  rw [eqv_nil]
  by_cases hne : ear = []
  · rw [hne]
    exact q1 hne H1 s1
  · obtain ⟨ei, l, rfl⟩ := snoc_of hne
    rw [show ((ei ++ [l]).map bushD).isEmpty = false by rw [List.map_append]; cases (ei.map bushD) <;> rfl]
    have q3 := q2 ei l rfl
    rw [List.map_append] at h4
    obtain ⟨vs', vl, rfl, hvs', hvl⟩ := h4.unsnoc
    have hx1 := s1 _ _ h1
    refine ⟨_, rfl, x, dx, _, _, rfl, hx1, rfl, _, rfl, x, dx, _, v, rfl, hx1, rfl, szl rfl, fun l1 H2 nl1 s2 el1 => ⟨lu, l1, us, [v], rfl, rfl, s2 _ _ (s1 _ _ h5), el1, ?_, fun l2 H3 nl2 s3 el2 => ?_⟩⟩
    · have := AtAll.len h6.2
      rw [List.length_map] at this
      rw [sizeLine_eq]; simp; omega
    have s13 := s1.trans (s2.trans s3)
    refine ⟨_, rfl, x, dx, _, rfl, s13 _ _ h1, (by show 3 < 1000; decide), ?_⟩
    rw [tf_und]
    have nx2 : x ≠ l2 := fun z => by rw [← z, s2 _ _ hx1] at nl2; cases nl2
    have nxe : x ≠ le := ne_of h1 h3 fun z => nomatch z
    have ele : (upd H3 x (.ins CT dx (tf v le l2))) le = some (.lst (vs' ++ [vl])) := by rw [upd_ne nxe.symm]; exact s13 _ _ h3
    refine ⟨_, rfl, x, dx, _, _, rfl, upd_same, rfl, _, rfl, le, _, -1, vl, rfl, rfl, SqL.of ele, atI_last _ _, _, rfl, x, dx, _, rfl, upd_same, (by show 3 < 1000; decide), ?_⟩
    rw [upd_upd, tf_now]
    have ele2 : (upd H3 x (.ins CT dx (tf vl le l2))) le = some (.lst (vs' ++ [vl])) := by rw [upd_ne nxe.symm]; exact s13 _ _ h3
    refine ⟨_, rfl, x, dx, _, _, rfl, upd_same, rfl, _, rfl, -1, rfl, le, _, rfl, SqL.of ele2, fun l3 H4 nl3 s4 el3 => ?_⟩
    rw [cutV_init] at el3
    refine ⟨_, rfl, x, dx, _, rfl, s4 _ _ upd_same, (by show 3 < 1000; decide), ?_⟩
    rw [tf_ear]
    have nx3 : x ≠ l3 := fun z => by rw [← z, upd_same] at nl3; cases nl3
    have m := (((MvA.of_same s13).trans mvA_upd).same s4).trans (mvA_upd (o := .ins CT dx (tf vl l3 l2)))
    have x8 := m.ins h1
    refine ⟨_, rfl, x, dx, _, vl, rfl, upd_same, rfl, q3 _ _ m ⟨dx, vl, l3, l2, vs', us ++ [v], upd_same, hvl.ext x8, ?_, hvs'.ext x8, ?_, ?_⟩ (hvl.ext x8)⟩
    · rw [upd_ne nx3.symm]; exact el3
    · rw [upd_ne nx2.symm]; exact s4 _ _ (by rw [upd_ne nx2.symm]; exact el2)
    · rw [List.map_append]
      exact AtAll.snoc (h2.ext x8) (h6.ext x8)
def spTRedo (K : PySem.W.Frag) (C : Nat → Addr) (CT : Addr) : Sp := fun vs H Q E => ∃ x b ear und, vs = [.ref x] ∧ TabAt K CT H x b ear und ∧ ear.length ≤ 1000 ∧ (und = [] → ∀ H', Same H H' → E (.ref (C 9)) none H') ∧
  ∀ e l, und = e ++ [l] → ∀ H' u, MvA x H H' → TabAt K CT H' x l (ear ++ [b]) e → At K H' u (bushD l) → Q u H'
theorem scTRedo : FnScope ["self"] ["self"] (defScope s_Table_redo) := ⟨rfl, rfl, rfl, by decide +kernel, rfl, by decide +kernel, by decide +kernel⟩
theorem k_t_redo (F : HereM K CT "redo" "Table.redo" s_Table_redo) (T : ClsT K mg "Table" CT fldsT) (O : ExcOne K mg "NothingToUndo" (C 9)) : KeepsM P w K mg base (L2N.CX P w) 1 CT "redo" ["self"] (spTRedo K C CT) := by
  refine keepsMN F scTRedo (fun _ _ _ _ _ _ us hl => match us, hl with | [_], _ => rfl) (fun vs H Q E h => by obtain ⟨_, _, _, _, e, _⟩ := h; rw [e]; rfl) fun f cdv A outer s H vs Q E hr h => ?_
  obtain ⟨x, b, ear, und, rfl, hT, hl, q1, q2⟩ := h
  obtain ⟨dx, v, le, lu, vs, us, h1, h2, h3, h4, h5, h6⟩ := id hT
  have n0 : NoAttr K CT "now" := T.nf _ (by decide)
  have n1 : NoAttr K CT "earlier" := T.nf _ (by decide)
  have n2 : NoAttr K CT "undone" := T.nf _ (by decide)
  refine ⟨_, pss_cons (ps_if (pt_cmpR (op_eqDK K hr.units) (pe_fldK T.cl n2 (pv 0)) (pe_lstN pa_nil) (nomark _))
      (pss_one (ps_raiseN rfl O (by rfl) rfl rfl rfl rfl))
      (pss_nil))
    (pss_cons (ps_fldK T.cl n1 (pv 0) (pe_op op_catN (pe_fldK T.cl n1 (pv 0)) (pe_lstN (pa1 (pe_fldK T.cl n0 (pv 0))))))
    (pss_cons (ps_fldK T.cl n0 (pv 0) (pe_ix (ix_listK K) (pe_fldK T.cl n2 (pv 0)) (pe_un un_neg pe_int) (fun _ _ => rfl)))
    (pss_cons (ps_fldK T.cl n2 (pv 0) (pe_slice (sl_listK K) (pe_fldK T.cl n2 (pv 0)) po_none (po_some (pe_un un_neg pe_int))))
    (pss_one (ps_ret (pe_fldK T.cl n0 (pv 0))))))), ?_⟩
  refine ⟨_, rfl, x, dx, _, _, rfl, h1, rfl, szl rfl, fun e0 H1 ne0 s1 ee0 => ⟨.list (und.map bushD), .list [], .lst (SqL.of (s1 _ _ h5)) (h6.ext (Same.ext s1)).2, .lst (SqL.of ee0) .nil, shaped_bushes und, rfl, _, rfl, ?_⟩⟩
  rw [eqv_nil]
  by_cases hne : und = []
  · rw [hne]
    exact q1 hne H1 s1
  · obtain ⟨ei, l, rfl⟩ := snoc_of hne
    rw [show ((ei ++ [l]).map bushD).isEmpty = false by rw [List.map_append]; cases (ei.map bushD) <;> rfl]
    have q3 := q2 ei l rfl
    rw [List.map_append] at h6
    obtain ⟨us', vl, rfl, hvs', hvl⟩ := h6.unsnoc
    have hx1 := s1 _ _ h1
    refine ⟨_, rfl, x, dx, _, _, rfl, hx1, rfl, _, rfl, x, dx, _, v, rfl, hx1, rfl, szl rfl, fun l1 H2 nl1 s2 el1 => ⟨le, l1, vs, [v], rfl, rfl, s2 _ _ (s1 _ _ h3), el1, ?_, fun l2 H3 nl2 s3 el2 => ?_⟩⟩
    · have := AtAll.len h4.2
      rw [List.length_map] at this
      rw [sizeLine_eq]; simp; omega
    have s13 := s1.trans (s2.trans s3)
    refine ⟨_, rfl, x, dx, _, rfl, s13 _ _ h1, (by show 3 < 1000; decide), ?_⟩
    rw [tf_ear]
    have nx2 : x ≠ l2 := fun z => by rw [← z, s2 _ _ hx1] at nl2; cases nl2
    have nxe : x ≠ lu := ne_of h1 h5 fun z => nomatch z
    have ele : (upd H3 x (.ins CT dx (tf v l2 lu))) lu = some (.lst (us' ++ [vl])) := by rw [upd_ne nxe.symm]; exact s13 _ _ h5
    refine ⟨_, rfl, x, dx, _, _, rfl, upd_same, rfl, _, rfl, lu, _, -1, vl, rfl, rfl, SqL.of ele, atI_last _ _, _, rfl, x, dx, _, rfl, upd_same, (by show 3 < 1000; decide), ?_⟩
    rw [upd_upd, tf_now]
    have ele2 : (upd H3 x (.ins CT dx (tf vl l2 lu))) lu = some (.lst (us' ++ [vl])) := by rw [upd_ne nxe.symm]; exact s13 _ _ h5
    refine ⟨_, rfl, x, dx, _, _, rfl, upd_same, rfl, _, rfl, -1, rfl, lu, _, rfl, SqL.of ele2, fun l3 H4 nl3 s4 el3 => ?_⟩
    rw [cutV_init] at el3
    refine ⟨_, rfl, x, dx, _, rfl, s4 _ _ upd_same, (by show 3 < 1000; decide), ?_⟩
    rw [tf_und]
    have nx3 : x ≠ l3 := fun z => by rw [← z, upd_same] at nl3; cases nl3
    have m := (((MvA.of_same s13).trans mvA_upd).same s4).trans (mvA_upd (o := .ins CT dx (tf vl l2 l3)))
    have x8 := m.ins h1
    refine ⟨_, rfl, x, dx, _, vl, rfl, upd_same, rfl, q3 _ _ m ⟨dx, vl, l2, l3, vs ++ [v], us', upd_same, hvl.ext x8, ?_, ?_, ?_, hvs'.ext x8⟩ (hvl.ext x8)⟩
    · rw [upd_ne nx2.symm]; exact s4 _ _ (by rw [upd_ne nx2.symm]; exact el2)
    · rw [List.map_append]
      exact AtAll.snoc (h2.ext x8) (h4.ext x8)
    · rw [upd_ne nx3.symm]; exact el3
end
end Sv

set_option maxHeartbeats 4000000
namespace Sv
open PySem PySem.Spec PyProof.Rows L2 L2H HotX LamX
/-! ### what an operation does, in plain words -/
inductive Op where | cut | undo | redo
def Op.s : Op → Str
  | .cut => "cut"
  | .undo => "undo"
  | .redo => "redo"
structure S3 where
  now : Bsh
  ear : List Bsh
  und : List Bsh
def opStep (o : Op) (n : Nat) (t : S3) : PyData × S3 := match o with
  | .cut => if n < t.now.length then (if n ∈ cutsB t.now (plc t.ear.length) then (bushD (withoutB t.now n), ⟨withoutB t.now n, t.ear ++ [t.now], []⟩) else (errD 8, t)) else (errD 1, t)
  | .undo => match t.ear.getLast? with
    | none => (errD 9, t)
    | some l => (bushD l, ⟨l, t.ear.dropLast, t.und ++ [t.now]⟩)
  | .redo => match t.und.getLast? with
    | none => (errD 9, t)
    | some l => (bushD l, ⟨l, t.ear ++ [t.now], t.und.dropLast⟩)
structure S3Ok (t : S3) (n : Nat) : Prop where
  now : BushOk t.now
  ear : ∀ b ∈ t.ear, BushOk b
  und : ∀ b ∈ t.und, BushOk b
  le : t.ear.length ≤ n
  lu : t.und.length ≤ n
theorem op_ok {o : Op} {n k : Nat} {t : S3} (h : S3Ok t k) : S3Ok (opStep o n t).2 (k + 1) := by
  have up : S3Ok t (k + 1) := ⟨h.now, h.ear, h.und, by have := h.le; omega, by have := h.lu; omega⟩
  have snoc : ∀ {l : List Bsh}, (∀ b ∈ l, BushOk b) → ∀ b ∈ l ++ [t.now], BushOk b := fun {l} hl b hb => by
    rcases List.mem_append.mp hb with z | z
    · exact hl b z
    · rw [List.mem_singleton.mp z]; exact h.now
  cases o with
  | cut =>
    by_cases h1 : n < t.now.length
    · by_cases h2 : n ∈ cutsB t.now (plc t.ear.length)
      · have e : opStep .cut n t = (bushD (withoutB t.now n), ⟨withoutB t.now n, t.ear ++ [t.now], []⟩) := by unfold opStep; rw [if_pos h1, if_pos h2]
        rw [e]
        exact ⟨without_ok h.now, snoc h.ear, fun b hb => (by cases hb), by show (t.ear ++ [t.now]).length ≤ _; rw [List.length_append]; have := h.le; simp; omega, Nat.zero_le _⟩
      · have e : opStep .cut n t = (errD 8, t) := by unfold opStep; rw [if_pos h1, if_neg h2]
        rw [e]; exact up
    · have e : opStep .cut n t = (errD 1, t) := by unfold opStep; rw [if_neg h1]
      rw [e]; exact up
  | undo =>
    unfold opStep
    cases e : t.ear.getLast? with
    | none => exact up
    | some l =>
      exact ⟨h.ear l (List.mem_of_getLast? e), fun b hb => h.ear b (List.dropLast_subset _ hb), snoc h.und, by show t.ear.dropLast.length ≤ _; rw [List.length_dropLast]; have := h.le; omega, by show (t.und ++ [t.now]).length ≤ _; rw [List.length_append]; have := h.lu; simp; omega⟩
  | redo =>
    unfold opStep
    cases e : t.und.getLast? with
    | none => exact up
    | some l =>
      exact ⟨h.und l (List.mem_of_getLast? e), snoc h.ear, fun b hb => h.und b (List.dropLast_subset _ hb), by show (t.ear ++ [t.now]).length ≤ _; rw [List.length_append]; have := h.le; simp; omega, by show t.und.dropLast.length ≤ _; rw [List.length_dropLast]; have := h.lu; omega⟩
abbrev T3 (K : PySem.W.Frag) (CT : Addr) (H : Hp) (x : Addr) (t : S3) : Prop := TabAt K CT H x t.now t.ear t.und
/-- all but x and the tables of code stays -/
def MvT (x : Addr) (H H' : Hp) : Prop := ∀ b o, H b = some o → (∀ ps, o ≠ .tbl ps) → b ≠ x → H' b = some o
theorem MvT.same {x : Addr} {H H1 H2 : Hp} (m : MvT x H H1) (s : Same H1 H2) : MvT x H H2 := fun b o e h n => s _ _ (m b o e h n)
theorem mvT_of {x : Addr} {H H1 H2 : Hp} (e : ExtN H H1) (m : MvA x H1 H2) : MvT x H H2 := fun b o q h n => m b o (e b o q h) n
theorem tabs_mvA {T : List (Addr × Str)} {H H' : Hp} {x C dx : Addr} {fs : List (Str × V)} (t : Tabs T H) (e : H x = some (.ins C dx fs)) (k : MvA x H H') : Tabs T H' := fun p hp => by
  obtain ⟨ps, h1, h2, h3⟩ := t p hp
  refine ⟨ps, k _ _ h1 (ne_of h1 e fun z => nomatch z), h2, fun pos cv hc => ?_⟩
  obtain ⟨c, e1, e2⟩ := h3 pos cv hc
  exact ⟨c, e1, k _ _ e2 (ne_of e2 e fun z => nomatch z)⟩
theorem TabAt.extN {K : PySem.W.Frag} {CT : Addr} {H H' : Hp} {x : Addr} {b : Bsh} {ear und : List Bsh} (h : TabAt K CT H x b ear und) (s : ExtN H H') : TabAt K CT H' x b ear und := by
  obtain ⟨dx, v, le, lu, vs, us, h1, h2, h3, h4, h5, h6⟩ := h
  exact ⟨dx, v, le, lu, vs, us, s _ _ h1 (fun _ z => nomatch z), h2.ext (extN_ext s), s _ _ h3 (fun _ z => nomatch z), h4.ext (extN_ext s), s _ _ h5 (fun _ z => nomatch z), h6.ext (extN_ext s)⟩
theorem TabAt.ins {K : PySem.W.Frag} {CT : Addr} {H : Hp} {x : Addr} {b : Bsh} {ear und : List Bsh} (h : TabAt K CT H x b ear und) : ∃ dx fs, H x = some (.ins CT dx fs) := by
  obtain ⟨dx, v, le, lu, vs, us, h1, _⟩ := h
  exact ⟨dx, _, h1⟩
def T2 (Pt Pd : Addr) : List (Addr × Str) := [(Pt, qOf "law" ++ "<lambda>"), (Pd, qOf "_law_done" ++ "<lambda>")]
section
variable {P : Program} {w : World} {K : PySem.W.Frag} {mg : Str → Option Value} {base : Heap} {C : Nat → Addr} {CS CT c Pt Pd : Addr}
def spDone (K : PySem.W.Frag) (CT Pt Pd : Addr) : Sp := fun vs H Q _ => ∃ (x : Addr) (o : Op) (n : Nat) (t : S3) (k : Nat), vs = [.ref x, .str o.s, .int (n : Nat)] ∧ T3 K CT H x t ∧ S3Ok t k ∧ k ≤ 100 ∧ Tabs (T2 Pt Pd) H ∧
  ∀ H' u, MvT x H H' → Tabs (T2 Pt Pd) H' → At K H' u (opStep o n t).1 → T3 K CT H' x (opStep o n t).2 → Q u H'
theorem scDone : FnScope ["table", "name", "number"] ["table", "name", "number"] (defScope s_law_done) := ⟨rfl, rfl, rfl, by decide +kernel, rfl, by decide +kernel, by decide +kernel⟩
theorem k_done (F : HereC K mg "_law_done" s_law_done c) (Ft : Here K mg "_law_told" s_law_told) (Fm : Here K mg "_law_term" s_law_term) (B : Blt mg) (Ex : Excs K mg C CS) (TB : TabB base mg c Pd) (hne : Pt ≠ Pd) (T : ClsT K mg "Table" CT fldsT)
    (d_cut : KeepsM P w K mg base (L2N.CX P w) 3 CT "cut" ["self", "number"] (spTCut K C CT)) (d_undo : KeepsM P w K mg base (L2N.CX P w) 1 CT "undo" ["self"] (spTUndo K C CT)) (d_redo : KeepsM P w K mg base (L2N.CX P w) 1 CT "redo" ["self"] (spTRedo K C CT)) :
    Keeps' P w K mg base CX0 8 "_law_done" ["table", "name", "number"] (spDone K CT Pt Pd) := by
  refine keeps0C F scDone (fun _ _ _ _ _ _ us hl => match us, hl with | [_, _, _], _ => rfl) (fun vs H Q E h => by obtain ⟨_, _, _, _, _, e, _⟩ := h; rw [e]; rfl) fun f A outer s H vs Q E hr h => ?_
  obtain ⟨x, o, n, t, k, rfl, hT, ok, hk, hTab, q⟩ := h
  have TS : ToldS (cxOf CX0 P w K mg base ["table", "name", "number"] "_law_done" (defScope s_law_done) f (.ref c) A outer s H E).nox C CS c Pd := ⟨Ft, Fm, B, Ex, TB⟩
  have hmT : (Pd, qOf "_law_done" ++ "<lambda>") ∈ T2 Pt Pd := List.mem_cons_of_mem _ (List.mem_singleton.mpr rfl)
  have huT : ∀ p ∈ T2 Pt Pd, p.1 = Pd → p.2 = qOf "_law_done" ++ "<lambda>" := fun p hp e => by
    rcases List.mem_cons.mp hp with rfl | hp
    · exact absurd e hne
    · rw [List.mem_singleton.mp hp]
  refine ⟨_, pss_cons (ps_if (pt_cmpR op_eq (pv 1) pe_str (nomark _))
      (pss_one (ps_ret (pe_told (defScope s_law_done) (qOf "_law_done") (k := 4) TS (hr.mono (by decide)) (fun A outer s H E f c' hr' => pe_mX d_cut T.cl (hr'.mono (by decide)) (L2N.takes_of rfl rfl rfl rfl) (fun _ _ _ _ h => h) (pv 0) (pa1 (pv 2))) hmT huT)))
      (pss_nil))
    (pss_cons (ps_if (pt_cmpR op_eq (pv 1) pe_str (nomark _))
      (pss_one (ps_ret (pe_told (defScope s_law_done) (qOf "_law_done") (k := 4) TS (hr.mono (by decide)) (fun A outer s H E f c' hr' => pe_mX0 d_undo T.cl (hr'.mono (by decide)) (L2N.takes_of rfl rfl rfl rfl) (fun _ _ _ _ h => h) (pv 0)) hmT huT)))
      (pss_nil))
    (pss_one (ps_ret (pe_told (defScope s_law_done) (qOf "_law_done") (k := 4) TS (hr.mono (by decide)) (fun A outer s H E f c' hr' => pe_mX0 d_redo T.cl (hr'.mono (by decide)) (L2N.takes_of rfl rfl rfl rfl) (fun _ _ _ _ h => h) (pv 0)) hmT huT)))), ?_⟩
  obtain ⟨dx, fs, hx⟩ := hT.ins
  -- an error is told
  have err : ∀ (i : Nat) (H1 H2 : Hp), i < 10 → ExtN H H1 → Tabs (T2 Pt Pd) H1 → Same H1 H2 → opStep o n t = (errD i, t) → ∀ H3 p, Same H2 H3 → H2 p = none → H3 p = some (.tup [.str "error", .str (excNames.getD i "")]) → Q (.ref p) H3 := fun i H1 H2 hi x1 T1 s2 e H3 p s3 np ep => by
    have s13 := s2.trans s3
    have q := q H3 (.ref p) ((mvT_of x1 (MvA.refl x H1)).same s13) (fun r hr => (T1 r hr).ext s13)
    rw [e] at q
    exact q (at_err hi ep) ((hT.extN x1).same s13)
  have good : ∀ (H1 H2 : Hp) (u : V) (r : PyData) (t' : S3), ExtN H H1 → Tabs (T2 Pt Pd) H1 → MvA x H1 H2 → opStep o n t = (r, t') → At K H2 u r → T3 K CT H2 x t' → Q u H2 := fun H1 H2 u r t' x1 T1 m e hu ht => by
    have q := q H2 u (mvT_of x1 m) (tabs_mvA T1 (x1 _ _ hx (fun _ z => nomatch z)) m)
    rw [e] at q
    exact q hu ht
  have h7 := ok.now.len
  have hle := ok.le
  have hlu := ok.lu
  obtain ⟨dx', v, le, lu, vs, us, h1, _⟩ := id hT
  have hx1 : ∀ {H1 : Hp}, ExtN H H1 → H1 x = some (.ins CT dx' (tf v le lu)) := fun x1 => x1 _ _ h1 (fun _ z => nomatch z)
  cases o with
  | cut =>
    refine ⟨_, rfl, rfl, _, rfl, iteT ⟨hTab, fun H1 x1 T1 => ⟨_, rfl, x, dx', _, rfl, hx1 x1, tf_no _ _ _ (by decide), _, rfl, x, .int (n : Nat), t.now, t.ear, t.und, .int (n : Nat), rfl, hT.extN x1, ok.now, by omega, .int _, fun g H2 s2 => ?_, fun n' e hn' => ?_⟩⟩⟩
    · have hn : ¬ n < t.now.length := fun z => by
        have : whole (.int (n : Nat)) 0 ((t.now.length : Int) - 1) = true := by
          show (decide (0 ≤ (n : Int)) && decide ((n : Int) ≤ t.now.length - 1)) = true
          rw [decide_eq_true (show 0 ≤ (n : Int) by omega), decide_eq_true (show (n : Int) ≤ t.now.length - 1 by omega)]; rfl
        rw [this] at g
        cases g
      exact ⟨rfl, 1, by decide, rfl, err 1 H1 H2 (by decide) x1 T1 s2 (by unfold opStep; rw [if_neg hn])⟩
    · have e : n = n' := by have := PyData.int.inj e; omega
      subst e
      refine ⟨fun hc H2 s2 => ⟨rfl, 8, by decide, rfl, err 8 H1 H2 (by decide) x1 T1 s2 (by unfold opStep; rw [if_pos hn', if_neg hc])⟩, fun hc H2 u m2 ht hu => ?_⟩
      exact good H1 H2 u _ ⟨withoutB t.now n, t.ear ++ [t.now], []⟩ x1 T1 m2 (by unfold opStep; rw [if_pos hn', if_pos hc]) hu ht
  | undo =>
    refine ⟨_, rfl, rfl, _, rfl, iteF ⟨_, rfl, rfl, _, rfl, iteT ⟨hTab, fun H1 x1 T1 => ⟨_, rfl, x, dx', _, rfl, hx1 x1, tf_no _ _ _ (by decide), x, t.now, t.ear, t.und, rfl, hT.extN x1, by omega, fun g H2 s2 => ?_, fun e l he H2 u m2 ht hu => ?_⟩⟩⟩⟩
    · exact ⟨rfl, 9, by decide, rfl, err 9 H1 H2 (by decide) x1 T1 s2 (by unfold opStep; rw [g]; rfl)⟩
    · exact good H1 H2 u _ ⟨l, e, t.und ++ [t.now]⟩ x1 T1 m2 (by unfold opStep; rw [he, List.getLast?_concat, List.dropLast_concat]) hu ht
  | redo =>
    refine ⟨_, rfl, rfl, _, rfl, iteF ⟨_, rfl, rfl, _, rfl, iteF ⟨hTab, fun H1 x1 T1 => ⟨_, rfl, x, dx', _, rfl, hx1 x1, tf_no _ _ _ (by decide), x, t.now, t.ear, t.und, rfl, hT.extN x1, by omega, fun g H2 s2 => ?_, fun e l he H2 u m2 ht hu => ?_⟩⟩⟩⟩
    · exact ⟨rfl, 9, by decide, rfl, err 9 H1 H2 (by decide) x1 T1 s2 (by unfold opStep; rw [g]; rfl)⟩
    · exact good H1 H2 u _ ⟨l, t.ear ++ [t.now], e⟩ x1 T1 m2 (by unfold opStep; rw [he, List.getLast?_concat, List.dropLast_concat]) hu ht
end
end Sv

set_option maxHeartbeats 4000000
namespace Sv
open PySem PySem.Spec PyProof.Rows L2 L2H HotX LamX
/-- a list of bushes -/
def LawL (K : PySem.W.Frag) (H : Hp) (a : Addr) (l : List Bsh) : Prop := ∃ vs, H a = some (.lst vs) ∧ AtAll K H vs (l.map bushD)
theorem LawL.same {K : PySem.W.Frag} {H H' : Hp} {a : Addr} {l : List Bsh} (h : LawL K H a l) (s : Same H H') : LawL K H' a l := let ⟨vs, h1, h2⟩ := h; ⟨vs, s _ _ h1, h2.ext (Same.ext s)⟩
def MvX (d x : Addr) (H H' : Hp) : Prop := ∀ b o, H b = some o → (∀ ps, o ≠ .tbl ps) → b ≠ d → b ≠ x → H' b = some o
theorem MvX.same {d x : Addr} {H H1 H2 : Hp} (m : MvX d x H H1) (s : Same H1 H2) : MvX d x H H2 := fun b o e h n n2 => s _ _ (m b o e h n n2)
theorem MvX.ext {d x C dx : Addr} {fs : List (Str × V)} {H H' : Hp} (m : MvX d x H H') (hd : Dice H d) (hx : H x = some (.ins C dx fs)) : Ext H H' := by
  obtain ⟨i, j, e⟩ := hd
  exact ⟨fun b xs q => m b _ q (fun _ z => nomatch z) (ne_of q e fun z => nomatch z) (ne_of q hx fun z => nomatch z), fun b o u q => m b _ q (fun _ z => nomatch z) (ne_of q e fun z => nomatch z) (ne_of q hx fun z => nomatch z)⟩
theorem tabs_mv {T : List (Addr × Str)} {d : Addr} {H H' : Hp} (t : Tabs T H) (k : Dice H d) (m : Mv d H H') : Tabs T H' := by
  obtain ⟨x, y, q⟩ := k
  exact tabs_keep t q fun b o e n => m.keep b o e n
theorem bl_ne {K : PySem.W.Frag} {H : Hp} {d a : Addr} {vs : List V} {l : List Bsh} (k : Dice H d) (e : H a = some (.lst vs)) (h : AtAll K H vs (l.map bushD)) : a ≠ d := fun z => by
  obtain ⟨i, j, q⟩ := k
  rw [z, q] at e
  cases e
  cases l with
  | nil => have := AtAll.len h.2; simp at this
  | cons b r =>
    obtain ⟨dd, e1, e2⟩ := h.get (i := 0) (v := .int i) rfl
    rw [List.map_cons] at e1
    cases e1
    obtain ⟨a, _, e3, _⟩ := At.inv e2
    cases e3
theorem TabAt.mv {K : PySem.W.Frag} {CT d : Addr} {H H' : Hp} {x : Addr} {b : Bsh} {ear und : List Bsh} (h : TabAt K CT H x b ear und) (k : Dice H d) (m : Mv d H H') : TabAt K CT H' x b ear und := by
  obtain ⟨dx, v, le, lu, vs, us, h1, h2, h3, h4, h5, h6⟩ := h
  have n1 := bl_ne k h3 h4
  have n2 := bl_ne k h5 h6
  have e := Mv.ext k m
  obtain ⟨i, j, q⟩ := k
  exact ⟨dx, v, le, lu, vs, us, m.keep _ _ h1 (ne_of h1 q fun z => nomatch z), h2.ext e, m.keep _ _ h3 n1, h4.ext e, m.keep _ _ h5 n2, h6.ext e⟩
theorem LawL.mv {K : PySem.W.Frag} {d : Addr} {H H' : Hp} {a : Addr} {l : List Bsh} (h : LawL K H a l) (k : Dice H d) (m : Mv d H H') : LawL K H' a l := let ⟨vs, h1, h2⟩ := h; ⟨vs, m.keep _ _ h1 (bl_ne k h1 h2), h2.ext (Mv.ext k m)⟩
theorem mvT_ext {x C dx : Addr} {fs : List (Str × V)} {H H' : Hp} (m : MvT x H H') (hx : H x = some (.ins C dx fs)) : Ext H H' :=
  ⟨fun b xs q => m b _ q (fun _ z => nomatch z) (ne_of q hx fun z => nomatch z), fun b o u q => m b _ q (fun _ z => nomatch z) (ne_of q hx fun z => nomatch z)⟩
theorem LawL.mvT {K : PySem.W.Frag} {x C dx : Addr} {fs : List (Str × V)} {H H' : Hp} {a : Addr} {l : List Bsh} (h : LawL K H a l) (m : MvT x H H') (hx : H x = some (.ins C dx fs)) : LawL K H' a l := let ⟨vs, h1, h2⟩ := h; ⟨vs, m _ _ h1 (fun _ z => nomatch z) (ne_of h1 hx fun z => nomatch z), h2.ext (mvT_ext m hx)⟩
theorem Dice.mvT {x C dx d : Addr} {fs : List (Str × V)} {H H' : Hp} (h : Dice H d) (m : MvT x H H') (hx : H x = some (.ins C dx fs)) : Dice H' d := let ⟨i, j, e⟩ := h; ⟨i, j, m _ _ e (fun _ z => nomatch z) (ne_of e hx fun z => nomatch z)⟩
theorem op_depth (o : Op) (n : Nat) (t : S3) : (opStep o n t).1.depth ≤ 64 := by
  have he : ∀ i, i < 10 → (errD i).depth ≤ 64 := by decide +kernel
  cases o with
  | cut =>
    by_cases h1 : n < t.now.length
    · by_cases h2 : n ∈ cutsB t.now (plc t.ear.length)
      · have e : opStep .cut n t = (bushD (withoutB t.now n), ⟨withoutB t.now n, t.ear ++ [t.now], []⟩) := by unfold opStep; rw [if_pos h1, if_pos h2]
        rw [e]; exact bush_depth
      · have e : opStep .cut n t = (errD 8, t) := by unfold opStep; rw [if_pos h1, if_neg h2]
        rw [e]; exact he 8 (by decide)
    · have e : opStep .cut n t = (errD 1, t) := by unfold opStep; rw [if_neg h1]
      rw [e]; exact he 1 (by decide)
  | undo =>
    unfold opStep
    cases e : t.ear.getLast? with
    | none => exact he 9 (by decide)
    | some l => exact bush_depth
  | redo =>
    unfold opStep
    cases e : t.und.getLast? with
    | none => exact he 9 (by decide)
    | some l => exact bush_depth
theorem plc_at (n : Nat) : atI (Str.ofString "wb").cps.toList ((n : Int) % 2) = some (plc n).code := by
  unfold plc
  by_cases h : n % 2 = 0
  · rw [if_pos h, show (n : Int) % 2 = ((0 : Nat) : Int) by omega]
    exact atI_nat rfl
  · rw [if_neg h, show (n : Int) % 2 = ((1 : Nat) : Int) by omega]
    exact atI_nat rfl
section
variable {P : Program} {w : World} {K : PySem.W.Frag} {mg : Str → Option Value} {base : Heap} {C : Nat → Addr} {CS CT c Pt Pd : Addr}
def spTurn (K : PySem.W.Frag) (CT Pt Pd : Addr) : Sp := fun vs H Q _ => ∃ (d x : Addr) (v : V) (le lu : Addr) (t : S3) (k : Nat), vs = [.ref d, .ref x, v, .ref le, .ref lu] ∧ Dice H d ∧ T3 K CT H x t ∧ S3Ok t k ∧ k ≤ 100 ∧ At K H v (bushD t.now) ∧ LawL K H le t.ear ∧ LawL K H lu t.und ∧ Tabs (T2 Pt Pd) H ∧
  ∀ H' p u1 u2 v' le' lu' r t', MvX d x H H' → Dice H' d → Tabs (T2 Pt Pd) H' → H' p = some (.tup [u1, u2, v', .ref le', .ref lu']) → At K H' u1 r → At K H' u2 r → r.depth ≤ 64 → At K H' v' (bushD t'.now) → LawL K H' le' t'.ear → LawL K H' lu' t'.und → T3 K CT H' x t' → S3Ok t' (k + 1) → Q (.ref p) H'
theorem scTurn : FnScope ["dice", "table", "bush", "earlier", "undone", "name", "number", "made", "left", "some"] ["dice", "table", "bush", "earlier", "undone"] (defScope s_law_turn) := ⟨rfl, rfl, rfl, by decide +kernel, rfl, by decide +kernel, by decide +kernel⟩
theorem k_turn (F : Here K mg "_law_turn" s_law_turn) (B : Blt mg) (d_roll : Keeps' P w K mg base CX0 2 "_law_roll" ["dice", "many"] spRoll) (d_done : Keeps' P w K mg base CX0 8 "_law_done" ["table", "name", "number"] (spDone K CT Pt Pd))
    (d_moves : Keeps' P w K mg base CX0 1 "_law_moves" ["bush", "player"] (spCutsOf K)) (d_lwo : Keeps' P w K mg base CX0 1 "_law_without" ["bush", "number"] (spWithout K)) : Keeps' P w K mg base CX0 9 "_law_turn" ["dice", "table", "bush", "earlier", "undone"] (spTurn K CT Pt Pd) := by
  refine keeps0 F scTurn (fun _ _ _ _ _ _ us hl => match us, hl with | [_, _, _, _, _], _ => rfl) (fun vs H Q E h => by obtain ⟨_, _, _, _, _, _, _, e, _⟩ := h; rw [e]; rfl) fun f cdv A outer s H vs Q E hr h => ?_
  obtain ⟨d, x, v, le, lu, t, k, rfl, hD, hT, ok, hk, hv, hle, hlu, hTab, q⟩ := h
  refine ⟨_, pss_cons (ps_par (i := 5) (j := 6) rfl scTurn.nd rfl rfl (by decide) rfl rfl (pa2 (pe_ix (ix_listK K) (pe_lstN (pa_cons pe_str (pa3 pe_str pe_str pe_str))) (pe_d0 d_roll (hr.mono (by decide)) (by rfl) (pa2 (pv 0) pe_int)) (fun _ _ => rfl)) (pe_d0 d_roll (hr.mono (by decide)) (by rfl) (pa2 (pv 0) (pe_op op_add (pb (call_len_seqK K) B.len PySem.boot_len (pa1 (pv 2))) pe_int)))) (by rfl))
    (pss_cons (st 7 scTurn.nd (pe_d0 d_done (hr.mono (by decide)) (by rfl) (pa3 (pv 1) (pv 5) (pv 6))))
    (pss_cons (ps_if (pt_cmpR op_eq (pv 5) pe_str (nomark _))
      (pss_cons (ps_if (pt_cmpR op_eq (pv 6) (pb (call_len_seqK K) B.len PySem.boot_len (pa1 (pv 2))) (nomark _))
          (pss_one (ps_ret (pe_tupN (pa_cons (pv 7) (pa_cons (pe_tupN (pa2 pe_str pe_str)) (pa3 (pv 2) (pv 3) (pv 4)))))))
          (pss_nil))
        (pss_cons (ps_if (pt_cmpR (op_notIn_seqK K) (pv 6) (pe_d0 d_moves (hr.mono (by decide)) (by rfl) (pa2 (pv 2) (pe_ix ix_str pe_str (pe_op op_mod (pb (call_len_seqK K) B.len PySem.boot_len (pa1 (pv 3))) pe_int) (fun _ _ => rfl)))) (by rfl))
          (pss_one (ps_ret (pe_tupN (pa_cons (pv 7) (pa_cons (pe_tupN (pa2 pe_str pe_str)) (pa3 (pv 2) (pv 3) (pv 4)))))))
          (pss_nil))
        (pss_cons (st 8 scTurn.nd (pe_d0 d_lwo (hr.mono (by decide)) (by rfl) (pa2 (pv 2) (pv 6))))
        (pss_one (ps_ret (pe_tupN (pa_cons (pv 7) (pa_cons (pv 8) (pa3 (pv 8) (pe_op op_catN (pv 3) (pe_lstN (pa1 (pv 2)))) (pe_lstN pa_nil))))))))))
      (pss_nil))
    (pss_cons (st 9 scTurn.nd (pe_ifExp (pt_cmpR op_eq (pv 5) pe_str (nomark _)) (pv 3) (pv 4)))
    (pss_cons (ps_if (pt_cmpR (op_eqDK K hr.units) (pv 9) (pe_lstN pa_nil) (nomark _))
      (pss_one (ps_ret (pe_tupN (pa_cons (pv 7) (pa_cons (pe_tupN (pa2 pe_str pe_str)) (pa3 (pv 2) (pv 3) (pv 4)))))))
      (pss_nil))
    (pss_cons (ps_if (pt_cmpR op_eq (pv 5) pe_str (nomark _))
      (pss_one (ps_ret (pe_tupN (pa_cons (pv 7) (pa_cons (pe_ix (ix_listK K) (pv 9) (pe_un un_neg pe_int) (fun _ _ => rfl)) (pa3 (pe_ix (ix_listK K) (pv 9) (pe_un un_neg pe_int) (fun _ _ => rfl)) (pe_slice (sl_listK K) (pv 3) po_none (po_some (pe_un un_neg pe_int))) (pe_op op_catN (pv 4) (pe_lstN (pa1 (pv 2))))))))))
      (pss_nil))
    (pss_one (ps_ret (pe_tupN (pa_cons (pv 7) (pa_cons (pe_ix (ix_listK K) (pv 9) (pe_un un_neg pe_int) (fun _ _ => rfl)) (pa3 (pe_ix (ix_listK K) (pv 9) (pe_un un_neg pe_int) (fun _ _ => rfl)) (pe_op op_catN (pv 3) (pe_lstN (pa1 (pv 2)))) (pe_slice (sl_listK K) (pv 4) po_none (po_some (pe_un un_neg pe_int)))))))))))))), ?_⟩
  obtain ⟨av, bvs, rfl, hsv, hbv, hlv⟩ := bush_at hv
  have h7 := ok.now.len
  refine ⟨szl rfl, fun g H1 ng s1 eg => ⟨_, rfl, d, 4, rfl, hD.same s1, by decide, by decide, fun H2 z m2 z0 z4 => ?_⟩⟩
  have eg2 := m2.lst eg ((hD).ne ng)
  obtain ⟨o, ho⟩ : ∃ o : Op, atI [V.str "cut", V.str "cut", V.str "undo", V.str "redo"] z = some (.str o.s) := by
    have : z = 0 ∨ z = 1 ∨ z = 2 ∨ z = 3 := by omega
    rcases this with rfl | rfl | rfl | rfl
    · exact ⟨.cut, atI_nat (j := 0) rfl⟩
    · exact ⟨.cut, atI_nat (j := 1) rfl⟩
    · exact ⟨.undo, atI_nat (j := 2) rfl⟩
    · exact ⟨.redo, atI_nat (j := 3) rfl⟩
  have hv2 := (hv.same s1).ext (Mv.ext (hD.same s1) m2)
  obtain ⟨av2, bvs2, eav, hsv2, hbv2, hlv2⟩ := bush_at hv2
  cases eav
  refine ⟨g, _, z, .str o.s, rfl, rfl, SqL.of eg2, ho, _, rfl, _, rfl, av, bvs2, rfl, .inr hsv2, _, _, rfl, rfl, d, _, rfl, m2.dice, by omega, by omega, fun H3 z2 m3 z20 z21 => ⟨_, _, rfl, ?_⟩⟩
  obtain ⟨n, rfl⟩ : ∃ n : Nat, z2 = (n : Int) := ⟨z2.toNat, by omega⟩
  have hn : n ≤ t.now.length := by omega
  have m13 : Mv d H H3 := ((Mv.of_same hD s1).trans m2).trans m3
  have hT3 := hT.mv hD m13
  have hle3 := hle.mv hD m13
  have hlu3 := hlu.mv hD m13
  have hv3 := hv.ext (Mv.ext hD m13)
  have hTab3 := tabs_mv hTab hD m13
  obtain ⟨dx, fs, hx3⟩ := hT3.ins
  refine ⟨_, rfl, _, rfl, _, rfl, x, o, n, t, k, rfl, hT3, ok, hk, hTab3, fun H4 u m4 hTab4 hu hT4 => ?_⟩
  have hD4 := m13.dice.mvT m4 hx3
  have hle4 := hle3.mvT m4 hx3
  have hlu4 := hlu3.mvT m4 hx3
  have hv4 := hv3.ext (mvT_ext m4 hx3)
  have hx0 : ∀ dx fs, H x = some (.ins CT dx fs) → x ≠ d := fun dx fs e => by obtain ⟨i, j, q⟩ := hD; exact ne_of e q fun z => nomatch z
  have m04 : MvX d x H H4 := fun b o e h n1 n2 => m4 b o (m13.keep b o e n1) h n2
  have ok' := op_ok (o := o) (n := n) ok
  -- the answer
  have fin : ∀ (H' : Hp) (p : Addr) (u2 v' : V) (le' lu' : Addr), Same H4 H' → H' p = some (.tup [u, u2, v', .ref le', .ref lu']) → At K H' u2 (opStep o n t).1 → At K H' v' (bushD (opStep o n t).2.now) → LawL K H' le' (opStep o n t).2.ear → LawL K H' lu' (opStep o n t).2.und → Q (.ref p) H' := fun H' p u2 v' le' lu' s' ep h2 h3 h4 h5 => by
    refine q H' p u u2 v' le' lu' _ _ (m04.same s') (hD4.same s') (fun r hr => (hTab4 r hr).ext s') ep (hu.same s') h2 ?_ h3 h4 h5 (hT4.same s') ok'
    exact op_depth o n t
  obtain ⟨vle, ele, ale⟩ := id hle4
  obtain ⟨vlu, elu, alu⟩ := id hlu4
  have hle100 := ok.le
  have hlu100 := ok.lu
  have lle : vle.length = t.ear.length := by rw [AtAll.len ale.2, List.length_map]
  have llu : vlu.length = t.und.length := by rw [AtAll.len alu.2, List.length_map]
  cases o with
  | cut =>
    obtain ⟨av4, bvs4, eav, hsv4, hbv4, hlv4⟩ := bush_at hv4
    cases eav
    refine ⟨_, rfl, rfl, _, rfl, iteT ⟨_, rfl, _, rfl, av, bvs4, rfl, .inr hsv4, rfl, _, rfl, ?_⟩⟩
    by_cases hnl : n = t.now.length
    · refine ite2 (fun _ => ?_) fun z => absurd (decide_eq_true (by rw [hnl, hlv4])) z
      have e : opStep .cut n t = (errD 1, t) := by unfold opStep; rw [if_neg (by omega)]
      refine ⟨_, rfl, szl rfl, fun te H5 nte s5 ete => ⟨_, rfl, _, rfl, _, rfl, szl rfl, fun p H6 np s6 ep => ?_⟩⟩
      have s56 := s5.trans s6
      refine fin H6 p (.ref te) (.ref av) le lu s56 ep ?_ ?_ ?_ ?_
      · rw [e]; exact at_err (by decide) (s6 _ _ ete)
      · rw [e]; exact hv4.same s56
      · rw [e]; exact hle4.same s56
      · rw [e]; exact hlu4.same s56
    · refine ite2 (fun z => absurd (V.int.inj (of_decide_eq_true z)) (by omega)) fun _ => ?_
      have hlt : n < t.now.length := by omega
      refine ⟨_, rfl, _, rfl, _, rfl, le, vle, rfl, .inl (SqL.of ele), _, _, rfl, rfl, (by show (0 : Int) < 2; decide), _, _, _, rfl, rfl, by decide, by rw [lle]; exact plc_at _, .ref av, t.now, plc t.ear.length, by rw [col_code], hv4, ok.now.lo, fun H5 pm s5 npm epm => ⟨pm, _, rfl, .inl (SqL.of epm), rfl, flat_nats _, _, rfl, ?_⟩⟩
      show if (!inV (.int (n : Int)) ((cutsB t.now (plc t.ear.length)).map fun (k : Nat) => V.int k)) = true then _ else _
      rw [inV_nats]
      by_cases hc : n ∈ cutsB t.now (plc t.ear.length)
      · rw [decide_eq_true hc]
        have e : opStep .cut n t = (bushD (withoutB t.now n), ⟨withoutB t.now n, t.ear ++ [t.now], []⟩) := by unfold opStep; rw [if_pos hlt, if_pos hc]
        refine ⟨_, rfl, _, rfl, .ref av, t.now, n, rfl, hv4.same s5, ok.now.lo, fun H6 pl s6 npl hpl => ?_⟩
        have s56 := s5.trans s6
        refine ⟨_, rfl, _, rfl, _, rfl, _, rfl, _, rfl, szl rfl, fun l1 H7 nl1 s7 el1 => ⟨le, l1, vle, [.ref av], rfl, rfl, s7 _ _ (s56 _ _ ele), el1, (by rw [sizeLine_eq]; simp; omega), fun l2 H8 nl2 s8 el2 => ⟨szl rfl, fun l3 H9 nl3 s9 el3 => ⟨szl rfl, fun p H10 np s10 ep => ?_⟩⟩⟩⟩
        have sA := s56.trans (s7.trans (s8.trans (s9.trans s10)))
        have hpl10 := hpl.same (s7.trans (s8.trans (s9.trans s10)))
        refine fin H10 p (.ref pl) (.ref pl) l2 l3 sA ep ?_ ?_ ?_ ?_
        · rw [e]; exact hpl10
        · rw [e]; exact hpl10
        · rw [e]
          refine ⟨vle ++ [.ref av], s10 _ _ (s9 _ _ el2), ?_⟩
          show AtAll K H10 _ ((t.ear ++ [t.now]).map bushD)
          rw [List.map_append]
          exact AtAll.snoc (hv4.same sA) (ale.ext (Same.ext sA))
        · rw [e]; exact ⟨[], s10 _ _ el3, AtAll.nil⟩
      · rw [decide_eq_false hc]
        have e : opStep .cut n t = (errD 8, t) := by unfold opStep; rw [if_pos hlt, if_neg hc]
        refine ⟨_, rfl, szl rfl, fun te H6 nte s6 ete => ⟨_, rfl, _, rfl, _, rfl, szl rfl, fun p H7 np s7 ep => ?_⟩⟩
        have s57 := s5.trans (s6.trans s7)
        refine fin H7 p (.ref te) (.ref av) le lu s57 ep ?_ ?_ ?_ ?_
        · rw [e]; exact at_err (by decide) (s7 _ _ ete)
        · rw [e]; exact hv4.same s57
        · rw [e]; exact hle4.same s57
        · rw [e]; exact hlu4.same s57
  | undo =>
    refine ⟨_, rfl, rfl, _, rfl, iteF ⟨_, rfl, rfl, _, rfl, iteT ⟨_, rfl, ?_⟩⟩⟩
    refine ⟨_, rfl, szl rfl, fun e0 H5 ne0 s5 ee0 => ⟨.list (t.ear.map bushD), .list [], .lst (SqL.of (s5 _ _ ele)) (ale.ext (Same.ext s5)).2, .lst (SqL.of ee0) .nil, shaped_bushes t.ear, rfl, _, rfl, ?_⟩⟩
    rw [eqv_nil]
    by_cases hne : t.ear = []
    · have e : opStep .undo n t = (errD 9, t) := by unfold opStep; rw [hne]; rfl
      rw [show (t.ear.map bushD).isEmpty = true by rw [hne]; rfl]
      refine ⟨_, rfl, szl rfl, fun te H6 nte s6 ete => ⟨_, rfl, _, rfl, _, rfl, szl rfl, fun p H7 np s7 ep => ?_⟩⟩
      have s57 := s5.trans (s6.trans s7)
      refine fin H7 p (.ref te) (.ref av) le lu s57 ep ?_ ?_ ?_ ?_
      · rw [e]; exact at_err (by decide) (s7 _ _ ete)
      · rw [e]; exact hv4.same s57
      · rw [e]; exact hle4.same s57
      · rw [e]; exact hlu4.same s57
    · obtain ⟨ei, l, hl⟩ := snoc_of hne
      have e : opStep .undo n t = (bushD l, ⟨l, ei, t.und ++ [t.now]⟩) := by unfold opStep; rw [hl, List.getLast?_concat, List.dropLast_concat]
      rw [show (t.ear.map bushD).isEmpty = false by rw [hl, List.map_append]; cases (ei.map bushD) <;> rfl]
      rw [hl, List.map_append] at ale
      obtain ⟨vs', vl, rfl, hvs', hvl⟩ := ale.unsnoc
      have el5 := s5 _ _ ele
      refine ⟨_, rfl, rfl, _, rfl, iteT ⟨_, rfl, _, rfl, _, rfl, le, _, -1, vl, rfl, rfl, SqL.of el5, atI_last _ _, _, rfl, _, rfl, le, _, -1, vl, rfl, rfl, SqL.of el5, atI_last _ _, _, rfl, _, rfl, -1, rfl, le, _, rfl, SqL.of el5, fun l1 H6 nl1 s6 el1 => ?_⟩⟩
      rw [cutV_init] at el1
      refine ⟨_, rfl, _, rfl, szl rfl, fun l2 H7 nl2 s7 el2 => ⟨lu, l2, vlu, [.ref av], rfl, rfl, s7 _ _ (s6 _ _ (s5 _ _ elu)), el2, (by rw [sizeLine_eq]; simp; omega), fun l3 H8 nl3 s8 el3 => ⟨szl rfl, fun p H9 np s9 ep => ?_⟩⟩⟩
      have sA := s5.trans (s6.trans (s7.trans (s8.trans s9)))
      refine fin H9 p vl vl l1 l3 sA ep ?_ ?_ ?_ ?_
      · rw [e]; exact hvl.same sA
      · rw [e]; exact hvl.same sA
      · rw [e]; exact ⟨vs', s9 _ _ (s8 _ _ (s7 _ _ el1)), hvs'.ext (Same.ext sA)⟩
      · rw [e]
        refine ⟨vlu ++ [.ref av], s9 _ _ el3, ?_⟩
        show AtAll K H9 _ ((t.und ++ [t.now]).map bushD)
        rw [List.map_append]
        exact AtAll.snoc (hv4.same sA) (alu.ext (Same.ext sA))
  | redo =>
    refine ⟨_, rfl, rfl, _, rfl, iteF ⟨_, rfl, rfl, _, rfl, iteF ⟨_, rfl, ?_⟩⟩⟩
    refine ⟨_, rfl, szl rfl, fun e0 H5 ne0 s5 ee0 => ⟨.list (t.und.map bushD), .list [], .lst (SqL.of (s5 _ _ elu)) (alu.ext (Same.ext s5)).2, .lst (SqL.of ee0) .nil, shaped_bushes t.und, rfl, _, rfl, ?_⟩⟩
    rw [eqv_nil]
    by_cases hne : t.und = []
    · have e : opStep .redo n t = (errD 9, t) := by unfold opStep; rw [hne]; rfl
      rw [show (t.und.map bushD).isEmpty = true by rw [hne]; rfl]
      refine ⟨_, rfl, szl rfl, fun te H6 nte s6 ete => ⟨_, rfl, _, rfl, _, rfl, szl rfl, fun p H7 np s7 ep => ?_⟩⟩
      have s57 := s5.trans (s6.trans s7)
      refine fin H7 p (.ref te) (.ref av) le lu s57 ep ?_ ?_ ?_ ?_
      · rw [e]; exact at_err (by decide) (s7 _ _ ete)
      · rw [e]; exact hv4.same s57
      · rw [e]; exact hle4.same s57
      · rw [e]; exact hlu4.same s57
    · obtain ⟨ei, l, hl⟩ := snoc_of hne
      have e : opStep .redo n t = (bushD l, ⟨l, t.ear ++ [t.now], ei⟩) := by unfold opStep; rw [hl, List.getLast?_concat, List.dropLast_concat]
      rw [show (t.und.map bushD).isEmpty = false by rw [hl, List.map_append]; cases (ei.map bushD) <;> rfl]
      rw [hl, List.map_append] at alu
      obtain ⟨vs', vl, rfl, hvs', hvl⟩ := alu.unsnoc
      have el5 := s5 _ _ elu
      refine ⟨_, rfl, rfl, _, rfl, iteF ⟨_, rfl, _, rfl, _, rfl, lu, _, -1, vl, rfl, rfl, SqL.of el5, atI_last _ _, _, rfl, _, rfl, lu, _, -1, vl, rfl, rfl, SqL.of el5, atI_last _ _, _, rfl, _, rfl, szl rfl, fun l2 H6 nl2 s6 el2 => ⟨le, l2, vle, [.ref av], rfl, rfl, s6 _ _ (s5 _ _ ele), el2, (by rw [sizeLine_eq]; simp; omega), fun l3 H7 nl3 s7 el3 => ?_⟩⟩⟩
      refine ⟨_, rfl, _, rfl, -1, rfl, lu, _, rfl, SqL.of (s7 _ _ (s6 _ _ el5)), fun l1 H8 nl1 s8 el1 => ?_⟩
      rw [cutV_init] at el1
      refine ⟨szl rfl, fun p H9 np s9 ep => ?_⟩
      have sA := s5.trans (s6.trans (s7.trans (s8.trans s9)))
      refine fin H9 p vl vl l3 l1 sA ep ?_ ?_ ?_ ?_
      · rw [e]; exact hvl.same sA
      · rw [e]; exact hvl.same sA
      · rw [e]
        refine ⟨vle ++ [.ref av], s9 _ _ (s8 _ _ el3), ?_⟩
        show AtAll K H9 _ ((t.ear ++ [t.now]).map bushD)
        rw [List.map_append]
        exact AtAll.snoc (hv4.same sA) (ale.ext (Same.ext sA))
      · rw [e]; exact ⟨vs', s9 _ _ el1, hvs'.ext (Same.ext sA)⟩
end
end Sv

set_option maxHeartbeats 8000000
namespace Sv
open PySem PySem.Spec PyProof.Rows L2 L2H HotX LamX
theorem Live.mvX {T : List (Addr × Str)} {p d x C dx : Addr} {fs : List (Str × V)} {ds : List Addr} {H H' : Hp} (h : Live T p ds H) (m : MvX d x H H') (hd : Dice H d) (hD : Dice H' d) (hx : H x = some (.ins C dx fs)) (hT : Tabs T H') : Live T p ds H' := by
  refine ⟨m _ _ h.rounds (fun _ z => nomatch z) (dice_ne h.rounds hd) (ne_of h.rounds hx fun z => nomatch z), fun e he => ?_, hT⟩
  by_cases z : e = d
  · rw [z]; exact hD
  · obtain ⟨i, j, q⟩ := h.dice e he
    exact ⟨i, j, m _ _ q (fun _ z => nomatch z) z (ne_of q hx fun z => nomatch z)⟩
section
variable {P : Program} {w : World} {K : PySem.W.Frag} {mg : Str → Option Value} {base : Heap} {C : Nat → Addr} {CS CT c Pt Pd : Addr}
def spLaw (K : PySem.W.Frag) (Pt Pd : Addr) : Sp := fun vs H Q _ => ∃ (a : Addr) (ns : List Int), vs = [.ref a] ∧ SqL K H a (ns.map V.int) ∧ ns.length ≤ 63 ∧ Tabs (T2 Pt Pd) H ∧ ∀ H', Q (.bl true) H'
/-- between the turns -/
def Iv (K : PySem.W.Frag) (CT Pt Pd p : Addr) (ds : List Addr) (d x : Addr) (y0 : Option V) (k : Nat) (σ : L2.St) (H : Hp) : Prop :=
  Live (T2 Pt Pd) p ds H ∧ ∃ v le lu t y6 y7 y8 y9, σ = [y0, some (.ref d), some v, some (.ref x), some (.ref le), some (.ref lu), y6, y7, y8, y9] ∧ T3 K CT H x t ∧ S3Ok t k ∧ At K H v (bushD t.now) ∧ LawL K H le t.ear ∧ LawL K H lu t.und
theorem scLaw : FnScope ["script", "dice", "bush", "table", "earlier", "undone", "turn", "made", "due", "bad"] ["script"] (defScope s_law) := ⟨rfl, rfl, rfl, by decide +kernel, rfl, by decide +kernel, by decide +kernel⟩
theorem k_law (F : HereC K mg "law" s_law c) (Ft : Here K mg "_law_told" s_law_told) (Fm : Here K mg "_law_term" s_law_term) (B : Blt mg) (Ex : Excs K mg C CS) (TB : TabB base mg c Pt) (hne : Pt ≠ Pd) (T : ClsT K mg "Table" CT fldsT)
    (d_rounds : Keeps' P w K mg base CX0 2 "_law_rounds" ["script", "most"] (spRounds K)) (d_any : Keeps' P w K mg base CX0 3 "_law_any_bush" ["dice", "most", "colours"] (spAnyBush K)) (d_turn : Keeps' P w K mg base CX0 9 "_law_turn" ["dice", "table", "bush", "earlier", "undone"] (spTurn K CT Pt Pd))
    (d_init : KeepsM P w K mg base (L2N.CX P w) 5 CT "__init__" ["self", "bush"] (spTInit K C CT)) (d_bush : KeepsM P w K mg base CX0 1 CT "bush" ["self"] (spTBush K CT)) (d_player : KeepsM P w K mg base CX0 1 CT "player" ["self"] (spTPlayer K CT)) (d_len : KeepsM P w K mg base CX0 1 CT "__len__" ["self"] (spTLen K CT))
    (d_cut : KeepsM P w K mg base (L2N.CX P w) 3 CT "cut" ["self", "number"] (spTCut K C CT)) :
    KeepsC P w K mg base CX0 15 "law" ["script"] (spLaw K Pt Pd) := by
  refine keepsLaw F scLaw (fun vs H Q E h => by obtain ⟨_, _, e, _⟩ := h; rw [e]; rfl) fun f A outer s H vs Q E hr h => ?_
  obtain ⟨a, ns, rfl, hS, hn, hT, q⟩ := h
  have TS : ToldS (cxOf CX0 P w K mg base ["script", "dice", "bush", "table", "earlier", "undone", "turn", "made", "due", "bad"] "law" (defScope s_law) f (.ref c) A outer s H E).nox C CS c Pt := ⟨Ft, Fm, B, Ex, TB⟩
  have hmT : (Pt, qOf "law" ++ "<lambda>") ∈ T2 Pt Pd := List.mem_cons_self ..
  have huT : ∀ p ∈ T2 Pt Pd, p.1 = Pt → p.2 = qOf "law" ++ "<lambda>" := fun p hp e => by
    rcases List.mem_cons.mp hp with rfl | hp
    · rfl
    · rw [List.mem_singleton.mp hp] at e ⊢
      exact absurd e.symm hne
  have hlen : CallR (cxOf CX0 P w K mg base ["script", "dice", "bush", "table", "earlier", "undone", "turn", "made", "due", "bad"] "law" (defScope s_law) f (.ref c) A outer s H E).nox (.builtin "len") (rLenOwn CT (spTLen K CT)) := call_lenOwn d_len (hr.mono (by decide))
  refine ⟨_, pss_cons (ps_for PassesOwn.never rfl (pi_listK K (pe_d0 d_rounds (hr.mono (by decide)) (by rfl) (pa2 (pv 0) pe_int))) (pgn 1 scLaw.nd)
      (pss_cons (st 2 scLaw.nd (pe_d0 d_any (hr.mono (by decide)) (by rfl) (pa3 (pv 1) pe_int pe_str)))
        (pss_cons (ps_asg (pe_tupN (pa3 (pe_mkN d_init T (hr.mono (by decide)) (by rfl) (pa1 (pv 2))) (pe_lstN pa_nil) (pe_lstN pa_nil))) (pg_tupK K (n := 3) rfl (pgs_cons (pgn 3 scLaw.nd) (pgs_cons (pgn 4 scLaw.nd) (pgs_cons (pgn 5 scLaw.nd) pgs_nil)))))
        (pss_cut (ps_for PassesOwn.never rfl (pi_range1 (by rfl) B.range (pa1 pe_int)) (pgn 6 scLaw.nd)
          (pss_cons (ps_asg (pe_d0 d_turn (hr.mono (by decide)) (by rfl) (pa_cons (pv 1) (pa_cons (pv 3) (pa3 (pv 2) (pv 4) (pv 5))))) (pg_tupK K (n := 5) rfl (pgs_cons (pgn 7 scLaw.nd) (pgs_cons (pgn 8 scLaw.nd) (pgs_cons (pgn 2 scLaw.nd) (pgs_cons (pgn 4 scLaw.nd) (pgs_cons (pgn 5 scLaw.nd) pgs_nil)))))))
            (pss_cut (ps_if (PW.pt (pw_or (pt_cmpR (op_neAK K hr.units) (pv 7) (pv 8) (nomark _)) (pw_or (pt_cmpR (op_neAK K hr.units) (pe_m00 d_bush T.cl (hr.mono (by decide)) (pv 3)) (pv 2) (nomark _)) (pw_or1 (pt_cmpR op_ne (pb hlen B.len PySem.boot_len (pa1 (pv 3))) (pb (call_len_seqK K) B.len PySem.boot_len (pa1 (pv 4))) (nomark _))))))
              (pss_one (ps_ret pe_bl))
              (pss_nil))
            (pss_one (ps_if (pt_cmpR op_ne (pe_m00 d_player T.cl (hr.mono (by decide)) (pv 3)) (pe_ix ix_str pe_str (pe_op op_mod (pb (call_len_seqK K) B.len PySem.boot_len (pa1 (pv 4))) pe_int) (fun _ _ => rfl)) (nomark _))
              (pss_one (ps_ret pe_bl))
              (pss_nil))))))
        (pss_cut (ps_for PassesOwn.never rfl (pi_listK K (pe_lstN (pa_cons (pe_un un_neg pe_int) (pa3 pe_bl pe_non pe_str)))) (pgn 9 scLaw.nd)
          (pss_one (ps_if (pt_cmpR (op_neAK K hr.units) (pe_told (defScope s_law) (qOf "law") (k := 8) TS (hr.mono (by decide)) (fun A outer s H E f c' hr' => pe_mX d_cut T.cl (hr'.mono (by decide)) (L2N.takes_of rfl rfl rfl rfl) (fun _ _ _ _ h => h) (pv 3) (pa1 (pv 9))) hmT huT) (pe_tupN (pa2 pe_str pe_str)) (nomark _))
              (pss_one (ps_ret pe_bl))
              (pss_nil))))
        (pss_one (ps_if (PW.pt (pw_or (pt_cmpR (op_neAK K hr.units) (pe_told (defScope s_law) (qOf "law") (k := 8) TS (hr.mono (by decide)) (fun A outer s H E f c' hr' => pe_mkX d_init T (hr'.mono (by decide)) (by rfl) (L2N.takes_of rfl rfl rfl rfl) (fun _ _ _ _ h => h) (pa1 (pe_tupN (pa1 (pe_tupN (pa2 pe_int pe_str)))))) hmT huT) (pe_tupN (pa2 pe_str pe_str)) (nomark _)) (pw_or1 (pt_cmpR (op_neAK K hr.units) (pe_m00 d_bush T.cl (hr.mono (by decide)) (pv 3)) (pv 2) (nomark _)))))
          (pss_one (ps_ret pe_bl))
          (pss_nil))))))))
    (pss_one (ps_ret pe_bl)), ?_⟩
  refine ⟨_, rfl, a, ns, 3, rfl, hS, hn, by decide, fun H1 p ds s1 np e1 hds => ?_⟩
  refine ⟨p, rfl, ⟨_, SqL.of e1⟩, for_it (walk_list (xs := ds.map V.ref)) (fun i σ H' => σ.length = 10 ∧ Live (T2 Pt Pd) p ds H') ⟨rfl, e1, fun d hd => (hds d hd).2, fun t ht => (hT t ht).ext s1⟩ (fun i σ H' _ h => SqL.of h.2.rounds) ?_ ?_⟩
  · rintro i x σ H2 H2' hi ⟨hσ, L⟩ ⟨rfl, hx⟩
    obtain ⟨d, rfl, hd, hD⟩ := L.get hx
    match σ, hσ with
    | [y0, y1, y2, y3, y4, y5, y6, y7, y8, y9], _ =>
    refine ⟨_, rfl, d, 7, [.w, .b, .g], rfl, hD, by decide, by decide, by decide, by decide, fun H4 pb b m4 npb hA hb hb7 hcs => ?_⟩
    have L4 := L.mv m4 hD
    refine ⟨_, rfl, fun x dx nx ndx ndx2 => ?_⟩
    have s5 : Same H4 (upd (upd H4 dx (.own x)) x (.ins CT dx [])) := fun b o e => by rw [upd_ne (ne_of_none e nx), upd_ne (ne_of_none e ndx)]; exact e
    refine ⟨x, dx, .ref pb, bushD b, rfl, upd_same, (hA.same s5).2, (fun z => absurd ((isBush_iff.mpr ⟨b, rfl, hb⟩).symm.trans z) (by decide)), fun b' e' _ H6 m6 ht6 => ⟨rfl, ?_⟩⟩
    cases bushD_inj e'
    have s46 : Same H4 H6 := fun y o e => m6 y o (s5 y o e) (ne_of_none e nx)
    refine ⟨szl rfl, fun l1 H7 n1 s7 el1 => ⟨szl rfl, fun l2 H8 n2 s8 el2 => ⟨szl rfl, fun t3 H9 n3 s9 et3 => ⟨t3, _, rfl, SqT.of et3, rfl, _, _, rfl, _, _, rfl, _, _, rfl, rfl, ?_⟩⟩⟩⟩
    have sA := s7.trans (s8.trans s9)
    have iv9 : Iv K CT Pt Pd p ds d x y0 0 [y0, some (.ref d), some (.ref pb), some (.ref x), some (.ref l1), some (.ref l2), y6, y7, y8, y9] H9 :=
      ⟨L4.same (s46.trans sA), .ref pb, l1, l2, ⟨b, [], []⟩, _, _, _, _, rfl, ht6.same sA, ⟨hb, (fun _ z => nomatch z), (fun _ z => nomatch z), Nat.le_refl _, Nat.le_refl _⟩, hA.same (s46.trans sA), ⟨[], s9 _ _ (s8 _ _ el1), AtAll.nil⟩, ⟨[], s9 _ _ el2, AtAll.nil⟩⟩
    refine ⟨fun σ H' => ∃ k, k ≤ 12 ∧ Iv K CT Pt Pd p ds d x y0 k σ H', ?_, ?_⟩
    · refine ⟨12, rfl, by decide, by decide, for_it (walk_range (lo := 0)) (fun i σ H' => Iv K CT Pt Pd p ds d x y0 i σ H') iv9 (fun _ _ _ _ _ => trivial) ?_ (fun σ H' h => ⟨_, by decide, h⟩)⟩
      rintro i z σ H10 H10' hi ⟨L10, v, le, lu, t, u6, u7, u8, u9, rfl, hT10, ok, hv, hle, hlu⟩ ⟨rfl, rfl⟩
      have hD10 := L10.dice d hd
      have hi12 : i < 12 := hi
      refine ⟨_, rfl, _, rfl, _, rfl, _, rfl, _, rfl, d, x, v, le, lu, t, i, rfl, hD10, hT10, ok, by omega, hv, hle, hlu, L10.tabs, fun H11 pt u1 u2 v' le' lu' r t' m11 hD11 hTab11 ept hu1 hu2 hr64 hv' hle' hlu' hT11 ok' => ?_⟩
      obtain ⟨dx1, fs1, hx1⟩ := hT10.ins
      have L11 := L10.mvX m11 hD10 hD11 hx1 hTab11
      refine ⟨pt, _, rfl, SqT.of ept, rfl, _, _, rfl, _, _, rfl, _, _, rfl, _, _, rfl, _, _, rfl, rfl, ?_⟩
      obtain ⟨dx2, w2, le2, lu2, vs2, us2, hx2, _⟩ := id hT11
      obtain ⟨vle, ele, ale⟩ := id hle'
      have lle : vle.length = t'.ear.length := by rw [AtAll.len ale.2, List.length_map]
      have hle100 := ok'.le
      have fin : ∀ σ : L2.St, (∃ y6 y7 y8 y9, σ = [y0, some (.ref d), some v', some (.ref x), some (.ref le'), some (.ref lu'), y6, y7, y8, y9]) → Iv K CT Pt Pd p ds d x y0 (i + 1) σ H11 := fun σ ⟨y6, y7, y8, y9, e⟩ => ⟨L11, v', le', lu', t', _, _, _, _, e, hT11, ok', hv', hle', hlu'⟩
      refine ⟨fun σ H' => (∃ y6 y7 y8 y9, σ = [y0, some (.ref d), some v', some (.ref x), some (.ref le'), some (.ref lu'), y6, y7, y8, y9]) ∧ H' = H11, ?_, ?_⟩
      · refine ⟨_, rfl, _, rfl, r, r, hu1, hu2, hr64, hr64, fun _ => ⟨_, rfl, iteF ?_⟩, fun z => absurd rfl z⟩
        refine ⟨_, rfl, x, dx2, _, rfl, hx2, tf_no _ _ _ (by decide), x, t'.now, t'.ear, t'.und, rfl, hT11, fun u hu => ⟨_, rfl, bushD t'.now, bushD t'.now, hu, hv', bush_depth, bush_depth, fun _ => ⟨_, rfl, iteF ?_⟩, fun z => absurd rfl z⟩⟩
        refine ⟨_, rfl, x, dx2, _, rfl, hx2, x, t'.now, t'.ear, t'.und, rfl, hT11, _, rfl, by omega, by omega, _, rfl, le', vle, rfl, .inl (SqL.of ele), rfl, _, rfl, ?_⟩
        refine ite2 (fun z => ?_) fun _ => ⟨⟨_, _, _, _, rfl⟩, rfl⟩
        rw [lle] at z
        simp at z
      rintro σ H12 ⟨⟨y6, y7, y8, y9, rfl⟩, rfl⟩
      refine ⟨_, rfl, x, dx2, _, rfl, hx2, tf_no _ _ _ (by decide), x, t'.now, t'.ear, t'.und, rfl, hT11, _, rfl, le', vle, rfl, .inl (SqL.of ele), _, _, rfl, rfl, (by show (0 : Int) < 2; decide), _, _, _, rfl, rfl, by decide, by rw [lle]; exact plc_at _, rfl, _, rfl, ?_⟩
      refine ite2 (fun z => ?_) fun _ => fin _ ⟨_, _, _, _, rfl⟩
      rw [col_code] at z
      simp at z
    rintro σ H10 ⟨k, hk, L10, v, le, lu, t, u6, u7, u8, u9, rfl, hT10, ok, hv, hle, hlu⟩
    have hok := ok.le
    refine ⟨fun σ H' => (∃ y4 y5 y6 y7 y8 y9, σ = [y0, some (.ref d), some v, some (.ref x), y4, y5, y6, y7, y8, y9]) ∧ Live (T2 Pt Pd) p ds H' ∧ T3 K CT H' x t ∧ At K H' v (bushD t.now), ?_, ?_⟩
    · refine ⟨_, rfl, szl rfl, fun g H11 ng s11 eg => ⟨g, rfl, ⟨_, SqL.of eg⟩, ?_⟩⟩
      refine for_it (walk_list (xs := [.int (-1), .bl true, .non, .str "0"])) (fun _ σ H' => ((∃ y4 y5 y6 y7 y8 y9, σ = [y0, some (.ref d), some v, some (.ref x), y4, y5, y6, y7, y8, y9]) ∧ Live (T2 Pt Pd) p ds H' ∧ T3 K CT H' x t ∧ At K H' v (bushD t.now)) ∧ H' g = some (.lst [.int (-1), .bl true, .non, .str "0"]))
        ⟨⟨⟨_, _, _, _, _, _, rfl⟩, L10.same s11, hT10.same s11, hv.same s11⟩, eg⟩ (fun _ _ _ _ h => SqL.of h.2) ?_ (fun σ H' h => h.1)
      rintro j z σ H12 H12' hj ⟨⟨⟨y4, y5, y6, y7, y8, y9, rfl⟩, L12, hT12, hv12⟩, eg12⟩ ⟨rfl, hz⟩
      obtain ⟨dd, hdd, hw⟩ : ∃ dd, (∀ H', Dp K H' z dd) ∧ ∀ m : Int, whole dd 0 m = false := by
        match j, hj with
        | 0, _ => cases hz; exact ⟨.int (-1), fun _ => .int _, fun _ => rfl⟩
        | 1, _ => cases hz; exact ⟨.bool true, fun _ => .bl _, fun _ => rfl⟩
        | 2, _ => cases hz; exact ⟨.none, fun _ => .non, fun _ => rfl⟩
        | 3, _ => cases hz; exact ⟨.str "0", fun _ => .str _, fun _ => rfl⟩
      obtain ⟨dx2, w2, le2, lu2, vs2, us2, hx2, _⟩ := id hT12
      refine ⟨L12.tabs, fun H13 x13 T13 => ⟨_, rfl, x, dx2, _, rfl, x13 _ _ hx2 (fun _ z => nomatch z), tf_no _ _ _ (by decide), _, rfl, x, z, t.now, t.ear, t.und, dd, rfl, hT12.extN x13, ok.now, by omega, hdd _, fun _ H14 s14 => ⟨rfl, 1, by decide, rfl, fun H15 pe s15 ne ee => ?_⟩, fun n e hn => ?_⟩⟩
      · refine ⟨szl rfl, fun pf H16 nf s16 ef => ⟨errD 1, errD 1, at_err (by decide) (s16 _ _ ee), at_err (by decide) ef, by decide, by decide, fun _ => ⟨_, rfl, iteF ?_⟩, fun z => absurd rfl z⟩⟩
        have sA := s14.trans (s15.trans s16)
        exact ⟨⟨⟨_, _, _, _, _, _, rfl⟩, (L12.extN x13 T13).same sA, (hT12.extN x13).same sA, (hv12.ext (extN_ext x13)).same sA⟩, sA _ _ (x13 _ _ eg12 (fun _ z => nomatch z))⟩
      · have hw := hw ((t.now.length : Int) - 1)
        rw [e] at hw
        have hw : (decide (0 ≤ (n : Int)) && decide ((n : Int) ≤ t.now.length - 1)) = false := hw
        rw [decide_eq_true (show 0 ≤ (n : Int) by omega), decide_eq_true (show (n : Int) ≤ t.now.length - 1 by omega)] at hw
        cases hw
    rintro σ H11 ⟨⟨y4, y5, y6, y7, y8, y9, rfl⟩, L11, hT11, hv11⟩
    refine ⟨L11.tabs, fun H12 x12 T12 => ⟨szl rfl, fun t1 H13 n13 s13 e13 => ⟨szl rfl, fun t2 H14 n14 s14 e14 => fun x' dx' nx' ndx' ne' => ?_⟩⟩⟩
    have s15 : Same H14 (upd (upd H14 dx' (.own x')) x' (.ins CT dx' [])) := fun b o e => by rw [upd_ne (ne_of_none e nx'), upd_ne (ne_of_none e ndx')]; exact e
    refine ⟨x', dx', .ref t2, .tuple [.tuple [.int 0, .str "w"]], rfl, upd_same, .tup (SqT.of (s15 _ _ e14)) (.cons (.tup (SqT.of (s15 _ _ (s14 _ _ e13))) (.cons (.int _) (.cons (.str _) .nil))) .nil), fun _ H16 s16 => ⟨rfl, 0, by decide, rfl, fun H17 pe s17 ne ee => ?_⟩, fun b' e' hb' => ?_⟩
    · refine ⟨szl rfl, fun pf H18 nf s18 ef => ⟨errD 0, errD 0, at_err (by decide) (s18 _ _ ee), at_err (by decide) ef, by decide, by decide, fun _ => ⟨_, rfl, iteF ?_⟩, fun z => absurd rfl z⟩⟩
      have sA := s13.trans (s14.trans (s15.trans (s16.trans (s17.trans s18))))
      have hT18 := (hT11.extN x12).same sA
      obtain ⟨dx2, w2, le2, lu2, vs2, us2, hx2, _⟩ := id hT18
      refine ⟨_, rfl, x, dx2, _, rfl, hx2, tf_no _ _ _ (by decide), x, t.now, t.ear, t.und, rfl, hT18, fun u hu => ⟨_, rfl, bushD t.now, bushD t.now, hu, (hv11.ext (extN_ext x12)).same sA, bush_depth, bush_depth, fun _ => ⟨_, rfl, iteF ?_⟩, fun z => absurd rfl z⟩⟩
      exact ⟨rfl, (L11.extN x12 T12).same sA⟩
    · have := isBush_iff.mpr ⟨b', e', hb'⟩
      exact absurd this (by decide)
  · rintro σ H2 ⟨hσ, L⟩
    exact q _
end
end Sv

set_option maxHeartbeats 4000000
namespace Sv
open PySem PySem.Spec PyProof.Rows L2 L2H HotX LamX
/-- the classes' places -/
def cls10 (l : List Addr) : Nat → Addr := fun i => l.getD i 0
theorem tabs1 {h : Heap} {c Pt : Addr} (e : h.get? Pt = some (PySem.W.tabObj #[])) : ∀ p ∈ [(c, Pt)], h.get? p.2 = some (PySem.W.tabObj #[]) := fun p hp => by rw [List.mem_singleton.mp hp]; exact e
theorem tabs2 {h : Heap} {c c2 Pt P2 : Addr} (e : h.get? Pt = some (PySem.W.tabObj #[])) (e2 : h.get? P2 = some (PySem.W.tabObj #[])) : ∀ p ∈ [(c, Pt), (c2, P2)], h.get? p.2 = some (PySem.W.tabObj #[]) := fun p hp => by
  rcases List.mem_cons.mp hp with rfl | hp
  · exact e
  · rw [List.mem_singleton.mp hp]; exact e2
section
variable {P : Program} {w : World} {K : PySem.W.Frag} {mg : Str → Option Value} {base : Heap}
/-- the end: what walk_ofTs asks of the law -/
theorem lawAt {l : PySem.W.OpenLaw} {h : Heap} {fa c : Addr} {x : Str} {st : Stmt} {cs : List (Addr × Addr)} {sp : Sp} {n k : Nat} (X : K.In h) (FL : HereC K mg "law" st c) (hfa : mg "law" = some (.ref fa)) (hT : ∀ p ∈ cs, h.get? p.2 = some (PySem.W.tabObj #[])) (hn : (cs.all fun p => (K.lookup p.2).isNone) = true) (hc : (cs.all fun p => PySem.W.codeHdIn K p.1 p.2) = true)
    (hb : ∀ (kV doc pm : Value) (an : Option Addr) (cdv ct : Value) (us : List Value), us.length = 1 → bindArgs (PySem.W.fnOf "law" "law" (defArgs st) (defBody st) (defScope st) .none kV doc pm an cdv ct) ⟨us, []⟩ = pure ([x].zip us))
    (hsp : ∀ (H : Hp) (a : Addr) (ns : List Int), ns.length ≤ n → (∀ z ∈ ns, Builtin.Int.intBits z ≤ 1048576) → (∀ p ∈ cs, H p.2 = some (.tbl #[])) → SqL K H a (ns.map V.int) → sp [.ref a] H (fun v _ => v = .bl true) fun _ _ _ => False)
    (ok : ∀ base : Heap, K.In base → base.Ns mainGlobals mg → (∀ p ∈ cs, TabB base mg p.1 p.2) → KeepsC l.prog w K mg base CX0 k "law" [x] sp) : LawAtS l w K CX0 k n x mg fa h := by
  obtain ⟨f, oc, od, kV, doc, pm, an, ct, osl, g, lk, hcd, hk⟩ := FL
  cases hfa.symm.trans g
  refine ⟨PySem.W.fnOf "law" "law" (defArgs st) (defBody st) (defScope st) .none kV doc pm an (.ref c) ct, cs, sp, fun p hp => hT p hp, fun p hp => ?_, fun p hp => PySem.W.codeHd_of_K X (List.all_eq_true.mp hc p hp), fun s u => .of_eq (hb kV doc pm an _ ct [u] rfl), hsp, fun base KB GB TB => ?_⟩
  · have := List.all_eq_true.mp hn p hp
    exact Option.isNone_iff_eq_none.mp this
  · obtain ⟨f', fd', ⟨oc', od', osl', lk'⟩, g', F⟩ := ok base KB GB TB
    cases g.symm.trans g'
    rw [lk] at lk'
    cases lk'
    exact F
end
theorem walk {l : PySem.W.OpenLaw} {n k : Nat} {q : Program} {loose : List Str} {XP : (Str → Option Value) → Heap → Prop} {YP : World → Heap → Prop} {d : DefRec} {K : Params → PySem.W.Frag} {x : Str}
    (hn : l.most = some n) (hn2 : n ≤ sizeLine) (hdf : d.params.defaults = []) (hr : Room k callerA) (hY : ∀ (w : World) (h : Heap), YP w h → (K w.params).In h)
    (F : ∀ (w : World) (mg : Str → Option Value) (fa : Addr) (h : Heap), YP w h → (K w.params).In h → h.Ns mainGlobals mg → mg d.name = some (.ref fa) → LawAtS l w (K w.params) CX0 k n x mg fa h) :
    PySem.W.WalkO q loose XP YP l.row.toRowW d [] (fun f vs => PySem.call f vs) :=
  walk_ofTs (CX := fun _ => CX0) hn hn2 hdf hr hY F fun _ _ _ _ _ z => z
end Sv

set_option maxHeartbeats 4000000
namespace Sv
open PySem PySem.Spec PyProof.Rows L2 L2H HotX LamX
theorem fin {l : PySem.W.OpenLaw} {w : World} {K : PySem.W.Frag} {mg : Str → Option Value} {h : Heap} {fa c Pt CS C_Table cd Pd : Addr} {C : Nat → Addr} (X : K.In h) (G : h.Ns mainGlobals mg) (hfa : mg "law" = some (.ref fa))
    (F_law_told : Here K mg "_law_told" s_law_told) (F_law_term : Here K mg "_law_term" s_law_term) (F_law_cell : Here K mg "_law_cell" s_law_cell) (F_law_rounds : Here K mg "_law_rounds" s_law_rounds) (F_law_drawn : Here K mg "_law_drawn" s_law_drawn) (F_law_roll : Here K mg "_law_roll" s_law_roll) (F_law_any_bush : Here K mg "_law_any_bush" s_law_any_bush) (F_is_whole : Here K mg "is_whole" s_is_whole) (F_need_stem : Here K mg "need_stem" s_need_stem) (F_cuts_of : Here K mg "cuts_of" s_cuts_of) (F_without : Here K mg "without" s_without) (F_law_done : HereC K mg "_law_done" s_law_done cd) (F_law_moves : Here K mg "_law_moves" s_law_moves) (F_law_without : Here K mg "_law_without" s_law_without) (F_law_turn : Here K mg "_law_turn" s_law_turn) (F_is_stem : Here K mg "is_stem" s_is_stem) (F_is_bush : Here K mg "is_bush" s_is_bush) (F_need_bush : Here K mg "need_bush" s_need_bush) (A_Table : PySem.W.nsIn K mainGlobals "Table" = some (some (.ref C_Table))) (M_Table_player : HereM K C_Table "player" "Table.player" s_Table_player) (M_Table_cut : HereM K C_Table "cut" "Table.cut" s_Table_cut) (M_Table_undo : HereM K C_Table "undo" "Table.undo" s_Table_undo) (M_Table_redo : HereM K C_Table "redo" "Table.redo" s_Table_redo) (M_Table_init : HereM K C_Table "__init__" "Table.__init__" s_Table_init) (M_Table_bush : HereM K C_Table "bush" "Table.bush" s_Table_bush) (M_Table_len : HereM K C_Table "__len__" "Table.__len__" s_Table_len) (Z_Table : clsB K C_Table fldsT = true)
    (FL : HereC K mg "law" s_law c) (hB : bltB K = true) (hE : excsB K C CS = true) (hT : ∀ p ∈ [(c, Pt), (cd, Pd)], h.get? p.2 = some (PySem.W.tabObj #[])) (hn : (K.lookup Pt).isNone = true) (hc : PySem.W.codeHdIn K c Pt = true) (hnd : (K.lookup Pd).isNone = true) (hcd : PySem.W.codeHdIn K cd Pd = true) (hned : Pt ≠ Pd) :
    LawAtS l w K CX0 15 63 "script" mg fa h := by
  have B := blt_of X G hB
  have Ex := excs_of X G hE
  refine lawAt (st := s_law) (c := c) (cs := [(c, Pt), (cd, Pd)]) (sp := spLaw K Pt Pd) X FL hfa hT (by simp only [List.all_cons, List.all_nil, hn, hnd]; rfl) (by simp only [List.all_cons, List.all_nil, hc, hcd]; rfl) (fun _ _ _ _ _ _ us hl => match us, hl with | [_], _ => rfl) ?_ ?_
  · intro H a ns hl _ hH hS
    refine ⟨a, ns, rfl, hS, hl, fun p hp => ?_, fun _ => rfl⟩
    rcases List.mem_cons.mp hp with rfl | hp
    · exact TabS.nil (hH _ (List.mem_cons_self ..))
    · rw [List.mem_singleton.mp hp]
      exact TabS.nil (hH _ (List.mem_cons_of_mem _ (List.mem_singleton.mpr rfl)))
  · intro base _ _ TB
    have T_Table := clsT_of X G A_Table Z_Table
    have d_cell := k_cell (P := l.prog) (w := w) (base := base) F_law_cell B
    have d_rounds := k_rounds F_law_rounds B d_cell
    have d_drawn := k_drawn (P := l.prog) (w := w) (base := base) F_law_drawn
    have d_roll := k_roll F_law_roll d_drawn
    have d_any := k_any_bush F_law_any_bush B d_roll
    have d_whole := k_whole (P := l.prog) (w := w) (base := base) F_is_whole B
    have d_ns := k_need_stem (C := C) F_need_stem B (Ex.one 1 _ rfl) d_whole
    have d_co := k_cuts_of (P := l.prog) (w := w) (base := base) F_cuts_of B
    have d_tplayer := k_t_player (P := l.prog) (w := w) (base := base) M_Table_player T_Table B
    have d_wo := k_without (P := l.prog) (w := w) (base := base) F_without B
    have d_tcut := k_t_cut M_Table_cut T_Table (Ex.one 8 _ rfl) d_ns d_co d_tplayer d_wo
    have d_tundo := k_t_undo (P := l.prog) (w := w) (base := base) (C := C) M_Table_undo T_Table (Ex.one 9 _ rfl)
    have d_tredo := k_t_redo (P := l.prog) (w := w) (base := base) (C := C) M_Table_redo T_Table (Ex.one 9 _ rfl)
    have d_done := k_done (Pt := Pt) F_law_done F_law_told F_law_term B Ex (TB _ (List.mem_cons_of_mem _ (List.mem_singleton.mpr rfl))) hned T_Table d_tcut d_tundo d_tredo
    have d_moves := k_moves (P := l.prog) (w := w) (base := base) F_law_moves B
    have d_lwo := k_law_without (P := l.prog) (w := w) (base := base) F_law_without B
    have d_turn := k_turn F_law_turn B d_roll d_done d_moves d_lwo
    have d_stem := k_is_stem F_is_stem B d_whole
    have d_bush := k_is_bush F_is_bush B d_stem
    have d_nb := k_need_bush (C := C) F_need_bush (Ex.one 0 _ rfl) d_bush
    have d_tinit := k_t_init M_Table_init T_Table d_nb
    have d_tbush := k_t_bush (P := l.prog) (w := w) (base := base) M_Table_bush T_Table
    have d_tlen := k_t_len (P := l.prog) (w := w) (base := base) M_Table_len T_Table B
    exact k_law FL F_law_told F_law_term B Ex (TB _ (List.mem_cons_self ..)) hned T_Table d_rounds d_any d_turn d_tinit d_tbush d_tplayer d_tlen d_tcut
end Sv

open PySem PySem.W PyProof.Rows in
set_option maxRecDepth 100000 in
set_option maxHeartbeats 0 in
theorem PySem.Challenge.cw_stemvalues_k19_whole_tables_holds : PySem.Challenge.rw_stemvalues_k19_whole_tables.Holds := by
  w_on; o_law; k_head; (case hw => w_witness2)
  k_fill
  refine Sv.walk (l := PySem.Challenge.rw_stemvalues_k19_whole_tables) (n := 63) (k := 15) (x := "script") rfl (by decide) rfl ⟨rfl, by decide, by decide⟩ (fun w h Y => PySem.W.km_in_of Y) ?F
  case F =>
    intro w mg fa h Y KX G hmg
    refine' Sv.fin (Pt := 328) (Pd := 314) (CS := 24) (C := Sv.cls10 [37,49,61,73,85,97,109,121,133,145]) KX G hmg (Sv.here_mk KX G ?a0 ?l0 ?c0 ?k0) (Sv.here_mk KX G ?a1 ?l1 ?c1 ?k1) (Sv.here_mk KX G ?a2 ?l2 ?c2 ?k2) (Sv.here_mk KX G ?a3 ?l3 ?c3 ?k3) (Sv.here_mk KX G ?a4 ?l4 ?c4 ?k4) (Sv.here_mk KX G ?a5 ?l5 ?c5 ?k5) (Sv.here_mk KX G ?a6 ?l6 ?c6 ?k6) (Sv.here_mk KX G ?a7 ?l7 ?c7 ?k7) (Sv.here_mk KX G ?a8 ?l8 ?c8 ?k8) (Sv.here_mk KX G ?a9 ?l9 ?c9 ?k9) (Sv.here_mk KX G ?a10 ?l10 ?c10 ?k10) (Sv.hereC_mk KX G ?a11 ?l11 ?c11 ?k11) (Sv.here_mk KX G ?a12 ?l12 ?c12 ?k12) (Sv.here_mk KX G ?a13 ?l13 ?c13 ?k13) (Sv.here_mk KX G ?a14 ?l14 ?c14 ?k14) (Sv.here_mk KX G ?a15 ?l15 ?c15 ?k15) (Sv.here_mk KX G ?a16 ?l16 ?c16 ?k16) (Sv.here_mk KX G ?a17 ?l17 ?c17 ?k17) ?n18 (Sv.hereM_mk ?a19 ?i19 ?l19 ?c19 ?k19) (Sv.hereM_mk ?a20 ?i20 ?l20 ?c20 ?k20) (Sv.hereM_mk ?a21 ?i21 ?l21 ?c21 ?k21) (Sv.hereM_mk ?a22 ?i22 ?l22 ?c22 ?k22) (Sv.hereM_mk ?a23 ?i23 ?l23 ?c23 ?k23) (Sv.hereM_mk ?a24 ?i24 ?l24 ?c24 ?k24) (Sv.hereM_mk ?a25 ?i25 ?l25 ?c25 ?k25) ?z26 (Sv.hereC_mk KX G ?a27 ?l27 ?c27 ?k27) ?z28 ?z29 (Sv.tabs2 (PySem.W.km_tabs_of Y 328 (by decide)) (PySem.W.km_tabs_of Y 314 (by decide))) ?z31 ?z32 ?z33 ?z34 (by decide)
    (case a0 => k_is)
    (case l0 => k_is)
    (case c0 => k_is)
    (case k0 => k_is)
    (case a1 => k_is)
    (case l1 => k_is)
    (case c1 => k_is)
    (case k1 => k_is)
    (case a2 => k_is)
    (case l2 => k_is)
    (case c2 => k_is)
    (case k2 => k_is)
    (case a3 => k_is)
    (case l3 => k_is)
    (case c3 => k_is)
    (case k3 => k_is)
    (case a4 => k_is)
    (case l4 => k_is)
    (case c4 => k_is)
    (case k4 => k_is)
    (case a5 => k_is)
    (case l5 => k_is)
    (case c5 => k_is)
    (case k5 => k_is)
    (case a6 => k_is)
    (case l6 => k_is)
    (case c6 => k_is)
    (case k6 => k_is)
    (case a7 => k_is)
    (case l7 => k_is)
    (case c7 => k_is)
    (case k7 => k_is)
    (case a8 => k_is)
    (case l8 => k_is)
    (case c8 => k_is)
    (case k8 => k_is)
    (case a9 => k_is)
    (case l9 => k_is)
    (case c9 => k_is)
    (case k9 => k_is)
    (case a10 => k_is)
    (case l10 => k_is)
    (case c10 => k_is)
    (case k10 => k_is)
    (case a11 => k_is)
    (case l11 => k_is)
    (case c11 => k_is)
    (case k11 => k_is)
    (case a12 => k_is)
    (case l12 => k_is)
    (case c12 => k_is)
    (case k12 => k_is)
    (case a13 => k_is)
    (case l13 => k_is)
    (case c13 => k_is)
    (case k13 => k_is)
    (case a14 => k_is)
    (case l14 => k_is)
    (case c14 => k_is)
    (case k14 => k_is)
    (case a15 => k_is)
    (case l15 => k_is)
    (case c15 => k_is)
    (case k15 => k_is)
    (case a16 => k_is)
    (case l16 => k_is)
    (case c16 => k_is)
    (case k16 => k_is)
    (case a17 => k_is)
    (case l17 => k_is)
    (case c17 => k_is)
    (case k17 => k_is)
    (case n18 => k_is)
    (case a19 => k_is)
    (case i19 => k_is)
    (case l19 => k_is)
    (case c19 => k_is)
    (case k19 => k_is)
    (case a20 => k_is)
    (case i20 => k_is)
    (case l20 => k_is)
    (case c20 => k_is)
    (case k20 => k_is)
    (case a21 => k_is)
    (case i21 => k_is)
    (case l21 => k_is)
    (case c21 => k_is)
    (case k21 => k_is)
    (case a22 => k_is)
    (case i22 => k_is)
    (case l22 => k_is)
    (case c22 => k_is)
    (case k22 => k_is)
    (case a23 => k_is)
    (case i23 => k_is)
    (case l23 => k_is)
    (case c23 => k_is)
    (case k23 => k_is)
    (case a24 => k_is)
    (case i24 => k_is)
    (case l24 => k_is)
    (case c24 => k_is)
    (case k24 => k_is)
    (case a25 => k_is)
    (case i25 => k_is)
    (case l25 => k_is)
    (case c25 => k_is)
    (case k25 => k_is)
    (case a27 => k_is)
    (case l27 => k_is)
    (case c27 => k_is)
    (case k27 => k_is)
    (case z26 => kernel_rfl)
    (case z28 => kernel_rfl)
    (case z29 => kernel_rfl)
    (case z31 => kernel_rfl)
    (case z32 => kernel_rfl)
    (case z33 => kernel_rfl)
    (case z34 => kernel_rfl)

