import PyProof.Rows.All
import Wide.All
import OpenK.AllK
import Wide.FinOn
import HandS.ForMost
import HandS.ForExc
import HandS.ExcIs
import HandS.IsInst
import HandS.HotCalls
import HandS.ExcCtx
import HandS.Lambda
import HandS.EndTab
import HandS.Wide
import HandS.Walk
import HandS.Conv
import HandS.TupAny
import HandS.TupMul
import HandS.TryOnly
import HandS.Style
import HandS.Small
import HandS.Text
import HandS.Replace
import KE.KDictKeyed
import HandS.SetFor
import HandS.SortInts
import HandS.Strs
import KE.SortCalls
import PySem.Challenge.RW_stemvalues_k21_errors_apart
import HandS.Deep
set_option Elab.async false
set_option linter.all false
set_option maxRecDepth 100000
set_option maxHeartbeats 4000000
namespace Sv
open PySem PySem.Spec PyProof.Rows L2 L2H HotX
/-! ### rules for code that runs while an exception is handled: the end of a list's walk, sum, a comprehension of int(x) -/
section
variable {prog : Program} {w : World} {A : Around} {E : Value → Shared → Prop} {s : Shared}
theorem next_list_end_hot {it l x1 : Addr} {i : Nat} {items : Array Value} {Q : Option Value → Shared → Prop} (hot : HotAt A x1 s.heap) (hxi : x1 ≠ it)
    (hit : s.heap.IsListIter it l i) (hl : s.heap.IsList l items) (hx : items[i]? = none)
    (hQ : ∀ h', (∀ b o, b ≠ it → s.heap.get? b = some o → h'.get? b = some o) → Q none { s with heap := h' }) : wpAny (model prog w) A (pyNext (.ref it)) Q E s := by
  obtain ⟨hh, o1, vs1, h1, d1, c1⟩ := hot
  obtain ⟨oi, hoi, hci, hdi⟩ := id hit
  obtain ⟨ol, hol, _, nl, hdl⟩ := hl
  unfold pyNext
  refine wpAny_bind (wpAny_attempt (wpAny_callSpecial?_slot (name := Str.ofString "__next__") hit.typeIs slot_listiter_next
    (wpAny_call_entry slot_listiter_next hit.typeIs entry_listiter_next ?_ (args_listiter_next _))))
  show wpAny _ _ (field (.ref it) 0 >>= _) _ _ s
  refine wpAny_bind (wpAny_field hoi hdi (x := .ref l) rfl ?_)
  show wpAny _ _ (if (Value.ref l == Value.none) = true then _ else _) _ _ s
  rw [if_neg (show ¬ (Value.ref l == Value.none) = true by simp)]
  show wpAny _ _ (field (.ref it) 1 >>= _) _ _ s
  refine wpAny_bind (wpAny_field hoi hdi (x := .int i 0) rfl ?_)
  show wpAny _ _ (seqItems? (.ref l) >>= _) _ _ s
  refine wpAny_bind (wpAny_seqItems hol hdl ?_)
  simp only [Int.toNat_natCast, hx]
  refine wpAny_bind (wpAny_rule (wpAny_bind (wpAny_setField hoi hdi (by simp) ?_)))
  show wpAny _ _ (newExc (.type "StopIteration") [] >>= _) _ _ _
  refine wpAny_bind ?_
  simp only [newExc, newTuple]
  refine wpAny_bind (wpAny_newObj_type ?_ (by size_fits))
  refine wpAny_bind (m := firstArgMember _ _) (wpAny_of_eq (a := Value.none) (by first | rfl | (simp only [firstArgMember]; rfl)) ?_)
  refine wpAny_newObj_type ?_ (by size_fits)
  have h1' := (Heap.get?_update_other s.heap (Obj.mapFields (·.setIfInBounds 0 Value.none)) (Ne.symm hxi)).trans h1
  refine raiseNew_hot ⟨hh, o1, vs1, Heap.get?_push_of_some _ (Heap.get?_push_of_some _ h1'), d1, c1⟩ (Nat.ne_of_lt (Heap.lt_size (Heap.get?_push_of_some _ h1'))) (Heap.get?_push_size _ rfl) rfl (by first | (simp; done) | (simp; omega)) ?_
  refine wpAny_bind (wpAny_isInstance (T := "StopIteration") (b := true) ⟨_, Heap.get?_update_self _ (Heap.get?_push_size _ rfl) rfl, rfl⟩ isSubtype_stop ?_)
  refine wpAny_pure (hQ _ fun b o hb e => ?_)
  have e' := (Heap.get?_update_other s.heap (Obj.mapFields (·.setIfInBounds 0 Value.none)) (Ne.symm hb)).trans e
  rw [Heap.get?_update_other _ _ (Nat.ne_of_gt (Heap.lt_size (Heap.get?_push_of_some _ e')))]
  exact Heap.get?_push_of_some _ (Heap.get?_push_of_some _ e')
/-- the walk of a list, where the exception at x1 is handled -/
theorem walk_list_hot {x1 : Addr} (hh : A.handled = some (.ref x1)) (I ax : Addr) (hne : ax ≠ I) (hx : x1 ≠ I) (items : Array Value) :
    Walks prog w A I [I, ax, x1] [I] items.size (fun i v => items[i]? = some v) (fun i h => h.IsListIter I ax i ∧ h.IsList ax items ∧ HotAt A x1 h) where
  sub := fun b hb => by simp at hb; simp [hb]
  frame := fun _ _ _ st hk => ⟨st.1.at fun o e => hk I (by simp) o e, st.2.1.at fun o e => hk ax (by simp) o e, by
    obtain ⟨_, h1, o, vs, e, r⟩ := st.2
    exact ⟨hh, o, vs, hk x1 (by simp) o e, r⟩⟩
  item := fun i s Q E hi st hQ => by
    refine wpAny_pyNext_list_item st.1 st.2.1 (x := items[i]) (by simp [hi]) fun h' hit' hs' => ?_
    refine hQ _ h' s.toks (by simp [hi]) ⟨hit', st.2.1.extBut hs'.extBut hne, ?_⟩ fun b o hb e => hs'.extBut b o (fun h => hb (by simp [h])) e
    obtain ⟨_, h1, o, vs, e, r⟩ := st.2
    exact ⟨hh, o, vs, hs'.extBut x1 o hx e, r⟩
  done := fun s Q E st hQ => next_list_end_hot st.2.2 hx st.1 st.2.1 (by simp) fun h' he' => hQ h' s.toks fun b o hb e => he' b o (fun h => hb (by simp [h])) e
  self := fun _ _ _ _ st hQ => wpAny_pyIter_listiter st.1 hQ
theorem sum_hot {x1 l : Addr} {its : List Value} {ns : List Int} {Q : Value → Shared → Prop} (hot : HotAt A x1 s.heap) (hl : s.heap.IsList l its.toArray) (hi : IntsAre its ns)
    (h : ∀ h' tk t', (∀ b o, s.heap.get? b = some o → h'.get? b = some o) → Q (.int ns.sum t') { s with heap := h', toks := tk }) : wpAny (model prog w) A (call (.builtin "sum") [.ref l]) Q E s := by
  obtain ⟨xs, e⟩ := hi.allInts.items
  have hn : numsOf (intItems xs).toList = ns := by rw [← e]; exact hi.numsOf
  rw [nums_intItems] at hn
  rw [e] at hl
  obtain ⟨hh, o1, v1, g1, d1, c1⟩ := hot
  refine call_sum_walkG (iter_intList hl fun s₂ es st hfp hlI => ?_)
  subst es
  have g2 := Heap.get?_push_of_some (h := s.heap) { cls := .type "list_iterator", data := .fields #[.ref l, .int 0 0] } g1
  refine ⟨_, _, _, _, _, _, numAt xs, rfl, walk_list_hot (A := A.in1) (x1 := x1) hh _ l hlI (Nat.ne_of_lt (Heap.lt_size g1)) (intItems xs), ⟨st.1, st.2, hh, o1, v1, g2, d1, c1⟩, fun b hb => ?_, (fun _ _ => intItems_at), fun h' tk t' hk => ?_⟩
  · rcases List.mem_cons.mp hb with z | hb
    · exact hfp b (by simp [z])
    · rcases List.mem_cons.mp hb with z | hb
      · exact hfp b (by simp [z])
      · rw [List.mem_singleton.mp hb]
        exact Heap.lt_size g2
  · have := h h' tk t' (old_kept hk)
    rw [← hn] at this
    have hp : preSum (numAt xs) (intItems xs).size = (xs.toList.map (·.1)).sum := by
      rw [show (intItems xs).size = xs.size by simp [intItems], preSum_eq, List.take_of_length_le (by simp)]
    rw [hp]
    exact this
end
section
variable {X : Cx}
theorem cr_sumH (hc : HotC X) : CallR X (.builtin "sum") (rSum X.K) := by
  intro pins s σ H vs us Q I r h
  obtain ⟨a, ns, rfl, hs, q⟩ := h
  obtain ⟨its, rv, hl, _⟩ := I.list hs
  obtain ⟨x1, hot⟩ := hc.at I
  rw [Vals.ref1 r]
  exact sum_hot hot hl.isList rv.ints fun h' tk t' hk => ⟨.int _, H, I.kept hk, ⟨_, rfl⟩, q⟩
/-- a new object, told by its place being free -/
theorem inv_laid {pins : List (Addr × Obj)} {σ : L2.St} {H : Hp} {s : Shared} {h' : Heap} {a : Addr} {o : HO} {t' : Nat} (I : Inv X pins σ H s) (k : ∀ b u, s.heap.get? b = some u → h'.get? b = some u) (hn : s.heap.get? a = none)
    (new : ObjOk X.prog X.w (upd H a o) h' a o) : Inv X pins σ (upd H a o) { s with heap := h', toks := t' } := by
  have hH : H a = none := I.hok.gone hn
  refine I.un ⟨fun b u q _ _ _ => k b u q, fun b u q _ _ _ => ⟨u.slots, k b u q⟩, fun b u q n _ => ?_, fun b u q _ => ⟨u, k b u q⟩, fun b xs q => ?_, fun b u xs q => ?_, fun b ps q => ⟨#[], ?_⟩⟩ fun b u e => ?_
  · rw [upd_ne (fun z => by rw [z, hn] at q; cases q)]; exact n
  · rw [upd_ne (ne_of_none q hH)]; exact q
  · rw [upd_ne (ne_of_none q hH)]; exact q
  · rw [upd_ne (ne_of_none q hH), q]; simp
  · by_cases hb : b = a
    · subst hb; rw [upd_same] at e; cases e; exact new
    · rw [upd_ne hb] at e
      exact (I.hok b u e).stay (fun c v _ q => k c v q) (fun c q => by rw [upd_ne (ne_of_none q hH)]; exact q) fun c xs q => by rw [upd_ne (ne_of_none q hH)]; exact q
theorem relabel_same {scope : Scope} {env : Env} (h : ∀ y ∈ scope.names, y.2 ≠ .free) : relabel scope env = scope := by
  obtain ⟨k, names, g, c, m⟩ := scope
  unfold relabel
  congr 1
  rw [← List.map_id names]
  rw [List.map_map]
  refine List.map_congr_left fun y hy => ?_
  obtain ⟨n, kd⟩ := y
  have := h (n, kd) hy
  have z : kd ≠ NameKind.free := this
  simp [z]
theorem vals_b2i : ∀ {bs : List Bool} {zs : List Value}, Paired (fun v y => ∀ b, v = Value.bool b → ∃ t, y = Value.int (if b then 1 else 0) t) (bs.map Value.bool) zs →
    Vals ((bs.map fun b => if b then (1 : Int) else 0).map V.int) zs
  | [], _, .nil => .nil
  | b :: r, _, .cons r1 r2 => .cons (r1 b rfl) (vals_b2i r2)
/-- [int(x) for x in bools] -/
def tLcIntH (K : PySem.W.Frag) (tl : TE) : TE := fun σ H Q => tl σ H fun v H1 => ∃ (a : Addr) (bs : List Bool), v = V.ref a ∧ SqL K H1 a (bs.map V.bl) ∧
  ∀ D, H1 D = none → Q (.ref D) (upd H1 D (.lst ((bs.map fun b => if b then (1 : Int) else 0).map V.int)))
theorem pe_lcIntH {x : Str} {px p1 p2 p3 pos : Pos} {scope : Scope} {iter : Expr} {tl : TE} (hc : HotC X) (hi : PE X iter tl) (hm : X.mg "int" = none) (hk : scope.kind = .function) (h1 : scope.names.lookup x = some .local)
    (h2 : scope.names.lookup ("int" : Str) = some .globalImplicit) (h3 : ∀ y ∈ scope.names, y.2 ≠ .free) (h3c : ∀ y ∈ scope.names, y.2 ≠ .cell) (h4 : ∀ y ∈ scope.names, y.2 = .local → scope.names.lookup y.1 = some .local)
    (hs : ∀ v, foldedSetIterable iter X.env v = pure v := by intro _; rfl) (hdx : (x == ("__debug__" : Str)) = false := by decide) :
    PE X (.ListComp (.Call (.Name "int" p1) [.Name x p2] [] p3) [⟨.Name x px, iter, [], 0⟩] scope pos) (tLcIntH X.K tl) := by
  refine ⟨fun pins s σ H Q I h => ?_⟩
  have hclos : closureFor scope X.env = pure (cloFrom X.env.cells scope.names []) := closure_ok fun y hy e => absurd e (h3 y hy)
  refine wpAny_ListComp_free (fun _ => true) (fun v y => ∀ b, v = .bool b → ∃ t, y = .int (if b then 1 else 0) t) hclos h3c hk h4 h1 (thn (hi.run pins s σ H _ I h) fun u s1 hu => ?_) hs
  obtain ⟨v, H1, I1, rv, a, bs, ev, hS, q⟩ := hu
  subst ev
  obtain rfl : u = Value.ref a := rv
  obtain ⟨its, rits, hl, hz⟩ := I1.list hS
  have hb := rits.bls
  obtain ⟨x1, hot⟩ := hc.at I1
  obtain ⟨hh, o1, v1, g1, d1, c1⟩ := hot
  have hlt : a < s1.heap.objs.size := by obtain ⟨_, _, e, _⟩ := hl; exact Heap.lt_size e
  refine wpAny_pyIter_list hl.isList ?_
  have g2 := Heap.get?_push_of_some (h := s1.heap) { cls := .type "list_iterator", data := .fields #[.ref a, .int 0 0] } g1
  refine ⟨s1.heap.objs.size, _, _, _, _, _, rfl, walk_list_hot (x1 := x1) hh _ a (Nat.ne_of_lt hlt) (Nat.ne_of_lt (Heap.lt_size g1)) its.toArray, ?_, ⟨⟨_, Heap.get?_push_size _ rfl, rfl, rfl⟩, hl.isList.push _, hh, o1, v1, g2, d1, c1⟩, fun b hb => ?_, ⟨?_, ?_⟩, ?_⟩
  · have := rits.length
    simp only [List.size_toArray]
    omega
  · show b < (s1.heap.push _).objs.size
    rw [Heap.size_push]
    rcases List.mem_cons.mp hb with z | hb
    · rw [z]; exact Nat.lt_succ_self _
    · rcases List.mem_cons.mp hb with z | hb
      · rw [z]; exact Nat.lt_succ_of_lt hlt
      · rw [List.mem_singleton.mp hb]
        exact Nat.lt_succ_of_lt (Heap.lt_size g1)
  · intro C i v s₃ m₃ E' _ _ _ _ _ _
    exact wpAny_tests_nil ⟨rfl, s₃.heap, s₃.toks, rfl, fun _ _ z => z⟩
  · intro C i v s₃ m₃ E' hC hv _ hn hmx hkp htk
    have hv : its[i]? = some v := by simpa using hv
    rw [hb] at hv
    obtain ⟨b, hbi, rfl⟩ : ∃ b, bs[i]? = some b ∧ v = Value.bool b := by
      rw [List.getElem?_map] at hv
      cases e : bs[i]? with
      | none => rw [e] at hv; cases hv
      | some b => rw [e] at hv; exact ⟨b, rfl, (Option.some.inj hv).symm⟩
    have er : (compEnvC scope (cloFrom X.env.cells scope.names []) C X.env).scope = scope := relabel_same h3
    have kp : ∀ b o, X.base.get? b = some o → s₃.heap.get? b = some o := fun b o e => by
      have e1 := I1.bk b o e
      exact hkp b o (fun z => by rw [List.mem_singleton.mp z] at e1; exact absurd (Heap.lt_size e1) (Nat.lt_irrefl _)) (Heap.get?_push_of_some _ e1)
    obtain ⟨mb, b1, b2⟩ := I1.mod.blt
    refine Call_ (Calls.Name_function_global (by rw [er]; exact hk) (by show (compEnvC scope _ C X.env).scope.names.lookup _ = _; rw [er]; exact h2)
      (Calls.loadGlobal_builtin (env := compEnvC scope (cloFrom X.env.cells scope.names []) C X.env) (by show s₃.heap.Ns X.env.globals _; rw [I1.ok.glob]; exact I1.mod.glob.keeps kp) hm (by show s₃.heap.Ns X.env.builtins _; rw [I1.ok.blt]; exact b1.keeps kp) ((b2 "int" (by decide)).trans (by decide +kernel : bootBuiltins "int" = some (.type "int"))) ?_))
    refine PyProof.Rows.callWith_type1 (Calls.spliced_cons (wpAny_Name (wpAny_loadName_local (by rw [er]; exact hk) (by show (compEnvC scope _ C X.env).scope.names.lookup _ = _; rw [er]; exact h1) hn hmx (Calls.spliced_nil (call_int_bool ?_))) hdx)) rfl rfl
    exact ⟨fun b' e => ⟨_, by cases e; rfl⟩, s₃.heap, s₃.toks + 1, rfl, fun _ _ z => z⟩
  · intro D h' tk ys vs hD hDl hpl hlen hP hF hkp
    obtain ⟨n, hDo⟩ := hpl
    have fr : ∀ b o, s1.heap.get? b = some o → h'.get? b = some o := fun b o e => hkp b o (fun z => by rw [List.mem_singleton.mp z] at e; exact absurd (Heap.lt_size e) (Nat.lt_irrefl _)) (Heap.get?_push_of_some _ e)
    have hD1 : s1.heap.get? D = none := by
      cases e : s1.heap.get? D with
      | none => rfl
      | some o => rw [show (s1.heap.push _).get? D = some o from Heap.get?_push_of_some _ e] at hD; cases hD
    have evs : vs = bs.map Value.bool := by
      rw [← hb]
      refine List.ext_getElem? fun j => ?_
      cases e : vs[j]? with
      | none =>
        have := List.getElem?_eq_none_iff.mp e
        exact (List.getElem?_eq_none_iff.mpr (by simp only [List.size_toArray] at hlen; omega)).symm
      | some v => simpa using (hP j v e).symm
    have rv2 : Vals ((bs.map fun b => if b then (1 : Int) else 0).map V.int) ys.toList := by
      rw [show vs.filter (fun _ => true) = vs from List.filter_eq_self.mpr fun _ _ => rfl, evs] at hF
      exact vals_b2i hF
    have hz2 : ((bs.map fun b => if b then (1 : Int) else 0).map V.int).length ≤ sizeLine := by
      simpa using hz
    have J : Inv X pins σ (upd H1 D (.lst ((bs.map fun b => if b then (1 : Int) else 0).map V.int))) { s1 with heap := h', toks := tk } := inv_laid (s := s1) (t' := tk) I1 fr hD1 ⟨hz2, ys.toList, n, rv2, by simpa using hDo⟩
    exact ⟨.ref D, _, J, rfl, q D (I1.hok.gone hD1)⟩
end
end Sv

set_option maxHeartbeats 4000000
namespace Sv
open PySem PySem.Spec PyProof.Rows L2 L2H HotX
/-! ### a def of the text, by its name -/
section
variable (P : Program) (w : World) (K : PySem.W.Frag) (mg : Str → Option Value) (base : Heap)
/-- the def st stands under its name x -/
def Here (x : Str) (st : Stmt) : Prop := ∃ f fd, Fun K x x st f fd ∧ mg x = some (.ref f)
/-- the name x is a def that keeps the promise sp, by level k -/
def Keeps' (CX : CXT) (k : Nat) (x : Str) (ps : List Str) (sp : Sp) : Prop :=
  ∃ f fd, mg x = some (.ref f) ∧ PySem.W.keepIn K (.ref f) = true ∧ Binds K fd ps [] ∧ FnOk P w K mg base CX k f fd ps sp
/-- the same within an except suite that holds the exception p -/
structure FnP (p : Addr × Obj) (k : Nat) (f : Addr) (fd : FuncData) (ps : List Str) (sp : Sp) : Prop where
  len : ∀ vs H Q E, sp vs H Q E → vs.length = ps.length
  run : ∀ (A : Around) (outer : List Env) (s : Shared) (H : Hp) (args : Args) (us : List Value) (vs : List V) (Q : VK) (E : XK), RoomH k A → Hot1 A p → PinOk outer H s p → Env0 P w K mg base A outer s H → BindsTo s fd args (ps.zip us) → Vals vs us → sp vs H Q E →
    codeAny (model P w) A (.call (.ref f) args) (CR CX0 outer P w H s Q E) s
def KeepsP (p : Addr × Obj) (k : Nat) (x : Str) (ps : List Str) (sp : Sp) : Prop :=
  ∃ f fd, mg x = some (.ref f) ∧ PySem.W.keepIn K (.ref f) = true ∧ Binds K fd ps [] ∧ FnP P w K mg base p k f fd ps sp
end
section
variable {P : Program} {w : World} {K : PySem.W.Frag} {mg : Str → Option Value} {base : Heap}
theorem Keeps'.mono {CX : CXT} {j k : Nat} {x : Str} {ps : List Str} {sp : Sp} (D : Keeps' P w K mg base CX j x ps sp) (h : j ≤ k) : Keeps' P w K mg base CX k x ps sp := by
  obtain ⟨f, fd, a, b, c, d⟩ := D
  exact ⟨f, fd, a, b, c, d.mono h⟩
theorem Keeps'.imp {CX : CXT} {k : Nat} {x : Str} {ps : List Str} {sp sp' : Sp} (D : Keeps' P w K mg base CX k x ps sp) (h : ∀ vs H Q E, sp' vs H Q E → sp vs H Q E) : Keeps' P w K mg base CX k x ps sp' := by
  obtain ⟨f, fd, a, b, c, d⟩ := D
  exact ⟨f, fd, a, b, c, d.imp h⟩
/-- a def that lets no exception out -/
theorem keeps0 {x : Str} {st : Stmt} {N ps : List Str} {k : Nat} {sp : Sp} (F : Here K mg x st) (S : FnScope N ps (defScope st))
    (hb : ∀ (kV doc pm : Value) (an : Option Addr) (cdv ct : Value) (us : List Value), us.length = ps.length → bindArgs (PySem.W.fnOf x x (defArgs st) (defBody st) (defScope st) .none kV doc pm an cdv ct) ⟨us, []⟩ = pure (ps.zip us))
    (len : ∀ vs H Q E, sp vs H Q E → vs.length = ps.length)
    (hbody : ∀ (f : Addr) (cdv : Value) (A : Around) (outer : List Env) (s : Shared) (H : Hp) (vs : List V) (Q : VK) (E : XK), Room k (A.deeper (envOfC x (defScope st) s.heap.objs.size f cdv)) → sp vs H Q E →
      ∃ t, PSs (cxOf CX0 P w K mg base N x (defScope st) f cdv A outer s H E).nox (defBody st) t ∧ t { nx := fun _ H' => Q .non H', rt := Q } (start N vs) H) : Keeps' P w K mg base CX0 (k + 1) x ps sp := by
  obtain ⟨f, fd, F, g⟩ := F
  exact ⟨f, fd, g, F.kp, F.binds hb, F.ok S len fun cdv A outer s H vs Q E hr h => hbody f cdv A outer s H vs Q E hr h⟩
/-- the def st stands under its name x, its code object at c -/
def HereC (K : PySem.W.Frag) (mg : Str → Option Value) (x : Str) (st : Stmt) (c : Addr) : Prop := ∃ (f : Addr) (oc : Value) (od : Option Addr) (kV doc pm : Value) (an : Option Addr) (ct : Value) (osl : Array (Option Value)), mg x = some (.ref f) ∧
  K.lookup f = some ⟨oc, od, .func (PySem.W.fnOf x x (defArgs st) (defBody st) (defScope st) .none kV doc pm an (.ref c) ct), osl⟩ ∧ PySem.W.codeIn K (.ref c) x = true ∧ PySem.W.keepIn K (.ref f) = true
theorem HereC.here {x : Str} {st : Stmt} {c : Addr} (h : HereC K mg x st c) : Here K mg x st := by
  obtain ⟨f, oc, od, kV, doc, pm, an, ct, osl, g, lk, hc, hk⟩ := h
  exact ⟨f, _, ⟨⟨oc, od, kV, doc, pm, an, _, ct, osl, rfl, lk, hc⟩, hk⟩, g⟩
/-- a def that makes lambdas: its code object is told -/
theorem keeps0C {x : Str} {st : Stmt} {c : Addr} {N ps : List Str} {k : Nat} {sp : Sp} (F : HereC K mg x st c) (S : FnScope N ps (defScope st))
    (hb : ∀ (kV doc pm : Value) (an : Option Addr) (cdv ct : Value) (us : List Value), us.length = ps.length → bindArgs (PySem.W.fnOf x x (defArgs st) (defBody st) (defScope st) .none kV doc pm an cdv ct) ⟨us, []⟩ = pure (ps.zip us))
    (len : ∀ vs H Q E, sp vs H Q E → vs.length = ps.length)
    (hbody : ∀ (f : Addr) (A : Around) (outer : List Env) (s : Shared) (H : Hp) (vs : List V) (Q : VK) (E : XK), Room k (A.deeper (envOfC x (defScope st) s.heap.objs.size f (.ref c))) → sp vs H Q E →
      ∃ t, PSs (cxOf CX0 P w K mg base N x (defScope st) f (.ref c) A outer s H E).nox (defBody st) t ∧ t { nx := fun _ H' => Q .non H', rt := Q } (start N vs) H) : Keeps' P w K mg base CX0 (k + 1) x ps sp := by
  obtain ⟨f, oc, od, kV, doc, pm, an, ct, osl, g, lk, hc, hk⟩ := F
  refine ⟨f, _, g, hk, .all (hb kV doc pm an _ ct), fn_of lk hc S len fun A outer s H vs Q E hr hsp => ?_⟩
  obtain ⟨t, ht, hq⟩ := hbody f A outer s H vs Q E hr hsp
  exact ⟨t, ht.nox, hq⟩
/-- the same, with the function's object told: for the law itself -/
def KeepsC (P : Program) (w : World) (K : PySem.W.Frag) (mg : Str → Option Value) (base : Heap) (CX : CXT) (k : Nat) (x : Str) (ps : List Str) (sp : Sp) : Prop :=
  ∃ f fd, (∃ oc od osl, K.lookup f = some ⟨oc, od, .func fd, osl⟩) ∧ mg x = some (.ref f) ∧ FnOk P w K mg base CX k f fd ps sp
theorem keepsLaw {x : Str} {st : Stmt} {c : Addr} {N ps : List Str} {k : Nat} {sp : Sp} (F : HereC K mg x st c) (S : FnScope N ps (defScope st))
    (len : ∀ vs H Q E, sp vs H Q E → vs.length = ps.length)
    (hbody : ∀ (f : Addr) (A : Around) (outer : List Env) (s : Shared) (H : Hp) (vs : List V) (Q : VK) (E : XK), Room k (A.deeper (envOfC x (defScope st) s.heap.objs.size f (.ref c))) → sp vs H Q E →
      ∃ t, PSs (cxOf CX0 P w K mg base N x (defScope st) f (.ref c) A outer s H E).nox (defBody st) t ∧ t { nx := fun _ H' => Q .non H', rt := Q } (start N vs) H) : KeepsC P w K mg base CX0 (k + 1) x ps sp := by
  obtain ⟨f, oc, od, kV, doc, pm, an, ct, osl, g, lk, hc, hk⟩ := F
  refine ⟨f, _, ⟨_, _, _, lk⟩, g, fn_of lk hc S len fun A outer s H vs Q E hr hsp => ?_⟩
  obtain ⟨t, ht, hq⟩ := hbody f A outer s H vs Q E hr hsp
  exact ⟨t, ht.nox, hq⟩
theorem here_mk {h : Heap} {x : Str} {st : Stmt} {f : Addr} {oc : Value} {od an : Option Addr} {osl : Array (Option Value)} {kV doc pm cdv ct : Value} (X : K.In h) (G : h.Ns mainGlobals mg) (a : PySem.W.nsIn K mainGlobals x = some (some (.ref f)))
    (l : K.lookup f = some ⟨oc, od, .func (PySem.W.fnOf x x (defArgs st) (defBody st) (defScope st) .none kV doc pm an cdv ct), osl⟩) (c : PySem.W.codeIn K cdv x = true) (k : PySem.W.keepIn K (.ref f) = true) : Here K mg x st :=
  ⟨f, _, fun_mk l c k, PySem.W.mg_of X G a⟩
theorem hereC_mk {h : Heap} {x : Str} {st : Stmt} {f cd : Addr} {oc : Value} {od an : Option Addr} {osl : Array (Option Value)} {kV doc pm ct : Value} (X : K.In h) (G : h.Ns mainGlobals mg) (a : PySem.W.nsIn K mainGlobals x = some (some (.ref f)))
    (l : K.lookup f = some ⟨oc, od, .func (PySem.W.fnOf x x (defArgs st) (defBody st) (defScope st) .none kV doc pm an (.ref cd) ct), osl⟩) (c : PySem.W.codeIn K (.ref cd) x = true) (k : PySem.W.keepIn K (.ref f) = true) : HereC K mg x st cd :=
  ⟨f, oc, od, kV, doc, pm, an, ct, osl, PySem.W.mg_of X G a, l, c, k⟩
/-- a def that may raise; the exceptions' contexts are None -/
theorem keepsN {x : Str} {st : Stmt} {N ps : List Str} {k : Nat} {sp : Sp} (F : Here K mg x st) (S : FnScope N ps (defScope st))
    (hb : ∀ (kV doc pm : Value) (an : Option Addr) (cdv ct : Value) (us : List Value), us.length = ps.length → bindArgs (PySem.W.fnOf x x (defArgs st) (defBody st) (defScope st) .none kV doc pm an cdv ct) ⟨us, []⟩ = pure (ps.zip us))
    (len : ∀ vs H Q E, sp vs H Q E → vs.length = ps.length)
    (hbody : ∀ (f : Addr) (cdv : Value) (A : Around) (outer : List Env) (s : Shared) (H : Hp) (vs : List V) (Q : VK) (E : XK), Room k (A.deeper (envOfC x (defScope st) s.heap.objs.size f cdv)) → sp vs H Q E →
      ∃ t, PSs (cxOf (L2N.CX P w) P w K mg base N x (defScope st) f cdv A outer s H E) (defBody st) t ∧ t { nx := fun _ H' => Q .non H', rt := Q } (start N vs) H) : Keeps' P w K mg base (L2N.CX P w) (k + 1) x ps sp := by
  obtain ⟨f, fd, F, g⟩ := F
  have bd := F.binds hb
  have kp := F.kp
  obtain ⟨oc, od, kV, doc, pm, an, cdv, ct, osl, rfl, lk, hcd⟩ := F.ex
  exact ⟨f, _, g, kp, bd, fn_of lk hcd S len fun A outer s H vs Q E hr hsp => hbody f cdv A outer s H vs Q E hr hsp⟩
/-- a def called in an except suite that holds p -/
theorem keepsP {x : Str} {st : Stmt} {N ps : List Str} {k : Nat} {sp : Sp} {p : Addr × Obj} (F : Here K mg x st) (S : FnScope N ps (defScope st))
    (hb : ∀ (kV doc pm : Value) (an : Option Addr) (cdv ct : Value) (us : List Value), us.length = ps.length → bindArgs (PySem.W.fnOf x x (defArgs st) (defBody st) (defScope st) .none kV doc pm an cdv ct) ⟨us, []⟩ = pure (ps.zip us))
    (len : ∀ vs H Q E, sp vs H Q E → vs.length = ps.length)
    (hbody : ∀ (f : Addr) (cdv : Value) (A : Around) (outer : List Env) (s : Shared) (H : Hp) (vs : List V) (Q : VK) (E : XK), Hot1 A p → RoomH k (A.deeper (envOfC x (defScope st) s.heap.objs.size f cdv)) → sp vs H Q E →
      ∃ t, PSs (cxH CX0 P w K mg base N x (defScope st) f cdv A outer s H E p) (defBody st) t ∧ t { nx := fun _ H' => Q .non H', rt := Q } (start N vs) H) : KeepsP P w K mg base p (k + 1) x ps sp := by
  obtain ⟨f, fd, F, g⟩ := F
  have bd := F.binds hb
  have kp := F.kp
  obtain ⟨oc, od, kV, doc, pm, an, cdv, ct, osl, rfl, lk, hcd⟩ := F.ex
  refine ⟨f, _, g, kp, bd, len, fun A outer s H args us vs Q E hr hot hpin e0 hbt r hsp => ?_⟩
  have hl := len _ _ _ _ hsp
  have KX : K.In s.heap := e0.mod.kin.keeps fun b o e => (e0.bs b o e).1
  have lim : s.heap.NoLimit := e0.mod.nolimit.keeps fun b o e => (e0.bs b o e).1
  have hkind : ∀ y ∈ ps.zip us, (defScope st).names.lookup y.1 = some .local ∨ ((defScope st).names.lookup y.1 = some .cell ∧ ((cellsFrom (s.heap.objs.size + 1) (defScope st).names []).lookup y.1).isSome = true) := by
    rintro ⟨n, v⟩ hy
    rcases S.par n (List.of_mem_zip hy).1 with q | q
    · exact .inl q
    · exact .inr ⟨q, PySem.W.cellsFrom_some _ _ _ (.inl q)⟩
  refine codeAny_call_function hr.depth (KX _ _ lk) rfl S.co S.gen rfl (PySem.W.codeRec_of KX hcd) (hbt _ _ _ _ ?_)
  refine wpAny_newFunctionEnv_cells S.kind hkind fun env he s1 ic => ?_
  subst he
  refine ⟨lim.keeps ic.toInCall.keep, codeAny_func ?_⟩
  obtain ⟨t, ht, hq⟩ := hbody f cdv A outer s H vs Q E hot (hr.deeper _) hsp
  have J : Inv (cxH CX0 P w K mg base N x (defScope st) f cdv A outer s H E p) [] (start N vs) H s1 := inv_startH S hpin e0 hl r ic
  refine wpAny_mono (ht.run [] s1 (start N vs) H _ J hq) (fun fl s' hs => ?_) fun e s' hs => hs
  cases fl with
  | ret u =>
    obtain ⟨v, σ', H', J', rv, q⟩ := hs
    exact ⟨v, H', J'.os, J'.bare, J'.base, J'.hok, rv, q⟩
  | next =>
    obtain ⟨σ', H', J', q⟩ := hs
    exact ⟨.non, H', J'.os, J'.bare, J'.base, J'.hok, rfl, q⟩
  | brk => obtain ⟨_, _, _, q⟩ := hs; exact q.elim
  | cont => obtain ⟨_, _, _, q⟩ := hs; exact q.elim
end
/-! ### calls -/
section
variable {X : Cx} {k : Nat} {x : Str} {ps : List Str} {sp : Sp} {q pos : Pos} {e : Expr} {es : List Expr} {t : TA}
/-- a def's call, its promise asked of the arguments -/
def tD (sp : Sp) (E : XK) (t : TA) : TE := fun σ H Q => t σ H fun vs H1 => sp vs H1 Q E
theorem tCall_nil (sp : Sp) (E : XK) (t : TA) : tCall sp [] E t = tD sp E t := by
  funext σ H Q
  unfold tCall tD
  simp only [List.append_nil]
theorem passN {X : Cx} : Passes (L2N.CX X.prog X.w) X E0 := fun _ _ _ _ _ _ _ h => by
  obtain ⟨_, _, _, _, _, _, _, _, _, _, _, _, z⟩ := h
  exact z.elim
/-- f(e, ..): f lets nothing out -/
theorem pe_d0 (D : Keeps' X.prog X.w X.K X.mg X.base CX0 k x ps sp) (hr : Room k X.A) (hg : Gl X x) (ha : PA X (e :: es) t) (hdb : (x == ("__debug__" : Str)) = false := by decide)
    (he : starEach (e :: es) X.env = (false, eval e X.env) :: starEach es X.env := by rfl) (hpl : (backTo pos (starEach es X.env)).any (·.1) = false := by rfl) :
    PE X (.Call (.Name x q) (e :: es) [] pos) (tD sp E0 t) := by
  obtain ⟨f, fd, a, b, c, d⟩ := D
  have h := pe_call (pos := pos) (p := q) d hr hg a b c .nil pass0 ha hdb he hpl
  rw [← tCall_nil]
  exact h
/-- f(e, ..): f may raise, but not here -/
theorem pe_dN (D : Keeps' X.prog X.w X.K X.mg X.base (L2N.CX X.prog X.w) k x ps sp) (hr : Room k X.A) (hg : Gl X x) (ha : PA X (e :: es) t) (hdb : (x == ("__debug__" : Str)) = false := by decide)
    (he : starEach (e :: es) X.env = (false, eval e X.env) :: starEach es X.env := by rfl) (hpl : (backTo pos (starEach es X.env)).any (·.1) = false := by rfl) :
    PE X (.Call (.Name x q) (e :: es) [] pos) (tD sp E0 t) := by
  obtain ⟨f, fd, a, b, c, d⟩ := D
  have h := pe_call (pos := pos) (p := q) d hr hg a b c .nil passN ha hdb he hpl
  rw [← tCall_nil]
  exact h
/-- f(e, ..) in a def that lets out what f raises -/
theorem pe_dX {W : WX} {E : XK} (D : Keeps' X.prog X.w X.K X.mg X.base (L2N.CX X.prog X.w) k x ps sp) (hr : Room k X.A) (hg : Gl X x) (tk : L2N.Takes X W) (hW : ∀ cls d σ H, E cls d H → W cls d σ H) (ha : PA X (e :: es) t)
    (hdb : (x == ("__debug__" : Str)) = false := by decide) (he : starEach (e :: es) X.env = (false, eval e X.env) :: starEach es X.env := by rfl) (hpl : (backTo pos (starEach es X.env)).any (·.1) = false := by rfl) :
    PE X (.Call (.Name x q) (e :: es) [] pos) (tD sp E t) := by
  obtain ⟨f, fd, a, b, c, d⟩ := D
  have h := pe_call (pos := pos) (p := q) (E := E) d hr hg a b c .nil (L2N.passes_call tk hW) ha hdb he hpl
  rw [← tCall_nil]
  exact h
/-- f(e, ..) within the except suite that holds p -/
theorem pe_dP {p : Addr × Obj} (D : KeepsP X.prog X.w X.K X.mg X.base p k x ps sp) (hr : RoomH k X.A) (hot : Hot1 X.A p) (hp : p ∈ X.pn) (hg : Gl X x) (ha : PA X (e :: es) t) (hdb : (x == ("__debug__" : Str)) = false := by decide)
    (he : starEach (e :: es) X.env = (false, eval e X.env) :: starEach es X.env := by rfl) (hpl : (backTo pos (starEach es X.env)).any (·.1) = false := by rfl) :
    PE X (.Call (.Name x q) (e :: es) [] pos) (tD sp E0 t) := by
  obtain ⟨f, fd, a, b, c, d⟩ := D
  refine ⟨fun pins s σ H Q I h => ?_⟩
  refine wpAny_Call_Name_kw (ld_glob I hg a ?_ hdb)
  refine PySem.W.callWith_K (h₀ := X.base) I.ok.mod.kin b (thn (ha.run pos pins s σ H _ I h) fun us s1 hu => ?_) he hpl
  obtain ⟨vs, H1, I1, r, hs⟩ := hu
  refine ⟨I1.kIn, ?_⟩
  have hl : us.length = ps.length := by rw [← r.length]; exact d.len _ _ _ _ hs
  have bd := c s1 us I1.kIn (by rw [List.append_nil]; exact hl)
  rw [List.append_nil] at bd
  have P1 := I1.pin p (List.mem_append_left _ hp)
  have hpin : PinOk X.stack H1 s1 p := ⟨P1.1, P1.2.1, fun hm => (List.mem_cons.mp (I1.stkSub p.1 hm)).elim P1.2.2.1 P1.2.2.2.1, P1.2.2.2.2⟩
  refine wpAny_call (codeAny_mono (d.run X.A X.stack s1 H1 ⟨us, []⟩ us vs Q E0 hr hot hpin I1.env0 bd r hs) fun res s' hq => ?_)
  cases res with
  | error e => exact (show False from hq).elim
  | ok fl =>
    cases fl with
    | ret u => exact I1.after hq
    | next => exact (show False from hq).elim
    | brk => exact (show False from hq).elim
    | cont => exact (show False from hq).elim
/-- isinstance(e, c), e the exception that is pinned -/
theorem call_isP {a D : Addr} {oe : Obj} (C : ExcC X.K D) (hp : (a, oe) ∈ X.pn) (hz : Zc (.ref D) none oe) (hf : ∃ vs, oe.data = .fields vs) : CallR X (.builtin "isinstance") (rIsE X.K D a) := by
  intro pins s σ H xs us Q I r h
  obtain ⟨c, cv, b, rfl, hcv, e, q⟩ := h
  obtain ⟨u1, u2, rfl, r1, r2⟩ := vals2 r
  obtain rfl : u1 = Value.ref a := r1
  have ec := hcv _ r2
  subst ec
  obtain ⟨hget, _⟩ := I.pin (a, oe) (List.mem_append_left _ hp)
  obtain ⟨vs, hv⟩ := hf
  have J : PySem.W.InstAt s.heap a oe D none := by
    obtain ⟨oc, od, oda, osl⟩ := oe
    obtain ⟨z1, z2⟩ := hz
    dsimp only at z1 z2 hv
    subst z1 z2 hv
    exact ⟨hget, rfl, rfl, trivial⟩
  exact PySem.W.kia_one (PySem.W.handS_kitx_exc C.hg C.hk C.hs C.hd C.ha C.hn C.ht C.hm) I.kIn J e (fun z => nomatch z) fun tk => ⟨.bl b, H, I.kept (t' := tk) fun _ _ z => z, rfl, q⟩
end
theorem same_new {H : Hp} {p : Addr} {o : HO} (h : H p = none) : Same H (upd H p o) := fun b x e => by
  rw [upd_ne (ne_of_none e h)]
  exact e
/-- a new object is wanted: the heap behind it by what is known of it -/
def NewQ (H : Hp) (o : HO) (Q : VK) : Prop := ∀ (p : Addr) (H' : Hp), H p = none → Same H H' → H' p = some o → Q (.ref p) H'
theorem NewQ.use {H : Hp} {o : HO} {Q : VK} (h : NewQ H o Q) : ∀ p, H p = none → Q (.ref p) (upd H p o) := fun p np => h p _ np (same_new np) upd_same
section
variable {X : Cx}
theorem PE.imp {e : Expr} {t t' : TE} (h : PE X e t) (i : ∀ σ H Q, t' σ H Q → t σ H Q) : PE X e t' := ⟨fun pins s σ H Q I q => h.run pins s σ H Q I (i σ H Q q)⟩
theorem OpR.imp {f : Value → Value → Sem Value} {r r' : R2} (h : OpR X f r) (i : ∀ x y H Q, r' x y H Q → r x y H Q) : OpR X f r' := fun pins s σ H x y v u Q I rx ry q => h pins s σ H x y v u Q I rx ry (i x y H Q q)
theorem CallR.imp {f : Value} {r r' : List V → Hp → VK → Prop} (h : CallR X f r) (i : ∀ xs H Q, r' xs H Q → r xs H Q) : CallR X f r' := fun pins s σ H xs us Q I rv q => h pins s σ H xs us Q I rv (i xs H Q q)
theorem SlR.imp {r r' : V → Option Int → Option Int → Hp → VK → Prop} (h : SlR X r) (i : ∀ x lo hi H Q, r' x lo hi H Q → r x lo hi H Q) : SlR X r' := fun pins s σ H x v vl vu lo hi sl Q I rx hs pl pu q => h pins s σ H x v vl vu lo hi sl Q I rx hs pl pu (i x lo hi H Q q)
def tTupN (t : TA) : TE := fun σ H Q => t σ H fun xs H1 => xs.length ≤ sizeLine ∧ NewQ H1 (.tup xs) Q
def tLstN (t : TA) : TE := fun σ H Q => t σ H fun xs H1 => xs.length ≤ sizeLine ∧ NewQ H1 (.lst xs) Q
theorem pe_tupN {es : List Expr} {t : TA} {x1} {pos : Pos} (h : PA X es t) : PE X (.Tuple es x1 pos) (tTupN t) := by
  refine ⟨fun pins s σ H Q I hq => ?_⟩
  refine wpAny_Tuple_spliced (thn (h.run pos pins s σ H _ I hq) fun us s1 hu => ?_)
  obtain ⟨xs, H1, I1, r, z, q⟩ := hu
  exact ⟨by rw [← r.length]; exact z, .ref s1.heap.objs.size, upd H1 s1.heap.objs.size (.tup xs), I1.laid (t' := s1.toks) (fun b u e => Heap.get?_push_of_some _ e) (Nat.le_refl _) ⟨z, us, r, ⟨_, Heap.get?_push_size _ rfl, rfl, _, rfl⟩⟩, rfl, q.use _ I1.fresh⟩
theorem pe_lstN {es : List Expr} {t : TA} {pos : Pos} (h : PA X es t) : PE X (.List es pos) (tLstN t) := by
  refine ⟨fun pins s σ H Q I hq => ?_⟩
  refine wpAny_List_spliced (thn (h.run pos pins s σ H _ I hq) fun us s1 hu => ?_)
  obtain ⟨xs, H1, I1, r, z, q⟩ := hu
  exact ⟨by rw [← r.length]; exact z, .ref s1.heap.objs.size, upd H1 s1.heap.objs.size (.lst xs), I1.laid (t' := s1.toks) (fun b u e => Heap.get?_push_of_some _ e) (Nat.le_refl _) ⟨z, us, 0, r, Heap.get?_push_size _ rfl⟩, rfl, q.use _ I1.fresh⟩
def rCatN : R2 := fun x y H Q => ∃ l b xs zs, x = .ref l ∧ y = .ref b ∧ H l = some (.lst xs) ∧ H b = some (.lst zs) ∧ xs.length + zs.length ≤ sizeLine ∧ NewQ H (.lst (xs ++ zs)) Q
theorem op_catN : OpR X (binaryOp .Add) rCatN := OpR.imp op_cat fun x y H Q h => by
  obtain ⟨l, b, xs, zs, h1, h2, h3, h4, h5, q⟩ := h
  exact ⟨l, b, xs, zs, h1, h2, h3, h4, h5, q.use⟩
/-- tuple(xs) of a list -/
theorem call_tupleN : CallR X (.type "tuple") (fun xs H Q => ∃ p ys, xs = [.ref p] ∧ SqL X.K H p ys ∧ NewQ H (.tup ys) Q) := CallR.imp call_tuple_of fun xs H Q h => by
  obtain ⟨p, ys, h1, h2, q⟩ := h
  exact ⟨p, ys, h1, .inl ⟨h2, q.use⟩⟩
/-- list(xs) of a list or a tuple -/
theorem call_listN : CallR X (.type "list") (fun xs H Q => ∃ p ys, xs = [.ref p] ∧ (SqL X.K H p ys ∨ SqT X.K H p ys) ∧ NewQ H (.lst ys) Q) := CallR.imp call_list_of fun xs H Q h => by
  obtain ⟨p, ys, h1, h2, q⟩ := h
  exact ⟨p, ys, h1, h2, q.use⟩
def rSlLN (K : PySem.W.Frag) : V → Option Int → Option Int → Hp → VK → Prop := fun x lo hi H Q => ∃ a xs, x = .ref a ∧ SqL K H a xs ∧ NewQ H (.lst (cutV xs lo hi)) Q
theorem sl_listN : SlR X (rSlLN X.K) := SlR.imp sl_list fun x lo hi H Q h => by
  obtain ⟨a, xs, h1, h2, q⟩ := h
  exact ⟨a, xs, h1, h2, q.use⟩
end
theorem szl {n : Nat} (h : Nat.ble n 1000 = true) : n ≤ sizeLine := Nat.le_of_lt (small1000 (Nat.le_of_ble_eq_true h))
theorem szlt {n : Nat} (h : Nat.ble n 1000 = true) : n < sizeLine := small1000 (Nat.le_of_ble_eq_true h)
/-! ### short words for terms -/
section
variable {X : Cx}
theorem pa1 {e1 : Expr} {t1 : TE} (h1 : PE X e1 t1) (s1 : starEach [e1] X.env = (false, eval e1 X.env) :: starEach [] X.env := by rfl) : PA X [e1] (tCons t1 tNil) := pa_cons h1 pa_nil s1
theorem pa2 {e1 e2 : Expr} {t1 t2 : TE} (h1 : PE X e1 t1) (h2 : PE X e2 t2) (s1 : starEach [e1, e2] X.env = (false, eval e1 X.env) :: starEach [e2] X.env := by rfl) (s2 : starEach [e2] X.env = (false, eval e2 X.env) :: starEach [] X.env := by rfl) :
    PA X [e1, e2] (tCons t1 (tCons t2 tNil)) := pa_cons h1 (pa_cons h2 pa_nil s2) s1
theorem pa3 {e1 e2 e3 : Expr} {t1 t2 t3 : TE} (h1 : PE X e1 t1) (h2 : PE X e2 t2) (h3 : PE X e3 t3) (s1 : starEach [e1, e2, e3] X.env = (false, eval e1 X.env) :: starEach [e2, e3] X.env := by rfl) (s2 : starEach [e2, e3] X.env = (false, eval e2 X.env) :: starEach [e3] X.env := by rfl)
    (s3 : starEach [e3] X.env = (false, eval e3 X.env) :: starEach [] X.env := by rfl) : PA X [e1, e2, e3] (tCons t1 (tCons t2 (tCons t3 tNil))) := pa_cons h1 (pa_cons h2 (pa_cons h3 pa_nil s3) s2) s1
/-- a builtin by its name -/
theorem pb {x : Str} {id : String} {r : List V → Hp → VK → Prop} {e : Expr} {es : List Expr} {t : TA} {p pos : Pos} (hc : CallR X (.builtin id) r) (hm : X.mg x = none) (hv : bootBuiltins x = some (.builtin id)) (ha : PA X (e :: es) t) (hg : Gl X x := by rfl)
    (hn : x ≠ "__name__" := by decide) (hdb : (x == ("__debug__" : Str)) = false := by decide) (h1 : starEach (e :: es) X.env = (false, eval e X.env) :: starEach es X.env := by rfl) (h2 : (backTo pos (starEach es X.env)).any (·.1) = false := by rfl) :
    PE X (.Call (.Name x p) (e :: es) [] pos) (tCB r t) := pe_callB hc hg hm hv ha hn hdb h1 h2
theorem pbt {x : Str} {T : String} {r : List V → Hp → VK → Prop} {e : Expr} {es : List Expr} {t : TA} {p pos : Pos} (hc : CallR X (.type T) r) (hm : X.mg x = none) (hv : bootBuiltins x = some (.type T)) (ha : PA X (e :: es) t) (hg : Gl X x := by rfl)
    (hn : x ≠ "__name__" := by decide) (hdb : (x == ("__debug__" : Str)) = false := by decide) (h1 : starEach (e :: es) X.env = (false, eval e X.env) :: starEach es X.env := by rfl) (h2 : (backTo pos (starEach es X.env)).any (·.1) = false := by rfl) :
    PE X (.Call (.Name x p) (e :: es) [] pos) (tCB r t) := pe_callTy hc hg hm hv ha hn hdb h1 h2
/-- a global name of the text -/
theorem pgl {x : Str} {a : Addr} {pos : Pos} (hm : X.mg x = some (.ref a)) (hg : Gl X x := by rfl) (hd : (x == ("__debug__" : Str)) = false := by decide) : PE X (.Name x pos) (tC (.ref a)) := pe_glob hg hm rfl hd
/-- x = e, x in slot i -/
theorem st (i : Nat) {x : Str} {e : Expr} {te : TE} {pos pos' : Pos} (hN : X.N.Nodup) (he : PE X e te) (hi : X.N[i]? = some x := by rfl) (hx : Loc X.env.scope x := by first | exact .inl rfl | exact .inr rfl)
    (hs : swapsWith e (some (.Name x pos')) pos.line X.env = pure false := by rfl) (hf : X.fn x = true ∨ X.env.scope.names.lookup x = some .local := by first | exact .inl rfl | exact .inr rfl) :
    PS X (.Assign [.Name x pos'] e pos) (tAsg te (gName i)) := ps_set hN hi hx he hs hf
theorem pgn (i : Nat) {x : Str} {pos : Pos} (hN : X.N.Nodup) (hi : X.N[i]? = some x := by rfl) (hx : Loc X.env.scope x := by first | exact .inl rfl | exact .inr rfl)
    (hf : X.fn x = true ∨ X.env.scope.names.lookup x = some .local := by first | exact .inl rfl | exact .inr rfl) : PG X (.Name x pos) (gName i) := pg_name hN hi hx hf
/-- a builtin class as a value -/
theorem pty {x : Str} {n : String} {pos : Pos} (hm : X.mg x = none) (hv : bootBuiltins x = some (.type n)) (hg : Gl X x := by rfl) (hn : x ≠ "__name__" := by decide) (hd : (x == ("__debug__" : Str)) = false := by decide) : PE X (.Name x pos) (tC (.ty n)) := pe_bltn hg hm hv rfl hn hd
end
end Sv

set_option maxHeartbeats 4000000
namespace Sv
open PySem PySem.Spec PyProof.Rows L2 L2H HotX LamX
/-! ### x(lambda: body), where what the body raises has no context -/
/-- the lambda's context, its exceptions told with their contexts -/
abbrev lamN (X : Cx) (A : Around) (outer : List Env) (s : Shared) (H : Hp) (E : XK) (scope : Scope) (f c' : Addr) : Cx :=
  (lamCx X A outer s H E scope f c').wish fun e s' => wpAny (model X.prog X.w) (A.deeper (lamEnv X scope s.heap.objs.size f c')) (leaving (lamEnv X scope s.heap.objs.size f c') e) (fun _ s'' => L2N.CX X.prog X.w outer H s E e s'') (fun e' s'' => L2N.CX X.prog X.w outer H s E e' s'') s'
section
variable {X : Cx} {pins : List (Addr × Obj)} {σ : L2.St} {H HZ : Hp} {s s1 : Shared}
theorem pe_actN {CXg : CXT} {Eg : XK} {Ng : List Str} {qg : Str} {sg : Scope} {g f c' : Addr} {cdg pm ctv : Value} {params : Arguments} {body : Expr} {scope : Scope} {k i : Nat} {a : Str} {pn : List (Addr × Obj)} {xe : Value → Shared → Prop} {W : WX} {E : XK} {tb : TE} {p1 p2 : Pos}
    (I : Inv X pins σ H s) (L : LamS X.env.scope scope) (hf : s.heap.get? f = some (PySem.W.kla_obj "<lambda>" (X.env.qual ++ "<lambda>") params body scope (cloFrom X.env.cells scope.names []) pm c' ctv)) (hfn : H f = none) (hfr : f ∉ frs X.stack)
    (hbind : bindArgs (PySem.W.kla_fn "<lambda>" (X.env.qual ++ "<lambda>") params body scope (cloFrom X.env.cells scope.names []) pm (.ref c') ctv) ⟨[], []⟩ = pure [])
    (tk : L2N.Takes ((cxOf CXg X.prog X.w X.K X.mg X.base Ng qg sg g cdg X.A X.stack s H Eg).tr pn xe) W) (hW : ∀ cls d (σ' : L2.St) H', σ'.length = Ng.length → E cls d H' → W cls d σ' H') (hr : Room (k + 1) (X.A.deeper (envOfC qg sg s.heap.objs.size g cdg)))
    (hbody : ∀ (A : Around) (outer : List Env) (s : Shared) (H : Hp), Room k (A.deeper (lamEnv X scope s.heap.objs.size f c')) → PE (lamN X A outer s H E scope f c') body tb)
    (hN : Ng[i]? = some a) (hv : Vis sg a) (hd : (a == ("__debug__" : Str)) = false := by decide) (hcd : (a == ("__classdict__" : Str)) = false := by decide) :
    PE ((cxOf CXg X.prog X.w X.K X.mg X.base Ng qg sg g cdg X.A X.stack s H Eg).tr pn xe) (.Call (.Name a p1) [] [] p2)
      (fun σZ HZ Q => σZ[i]? = some (some (.ref f)) ∧ HZ c' = some (CodeO c' (X.env.qual ++ "<lambda>")) ∧ tb σ HZ Q) := by
  refine ⟨fun pinsZ sZ σZ HZ Q IZ h => ?_⟩
  obtain ⟨hs, hc, ht⟩ := h
  refine wpAny_Call_Name_kw (thn ((pe_var (pos := p1) (i := i) hN hv hd hcd).run pinsZ sZ σZ HZ (fun v H1 => v = .ref f ∧ H1 = HZ) IZ ⟨.ref f, hs, rfl, rfl⟩) fun u s2 hu => ?_)
  obtain ⟨v, H1, I1, r1, ev, eH⟩ := hu
  subst ev
  rw [eH] at I1
  obtain rfl : u = Value.ref f := r1
  have of1 : s2.heap.get? f = some (PySem.W.kla_obj "<lambda>" (X.env.qual ++ "<lambda>") params body scope (cloFrom X.env.cells scope.names []) pm c' ctv) := I1.base.keep f _ hf hfn hfr (fun z => nomatch (show f ∈ ([] : List Addr) from z))
  refine PySem.W.callWith_F0 ⟨_, _, _, _, of1⟩ ?_
  have un : Un (frs X.stack) [] H HZ s.heap s2.heap := I1.base
  obtain ⟨⟨oc, vs, t, hoc, hdc, hvc⟩, _, _⟩ := I1.hok c' _ hc
  have rc : codeAny (model X.prog X.w) (X.A.deeper (envOfC qg sg s.heap.objs.size g cdg)) (.call (.ref f) ⟨[], []⟩) (CR (L2N.CX X.prog X.w) (envOfC qg sg s.heap.objs.size g cdg :: X.stack) X.prog X.w HZ s2 Q E) s2 := by
    refine PySem.W.kla_callFunE hr.depth of1 rfl L.co L.gen rfl ⟨c', oc, vs, t, rfl, hoc, hdc, hvc⟩ ?_
    rw [hbind]
    refine wpAny_pure (wpAny_newFunctionEnv (fun y hy => (L.own y hy).2) (fun y hy => absurd hy (by simp)) (fun h₁ hns hsb => ⟨I1.nolimit.fresh _ hsb, ?_⟩) L.kind)
    show codeAny _ _ (.expr body (lamEnv X scope s2.heap.objs.size f c')) _ _
    have kp : ∀ b o, s2.heap.get? b = some o → h₁.get? b = some o := fun b o e => hsb.extBut b o (Nat.ne_of_lt (Heap.lt_size e)) (Heap.get?_push_of_some _ e)
    have J0 := lam_start2 (E := E) (f := f) (c' := c') (tk := s2.toks + ([] : List (Str × Value)).length) I L I1.env0 hr.hd un hns kp
    have J : Inv (lamN X (X.A.deeper (envOfC qg sg s.heap.objs.size g cdg)) (envOfC qg sg s.heap.objs.size g cdg :: X.stack) s2 HZ E scope f c') [] σ HZ { s2 with heap := h₁, toks := s2.toks + ([] : List (Str × Value)).length } := J0.wish _
    refine PySem.W.kla_codeExpr (wpAny_mono ((hbody _ _ s2 HZ (hr.deeper _)).run [] _ _ HZ Q J ht) (fun v s' hq => ?_) fun e s' hq => hq)
    obtain ⟨w', H', J', rv, q⟩ := hq
    exact ⟨w', H', J'.os, J'.bare, J'.base, J'.hok, rv, q⟩
  refine wpAny_call (codeAny_mono rc fun r s' hq => ?_)
  cases r with
  | error e => exact tk e s' (L2N.XE.of_call I1 (fun cls d H' h => hW cls d σZ H' IZ.len h) hq)
  | ok fl =>
    cases fl with
    | ret u => exact I1.after hq
    | next => exact (show False from hq).elim
    | brk => exact (show False from hq).elim
    | cont => exact (show False from hq).elim
end
/-- the def x, called with a lambda that it calls: TT: what it makes of the lambda's reading -/
def GivesN (X : Cx) (Ng : List Str) (x : Str) (sg : Scope) (g : Addr) (cdg : Value) (bg : List Stmt) (a : Str) (q : Str) (k : Nat) (TT : (XK → Hp → VK → Prop) → Hp → VK → Prop) : Prop :=
  ∀ (f c' : Addr) (s : Shared) (H : Hp) (Q : VK) (tl : XK → Hp → VK → Prop), Room k (X.A.deeper (envOfC x sg s.heap.objs.size g cdg)) →
    (∀ (W : WX) (pn : List (Addr × Obj)) (xe : Value → Shared → Prop) (E : XK) (p1 p2 : Pos), L2N.Takes ((cxOf CX0 X.prog X.w X.K X.mg X.base Ng x sg g cdg X.A X.stack s H E0).tr pn xe) W → (∀ cls d (σ' : L2.St) H', σ'.length = Ng.length → E cls d H' → W cls d σ' H') →
      PE ((cxOf CX0 X.prog X.w X.K X.mg X.base Ng x sg g cdg X.A X.stack s H E0).tr pn xe) (.Call (.Name a p1) [] [] p2) (fun σZ HZ Q => σZ[0]? = some (some (.ref f)) ∧ HZ c' = some (CodeO c' q) ∧ tl E HZ Q)) →
    H c' = some (CodeO c' q) → TT tl H Q →
    ∃ t, PSs (cxOf CX0 X.prog X.w X.K X.mg X.base Ng x sg g cdg X.A X.stack s H E0).nox bg t ∧ t { nx := fun _ H' => Q .non H', rt := Q } (L2.start Ng [.ref f]) H
section
variable {X : Cx}
/-- x(lambda: body) -/
theorem pe_lamN {T : List (Addr × Str)} {TT : (XK → Hp → VK → Prop) → Hp → VK → Prop} {x a : Str} {c P : Addr} {k : Nat} {st : Stmt} {Ng : List Str}
    {params : Arguments} {body : Expr} {scope : Scope} {t : XK → TE} {p lpos pos : Pos} (F : Here X.K X.mg x st) (hg : Gl X x)
    (hb : ∀ (kV doc pm : Value) (an : Option Addr) (cdv ct : Value) (us : List Value), us.length = [a].length → bindArgs (PySem.W.fnOf x x (defArgs st) (defBody st) (defScope st) .none kV doc pm an cdv ct) ⟨us, []⟩ = pure ([a].zip us))
    (Sg : FnScope Ng [a] (defScope st)) (hNg : Ng[0]? = some a) (hva : Vis (defScope st) a)
    (hG : ∀ g cdv, GivesN X Ng x (defScope st) g cdv (defBody st) a (X.env.qual ++ "<lambda>") (k + 1) TT)
    (TB : TabB X.base X.mg c P) (hcode : X.env.code = .ref c) (hmT : (P, X.env.qual ++ "<lambda>") ∈ T) (hu : ∀ p ∈ T, p.1 = P → p.2 = X.env.qual ++ "<lambda>") (hr : Room (k + 2) X.A) (L : LamS X.env.scope scope) (hdef : defaultsOf params X.env = ([], []))
    (hbind : ∀ (q : Str) (cl : List (Str × Addr)) (pm cv ctv : Value), bindArgs (PySem.W.kla_fn "<lambda>" q params body scope cl pm cv ctv) ⟨[], []⟩ = pure [])
    (hbody : ∀ (A : Around) (outer : List Env) (s : Shared) (H : Hp) (E : XK) (f c' : Addr), Room k (A.deeper (lamEnv X scope s.heap.objs.size f c')) → PE (lamN X A outer s H E scope f c') body (t E))
    (hdb : (x == ("__debug__" : Str)) = false := by decide) (hd : (a == ("__debug__" : Str)) = false := by decide) (hcd : (a == ("__classdict__" : Str)) = false := by decide) :
    PE X (.Call (.Name x p) [.Lambda params body scope lpos] [] pos) (tLam T TT t) := by
  obtain ⟨g, fd, F, hm⟩ := F
  have bd := F.binds hb
  have hk := F.kp
  obtain ⟨oc, od, kV, doc, pm, an, cdv, ct, osl, rfl, lk, hcg⟩ := F.ex
  refine ⟨fun pins s σ H Q I h => ?_⟩
  obtain ⟨hT, h⟩ := h
  refine wpAny_Call_Name_kw (ld_glob I hg hm ?_ hdb)
  refine PySem.W.callWith_K (h₀ := X.base) I.ok.mod.kin hk ?_ (by rfl) (by rfl)
  show wpAny _ _ (spliced ((false, eval (.Lambda params body scope lpos) X.env) :: backTo pos (starEach [] X.env))) _ _ s
  refine Calls.spliced_cons (lam_make2 I TB hcode hmT hu hT hdef (L.has I.ok) fun f c' pm' ctv H1 s' I1 eN T1 hf hfn hfr hco => ?_)
  refine Calls.spliced_nil ⟨I1.kIn, ?_⟩
  have rc : codeAny (model X.prog X.w) X.A (.call (.ref g) ⟨[.ref f], []⟩) (CR CX0 X.stack X.prog X.w H1 s' Q E0) s' := by
    refine run_ofS (N := Ng) (ps := [a]) (us := [.ref f]) (vs := [.ref f]) lk hcg Sg hr I1.env0 (bd s' [.ref f] I1.kIn rfl) (.cons rfl .nil) rfl fun hr' => ?_
    obtain ⟨t', ht', hq'⟩ := hG g cdv f c' s' H1 Q (fun E H' Q' => t E σ H' Q') hr' (fun W pn xe E p1 p2 tk hW => pe_actN (i := 0) I1 L hf hfn hfr (hbind _ _ _ _ _) tk hW hr' (fun A outer s H hr2 => hbody A outer s H E f c' hr2) hNg hva hd hcd) hco (h H1 eN T1)
    exact ⟨t', ht'.nox, hq'⟩
  refine wpAny_call (codeAny_mono rc fun r s2 hq => ?_)
  cases r with
  | error e => exact (show False from hq).elim
  | ok fl =>
    cases fl with
    | ret u => exact I1.after hq
    | next => exact (show False from hq).elim
    | brk => exact (show False from hq).elim
    | cont => exact (show False from hq).elim
end
end Sv

set_option maxHeartbeats 4000000
namespace Sv
open PySem PySem.Spec PyProof.Rows L2 L2H HotX LamX
/-! ### the exception classes of the text -/
def excNames : List Str := ["InvalidBush", "InvalidStem", "InvalidPlayer", "InvalidStalk", "InvalidNumber", "InvalidText", "TooLarge", "NoneBetween", "NotYours", "NothingToUndo"]
def veTail : List Value := [.type "ValueError", .type "Exception", .type "BaseException", .type "object"]
/-- what is known of the class x, at C -/
structure ExcOne (K : PySem.W.Frag) (mg : Str → Option Value) (x : Str) (C : Addr) : Prop where
  g : mg x = some (.ref C)
  xi : PySem.W.excIn K C veTail "ValueError.__new__" = true
  kp : PySem.W.keepIn K (.ref C) = true
  b : PySem.W.subIn K (.ref C) (.type "BaseException") = some true
  t : PySem.W.typeIn K (.ref C) = some (.type "type")
/-- what is known of all ten, at C 0 .. C 9, and of their base at CS -/
structure Excs (K : PySem.W.Frag) (mg : Str → Option Value) (C : Nat → Addr) (CS : Addr) : Prop where
  gS : mg "StemError" = some (.ref CS)
  one : ∀ i x, excNames[i]? = some x → ExcOne K mg x (C i)
  cls : ∀ i, i < 10 → ExcC K (C i)
  apart : ∀ i j, i < 10 → j < 10 → PySem.W.kitOne K (.ref (C i)) (.ref (C j)) = some (decide (i = j))
  ve : ∀ i, i < 10 → PySem.W.kitOne K (.ref (C i)) (.type "ValueError") = some true
  stem : ∀ i, i < 10 → PySem.W.exmOne K (.ref (C i)) (.ref CS) = some true
/-- the same, to be reckoned -/
def excCB (K : PySem.W.Frag) (D : Addr) : Bool :=
  PySem.W.findIn K (.ref D) "__getattribute__" == some (some (.builtin "BaseException.__getattribute__")) && PySem.W.findIn K (.ref D) "__getattr__" == some none && PySem.W.subIn K (.ref D) (.type "BaseException") == some true &&
  PySem.W.hasDictIn K D && PySem.W.findIn K (.ref D) "__class__" == some (some (.builtin "object.__class__")) && PySem.W.specialIn K (.builtin "object.__class__") "__get__" == some (some (.builtin "getset_descriptor.__get__")) &&
  PySem.W.takesIn K (.builtin "object.__class__") == some true && PySem.W.mroIn K D (.type "object") == some true
theorem excC_of {K : PySem.W.Frag} {D : Addr} (h : excCB K D = true) : ExcC K D := by
  unfold excCB at h
  simp only [Bool.and_eq_true, beq_iff_eq] at h
  obtain ⟨⟨⟨⟨⟨⟨⟨h1, h2⟩, h3⟩, h4⟩, h5⟩, h6⟩, h7⟩, h8⟩ := h
  exact ⟨h1, h2, h3, h4, h5, h6, h7, h8⟩
def excOneB (K : PySem.W.Frag) (x : Str) (C : Addr) : Bool :=
  PySem.W.nsIn K mainGlobals x == some (some (.ref C)) && PySem.W.excIn K C veTail "ValueError.__new__" && PySem.W.keepIn K (.ref C) && PySem.W.subIn K (.ref C) (.type "BaseException") == some true && PySem.W.typeIn K (.ref C) == some (.type "type")
theorem excOne_of {K : PySem.W.Frag} {mg : Str → Option Value} {h : Heap} {x : Str} {C : Addr} (X : K.In h) (G : h.Ns mainGlobals mg) (e : excOneB K x C = true) : ExcOne K mg x C := by
  unfold excOneB at e
  simp only [Bool.and_eq_true, beq_iff_eq] at e
  obtain ⟨⟨⟨⟨h1, h2⟩, h3⟩, h4⟩, h5⟩ := e
  exact ⟨PySem.W.mg_of X G h1, h2, h3, h4, h5⟩
def excsB (K : PySem.W.Frag) (C : Nat → Addr) (CS : Addr) : Bool :=
  PySem.W.nsIn K mainGlobals "StemError" == some (some (.ref CS)) && (List.range 10).all fun i =>
    excOneB K (excNames.getD i "") (C i) && excCB K (C i) && PySem.W.kitOne K (.ref (C i)) (.type "ValueError") == some true && PySem.W.exmOne K (.ref (C i)) (.ref CS) == some true &&
      (List.range 10).all fun j => PySem.W.kitOne K (.ref (C i)) (.ref (C j)) == some (decide (i = j))
theorem excs_of {K : PySem.W.Frag} {mg : Str → Option Value} {h : Heap} {C : Nat → Addr} {CS : Addr} (X : K.In h) (G : h.Ns mainGlobals mg) (e : excsB K C CS = true) : Excs K mg C CS := by
  unfold excsB at e
  simp only [Bool.and_eq_true, beq_iff_eq, List.all_eq_true, List.mem_range] at e
  obtain ⟨h1, h2⟩ := e
  refine ⟨PySem.W.mg_of X G h1, fun i x hx => ?_, fun i hi => excC_of (h2 i hi).1.1.1.2, fun i j hi hj => (h2 i hi).2 j hj, fun i hi => (h2 i hi).1.1.2, fun i hi => (h2 i hi).1.2⟩
  have hi : i < 10 := (List.getElem?_eq_some_iff.mp hx).1
  have q := (h2 i hi).1.1.1.1
  rw [List.getD_eq_getElem?_getD, hx] at q
  exact excOne_of X G q
/-! ### raise X('..') -/
section
variable {X : Cx}
theorem ps_raiseN {x m : Str} {C : Addr} {j : Nat} {p p2 pos pos2 : Pos} {E : XK} {E₁ : Value → Shared → Prop} (hc : X.calm = true) (O : ExcOne X.K X.mg x C) (hg : Gl X x) (hs : X.stack = X.env :: X.outer) (hf : X.env.frame = some X.env.locals) (hex : X.ex = [])
    (hx : X.xe = fun e s' => wpAny (model X.prog X.w) X.A (leaving X.env e) (fun _ s'' => L2N.CX X.prog X.w X.outer X.H_0 X.s_0 E e s'') E₁ s') (hdb : (x == ("__debug__" : Str)) = false := by decide) :
    PS X (.Raise (some (.Call (.Name x p) [.Constant (.str m) j p2] [] pos)) none pos2) (fun _ _ H => E (.ref C) none H) :=
  L2N.ps_raise hc (L2N.takes_of hs hf hex hx) (L2N.pmk_own PySem.F.excBase_ValueError O.xi O.g O.kp (raises_own O.b O.t) hg hdb)
end
/-! ### what _law_term finds -/
def flagsOf (i : Nat) : List Bool := (List.range 10).map fun j => decide (i = j)
theorem flags_sum {i : Nat} (h : i < 10) : ((flagsOf i).map fun b => if b then (1 : Int) else 0).sum = 1 := by
  have : ∀ i, i < 10 → ((flagsOf i).map fun b => if b then (1 : Int) else 0).sum = 1 := by decide
  exact this i h
theorem flags_at {i : Nat} (h : i < 10) : ((flagsOf i).map V.bl)[i]? = some (.bl true) := by
  have : ∀ i, i < 10 → ((flagsOf i).map V.bl)[i]? = some (.bl true) := by decide
  exact this i h
theorem flags_ne {i m : Nat} {z : V} (h : m < i) (hz : ((flagsOf i).map V.bl)[m]? = some z) : eqV z (.bl true) = false := by
  unfold flagsOf at hz
  rw [List.map_map, List.getElem?_map] at hz
  cases e : (List.range 10)[m]? with
  | none => rw [e] at hz; cases hz
  | some j =>
    rw [e] at hz
    have hj : j = m := by
      rw [List.getElem?_range] at e
      · exact (Option.some.inj e).symm
      · exact (by have := (List.getElem?_eq_some_iff.mp e).1; simpa using this)
    subst hj
    have q := Option.some.inj hz
    subst q
    have : ¬ i = j := by omega
    show eqV (V.bl (decide (i = j))) (.bl true) = false
    rw [decide_eq_false this]
    rfl
theorem flags_flat (i : Nat) : ((flagsOf i).map V.bl).all flatV = true := by
  rw [List.all_map]
  exact List.all_eq_true.mpr fun _ _ => rfl
/-- what _law_term tells of the exception at a, of the i-th class -/
def spTerm (a : Addr) (i : Nat) : Sp := fun vs H Q _ => vs = [.ref a] ∧ ∀ H' p, Same H H' → H p = none → H' p = some (.tup [.str "error", .str (excNames.getD i "")]) → Q (.ref p) H'
/-- told: the lambda's result, or the name of its exception -/
def TTerm (C : Nat → Addr) : (XK → Hp → VK → Prop) → Hp → VK → Prop := fun tl H Q =>
  tl (fun cls d H' => d = none ∧ ∃ i, i < 10 ∧ cls = .ref (C i) ∧ ∀ H'' p, Same H' H'' → H' p = none → H'' p = some (.tup [.str "error", .str (excNames.getD i "")]) → Q (.ref p) H'') H Q
end Sv

set_option maxHeartbeats 4000000
namespace Sv
open PySem PySem.Spec PyProof.Rows L2 L2H HotX LamX
/-! ### data that never changes: None, ints, texts, tuples of these -/
mutual
def pl : PyData → Bool
  | .none => true
  | .int _ => true
  | .str x => PyData.strOk x
  | .tuple xs => plAll xs
  | .bool _ => false
  | .list _ => false
  | .dict _ => false
def plAll : List PyData → Bool
  | [] => true
  | x :: xs => pl x && plAll xs
end
mutual
theorem canLay_pl : ∀ d : PyData, pl d = true → d.canLay0 = true
  | .none, _ => rfl
  | .int _, _ => rfl
  | .str x, h => h
  | .tuple xs, h => by rw [PyData.canLay0]; exact canLayAll_pl xs (by rw [pl] at h; exact h)
  | .bool _, h => by rw [pl] at h; cases h
  | .list _, h => by rw [pl] at h; cases h
  | .dict _, h => by rw [pl] at h; cases h
theorem canLayAll_pl : ∀ xs : List PyData, plAll xs = true → PyData.canLayAll0 xs = true
  | [], _ => rfl
  | x :: xs, h => by
    rw [plAll, Bool.and_eq_true] at h
    rw [PyData.canLayAll0, canLay_pl x h.1, canLayAll_pl xs h.2]; rfl
end
mutual
theorem eqv_eq : ∀ d e : PyData, pl d = true → pl e = true → PyData.eqv d e = true → d = e
  | .none, e, _, h2, h => by cases e <;> first | rfl | (rw [PyData.eqv] at h; cases h)
  | .int i, e, _, h2, h => by
    cases e with
    | int j => rw [PyData.eqv] at h; rw [beq_iff_eq.mp h]
    | bool b => rw [pl] at h2; cases h2
    | _ => rw [PyData.eqv] at h; cases h
  | .str x, e, _, h2, h => by
    cases e with
    | str y => rw [PyData.eqv] at h; rw [beq_iff_eq.mp h]
    | _ => rw [PyData.eqv] at h; cases h
  | .tuple xs, e, h1, h2, h => by
    cases e with
    | tuple ys => rw [PyData.eqv] at h; rw [pl] at h1 h2; rw [eqvAll_eq xs ys h1 h2 h]
    | _ => rw [PyData.eqv] at h; cases h
  | .bool _, _, h1, _, _ => by rw [pl] at h1; cases h1
  | .list _, _, h1, _, _ => by rw [pl] at h1; cases h1
  | .dict _, _, h1, _, _ => by rw [pl] at h1; cases h1
theorem eqvAll_eq : ∀ xs ys : List PyData, plAll xs = true → plAll ys = true → PyData.eqvAll xs ys = true → xs = ys
  | [], [], _, _, _ => rfl
  | [], _ :: _, _, _, h => by rw [PyData.eqvAll] at h; cases h
  | _ :: _, [], _, _, h => by rw [PyData.eqvAll] at h; cases h
  | x :: xs, y :: ys, h1, h2, h => by
    rw [plAll, Bool.and_eq_true] at h1 h2
    rw [PyData.eqvAll, Bool.and_eq_true] at h
    rw [eqv_eq x y h1.1 h2.1 h.1, eqvAll_eq xs ys h1.2 h2.2 h.2]
end
theorem eqv_same {d : PyData} (h : pl d = true) : PyData.eqv d d = true := SeqAt.eqv_refl d (canLay_pl d h)
theorem eqv_ne {d e : PyData} (h1 : pl d = true) (h2 : pl e = true) (h : d ≠ e) : PyData.eqv d e = false := by
  cases q : PyData.eqv d e with
  | false => rfl
  | true => exact absurd (eqv_eq d e h1 h2 q) h
theorem shaped_of {d : PyData} (h : pl d = true) (hd : d.depth ≤ 64) : SeqAt.shaped d = true := by
  unfold SeqAt.shaped
  rw [canLay_pl d h, decide_eq_true hd]
  rfl
/-! ### where data stands -/
/-- what a step may change: not the tuples, not what is locked -/
structure Ext (H H' : Hp) : Prop where
  tup : ∀ b xs, H b = some (.tup xs) → H' b = some (.tup xs)
  frz : ∀ b o u, H b = some (.frz o u) → H' b = some (.frz o u)
theorem Same.ext {H H' : Hp} (s : Same H H') : Ext H H' := ⟨fun b xs e => s b _ e, fun b o u e => s b _ e⟩
theorem Ext.refl (H : Hp) : Ext H H := ⟨fun _ _ e => e, fun _ _ _ e => e⟩
theorem Ext.trans {H H1 H2 : Hp} (a : Ext H H1) (b : Ext H1 H2) : Ext H H2 := ⟨fun c xs e => b.tup c xs (a.tup c xs e), fun c o u e => b.frz c o u (a.frz c o u e)⟩
/-- a list (or a dict ..) is written -/
theorem Ext.wr {H : Hp} {a : Addr} {u o : HO} (e : H a = some u) (h1 : ∀ xs, u ≠ .tup xs) (h2 : ∀ o x, u ≠ .frz o x) : Ext H (upd H a o) :=
  ⟨fun b xs q => by rw [upd_ne (fun z => by rw [z, e] at q; exact h1 xs (Option.some.inj q))]; exact q, fun b ob x q => by rw [upd_ne (fun z => by rw [z, e] at q; exact h2 ob x (Option.some.inj q))]; exact q⟩
theorem Ext.lst {H : Hp} {a : Addr} {xs : List V} {o : HO} (e : H a = some (.lst xs)) : Ext H (upd H a o) := Ext.wr e (fun _ z => nomatch z) (fun _ _ z => nomatch z)
theorem Ext.sqT {K : PySem.W.Frag} {H H' : Hp} (x : Ext H H') {a : Addr} {xs : List V} (h : SqT K H a xs) : SqT K H' a xs := by
  rcases h with (h | ⟨o, h⟩) | h
  · exact .inl (.inl (x.tup _ _ h))
  · exact .inl (.inr ⟨o, x.frz _ _ _ h⟩)
  · exact .inr h
mutual
theorem dp_ext {K : PySem.W.Frag} {H H' : Hp} (x : Ext H H') : ∀ (d : PyData) (v : V), pl d = true → Dp K H v d → Dp K H' v d
  | .none, _, _, h => by cases h; exact .non
  | .int i, _, _, h => by cases h; exact .int i
  | .str z, _, _, h => by cases h; exact .str z
  | .tuple ds, _, hp, h => by
    rw [pl] at hp
    cases h with
    | tup s t => exact .tup (x.sqT s) (dpAll_ext x ds _ hp t)
  | .bool _, _, hp, _ => by rw [pl] at hp; cases hp
  | .list _, _, hp, _ => by rw [pl] at hp; cases hp
  | .dict _, _, hp, _ => by rw [pl] at hp; cases hp
theorem dpAll_ext {K : PySem.W.Frag} {H H' : Hp} (x : Ext H H') : ∀ (ds : List PyData) (vs : List V), plAll ds = true → DpAll K H vs ds → DpAll K H' vs ds
  | [], _, _, h => by cases h; exact .nil
  | d :: ds, _, hp, h => by
    rw [plAll, Bool.and_eq_true] at hp
    cases h with
    | cons a t => exact .cons (dp_ext x d _ hp.1 a) (dpAll_ext x ds _ hp.2 t)
end
/-- the data d stands at v -/
def At (K : PySem.W.Frag) (H : Hp) (v : V) (d : PyData) : Prop := pl d = true ∧ Dp K H v d
theorem At.ext {K : PySem.W.Frag} {H H' : Hp} {v : V} {d : PyData} (h : At K H v d) (x : Ext H H') : At K H' v d := ⟨h.1, dp_ext x _ _ h.1 h.2⟩
theorem At.same {K : PySem.W.Frag} {H H' : Hp} {v : V} {d : PyData} (h : At K H v d) (x : Same H H') : At K H' v d := h.ext (Same.ext x)
def AtAll (K : PySem.W.Frag) (H : Hp) (vs : List V) (ds : List PyData) : Prop := plAll ds = true ∧ DpAll K H vs ds
theorem AtAll.ext {K : PySem.W.Frag} {H H' : Hp} {vs : List V} {ds : List PyData} (h : AtAll K H vs ds) (x : Ext H H') : AtAll K H' vs ds := ⟨h.1, dpAll_ext x _ _ h.1 h.2⟩
theorem AtAll.nil {K : PySem.W.Frag} {H : Hp} : AtAll K H [] [] := ⟨rfl, .nil⟩
theorem AtAll.cons {K : PySem.W.Frag} {H : Hp} {v : V} {vs : List V} {d : PyData} {ds : List PyData} (a : At K H v d) (b : AtAll K H vs ds) : AtAll K H (v :: vs) (d :: ds) := ⟨by rw [plAll, a.1, b.1]; rfl, .cons a.2 b.2⟩
theorem AtAll.len {K : PySem.W.Frag} {H : Hp} : ∀ {vs : List V} {ds : List PyData}, DpAll K H vs ds → vs.length = ds.length
  | _, _, .nil => rfl
  | _, _, .cons _ t => by rw [List.length_cons, List.length_cons, AtAll.len t]
theorem AtAll.snoc {K : PySem.W.Frag} {H : Hp} {v : V} {d : PyData} (a : At K H v d) : ∀ {vs : List V} {ds : List PyData}, AtAll K H vs ds → AtAll K H (vs ++ [v]) (ds ++ [d])
  | _, _, ⟨h, .nil⟩ => AtAll.cons a AtAll.nil
  | _, _, ⟨h, .cons x t⟩ => by
    rw [plAll, Bool.and_eq_true] at h
    exact AtAll.cons ⟨h.1, x⟩ (AtAll.snoc a ⟨h.2, t⟩)
theorem AtAll.append {K : PySem.W.Frag} {H : Hp} {us : List V} {es : List PyData} (a : AtAll K H us es) : ∀ {vs : List V} {ds : List PyData}, AtAll K H vs ds → AtAll K H (vs ++ us) (ds ++ es)
  | _, _, ⟨h, .nil⟩ => a
  | _, _, ⟨h, .cons x t⟩ => by
    rw [plAll, Bool.and_eq_true] at h
    exact AtAll.cons ⟨h.1, x⟩ (AtAll.append a ⟨h.2, t⟩)
theorem AtAll.get {K : PySem.W.Frag} {H : Hp} : ∀ {vs : List V} {ds : List PyData} {i : Nat} {v : V}, AtAll K H vs ds → vs[i]? = some v → ∃ d, ds[i]? = some d ∧ At K H v d
  | _, _, _, _, ⟨h, .nil⟩, e => by simp at e
  | _, _, 0, _, ⟨h, .cons x t⟩, e => by
    rw [plAll, Bool.and_eq_true] at h
    simp at e; subst e
    exact ⟨_, rfl, h.1, x⟩
  | _, _, i + 1, v, ⟨h, .cons x t⟩, e => by
    rw [plAll, Bool.and_eq_true] at h
    exact AtAll.get (i := i) ⟨h.2, t⟩ (by simpa using e)
theorem AtAll.get' {K : PySem.W.Frag} {H : Hp} {vs : List V} {ds : List PyData} {i : Nat} {d : PyData} (a : AtAll K H vs ds) (e : ds[i]? = some d) : ∃ v, vs[i]? = some v ∧ At K H v d := by
  have hl := AtAll.len a.2
  have hi := (List.getElem?_eq_some_iff.mp e).1
  cases q : vs[i]? with
  | none => exact absurd (List.getElem?_eq_none_iff.mp q) (by omega)
  | some v =>
    obtain ⟨d', e', h⟩ := a.get q
    rw [e] at e'; cases e'
    exact ⟨v, rfl, h⟩
theorem At.int {K : PySem.W.Frag} {H : Hp} (i : Int) : At K H (.int i) (.int i) := ⟨rfl, .int i⟩
theorem At.non {K : PySem.W.Frag} {H : Hp} : At K H .non .none := ⟨rfl, .non⟩
theorem At.str {K : PySem.W.Frag} {H : Hp} {x : Str} (h : PyData.strOk x = true) : At K H (.str x) (.str x) := ⟨h, .str x⟩
theorem At.tup {K : PySem.W.Frag} {H : Hp} {a : Addr} {vs : List V} {ds : List PyData} (h : SqT K H a vs) (d : AtAll K H vs ds) : At K H (.ref a) (.tuple ds) := ⟨by rw [pl]; exact d.1, .tup h d.2⟩
theorem At.tupO {K : PySem.W.Frag} {H : Hp} {a : Addr} {vs : List V} {ds : List PyData} (h : H a = some (.tup vs)) (d : AtAll K H vs ds) : At K H (.ref a) (.tuple ds) := At.tup (SqT.of h) d
/-- what a tuple's data says -/
theorem At.inv {K : PySem.W.Frag} {H : Hp} {v : V} {ds : List PyData} (h : At K H v (.tuple ds)) : ∃ a vs, v = .ref a ∧ SqT K H a vs ∧ AtAll K H vs ds := by
  obtain ⟨h1, h2⟩ := h
  rw [pl] at h1
  cases h2 with
  | tup s d => exact ⟨_, _, rfl, s, h1, d⟩
theorem At.inv_int {K : PySem.W.Frag} {H : Hp} {v : V} {i : Int} (h : At K H v (.int i)) : v = .int i := by
  obtain ⟨_, h2⟩ := h
  cases h2; rfl
theorem At.inv_str {K : PySem.W.Frag} {H : Hp} {v : V} {i : Str} (h : At K H v (.str i)) : v = .str i := by
  obtain ⟨_, h2⟩ := h
  cases h2; rfl
theorem At.inv_none {K : PySem.W.Frag} {H : Hp} {v : V} (h : At K H v .none) : v = .non := by
  obtain ⟨_, h2⟩ := h
  cases h2; rfl
/-! ### any data -/
mutual
theorem dp_same {K : PySem.W.Frag} {H H' : Hp} (x : Same H H') : ∀ (d : PyData) (v : V), Dp K H v d → Dp K H' v d
  | .none, _, h => by cases h; exact .non
  | .int i, _, h => by cases h; exact .int i
  | .str z, _, h => by cases h; exact .str z
  | .bool z, _, h => by cases h; exact .bl z
  | .tuple ds, _, h => by
    cases h with
    | tup s t => exact .tup ((Same.ext x).sqT s) (dpAll_same x ds _ t)
  | .list ds, _, h => by
    cases h with
    | lst s t => exact .lst (x.seq s) (dpAll_same x ds _ t)
  | .dict _, _, h => by cases h
theorem dpAll_same {K : PySem.W.Frag} {H H' : Hp} (x : Same H H') : ∀ (ds : List PyData) (vs : List V), DpAll K H vs ds → DpAll K H' vs ds
  | [], _, h => by cases h; exact .nil
  | d :: ds, _, h => by
    cases h with
    | cons a t => exact .cons (dp_same x d _ a) (dpAll_same x ds _ t)
end
theorem dpAll_get {K : PySem.W.Frag} {H : Hp} : ∀ {vs : List V} {ds : List PyData} {i : Nat} {d : PyData}, DpAll K H vs ds → ds[i]? = some d → ∃ v, vs[i]? = some v ∧ Dp K H v d
  | _, _, _, _, .nil, e => by simp at e
  | _, _, 0, _, .cons x t, e => by simp at e; subst e; exact ⟨_, rfl, x⟩
  | _, _, i + 1, d, .cons x t, e => by
    obtain ⟨v, h1, h2⟩ := dpAll_get (i := i) t (by simpa using e)
    exact ⟨v, by simpa using h1, h2⟩
/-- the class of a piece of data -/
def tyD : PyData → String
  | .none => "NoneType"
  | .bool _ => "bool"
  | .int _ => "int"
  | .str _ => "str"
  | .list _ => "list"
  | .tuple _ => "tuple"
  | .dict _ => "dict"
theorem sqT_ty {K : PySem.W.Frag} {H : Hp} {a : Addr} {xs : List V} (h : SqT K H a xs) : TyX K H (.ref a) (.type "tuple") := by
  rcases h with (h | ⟨o, h⟩) | ⟨o, its, n, h1, h2, _⟩
  · exact .base (.tup h)
  · exact .fTuple h
  · exact .kTuple h1 h2
theorem sqL_ty {K : PySem.W.Frag} {H : Hp} {a : Addr} {xs : List V} (h : SqL K H a xs) : TyX K H (.ref a) (.type "list") := by
  rcases h with (h | ⟨o, h⟩) | ⟨o, its, n, h1, h2, _⟩
  · exact .base (.lst h)
  · exact .base (.frz h)
  · exact .kList h1 h2
theorem tyX_of {K : PySem.W.Frag} {H : Hp} {v : V} {d : PyData} (h : Dp K H v d) : TyX K H v (.type (tyD d)) := by
  cases h with
  | non => exact .base .non
  | bl b => exact .base (.bl b)
  | int i => exact .base (.int i)
  | str x => exact .base (.str x)
  | lst s _ => exact sqL_ty s
  | tup s _ => exact sqT_ty s
def isKind (d : PyData) (T : String) : Bool := (tyD d == T) || (tyD d == "bool" && T == "int")
theorem kit_int (d : PyData) (h : ∀ x, d ≠ .dict x) : kitB (tyD d) "int" = some (isKind d "int") := by cases d <;> first | (exact absurd rfl (h _)) | (simp only [tyD, isKind]; decide +kernel)
theorem kit_bool (d : PyData) (h : ∀ x, d ≠ .dict x) : kitB (tyD d) "bool" = some (isKind d "bool") := by cases d <;> first | (exact absurd rfl (h _)) | (simp only [tyD, isKind]; decide +kernel)
theorem kit_str (d : PyData) (h : ∀ x, d ≠ .dict x) : kitB (tyD d) "str" = some (isKind d "str") := by cases d <;> first | (exact absurd rfl (h _)) | (simp only [tyD, isKind]; decide +kernel)
theorem kit_tuple (d : PyData) (h : ∀ x, d ≠ .dict x) : kitB (tyD d) "tuple" = some (isKind d "tuple") := by cases d <;> first | (exact absurd rfl (h _)) | (simp only [tyD, isKind]; decide +kernel)
theorem dp_nodict {K : PySem.W.Frag} {H : Hp} {v : V} {d : PyData} (h : Dp K H v d) : ∀ x, d ≠ .dict x := fun x e => by subst e; cases h
section
variable {X : Cx}
/-- isinstance(x, T), T one of int, bool, str, tuple -/
def rIsD (K : PySem.W.Frag) : List V → Hp → VK → Prop := fun xs H Q => ∃ x T d, xs = [x, .ty T] ∧ Dp K H x d ∧ (T = "int" ∨ T = "bool" ∨ T = "str" ∨ T = "tuple") ∧ Q (.bl (isKind d T)) H
theorem call_isD : CallR X (.builtin "isinstance") (rIsD X.K) := CallR.imp call_isi fun xs H Q h => by
  obtain ⟨x, T, d, e, hd, ht, q⟩ := h
  refine ⟨x, .ty T, .type (tyD d), .type T, isKind d T, e, .ty T, tyX_of hd, kit_ty ?_, q⟩
  rcases ht with rfl | rfl | rfl | rfl
  · exact kit_int d (dp_nodict hd)
  · exact kit_bool d (dp_nodict hd)
  · exact kit_str d (dp_nodict hd)
  · exact kit_tuple d (dp_nodict hd)
end
/-! ### == of such data -/
section
variable {X : Cx}
def rEqA (K : PySem.W.Frag) : R2 := fun x y H Q => ∃ d e, At K H x d ∧ At K H y e ∧ d.depth ≤ 64 ∧ e.depth ≤ 64 ∧ (d = e → Q (.bl true) H) ∧ (d ≠ e → Q (.bl false) H)
def rNeA (K : PySem.W.Frag) : R2 := fun x y H Q => ∃ d e, At K H x d ∧ At K H y e ∧ d.depth ≤ 64 ∧ e.depth ≤ 64 ∧ (d = e → Q (.bl false) H) ∧ (d ≠ e → Q (.bl true) H)
theorem op_eqA (hu : X.A.units + 64 < cLine) : OpR X (compareOp .Eq) (rEqA X.K) := OpR.imp (op_eqD hu) fun x y H Q h => by
  obtain ⟨d, e, h1, h2, h3, h4, q1, q2⟩ := h
  refine ⟨d, e, h1.2, h2.2, shaped_of h1.1 h3, shaped_of h2.1 h4, ?_⟩
  by_cases he : d = e
  · subst he; rw [eqv_same h1.1]; exact q1 rfl
  · rw [eqv_ne h1.1 h2.1 he]; exact q2 he
theorem op_neA (hu : X.A.units + 64 < cLine) : OpR X (compareOp .NotEq) (rNeA X.K) := OpR.imp (op_neD hu) fun x y H Q h => by
  obtain ⟨d, e, h1, h2, h3, h4, q1, q2⟩ := h
  refine ⟨d, e, h1.2, h2.2, shaped_of h1.1 h3, shaped_of h2.1 h4, ?_⟩
  by_cases he : d = e
  · subst he; rw [eqv_same h1.1]; exact q1 rfl
  · rw [eqv_ne h1.1 h2.1 he]; exact q2 he
end
end Sv

set_option maxHeartbeats 4000000
namespace Sv
open PySem PySem.Spec PyProof.Rows L2 L2H HotX LamX
/-! ### comprehensions by what holds of the list so far -/
/-- how the heap may go on from H1: T; the places that are free at H1 stay as the comprehension has them -/
structure Goes1 (H1 : Hp) (T : Hp → Hp → Prop) : Prop where
  refl : ∀ H, T H1 H → T H H
  rf0 : T H1 H1
  trans : ∀ H H', T H1 H → T H H' → T H1 H'
  put : ∀ D H zs, H1 D = none → T H1 H → T H1 (upd H D (.lst zs))
  keep : ∀ D H H' o, H1 D = none → T H1 H → T H H' → H D = some o → H' D = some o
theorem goes_same (H1 : Hp) : Goes1 H1 Same where
  refl := fun H _ => Same.refl H
  rf0 := Same.refl H1
  trans := fun H H' a b => Same.trans a b
  put := fun D H zs n a b o e => by rw [upd_ne (ne_of_none e n)]; exact a b o e
  keep := fun D H H' o _ _ t e => t D o e
section
variable {J : It} {n : Nat} {G : Hp → Prop} {Y : Nat → Hp → V → Hp → Prop}
theorem lc_J (w : Walk J n G Y) {g : TG} {tt : TT} {te : TE} {vs : List Nat} {σ : L2.St} {H1 : Hp} {Q : Addr → Hp → Prop} (T : Hp → Hp → Prop) (R : Addr → Nat → List V → Hp → Prop) (hT : Goes1 H1 T) (hn : n < sizeLine)
    (hG : ∀ H, T H1 H → G H) (h0 : ∀ D, H1 D = none → R D 0 [] H1) (hR : ∀ D i ys H H', H1 D = none → Ext H H' → (∀ b o, b ≠ D → H b = some o → H' b = some o) → R D i ys H → R D i ys H')
    (step : ∀ D (E : V → Hp → Prop) (E0 : Hp → Prop) i x ys H H', H1 D = none → H D = some (.lst ys) → i < n → T H1 H → R D i ys H → Y i H x H' → (∀ y H4, T H H4 → R D (i + 1) (ys ++ [y]) H4 → E y H4) → (∀ H3, T H H3 → R D (i + 1) ys H3 → E0 H3) →
      g x (wipe σ vs) H' fun σ2 H2 => wipe σ2 vs = wipe σ vs ∧ tt σ2 H2 fun b H3 => if b = true then te σ2 H3 E else E0 H3)
    (fin : ∀ D H ys, H1 D = none → T H1 H → H D = some (.lst ys) → ys.length ≤ n → R D n ys H → Q D H) :
    ∀ D, H1 D = none → ∃ W : Nat → Nat → Hp → Prop, (∃ m, W 0 m (upd H1 D (.lst []))) ∧ ∀ i m H, W i m H →
      (J.stop i H ∧ Q D H) ∨ (J.go i H ∧ ∃ Nx : Hp → Prop, (∀ H', Nx H' → ∃ m', m' < m ∧ W (i + 1) m' H') ∧ ∀ x H', J.yld i H x H' → g x (wipe σ vs) H' fun σ2 H2 => wipe σ2 vs = wipe σ vs ∧ tt σ2 H2 fun b H3 =>
        if b = true then te σ2 H3 fun y H4 => ∃ acc, H4 D = some (.lst acc) ∧ acc.length < sizeLine ∧ Nx (upd H4 D (.lst (acc ++ [y]))) else Nx H3) := by
  intro D hD
  have other : ∀ {H : Hp} {o : HO} (b : Addr) (u : HO), b ≠ D → H b = some u → upd H D o b = some u := fun b u hb e => by rw [upd_ne hb]; exact e
  refine lc_it w (Qd := fun H => Q D H) (fun i H => T H1 H ∧ ∃ ys, H D = some (.lst ys) ∧ ys.length ≤ i ∧ R D i ys H) ⟨hT.put D H1 [] hD hT.rf0, [], upd_same, Nat.le_refl _, hR _ _ _ _ _ hD (Same.ext (same_new hD)) other (h0 D hD)⟩ (fun i H _ h => hG H h.1) ?_ ?_
  · rintro i x H H' hi ⟨t, ys, eD, hl, r⟩ y
    refine step D _ _ i x ys H H' hD eD hi t r y (fun v H4 t4 r4 => ?_) fun H3 t3 r3 => ?_
    · have e4 := hT.keep D _ _ _ hD t t4 eD
      exact ⟨ys, e4, by omega, hT.put D _ _ hD (hT.trans _ _ t t4), ys ++ [v], upd_same, by rw [List.length_append, List.length_singleton]; omega, hR _ _ _ _ _ hD (Ext.lst e4) other r4⟩
    · exact ⟨hT.trans _ _ t t3, ys, hT.keep D _ _ _ hD t t3 eD, by omega, r3⟩
  · rintro H ⟨t, ys, eD, hl, r⟩
    exact fin D H ys hD t eD hl r
end
end Sv

set_option maxHeartbeats 4000000
namespace Sv
open PySem PySem.Spec PyProof.Rows L2 L2H HotX LamX
/-! ### min of a list of pairs of ints -/
section
variable {prog : Program} {w : World} {A : Around} {R : Result → Shared → Prop} {I : Addr} {n : Nat} {P : Nat → Value → Prop} {fp wr : List Addr} {St : Nat → Heap → Prop}
/-- how two of the items compare in every state that bears what h0 bears, but for the iterator and the place S -/
def CmpIn (prog : Program) (w : World) (A : Around) (P : Nat → Value → Prop) (bt : Nat → Nat → Bool) (wr : List Addr) (S : Addr) (h0 : Heap) : Prop :=
  ∀ i j vi vj (s : Shared) (Q : Value → Shared → Prop) (E : Value → Shared → Prop), P i vi → P j vj → (∀ b o, b ∉ wr → b ≠ S → h0.get? b = some o → s.heap.get? b = some o) → Q (.bool (bt i j)) s → wpAny (model prog w) A (richCompare .Lt vi vj) Q E s
theorem min_name : (toString "min" ++ toString ".loop" : String) = "min.loop" := by decide
theorem min_on (W : Walks prog w A.in1 I fp wr n P St) (bt : Nat → Nat → Bool) (S : Addr) (h0 : Heap) (hcmp : CmpIn prog w A.in1 P bt wr S h0) (hSf : S ∉ fp) :
    ∀ (k j : Nat) (s : Shared) (vb : Value) (c : Nat), n - (j + 1) = k → j + 1 ≤ n → St (j + 1) s.heap → P (argBest bt j) vb →
    s.heap.get? S = some { cls := .type "list", dict := none, data := .seq #[vb, vb] c, slots := #[] } → (∀ b o, b ∉ wr → b ≠ S → h0.get? b = some o → s.heap.get? b = some o) →
    (∀ v h' tk, P (argBest bt (n - 1)) v → (∀ b o, b ∉ wr → b ≠ S → h0.get? b = some o → h'.get? b = some o) → R (.ok (.ret v)) { s with heap := h', toks := tk }) →
    codeAny (model prog w) A (.builtin "min.loop" ⟨[.ref I, .none, .ref S], []⟩) R s := by
  have hSw : S ∉ wr := fun h => hSf (W.sub _ h)
  intro k
  induction k with
  | zero =>
    intro j s vb c hk hj hst hPb hS k0 hR
    obtain rfl : n = j + 1 := by omega
    refine codeAny_builtin F.entry_min_loop ?_
    rw [Around.under_plainId F.plain_min_loop _]
    refine (show wpAny _ A.in1 (seqItems? (.ref S) >>= _) _ _ s from wpAny_bind (wpAny_seqItems hS rfl ?_))
    refine (show wpAny _ A.in1 (tryCatch (pyNext (.ref I)) _ >>= _) _ _ s from wpAny_bind (wpAny_tryCatch (W.done s _ _ hst fun h' tk hk' => ?_)))
    refine (show wpAny _ A.in1 (updateSeq S (fun _ => #[]) >>= _) _ _ _ from wpAny_bind ?_)
    refine wpAny_updateSeq (hk' S _ hSw hS) rfl (wpAny_bind (wpAny_letGo (wpAny_pure ?_)))
    exact hR vb _ tk hPb fun b o hbw hbS e => (Heap.get?_update_other _ _ (Ne.symm hbS)).trans (hk' b o hbw (k0 b o hbw hbS e))
  | succ k ih =>
    intro j s vb c hk hj hst hPb hS k0 hR
    have hlt : j + 1 < n := by omega
    refine codeAny_builtin F.entry_min_loop ?_
    rw [Around.under_plainId F.plain_min_loop _]
    refine (show wpAny _ A.in1 (seqItems? (.ref S) >>= _) _ _ s from wpAny_bind (wpAny_seqItems hS rfl ?_))
    refine (show wpAny _ A.in1 (tryCatch (pyNext (.ref I)) _ >>= _) _ _ s from wpAny_bind (wpAny_tryCatch (W.item (j + 1) s _ _ hlt hst fun v h' tk hP hst' hk' => ?_)))
    have hS' := hk' S _ hSw hS
    have k1 : ∀ b o, b ∉ wr → b ≠ S → h0.get? b = some o → h'.get? b = some o := fun b o hbw hbS e => hk' b o hbw (k0 b o hbw hbS e)
    refine (show wpAny _ A.in1 (tryCatch (holding [v, v] (richCompare .Lt v vb >>= _)) _ >>= _) _ _ _ from
      wpAny_bind (wpAny_tryCatch (wpAny_holding (wpAny_bind (hcmp (j + 1) (argBest bt j) v vb _ _ _ hP hPb k1 ?_)))))
    refine wpAny_bind (wpAny_holding (wpAny_truthy_bool (wpAny_bind (wpAny_letGo (wpAny_pure ?_)))))
    cases hb : bt (j + 1) (argBest bt j) with
    | true =>
      simp only [if_true]
      refine wpAny_bind (wpAny_updateSeq hS' rfl (wpAny_bind (wpAny_letGo ?_)))
      rw [min_name]
      refine wpAny_pure ⟨plainId_quiet F.plain_min_loop _, ih (j + 1) _ v _ (by omega) hlt (W.frame _ _ _ hst' fun b hbf o e => ?_) (by simp only [argBest, hb, if_true]; exact hP) (Heap.get?_update_self _ hS' rfl) (fun b o hbw hbS e => ?_)
        fun v' h'' tk'' hP' hk'' => hR v' h'' tk'' hP' hk''⟩
      · exact (Heap.get?_update_other _ _ (fun h : S = b => hSf (by rw [h]; exact hbf))).trans e
      · exact (Heap.get?_update_other _ _ (Ne.symm hbS)).trans (k1 b o hbw hbS e)
    | false =>
      simp only [Bool.false_eq_true, if_false]
      refine wpAny_bind (wpAny_letGo ?_)
      rw [min_name]
      exact wpAny_pure ⟨plainId_quiet F.plain_min_loop _, ih (j + 1) _ vb c (by omega) hlt hst' (by simp only [argBest, hb, Bool.false_eq_true, if_false]; exact hPb) hS' k1 fun v' h'' tk'' hP' hk'' => hR v' h'' tk'' hP' hk''⟩
end
section
variable {prog : Program} {w : World} {A : Around} {E : Value → Shared → Prop} {s : Shared}
theorem call_min_in {x : Value} {Q : Value → Shared → Prop}
    (h : wpAny (model prog w) A.in1 (pyIter x) (fun it s₂ => ∃ I fp wr n P St bt, it = .ref I ∧ Walks prog w A.in1 I fp wr n P St ∧ St 0 s₂.heap ∧ (∀ b ∈ fp, b < s₂.heap.objs.size) ∧ 0 < n ∧ CmpIn prog w A.in1 P bt wr s₂.heap.objs.size s₂.heap ∧
      ∀ v h' tk, P (argBest bt (n - 1)) v → (∀ b o, b ∉ wr → s₂.heap.get? b = some o → h'.get? b = some o) → Q v { s₂ with heap := h', toks := tk }) E s) :
    wpAny (model prog w) A (call (.builtin "min") [x]) Q E s := by
  refine call_function_tree F.kind_min F.plain_min F.entry_min (F.args_min1 _) ?_
  refine (show wpAny _ A.in1 (Builtin.Builtins.bindParams "min" ["key", "default"] 0 ⟨[], []⟩ >>= _) _ _ s from wpAny_bind (wpAny_of_eq (a := [none, none]) rfl (wpAny_bind (wpAny_pure ?_))))
  refine wpAny_bind (wpAny_mono h (fun it s₂ h₂ => ?_) fun _ _ e => e)
  obtain ⟨I, fp, wr, n, P, St, bt, rfl, W, hst, hfp, hn, hcmp, hQ⟩ := h₂
  refine wpAny_bind (wpAny_newObj_type ?_)
  have hSf : s₂.heap.objs.size ∉ fp := fun hm => Nat.lt_irrefl _ (hfp _ hm)
  have hSw : s₂.heap.objs.size ∉ wr := fun h => hSf (W.sub _ h)
  rw [min_name]
  refine wpAny_pure ⟨plainId_quiet F.plain_min_loop _, codeAny_builtin F.entry_min_loop ?_⟩
  rw [Around.under_plainId F.plain_min_loop _]
  refine (show wpAny _ A.in1 (seqItems? (.ref s₂.heap.objs.size) >>= _) _ _ _ from wpAny_bind (wpAny_seqItems (Heap.get?_push_size _ rfl) rfl ?_))
  refine (show wpAny _ A.in1 (tryCatch (pyNext (.ref I)) _ >>= _) _ _ _ from wpAny_bind (wpAny_tryCatch (W.item 0 _ _ _ hn (W.frame _ _ _ hst fun b _ o e => Heap.get?_push_of_some _ e) fun v h' tk hP hst' hk' => ?_)))
  have hS' := hk' s₂.heap.objs.size _ hSw (Heap.get?_push_size _ rfl)
  refine (show wpAny _ A.in1 (updateSeq s₂.heap.objs.size (fun _ => #[v, v]) >>= _) _ _ _ from wpAny_bind (wpAny_updateSeq hS' rfl ?_))
  rw [min_name]
  refine wpAny_pure ⟨plainId_quiet F.plain_min_loop _, min_on W bt s₂.heap.objs.size s₂.heap hcmp hSf _ 0 _ v _ rfl hn (W.frame _ _ _ hst' fun b hbf o e => ?_) hP (Heap.get?_update_self _ hS' rfl) (fun b o hbw hbS e => ?_) fun v' h'' tk'' hP' hk'' => ?_⟩
  · exact (Heap.get?_update_other _ _ (fun h : s₂.heap.objs.size = b => hSf (by rw [h]; exact hbf))).trans e
  · exact (Heap.get?_update_other _ _ (Ne.symm hbS)).trans (hk' b o hbw (Heap.get?_push_of_some _ e))
  · exact hQ v' h'' tk'' hP' fun b o hbw e => hk'' b o hbw (Nat.ne_of_lt (Heap.lt_size e)) e
end
/-- what argBest finds: none is less -/
theorem argBest_min (bt : Nat → Nat → Bool) (tr : ∀ i j k, bt i j = false → bt j k = false → bt i k = false) (as : ∀ i j, bt i j = true → bt j i = false) (ir : ∀ i, bt i i = false) :
    ∀ k, argBest bt k ≤ k ∧ ∀ j, j ≤ k → bt j (argBest bt k) = false
  | 0 => ⟨Nat.le_refl _, fun j hj => by
      obtain rfl : j = 0 := by omega
      exact ir _⟩
  | k + 1 => by
    obtain ⟨h1, h2⟩ := argBest_min bt tr as ir k
    rw [argBest]
    cases hb : bt (k + 1) (argBest bt k) with
    | true =>
      rw [if_pos rfl]
      refine ⟨Nat.le_refl _, fun j hj => ?_⟩
      by_cases e : j = k + 1
      · rw [e]; exact ir _
      · exact tr _ _ _ (h2 j (by omega)) (as _ _ hb)
    | false =>
      rw [if_neg Bool.false_ne_true]
      refine ⟨by omega, fun j hj => ?_⟩
      by_cases e : j = k + 1
      · rw [e]; exact hb
      · exact h2 j (by omega)
theorem lex2 (x1 y1 x2 y2 : Int) : HT.lexLt [x1, y1] [x2, y2] = decide (x1 < x2 ∨ (x1 = x2 ∧ y1 < y2)) := by
  rw [HT.lexLt_cons]
  by_cases h : x1 = x2
  · rw [if_pos h, HT.lexLt_cons]
    by_cases h2 : y1 = y2
    · rw [if_pos h2, HT.lexLt_nil_nil, decide_eq_false (by omega)]
    · rw [if_neg h2]
      by_cases h3 : y1 < y2
      · rw [decide_eq_true h3, decide_eq_true (by omega)]
      · rw [decide_eq_false h3, decide_eq_false (by omega)]
  · rw [if_neg h]
    by_cases h3 : x1 < x2
    · rw [decide_eq_true h3, decide_eq_true (by omega)]
    · rw [decide_eq_false h3, decide_eq_false (by omega)]
section
variable {X : Cx}
/-- min of a list of pairs of ints: one of them, none is less -/
def rMinP (K : PySem.W.Frag) : List V → Hp → VK → Prop := fun vs H Q => ∃ (a : Addr) (ps : List Addr) (xs : List (Int × Int)), vs = [.ref a] ∧ SqL K H a (ps.map V.ref) ∧ ps.length = xs.length ∧ 0 < xs.length ∧
  (∀ (i : Nat) (p : Addr) (x : Int × Int), ps[i]? = some p → xs[i]? = some x → SqT K H p [.int x.1, .int x.2]) ∧
  ∀ p x, SqT K H p [.int x.1, .int x.2] → x ∈ xs → (∀ y ∈ xs, ¬ (y.1 < x.1 ∨ (y.1 = x.1 ∧ y.2 < x.2))) → Q (.ref p) H
theorem cr_minP (hc : X.calm = true) (hu : X.A.units + 64 < cLine) : CallR X (.builtin "min") (rMinP X.K) := by
  intro pins s σ H vs us Q I r h
  obtain ⟨a, ps, xs, rfl, hS, hlen, hpos, hT, q⟩ := h
  obtain ⟨its, rv, hl, _⟩ := I.list hS
  rw [Vals.ref1 r]
  have hits : its = ps.map Value.ref := by
    have : ∀ {ps : List Addr} {its : List Value}, Vals (ps.map V.ref) its → its = ps.map Value.ref := by
      intro ps
      induction ps with
      | nil => intro its h; cases h; rfl
      | cons p t ih => intro its h; cases h with | cons r1 r2 => rw [show _ = Value.ref p from r1, ih r2]; rfl
    exact this rv
  have hlt : a < s.heap.objs.size := by obtain ⟨_, _, e, _⟩ := hl; exact Heap.lt_size e
  refine call_min_in (wpAny_pyIter_list hl.isList ?_)
  let g : Nat → Int × Int := fun i => xs[i]?.getD (0, 0)
  refine ⟨s.heap.objs.size, _, _, _, _, _, fun i j => HT.lexLt [(g i).1, (g i).2] [(g j).1, (g j).2], rfl, Walks.list (A := X.A.in1) (I.ok.hd hc) _ a (Nat.ne_of_lt hlt) its.toArray, ⟨⟨_, Heap.get?_push_size _ rfl, rfl, rfl⟩, hl.isList.push _⟩, ?_, ?_, ?_, ?_⟩
  · intro b hb
    show b < (s.heap.push _).objs.size
    rw [Heap.size_push]
    rcases List.mem_cons.mp hb with z | hb
    · rw [z]; exact Nat.lt_succ_self _
    · rw [List.mem_singleton.mp hb]; exact Nat.lt_succ_of_lt hlt
  · rw [hits]; simp; omega
  · have at_ : ∀ {i : Nat} {v : Value}, its.toArray[i]? = some v → ∃ p x, v = .ref p ∧ xs[i]? = some x ∧ SqT X.K H p [.int x.1, .int x.2] := by
      intro i v hv
      have hv : its[i]? = some v := by simpa using hv
      rw [hits, List.getElem?_map] at hv
      cases e : ps[i]? with
      | none => rw [e] at hv; cases hv
      | some p =>
        rw [e] at hv
        have hi : i < xs.length := by rw [← hlen]; exact (List.getElem?_eq_some_iff.mp e).1
        exact ⟨p, xs[i], (Option.some.inj hv).symm, List.getElem?_eq_getElem hi, hT i p _ e (List.getElem?_eq_getElem hi)⟩
    intro i j vi vj s' Q' E' h1 h2 k hq
    obtain ⟨p1, x1, rfl, e1, t1⟩ := at_ h1
    obtain ⟨p2, x2, rfl, e2, t2⟩ := at_ h2
    obtain ⟨i1, r1, u1, _⟩ := I.tuple t1
    obtain ⟨i2, r2, u2, _⟩ := I.tuple t2
    have up : ∀ b o, s.heap.get? b = some o → s'.heap.get? b = some o := fun b o e => by
      have hb := Heap.lt_size e
      refine k b o (fun z => by rw [List.mem_singleton.mp z] at hb; exact Nat.lt_irrefl _ hb) (fun z => ?_) (Heap.get?_push_of_some _ e)
      have z : b = s.heap.objs.size + 1 := by rw [z]; exact Heap.size_push ..
      rw [z] at hb
      exact absurd hb (Nat.not_lt.mpr (Nat.le_succ _))
    have f1 : g i = x1 := by show xs[i]?.getD (0, 0) = _; rw [e1]; rfl
    have f2 : g j = x2 := by show xs[j]?.getD (0, 0) = _; rw [e2]; rfl
    have keepT : ∀ {p : Addr} {its : Array Value}, IsTup s.heap p its → IsTup s'.heap p its := fun ⟨o, e, c⟩ => ⟨o, up _ _ e, c⟩
    exact HT.lt_tupInts (keepT u1) (keepT u2) (Vals.ints (ns := [x1.1, x1.2]) r1) (Vals.ints (ns := [x2.1, x2.2]) r2) (by show X.A.units + 1 < cLine; omega) (by rw [← f1, ← f2]; exact hq)
  · intro v h' tk hv hk
    have hsz : its.toArray.size = xs.length := by rw [hits]; simp; exact hlen
    have lx : ∀ i j, HT.lexLt [(g i).1, (g i).2] [(g j).1, (g j).2] = decide ((g i).1 < (g j).1 ∨ ((g i).1 = (g j).1 ∧ (g i).2 < (g j).2)) := fun i j => lex2 _ _ _ _
    obtain ⟨b1, b2⟩ := argBest_min (fun i j => HT.lexLt [(g i).1, (g i).2] [(g j).1, (g j).2]) (fun i j k h1 h2 => by
        rw [lx, decide_eq_false_iff_not] at h1 h2 ⊢; omega) (fun i j h => by
        rw [lx, decide_eq_true_eq] at h; rw [lx, decide_eq_false_iff_not]; omega) (fun i => by rw [lx, decide_eq_false_iff_not]; omega) (xs.length - 1)
    rw [hsz] at hv
    have hv : its[argBest (fun i j => HT.lexLt [(g i).1, (g i).2] [(g j).1, (g j).2]) (xs.length - 1)]? = some v := by simpa using hv
    generalize argBest (fun i j => HT.lexLt [(g i).1, (g i).2] [(g j).1, (g j).2]) (xs.length - 1) = m at hv b1 b2
    have hm : m < xs.length := by omega
    have em : xs[m]? = some xs[m] := List.getElem?_eq_getElem hm
    have eg : g m = xs[m] := by show xs[m]?.getD (0, 0) = _; rw [em]; rfl
    rw [hits, List.getElem?_map] at hv
    cases e : ps[m]? with
    | none => rw [e] at hv; cases hv
    | some p =>
      rw [e] at hv
      obtain rfl : v = Value.ref p := (Option.some.inj hv).symm
      have up : ∀ b o, s.heap.get? b = some o → h'.get? b = some o := fun b o e => hk b o (fun z => by have hb := Heap.lt_size e; rw [List.mem_singleton.mp z] at hb; exact Nat.lt_irrefl _ hb) (Heap.get?_push_of_some _ e)
      refine ⟨.ref p, H, I.kept up, rfl, q p xs[m] (hT m p _ e em) (List.getElem_mem hm) fun y hy => ?_⟩
      obtain ⟨j, hj, rfl⟩ := List.getElem_of_mem hy
      have := b2 j (by omega)
      rw [lx, decide_eq_false_iff_not] at this
      have eg2 : g j = xs[j] := by show xs[j]?.getD (0, 0) = _; rw [List.getElem?_eq_getElem hj]; rfl
      rw [eg, eg2] at this
      exact this
/-- list(range(..)) -/
def tLstRgN (te : L2.St → Hp → (Int → Int → Hp → Prop) → Prop) : TE := fun σ H Q => te σ H fun a b H1 => RgOk a b ∧ NewQ H1 (.lst (rgV a b)) Q
theorem pe_listRgN {e : Expr} {te : L2.St → Hp → (Int → Int → Hp → Prop) → Prop} {p pos : Pos} (hc : X.calm = true) (hg : Gl X "list") (hm : X.mg "list" = none) (he : PRg X e te) (na : starEach [e] X.env = (false, eval e X.env) :: starEach [] X.env := by rfl) :
    PE X (.Call (.Name "list" p) [e] [] pos) (tLstRgN te) := by
  refine ⟨fun pins s σ H Q I h => ?_⟩
  refine Call_ (ld_blt I hg hm boot_list (PyProof.Rows.callWith_type1 (args_cons (thn (he pins s σ H _ I h) fun x s1 hx => args_nil ?_) na) na))
  obtain ⟨r, a, b, t, u, v, H1, rfl, hr, I1, ⟨b1, b2, b3, b4, b5⟩, q⟩ := hx
  refine call_list_range (n := (b - a).toNat) (I1.ok.hd hc) hr (small_one b1 b2 b3 b4) (rangeSize_nat a b) b5 fun h' tk acc c' hk e' hi => ?_
  have ob : ObjOk X.prog X.w (upd H1 s1.heap.objs.size (.lst (rgV a b))) h' s1.heap.objs.size (.lst (rgV a b)) := ⟨by rw [rgV_length, sizeLine_eq]; omega, acc.toList, c', vals_rg hi, by rw [Array.toArray_toList]; exact e'⟩
  exact ⟨.ref s1.heap.objs.size, _, I1.laid hk (Nat.le_refl _) ob, rfl, q.use _ I1.fresh⟩
end
end Sv

set_option maxHeartbeats 4000000
namespace Sv
open PySem PySem.Spec PyProof.Rows L2 L2H HotX LamX
/-! ### the rules with the written part K told (so that a comprehension's reading is one for all its states) -/
section
variable {X : Cx} (K : PySem.W.Frag)
theorem ix_listK (h : X.K = K := by rfl) : IxR X (rIxL K) := h ▸ ix_list
theorem ix_tupK (h : X.K = K := by rfl) : IxR X (rIxT K) := h ▸ ix_tup
theorem op_in_seqK (h : X.K = K := by rfl) : OpR X (compareOp .In) (rIn K false) := h ▸ op_in_seq
theorem op_notIn_seqK (h : X.K = K := by rfl) : OpR X (compareOp .NotIn) (rIn K true) := h ▸ op_notIn_seq
def rLenS (K : PySem.W.Frag) : List V → Hp → VK → Prop := fun xs H Q => ∃ p ys, xs = [.ref p] ∧ (SqL K H p ys ∨ SqT K H p ys) ∧ Q (.int ys.length) H
theorem call_len_seqK (h : X.K = K := by rfl) : CallR X (.builtin "len") (rLenS K) := by subst h; exact call_len_seq
theorem op_eqAK (hu : X.A.units + 64 < cLine) (h : X.K = K := by rfl) : OpR X (compareOp .Eq) (rEqA K) := h ▸ op_eqA hu
theorem op_neAK (hu : X.A.units + 64 < cLine) (h : X.K = K := by rfl) : OpR X (compareOp .NotEq) (rNeA K) := h ▸ op_neA hu
theorem op_eqDK (hu : X.A.units + 64 < cLine) (h : X.K = K := by rfl) : OpR X (compareOp .Eq) (rEqD K) := h ▸ op_eqD hu
theorem op_neDK (hu : X.A.units + 64 < cLine) (h : X.K = K := by rfl) : OpR X (compareOp .NotEq) (rNeD K) := h ▸ op_neD hu
theorem call_isDK (h : X.K = K := by rfl) : CallR X (.builtin "isinstance") (rIsD K) := h ▸ call_isD
def rTupleN (K : PySem.W.Frag) : List V → Hp → VK → Prop := fun xs H Q => ∃ p ys, xs = [.ref p] ∧ SqL K H p ys ∧ NewQ H (.tup ys) Q
theorem call_tupleK (h : X.K = K := by rfl) : CallR X (.type "tuple") (rTupleN K) := by subst h; exact call_tupleN
def rListN (K : PySem.W.Frag) : List V → Hp → VK → Prop := fun xs H Q => ∃ p ys, xs = [.ref p] ∧ (SqL K H p ys ∨ SqT K H p ys) ∧ NewQ H (.lst ys) Q
theorem call_listK (h : X.K = K := by rfl) : CallR X (.type "list") (rListN K) := by subst h; exact call_listN
theorem sl_listK (h : X.K = K := by rfl) : SlR X (rSlLN K) := h ▸ sl_listN
/-- t + u of tuples -/
def rCatAN (K : PySem.W.Frag) : R2 := fun x y H Q => ∃ a b xs ys, x = .ref a ∧ y = .ref b ∧ SqT K H a xs ∧ SqT K H b ys ∧ xs.length + ys.length ≤ sizeLine ∧
  (∀ c H', Same H H' → SqT K H' c (xs ++ ys) → Q (.ref c) H')
theorem op_catAK (h : X.K = K := by rfl) : OpR X (binaryOp .Add) (rCatAN K) := by
  subst h
  refine OpR.imp op_catA fun x y H Q hh => ?_
  obtain ⟨a, b, xs, ys, e1, e2, h1, h2, h3, q⟩ := hh
  refine ⟨a, b, xs, ys, e1, e2, h1, h2, h3, fun e => ?_, fun _ e => ?_, fun _ _ p np => ?_⟩
  · subst e; exact q b H (Same.refl H) h2
  · subst e; exact q a H (Same.refl H) (by rw [List.append_nil]; exact h1)
  · exact q p _ (same_new np) (SqT.of upd_same)
/-- t[lo:hi] of a tuple -/
def rSlAN (K : PySem.W.Frag) : V → Option Int → Option Int → Hp → VK → Prop := fun x lo hi H Q => ∃ a xs, x = .ref a ∧ SqT K H a xs ∧ (∀ c H', Same H H' → SqT K H' c (cutV xs lo hi) → Q (.ref c) H')
theorem sl_tupK (h : X.K = K := by rfl) : SlR X (rSlAN K) := by
  subst h
  refine SlR.imp sl_tupA fun x lo hi H Q hh => ?_
  obtain ⟨a, xs, e1, h1, q⟩ := hh
  refine ⟨a, xs, e1, h1, fun e => ?_, fun _ p np => ?_⟩
  · refine q a H (Same.refl H) ?_
    have : cutV xs lo hi = xs := by
      unfold cutV
      rw [e.1, e.2, List.drop_zero, Nat.sub_zero, List.take_length]
    rw [this]; exact h1
  · exact q p _ (same_new np) (SqT.of upd_same)
theorem cr_anyK (hc : X.calm = true) (h : X.K = K := by rfl) : CallR X (.builtin "any") (rAny K) := h ▸ cr_any hc
theorem cr_allK (hc : X.calm = true) (h : X.K = K := by rfl) : CallR X (.builtin "all") (rAll K) := h ▸ cr_all hc
theorem cr_sumK (hc : X.calm = true) (h : X.K = K := by rfl) : CallR X (.builtin "sum") (rSum K) := h ▸ cr_sum hc
theorem cr_maxK (hc : X.calm = true) (h : X.K = K := by rfl) : CallR X (.builtin "max") (rMax K) := h ▸ cr_max hc
theorem cr_minK (hc : X.calm = true) (h : X.K = K := by rfl) : CallR X (.builtin "min") (rMin K) := h ▸ cr_min hc
theorem cr_minPK (hc : X.calm = true) (hu : X.A.units + 64 < cLine) (h : X.K = K := by rfl) : CallR X (.builtin "min") (rMinP K) := h ▸ cr_minP hc hu
theorem mt_indexK (h : X.K = K := by rfl) : MtR X "list.index" (rIndex K) := h ▸ mt_index
theorem pg_tupK {es : List Expr} {k : Nat} {t : TGs} {n : Nat} {pos : Pos} (hc : X.calm = true) (h : PGs X es t) (hn : (assignEach es X.env).length = n := by rfl) (hst : (assignEach es X.env).findIdx? (·.1) = none := by rfl) (he : X.K = K := by rfl) :
    PG X (.Tuple es k pos) (gTup K n t) := he ▸ pg_tup hc h hn hst
theorem pi_listK {tg l : Expr} {tl : TE} (hl : PE X l tl) (h : X.K = K := by rfl) : PI X tg l (iList K tl) := h ▸ pi_list hl
theorem pi_tupK {tg l : Expr} {tl : TE} (hl : PE X l tl) (h : X.K = K := by rfl) : PI X tg l (iTup K tl) := h ▸ pi_tup hl
theorem op_repTK (h : X.K = K := by rfl) : OpR X (binaryOp .Mult) (rRepT K) := h ▸ op_repT
/-! ### the law's own heap: tables of code objects beside the rest -/
theorem extN_ext {H H1 : Hp} (x : ExtN H H1) : Ext H H1 := ⟨fun b xs e => x b _ e (fun _ z => nomatch z), fun b o u e => x b _ e (fun _ z => nomatch z)⟩
theorem same_extN {H H1 : Hp} (x : Same H H1) : ExtN H H1 := fun b o e _ => x b o e
theorem tabs_keep {T : List (Addr × Str)} {H H' : Hp} {d : Addr} {xs : List V} (t : Tabs T H) (e : H d = some (.lst xs)) (k : ∀ b o, H b = some o → b ≠ d → H' b = some o) : Tabs T H' := fun p hp => by
  obtain ⟨ps, h1, h2, h3⟩ := t p hp
  refine ⟨ps, k _ _ h1 (ne_of h1 e fun z => nomatch z), h2, fun pos cv hc => ?_⟩
  obtain ⟨c, e1, e2⟩ := h3 pos cv hc
  exact ⟨c, e1, k _ _ e2 (ne_of e2 e fun z => nomatch z)⟩
/-- a list of ints against [] -/
theorem dpAll_intsL {H : Hp} : ∀ ns : List Int, DpAll K H (ns.map V.int) (ns.map PyData.int)
  | [] => .nil
  | n :: ns => .cons (.int n) (dpAll_intsL ns)
theorem lay_intsL : ∀ ns : List Int, PyData.canLayAll0 (ns.map PyData.int) = true
  | [] => rfl
  | n :: ns => by show (true && _) = true; rw [lay_intsL ns]; rfl
theorem depth_intsL : ∀ ns : List Int, PyData.depthAll (ns.map PyData.int) = 0
  | [] => rfl
  | n :: ns => by show max 0 _ = 0; rw [depth_intsL ns]; rfl
theorem shaped_intsL (ns : List Int) : SeqAt.shaped (.list (ns.map PyData.int)) = true := by
  unfold SeqAt.shaped
  rw [show PyData.canLay0 (.list (ns.map PyData.int)) = PyData.canLayAll0 (ns.map PyData.int) from rfl, lay_intsL, show PyData.depth (.list (ns.map PyData.int)) = PyData.depthAll (ns.map PyData.int) + 1 from rfl, depth_intsL]
  rfl
def rNeNil (K : PySem.W.Frag) : R2 := fun x y H Q => ∃ a b ns, x = .ref a ∧ y = .ref b ∧ SqL K H a (ns.map V.int) ∧ SqL K H b [] ∧ (ns = [] → Q (.bl false) H) ∧ (ns ≠ [] → Q (.bl true) H)
theorem op_neNilK (hu : X.A.units + 64 < cLine) (h : X.K = K := by rfl) : OpR X (compareOp .NotEq) (rNeNil K) := OpR.imp (op_neDK K hu h) fun x y H Q h => by
  obtain ⟨a, b, ns, rfl, rfl, h1, h2, q1, q2⟩ := h
  refine ⟨.list (ns.map PyData.int), .list [], .lst h1 (dpAll_intsL K ns), .lst h2 .nil, shaped_intsL ns, rfl, ?_⟩
  cases ns with
  | nil => exact q1 rfl
  | cons n t => exact q2 (fun z => nomatch z)
/-- a cut between two statements: what holds there is chosen -/
def tCut (t u : TS) : TS := fun D σ H => ∃ J : L2.St → Hp → Prop, t { D with nx := J } σ H ∧ ∀ σ' H', J σ' H' → u D σ' H'
theorem pss_cut {st : Stmt} {rest : List Stmt} {t u : TS} (h1 : PS X st t) (h2 : PSs X rest u) : PSs X (st :: rest) (tCut t u) := by
  refine ⟨fun pins s σ H D I h => ?_⟩
  obtain ⟨J, h, hJ⟩ := h
  refine wpAny_execs_cons (thn (h1.run pins s σ H { D with nx := J } I h) fun f s1 q => ?_)
  cases f with
  | next =>
    obtain ⟨σ', H', I', q⟩ := q
    exact h2.run pins s1 σ' H' D I' (hJ _ _ q)
  | ret v => exact q
  | brk => exact q
  | cont => exact q
end
end Sv

set_option maxHeartbeats 4000000
/-! ### enumerate over a tuple, over a text -/
namespace Sv
open PySem PySem.Spec PyProof.Rows L2 L2H HotX LamX
open Sem (wp)
open AutoSeq1 (wpAny_loadPart')
section
variable {prog : Program} {w : World} {A : Around} {E : Value → Shared → Prop} {s : Shared}
theorem nextOf_tuple_item {it t : Addr} {i : Nat} {items} {x : Value} {Q : Value → Shared → Prop} (hit : s.heap.IsTupleIter it t i) (ht : s.heap.IsTuple t items) (hx : items[i]? = some x)
    (hQ : ∀ h', h'.IsTupleIter it t (i + 1) → Heap.SameBut it s.heap h' → Q x { s with heap := h' }) :
    wpAny (model prog w) A (Builtin.SmallTypes.nextOf (.ref it)) Q E s := by
  obtain ⟨o, ho, hc, hd⟩ := id hit
  obtain ⟨ol, hol, _, nl, hdl⟩ := ht
  unfold Builtin.SmallTypes.nextOf
  refine wpAny_bind (wpAny_callSpecial?_slot (name := Str.ofString "__next__") hit.typeIs F.slot_tuple_iterator_next
    (wpAny_call_entry F.slot_tuple_iterator_next hit.typeIs F.entry_tuple_iterator_next ?_ (F.args_tuple_iterator_next_1 _)))
  show wpAny _ _ (field (.ref it) 0 >>= _) _ _ s
  refine wpAny_bind (wpAny_field ho hd (x := .ref t) rfl ?_)
  show wpAny _ _ (if (Value.ref t == Value.none) = true then _ else _) _ _ s
  rw [if_neg (show ¬ ((Value.ref t == Value.none) = true) from Bool.false_ne_true)]
  show wpAny _ _ (field (.ref it) 1 >>= _) _ _ s
  refine wpAny_bind (wpAny_field ho hd (x := .int i 0) rfl ?_)
  show wpAny _ _ (seqItems? (.ref t) >>= _) _ _ s
  refine wpAny_bind (wpAny_seqItems hol hdl ?_)
  simp only [Int.toNat_natCast, hx]
  refine wpAny_bind (wpAny_setField ho hd (by simp) (wpAny_pure ⟨x, rfl, wpAny_pure (hQ _ ?_ (Heap.SameBut.update ..))⟩))
  exact ⟨_, Heap.get?_update_self _ ho (Obj.isFreed_of_fields (Obj.data_mapFields hd _)), (Obj.cls_mapFields ..).trans hc, by
    rw [Obj.data_mapFields hd]; simp [rawInt]⟩
theorem nextOf_tuple_end {it t : Addr} {i : Nat} {items} {Q : Value → Shared → Prop} (hh : A.handled = none) (hit : s.heap.IsTupleIter it t i) (ht : s.heap.IsTuple t items) (hx : items[i]? = none)
    (hE : ∀ h' e, Heap.ExtBut it s.heap h' → (∃ o, h'.get? e = some o ∧ o.cls = .type "StopIteration") → E (.ref e) { s with heap := h' }) :
    wpAny (model prog w) A (Builtin.SmallTypes.nextOf (.ref it)) Q E s := by
  obtain ⟨o, ho, hc, hd⟩ := id hit
  obtain ⟨ol, hol, _, nl, hdl⟩ := ht
  unfold Builtin.SmallTypes.nextOf
  refine wpAny_bind (wpAny_callSpecial?_slot (name := Str.ofString "__next__") hit.typeIs F.slot_tuple_iterator_next
    (wpAny_call_entry F.slot_tuple_iterator_next hit.typeIs F.entry_tuple_iterator_next ?_ (F.args_tuple_iterator_next_1 _)))
  show wpAny _ _ (field (.ref it) 0 >>= _) _ _ s
  refine wpAny_bind (wpAny_field ho hd (x := .ref t) rfl ?_)
  show wpAny _ _ (if (Value.ref t == Value.none) = true then _ else _) _ _ s
  rw [if_neg (show ¬ ((Value.ref t == Value.none) = true) from Bool.false_ne_true)]
  show wpAny _ _ (field (.ref it) 1 >>= _) _ _ s
  refine wpAny_bind (wpAny_field ho hd (x := .int i 0) rfl ?_)
  show wpAny _ _ (seqItems? (.ref t) >>= _) _ _ s
  refine wpAny_bind (wpAny_seqItems hol hdl ?_)
  simp only [Int.toNat_natCast, hx]
  refine wpAny_bind (wpAny_rule (wpAny_bind (wpAny_setField ho hd (by simp) ?_)))
  show wpAny _ _ (newExc (.type "StopIteration") [] >>= _) _ _ _
  refine wpAny_bind ?_
  simp only [newExc, newTuple]
  refine wpAny_bind (wpAny_newObj_type ?_ (by size_fits))
  refine wpAny_bind (m := firstArgMember _ _) (wpAny_of_eq (a := Value.none) (by first | rfl | (simp only [firstArgMember]; rfl)) ?_)
  refine wpAny_newObj_type ?_ (by size_fits)
  simp only [raiseNew]
  refine wpAny_bind (wpAny_handled ?_)
  first | rw [show A.in1.handled = none from hh] | rw [hh]
  refine wpAny_bind (wpAny_pure (wpAny_throw ?_))
  exact hE _ _ (((Heap.SameBut.update ..).extBut.push _).push _) ⟨_, Heap.get?_push_size _ rfl, rfl⟩
end
theorem drawsT {prog : Program} {w : World} {A : Around} (hh : A.handled = none) (it l : Addr) (hne : l ≠ it) (items : Array Value) :
    Draws prog w A it [it, l] items.size (fun i v => items[i]? = some v) (fun i h => h.IsTupleIter it l i ∧ h.IsTuple l items) where
  live := fun _ _ st => let ⟨o, ho, _⟩ := st.1; ⟨o, ho⟩
  frame := fun _ _ _ st hk => ⟨let ⟨o, ho, r⟩ := st.1; ⟨o, hk it (by simp) o ho, r⟩, let ⟨o, ho, r⟩ := st.2; ⟨o, hk l (by simp) o ho, r⟩⟩
  item := fun i s Q E hi st hQ => by
    refine nextOf_tuple_item st.1 st.2 (x := items[i]) (by simp [hi]) fun h' hit' hs' => ?_
    exact hQ _ h' s.toks (by simp [hi]) ⟨hit', st.2.extBut hs'.extBut hne⟩ hs'
  done := fun s Q E st hE => nextOf_tuple_end hh st.1 st.2 (by simp) hE
theorem meets_enumT (l : Addr) (items : Array Value) (n : Nat) (dct : Option Addr) (sl : Array (Option Value)) :
    Meets (Builtin.«enumerate.__new__» ⟨[.type "enumerate", .ref l], []⟩) (fun _ R s => s.heap.get? l = some { cls := .type "tuple", dict := dct, data := .seq items n, slots := sl } ∧
      R (.ok (.ret (.ref (s.heap.push { cls := .type "tuple_iterator", data := .fields #[.ref l, .int 0 0] }).objs.size)))
        { s with heap := (s.heap.push { cls := .type "tuple_iterator", data := .fields #[.ref l, .int 0 0] }).push { cls := .type "enumerate", data := .fields #[.none, .bool false, .ref s.heap.objs.size, rawInt 0, .none, .none] } }) :=
  .of_wp fun prog w A R s h => by
    obtain ⟨hp, g, d, tk, os⟩ := s; obtain ⟨hl, h⟩ := h
    have hsub := sub_enumerate
    have hL : Heap.IsTuple (Shared.heap ⟨hp, g, d, tk, os⟩) l items := ⟨_, hl, rfl, n, rfl⟩
    wp_walk using wpAny_loadPart' hl
    refine wpAny_stack_any fun st => wpAny_pure ?_
    split
    · rename_i c _ _ _ _ _
      cases (c == Value.type "enumerate")
      · wp_walk using wpAny_loadPart' hl, wpAny_pyIter_tuple hL
        exact ⟨_, rfl, h⟩
      · wp_walk using wpAny_loadPart' hl, wpAny_pyIter_tuple hL
        exact ⟨_, rfl, h⟩
    · wp_walk using wpAny_loadPart' hl, wpAny_pyIter_tuple hL
      exact ⟨_, rfl, h⟩
section
variable {prog : Program} {w : World} {A : Around} {E : Value → Shared → Prop} {s : Shared}
theorem call_enumT {l : Addr} {items : Array Value} {Q : Value → Shared → Prop} (hL : s.heap.IsTuple l items)
    (h : ∀ h', IsEnum h' (s.heap.objs.size + 1) s.heap.objs.size 0 .none → h'.IsTupleIter s.heap.objs.size l 0 → h'.objs.size = s.heap.objs.size + 2 →
      (∀ b o, s.heap.get? b = some o → h'.get? b = some o) → Q (.ref (s.heap.objs.size + 1)) { s with heap := h' }) :
    wpAny (model prog w) A (call (.type "enumerate") [.ref l]) Q E s := by
  obtain ⟨⟨c, dct, dt, sl⟩, hl, hc, n, hd⟩ := hL
  replace hc : c = .type "tuple" := hc
  replace hd : dt = .seq items n := hd
  subst hc hd
  refine callType_new F.called_enumerate (by decide) (F.typeCall_enumerate_1 _) (F.newCall_enumerate_1 _) (fun obj => F.args_object_init_2 obj _) F.entry_enumerate_new
    (meets_enumT l items n dct sl) ⟨hl, ?_⟩
  have hz : (s.heap.push { cls := .type "tuple_iterator", data := .fields #[.ref l, .int 0 0] }).objs.size = s.heap.objs.size + 1 := Heap.size_push ..
  show _ ∧ _
  rw [hz]
  have he : IsEnum ((s.heap.push { cls := .type "tuple_iterator", data := .fields #[.ref l, .int 0 0] }).push
      { cls := .type "enumerate", data := .fields #[.none, .bool false, .ref s.heap.objs.size, rawInt 0, .none, .none] }) (s.heap.objs.size + 1) s.heap.objs.size 0 .none := by
    have := Heap.get?_push_size (s.heap.push { cls := .type "tuple_iterator", data := .fields #[.ref l, .int 0 0] })
      (o := { cls := .type "enumerate", data := .fields #[.none, .bool false, .ref s.heap.objs.size, rawInt 0, .none, .none] }) rfl
    rw [hz] at this; exact this
  refine ⟨⟨_, he, rfl⟩, h _ he ⟨_, Heap.get?_push_of_some _ (Heap.get?_push_size _ rfl), rfl, rfl⟩ (by rw [Heap.size_push, hz]) fun b o x => Heap.get?_push_of_some _ (Heap.get?_push_of_some _ x)⟩
end
/-- the pairs (i, the i-th item) while what stands is as S says; any inner iterator -/
theorem turn_enumD {P : Program} {w : World} {K : PySem.W.Frag} {elts : List Expr} {kk : Nat} {tpos : Pos} {J : It} {e it : Addr} {tn : Nat → Heap → Prop} (at_ : Nat → Hp → V → Prop) (len : Hp → Nat → Prop)
    (hJg : J.go = fun i H => ∃ n, len H n ∧ i < n) (hJy : J.yld = fun i H v H' => ∃ T x, v = .ref T ∧ H T = none ∧ H' = upd H T (.tup [.int (i : Nat), x]) ∧ at_ i H x) (hJs : J.stop = fun i H => len H i)
    (obj : ∀ i h, tn i h → ∃ o, h.get? it = some o ∧ ∀ v, o.data ≠ .cell v) (keep : ∀ i h h', tn i h → (∀ o, h.get? it = some o → h'.get? it = some o) → tn i h')
    (D : ∀ (X : Cx) (pins : List (Addr × Obj)) (s : Shared) (σ : L2.St) (H : Hp) (n : Nat), X.prog = P → X.w = w → X.K = K → X.A.handled = none → Inv X pins σ H s → len H n → ∃ (fp : List Addr) (Pv : Nat → Value → Prop) (St : Nat → Heap → Prop), Draws P w X.A.in1 it fp n Pv St ∧ (∀ i, tn i s.heap → St i s.heap) ∧ (∀ i h, St i h → tn i h) ∧
      (∀ b ∈ fp, b ≠ it → ∃ o, s.heap.get? b = some o ∧ o.cls ≠ .type "enumerate") ∧ ∀ i u, i < n → Pv i u → ∃ x, at_ i H x ∧ RelV x u) :
    Turn P w K (.Tuple elts kk tpos) J [e, it] e (fun i h => (∃ old, IsEnum h e it ((i : Nat) : Int) old) ∧ tn i h ∧ e ≠ it) where
  mem := by simp
  obj := fun i h st b hb => by
    obtain ⟨⟨old, he⟩, ht, _⟩ := st
    have e' : b = e ∨ b = it := by simpa using hb
    rcases e' with z | z
    · rw [z]; exact ⟨_, he, fun v q => nomatch q⟩
    · rw [z]; exact obj i h ht
  keep := fun i h h' st k => let ⟨⟨old, he⟩, hi, hne⟩ := st; ⟨⟨old, k e (by simp) _ he⟩, keep i h h' hi fun o q => k it (by simp) o q, hne⟩
  item := by
    intro X hP hw hK hc i pins s σ H E I hf st hg
    obtain ⟨⟨old, he⟩, hit, hne⟩ := st
    rw [hJg] at hg
    obtain ⟨n, hlen, hin⟩ := hg
    obtain ⟨fp, Pv, St, DD, h1, h2, h3, h4⟩ := D X pins s σ H n hP hw hK (I.ok.hd hc) I hlen
    subst hP hw hK
    have hef : e ∉ fp := fun z => by
      obtain ⟨o, eo, hcls⟩ := h3 e z hne
      rw [show s.heap.get? e = _ from he] at eo
      cases eo
      exact hcls rfl
    have hel : e < s.heap.objs.size := Heap.lt_size he
    have hil : it < s.heap.objs.size := by obtain ⟨_, q, _⟩ := obj i s.heap hit; exact Heap.lt_size q
    refine wpAny_pyNext_enum_itemD DD he (h1 i hit) hin hne hef fun u h' tk hPu ho hit' hT hsz hk => ?_
    obtain ⟨x, hx, ru⟩ := h4 i u hin hPu
    refine ⟨_, rfl, wpAny_letOwnedTupleGo_enum (s := { s with heap := h', toks := tk + 1 }) ho fun h'' he' sb => ?_⟩
    have hT2 : h''.get? s.heap.objs.size = some { cls := .type "tuple", data := .seq #[.int i tk, u] } := (sb.2 _ (Nat.ne_of_gt hel)).trans hT
    have new : ObjOk X.prog X.w (upd H s.heap.objs.size (.tup [.int (i : Nat), x])) h'' s.heap.objs.size (.tup [.int (i : Nat), x]) :=
      ⟨by show 2 ≤ sizeLine; decide, [.int i tk, u], .cons ⟨_, rfl⟩ (.cons ru .nil), ⟨_, hT2, rfl, _, rfl⟩⟩
    have I1 : Inv X pins σ (upd H s.heap.objs.size (.tup [.int (i : Nat), x])) { s with heap := h'', toks := tk + 1 } :=
      I.turnedNew (ch := [e, it]) (fun b ob hb q => (sb.2 b (fun z => hb (by simp [z]))).trans (hk b ob (fun z => hb (by simp [z])) (fun z => hb (by simp [z])) q)) hf (Nat.le_refl _) new
    refine ⟨.ref s.heap.objs.size, _, I1, rfl, ?_, ⟨⟨u, ?_⟩, keep _ _ _ (h2 _ _ hit') fun o q => (sb.2 it (Ne.symm hne)).trans q, hne⟩, fun b hb => ?_⟩
    · rw [hJy]
      exact ⟨_, x, rfl, I.hok.fresh (Nat.le_refl _), rfl, hx⟩
    · have e1 : ((i + 1 : Nat) : Int) = (i : Int) + 1 := by omega
      rw [e1]; exact he'
    · have hb' : b < s.heap.objs.size := by
        have e' : b = e ∨ b = it := by simpa using hb
        rcases e' with z | z
        · rw [z]; exact hel
        · rw [z]; exact hil
      rw [upd_ne (Nat.ne_of_lt hb')]
      exact (hf b hb).1
  done := by
    intro X hP hw hK hc i pins s σ H E I hf st hg
    obtain ⟨⟨old, he⟩, hit, hne⟩ := st
    rw [hJs] at hg
    obtain ⟨fp, Pv, St, DD, h1, h2, h3, h4⟩ := D X pins s σ H i hP hw hK (I.ok.hd hc) I hg
    subst hP hw hK
    obtain ⟨f0, f1, f2, f3, f4, f5⟩ := hf it (by simp)
    exact wpAny_pyNext_enum_endD DD he (h1 i hit) fun h' eb => ⟨rfl, I.turned (t' := s.toks) (fun b o hb q => eb b o hb q) f0 f1 f3 f4 f5⟩
  self := fun A i s Q E st h => let ⟨⟨_, he⟩, _⟩ := st; wpAny_pyIter_enum he h
/-- a tuple's items in new pairs -/
def atT (K : PySem.W.Frag) (a : Addr) (i : Nat) (H : Hp) (x : V) : Prop := ∀ xs, SqT K H a xs → xs[i]? = some x
def IteT (K : PySem.W.Frag) (a : Addr) : It :=
  ⟨fun i H => ∃ n, (∃ xs : List V, SqT K H a xs ∧ xs.length = n) ∧ i < n, fun i H v H' => ∃ T x, v = .ref T ∧ H T = none ∧ H' = upd H T (.tup [.int (i : Nat), x]) ∧ atT K a i H x, fun i H => ∃ xs : List V, SqT K H a xs ∧ xs.length = i⟩
theorem turn_enumT {P : Program} {w : World} {K : PySem.W.Frag} {elts : List Expr} {kk : Nat} {tpos : Pos} (a e it : Addr) (hai : a ≠ it) :
    Turn P w K (.Tuple elts kk tpos) (IteT K a) [e, it] e (fun i h => (∃ old, IsEnum h e it ((i : Nat) : Int) old) ∧ h.IsTupleIter it a i ∧ e ≠ it) := by
  refine turn_enumD (atT K a) (fun H n => ∃ xs : List V, SqT K H a xs ∧ xs.length = n) rfl rfl rfl (fun i h st => ?_) (fun i h h' st k => ?_) fun X pins s σ H n hP hw hK hh I hl => ?_
  · obtain ⟨o, ho, _, hd⟩ := st
    exact ⟨o, ho, fun v z => by rw [hd] at z; cases z⟩
  · obtain ⟨o, ho, r⟩ := st
    exact ⟨o, k o ho, r⟩
  · obtain ⟨xs, hq, rfl⟩ := hl
    subst hP hw hK
    obtain ⟨its, rv, p, hz⟩ := I.tuple hq
    have hl2 := rv.length
    have hsz : its.toArray.size = xs.length := by simp; omega
    have DD := drawsT (prog := X.prog) (w := X.w) (A := X.A.in1) hh it a hai its.toArray
    rw [hsz] at DD
    refine ⟨_, _, _, DD, fun i t => ⟨t, p⟩, fun i h t => t.1, fun b hb hbi => ?_, fun i u hi hu => ?_⟩
    · have : b = it ∨ b = a := by simpa using hb
      rcases this with z | z
      · exact absurd z hbi
      · obtain ⟨o, ho, hc, _⟩ := p
        exact ⟨o, by rw [z]; exact ho, by rw [hc]; exact fun q => absurd (Value.type.inj q) (by decide)⟩
    · have hu : its.toArray[i]? = some u := hu
      have hu' : its[i]? = some u := by simpa using hu
      obtain ⟨x, hx⟩ : ∃ x, xs[i]? = some x := ⟨xs[i], List.getElem?_eq_getElem hi⟩
      obtain ⟨u', hu2, ru⟩ := rv.get hx
      rw [hu'] at hu2
      cases hu2
      exact ⟨x, fun ys hy => by rw [I.tuple_inj hy hq]; exact hx, ru⟩
def iEnumT (K : PySem.W.Frag) (ta : TA) : TI := fun σ H R => ta σ H fun vs H1 => ∃ a xs, vs = [.ref a] ∧ SqT K H1 a xs ∧ R (IteT K a) H1
theorem pi_enumT (K : PySem.W.Frag) {X : Cx} {e : Expr} {ta : TA} {p pos tpos : Pos} {elts : List Expr} {kk : Nat} (hg : Gl X "enumerate") (hm : X.mg "enumerate" = none) (ha : PA X [e] ta) (hK : X.K = K := by rfl) (hs : starEach [e] X.env = [(false, eval e X.env)] := by rfl) :
    PI X (.Tuple elts kk tpos) (.Call (.Name "enumerate" p) [e] [] pos) (iEnumT K ta) := by
  subst hK
  refine ⟨fun pins s σ H R I h => ?_⟩
  refine Call_ (ld_blt I hg hm boot_enumerate (PyProof.Rows.callWith_type1 (thn (ha.run pos pins s σ H _ I h) fun us s1 ⟨vs, H1, I1, r1, q1⟩ => ?_) hs rfl))
  obtain ⟨a, xs, ex, hq, q⟩ := q1
  subst ex
  cases r1 with
  | cons r rr =>
    cases rr
    cases r
    obtain ⟨its, rv, p', hz⟩ := I1.tuple hq
    have hal : a < s1.heap.objs.size := by obtain ⟨o, ho, _⟩ := p'; exact Heap.lt_size ho
    refine call_enumT p' fun h' he hit hsz hk => wpAny_pyIter_enum he ?_
    have I2 : Inv X pins σ H1 { s1 with heap := h' } := I1.kept (t' := s1.toks) hk
    refine ⟨s1.heap.objs.size + 1, [s1.heap.objs.size + 1, s1.heap.objs.size], _, _, H1, rfl, I2, turn_enumT a (s1.heap.objs.size + 1) s1.heap.objs.size (Nat.ne_of_lt hal), ⟨⟨.none, he⟩, hit, Nat.succ_ne_self _⟩, fun b hb => ?_, q⟩
    have e' : b = s1.heap.objs.size + 1 ∨ b = s1.heap.objs.size := by simpa using hb
    have hle : s1.heap.objs.size ≤ b := by
      rcases e' with z | z
      · rw [z]; exact Nat.le_add_right _ _
      · rw [z]; exact Nat.le_refl _
    exact I1.fpOk hle (I1.hok.fresh hle)
/-- a text's signs in new pairs -/
def atS (x : Str) (i : Nat) (_ : Hp) (v : V) : Prop := ∃ c, x.cps[i]? = some c ∧ v = .str ⟨#[c]⟩
def IteS (x : Str) : It :=
  ⟨fun i H => ∃ n, x.cps.size = n ∧ i < n, fun i H v H' => ∃ T y, v = .ref T ∧ H T = none ∧ H' = upd H T (.tup [.int (i : Nat), y]) ∧ atS x i H y, fun i H => x.cps.size = i⟩
theorem turn_enumS {P : Program} {w : World} {K : PySem.W.Frag} {elts : List Expr} {kk : Nat} {tpos : Pos} (x : Str) (t : Tok) (e it : Addr) :
    Turn P w K (.Tuple elts kk tpos) (IteS x) [e, it] e (fun i h => (∃ old, IsEnum h e it ((i : Nat) : Int) old) ∧ h.IsStrIter it (strIterType x) x t i ∧ e ≠ it) := by
  refine turn_enumD (atS x) (fun H n => x.cps.size = n) rfl rfl rfl (fun i h st => ?_) (fun i h h' st k => ?_) fun X pins s σ H n hP hw hK hh I hl => ?_
  · obtain ⟨o, ho, _, hd⟩ := st
    exact ⟨o, ho, fun v z => by rw [hd] at z; cases z⟩
  · obtain ⟨o, ho, r⟩ := st
    exact ⟨o, k o ho, r⟩
  · subst hl
    have DD : ∃ (fp : List Addr), fp = [it] ∧ Draws P w X.A.in1 it fp x.cps.size (fun i v => ∃ c u, x.cps[i]? = some c ∧ v = .str ⟨#[c]⟩ u) (fun i h => h.IsStrIter it (strIterType x) x t i) := by
      refine ⟨_, rfl, ?_⟩
      cases ha : x.cps.all (· < 128)
      · rw [show strIterType x = "str_iterator" by simp [strIterType, ha]]
        exact Draws.strWide (A := X.A.in1) hh it x t
      · rw [show strIterType x = "str_ascii_iterator" by simp [strIterType, ha]]
        exact Draws.strAscii (A := X.A.in1) hh it x t
    obtain ⟨fp, rfl, DD⟩ := DD
    refine ⟨_, _, _, DD, fun i t => t, fun i h t => t, fun b hb hbi => absurd (List.mem_singleton.mp hb) hbi, fun i u hi hu => ?_⟩
    obtain ⟨c, t', hc, rfl⟩ := hu
    exact ⟨.str ⟨#[c]⟩, ⟨c, hc, rfl⟩, ⟨t', rfl⟩⟩
def iEnumS (ta : TA) : TI := fun σ H R => ta σ H fun vs H1 => ∃ x, vs = [.str x] ∧ R (IteS x) H1
theorem pi_enumS {X : Cx} {e : Expr} {ta : TA} {p pos tpos : Pos} {elts : List Expr} {kk : Nat} (hg : Gl X "enumerate") (hm : X.mg "enumerate" = none) (ha : PA X [e] ta) (hs : starEach [e] X.env = [(false, eval e X.env)] := by rfl) :
    PI X (.Tuple elts kk tpos) (.Call (.Name "enumerate" p) [e] [] pos) (iEnumS ta) := by
  refine ⟨fun pins s σ H R I h => ?_⟩
  refine Call_ (ld_blt I hg hm boot_enumerate (PyProof.Rows.callWith_type1 (thn (ha.run pos pins s σ H _ I h) fun us s1 ⟨vs, H1, I1, r1, q1⟩ => ?_) hs rfl))
  obtain ⟨x, ex, q⟩ := q1
  subst ex
  cases r1 with
  | cons r rr =>
    cases rr
    obtain ⟨t, rfl⟩ := r
    refine call_enumerate_str fun h' he hit hsz hk => wpAny_pyIter_enum he ?_
    have I2 : Inv X pins σ H1 { s1 with heap := h' } := I1.kept (t' := s1.toks) hk
    refine ⟨s1.heap.objs.size + 1, [s1.heap.objs.size + 1, s1.heap.objs.size], _, _, H1, rfl, I2, turn_enumS x t (s1.heap.objs.size + 1) s1.heap.objs.size, ⟨⟨.none, he⟩, hit, Nat.succ_ne_self _⟩, fun b hb => ?_, q⟩
    have e' : b = s1.heap.objs.size + 1 ∨ b = s1.heap.objs.size := by simpa using hb
    have hle : s1.heap.objs.size ≤ b := by
      rcases e' with z | z
      · rw [z]; exact Nat.le_add_right _ _
      · rw [z]; exact Nat.le_refl _
    exact I1.fpOk hle (I1.hok.fresh hle)
theorem walk_enumT {K : PySem.W.Frag} {a : Addr} {xs : List V} : Walk (IteT K a) xs.length (fun H => SqT K H a xs) (fun i H v H' => ∃ T x, v = .ref T ∧ H T = none ∧ Same H H' ∧ H' T = some (.tup [.int (i : Nat), x]) ∧ xs[i]? = some x) := by
  refine ⟨fun i H hi q => ⟨_, ⟨xs, q, rfl⟩, hi⟩, fun _ q => ⟨xs, q, rfl⟩, fun i H v H' _ q y => ?_⟩
  · obtain ⟨T, x, h1, h2, h3, h4⟩ := y
    exact ⟨T, x, h1, h2, by rw [h3]; exact same_new h2, by rw [h3]; exact upd_same, h4 xs q⟩
theorem walk_enumS {x : Str} : Walk (IteS x) x.cps.size (fun _ => True) (fun i H v H' => ∃ T c, v = .ref T ∧ H T = none ∧ Same H H' ∧ H' T = some (.tup [.int (i : Nat), .str ⟨#[c]⟩]) ∧ x.cps[i]? = some c) := by
  refine ⟨fun i H hi q => ⟨_, rfl, hi⟩, fun _ q => rfl, fun i H v H' _ q y => ?_⟩
  obtain ⟨T, y, h1, h2, h3, c, h4, rfl⟩ := y
  exact ⟨T, c, h1, h2, by rw [h3]; exact same_new h2, by rw [h3]; exact upd_same, h4⟩
theorem walk_enumL {K : PySem.W.Frag} {a : Addr} {xs : List V} : Walk (Ite K a) xs.length (fun H => SqL K H a xs) (fun i H v H' => ∃ T x, v = .ref T ∧ H T = none ∧ Same H H' ∧ H' T = some (.tup [.int (i : Nat), x]) ∧ xs[i]? = some x) := by
  refine walk_enum.mono (fun _ q => q) fun i H v H' _ _ y => ?_
  obtain ⟨T, x, y, h1, h2, h3, h4, h5⟩ := y
  cases h4
  exact ⟨T, y, h1, h2, by rw [h3]; exact same_new h2, by rw [h3]; exact upd_same, h5⟩
theorem pi_enumL (K : PySem.W.Frag) {X : Cx} {e : Expr} {ta : TA} {p pos tpos : Pos} {elts : List Expr} {kk : Nat} (hg : Gl X "enumerate") (hm : X.mg "enumerate" = none) (ha : PA X [e] ta) (hK : X.K = K := by rfl) (hs : starEach [e] X.env = [(false, eval e X.env)] := by rfl) :
    PI X (.Tuple elts kk tpos) (.Call (.Name "enumerate" p) [e] [] pos) (iEnum K ta) := hK ▸ pi_enum hg hm ha hs
end Sv

set_option maxHeartbeats 4000000
/-! ### dicts with ints and texts for keys -/
namespace Sv
open PySem PySem.Spec PyProof.Rows L2 L2H HotX LamX
section
variable {X : Cx}
def rDIn (neg : Bool) : R2 := fun x y H Q => ∃ a o, y = .ref a ∧ DGet H a x o ∧ Q (.bl (if neg then !o.isSome else o.isSome)) H
theorem op_din (hu : X.A.units + 1 < cLine) : OpR X (compareOp .In) (rDIn false) := by
  intro pins s σ H x y v u Q I rx ry h
  obtain ⟨a, o, rfl, g, q⟩ := h
  cases ry
  exact d_in hu I g rx fun s3 I3 => ⟨.bl o.isSome, H, I3, rfl, q⟩
theorem op_dnotin (hu : X.A.units + 1 < cLine) : OpR X (compareOp .NotIn) (rDIn true) := by
  intro pins s σ H x y v u Q I rx ry h
  obtain ⟨a, o, rfl, g, q⟩ := h
  cases ry
  exact d_notIn hu I g rx fun s3 I3 => ⟨.bl (!o.isSome), H, I3, rfl, q⟩
end
theorem same_put {H H1 : Hp} (s : Same H H1) {a : Addr} {o : HO} (n : H a = none) : Same H (upd H1 a o) := fun b u e => by
  rw [upd_ne (ne_of_none e n)]; exact s b u e
end Sv

set_option maxHeartbeats 4000000
/-! ### texts; statements that let no exception out -/
namespace Sv
open PySem PySem.Spec PyProof.Rows L2 L2H HotX LamX
section
variable {X : Cx}
theorem psNox {st : Stmt} {t : TS} (h : PS X.nox st t) : PS X st t := ⟨fun pins s σ H D I hw => wpAny_mono (h.run pins s σ H D (I.wish _) hw) (fun _ _ q => q.unwish) fun _ _ z => False.elim z⟩
def repS (z : Str) (n : Nat) : Str := ⟨(List.replicate n z.cps).foldl (· ++ ·) #[]⟩
theorem foldl_size (l : List (Array Nat)) (m k : Nat) (h : ∀ a ∈ l, a.size = k) (acc : Array Nat) (ha : acc.size = m) : (l.foldl (· ++ ·) acc).size = m + l.length * k := by
  induction l generalizing acc m with
  | nil => simp [ha]
  | cons a l ih =>
    rw [List.foldl_cons, ih (m + k) (fun b hb => h b (List.mem_cons_of_mem _ hb)) (acc ++ a) (by rw [Array.size_append, ha, h a (List.mem_cons_self ..)]), List.length_cons, Nat.add_mul]
    omega
theorem repS_len (z : Str) (n : Nat) : (repS z n).length = n * z.length := by
  show ((List.replicate n z.cps).foldl (· ++ ·) #[]).size = _
  rw [foldl_size _ 0 z.cps.size (fun a ha => by rw [List.eq_of_mem_replicate ha]) #[] rfl, List.length_replicate, Nat.zero_add]
  rfl
theorem op_mul_str : OpR X (binaryOp .Mult) (fun x y H Q => ∃ (z : Str) (n : Nat), x = .str z ∧ y = .int (n : Int) ∧ 2 ≤ n ∧ n ≤ 1000 ∧ 1 ≤ z.length ∧ z.length ≤ 1000 ∧ Q (.str (repS z n)) H) := by
  intro pins s σ H x y v u Q I rx ry h
  obtain ⟨z, n, rfl, rfl, h2, h3, h4, h5, q⟩ := h
  obtain ⟨t, rfl⟩ := rx
  obtain ⟨t', rfl⟩ := ry
  have hm : z.length * (n : Int).toNat ≤ 1000000 := by
    rw [Int.toNat_natCast]
    exact Nat.le_trans (Nat.mul_le_mul h5 h3) (by decide)
  refine P.mul_str ?_ (fun _ _ => ?_) (fun _ _ => ?_) ?_
  · rw [decide_eq_false (show ¬ (n : Int) < -(2 ^ 63) by omega), decide_eq_false (show ¬ (n : Int) ≥ 2 ^ 63 by omega)]; rfl
  · have h7 : (1000 : Int) ≤ (2 ^ 63 - 1) / n := by
      rw [Int.le_ediv_iff_mul_le (by omega)]
      omega
    omega
  · exact decide_eq_false (by rw [sizeLine_eq]; omega)
  · rw [if_neg (show ¬ (n : Int) < 1 by omega), if_neg]
    · refine ⟨?_, ⟨.str (repS z n), H, I.tok _, ⟨_, rfl⟩, q⟩⟩
      show (repS z n).length ≤ sizeLine
      rw [repS_len, Nat.mul_comm, sizeLine_eq]
      rw [Int.toNat_natCast] at hm
      omega
    · rw [beq_eq_false_iff_ne.mpr (show (n : Int) ≠ 1 by omega), beq_eq_false_iff_ne.mpr (show z.length ≠ 0 by omega)]; decide
end
end Sv

set_option maxHeartbeats 4000000
/-! ### dicts whose keys are tuples of any depth (below 9) -/
namespace Sv
open PySem PySem.Spec PyProof.Rows L2 L2H HotX LamX
mutual
def nk : PyData → NestedKey
  | .int i => .num i
  | .str x => .text x
  | .tuple ds => .tup (nkAll ds)
  | .none => .none
  | .bool _ => .none
  | .list _ => .none
  | .dict _ => .none
def nkAll : List PyData → List NestedKey
  | [] => []
  | d :: ds => nk d :: nkAll ds
end
mutual
theorem nk_inj : ∀ d e : PyData, pl d = true → pl e = true → nk d = nk e → d = e
  | .none, .none, _, _, _ => rfl
  | .int i, .int j, _, _, h => by simp only [nk, NestedKey.num.injEq] at h; rw [h]
  | .str i, .str j, _, _, h => by simp only [nk, NestedKey.text.injEq] at h; rw [h]
  | .tuple ds, .tuple es, h1, h2, h => by
    simp only [nk, NestedKey.tup.injEq] at h
    rw [pl] at h1 h2
    rw [nkAll_inj _ _ h1 h2 h]
  | .none, .int _, _, _, h | .none, .str _, _, _, h | .none, .tuple _, _, _, h | .int _, .none, _, _, h | .int _, .str _, _, _, h | .int _, .tuple _, _, _, h
  | .str _, .none, _, _, h | .str _, .int _, _, _, h | .str _, .tuple _, _, _, h | .tuple _, .none, _, _, h | .tuple _, .int _, _, _, h | .tuple _, .str _, _, _, h => by simp [nk] at h
  | .bool _, _, h1, _, _ | .list _, _, h1, _, _ | .dict _, _, h1, _, _ => by simp [pl] at h1
  | _, .bool _, _, h1, _ | _, .list _, _, h1, _ | _, .dict _, _, h1, _ => by simp [pl] at h1
theorem nkAll_inj : ∀ d e : List PyData, plAll d = true → plAll e = true → nkAll d = nkAll e → d = e
  | [], [], _, _, _ => rfl
  | [], _ :: _, _, _, h => by simp [nkAll] at h
  | _ :: _, [], _, _, h => by simp [nkAll] at h
  | d :: ds, e :: es, h1, h2, h => by
    rw [plAll, Bool.and_eq_true] at h1 h2
    simp only [nkAll, List.cons.injEq] at h
    rw [nk_inj d e h1.1 h2.1 h.1, nkAll_inj ds es h1.2 h2.2 h.2]
end
mutual
theorem nk_depth : ∀ d : PyData, (nk d).depth ≤ d.depth
  | .none => by simp [nk, NestedKey.depth]
  | .int i => by simp [nk, NestedKey.depth]
  | .str i => by simp [nk, NestedKey.depth]
  | .bool _ => by simp [nk, NestedKey.depth]
  | .list _ => by simp [nk, NestedKey.depth]
  | .dict _ => by simp [nk, NestedKey.depth]
  | .tuple ds => by
    have := nkAll_depth ds
    simp only [nk, NestedKey.depth, PyData.depth]
    omega
theorem nkAll_depth : ∀ ds : List PyData, NestedKey.depthAll (nkAll ds) ≤ PyData.depthAll ds
  | [] => by simp [nkAll, NestedKey.depthAll]
  | d :: ds => by
    have h1 := nk_depth d
    have h2 := nkAll_depth ds
    simp only [nkAll, NestedKey.depthAll, PyData.depthAll]
    omega
end
mutual
theorem nested_of {h : Heap} : ∀ (d : PyData) (u : Value) (as : List Addr), pl d = true → Reads h u d as → NestedIs h (nk d) u
  | .none, _, _, _, r => by cases r; exact .none
  | .int i, _, _, _, r => by cases r; exact .int _ _
  | .str i, _, _, _, r => by cases r; exact .text _ _
  | .tuple ds, _, _, hp, r => by
    rw [pl] at hp
    cases r with
    | tuple h1 h2 h3 h4 => exact .tup h1 h2 h3 (nestedAll_of ds _ _ hp h4)
  | .bool _, _, _, h1, _ | .list _, _, _, h1, _ | .dict _, _, _, h1, _ => by simp [pl] at h1
theorem nestedAll_of {h : Heap} : ∀ (ds : List PyData) (us : List Value) (as : List Addr), plAll ds = true → ReadsAll h us ds as → NestedAll h (nkAll ds) us
  | [], _, _, _, r => by cases r; exact .nil
  | d :: ds, _, _, hp, r => by
    rw [plAll, Bool.and_eq_true] at hp
    cases r with
    | cons r1 r2 => exact .cons (nested_of d _ _ hp.1 r1) (nestedAll_of ds _ _ hp.2 r2)
end
/-- a list without doubles, all of it in another one -/
theorem nodup_le {κ : Type} [DecidableEq κ] : ∀ {l m : List κ}, l.Nodup → (∀ x ∈ l, x ∈ m) → l.length ≤ m.length
  | [], _, _, _ => Nat.zero_le _
  | x :: l, m, hn, hs => by
    rw [List.nodup_cons] at hn
    have hm : x ∈ m := hs x (List.mem_cons_self ..)
    have h1 := nodup_le (l := l) (m := m.erase x) hn.2 fun y hy => by
      have hy2 := hs y (List.mem_cons_of_mem _ hy)
      have hne : y ≠ x := fun z => hn.1 (z ▸ hy)
      exact (List.mem_erase_of_ne hne).mpr hy2
    have h2 := List.length_erase_of_mem hm
    have h3 : 0 < m.length := List.length_pos_of_mem hm
    rw [List.length_cons]
    omega
abbrev NX := List (NestedKey × Addr × Value)
/-- the dict at a, by its entries -/
def NDictO (P : Program) (w : World) (a : Addr) (xs : NX) : HO := .ext fun h => xs.length ≤ sizeLine ∧ (a == sysModules) = false ∧ ∃ o es ep, h.get? a = some o ∧ o.ExactDict ∧ o.data = .dict es ep ∧ es.toList = xs.map (entryOfKey (nestedKind P w)) ∧ (xs.map (·.1)).Nodup
theorem ndict_tup {P : Program} {w : World} {a : Addr} {xs : NX} {l : List V} (z : NDictO P w a xs = .tup l) : False := by
  unfold NDictO at z; cases z
theorem ndict_frz {P : Program} {w : World} {a : Addr} {xs : NX} {o : Obj} {l : HO} (z : NDictO P w a xs = .frz o l) : False := by
  unfold NDictO at z; cases z
def putD (D : NestedKey → Option V) (k : NestedKey) (v : V) : NestedKey → Option V := fun j => if j = k then some v else D j
/-- the dict at a holds D -/
def NDat (P : Program) (w : World) (K : PySem.W.Frag) (H : Hp) (a : Addr) (D : NestedKey → Option V) : Prop :=
  ∃ xs : NX, H a = some (NDictO P w a xs) ∧ (∀ x ∈ xs, ∃ d, nk d = x.1 ∧ At K H (.ref x.2.1) d ∧ d.depth ≤ 8) ∧ ∀ k, RelO (D k) ((atKey xs k).map (·.2))
section
variable {P : Program} {w : World} {K : PySem.W.Frag} {H H' : Hp} {a : Addr} {D : NestedKey → Option V}
theorem NDat.keep (h : NDat P w K H a D) (e : H' a = H a) (x : Ext H H') : NDat P w K H' a D := by
  obtain ⟨xs, h1, h2, h3⟩ := h
  refine ⟨xs, by rw [e]; exact h1, fun y hy => ?_, h3⟩
  obtain ⟨d, e1, e2, e3⟩ := h2 y hy
  exact ⟨d, e1, e2.ext x, e3⟩
theorem NDat.same (h : NDat P w K H a D) (s : Same H H') : NDat P w K H' a D := by
  have h' := h
  obtain ⟨xs, h1, _⟩ := h'
  exact h.keep (by rw [h1]; exact s _ _ h1) (Same.ext s)
theorem NDat.isExt (h : NDat P w K H a D) : ∃ φ, H a = some (.ext φ) := by
  obtain ⟨xs, h1, _⟩ := h
  exact ⟨_, h1⟩
theorem NDat.extN (h : NDat P w K H a D) (s : ExtN H H') : NDat P w K H' a D := by
  have h' := h
  obtain ⟨xs, h1, _⟩ := h'
  exact h.keep (by rw [h1]; exact s _ _ h1 (fun _ z => by unfold NDictO at z; cases z)) (extN_ext s)
theorem atKey_mem {xs : NX} {k : NestedKey} {p : Addr × Value} (h : atKey xs k = Option.some p) : (k, p) ∈ xs := by
  unfold atKey at h
  rw [Option.map_eq_some_iff] at h
  obtain ⟨x, h1, h2⟩ := h
  have h3 := List.find?_some h1
  have h4 := List.mem_of_find?_eq_some h1
  have h5 : x.1 = k := of_decide_eq_true h3
  have : x = (k, p) := by rw [← h5, ← h2]
  rw [← this]; exact h4
theorem mem_atKey {xs : NX} {x : NestedKey × Addr × Value} (h : x ∈ xs) : (atKey xs x.1).isSome = true := by
  unfold atKey
  rw [Option.isSome_map]
  rw [List.find?_isSome]
  exact ⟨x, h, decide_eq_true rfl⟩
theorem atKey_stored (xs : NX) (k j : NestedKey) (b : Addr) (u : Value) : (atKey (storedH xs k b u) j).map (·.2) = if j = k then Option.some u else (atKey xs j).map (·.2) := by
  rw [← valueAt_pairsH, pairsH_storedH, ← valueAt_pairsH]
  have e : ∀ l : List (NestedKey × Value), valueAt (stored l k u) j = if j = k then Option.some u else valueAt l j := by
    intro l
    unfold stored valueAt
    by_cases hk : (l.any fun kv => decide (kv.1 = k)) = true
    · rw [if_pos hk]
      induction l with
      | nil => simp at hk
      | cons p r ih =>
        rw [List.map_cons, List.find?_cons, List.find?_cons]
        by_cases e1 : p.1 = k
        · rw [if_pos e1]
          by_cases e2 : j = k
          · rw [if_pos e2, decide_eq_true (show (p.1, u).1 = j by rw [e2]; exact e1)]; rfl
          · rw [if_neg e2, decide_eq_false (show ¬ (p.1, u).1 = j from fun z => e2 (z.symm.trans e1))]
            by_cases e3 : (r.any fun kv => decide (kv.1 = k)) = true
            · have := ih e3; rw [if_neg e2] at this; exact this
            · have : r.map (fun kv => if kv.1 = k then (kv.1, u) else kv) = r := by
                have hx : ∀ x ∈ r, ¬ x.1 = k := fun x hx z => e3 (List.any_eq_true.mpr ⟨x, hx, decide_eq_true z⟩)
                clear ih hk e3
                induction r with
                | nil => rfl
                | cons q t ih2 => rw [List.map_cons, if_neg (hx q (List.mem_cons_self ..)), ih2 fun x h => hx x (List.mem_cons_of_mem _ h)]
              rw [this]
        · rw [if_neg e1]
          rw [List.any_cons, decide_eq_false e1, Bool.false_or] at hk
          have := ih hk
          by_cases e2 : p.1 = j
          · rw [decide_eq_true e2, if_neg (fun z => e1 (e2.trans z))]
          · rw [decide_eq_false e2]; exact this
    · rw [if_neg hk, List.find?_append]
      by_cases e2 : j = k
      · rw [if_pos e2, e2]
        have : (l.find? fun kv => decide (kv.1 = k)) = none := by
          rw [List.find?_eq_none]
          intro x hx hz
          exact hk (List.any_eq_true.mpr ⟨x, hx, hz⟩)
        rw [this, Option.none_or, List.find?_cons, decide_eq_true rfl]; rfl
      · rw [if_neg e2, List.find?_cons, decide_eq_false (fun z => e2 z.symm)]
        cases l.find? fun kv => decide (kv.1 = j) <;> rfl
  exact e _
theorem mem_stored {xs : NX} {k : NestedKey} {b : Addr} {u : Value} {x : NestedKey × Addr × Value} (h : x ∈ storedH xs k b u) : (∃ y ∈ xs, y.1 = x.1 ∧ y.2.1 = x.2.1) ∨ (x.1 = k ∧ x.2.1 = b) := by
  unfold storedH at h
  split at h
  · obtain ⟨y, hy, rfl⟩ := List.mem_map.mp h
    refine .inl ⟨y, hy, ?_⟩
    unfold putAt
    split <;> exact ⟨rfl, rfl⟩
  · rcases List.mem_append.mp h with h | h
    · exact .inl ⟨x, h, rfl, rfl⟩
    · rw [List.mem_singleton.mp h]; exact .inr ⟨rfl, rfl⟩
theorem stored_len {xs : NX} {k : NestedKey} {b : Addr} {u : Value} : (storedH xs k b u).length ≤ xs.length + 1 := by
  unfold storedH
  split
  · rw [List.length_map]; omega
  · rw [List.length_append]; exact Nat.le_refl _
end
section
variable {X : Cx} {pins : List (Addr × Obj)} {σ : L2.St} {H : Hp} {s : Shared} {a : Addr} {y v : V} {u r : Value} {A : Around} {E : Value → Shared → Prop} {D : NestedKey → Option V} {d : PyData}
theorem key_is {ds : List PyData} (I : Inv X pins σ H s) (h : At X.K H y (.tuple ds)) (hd : (PyData.tuple ds).depth ≤ 8) (ry : RelV y u) : ∃ b, u = .ref b ∧ y = .ref b ∧ (nestedKind X.prog X.w).is s.heap (nk (.tuple ds)) b := by
  obtain ⟨as, hr⟩ := Dp.reads I _ _ _ h.2 ry
  obtain ⟨b, vs, rfl, _, _⟩ := h.inv
  cases (show u = Value.ref b from ry)
  exact ⟨b, rfl, rfl, nested_of _ _ _ h.1 hr, Nat.le_trans (nk_depth _) hd⟩
theorem key_is' (I : Inv X pins σ H s) {b : Addr} (h : At X.K H (.ref b) d) (hd : d.depth ≤ 8) : (nestedKind X.prog X.w).is s.heap (nk d) b := by
  obtain ⟨as, hr⟩ := Dp.reads I _ _ (.ref b) h.2 rfl
  exact ⟨nested_of _ _ _ h.1 hr, Nat.le_trans (nk_depth _) hd⟩
theorem NDat.dict (I : Inv X pins σ H s) (h : NDat X.prog X.w X.K H a D) : ∃ xs : NX, H a = some (NDictO X.prog X.w a xs) ∧ xs.length ≤ sizeLine ∧ (a == sysModules) = false ∧ s.heap.DictOfH (nestedKind X.prog X.w) a xs ∧ (∀ x ∈ xs, ∃ d, nk d = x.1 ∧ At X.K H (.ref x.2.1) d ∧ d.depth ≤ 8) ∧ (∀ k, RelO (D k) ((atKey xs k).map (·.2))) ∧ (xs.map (·.1)).Nodup := by
  obtain ⟨xs, h1, h2, h3⟩ := h
  obtain ⟨⟨z, hd, o, es, ep, q1, q2, q3, q4, q5⟩, _, _⟩ := I.hok a _ h1
  refine ⟨xs, h1, z, hd, ⟨o, es, ep, q1, q2, q3, q4, fun x hx => ?_, q5⟩, h2, h3, q5⟩
  obtain ⟨d, e1, e2, e3⟩ := h2 x hx
  rw [← e1]
  exact key_is' I e2 e3
/-- y in d -/
def rNIn (P : Program) (w : World) (K : PySem.W.Frag) (neg : Bool) : R2 := fun x y H Q => ∃ a D ds, y = .ref a ∧ NDat P w K H a D ∧ At K H x (.tuple ds) ∧ (PyData.tuple ds).depth ≤ 8 ∧ Q (.bl (neg != (D (nk (.tuple ds))).isSome)) H
theorem op_nin {P : Program} {w : World} {K : PySem.W.Frag} (hu : X.A.units + 64 < cLine) (hP : X.prog = P := by rfl) (hw : X.w = w := by rfl) (hK : X.K = K := by rfl) : OpR X (compareOp .In) (rNIn P w K false) := by
  subst hP hw hK
  intro pins s σ H x y v u Q I rx ry h
  obtain ⟨a, D, ds, rfl, hd, hx, hdp, q⟩ := h
  cases (show u = Value.ref a from ry)
  obtain ⟨b, rfl, _, hk⟩ := key_is I hx hdp rx
  obtain ⟨xs, _, _, hs, dd, _, rel, _⟩ := hd.dict I
  refine wpAny_in_heap (knd := nestedKind X.prog X.w) (show X.A.units + 1 + 8 < cLine by omega) hk hs dd ?_
  have e := (rel (nk (.tuple ds))).isSome_eq
  rw [Option.isSome_map] at e
  rw [← e]
  refine ⟨.bl (D (nk (.tuple ds))).isSome, H, I.tok _, rfl, ?_⟩
  have e2 : (false != (D (nk (.tuple ds))).isSome) = (D (nk (.tuple ds))).isSome := by cases (D (nk (.tuple ds))).isSome <;> rfl
  rw [← e2]; exact q
theorem op_nnotin {P : Program} {w : World} {K : PySem.W.Frag} (hu : X.A.units + 64 < cLine) (hP : X.prog = P := by rfl) (hw : X.w = w := by rfl) (hK : X.K = K := by rfl) : OpR X (compareOp .NotIn) (rNIn P w K true) := by
  subst hP hw hK
  intro pins s σ H x y v u Q I rx ry h
  obtain ⟨a, D, ds, rfl, hd, hx, hdp, q⟩ := h
  cases (show u = Value.ref a from ry)
  obtain ⟨b, rfl, _, hk⟩ := key_is I hx hdp rx
  obtain ⟨xs, _, _, hs, dd, _, rel, _⟩ := hd.dict I
  refine wpAny_notIn_heap (knd := nestedKind X.prog X.w) (show X.A.units + 1 + 8 < cLine by omega) hk hs dd ?_
  have e := (rel (nk (.tuple ds))).isSome_eq
  rw [Option.isSome_map] at e
  rw [← e]
  refine ⟨.bl (!(D (nk (.tuple ds))).isSome), H, I.tok _, rfl, ?_⟩
  have e2 : (true != (D (nk (.tuple ds))).isSome) = !(D (nk (.tuple ds))).isSome := by cases (D (nk (.tuple ds))).isSome <;> rfl
  rw [← e2]; exact q
/-- d[y], there -/
def tNGet (P : Program) (w : World) (K : PySem.W.Frag) (td ty : TE) : TE := fun σ H Q => td σ H fun x H1 => ty σ H1 fun y H2 => ∃ a D ds v, x = .ref a ∧ NDat P w K H2 a D ∧ At K H2 y (.tuple ds) ∧ (PyData.tuple ds).depth ≤ 8 ∧ D (nk (.tuple ds)) = some v ∧ Q v H2
theorem pe_nget {P : Program} {w : World} {K : PySem.W.Frag} {o i : Expr} {pos : Pos} {td ty : TE} (hu : X.A.units + 64 < cLine) (ho : PE X o td) (hi : PE X i ty) (hs : NoSl i) (hP : X.prog = P := by rfl) (hw : X.w = w := by rfl) (hK : X.K = K := by rfl) : PE X (.Subscript o i pos) (tNGet P w K td ty) := by
  subst hP hw hK
  refine ⟨fun pins s σ H Q I h => ?_⟩
  refine subD_of PySem.F.slot_dict_getitem.lookup hs (thn (ho.run pins s σ H _ I h) fun u s1 ⟨x, H1, I1, rx, q1⟩ => thn (hi.run pins s1 σ H1 _ I1 q1) fun iv s2 ⟨y, H2, I2, ry, a, D, ds, v, ex, hd, hx, hdp, hv, q2⟩ => ?_)
  subst ex
  obtain rfl : u = Value.ref a := rx
  obtain ⟨b, rfl, _, hk⟩ := key_is I2 hx hdp ry
  obtain ⟨xs, _, _, _, dd, _, rel, _⟩ := hd.dict I2
  obtain ⟨w', hw, rw'⟩ := RelO.some_of (v := v) (o := (atKey xs (nk (.tuple ds))).map (·.2)) (by rw [← hv]; exact rel _)
  obtain ⟨p, hp, hp2⟩ := Option.map_eq_some_iff.mp hw
  refine ⟨dd.typeIs, wpAny_getItem_heap (knd := nestedKind X.prog X.w) (show X.A.units + 1 + 8 < cLine by omega) hk dd hp ?_⟩
  rw [hp2]
  exact ⟨v, H2, I2.tok _, rw', q2⟩
/-- d[y] = v; L: the keys that there may be -/
def sNPut (P : Program) (w : World) (K : PySem.W.Frag) (td ty tv : TE) : TS := fun Dn σ H => tv σ H fun v H1 => td σ H1 fun x H2 => ty σ H2 fun y H3 => ∃ a D ds, x = .ref a ∧ NDat P w K H3 a D ∧ At K H3 y (.tuple ds) ∧ (PyData.tuple ds).depth ≤ 8 ∧
  (∃ L : List NestedKey, (∀ k, (D k).isSome = true → k ∈ L) ∧ L.length < sizeLine) ∧ ∀ H4, (∀ b, b ≠ a → H4 b = H3 b) → Ext H3 H4 → NDat P w K H4 a (putD D (nk (.tuple ds)) v) → Dn.nx σ H4
theorem ps_nput {P : Program} {w : World} {K : PySem.W.Frag} {o i value : Expr} {pos pos' : Pos} {td ty tv : TE} (hu : X.A.units + 64 < cLine) (ho : PE X o td) (hi : PE X i ty) (hv : PE X value tv) (hs : swapsWith value (some (.Subscript o i pos')) pos.line X.env = pure false)
    (hP : X.prog = P := by rfl) (hw : X.w = w := by rfl) (hK : X.K = K := by rfl) : PS X (.Assign [.Subscript o i pos'] value pos) (sNPut P w K td ty tv) := by
  subst hP hw hK
  refine ⟨fun pins s σ H Dn I h => ?_⟩
  refine wpAny_Assign_Subscript (thn (hv.run pins s σ H _ I h) fun r s1 ⟨v, H1, I1, rv, q1⟩ => thn (ho.run pins s1 σ H1 _ I1 q1) fun u s2 ⟨x, H2, I2, rx, q2⟩ => thn (hi.run pins s2 σ H2 _ I2 q2) fun iv s3 ⟨y, H3, I3, ry, a, D, ds, ex, hd, hx, hdp, ⟨L, hL, hLn⟩, q3⟩ => ?_) hs
  subst ex
  obtain rfl : u = Value.ref a := rx
  obtain ⟨b, rfl, rfl, hk⟩ := key_is I3 hx hdp ry
  obtain ⟨xs, eA, hz, hsy, dd, hks, rel, hnd⟩ := hd.dict I3
  have hlen : xs.length ≤ L.length := by
    rw [← List.length_map (f := (·.1)) (as := xs)]
    refine nodup_le hnd fun k hk => ?_
    obtain ⟨x, hx, rfl⟩ := List.mem_map.mp hk
    refine hL _ ?_
    have e := (rel x.1).isSome_eq
    rw [Option.isSome_map] at e
    rw [e]; exact mem_atKey hx
  refine wpAny_setItem_heap (knd := nestedKind X.prog X.w) (hsz := hz) (show X.A.units + 1 + 8 < cLine by omega) hk dd fun h' dd' hs' => ?_
  obtain ⟨q, es, ep, hq, h2, h3, h4, _, h5⟩ := dd'
  have hl : (storedH xs (nk (.tuple ds)) b r).length ≤ sizeLine := by have := stored_len (xs := xs) (k := nk (.tuple ds)) (b := b) (u := r); omega
  have x34 : Ext H3 (upd H3 a (NDictO X.prog X.w a (storedH xs (nk (.tuple ds)) b r))) := Ext.wr eA (fun _ z => ndict_tup z) (fun _ _ z => ndict_frz z)
  refine ⟨σ, upd H3 a (NDictO X.prog X.w a (storedH xs (nk (.tuple ds)) b r)), d_write I3 (by rw [eA]; exact True.intro) hs' ⟨q, hq⟩ ⟨⟨hl, hsy, q, es, ep, hq, h2, h3, h4, h5⟩, ⟨q, hq⟩, fun h1 h2 ⟨a1, a2, o, es, ep, a3, a4⟩ hst => ⟨a1, a2, o, es, ep, hst o a3, a4⟩⟩, q3 _ (fun c hc => upd_ne hc) x34 ⟨_, upd_same, fun x hx' => ?_, fun k => ?_⟩⟩
  · rcases mem_stored hx' with ⟨y, hy, e1, e2⟩ | ⟨e1, e2⟩
    · obtain ⟨d, z1, z2, z3⟩ := hks y hy
      exact ⟨d, z1.trans e1, by rw [← e2]; exact z2.ext x34, z3⟩
    · exact ⟨_, e1.symm, by rw [e2]; exact hx.ext x34, hdp⟩
  · rw [atKey_stored]
    unfold putD
    by_cases e : k = nk (.tuple ds)
    · rw [if_pos e, if_pos e]; exact rv
    · rw [if_neg e, if_neg e]; exact rel k
/-- {} -/
def tNNew (P : Program) (w : World) (K : PySem.W.Frag) : TE := fun _ H Q => ∀ p H', H p = none → Same H H' → (∀ b, b ≠ p → H' b = H b) → NDat P w K H' p (fun _ => none) → Q (.ref p) H'
theorem pe_nnew {P : Program} {w : World} {K : PySem.W.Frag} {pos : Pos} (hP : X.prog = P := by rfl) (hw : X.w = w := by rfl) (hK : X.K = K := by rfl) : PE X (.Dict [] [] pos) (tNNew P w K) := by
  subst hP hw hK
  refine ⟨fun pins s σ H Q I h => wpAny_Dict_empty ⟨.ref s.heap.objs.size, _, I.laid (a := s.heap.objs.size) (o := NDictO X.prog X.w s.heap.objs.size []) (t' := s.toks) (fun _ _ q => Heap.get?_push_of_some _ q) (Nat.le_refl _) ?_, rfl, ?_⟩⟩
  · exact ⟨⟨Nat.zero_le _, beq_eq_false_iff_ne.mpr (Ne.symm (Nat.ne_of_lt I.big)), _, #[], 0, Heap.get?_push_size _ rfl, ⟨rfl, rfl, rfl⟩, rfl, rfl, List.nodup_nil⟩, ⟨_, Heap.get?_push_size _ rfl⟩, fun h1 h2 ⟨a1, a2, o, es, ep, a3, a4⟩ hst => ⟨a1, a2, o, es, ep, hst o a3, a4⟩⟩
  · have n := I.hok.fresh (Nat.le_refl s.heap.objs.size)
    exact h _ _ n (same_new n) (fun b hb => upd_ne hb) ⟨[], upd_same, (fun _ z => nomatch z), fun _ => True.intro⟩
end
end Sv

set_option maxHeartbeats 4000000
/-! ### classes, their fields and methods -/
namespace Sv
open PySem PySem.Spec PyProof.Rows L2 L2H HotX LamX
/-- what is known of a class at C with the fields fs -/
structure ClsT (K : PySem.W.Frag) (mg : Str → Option Value) (x : Str) (C : Addr) (fs : List Str) : Prop where
  cl : Cls K C
  nf : ∀ f ∈ fs, NoAttr K C f
  g : mg x = some (.ref C)
  mkn : PySem.W.makesIn K C = true
  kp : PySem.W.keepIn K (.ref C) = true
def clsB (K : PySem.W.Frag) (C : Addr) (fs : List Str) : Bool :=
  PySem.W.plainGet K C Str.empty && PySem.W.hasDictIn K C && PySem.W.plainOver K C && PySem.W.findIn K (.ref C) "__setattr__" == some (some (.builtin "object.__setattr__")) && PySem.W.makesIn K C && PySem.W.keepIn K (.ref C) && fs.all fun f => PySem.W.findIn K (.ref C) f == some none
theorem clsT_of {K : PySem.W.Frag} {mg : Str → Option Value} {h : Heap} {x : Str} {C : Addr} {fs : List Str} (X : K.In h) (G : h.Ns mainGlobals mg) (a : PySem.W.nsIn K mainGlobals x = some (some (.ref C))) (e : clsB K C fs = true) : ClsT K mg x C fs := by
  unfold clsB at e
  simp only [Bool.and_eq_true, beq_iff_eq, List.all_eq_true] at e
  obtain ⟨⟨⟨⟨⟨⟨h1, h2⟩, h3⟩, h4⟩, h5⟩, h6⟩, h7⟩ := e
  exact ⟨⟨h1, h2, h3, h4⟩, fun f hf => h7 f hf, PySem.W.mg_of X G a, h5, h6⟩
/-- the def st is the method m of the class at C -/
def HereM (K : PySem.W.Frag) (C : Addr) (m q : Str) (st : Stmt) : Prop := ∃ f fd, Fun K m q st f fd ∧ Meth K C m f
theorem hereM_mk {K : PySem.W.Frag} {C f : Addr} {m q : Str} {st : Stmt} {oc : Value} {od an : Option Addr} {osl : Array (Option Value)} {kV doc pm cdv ct : Value} (a : PySem.W.findIn K (.ref C) m = some (some (.ref f))) (i : PySem.W.isFn K (.ref f) = true)
    (l : K.lookup f = some ⟨oc, od, .func (PySem.W.fnOf m q (defArgs st) (defBody st) (defScope st) .none kV doc pm an cdv ct), osl⟩) (c : PySem.W.codeIn K cdv q = true) (k : PySem.W.keepIn K (.ref f) = true) : HereM K C m q st :=
  ⟨f, _, fun_mk l c k, a, i, k⟩
section
variable (P : Program) (w : World) (K : PySem.W.Frag) (mg : Str → Option Value) (base : Heap)
/-- the method m keeps the promise sp -/
def KeepsM (CX : CXT) (k : Nat) (C : Addr) (m : Str) (ps : List Str) (sp : Sp) : Prop := ∃ f fd, Meth K C m f ∧ Binds K fd ps [] ∧ FnOk P w K mg base CX k f fd ps sp
end
section
variable {P : Program} {w : World} {K : PySem.W.Frag} {mg : Str → Option Value} {base : Heap} {C : Addr}
theorem KeepsM.mono {CX : CXT} {j k : Nat} {m : Str} {ps : List Str} {sp : Sp} (D : KeepsM P w K mg base CX j C m ps sp) (h : j ≤ k) : KeepsM P w K mg base CX k C m ps sp := by
  obtain ⟨f, fd, a, b, c⟩ := D
  exact ⟨f, fd, a, b, c.mono h⟩
/-- a method that lets no exception out -/
theorem keepsM0 {m q : Str} {st : Stmt} {N ps : List Str} {k : Nat} {sp : Sp} (F : HereM K C m q st) (S : FnScope N ps (defScope st))
    (hb : ∀ (kV doc pm : Value) (an : Option Addr) (cdv ct : Value) (us : List Value), us.length = ps.length → bindArgs (PySem.W.fnOf m q (defArgs st) (defBody st) (defScope st) .none kV doc pm an cdv ct) ⟨us, []⟩ = pure (ps.zip us))
    (len : ∀ vs H Q E, sp vs H Q E → vs.length = ps.length)
    (hbody : ∀ (f : Addr) (cdv : Value) (A : Around) (outer : List Env) (s : Shared) (H : Hp) (vs : List V) (Q : VK) (E : XK), Room k (A.deeper (envOfC q (defScope st) s.heap.objs.size f cdv)) → sp vs H Q E →
      ∃ t, PSs (cxOf CX0 P w K mg base N q (defScope st) f cdv A outer s H E).nox (defBody st) t ∧ t { nx := fun _ H' => Q .non H', rt := Q } (start N vs) H) : KeepsM P w K mg base CX0 (k + 1) C m ps sp := by
  obtain ⟨f, fd, F, g⟩ := F
  exact ⟨f, fd, g, F.binds hb, F.ok S len fun cdv A outer s H vs Q E hr h => hbody f cdv A outer s H vs Q E hr h⟩
/-- a method that may raise -/
theorem keepsMN {m q : Str} {st : Stmt} {N ps : List Str} {k : Nat} {sp : Sp} (F : HereM K C m q st) (S : FnScope N ps (defScope st))
    (hb : ∀ (kV doc pm : Value) (an : Option Addr) (cdv ct : Value) (us : List Value), us.length = ps.length → bindArgs (PySem.W.fnOf m q (defArgs st) (defBody st) (defScope st) .none kV doc pm an cdv ct) ⟨us, []⟩ = pure (ps.zip us))
    (len : ∀ vs H Q E, sp vs H Q E → vs.length = ps.length)
    (hbody : ∀ (f : Addr) (cdv : Value) (A : Around) (outer : List Env) (s : Shared) (H : Hp) (vs : List V) (Q : VK) (E : XK), Room k (A.deeper (envOfC q (defScope st) s.heap.objs.size f cdv)) → sp vs H Q E →
      ∃ t, PSs (cxOf (L2N.CX P w) P w K mg base N q (defScope st) f cdv A outer s H E) (defBody st) t ∧ t { nx := fun _ H' => Q .non H', rt := Q } (start N vs) H) : KeepsM P w K mg base (L2N.CX P w) (k + 1) C m ps sp := by
  obtain ⟨f, fd, F, g⟩ := F
  have bd := F.binds hb
  obtain ⟨oc, od, kV, doc, pm, an, cdv, ct, osl, rfl, lk, hcd⟩ := F.ex
  exact ⟨f, _, g, bd, fn_of lk hcd S len fun A outer s H vs Q E hr hsp => hbody f cdv A outer s H vs Q E hr hsp⟩
end
section
variable {X : Cx} {o e value : Expr} {es : List Expr} {f m x : Str} {pos pos' apos p : Pos} {ta tv : TE} {t : TA} {C : Addr} {k : Nat} {ps : List Str} {sp : Sp} {E : XK} {CX : CXT}
/-- o.f -/
def tFldK (C : Addr) (f : Str) (ta : TE) : TE := fun σ H Q => ta σ H fun x H1 => ∃ a dx fs v, x = .ref a ∧ H1 a = some (.ins C dx fs) ∧ fs.lookup f = some v ∧ Q v H1
theorem pe_fldK (c : Cls X.K C) (n : NoAttr X.K C f) (he : PE X e ta) (hb : attributeBase e f X.env (eval e X.env) = eval e X.env := by rfl) : PE X (.Attribute e f pos) (tFldK C f ta) := by
  refine ⟨fun pins s σ H Q I h => ?_⟩
  refine attr_of hb (thn (he.run pins s σ H _ I h) fun u s1 ⟨x, H1, I1, rx, a, dx, fs, v, ex, ea, l, q⟩ => ?_)
  subst ex
  obtain rfl : u = Value.ref a := rx
  exact getattr_ok I1 ea c n l fun u' s2 I2 ru => ⟨v, H1, I2, ru, q⟩
/-- o.f = e -/
def sFldK (C : Addr) (f : Str) (ta tv : TE) : TS := fun D σ H => tv σ H fun y H1 => ta σ H1 fun x H2 => ∃ a dx fs, x = .ref a ∧ H2 a = some (.ins C dx fs) ∧ fs.length < 1000 ∧ D.nx σ (upd H2 a (.ins C dx (putF f y fs)))
theorem ps_fldK (c : Cls X.K C) (n : NoAttr X.K C f) (ha : PE X o ta) (hv : PE X value tv) (hs : swapsWith value (some (.Attribute o f pos')) pos.line X.env = pure false := by rfl) : PS X (.Assign [.Attribute o f pos'] value pos) (sFldK C f ta tv) := by
  refine ⟨fun pins s σ H D I h => ?_⟩
  refine plainObj_wpAny_Assign_Attribute (thn (hv.run pins s σ H _ I h) fun u s1 ⟨y, H1, I1, ry, q⟩ => thn (ha.run pins s1 σ H1 _ I1 q) fun ov s2 ⟨x, H2, I2, rx, a, dx, fs, ex, ea, l, q2⟩ => ?_) hs
  subst ex
  obtain rfl : ov = Value.ref a := rx
  exact setattr_ok I2 ea c n l ry fun s3 I3 => ⟨σ, _, I3, q2⟩
/-- o.m(..) -/
def tMethK (C : Addr) (m : Str) (sp : Sp) (E : XK) (ta : TE) (t : TA) : TE := fun σ H Q => ta σ H fun x H1 => ∃ a dx fs, x = .ref a ∧ H1 a = some (.ins C dx fs) ∧ fs.lookup m = none ∧ t σ H1 fun vs H2 => sp (x :: vs) H2 Q E
theorem tMethK_eq (ta : TE) (t : TA) : tMeth C m sp [] E ta t = tMethK C m sp E ta t := by
  funext σ H Q
  unfold tMeth tMethK
  simp only [List.append_nil]
theorem pe_m0 {pl : Sem Bool} (D : KeepsM X.prog X.w X.K X.mg X.base CX0 k C m ps sp) (c : Cls X.K C) (hr : Room k X.A) (he : PE X o ta) (ha : PA X (e :: es) t)
    (hst : starEach (e :: es) X.env = (false, eval e X.env) :: starEach es X.env := by rfl) (hpl : (backTo pos (starEach es X.env)).any (·.1) = false := by rfl)
    (ht : eval (.Call (.Attribute o m apos) (e :: es) [] pos) X.env = (do
      let ov ← eval o X.env
      standAt apos.atName
      let (f, first) ← holding [ov] (getMethod ov m pl)
      callWith pos f first (backTo pos (starEach (e :: es) X.env)) (backToKw pos (keywordEach [] X.env))) := by rfl) : PE X (.Call (.Attribute o m apos) (e :: es) [] pos) (tMethK C m sp E0 ta t) := by
  obtain ⟨g, fd, a, b, d⟩ := D
  have h := pe_meth (pos := pos) (apos := apos) (pl := pl) he c a d hr b .nil pass0 ha hst hpl ht
  rw [← tMethK_eq]
  exact h
theorem pe_m00 {pl : Sem Bool} (D : KeepsM X.prog X.w X.K X.mg X.base CX0 k C m ps sp) (c : Cls X.K C) (hr : Room k X.A) (he : PE X o ta)
    (ht : eval (.Call (.Attribute o m apos) [] [] pos) X.env = (do
      let ov ← eval o X.env
      standAt apos.atName
      let (f, first) ← holding [ov] (getMethod ov m pl)
      callWith pos f first (backTo pos (starEach [] X.env)) (backToKw pos (keywordEach [] X.env))) := by rfl) : PE X (.Call (.Attribute o m apos) [] [] pos) (tMethK C m sp E0 ta tNil) := by
  obtain ⟨g, fd, a, b, d⟩ := D
  have h := pe_meth0 (pos := pos) (apos := apos) (pl := pl) he c a d hr b .nil pass0 ht
  rw [← tMethK_eq]
  exact h
theorem pe_mX {pl : Sem Bool} {W : WX} (D : KeepsM X.prog X.w X.K X.mg X.base (L2N.CX X.prog X.w) k C m ps sp) (c : Cls X.K C) (hr : Room k X.A) (tk : L2N.Takes X W) (hW : ∀ cls d σ H, E cls d H → W cls d σ H) (he : PE X o ta) (ha : PA X (e :: es) t)
    (hst : starEach (e :: es) X.env = (false, eval e X.env) :: starEach es X.env := by rfl) (hpl : (backTo pos (starEach es X.env)).any (·.1) = false := by rfl)
    (ht : eval (.Call (.Attribute o m apos) (e :: es) [] pos) X.env = (do
      let ov ← eval o X.env
      standAt apos.atName
      let (f, first) ← holding [ov] (getMethod ov m pl)
      callWith pos f first (backTo pos (starEach (e :: es) X.env)) (backToKw pos (keywordEach [] X.env))) := by rfl) : PE X (.Call (.Attribute o m apos) (e :: es) [] pos) (tMethK C m sp E ta t) := by
  obtain ⟨g, fd, a, b, d⟩ := D
  have h := pe_meth (pos := pos) (apos := apos) (pl := pl) (E := E) he c a d hr b .nil (L2N.passes_call tk hW) ha hst hpl ht
  rw [← tMethK_eq]
  exact h
theorem pe_mX0 {pl : Sem Bool} {W : WX} (D : KeepsM X.prog X.w X.K X.mg X.base (L2N.CX X.prog X.w) k C m ps sp) (c : Cls X.K C) (hr : Room k X.A) (tk : L2N.Takes X W) (hW : ∀ cls d σ H, E cls d H → W cls d σ H) (he : PE X o ta)
    (ht : eval (.Call (.Attribute o m apos) [] [] pos) X.env = (do
      let ov ← eval o X.env
      standAt apos.atName
      let (f, first) ← holding [ov] (getMethod ov m pl)
      callWith pos f first (backTo pos (starEach [] X.env)) (backToKw pos (keywordEach [] X.env))) := by rfl) : PE X (.Call (.Attribute o m apos) [] [] pos) (tMethK C m sp E ta tNil) := by
  obtain ⟨g, fd, a, b, d⟩ := D
  have h := pe_meth0 (pos := pos) (apos := apos) (pl := pl) (E := E) he c a d hr b .nil (L2N.passes_call tk hW) ht
  rw [← tMethK_eq]
  exact h
/-- C(..) -/
def tMakeK (C : Addr) (sp : Sp) (E : XK) (t : TA) : TE := fun σ H Q => t σ H fun vs H1 => ∀ x dx, H1 x = none → H1 dx = none → dx ≠ x → sp (.ref x :: vs) (upd (upd H1 dx (.own x)) x (.ins C dx [])) (fun v H2 => v = .non ∧ Q (.ref x) H2) E
theorem tMakeK_eq (t : TA) : tMake C sp [] E t = tMakeK C sp E t := by
  funext σ H Q
  unfold tMake tMakeK
  simp only [List.append_nil]
theorem pe_mkX {W : WX} {fs : List Str} (D : KeepsM X.prog X.w X.K X.mg X.base (L2N.CX X.prog X.w) k C "__init__" ps sp) (T : ClsT X.K X.mg x C fs) (hr : Room (k + 1) X.A) (hg : Gl X x) (tk : L2N.Takes X W) (hW : ∀ cls d σ H, E cls d H → W cls d σ H) (ha : PA X (e :: es) t)
    (hdb : (x == ("__debug__" : Str)) = false := by decide) (he : starEach (e :: es) X.env = (false, eval e X.env) :: starEach es X.env := by rfl) (hpl : (backTo pos (starEach es X.env)).any (·.1) = false := by rfl) : PE X (.Call (.Name x p) (e :: es) [] pos) (tMakeK C sp E t) := by
  obtain ⟨g, fd, a, b, d⟩ := D
  have h := pe_make (pos := pos) (p := p) (E := E) (M := ⟨T.mkn, a.at_, a.fn, T.kp⟩) d hr hg T.g b .nil (L2N.passes_call tk hW) ha hdb he hpl
  rw [← tMakeK_eq]
  exact h
theorem pe_mkN {fs : List Str} (D : KeepsM X.prog X.w X.K X.mg X.base (L2N.CX X.prog X.w) k C "__init__" ps sp) (T : ClsT X.K X.mg x C fs) (hr : Room (k + 1) X.A) (hg : Gl X x) (ha : PA X (e :: es) t)
    (hdb : (x == ("__debug__" : Str)) = false := by decide) (he : starEach (e :: es) X.env = (false, eval e X.env) :: starEach es X.env := by rfl) (hpl : (backTo pos (starEach es X.env)).any (·.1) = false := by rfl) : PE X (.Call (.Name x p) (e :: es) [] pos) (tMakeK C sp E0 t) := by
  obtain ⟨g, fd, a, b, d⟩ := D
  have h := pe_make (pos := pos) (p := p) (E := E0) (M := ⟨T.mkn, a.at_, a.fn, T.kp⟩) d hr hg T.g b .nil passN ha hdb he hpl
  rw [← tMakeK_eq]
  exact h
theorem pe_mk0 {fs : List Str} (D : KeepsM X.prog X.w X.K X.mg X.base CX0 k C "__init__" ps sp) (T : ClsT X.K X.mg x C fs) (hr : Room (k + 1) X.A) (hg : Gl X x)
    (hdb : (x == ("__debug__" : Str)) = false := by decide) : PE X (.Call (.Name x p) [] [] pos) (tMakeK C sp E0 tNil) := by
  obtain ⟨g, fd, a, b, d⟩ := D
  have h := pe_make0 (pos := pos) (p := p) (E := E0) (M := ⟨T.mkn, a.at_, a.fn, T.kp⟩) d hr hg T.g b .nil pass0 hdb
  rw [← tMakeK_eq]
  exact h
/-- len(o), by the class's own __len__ -/
def rLenOwn (C : Addr) (sp : Sp) : List V → Hp → VK → Prop := fun xs H Q => ∃ a dx fs, xs = [V.ref a] ∧ H a = some (.ins C dx fs) ∧ sp [.ref a] H (fun z H' => ∃ i, z = .int i ∧ 0 ≤ i ∧ i < 2 ^ 63 ∧ Q z H') E0
theorem call_lenOwn (D : KeepsM X.prog X.w X.K X.mg X.base CX0 k C "__len__" ps sp) (hr : Room (k + 1) X.A) : CallR X (.builtin "len") (rLenOwn C sp) := by
  obtain ⟨g, fd, hm, hb, F⟩ := D
  intro pins s σ H xs us Q I r h
  obtain ⟨a, dx, fs, rfl, ha, hsp⟩ := h
  obtain ⟨u, rfl, ru⟩ := r.one
  cases (show u = Value.ref a from ru)
  obtain ⟨mA, J, _⟩ := ins_get I.hok ha
  obtain ⟨od, J, _⟩ := J.look
  obtain ⟨m, hF⟩ := I.fr
  refine PySem.W.len_K hF I.ok.mod.kin J hm.at_ hm.fn ?_
  have hl := F.len _ _ _ _ hsp
  have e0 : Env0 X.prog X.w X.K X.mg X.base X.A.in1 X.stack s H := I.env0.in1
  refine wpAny_call (codeAny_mono (F.run X.A.in1 X.stack s H ⟨[.ref a], []⟩ [.ref a] [.ref a] _ E0 hr.in1 e0 (by
    have := hb s [.ref a] I.kIn (by simpa using hl)
    simpa using this) (.cons rfl .nil) hsp) fun r s' hq => ?_)
  cases r with
  | error e => exact (show False from hq).elim
  | ok fl =>
    cases fl with
    | ret w =>
      obtain ⟨z, H', I', rz, i, ez, h0, h1, q⟩ := I.after hq
      subst ez
      obtain ⟨t, rfl⟩ := (show ∃ t, w = Value.int i t from rz)
      exact ⟨⟨h0, h1⟩, .int i, H', I'.tok _, ⟨_, rfl⟩, q⟩
    | next => exact False.elim hq
    | brk => exact False.elim hq
    | cont => exact False.elim hq
end
theorem putF_lt {f : Str} {v : V} : ∀ {fs : List (Str × V)} {k : Nat}, fs.length < k → (putF f v fs).length < k + 1
  | [], k, h => by unfold putF; simp at h ⊢; omega
  | (g, x) :: r, k, h => by
    unfold putF
    split
    · simp at h ⊢; omega
    · have := putF_lt (f := f) (v := v) (fs := r) (k := k - 1) (by simp at h; omega)
      simp at h ⊢; omega
theorem putF_few {f : Str} {v : V} {fs : List (Str × V)} (h : fs.length < 100) : (putF f v fs).length < 1000 := Nat.lt_of_lt_of_le (putF_lt h) (by decide)
end Sv

set_option maxHeartbeats 4000000
/-! ### an exception that leaves a list comprehension -/
namespace Sv
open PySem PySem.Spec PyProof.Rows L2 L2H HotX LamX
theorem note_alike {x : Value} {e1 e2 : Env} (h : e1.frame = e2.frame) : noteFrame x e1 = noteFrame x e2 := by
  unfold noteFrame PySem.frameOf
  rw [h]
section
variable {M : Model} {A : Around} {E : Value → Shared → Prop} {s : Shared} {Z : Obj → Prop} {g : Heap} {env : Env} {outer : List Env} {L e : Addr}
/-- it leaves the frame, wherever it was last seen -/
theorem leaves_any {fr : Option Addr} {Q : Unit → Shared → Prop} (hZ : PXN.Steady1 Z) (hfr : A.frames = some (env :: outer)) (hf : env.frame = some L) (kb : g.StaysIn s.heap) (en : g.get? e = none) (hl : s.heap.FunFrames g (env :: outer))
    (ht : HandSPX.TracedZ s.heap g e Z (fr.elim Value.none fun f => rawInt f)) (hQ : ∀ h', HandSPX.FlyingZ g outer e Z h' → s.heap.UpToSlots h' → Q () { s with heap := h' }) : wpAny M A (leaving env (.ref e)) Q E s := by
  by_cases hv : fr = some L
  · subst hv
    exact HandSPX.leaves_heldZ hf ⟨kb, en, hl, ht⟩ hQ
  · have hb : ¬ ((fr.elim Value.none fun f => rawInt f) == rawInt L) = true := fun z => by
      cases fr with
      | none => simp [rawInt] at z
      | some f =>
        apply hv
        have : rawInt f = rawInt L := by simpa using z
        simp [rawInt] at this
        exact congrArg some (Int.ofNat_inj.mp this)
    obtain ⟨oe, vs, T, oT, ts, he, hz, hd, q1, nT, Te, hT, dT, q3⟩ := ht
    unfold leaving noteFrame
    simp only [hf]
    refine wpAny_bind (wpAny_bind (wpAny_field he hd q1 ?_))
    have yes : (Value.ref T != Value.none) = true := by simp
    rw [if_pos yes]
    refine wpAny_bind (wpAny_field hT dT q3 ?_)
    rw [if_neg hb]
    have sz3 : 3 < ts.size := (Array.getElem?_eq_some_iff.mp q3).1
    have sz1 : 1 < vs.size := (Array.getElem?_eq_some_iff.mp q1).1
    refine wpAny_bind (wpAny_setField hT dT sz3 ?_)
    have oth : ∀ b, b ≠ T → (s.heap.update T (Obj.mapFields fun a => a.setIfInBounds 3 Value.none)).get? b = s.heap.get? b := fun b n => Heap.get?_update_other _ _ n.symm
    have norec : ∀ b o, s.heap.get? b = some o → (∀ vs, o.data ≠ .fields vs) → b ≠ T := fun b o q nf z => by
      subst z
      rw [hT] at q
      cases q
      exact nf ts dT
    have fr2 := hl.of_keeps (h' := s.heap.update T (Obj.mapFields fun a => a.setIfInBounds 3 Value.none)) fun b o q nf => ⟨o, (oth b (norec b o q nf)).trans q, rfl⟩
    have kb2 : g.StaysIn (s.heap.update T (Obj.mapFields fun a => a.setIfInBounds 3 Value.none)) := fun b o q => by
      have nb : b ≠ T := fun z => by rw [z, nT] at q; cases q
      rw [oth b nb]; exact kb b o q
    have he2 : (s.heap.update T (Obj.mapFields fun a => a.setIfInBounds 3 Value.none)).get? e = some oe := by rw [oth e Te.symm]; exact he
    refine PXN.wpAny_newEntryZ hZ hfr fr2 hf he2 kb2 en hd sz1 hz fun h' nz => ?_
    obtain ⟨z1, ⟨_, _, z2⟩, z3, z4⟩ := nz
    refine hQ h' ⟨z1, en, z2, z3⟩ fun b o q nf => ?_
    exact z4 b o ((oth b (norec b o q nf)).trans q) nf
end
section
variable {X : Cx}
/-- the comprehension's block, where what is raised is E's -/
abbrev blkR (X : Cx) (s : Shared) (H : Hp) (scope : Scope) (ce : Env) (fp : List Addr) (E : XK) : Cx :=
  (X.blk s H scope ce fp).wish fun u t => ∃ pins σ H' s', Inv (X.blk s H scope ce fp) pins σ H' s' ∧ L2N.CX X.prog X.w X.stack H' s' E u t
theorem passB {s : Shared} {H : Hp} {scope : Scope} {ce : Env} {fp : List Addr} {E : XK} : Passes (L2N.CX X.prog X.w) (blkR X s H scope ce fp E) E := fun pins σ H' s' u t I c => ⟨pins, σ, H', s', I.unwish, c⟩
/-- f(e, ..) there -/
theorem pe_dB {s : Shared} {H : Hp} {scope : Scope} {ce : Env} {fp : List Addr} {E : XK} {k : Nat} {x : Str} {ps : List Str} {sp : Sp} {q pos : Pos} {e : Expr} {es : List Expr} {t : TA} (D : Keeps' X.prog X.w X.K X.mg X.base (L2N.CX X.prog X.w) k x ps sp) (hr : Room k X.A) (hg : Gl (blkR X s H scope ce fp E) x) (ha : PA (blkR X s H scope ce fp E) (e :: es) t)
    (hdb : (x == ("__debug__" : Str)) = false := by decide) (he : starEach (e :: es) ce = (false, eval e ce) :: starEach es ce := by rfl) (hpl : (backTo pos (starEach es ce)).any (·.1) = false := by rfl) :
    PE (blkR X s H scope ce fp E) (.Call (.Name x q) (e :: es) [] pos) (tD sp E t) := by
  obtain ⟨f, fd, a, b, c, d⟩ := D
  have h := pe_call (X := blkR X s H scope ce fp E) (pos := pos) (p := q) (E := E) d hr hg a b c .nil passB ha hdb he hpl
  rw [← tCall_nil]
  exact h
/-- it leaves the block, then the def -/
theorem comp_out {pins : List (Addr × Obj)} {s3 t : Shared} {σ : L2.St} {H3 : Hp} {scope : Scope} {ce : Env} {fp : List Addr} {E : XK} {E₁ : Value → Shared → Prop} {Qf : Value → Shared → Prop} {D : Addr} {u : Value}
    (hs : X.stack = X.env :: X.outer) (hf : X.env.frame = some X.env.locals) (hex : X.ex = []) (hx : X.xe = fun e s' => wpAny (model X.prog X.w) X.A (leaving X.env e) (fun _ s'' => L2N.CX X.prog X.w X.outer X.H_0 X.s_0 E e s'') E₁ s')
    (I3 : Inv X pins σ H3 s3) (hL : ce.locals = s3.heap.objs.size) (hcf : ce.frame = X.env.frame) (hfp : ∀ b ∈ fp, (b ∈ X.ex ∨ X.s_0.heap.objs.size ≤ b) ∧ b ≠ X.env.locals ∧ (∀ x c, X.env.cells.lookup x = some c → c ≠ b) ∧ ∀ p ∈ X.pn ++ pins, p.1 ≠ b)
    (xx : (blkR X s3 H3 scope ce fp E).xe u t) : notedBy (model X.prog X.w) X.A ce (fun e s' => compPost (model X.prog X.w) X.A X.xe none Qf (.ref D) s3.heap.objs.size (.error e) s') u t := by
  obtain ⟨pb, σb, Hb, sb, Ib, a, B, H', cls, d, rfl, fl, hok, ub, na, os, ag, hE⟩ := xx
  have J : Inv X pins σ Hb sb := I3.call' (ch := fp) Ib.os Ib.base Ib.hok Ib.bare hfp
  have nC : Hb s3.heap.objs.size = none := by
    have z : Hb ce.locals = none := Ib.free
    rw [hL] at z; exact z
  obtain ⟨m, hn, _⟩ := Ib.loc
  have hn : sb.heap.Ns ce.locals m := hn
  rw [hL] at hn
  obtain ⟨oC, _, _, eC, _⟩ := id hn
  have hCf : s3.heap.objs.size ∉ frs X.stack := fun z => by
    obtain ⟨_, o, ho, _⟩ := I3.stack.mem z
    exact absurd (Heap.lt_size ho) (Nat.lt_irrefl _)
  have eB : B.get? s3.heap.objs.size = some oC := ub.keep _ _ eC nC hCf
  have nC' : H' s3.heap.objs.size = none := ub.free _ _ eC nC
  have hfr : X.A.frames = some (X.env :: X.outer) := by rw [J.ok.frames, hs]
  have fl' : HandSPX.FlyingZ B (X.env :: X.outer) a (L2N.Zn cls d) t.heap := by rw [← hs]; exact fl
  have hCnf : ∀ vs, oC.data ≠ .fields vs := by
    obtain ⟨o, es, ep, e1, e2, _⟩ := id hn
    rw [eC] at e1
    cases e1
    intro vs z
    rw [e2] at z; cases z
  show wpAny _ _ (noteFrame (.ref a) ce) _ _ _
  rw [note_alike hcf]
  refine PXN.looks_onZ L2N.Zn.steady hfr hf fl' fun h1 hh up1 => ?_
  obtain ⟨kb1, en1, ff1, tr1⟩ := hh
  refine ⟨m, hn.at fun o e => kb1 _ _ (by rw [eC] at e; cases e; exact eB), fun h2 sb2 cenv' _ => ?_⟩
  -- the ground without the block's names
  generalize hG : PySem.W.hideAll B [s3.heap.objs.size] = G
  have gB : ∀ b o, G.get? b = some o → B.get? b = some o ∧ b ≠ s3.heap.objs.size := fun b o e => by
    rw [← hG] at e
    refine ⟨PySem.W.of_hideAll _ e, fun z => ?_⟩
    rw [z, PySem.W.hideAll_none _ (List.mem_singleton.mpr rfl)] at e
    cases e
  have Bg : ∀ b o, B.get? b = some o → b ≠ s3.heap.objs.size → G.get? b = some o := fun b o e n => by
    rw [← hG]
    exact PySem.W.hideAll_get _ e fun z => n (List.mem_singleton.mp z)
  have Gn : ∀ b, B.get? b = none → G.get? b = none := fun b e => by
    cases q : G.get? b with
    | none => rfl
    | some o => rw [(gB b o q).1] at e; cases e
  have kb2 : G.StaysIn h2 := fun b o e => by
    obtain ⟨e1, e2⟩ := gB b o e
    rw [sb2.2 b e2]; exact kb1 b o e1
  have neC : ∀ b, B.get? b = none → b ≠ s3.heap.objs.size := fun b e z => by rw [z, eB] at e; cases e
  have ffG : ∀ l, h1.FunFrames B l → h2.FunFrames G l := fun l => by
    induction l with
    | nil => exact fun _ => True.intro
    | cons ev r ih =>
      rintro ⟨q1, ⟨Lx, ox, q2, q3, q4, q5⟩, q6⟩
      exact ⟨q1, ⟨Lx, ox, q2, Gn _ q3, by rw [sb2.2 Lx (neC Lx q3)]; exact q4, q5⟩, ih q6⟩
  have ff2 := ffG _ ff1
  have tr2 : HandSPX.TracedZ h2 G a (L2N.Zn cls d) (rawInt X.env.locals) := by
    obtain ⟨oe, vs, T, oT, ts, he, hz, hd, q1, nT, Te, hT, dT, q3⟩ := tr1
    exact ⟨oe, vs, T, oT, ts, by rw [sb2.2 a (neC a en1)]; exact he, hz, hd, q1, Gn _ nT, Te, by rw [sb2.2 T (neC T nT)]; exact hT, dT, q3⟩
  -- passed on
  unfold PySem.passOn
  obtain ⟨oe, vs, T, oT, ts, he, hz, hd, q1, nT, Te, hT, dT, q3⟩ := id tr2
  refine wpAny_bind (wpAny_field he hd q1 ?_)
  have no : ¬ (Value.ref T == Value.none) = true := by simp
  rw [if_neg no]
  refine wpAny_bind (HandSPX.setFlight_anyZ kb2 ff2 tr2 fun h3 kb3 ff3 tr3 up3 => wpAny_throw ?_)
  rw [hx]
  refine leaves_any L2N.Zn.steady hfr hf kb3 (Gn _ en1) ff3 tr3 fun h4 fl4 up4 => ?_
  have nst : ∀ b o, X.s_0.heap.get? b = some o → b ∉ X.fs → b ∉ frs X.stack := fun b o e hb hm => by
    rcases List.mem_cons.mp (J.stkSub b hm) with z | z
    · have l1 := Heap.lt_size e
      have l2 := J.ok.above
      rw [z] at l1
      exact absurd (Nat.lt_of_lt_of_le l1 l2) (Nat.lt_irrefl _)
    · exact hb z
  have hex' : ∀ b, b ∉ X.ex := fun b hb => by rw [hex] at hb; cases hb
  have below : ∀ b o, X.s_0.heap.get? b = some o → b ≠ s3.heap.objs.size := fun b o e z => by
    have l1 := Heap.lt_size e
    rw [z] at l1
    exact absurd (Nat.lt_of_lt_of_le l1 I3.sz) (Nat.lt_irrefl _)
  refine ⟨a, G, H', cls, d, rfl, fl4, ?_, ⟨fun b o e n hb => ?_, fun b o e hb => ?_, fun b o e n => ?_, fun b o e hb => ?_, fun b xs e => ub.tups _ _ (J.base.tups _ _ e), fun b o xs e => ub.frzs _ _ _ (J.base.frzs _ _ _ e), fun b ps e => ?_⟩, na, os.trans J.os, ag, hE⟩
  · intro b o q
    refine (hok b o q).stay (fun c v hc r => Bg c v r fun z => ?_) (fun _ r => r) fun _ _ r => r
    rcases hc with hc | hc
    · rw [← z, hc, q] at nC'; cases nC'
    · rw [← z, hc] at nC'; cases nC'
  · have e1 := J.base.keep b o e n hb (hex' b)
    have n1 := J.base.free b o e n (hex' b)
    exact Bg _ _ (ub.keep b o e1 n1 (nst b o e hb)) (below b o e)
  · obtain ⟨_, o₀, e₀, hnf⟩ := J.ok.funs.mem hb
    rw [e] at e₀
    cases e₀
    obtain ⟨sl, e1⟩ := J.base.slot b o e (J.ok.frf b hb) hb (hex' b)
    have hbs : b ∈ frs X.stack := by rw [hs]; unfold frs; rw [List.filterMap_cons, hf]; exact List.mem_cons_of_mem _ hb
    obtain ⟨sl1, e2⟩ := ub.slot b _ e1 hbs
    obtain ⟨sl2, e3⟩ := up1 b _ e2 hnf
    have e4 := (sb2.2 b (below b o e)).trans e3
    obtain ⟨sl3, e5⟩ := up3 b _ e4 hnf
    obtain ⟨sl4, e6⟩ := up4 b _ e5 hnf
    exact ⟨sl4, e6⟩
  · by_cases hb : b ∈ frs X.stack
    · have n1 := J.base.free b o e n (hex' b)
      obtain ⟨o', e1⟩ := J.base.there b o e (hex' b)
      exact ub.free b o' e1 n1
    · have n1 := J.base.free b o e n (hex' b)
      obtain ⟨o', e1⟩ := J.base.there b o e (hex' b)
      exact ub.free b o' e1 n1
  · obtain ⟨o', e1⟩ := J.base.there b o e (hex' b)
    obtain ⟨o'', e2⟩ := ub.there b o' e1 (nst b o e hb)
    exact ⟨o'', Bg _ _ e2 (below b o e)⟩
  · obtain ⟨m1, e1⟩ := J.base.tbls b ps e
    obtain ⟨m2, e2⟩ := ub.tbls b _ e1
    exact ⟨m1 ++ m2, by rw [e2, Array.append_assoc]⟩
/-- [elt for target in iter if ..] in a def; what elt raises leaves it -/
theorem pe_lcX {E : XK} {E₁ : Value → Shared → Prop} {elt tg iter : Expr} {ifs : List Expr} {scope : Scope} {own : List (Str × Nat)} {pos : Pos} {wi : TI} {g : TG} {tt : TT} {te : TE} (hs : X.stack = X.env :: X.outer) (hf : X.env.frame = some X.env.locals) (hex : X.ex = [])
    (hx : X.xe = fun e s' => wpAny (model X.prog X.w) X.A (leaving X.env e) (fun _ s'' => L2N.CX X.prog X.w X.outer X.H_0 X.s_0 E e s'') E₁ s') (hc : X.calm = true) (hN : X.N.Nodup) (hi : PI X tg iter wi) (ok : BlkOk X.N X.env.scope scope own)
    (hg : ∀ (s : Shared) (H : Hp) (C : Addr) (cl : List (Str × Addr)) (fp : List Addr), PG (X.blk s H scope (compEnvC scope cl C X.env) fp) tg g) (ht : ∀ (s : Shared) (H : Hp) (C : Addr) (cl : List (Str × Addr)) (fp : List Addr), PTs (X.blk s H scope (compEnvC scope cl C X.env) fp) ifs tt)
    (he : ∀ (s : Shared) (H : Hp) (C : Addr) (cl : List (Str × Addr)) (fp : List Addr), PE (blkR X s H scope (compEnvC scope cl C X.env) fp E) elt te) (hfo : ∀ x, foldedSetIterable iter X.env x = pure x := by intro _; rfl) :
    PE X (.ListComp elt [⟨tg, iter, ifs, 0⟩] scope pos) (tLc wi g tt te (own.map (·.2))) := by
  refine ⟨fun pins sa σ Ha Q Ia hw => ?_⟩
  rw [eval_ListComp]
  have hfree : ∀ y ∈ scope.names, y.2 = .free → ∃ c, X.env.cells.lookup y.1 = some c := fun y hy e => (ok.free y hy e).elim (fun k => Ia.ok.has _ (.inl k)) fun k => Ia.ok.has _ (.inr k)
  refine wpAny_comprehension_free (use := none) rfl hfo (closure_ok hfree) ok.kind (fun y hy e => by rw [ok.uniq y hy, e]) ?_
  refine thn (hi.run pins sa σ Ha _ Ia hw) fun xv s1 q1 => thn q1 fun itv sb qb => ?_
  obtain ⟨it, fp, tn, J, Hb, e, Ib, T, stb, fb, q⟩ := qb
  subst e
  refine wpAny_newObj_type (newEnv_comp ?_) (by show 0 ≤ sizeLine; decide)
  generalize hD : sb.heap.objs.size = D
  have nD : Hb D = none := Ib.hok.fresh (Nat.le_of_eq hD)
  obtain ⟨W, ⟨m0, w0⟩, turn⟩ := q D nD
  generalize hsc : ({ sb with heap := sb.heap.push { cls := .type "list", data := .seq ([] : List Value).toArray } } : Shared) = sc
  have Ic : Inv X pins σ (upd Hb D (.lst [])) sc := by
    subst hsc
    refine Ib.laid (t' := sb.toks) (fun b o z => Heap.get?_push_of_some _ z) (Nat.le_of_eq hD) ⟨Nat.zero_le _, [], 0, .nil, ?_⟩
    subst hD
    exact Heap.get?_push_size _ rfl
  have hch : sc.heap = sb.heap.push { cls := .type "list", data := .seq ([] : List Value).toArray } := by subst hsc; rfl
  have lt : ∀ b ∈ fp, b < sb.heap.objs.size := fun b hb => let ⟨_, z, _⟩ := T.obj _ _ stb b hb; Heap.lt_size z
  have fc : ∀ b ∈ fp, FpOk X pins (upd Hb D (.lst [])) b ∧ b < sc.heap.objs.size := fun b hb => by
    have hlt := lt b hb
    have hbD : b ≠ D := by subst hD; exact Nat.ne_of_lt hlt
    refine ⟨⟨by rw [upd_ne hbD]; exact (fb b hb).1, (fb b hb).2⟩, ?_⟩
    rw [hch, Heap.size_push]
    exact Nat.lt_succ_of_lt hlt
  have stc : tn 0 sc.heap := T.keep _ _ _ stb fun b _ o z => by rw [hch]; exact Heap.get?_push_of_some _ z
  have Id := block_start Ic ok hN fc
  have pg := hg sc (upd Hb D (.lst [])) sc.heap.objs.size (cellsFrom (sc.heap.objs.size + 1) scope.names (cloFrom X.env.cells scope.names [])) fp
  have pt := ht sc (upd Hb D (.lst [])) sc.heap.objs.size (cellsFrom (sc.heap.objs.size + 1) scope.names (cloFrom X.env.cells scope.names [])) fp
  have pe := he sc (upd Hb D (.lst [])) sc.heap.objs.size (cellsFrom (sc.heap.objs.size + 1) scope.names (cloFrom X.env.cells scope.names [])) fp
  have nfp : ∀ b ∈ fp, (upd Hb D (.lst [])) b = none := fun b hb => (fc b hb).1.1
  show codeAny _ _ (.compStart _ 0 (.ref it) (.ref D) (compEnvC scope (cellsFrom (sc.heap.objs.size + 1) scope.names (cloFrom X.env.cells scope.names [])) sc.heap.objs.size X.env)) (compPost (model X.prog X.w) X.A X.xe none _ (.ref D) sc.heap.objs.size) { sc with heap := pushCells (sc.heap.push { cls := .type "dict", data := .dict #[] }) scope.names }
  generalize hce : compEnvC scope (cellsFrom (sc.heap.objs.size + 1) scope.names (cloFrom X.env.cells scope.names [])) sc.heap.objs.size X.env = ce at Id pg pt pe ⊢
  have ceL : ce.locals = sc.heap.objs.size := by subst hce; rfl
  have ceF : ce.frame = X.env.frame := by subst hce; rfl
  generalize hHc : upd Hb D (.lst []) = Hc at Ic Id pg pt pe w0 nfp fc
  generalize hsd : ({ sc with heap := pushCells (sc.heap.push { cls := .type "dict", data := .dict #[] }) scope.names } : Shared) = sd at Id ⊢
  have std : tn 0 sd.heap := T.keep _ _ _ stc fun b _ o z => by subst hsd; exact pushCells_keeps _ _ _ _ (Heap.get?_push_of_some _ z)
  have fch : ∀ b ∈ fp, (b ∈ X.ex ∨ X.s_0.heap.objs.size ≤ b) ∧ b ≠ X.env.locals ∧ (∀ x c, X.env.cells.lookup x = some c → c ≠ b) ∧ ∀ p ∈ X.pn ++ pins, p.1 ≠ b := fun b hb => ⟨(fc b hb).1.2.2.2.1, (fc b hb).1.2.1, (fc b hb).1.2.2.2.2.1, (fc b hb).1.2.2.2.2.2⟩
  have stat : ∀ {σ' : L2.St} {H' : Hp} {s' : Shared}, Inv (X.blk sc Hc scope ce fp) [] σ' H' s' → (∀ b ∈ fp, H' b = none) → ∀ b ∈ fp, FpOk (X.blk sc Hc scope ce fp) [] H' b := fun {σ' H' s'} I' hn b hb =>
    ⟨hn b hb, (I'.ok.exf b hb).1, I'.ok.exfs b hb, .inl hb, (I'.ok.exf b hb).2, fun p hp => by simp at hp⟩
  have loop : codeAny (model X.prog X.w) X.A (.compLoop (.ListComp elt [⟨tg, iter, ifs, 0⟩] scope pos) 0 (.ref it) (.ref D) ce) (compPost (model X.prog X.w) X.A X.xe none (EP X pins σ Q) (.ref D) sc.heap.objs.size) sd := by
    refine compLoop_any (fun n s' => ∃ i H', Inv (X.blk sc Hc scope ce fp) [] (wipe σ (own.map (·.2))) H' s' ∧ tn i s'.heap ∧ (∀ b ∈ fp, H' b = none) ∧ W i n H') ?_ m0 ⟨0, Hc, Id, std, nfp, w0⟩
    rintro n se ⟨i, He, Ie, ste, ne, we⟩
    rcases turn i n He we with ⟨stop, qq⟩ | ⟨go, Nx, hNx, step⟩
    · refine thnF (T.done (X.blk sc Hc scope ce fp) rfl rfl rfl hc i [] se _ He (fun _ _ => False) Ie (stat Ie ne) ste stop) fun r sf ⟨hr, If⟩ => ?_
      subst hr
      have Ig : Inv X pins σ He sf := Ic.call' (ch := fp) If.os If.base If.hok If.bare fch
      have nC : He sc.heap.objs.size = none := by
        have z : He ce.locals = none := If.free
        rw [ceL] at z; exact z
      obtain ⟨m, hn, _⟩ := If.loc
      have hn : sf.heap.Ns ce.locals m := hn
      rw [ceL] at hn
      obtain ⟨f0, f1, f2, f3, f4, f5⟩ := Ic.fpOk (H' := He) (Nat.le_refl sc.heap.objs.size) nC
      exact ⟨m, hn, fun h'' sb'' => ⟨.ref D, He, Ig.turned (t' := sf.toks) (fun b o hb z => (sb''.2 b hb).trans z) f0 f1 f3 f4 f5, rfl, qq⟩⟩
    · refine thnF (T.item (X.blk sc Hc scope ce fp) rfl rfl rfl hc i [] se _ He (fun _ _ => False) Ie (stat Ie ne) ste go) fun r sf ⟨u, hr, qf⟩ => ?_
      subst hr
      refine thnF qf fun _ sg ⟨x, Hg, Ig, rg, yg, stg, ng⟩ => ?_
      have Ig' := Ig.pinned (stat Ig ng) (T.obj _ _ stg)
      refine thnF (pg.run _ sg _ Hg x u _ Ig' rg (step x Hg yg)) fun _ sh ⟨σh, Hh, Ih, hwh, qh⟩ => ?_
      refine thnF (pt.run _ sh σh Hh _ Ih qh) fun b si ⟨Hi, Ii, qi⟩ => ?_
      have fin : ∀ {s' : Shared} {H' : Hp}, Inv (X.blk sc Hc scope ce fp) ([] ++ pinsAt fp sg.heap) σh H' s' → Nx H' → ∃ m, m < n ∧ ∃ i H', Inv (X.blk sc Hc scope ce fp) [] (wipe σ (own.map (·.2))) H' s' ∧ tn i s'.heap ∧ (∀ b ∈ fp, H' b = none) ∧ W i m H' := fun {s' H'} I' nx => by
        obtain ⟨m', hm, w'⟩ := hNx H' nx
        have pin' : ∀ b ∈ fp, ∀ o, sg.heap.get? b = some o → s'.heap.get? b = some o ∧ H' b = none := fun b hb o z =>
          let y := I'.pin (b, o) (List.mem_append_right _ (List.mem_append_right _ (mem_pinsAt hb z)))
          ⟨y.1, y.2.1⟩
        have hl : (wipe σ (own.map (·.2))).length = σh.length := by rw [← hwh, wipe_length]
        refine ⟨m', hm, i + 1, H', (I'.unpinned (pins := [])).weak hl (fun j v z => ?_), T.keep _ _ _ stg fun b hb o z => (pin' b hb o z).1, fun b hb => ?_, w'⟩
        · rw [← hwh] at z
          exact (wipe_some z).1
        · obtain ⟨o, z, _⟩ := T.obj _ _ stg b hb
          exact (pin' b hb o z).2
      cases b with
      | false => exact fin Ii qi
      | true =>
        have qi : te σh Hi _ := qi
        show wpAny _ _ (eval elt ce) _ _ _
        refine wpAny_mono (pe.run _ si σh Hi _ (Ii.wish _) qi) (fun z sj hj => ?_) fun u' t' hu => comp_out hs hf hex hx Ic ceL ceF fch hu
        obtain ⟨yv, Hj, Ij, rj, acc, eD, hz, nx⟩ := hj
        exact app_ok (X := X.blk sc Hc scope ce fp) Ij.unwish eD hz rj fun sk Ik => fin Ik nx
  exact codeAny_compStart_list loop (T.self X.A 0 _ _ _ std loop)
end
end Sv

set_option maxHeartbeats 4000000
namespace Sv
open PySem PySem.Spec PyProof.Rows L2 L2H HotX LamX
/-! ### sorted(set(list of ints)) of any size -/
/-- the set as it is made: nothing in it -/
abbrev bare (w : World) : Obj := { cls := .type "set", dict := none, data := .set #[] 0 (.fresh 0 0 (!w.params.followText "set-order")) }
section
variable {P : Program} {w : World} {A : Around} {E : Value → Shared → Prop} {s : Shared}
theorem int_item {items : Array Value} {ns : List Int} (hit : IntsAre items.toList ns) (z : items.size = ns.length) :
    ∀ (i : Nat) (v : Value), items[i]? = some v → ∃ k t, ns[i]? = some k ∧ v = .int k t := by
  intro i v hv
  have lt : i < ns.length := z ▸ (Array.getElem?_eq_some_iff.mp hv).1
  obtain ⟨t, e⟩ := IntsAre.int_at hit i v ((Array.getElem?_toList ..).trans hv)
  exact ⟨ns[i], t, List.getElem?_eq_getElem lt, by
    rw [e, List.getD_eq_getElem?_getD, List.getElem?_eq_getElem lt]
    rfl⟩
/-- what set(l) leaves -/
def MadeSet (w : World) (s : Shared) (ns : List Int) (r : Value) (s2 : Shared) : Prop :=
  r = .none ∧ ∃ h tk c, s2 = { s with heap := h, toks := tk } ∧ SetR w h s.heap.objs.size (fun j => decide (j ∈ ns)) c ∧ c ≤ ns.length ∧ ∀ b o, s.heap.get? b = some o → h.get? b = some o
set_option maxRecDepth 100000 in
set_option maxHeartbeats 3200000 in
theorem call_setL {l : Addr} {items : Array Value} (ns : List Int) {Q : Value → Shared → Prop} (hh : A.handled = none)
    (hl : s.heap.IsList l items) (hit : IntsAre items.toList ns) (few : ns.length + 1 < scanBound)
    (h : ∀ (h' : Heap) (tk c : Nat), SetR w h' s.heap.objs.size (fun j => decide (j ∈ ns)) c → c ≤ ns.length → (∀ b o, s.heap.get? b = some o → h'.get? b = some o) →
      Q (.ref s.heap.objs.size) { s with heap := h', toks := tk }) :
    wpAny (model P w) A (call (.type "set") [.ref l]) Q E s := by
  have z : items.size = ns.length := (Array.length_toList ..).symm.trans (IntsAre.length hit)
  have ⟨c, tl, hmro⟩ := F.called_set.mro
  have ⟨m1, m2⟩ := And.intro F.called_set.made F.called_set.sub
  refine wpAny_call (codeAny_of_tree ?_)
  refine (show wpAny _ _ (callAny (.type "set") _) _ _ _ from ?_)
  refine wpAny_pure ⟨Code.quiet_builtin _ (by decide +kernel), codeAny_builtin F.entry_type_call ?_⟩
  rw [Around.under_plain (weight_type_call_type "set" [.ref l] []) rfl]
  have ⟨n1, n2⟩ := And.intro F.called_set.notType F.called_set.canCreate
  have n3 := F.typeCall_set_1 (.ref l)
  repeat (any_goals (first | assumption | wp_step))
  refine codeAny_mono (code_set_led1 (.ref l) (E := E) (Q₁ := fun v s1 => v = .ref s.heap.objs.size ∧ s1 = { s with heap := s.heap.push (bare w) }) ⟨rfl, rfl⟩) fun r s1 hr => ?_
  cases r with
  | error e => exact hr
  | ok fl =>
    cases fl with
    | ret v =>
      obtain ⟨rfl, rfl⟩ := hr
      have here : (s.heap.push (bare w)).get? s.heap.objs.size = some (bare w) := Heap.get?_push_size _ rfl
      have ty : Shared.TypeIs { s with heap := s.heap.push (bare w) } (.ref s.heap.objs.size) "set" := ⟨_, here, rfl⟩
      have i1 := F.called_set.init.lookup
      have i2 := F.called_set.init.bind (.ref s.heap.objs.size)
      repeat (any_goals (first | assumption | wp_step))
      refine codeAny_mono (codeAny_call_builtin (R := wants (MadeSet w s ns) E) F.called_set.init.plain F.entry_set_init (check_set_init_1 ty ?_)) fun r2 s2 hr2 => ?_
      · obtain ⟨ol, hol, hcl, nl, hdl⟩ := hl
        obtain ⟨ocls, odict, odata, oslots⟩ := ol
        simp only at hcl hdl
        subst hcl hdl
        have hol2 : (s.heap.push (bare w)).get? l = some { cls := .type "list", dict := odict, data := .seq items nl, slots := oslots } := Heap.get?_push_of_some _ hol
        have ⟨u1, u2⟩ := And.intro F.sub_list_set F.sub_list_frozenset
        have u3 : (Value.type "list" == Value.type "dict") = false := by decide
        have there : (s.heap.push (bare w)).IsList l items := ⟨_, hol2, rfl, nl, rfl⟩
        unfold Builtin.«set.__init__» noKeywords Builtin.Frozenset.updateFrom
        generalize hPI : pyIter = PI
        wp_walk
        subst hPI
        refine wpAny_pyIter_list there (wpAny_bind (wpAny_runValue ?_))
        have below : l < s.heap.objs.size := Heap.lt_size hol
        have h3 : A.in1.in1.in1.handled = none := by simp [hh]
        have sz : (s.heap.push (bare w)).objs.size = s.heap.objs.size + 1 := Heap.size_push ..
        have ne : l ≠ (s.heap.push (bare w)).objs.size := Nat.ne_of_lt (sz ▸ Nat.lt_succ_of_lt below)
        have out : s.heap.objs.size ∉ [(s.heap.push (bare w)).objs.size, l] := fun m => by
          rcases List.mem_cons.mp m with e | m
          · rw [sz] at e
            exact absurd e (Nat.ne_of_lt (Nat.lt_succ_self _))
          · exact absurd (List.mem_singleton.mp m) (Nat.ne_of_gt below)
        refine set_update_ints ((Walks.list h3 _ l ne items).toS) s.heap.objs.size out ns z few (int_item hit z) (items.size - 0) 0 _ (by omega) (Nat.zero_le _)
          ⟨⟨_, Heap.get?_push_size _ rfl, rfl, rfl⟩, there.push _⟩ ⟨0, Nat.le_refl 0, setR_new_at (Heap.get?_push_of_some _ here)⟩ ?_
        intro s4 c4 hm le4 R4
        obtain ⟨h4, g4, d4, tk4, os4⟩ := s4
        obtain rfl : g4 = s.gens := hm.gens
        obtain rfl : d4 = s.drawn := hm.drawn
        obtain rfl : os4 = s.os := hm.os
        refine (show wpAny _ _ _ _ _ _ from wpAny_pure ?_)
        refine (show wpAny _ _ (ret Value.none) _ _ _ from wpAny_pure ⟨rfl, h4, tk4, c4, rfl, R4, z ▸ le4, fun b o e => ?_⟩)
        have lt : b < s.heap.objs.size := Heap.lt_size e
        refine hm.heap b o (fun m => ?_) (Heap.get?_push_of_some _ (Heap.get?_push_of_some _ e))
        rcases List.mem_cons.mp m with e | m
        · exact absurd e (Nat.ne_of_lt lt)
        · have e := List.mem_singleton.mp m
          rw [sz] at e
          exact absurd e (Nat.ne_of_lt (Nat.lt_succ_of_lt lt))
      · cases r2 with
        | error e => exact hr2
        | ok fl2 =>
          cases fl2 with
          | ret r =>
            obtain ⟨rfl, h4, tk4, c4, rfl, R4, le4, k4⟩ := hr2
            repeat (any_goals (first | assumption | wp_step))
            exact h _ _ _ R4 le4 k4
          | _ => exact hr2.elim
    | _ => exact hr.elim
/-- sorted of a set, whatever its size -/
theorem sortedS {a : Addr} {S : Int → Bool} {n : Nat} {Q : Value → Shared → Prop} (R : SetR w s.heap a S n) (hh : A.handled = none)
    (hQ : ∀ s' p (out : List Value) (c : Nat) (ns : List Int), (∀ b o, s.heap.get? b = some o → s'.heap.get? b = some o) → s'.gens = s.gens → s'.os = s.os → s.heap.objs.size ≤ p →
      s'.heap.get? p = some (seqObj "list" out.toArray c) → IntsAre out ns → ns.Pairwise (· < ·) → (∀ k, k ∈ ns ↔ S k = true) → ns.length = n → Q (.ref p) s') :
    wpAny (model P w) A (call (.builtin "sorted") [.ref a]) Q E s := by
  obtain ⟨o, es, ep, t, ho, hex, hd, g, nd, hm, hb, hf, hn, hr, hl⟩ := R
  refine Calls.call_function_entry kind_sorted plain_sorted entry_sorted (args_sorted1 _) ?_
  unfold Builtin.«sorted»
  refine wpAny_bind (m := checkCount "sorted" 1 1 _) (wpAny_pure (wpAny_bind ?_))
  refine collect_set (A := A.in1) hh ⟨o, ho, hex.1, hd⟩ hf hb hr hl fun s1 vs k1 hz g1 o1 pm => ?_
  have zl : vs.length = n := by
    rw [← hn, pm.length_eq, List.length_map, Array.length_toList]
  have small : vs.length ≤ sizeLine := by
    rw [zl, ← hn]
    exact fits_of_scanBound hb
  have hI : IntsAre vs (vs.map Builtin.Re.reRawOf) := ints_of vs fun v hv => by
    obtain ⟨e, he, q⟩ := List.mem_map.mp (pm.mem_iff.mp hv)
    obtain ⟨k, tk, e1, _⟩ := g e he
    exact ⟨k, tk, q.symm.trans e1⟩
  have pk : (vs.map Builtin.Re.reRawOf).Perm (es.toList.map keyOf) := by
    have q := pm.map Builtin.Re.reRawOf
    rwa [List.map_map] at q
  refine wpAny_bind (wpAny_newList ?_ small)
  have at1 : (s1.heap.push (seqObj "list" vs.toArray 0)).get? s1.heap.objs.size = some (seqObj "list" vs.toArray 0) := Heap.get?_push_size _ rfl
  refine wpAny_bind (wpAny_holding (wpAny_call_entry slot_list_sort ⟨_, at1, rfl⟩ entry_list_sort
    (SrtO.list_sort_ord SrtO.swo_int at1 small (fun h2 => SrtO.ints_sortable hI h2) fun out a1 a2 => ⟨_, rfl, ?_⟩) (args_list_sort _)))
  obtain ⟨b1, b2, b3⟩ := SrtO.ints_out hI a1 a2
  obtain ⟨c, hc⟩ := sortedHeap_at (vs := vs) (out := out.toArray) at1
  have pn : (out.map SrtO.iv).Perm (es.toList.map keyOf) := b2.trans pk
  refine wpAny_pure ⟨_, rfl, hQ _ s1.heap.objs.size out c (out.map SrtO.iv) (fun b u e => ?_) g1 o1 hz hc b1 (lt_of_le_nodup _ b3 (pn.nodup_iff.mpr nd)) (fun k => by rw [pn.mem_iff, ← hm k]) ?_⟩
  · have q := k1 b u e
    have lt := Heap.lt_size q
    refine Eq.trans (sortedHeap_old (Nat.ne_of_lt lt) ?_) (Heap.get?_push_of_some _ q)
    rw [size_push']
    exact Nat.lt_succ_of_lt lt
  · rw [← hn, pn.length_eq, List.length_map, Array.length_toList]
end
/-- sorted(set(xs)), xs a list of ints -/
def tSSet (K : PySem.W.Frag) (ta : TE) : TE := fun σ H Q => ta σ H fun x H1 => ∃ (l : Addr) (ns : List Int), x = .ref l ∧ SqL K H1 l (ns.map V.int) ∧ ns.length + 1 < scanBound ∧
  ∀ (ns' : List Int) (p : Addr), ns'.Pairwise (· < ·) → (∀ k, k ∈ ns' ↔ k ∈ ns) → H1 p = none → Q (.ref p) (upd H1 p (.lst (ns'.map V.int)))
section
variable {X : Cx}
theorem pe_sset {a : Expr} {ta : TE} {p p2 q pos : Pos} (hc : X.calm = true) (hg : Gl X "sorted") (hm : X.mg "sorted" = none) (hg2 : Gl X "set") (hm2 : X.mg "set" = none) (ha : PE X a ta)
    (na : starEach [a] X.env = (false, eval a X.env) :: starEach [] X.env := by rfl) : PE X (.Call (.Name "sorted" p) [.Call (.Name "set" p2) [a] [] q] [] pos) (tSSet X.K ta) := by
  refine ⟨fun pins s σ H Q I h => ?_⟩
  refine Call_ (ld_blt I hg hm boot_sorted (callWith_builtin1 (args_cons ?_ rfl) rfl rfl))
  refine Call_ (ld_blt I hg2 hm2 boot_set (callWith_type1 (args_cons (thn (ha.run pins s σ H _ I h) fun v s1 ⟨x, H1, I1, r1, q1⟩ => args_nil ?_) na) na rfl))
  obtain ⟨l, ns, rfl, hq, few, q1⟩ := q1
  cases r1
  obtain ⟨its, rv, pl, hz⟩ := I1.list hq
  refine call_setL ns (I1.ok.hd hc) pl.isList (by simpa using ints_of_vals rv) few fun h2 tk c R le k2 => args_nil ?_
  have I2 : Inv X pins σ H1 { s1 with heap := h2, toks := tk } := I1.kept k2
  refine sortedS R (I2.ok.hd hc) fun s3 p3 out c3 ns' k3 g3 o3 le3 at3 hi hs hmem hlen => ?_
  have small : (ns'.map V.int).length ≤ sizeLine := by
    rw [List.length_map, hlen]
    have := fits_of_scanBound (show c < scanBound by omega)
    exact this
  have new : H1 p3 = none := I2.hok.fresh le3
  have J : Inv X pins σ (upd H1 p3 (.lst (ns'.map V.int))) { s1 with heap := s3.heap, gens := s3.gens, drawn := s3.drawn, toks := s3.toks } :=
    Inv.call (s := { s1 with heap := h2, toks := tk }) I2 (ch := []) (Un.laid k3 le3 new) (I2.hok.laid k3 le3 ⟨small, out, c3, vals_of_ints hi, at3⟩) (by rw [g3]; exact I2.bare) (fun _ z => nomatch z)
  have e : s3 = { s1 with heap := s3.heap, gens := s3.gens, drawn := s3.drawn, toks := s3.toks } := by
    obtain ⟨x1, x2, x3, x4, x5⟩ := s3
    simp only at o3
    rw [o3]
  rw [e]
  exact ⟨.ref p3, _, J, rfl, q1 ns' p3 hs (fun k => by rw [hmem, decide_eq_true_eq]) new⟩
end
end Sv

set_option maxHeartbeats 4000000
namespace Sv
open PySem PySem.Spec PyProof.Rows L2 L2H HotX LamX
/-! ### (a if c else b) as a test -/
def tIfT (t ta tb : TT) : TT := fun σ H Q => t σ H fun c H1 => if c = true then ta σ H1 Q else tb σ H1 Q
theorem pt_ifExp {X : Cx} {c a b : Expr} {pos : Pos} {t ta tb : TT} (hc : PT X c t) (ha : PT X a ta) (hb : PT X b tb)
    (he : ∀ whole, isTrue (.IfExp c a b pos) X.env whole = (do if ← isTrue c X.env (eval c X.env) then isTrue a X.env (eval a X.env) else isTrue b X.env (eval b X.env)) := by intro _; rfl) : PT X (.IfExp c a b pos) (tIfT t ta tb) := by
  refine ⟨fun pins s σ H Q I h => ?_⟩
  rw [he]
  refine wpAny_bind (thn (hc.run pins s σ H _ I h) fun d s1 ⟨H1, I1, q1⟩ => ?_)
  cases d with
  | true => exact ha.run pins s1 σ H1 Q I1 q1
  | false => exact hb.run pins s1 σ H1 Q I1 q1
end Sv

set_option maxHeartbeats 4000000
namespace Sv
open PySem PySem.Spec PyProof.Rows L2 L2H HotX LamX
/-! ### sorted of data that are alike -/
def sortD (ds : List PyData) : List PyData := ds.mergeSort fun a b => !PySem.W.dataLt b a
def rSortA (K : PySem.W.Frag) : List V → Hp → VK → Prop := fun vs H Q => ∃ (a : Addr) (xs : List V) (ds : List PyData), vs = [V.ref a] ∧ SqL K H a xs ∧ AtAll K H xs ds ∧ PySem.W.AllAlike ds ∧ PySem.W.Sortable ds ∧ (∀ d ∈ ds, d.depth ≤ 60) ∧
  ∀ ys p, H p = none → AtAll K (upd H p (.lst ys)) ys (sortD ds) → Q (.ref p) (upd H p (.lst ys))
section
variable {X : Cx} {pins : List (Addr × Obj)} {σ : L2.St} {H : Hp} {s : Shared}
theorem each_of {K : PySem.W.Frag} : ∀ {xs : List V} {us : List Value} {ds : List PyData}, Vals xs us → AtAll K H xs ds → PySem.W.EachIs (fun v d => ∃ x, RelV x v ∧ At K H x d) us ds
  | _, _, _, .nil, ⟨_, .nil⟩ => .nil
  | _, _, _, .cons r t, ⟨h, .cons x y⟩ => by
    rw [plAll, Bool.and_eq_true] at h
    exact .cons ⟨_, r, h.1, x⟩ (each_of t ⟨h.2, y⟩)
theorem each_back {K : PySem.W.Frag} {us : List Value} {ds : List PyData} (h : PySem.W.EachIs (fun v d => ∃ x, RelV x v ∧ At K H x d) us ds) : ∃ ys, Vals ys us ∧ AtAll K H ys ds := by
  induction h with
  | nil => exact ⟨[], .nil, AtAll.nil⟩
  | cons r t ih =>
    obtain ⟨ys, a, b⟩ := ih
    obtain ⟨x, c, d⟩ := r
    exact ⟨x :: ys, .cons c a, AtAll.cons d b⟩
theorem cr_sortA (hu : X.A.units + 64 < cLine) : CallR X (.builtin "sorted") (rSortA X.K) := by
  intro pins s σ H vs us Q I r h
  obtain ⟨a, xs, ds, rfl, hs, hx, al, so, dp, q⟩ := h
  obtain ⟨its, rv, hl, hz⟩ := I.list hs
  rw [Vals.ref1 r]
  have e1 := each_of rv hx
  have e2 : PySem.W.EachIs (fun v d => ∃ as, Reads s.heap v d as) its ds := e1.mono fun v d ⟨x, rx, hd⟩ => Dp.reads I _ _ _ hd.2 rx
  have hL : its.length ≤ sizeLine := by rw [← rv.length]; exact hz
  have e3 : PySem.W.EachIs (fun v d => ∃ as, Reads (PySem.W.sortingHeap (PySem.W.copyHeap s.heap its) (s.heap.objs.size + 1) its) v d as) its ds := e2.mono fun v d ⟨as, rd⟩ => ⟨as, Reads.keeps (fun b o e => PySem.W.sorting_copy_old e) rd⟩
  refine PySem.W.sorted_vals (κ := PySem.W.dataKind (PySem.W.sortingHeap (PySem.W.copyHeap s.heap its) (s.heap.objs.size + 1) its) ds) hl.isList (PySem.W.SortsAt.data (s := { s with heap := PySem.W.sortingHeap (PySem.W.copyHeap s.heap its) (s.heap.objs.size + 1) its }) e3 al so ?_) hL ?_
  · intro d hd
    have := dp d hd
    rw [Around.in1_units, Around.in1_units]
    omega
  · have e4 := PySem.W.sortVals_each (κ := PySem.W.dataKind (PySem.W.sortingHeap (PySem.W.copyHeap s.heap its) (s.heap.objs.size + 1) its) ds) (rev := false) (k := PySem.W.keyToks) e1 (ks := its) ?_
    · obtain ⟨ys, v1, v2⟩ := each_back e4
      obtain ⟨ep, he'⟩ := PyProof.Rows.sortedAll_at s.heap its (PySem.W.sortVals (PySem.W.dataKind (PySem.W.sortingHeap (PySem.W.copyHeap s.heap its) (s.heap.objs.size + 1) its) ds) false its its).toArray
      have hlen : ys.length ≤ sizeLine := by rw [v1.length, PySem.W.sortVals_length false rfl]; exact hL
      refine ⟨.ref _, upd H (s.heap.objs.size + 1) (.lst ys), I.laid (t' := s.toks) (fun _ _ => PyProof.Rows.sortedAll_old) (Nat.le_succ _) ⟨hlen, _, ep, v1, he'⟩, rfl, q _ _ (I.hok.fresh (Nat.le_succ _)) ?_⟩
      exact v2.ext (Same.ext (same_new (I.hok.fresh (Nat.le_succ _))))
    · exact (PySem.W.each_mem e3).mono fun v d ⟨⟨as, rd⟩, hd⟩ => PySem.W.dataKind_some al hd rd
theorem cr_sortAK (K : PySem.W.Frag) (hu : X.A.units + 64 < cLine) (h : X.K = K := by rfl) : CallR X (.builtin "sorted") (rSortA K) := h ▸ cr_sortA hu
end
end Sv

set_option maxHeartbeats 4000000
namespace Sv
open PySem PySem.Spec PyProof.Rows L2 L2H HotX LamX
/-! ### == of data, with one answer -/
noncomputable def eqC (d e : PyData) : Bool := @decide (d = e) (Classical.propDecidable _)
theorem eqC_iff {d e : PyData} : eqC d e = true ↔ d = e := by
  unfold eqC
  exact ⟨@of_decide_eq_true _ (Classical.propDecidable _), @decide_eq_true _ (Classical.propDecidable _)⟩
theorem eqC_self (d : PyData) : eqC d d = true := eqC_iff.mpr rfl
theorem eqC_no {d e : PyData} (h : d ≠ e) : eqC d e = false := by
  cases q : eqC d e with
  | false => rfl
  | true => exact absurd (eqC_iff.mp q) h
def rEqC (K : PySem.W.Frag) : R2 := fun x y H Q => ∃ d e, At K H x d ∧ At K H y e ∧ d.depth ≤ 64 ∧ e.depth ≤ 64 ∧ Q (.bl (eqC d e)) H
def rNeC (K : PySem.W.Frag) : R2 := fun x y H Q => ∃ d e, At K H x d ∧ At K H y e ∧ d.depth ≤ 64 ∧ e.depth ≤ 64 ∧ Q (.bl (!eqC d e)) H
section
variable {X : Cx} (K : PySem.W.Frag)
theorem op_eqCK (hu : X.A.units + 64 < cLine) (h : X.K = K := by rfl) : OpR X (compareOp .Eq) (rEqC K) := OpR.imp (op_eqAK K hu h) fun x y H Q ⟨d, e, a, b, c, f, q⟩ =>
  ⟨d, e, a, b, c, f, fun z => by rw [eqC_iff.mpr z] at q; exact q, fun z => by rw [eqC_no z] at q; exact q⟩
theorem op_neCK (hu : X.A.units + 64 < cLine) (h : X.K = K := by rfl) : OpR X (compareOp .NotEq) (rNeC K) := OpR.imp (op_neAK K hu h) fun x y H Q ⟨d, e, a, b, c, f, q⟩ =>
  ⟨d, e, a, b, c, f, fun z => by rw [eqC_iff.mpr z] at q; exact q, fun z => by rw [eqC_no z] at q; exact q⟩
end
end Sv

set_option maxHeartbeats 4000000
namespace Sv
open PySem PySem.Spec PyProof.Rows L2 L2H HotX LamX
/-! ### a name of the module that is ((), ()) -/
def tupIn (K : PySem.W.Frag) (a : Addr) : Option (List Value) := match K.lookup a with
  | some o => if o.cls == .type "tuple" then match o.data with
    | .seq its _ => if its.size ≤ 1000 then some its.toList else none
    | _ => none
    else none
  | none => none
theorem tupIn_of {K : PySem.W.Frag} {a : Addr} {us : List Value} (h : tupIn K a = some us) : ∃ (o : Obj) (its : Array Value) (n : Nat), K.lookup a = some o ∧ o.cls = .type "tuple" ∧ o.data = .seq its n ∧ its.size ≤ sizeLine ∧ its.toList = us := by
  unfold tupIn at h
  cases e : K.lookup a with
  | none => rw [e] at h; cases h
  | some o =>
    rw [e] at h
    dsimp only at h
    split at h
    · rename_i hc
      cases ed : o.data with
      | seq its n =>
        rw [ed] at h
        dsimp only at h
        split at h
        · rename_i hz
          exact ⟨o, its, n, rfl, eq_of_beq hc, ed, Nat.le_trans hz (szl rfl), Option.some.inj h⟩
        · cases h
      | _ => rw [ed] at h; cases h
    · cases h
def zeroB (K : PySem.W.Frag) (Z : Addr) : Bool := match tupIn K Z with
  | some [.ref a, .ref b] => (match tupIn K a with | some l => l.isEmpty | none => false) && (match tupIn K b with | some l => l.isEmpty | none => false)
  | _ => false
theorem empty_of {K : PySem.W.Frag} {a : Addr} (h : (match tupIn K a with | some l => l.isEmpty | none => false) = true) (H : Hp) : At K H (.ref a) (.tuple []) := by
  cases e : tupIn K a with
  | none => rw [e] at h; cases h
  | some l =>
    rw [e] at h
    have hl : l = [] := List.isEmpty_iff.mp h
    subst hl
    obtain ⟨o, its, n, h1, h2, h3, h4, h5⟩ := tupIn_of e
    exact At.tup (.inr ⟨o, its, n, h1, h2, h3, h4, by rw [h5]; exact .nil⟩) .nil
theorem zero_of {K : PySem.W.Frag} {Z : Addr} (h : zeroB K Z = true) (H : Hp) : At K H (.ref Z) (.tuple [.tuple [], .tuple []]) := by
  unfold zeroB at h
  split at h
  · rename_i a b e
    rw [Bool.and_eq_true] at h
    obtain ⟨o, its, n, h1, h2, h3, h4, h5⟩ := tupIn_of e
    exact At.tup (vs := [.ref a, .ref b]) (.inr ⟨o, its, n, h1, h2, h3, h4, by rw [h5]; exact .cons rfl (.cons rfl .nil)⟩) (.cons (empty_of h.1 H) (.cons (empty_of h.2 H) .nil))
  · cases h
end Sv

set_option maxHeartbeats 4000000
namespace Sv
open PySem PySem.Spec PyProof.Rows L2 L2H HotX LamX
/-! ### the text: where its defs stand -/
def topS (i : Nat) : Stmt := PySem.Challenge.pw_stemvalues_k21_errors_apart.main.body.getD i (.Pass ⟨0, 0, 0, 0⟩)
abbrev s_is_whole : Stmt := topS 13
abbrev s_is_stem : Stmt := topS 14
abbrev s_is_bush : Stmt := topS 15
abbrev s_need_bush : Stmt := topS 16
abbrev s_need_stem : Stmt := topS 17
abbrev s_need_player : Stmt := topS 18
abbrev s_without : Stmt := topS 19
abbrev s_after_cut : Stmt := topS 20
abbrev s_cuts_of : Stmt := topS 21
abbrev s_stalk_bush : Stmt := topS 22
abbrev s_of_stalk : Stmt := topS 23
abbrev s_Book_init : Stmt := inClass (topS 25) 0
abbrev s_Book_enter : Stmt := inClass (topS 25) 1
abbrev s_Book_is_most : Stmt := inClass (topS 25) 2
abbrev s_Book_answer_back : Stmt := inClass (topS 25) 3
abbrev s_Book_plain_options : Stmt := inClass (topS 25) 4
abbrev s_Book_best_options : Stmt := inClass (topS 25) 5
abbrev s_Book_least : Stmt := inClass (topS 25) 6
abbrev s_Book_of_bush : Stmt := inClass (topS 25) 7
abbrev s_Book_written : Stmt := inClass (topS 25) 8
abbrev s_worth_of : Stmt := topS 26
abbrev s_worth : Stmt := topS 27
abbrev s_lowest : Stmt := topS 29
abbrev s_is_number : Stmt := topS 30
abbrev s_need_number : Stmt := topS 31
abbrev s_is_under : Stmt := topS 32
abbrev s_middle : Stmt := topS 33
abbrev s_stalk_of : Stmt := topS 34
abbrev s_simplest : Stmt := topS 35
abbrev s_best_integer : Stmt := topS 36
abbrev s_other_player : Stmt := topS 38
abbrev s_wins_first : Stmt := topS 39
abbrev s_winning_cut : Stmt := topS 40
abbrev s_Table_init : Stmt := inClass (topS 42) 0
abbrev s_Table_cut : Stmt := inClass (topS 42) 1
abbrev s_Table_bush : Stmt := inClass (topS 42) 2
abbrev s_Table_player : Stmt := inClass (topS 42) 3
abbrev s_Table_undo : Stmt := inClass (topS 42) 4
abbrev s_Table_redo : Stmt := inClass (topS 42) 5
abbrev s_Table_len : Stmt := inClass (topS 42) 6
abbrev s_stem_of : Stmt := topS 44
abbrev s_parse_bush : Stmt := topS 45
abbrev s_law_cell : Stmt := topS 47
abbrev s_law_drawn : Stmt := topS 48
abbrev s_law_roll : Stmt := topS 49
abbrev s_law_rounds : Stmt := topS 50
abbrev s_law_met : Stmt := topS 51
abbrev s_law_alone : Stmt := topS 52
abbrev s_law : Stmt := topS 53
end Sv

set_option maxHeartbeats 4000000
namespace Sv
open PySem PySem.Spec PyProof.Rows L2 L2H HotX LamX
/-- the builtins' names are the builtins' still -/
structure Blt (mg : Str → Option Value) : Prop where
  len : mg "len" = none
  range : mg "range" = none
  max : mg "max" = none
  min : mg "min" = none
  isinstance : mg "isinstance" = none
  int : mg "int" = none
  sum : mg "sum" = none
  any : mg "any" = none
  all : mg "all" = none
  sorted : mg "sorted" = none
  set : mg "set" = none
  tuple : mg "tuple" = none
  list : mg "list" = none
  enumerate : mg "enumerate" = none
  str : mg "str" = none
  abs : mg "abs" = none
  bool : mg "bool" = none
  ve : mg "ValueError" = none
def bltB (K : PySem.W.Frag) : Bool := (["len", "range", "max", "min", "isinstance", "int", "sum", "any", "all", "sorted", "set", "tuple", "list", "enumerate", "str", "abs", "bool", "ValueError"] : List Str).all fun x => PySem.W.nsIn K mainGlobals x == some none
theorem blt_of {K : PySem.W.Frag} {mg : Str → Option Value} {h : Heap} (X : K.In h) (G : h.Ns mainGlobals mg) (e : bltB K = true) : Blt mg := by
  unfold bltB at e
  simp only [List.all_cons, List.all_nil, Bool.and_true, Bool.and_eq_true, beq_iff_eq] at e
  obtain ⟨h1, h2, h3, h4, h5, h6, h7, h8, h9, h10, h11, h12, h13, h14, h15, h16, h17, h18⟩ := e
  have n : ∀ {x : Str}, PySem.W.nsIn K mainGlobals x = some none → mg x = none := fun e => PySem.W.mg_none_of X G e
  exact ⟨n h1, n h2, n h3, n h4, n h5, n h6, n h7, n h8, n h9, n h10, n h11, n h12, n h13, n h14, n h15, n h16, n h17, n h18⟩
section
variable {P : Program} {w : World} {K : PySem.W.Frag} {mg : Str → Option Value} {base : Heap} {C : Nat → Addr} {CS : Addr}
end
end Sv

set_option maxHeartbeats 4000000
namespace Sv
open PySem PySem.Spec PyProof.Rows L2 L2H HotX LamX
section
variable {P : Program} {w : World} {K : PySem.W.Frag} {mg : Str → Option Value} {base : Heap}
/-! ### _law_cell -/
def spCell (K : PySem.W.Frag) : Sp := fun vs H Q _ => ∃ (a : Addr) (ns : List Int) (k : Int), vs = [.ref a, .int k] ∧ SqL K H a (ns.map V.int) ∧ ns.length ≤ 63 ∧ ∀ H' z, Same H H' → Q (.int z) H'
theorem scCell : FnScope ["script", "k"] ["script", "k"] (defScope s_law_cell) := ⟨rfl, rfl, rfl, by decide +kernel, rfl, by decide +kernel, by decide +kernel⟩
theorem dp_ints {K : PySem.W.Frag} {H : Hp} : ∀ ns : List Int, DpAll K H (ns.map V.int) (ns.map PyData.int)
  | [] => .nil
  | n :: r => .cons (.int n) (dp_ints r)
theorem canLay_ints : ∀ ns : List Int, PyData.canLayAll0 (ns.map PyData.int) = true
  | [] => rfl
  | n :: r => by rw [List.map_cons, PyData.canLayAll0, canLay_ints r]; rfl
theorem depth_ints : ∀ ns : List Int, PyData.depthAll (ns.map PyData.int) = 0
  | [] => rfl
  | n :: r => by rw [List.map_cons, PyData.depthAll, depth_ints r]; rfl
theorem shaped_ints (ns : List Int) : SeqAt.shaped (.list (ns.map PyData.int)) = true := by
  unfold SeqAt.shaped
  rw [PyData.canLay0, canLay_ints, PyData.depth, depth_ints]; rfl
theorem k_cell (F : Here K mg "_law_cell" s_law_cell) (B : Blt mg) : Keeps' P w K mg base CX0 1 "_law_cell" ["script", "k"] (spCell K) := by
  refine keeps0 F scCell (fun _ _ _ _ _ _ us hl => match us, hl with | [_, _], _ => rfl) (fun vs H Q E h => by obtain ⟨a, ns, k, e, _⟩ := h; rw [e]; rfl) fun f cdv A outer s H vs Q E hr h => ?_
  obtain ⟨a, ns, k, rfl, hS, hn, q⟩ := h
  refine ⟨_, pss_cons (ps_if (pt_cmpR (op_eqDK K hr.units) (pv 0) (pe_lstN pa_nil) (nomark _))
      (pss_one (ps_ret (pe_op op_mul (pv 1) pe_int)))
      (pss_nil))
    (pss_one (ps_ret (pe_op op_add (pe_ix (ix_listK K) (pv 0) (pe_op op_mod (pv 1) (pb (call_len_seqK K) B.len PySem.boot_len (pa1 (pv 0)))) (fun _ _ => rfl)) (pe_op op_mul (pe_op op_fdiv (pv 1) (pb (call_len_seqK K) B.len PySem.boot_len (pa1 (pv 0)))) pe_int)))), ?_⟩
  refine ⟨_, rfl, szl rfl, fun p H1 np s1 e1 => ⟨.list (ns.map PyData.int), .list [], .lst (s1.seq hS) (dp_ints ns), .lst (SqL.of e1) .nil, shaped_ints ns, rfl, _, rfl, ?_⟩⟩
  have hS1 := s1.seq hS
  refine ite2 (fun e => ?_) fun e => ?_
  · exact ⟨_, rfl, _, _, rfl, rfl, .inr ⟨by decide, by decide⟩, q _ _ s1⟩
  · have hpos : 0 < ns.length := by
      cases ns with
      | nil => exact absurd rfl e
      | cons x r => exact Nat.succ_pos _
    have hlen : ((ns.map V.int).length : Int) = ns.length := by rw [List.length_map]
    have hm : 0 ≤ k % (ns.length : Int) := Int.emod_nonneg _ (by omega)
    have hm2 : k % (ns.length : Int) < ns.length := Int.emod_lt_of_pos _ (by omega)
    obtain ⟨z, hz⟩ : ∃ z, ns[(k % (ns.length : Int)).toNat]? = some z := ⟨_, List.getElem?_eq_getElem (by omega)⟩
    refine ⟨_, rfl, _, rfl, _, rfl, a, _, rfl, .inl hS1, _, _, rfl, rfl, by rw [hlen]; omega, a, _, _, .int z, rfl, rfl, hS1, ?_, ?_⟩
    · rw [hlen]
      refine at_of (j := (k % (ns.length : Int)).toNat) (by omega) ?_
      rw [List.getElem?_map, hz]; rfl
    · exact ⟨_, rfl, _, rfl, a, _, rfl, .inl hS1, _, _, rfl, rfl, ⟨by rw [hlen]; omega, by rw [hlen]; omega⟩, _, _, rfl, rfl, .inr ⟨by decide, by decide⟩, _, _, rfl, rfl, q _ _ s1⟩
/-! ### _law_drawn -/
def spDrawn : Sp := fun vs H Q _ => ∃ (c k : Int), vs = [.int c, .int k] ∧ ∀ z, 0 ≤ z → Q (.int z) H
theorem scDrawn : FnScope ["cell", "k", "more"] ["cell", "k"] (defScope s_law_drawn) := ⟨rfl, rfl, rfl, by decide +kernel, rfl, by decide +kernel, by decide +kernel⟩
theorem k_drawn (F : Here K mg "_law_drawn" s_law_drawn) : Keeps' P w K mg base CX0 1 "_law_drawn" ["cell", "k"] spDrawn := by
  refine keeps0 F scDrawn (fun _ _ _ _ _ _ us hl => match us, hl with | [_, _], _ => rfl) (fun vs H Q E h => by obtain ⟨c, k, e, _⟩ := h; rw [e]; rfl) fun f cdv A outer s H vs Q E hr h => ?_
  obtain ⟨c, k, rfl, q⟩ := h
  refine ⟨_, pss_cons (st 2 scDrawn.nd (pe_op op_mod (pe_op op_add (pe_op op_mul (pv 0) pe_int) (pe_op op_mul (pe_op op_add (pv 1) pe_int) pe_int)) pe_int))
    (pss_cons (st 2 scDrawn.nd (pe_op op_mod (pe_op op_mulW (pv 2) (pv 2)) pe_int))
    (pss_cons (st 2 scDrawn.nd (pe_op op_mulW (pe_op op_mulW (pe_op op_add (pe_op op_mod (pv 2) pe_int) pe_int) (pe_op op_add (pe_op op_fdivW (pv 2) pe_int) pe_int)) (pv 2)))
    (pss_one (ps_ret (pe_op op_mod (pv 2) pe_int))))), ?_⟩
  refine ⟨_, rfl, _, _, rfl, rfl, .inr ⟨by decide, by decide⟩, _, rfl, _, _, rfl, rfl, _, _, rfl, rfl, .inr ⟨by decide, by decide⟩, _, _, rfl, rfl, _, _, rfl, rfl, (show (0 : Int) < 340282366920938463463374607431768211507 by decide), ?_⟩
  have e129 : (2 : Nat) ^ 129 = 680564733841876926926749214863536422912 := by decide
  have e65 : (2 : Nat) ^ 65 = 36893488147419103232 := by decide
  have n1 : ∀ x0 : Int, (x0 % 340282366920938463463374607431768211507).natAbs < 2 ^ 129 := fun x0 => by omega
  have n2 : ∀ x0 : Int, (x0 % 340282366920938463463374607431768211297).natAbs < 2 ^ 129 := fun x0 => by omega
  have m1 : ∀ x0 : Int, (x0 % 18446744073709551557 + 1).natAbs < 2 ^ 65 := fun x0 => by omega
  have m2 : ∀ x0 : Int, (x0 % 340282366920938463463374607431768211297 / 18446744073709551557 + 1).natAbs < 2 ^ 129 := fun x0 => by omega
  refine ⟨_, rfl, _, rfl, _, _, rfl, rfl, wide_mul (n1 _) (n1 _) (by decide) (by decide) (by decide), _, _, rfl, rfl, (show (0 : Int) < 340282366920938463463374607431768211297 by decide), ?_⟩
  refine ⟨_, rfl, _, _, rfl, rfl, (show (0 : Int) < 18446744073709551557 by decide), _, _, rfl, rfl, _, rfl, _, _, rfl, rfl, ⟨by decide, by decide⟩, _, _, rfl, rfl, ?_⟩
  refine ⟨_, _, rfl, rfl, wide_mul (m1 _) (m2 _) (by decide) (by decide) (by decide), _, rfl, _, _, rfl, rfl, wide_mul (wide_lt (m1 _) (m2 _)) (n2 _) (by decide) (by decide) (by decide), ?_⟩
  refine ⟨_, rfl, _, _, rfl, rfl, (show (0 : Int) < 340282366920938463463374607431768211507 by decide), ?_⟩
  exact q _ (Int.emod_nonneg _ (by decide))
/-! ### _law_roll -/
/-- the dice at d are two ints -/
def Dice (H : Hp) (d : Addr) : Prop := ∃ x y : Int, H d = some (.lst [.int x, .int y])
/-- all but the dice stays -/
structure Mv (d : Addr) (H H' : Hp) : Prop where
  keep : ∀ b o, H b = some o → b ≠ d → H' b = some o
  dice : Dice H' d
theorem Mv.trans {d : Addr} {H H1 H2 : Hp} (a : Mv d H H1) (b : Mv d H1 H2) : Mv d H H2 := ⟨fun c o e n => b.keep c o (a.keep c o e n) n, b.dice⟩
theorem Mv.same {d : Addr} {H H1 H2 : Hp} (a : Mv d H H1) (b : Same H1 H2) : Mv d H H2 := ⟨fun c o e n => b c o (a.keep c o e n), by obtain ⟨x, y, e⟩ := a.dice; exact ⟨x, y, b _ _ e⟩⟩
theorem Mv.of_same {d : Addr} {H H1 : Hp} (h : Dice H d) (b : Same H H1) : Mv d H H1 := ⟨fun c o e n => b c o e, by obtain ⟨x, y, e⟩ := h; exact ⟨x, y, b _ _ e⟩⟩
theorem Mv.ext {d : Addr} {H H1 : Hp} (h : Dice H d) (a : Mv d H H1) : Ext H H1 := by
  obtain ⟨x, y, e⟩ := h
  exact ⟨fun b xs q => a.keep b _ q (ne_of q e fun z => nomatch z), fun b o u q => a.keep b _ q (ne_of q e fun z => nomatch z)⟩
theorem Mv.free {d : Addr} {H H1 : Hp} (h : Dice H d) (a : Mv d H H1) {p : Addr} (e : H1 p = none) : H p = none := by
  cases q : H p with
  | none => rfl
  | some o =>
    by_cases hp : p = d
    · obtain ⟨x, y, z⟩ := a.dice
      rw [hp, z] at e; cases e
    · rw [a.keep p o q hp] at e; cases e
def spRoll : Sp := fun vs H Q _ => ∃ (d : Addr) (many : Int), vs = [.ref d, .int many] ∧ Dice H d ∧ 0 < many ∧ many < 1000000 ∧ ∀ H' z, Mv d H H' → 0 ≤ z → z < many → Q (.int z) H'
theorem scRoll : FnScope ["dice", "many", "told"] ["dice", "many"] (defScope s_law_roll) := ⟨rfl, rfl, rfl, by decide +kernel, rfl, by decide +kernel, by decide +kernel⟩
theorem mv_upd {d : Addr} {H : Hp} {x y : Int} : Mv d H (upd H d (.lst [.int x, .int y])) := ⟨fun b o e n => by rw [upd_ne n]; exact e, x, y, upd_same⟩
theorem k_roll (F : Here K mg "_law_roll" s_law_roll) (d_drawn : Keeps' P w K mg base CX0 1 "_law_drawn" ["cell", "k"] spDrawn) : Keeps' P w K mg base CX0 2 "_law_roll" ["dice", "many"] spRoll := by
  refine keeps0 F scRoll (fun _ _ _ _ _ _ us hl => match us, hl with | [_, _], _ => rfl) (fun vs H Q E h => by obtain ⟨c, k, e, _⟩ := h; rw [e]; rfl) fun f cdv A outer s H vs Q E hr h => ?_
  obtain ⟨d, many, rfl, ⟨x, y, e⟩, h0, h1, q⟩ := h
  refine ⟨_, pss_cons (ps_if (pt_cmpR op_ge (pe_ix (ix_listK K) (pv 0) pe_int (fun _ _ => rfl)) (pe_op op_pow pe_int pe_int) (nomark _))
      (pss_cons (st 2 scRoll.nd (pe_op op_mod (pe_ix (ix_listK K) (pv 0) pe_int (fun _ _ => rfl)) (pv 1)))
        (pss_cons (ps_asg (pe_op op_fdiv (pe_ix (ix_listK K) (pv 0) pe_int (fun _ _ => rfl)) (pv 1)) (pg_sub (pv 0) pe_int set_list))
        (pss_one (ps_ret (pv 2)))))
      (pss_nil))
    (pss_cons (ps_asg (pe_op op_add (pe_ix (ix_listK K) (pv 0) pe_int (fun _ _ => rfl)) pe_int) (pg_sub (pv 0) pe_int set_list))
    (pss_one (ps_ret (pe_op op_mod (pe_op op_fdiv (pe_d0 d_drawn (hr.mono (by decide)) (by rfl) (pa2 (pe_ix (ix_listK K) (pv 0) pe_int (fun _ _ => rfl)) (pe_ix (ix_listK K) (pv 0) pe_int (fun _ _ => rfl)))) pe_int) (pv 1))))), ?_⟩
  refine ⟨_, rfl, d, _, 0, _, rfl, rfl, SqL.of e, atI_nat (j := 0) rfl, _, _, rfl, rfl, ⟨by decide, by decide, by decide⟩, _, _, rfl, rfl, _, rfl, ite2 (fun c => ?_) fun c => ?_⟩
  · refine ⟨_, rfl, d, _, 0, _, rfl, rfl, SqL.of e, atI_nat (j := 0) rfl, _, rfl, _, _, rfl, rfl, h0, ?_⟩
    refine ⟨_, rfl, d, _, 0, _, rfl, rfl, SqL.of e, atI_nat (j := 0) rfl, _, rfl, _, _, rfl, rfl, ⟨h0, by omega⟩, _, rfl, d, _, 0, 0, rfl, rfl, e, rfl, _, rfl, ?_⟩
    exact q _ _ mv_upd (Int.emod_nonneg _ (by omega)) (Int.emod_lt_of_pos _ h0)
  · refine ⟨_, rfl, d, _, 1, _, rfl, rfl, SqL.of e, atI_nat (j := 1) rfl, _, _, rfl, rfl, _, rfl, d, _, 1, 1, rfl, rfl, e, rfl, ?_⟩
    have e2 : (upd H d (.lst [.int x, .int (y + 1)])) d = some (.lst [.int x, .int (y + 1)]) := upd_same
    refine ⟨_, rfl, d, _, 0, _, rfl, rfl, SqL.of e2, atI_nat (j := 0) rfl, _, rfl, d, _, 1, _, rfl, rfl, SqL.of e2, atI_nat (j := 1) rfl, _, _, rfl, fun z hz => ?_⟩
    refine ⟨_, _, rfl, rfl, ⟨by decide, by decide⟩, _, rfl, _, _, rfl, rfl, h0, ?_⟩
    exact q _ _ mv_upd (Int.emod_nonneg _ (by omega)) (Int.emod_lt_of_pos _ h0)
/-! ### _law_rounds -/
def spRounds (K : PySem.W.Frag) : Sp := fun vs H Q _ => ∃ (a : Addr) (ns : List Int) (most : Int), vs = [.ref a, .int most] ∧ SqL K H a (ns.map V.int) ∧ ns.length ≤ 63 ∧ most ≤ 63 ∧
  ∀ H' p (ds : List Addr), Same H H' → H p = none → H' p = some (.lst (ds.map V.ref)) → (∀ d ∈ ds, H d = none ∧ Dice H' d) → Q (.ref p) H'
theorem scRounds : FnScope ["script", "most", "k"] ["script", "most"] (defScope s_law_rounds) := ⟨rfl, rfl, rfl, by decide +kernel, rfl, by decide +kernel, by decide +kernel⟩
theorem k_rounds (F : Here K mg "_law_rounds" s_law_rounds) (B : Blt mg) (d_cell : Keeps' P w K mg base CX0 1 "_law_cell" ["script", "k"] (spCell K)) : Keeps' P w K mg base CX0 2 "_law_rounds" ["script", "most"] (spRounds K) := by
  refine keeps0 F scRounds (fun _ _ _ _ _ _ us hl => match us, hl with | [_, _], _ => rfl) (fun vs H Q E h => by obtain ⟨a, ns, k, e, _⟩ := h; rw [e]; rfl) fun f cdv A outer s H vs Q E hr h => ?_
  obtain ⟨a, ns, most, rfl, hS, hn, hm, q⟩ := h
  refine ⟨_, pss_one (ps_ret (pe_lc (own := [("k", 2)]) rfl scRounds.nd (pi_range1 (by rfl) B.range (pa1 (pb (call_max2 rfl) B.max boot_max (pa2 pe_int (pb (call_min2 rfl) B.min boot_min (pa2 (pv 1) (pb (call_len_seqK K) B.len PySem.boot_len (pa1 (pv 0))))))))) (blkOk_by (own := [("k", 2)]) (N := ["script", "most", "k"]) (sc := defScope s_law_rounds) (by decide +kernel)) (fun _ _ _ _ _ => pgn 2 scRounds.nd) (fun _ _ _ _ _ => pts_nil) (fun _ _ _ _ _ => pe_lstN (pa2 (pe_d0 d_cell (hr.mono (by decide)) (by rfl) (pa2 (pv 0) (pv 2))) pe_int)))), ?_⟩
  have hl : ((ns.map V.int).length : Int) = ns.length := by rw [List.length_map]
  refine ⟨_, rfl, _, rfl, a, _, rfl, .inl hS, _, _, rfl, _, _, rfl, _, rfl, ?_, ?_, ?_⟩
  · show (-(2 ^ 62) : Int) ≤ if (if ((ns.map V.int).length : Int) < most then ((ns.map V.int).length : Int) else most) > 1 then _ else 1
    repeat' split
    all_goals omega
  · show (if (if ((ns.map V.int).length : Int) < most then ((ns.map V.int).length : Int) else most) > 1 then (if ((ns.map V.int).length : Int) < most then ((ns.map V.int).length : Int) else most) else 1) < 2 ^ 62
    repeat' split
    all_goals omega
  refine lc_J (walk_range (lo := 0)) Same (fun D i ys H' => ∃ ds : List Addr, ys = ds.map V.ref ∧ ∀ d ∈ ds, H d = none ∧ d ≠ D ∧ Dice H' d) (goes_same H) ?_ (fun _ _ => trivial) (fun _ _ => ⟨[], rfl, fun _ z => nomatch z⟩) ?_ ?_ ?_
  · refine szlt (Nat.ble_eq_true_of_le (Nat.le_trans (m := 63) ?_ (by decide)))
    show (if (if ((ns.map V.int).length : Int) < most then ((ns.map V.int).length : Int) else most) > 1 then (if ((ns.map V.int).length : Int) < most then ((ns.map V.int).length : Int) else most) else 1).toNat ≤ 63
    repeat' split
    all_goals omega
  · rintro D i ys H1 H2 nD x k ⟨ds, e, h⟩
    refine ⟨ds, e, fun d hd => ?_⟩
    obtain ⟨h1, h2, x, y, h3⟩ := h d hd
    exact ⟨h1, h2, x, y, k d _ h2 h3⟩
  · rintro D E E0 i x ys H1 H2 nD eD hi t ⟨ds, e, h⟩ ⟨rfl, rfl⟩ f1 f0
    refine ⟨rfl, ⟨_, rfl, _, rfl, a, ns, _, rfl, t.seq hS, hn, fun H3 z s3 => ⟨szl rfl, fun p H4 np s4 e4 => ?_⟩⟩⟩
    refine f1 _ H4 (s3.trans s4) ⟨ds ++ [p], by rw [e, List.map_append]; rfl, fun d hd => ?_⟩
    rcases List.mem_append.mp hd with hd | hd
    · obtain ⟨h1, h2, x, y, h3⟩ := h d hd
      exact ⟨h1, h2, x, y, s4 _ _ (s3 _ _ h3)⟩
    · rw [List.mem_singleton.mp hd]
      exact ⟨t.free (s3.free np), (ne_of_none (s3 _ _ eD) np).symm, _, _, e4⟩
  · rintro D H1 ys nD t eD _ ⟨ds, e, h⟩
    rw [e] at eD
    exact q H1 D ds t nD eD fun d hd => ⟨(h d hd).1, (h d hd).2.2⟩
end
end Sv

set_option maxHeartbeats 4000000
namespace Sv
open PySem PySem.Spec PyProof.Rows L2 L2H HotX LamX
/-! ### what every round of a law leaves as it was: the rounds' list, the dice, the tables -/
structure Live (T : List (Addr × Str)) (p : Addr) (ds : List Addr) (H : Hp) : Prop where
  rounds : H p = some (.lst (ds.map V.ref))
  dice : ∀ d ∈ ds, Dice H d
  tabs : Tabs T H
section
variable {T : List (Addr × Str)} {p d l : Addr} {ds : List Addr} {H H' : Hp}
theorem Dice.same (h : Dice H d) (s : Same H H') : Dice H' d := let ⟨x, y, e⟩ := h; ⟨x, y, s _ _ e⟩
theorem Live.same (h : Live T p ds H) (s : Same H H') : Live T p ds H' := ⟨s _ _ h.rounds, fun d hd => (h.dice d hd).same s, fun q hq => (h.tabs q hq).ext s⟩
theorem Live.extN (h : Live T p ds H) (x : ExtN H H') (t : Tabs T H') : Live T p ds H' :=
  ⟨x _ _ h.rounds (fun _ z => nomatch z), fun d hd => let ⟨a, b, e⟩ := h.dice d hd; ⟨a, b, x _ _ e (fun _ z => nomatch z)⟩, t⟩
theorem dice_ne (h : H p = some (.lst (ds.map V.ref))) (k : Dice H d) : p ≠ d := fun z => by
  obtain ⟨x, y, e⟩ := k
  rw [z, e] at h
  cases ds with
  | nil => cases h
  | cons a t => cases h
theorem Live.mv (h : Live T p ds H) (m : Mv d H H') (k : Dice H d) : Live T p ds H' := by
  refine ⟨m.keep _ _ h.rounds (dice_ne h.rounds k), fun e he => ?_, ?_⟩
  · by_cases z : e = d
    · rw [z]; exact m.dice
    · obtain ⟨x, y, q⟩ := h.dice e he
      exact ⟨x, y, m.keep _ _ q z⟩
  · obtain ⟨x, y, q⟩ := k
    exact tabs_keep h.tabs q fun b o e n => m.keep b o e n
theorem Live.put {xs ys : List V} (h : Live T p ds H) (e : H l = some (.lst xs)) (h1 : l ≠ p) (h2 : l ∉ ds) : Live T p ds (upd H l (.lst ys)) := by
  refine ⟨by rw [upd_ne h1.symm]; exact h.rounds, fun d hd => ?_, ?_⟩
  · obtain ⟨x, y, q⟩ := h.dice d hd
    exact ⟨x, y, by rw [upd_ne (show d ≠ l from fun z => h2 (z ▸ hd))]; exact q⟩
  · exact tabs_keep h.tabs e fun b o e n => by rw [upd_ne n]; exact e
theorem Live.fresh (h : Live T p ds H) (n : H l = none) : l ≠ p ∧ l ∉ ds := ⟨fun z => (by rw [z, h.rounds] at n; cases n), fun z => by obtain ⟨x, y, q⟩ := h.dice l z; rw [q] at n; cases n⟩
theorem Live.get (h : Live T p ds H) {i : Nat} {x : V} (e : (ds.map V.ref)[i]? = some x) : ∃ d, x = .ref d ∧ d ∈ ds ∧ Dice H d := by
  rw [List.getElem?_map] at e
  cases q : ds[i]? with
  | none => rw [q] at e; cases e
  | some d =>
    rw [q] at e
    cases e
    exact ⟨d, rfl, List.mem_of_getElem? q, h.dice d (List.mem_of_getElem? q)⟩
theorem Dice.ne (h : Dice H d) (n : H l = none) : l ≠ d := by
  obtain ⟨x, y, e⟩ := h
  exact (ne_of_none e n).symm
theorem Mv.lst {xs : List V} (m : Mv d H H') (e : H l = some (.lst xs)) (n : l ≠ d) : H' l = some (.lst xs) := m.keep l _ e n
/-- what _law_told tells of the i-th exception -/
def errD (i : Nat) : PyData := .tuple [.str "error", .str (excNames.getD i "")]
theorem exc_ok : ∀ i, i < 10 → PyData.strOk (excNames.getD i "") = true := by decide +kernel
theorem at_err {K : PySem.W.Frag} {i : Nat} (hi : i < 10) {a : Addr} (h : H a = some (.tup [.str "error", .str (excNames.getD i "")])) : At K H (.ref a) (errD i) :=
  At.tupO h (.cons (.str (by decide +kernel)) (.cons (.str (exc_ok i hi)) .nil))
theorem seq_extN {K : PySem.W.Frag} {a : Addr} {xs : List V} (x : ExtN H H') (h : SqL K H a xs) : SqL K H' a xs := by
  rcases h with (h | ⟨o, h⟩) | h
  · exact .inl (.inl (x _ _ h (fun _ z => nomatch z)))
  · exact .inl (.inr ⟨o, x _ _ h (fun _ z => nomatch z)⟩)
  · exact .inr h
mutual
theorem dp_extN {K : PySem.W.Frag} (x : ExtN H H') : ∀ (d : PyData) (v : V), Dp K H v d → Dp K H' v d
  | .none, _, h => by cases h; exact .non
  | .int i, _, h => by cases h; exact .int i
  | .str z, _, h => by cases h; exact .str z
  | .bool z, _, h => by cases h; exact .bl z
  | .tuple ds, _, h => by
    cases h with
    | tup s t => exact .tup ((extN_ext x).sqT s) (dpAll_extN x ds _ t)
  | .list ds, _, h => by
    cases h with
    | lst s t => exact .lst (seq_extN x s) (dpAll_extN x ds _ t)
  | .dict _, _, h => by cases h
theorem dpAll_extN {K : PySem.W.Frag} (x : ExtN H H') : ∀ (ds : List PyData) (vs : List V), DpAll K H vs ds → DpAll K H' vs ds
  | [], _, h => by cases h; exact .nil
  | d :: ds, _, h => by
    cases h with
    | cons a t => exact .cons (dp_extN x d _ a) (dpAll_extN x ds _ t)
end
end
end Sv

set_option maxHeartbeats 4000000
namespace Sv
open PySem PySem.Spec PyProof.Rows L2 L2H HotX LamX
section
variable {P : Program} {w : World} {K : PySem.W.Frag} {mg : Str → Option Value} {base : Heap}
/-! ### is_whole -/
def whole (d : PyData) (lo hi : Int) : Bool := match d with
  | .int i => decide (lo ≤ i) && decide (i ≤ hi)
  | _ => false
def spWhole (K : PySem.W.Frag) : Sp := fun vs H Q _ => ∃ v d lo hi, vs = [v, .int lo, .int hi] ∧ Dp K H v d ∧ Q (.bl (whole d lo hi)) H
theorem scWhole : FnScope ["value", "low", "high"] ["value", "low", "high"] (defScope s_is_whole) := ⟨rfl, rfl, rfl, by decide +kernel, rfl, by decide +kernel, by decide +kernel⟩
theorem k_whole (F : Here K mg "is_whole" s_is_whole) (B : Blt mg) : Keeps' P w K mg base CX0 1 "is_whole" ["value", "low", "high"] (spWhole K) := by
  refine keeps0 F scWhole (fun _ _ _ _ _ _ us hl => match us, hl with | [_, _, _], _ => rfl) (fun vs H Q E h => by obtain ⟨_, _, _, _, e, _⟩ := h; rw [e]; rfl) fun f cdv A outer s H vs Q E hr h => ?_
  obtain ⟨v, d, lo, hi, rfl, hd, q⟩ := h
  refine ⟨_, pss_one (ps_ret (pe_and (pb (call_isDK K) B.isinstance boot_isinstance (pa2 (pv 0) (pty B.int boot_int))) (pe_and (pe_not (pb (call_isDK K) B.isinstance boot_isinstance (pa2 (pv 0) (pty B.bool boot_bool)))) (pe_one (pe_chain op_le op_le (pv 1) (pv 0) (pv 2)))))), ?_⟩
  refine ⟨_, rfl, _, _, d, rfl, hd, .inl rfl, _, rfl, ?_⟩
  cases hd with
  | int i =>
    refine ⟨_, rfl, _, _, _, rfl, .int i, .inr (.inl rfl), _, rfl, _, rfl, ?_⟩
    refine ⟨_, rfl, _, rfl, _, _, rfl, rfl, _, rfl, ?_⟩
    show if decide (lo ≤ i) = true then _ else _
    by_cases h1 : lo ≤ i
    · rw [decide_eq_true h1]
      refine ⟨_, rfl, _, _, rfl, rfl, ?_⟩
      have q : Q (.bl (decide (lo ≤ i) && decide (i ≤ hi))) H := q
      rw [decide_eq_true h1, Bool.true_and] at q
      exact q
    · rw [decide_eq_false h1]
      have q : Q (.bl (decide (lo ≤ i) && decide (i ≤ hi))) H := q
      rw [decide_eq_false h1, Bool.false_and] at q
      exact iteF q
  | bl b => exact ⟨_, rfl, _, _, _, rfl, .bl b, .inr (.inl rfl), _, rfl, _, rfl, q⟩
  | non => exact q
  | str x => exact q
  | lst _ _ => exact q
  | tup _ _ => exact q
theorem whole_int {d : PyData} {lo hi : Int} (h : whole d lo hi = true) : ∃ i, d = .int i ∧ lo ≤ i ∧ i ≤ hi := by
  cases d with
  | int i =>
    have h : (decide (lo ≤ i) && decide (i ≤ hi)) = true := h
    rw [Bool.and_eq_true, decide_eq_true_eq, decide_eq_true_eq] at h
    exact ⟨i, rfl, h.1, h.2⟩
  | _ => cases h
end
end Sv

set_option maxHeartbeats 4000000
namespace Sv
open PySem PySem.Spec PyProof.Rows L2 L2H HotX LamX
inductive Col where | w | b | g
  deriving DecidableEq
def Col.s : Col → Str
  | .w => "w"
  | .b => "b"
  | .g => "g"
abbrev Bsh := List (Int × Col)
/-- a bush as data -/
def stemD (s : Int × Col) : PyData := .tuple [.int s.1, .str s.2.s]
def bushD (b : Bsh) : PyData := .tuple (b.map stemD)
def isCol (d : PyData) : Bool := match d with
  | .str x => ([Col.w.s, Col.b.s, Col.g.s] : List Str).contains x
  | _ => false
def isStem (d : PyData) (n : Int) : Bool := match d with
  | .tuple [a, c] => whole a (-1) (n - 1) && isCol c
  | _ => false
def stemAt (ds : List PyData) (j : Nat) : Bool := isStem (ds.getD j .none) j
def stemsOk (ds : List PyData) : Bool := ((List.range ds.length).map (stemAt ds)).all id
def isBush (d : PyData) : Bool := match d with
  | .tuple ds => decide (ds.length ≤ 7) && stemsOk ds
  | _ => false
/-- what is_bush asks of a bush -/
structure BushOk (b : Bsh) : Prop where
  len : b.length ≤ 7
  low : ∀ (i : Nat) (s : Int × Col), b[i]? = some s → -1 ≤ s.1 ∧ s.1 < i
/-- the same, with more stems -/
structure BushLo (b : Bsh) : Prop where
  len : b.length ≤ 100
  low : ∀ (i : Nat) (s : Int × Col), b[i]? = some s → -1 ≤ s.1 ∧ s.1 < i
theorem BushOk.lo {b : Bsh} (h : BushOk b) : BushLo b := ⟨Nat.le_trans h.len (by decide), h.low⟩
theorem inV_strs (u : Str) : ∀ l : List Str, inV (.str u) (l.map V.str) = l.contains u
  | [] => rfl
  | x :: r => by
    show (eqV (.str x) (.str u) || inV (.str u) (r.map V.str)) = _
    rw [inV_strs u r, List.contains_cons]
    have : eqV (.str x) (.str u) = (u == x) := by
      show (x == u) = (u == x)
      exact Bool.beq_comm
    rw [this]
section
variable {P : Program} {w : World} {K : PySem.W.Frag} {mg : Str → Option Value} {base : Heap} {C : Nat → Addr} {CS : Addr}
/-! ### is_stem -/
def spIsStem (K : PySem.W.Frag) : Sp := fun vs H Q _ => ∃ v d n, vs = [v, .int n] ∧ Dp K H v d ∧ ∀ H', Same H H' → Q (.bl (isStem d n)) H'
theorem scIsStem : FnScope ["value", "number"] ["value", "number"] (defScope s_is_stem) := ⟨rfl, rfl, rfl, by decide +kernel, rfl, by decide +kernel, by decide +kernel⟩
theorem k_is_stem (F : Here K mg "is_stem" s_is_stem) (B : Blt mg) (d_whole : Keeps' P w K mg base CX0 1 "is_whole" ["value", "low", "high"] (spWhole K)) : Keeps' P w K mg base CX0 2 "is_stem" ["value", "number"] (spIsStem K) := by
  refine keeps0 F scIsStem (fun _ _ _ _ _ _ us hl => match us, hl with | [_, _], _ => rfl) (fun vs H Q E h => by obtain ⟨_, _, _, e, _⟩ := h; rw [e]; rfl) fun f cdv A outer s H vs Q E hr h => ?_
  obtain ⟨v, d, n, rfl, hd, q⟩ := h
  refine ⟨_, pss_cons (ps_if (PW.pt (pw_or (pt_not (pt_val (pb (call_isDK K) B.isinstance boot_isinstance (pa2 (pv 0) (pty B.tuple boot_tuple))))) (pw_or (pt_cmpR op_ne (pb (call_len_seqK K) B.len PySem.boot_len (pa1 (pv 0))) pe_int (nomark _)) (pw_or1 (pt_not (pt_val (pe_d0 d_whole (hr.mono (by decide)) (by rfl) (pa3 (pe_ix (ix_tupK K) (pv 0) pe_int (fun _ _ => rfl)) (pe_un un_neg pe_int) (pe_op op_sub (pv 1) pe_int)))))))))
      (pss_one (ps_ret pe_bl))
      (pss_nil))
    (pss_one (ps_ret (pe_and (pb (call_isDK K) B.isinstance boot_isinstance (pa2 (pe_ix (ix_tupK K) (pv 0) pe_int (fun _ _ => rfl)) (pty B.str boot_str))) (pe_one (pe_cmpR (op_in_seqK K) (pe_ix (ix_tupK K) (pv 0) pe_int (fun _ _ => rfl)) (pe_tupN (pa3 pe_str pe_str pe_str)) (by rfl)))))), ?_⟩
  refine ⟨_, rfl, _, _, d, rfl, hd, .inr (.inr (.inr rfl)), _, rfl, ?_⟩
  cases hd with
  | non => exact q _ (Same.refl H)
  | bl b => exact q _ (Same.refl H)
  | int i => exact q _ (Same.refl H)
  | str x => exact q _ (Same.refl H)
  | lst _ _ => exact q _ (Same.refl H)
  | @tup a vs ds hs ht =>
    refine iteF ⟨_, rfl, a, vs, rfl, .inr hs, rfl, _, rfl, ?_⟩
    have hl := AtAll.len ht
    by_cases h2 : ds.length = 2
    · obtain ⟨d0, d1, rfl⟩ : ∃ d0 d1, ds = [d0, d1] := by
        match ds, h2 with
        | [x, y], _ => exact ⟨x, y, rfl⟩
      obtain ⟨v0, e0, p0⟩ := dpAll_get (i := 0) ht rfl
      obtain ⟨v1, e1, p1⟩ := dpAll_get (i := 1) ht rfl
      obtain rfl : vs = [v0, v1] := by
        match vs, hl, e0, e1 with
        | [x, y], _, e0, e1 => simp at e0 e1; rw [e0, e1]
      refine iteF ⟨_, rfl, a, _, 0, v0, rfl, rfl, hs, atI_nat (j := 0) rfl, _, rfl, _, rfl, _, _, rfl, rfl, v0, d0, -1, n - 1, rfl, p0, _, rfl, ?_⟩
      have qn : ∀ H', Same H H' → Q (.bl (whole d0 (-1) (n - 1) && isCol d1)) H' := q
      cases hw : whole d0 (-1) (n - 1) with
      | false =>
        rw [hw, Bool.false_and] at qn
        exact qn _ (Same.refl H)
      | true =>
        rw [hw, Bool.true_and] at qn
        refine ⟨_, rfl, a, _, 1, v1, rfl, rfl, hs, atI_nat (j := 1) rfl, _, _, d1, rfl, p1, .inr (.inr (.inl rfl)), _, rfl, ?_⟩
        cases p1 with
        | non => exact qn _ (Same.refl H)
        | bl b => exact qn _ (Same.refl H)
        | int i => exact qn _ (Same.refl H)
        | lst _ _ => exact qn _ (Same.refl H)
        | tup _ _ => exact qn _ (Same.refl H)
        | str x =>
          refine iteT ⟨_, rfl, a, _, 1, _, rfl, rfl, hs, atI_nat (j := 1) rfl, szl rfl, fun p H1 np s1 e1 => ⟨p, ([Col.w.s, Col.b.s, Col.g.s] : List Str).map V.str, rfl, .inr (SqT.of e1), rfl, rfl, ?_⟩⟩
          show Q (.bl (inV (.str x) (([Col.w.s, Col.b.s, Col.g.s] : List Str).map V.str))) H1
          rw [inV_strs]
          exact qn _ s1
    · have hne : ¬ ((vs.length : Int) = 2) := by omega
      have e : isStem (.tuple ds) n = false := by
        match ds, h2 with
        | [], _ => rfl
        | [_], _ => rfl
        | _ :: _ :: _ :: _, _ => rfl
        | [x, y], h => exact absurd rfl h
      rw [e] at q
      rw [decide_eq_false (fun z => hne (V.int.inj z))]
      exact q _ (Same.refl H)
/-! ### is_bush -/
def spIsBush (K : PySem.W.Frag) : Sp := fun vs H Q _ => ∃ v d, vs = [v] ∧ Dp K H v d ∧ ∀ H', Same H H' → Q (.bl (isBush d)) H'
theorem scIsBush : FnScope ["value", "number", "one"] ["value"] (defScope s_is_bush) := ⟨rfl, rfl, rfl, by decide +kernel, rfl, by decide +kernel, by decide +kernel⟩
theorem k_is_bush (F : Here K mg "is_bush" s_is_bush) (B : Blt mg) (d_stem : Keeps' P w K mg base CX0 2 "is_stem" ["value", "number"] (spIsStem K)) : Keeps' P w K mg base CX0 3 "is_bush" ["value"] (spIsBush K) := by
  refine keeps0 F scIsBush (fun _ _ _ _ _ _ us hl => match us, hl with | [_], _ => rfl) (fun vs H Q E h => by obtain ⟨_, _, e, _⟩ := h; rw [e]; rfl) fun f cdv A outer s H vs Q E hr h => ?_
  obtain ⟨v, d, rfl, hd, q⟩ := h
  refine ⟨_, pss_cons (ps_if (PW.pt (pw_or (pt_not (pt_val (pb (call_isDK K) B.isinstance boot_isinstance (pa2 (pv 0) (pty B.tuple boot_tuple))))) (pw_or1 (pt_cmpR op_gt (pb (call_len_seqK K) B.len PySem.boot_len (pa1 (pv 0))) pe_int (nomark _)))))
      (pss_one (ps_ret pe_bl))
      (pss_nil))
    (pss_one (ps_ret (pb (cr_allK K rfl) B.all boot_all (pa1 (pe_lc (own := [("number", 1), ("one", 2)]) rfl scIsBush.nd (pi_enumT K (by rfl) B.enumerate (pa1 (pv 0))) (blkOk_by (own := [("number", 1), ("one", 2)]) (N := ["value", "number", "one"]) (sc := defScope s_is_bush) (by decide +kernel)) (fun _ _ _ _ _ => pg_tupK K (n := 2) rfl (pgs_cons (pgn 1 scIsBush.nd) (pgs_cons (pgn 2 scIsBush.nd) pgs_nil))) (fun _ _ _ _ _ => pts_nil) (fun _ _ _ _ _ => pe_d0 d_stem (hr.mono (by decide)) (by rfl) (pa2 (pv 2) (pv 1)))))))), ?_⟩
  refine ⟨_, rfl, _, _, d, rfl, hd, .inr (.inr (.inr rfl)), _, rfl, ?_⟩
  cases hd with
  | non => exact q _ (Same.refl H)
  | bl b => exact q _ (Same.refl H)
  | int i => exact q _ (Same.refl H)
  | str x => exact q _ (Same.refl H)
  | lst _ _ => exact q _ (Same.refl H)
  | @tup a vs ds hs ht =>
    refine iteF ⟨_, rfl, a, vs, rfl, .inr hs, _, _, rfl, rfl, _, rfl, ?_⟩
    have hl := AtAll.len ht
    have q : ∀ H', Same H H' → Q (.bl (decide (ds.length ≤ 7) && stemsOk ds)) H' := q
    by_cases h7 : ds.length ≤ 7
    · rw [decide_eq_true h7, Bool.true_and] at q
      refine ite2 (fun z => absurd (of_decide_eq_true z) (by omega)) fun _ => ?_
      refine ⟨_, rfl, a, vs, rfl, hs, ?_⟩
      refine lc_J (walk_enumT (xs := vs)) Same (fun D i ys H' => ys = ((List.range i).map (stemAt ds)).map V.bl) (goes_same H) (by rw [sizeLine_eq]; omega) (fun H' t => (Same.ext t).sqT hs) (fun _ _ => rfl) (fun _ _ _ _ _ _ _ _ r => r) ?_ ?_
      · rintro D E E0 i x ys H1 H2 nD eD hi t rfl ⟨T, y, rfl, nT, s2, eT, hy⟩ k1 k0
        refine ⟨T, _, rfl, SqT.of eT, rfl, _, _, rfl, _, _, rfl, rfl, rfl, ?_⟩
        obtain ⟨d, hd⟩ : ∃ d, ds[i]? = some d := ⟨ds[i]'(by omega), List.getElem?_eq_getElem (by omega)⟩
        obtain ⟨y', hy', pd⟩ := dpAll_get ht hd
        rw [hy] at hy'
        cases hy'
        refine ⟨_, rfl, _, rfl, y, d, _, rfl, dp_same (t.trans s2) _ _ pd, fun H3 s3 => k1 _ _ (s2.trans s3) ?_⟩
        rw [List.range_succ, List.map_append, List.map_append]
        show _ = _ ++ [V.bl (isStem (ds.getD i .none) i)]
        rw [List.getD_eq_getElem?_getD, hd]
        rfl
      · rintro D H1 ys nD t eD _ rfl
        rw [hl] at eD
        exact ⟨D, _, rfl, SqL.of eD, q _ t⟩
    · rw [decide_eq_false h7, Bool.false_and] at q
      refine ite2 (fun _ => q _ (Same.refl H)) fun z => absurd (decide_eq_true (show (7 : Int) < vs.length by omega)) z
end
end Sv

set_option maxHeartbeats 4000000
namespace Sv
open PySem PySem.Spec PyProof.Rows L2 L2H HotX LamX
/-! ### bushes as data -/
theorem isCol_iff {d : PyData} : isCol d = true ↔ ∃ c : Col, d = .str c.s := by
  constructor
  · intro h
    match d, h with
    | .str x, h =>
      have h : ([Col.w.s, Col.b.s, Col.g.s] : List Str).contains x = true := h
      rw [List.contains_iff_mem] at h
      simp only [List.mem_cons, List.not_mem_nil, or_false] at h
      rcases h with h | h | h
      · exact ⟨.w, by rw [h]⟩
      · exact ⟨.b, by rw [h]⟩
      · exact ⟨.g, by rw [h]⟩
    | .none, h | .bool _, h | .int _, h | .list _, h | .dict _, h | .tuple _, h => cases h
  · rintro ⟨c, rfl⟩
    cases c <;> decide
theorem isStem_iff {d : PyData} {n : Int} : isStem d n = true ↔ ∃ s : Int × Col, d = stemD s ∧ -1 ≤ s.1 ∧ s.1 < n := by
  constructor
  · intro h
    match d, h with
    | .tuple [a, c], h =>
      have h : (whole a (-1) (n - 1) && isCol c) = true := h
      rw [Bool.and_eq_true] at h
      obtain ⟨i, rfl, h1, h2⟩ := whole_int h.1
      obtain ⟨c, rfl⟩ := isCol_iff.mp h.2
      exact ⟨(i, c), rfl, h1, by dsimp only; omega⟩
    | .none, h | .bool _, h | .int _, h | .str _, h | .list _, h | .dict _, h => cases h
    | .tuple [], h | .tuple [_], h | .tuple (_ :: _ :: _ :: _), h => cases h
  · rintro ⟨s, rfl, h1, h2⟩
    show (whole (.int s.1) (-1) (n - 1) && isCol (.str s.2.s)) = true
    rw [Bool.and_eq_true]
    refine ⟨?_, isCol_iff.mpr ⟨_, rfl⟩⟩
    show (decide (-1 ≤ s.1) && decide (s.1 ≤ n - 1)) = true
    rw [decide_eq_true h1, decide_eq_true (show s.1 ≤ n - 1 by omega)]; rfl
theorem isBush_iff {d : PyData} : isBush d = true ↔ ∃ b : Bsh, d = bushD b ∧ BushOk b := by
  constructor
  · intro h
    match d, h with
    | .tuple ds, h =>
      have h : (decide (ds.length ≤ 7) && stemsOk ds) = true := h
      rw [Bool.and_eq_true, decide_eq_true_eq] at h
      obtain ⟨h7, h⟩ := h
      unfold stemsOk at h
      rw [List.all_eq_true] at h
      have hs : ∀ j, j < ds.length → ∃ s : Int × Col, ds[j]? = some (stemD s) ∧ -1 ≤ s.1 ∧ s.1 < j := fun j hj => by
        have := h _ (List.mem_map.mpr ⟨j, List.mem_range.mpr hj, rfl⟩)
        have this : isStem (ds.getD j .none) j = true := this
        obtain ⟨s, e, h1, h2⟩ := isStem_iff.mp this
        refine ⟨s, ?_, h1, h2⟩
        rw [List.getD_eq_getElem?_getD, List.getElem?_eq_getElem hj] at e
        rw [List.getElem?_eq_getElem hj, ← e]; rfl
      have key : ∀ n, n ≤ ds.length → ∃ b : Bsh, b.length = n ∧ ds.take n = b.map stemD ∧ ∀ (i : Nat) (s : Int × Col), b[i]? = some s → -1 ≤ s.1 ∧ s.1 < i := by
        intro n
        induction n with
        | zero => exact fun _ => ⟨[], rfl, rfl, fun i s z => by simp at z⟩
        | succ n ih =>
          intro hn
          obtain ⟨b, e1, e2, e3⟩ := ih (by omega)
          obtain ⟨s, hs1, hs2, hs3⟩ := hs n (by omega)
          refine ⟨b ++ [s], by rw [List.length_append, e1]; rfl, ?_, fun i t ht => ?_⟩
          · rw [List.take_add_one, hs1, e2, List.map_append]; rfl
          · by_cases hi : i < n
            · rw [List.getElem?_append_left (by omega)] at ht
              exact e3 i t ht
            · rw [List.getElem?_append_right (by omega)] at ht
              have : i - b.length = 0 := by
                have := (List.getElem?_eq_some_iff.mp ht).1
                simp at this
                omega
              rw [this] at ht
              cases ht
              have : i = n := by omega
              rw [this]
              exact ⟨hs2, hs3⟩
      obtain ⟨b, e1, e2, e3⟩ := key ds.length (Nat.le_refl _)
      rw [List.take_length] at e2
      exact ⟨b, by rw [e2]; rfl, by omega, e3⟩
    | .none, h | .bool _, h | .int _, h | .str _, h | .list _, h | .dict _, h => cases h
  · rintro ⟨b, rfl, h⟩
    show (decide ((b.map stemD).length ≤ 7) && stemsOk (b.map stemD)) = true
    rw [List.length_map, decide_eq_true h.len, Bool.true_and]
    unfold stemsOk
    rw [List.all_eq_true]
    intro x hx
    obtain ⟨j, hj, rfl⟩ := List.mem_map.mp hx
    rw [List.mem_range, List.length_map] at hj
    refine isStem_iff.mpr ⟨b[j], ?_, h.low j _ (List.getElem?_eq_getElem hj)⟩
    rw [List.getD_eq_getElem?_getD, List.getElem?_map, List.getElem?_eq_getElem hj]; rfl
theorem col_ok (c : Col) : PyData.strOk c.s = true := by cases c <;> decide +kernel
theorem pl_stem (s : Int × Col) : pl (stemD s) = true := by
  show (true && (PyData.strOk s.2.s && true)) = true
  rw [col_ok]; rfl
theorem pl_stems : ∀ b : Bsh, plAll (b.map stemD) = true
  | [] => rfl
  | s :: b => by rw [List.map_cons, plAll, pl_stem, pl_stems b]; rfl
theorem pl_bush (b : Bsh) : pl (bushD b) = true := pl_stems b
theorem depth_stems : ∀ b : Bsh, PyData.depthAll (b.map stemD) ≤ 1
  | [] => by decide
  | s :: b => by
    rw [List.map_cons, PyData.depthAll]
    have := depth_stems b
    have : (stemD s).depth = 1 := rfl
    omega
theorem bush_depth {b : Bsh} : (bushD b).depth ≤ 64 := by
  show PyData.depthAll (b.map stemD) + 1 ≤ 64
  have := depth_stems b
  omega
theorem stemD_inj {s t : Int × Col} (h : stemD s = stemD t) : s = t := by
  obtain ⟨i, c⟩ := s
  obtain ⟨j, e⟩ := t
  have h1 : (PyData.int i) = .int j ∧ (PyData.str c.s) = .str e.s := by
    have := congrArg (fun d => match d with | PyData.tuple [x, y] => (x, y) | _ => (.none, .none)) h
    exact Prod.mk.inj this
  have h2 : i = j := PyData.int.inj h1.1
  have h3 : c.s = e.s := PyData.str.inj h1.2
  have h4 : c = e := by
    cases c <;> cases e <;> first | rfl | (exact absurd h3 (by decide))
  rw [h2, h4]
theorem bushD_inj {a b : Bsh} (h : bushD a = bushD b) : a = b := by
  have h := PyData.tuple.inj h
  exact (List.map_inj_right (fun _ _ => stemD_inj)).mp h
theorem stem_at {K : PySem.W.Frag} {H : Hp} {v : V} {s : Int × Col} (h : At K H v (stemD s)) : ∃ a, v = .ref a ∧ SqT K H a [.int s.1, .str s.2.s] := by
  obtain ⟨a, vs, rfl, hs, _, hd⟩ := At.inv (ds := [.int s.1, .str s.2.s]) h
  cases hd with
  | cons x r =>
    cases x
    cases r with
    | cons y r2 => cases y; cases r2; exact ⟨a, rfl, hs⟩
theorem at_stem {K : PySem.W.Frag} {H : Hp} {a : Addr} {s : Int × Col} (h : H a = some (.tup [.int s.1, .str s.2.s])) : At K H (.ref a) (stemD s) := At.tupO h (.cons (.int s.1) (.cons (.str (col_ok _)) .nil))
theorem bush_at {K : PySem.W.Frag} {H : Hp} {v : V} {b : Bsh} (h : At K H v (bushD b)) : ∃ a vs, v = .ref a ∧ SqT K H a vs ∧ AtAll K H vs (b.map stemD) ∧ vs.length = b.length := by
  obtain ⟨a, vs, e, h1, h2⟩ := At.inv h
  exact ⟨a, vs, e, h1, h2, by rw [AtAll.len h2.2, List.length_map]⟩
/-- the i-th stem -/
theorem bush_get {K : PySem.W.Frag} {H : Hp} {vs : List V} {b : Bsh} {i : Nat} {v : V} (h : AtAll K H vs (b.map stemD)) (e : vs[i]? = some v) : ∃ s a, b[i]? = some s ∧ v = .ref a ∧ SqT K H a [.int s.1, .str s.2.s] := by
  obtain ⟨d, h1, h2⟩ := h.get e
  rw [List.getElem?_map] at h1
  cases q : b[i]? with
  | none => rw [q] at h1; cases h1
  | some s =>
    rw [q] at h1
    cases h1
    obtain ⟨a, h3, h4⟩ := stem_at h2
    exact ⟨s, a, rfl, h3, h4⟩
section
variable {P : Program} {w : World} {K : PySem.W.Frag} {mg : Str → Option Value} {base : Heap} {C : Nat → Addr} {CS : Addr}
/-! ### need_bush -/
def spNeedBush (K : PySem.W.Frag) (C : Nat → Addr) : Sp := fun vs H Q E => ∃ v d, vs = [v] ∧ Dp K H v d ∧ (isBush d = true → ∀ H', Same H H' → Q .non H') ∧ (isBush d = false → ∀ H', Same H H' → E (.ref (C 0)) none H')
theorem scNeedBush : FnScope ["bush"] ["bush"] (defScope s_need_bush) := ⟨rfl, rfl, rfl, by decide +kernel, rfl, by decide +kernel, by decide +kernel⟩
theorem k_need_bush (F : Here K mg "need_bush" s_need_bush) (O : ExcOne K mg "InvalidBush" (C 0)) (d_bush : Keeps' P w K mg base CX0 3 "is_bush" ["value"] (spIsBush K)) : Keeps' P w K mg base (L2N.CX P w) 4 "need_bush" ["bush"] (spNeedBush K C) := by
  refine keepsN F scNeedBush (fun _ _ _ _ _ _ us hl => match us, hl with | [_], _ => rfl) (fun vs H Q E h => by obtain ⟨_, _, e, _⟩ := h; rw [e]; rfl) fun f cdv A outer s H vs Q E hr h => ?_
  obtain ⟨v, d, rfl, hd, q1, q2⟩ := h
  refine ⟨_, pss_one (ps_if (pt_not (pt_val (pe_d0 d_bush (hr.mono (by decide)) (by rfl) (pa1 (pv 0)))))
      (pss_one (ps_raiseN rfl O (by rfl) rfl rfl rfl rfl))
      (pss_nil)), ?_⟩
  refine ⟨_, rfl, _, _, rfl, hd, fun H1 s1 => ⟨_, rfl, ?_⟩⟩
  cases hn : isBush d with
  | true => exact q1 hn _ s1
  | false => exact q2 hn _ s1
end
/-! ### _law_any_bush -/
def Col.code : Col → Nat
  | .w => 119
  | .b => 98
  | .g => 103
def colStr (cs : List Col) : Str := ⟨(cs.map Col.code).toArray⟩
theorem col_code (c : Col) : c.s = ⟨#[c.code]⟩ := by cases c <;> rfl
section
variable {P : Program} {w : World} {K : PySem.W.Frag} {mg : Str → Option Value} {base : Heap} {C : Nat → Addr} {CS : Addr}
def spAnyBush (K : PySem.W.Frag) : Sp := fun vs H Q _ => ∃ (d : Addr) (most : Int) (cs : List Col), vs = [.ref d, .int most, .str (colStr cs)] ∧ Dice H d ∧ 0 ≤ most ∧ most ≤ 7 ∧ 0 < cs.length ∧ cs.length < 100 ∧
  ∀ H' p b, Mv d H H' → H p = none → At K H' (.ref p) (bushD b) → BushOk b → b.length ≤ most → (∀ s ∈ b, s.2 ∈ cs) → Q (.ref p) H'
end
end Sv

set_option maxHeartbeats 4000000
namespace Sv
open PySem PySem.Spec PyProof.Rows L2 L2H HotX LamX
/-! ### cutting, in plain words -/
/-- the new number of what a stem grows from -/
def nameOf (ns : List (Option Nat)) (below : Int) : Option Int := if below < 0 then some (-1) else (ns.getD below.toNat none).map fun j => (j : Int)
def wStep (n i : Nat) (s : Int × Col) (st : List (Option Nat) × Bsh) : List (Option Nat) × Bsh :=
  if i = n then (st.1 ++ [none], st.2) else match nameOf st.1 s.1 with
  | none => (st.1 ++ [none], st.2)
  | some j => (st.1 ++ [some st.2.length], st.2 ++ [(j, s.2)])
def wSt (b : Bsh) (n : Nat) : Nat → List (Option Nat) × Bsh
  | 0 => ([], [])
  | i + 1 => match b[i]? with
    | none => wSt b n i
    | some s => wStep n i s (wSt b n i)
/-- the bush b after its n-th stem was cut -/
def withoutB (b : Bsh) (n : Nat) : Bsh := (wSt b n b.length).2
theorem wSt_succ {b : Bsh} {n i : Nat} {s : Int × Col} (h : b[i]? = some s) : wSt b n (i + 1) = wStep n i s (wSt b n i) := by
  show (match b[i]? with | none => wSt b n i | some s => wStep n i s (wSt b n i)) = _
  rw [h]
theorem wStep_len {n i : Nat} {s : Int × Col} {st : List (Option Nat) × Bsh} : (wStep n i s st).1.length = st.1.length + 1 ∧ (wStep n i s st).2.length ≤ st.2.length + 1 := by
  unfold wStep
  split
  · simp
  · split <;> simp
theorem wSt_len {b : Bsh} {n : Nat} : ∀ i, i ≤ b.length → (wSt b n i).1.length = i ∧ (wSt b n i).2.length ≤ i
  | 0, _ => ⟨rfl, Nat.le_refl _⟩
  | i + 1, h => by
    have ih := wSt_len (b := b) (n := n) i (by omega)
    rw [wSt_succ (List.getElem?_eq_getElem (show i < b.length by omega))]
    have := wStep_len (n := n) (i := i) (s := b[i]) (st := wSt b n i)
    omega
section
variable {P : Program} {w : World} {K : PySem.W.Frag} {mg : Str → Option Value} {base : Heap} {C : Nat → Addr} {CS : Addr}
/-! ### without -/
def spWithout (K : PySem.W.Frag) : Sp := fun vs H Q _ => ∃ (v : V) (b : Bsh) (n : Nat), vs = [v, .int (n : Nat)] ∧ At K H v (bushD b) ∧ BushLo b ∧ ∀ H' p, Same H H' → H p = none → At K H' (.ref p) (bushD (withoutB b n)) → Q (.ref p) H'
theorem scWithout : FnScope ["bush", "number", "names", "left", "at", "below", "colour"] ["bush", "number"] (defScope s_without) := ⟨rfl, rfl, rfl, by decide +kernel, rfl, by decide +kernel, by decide +kernel⟩
/-- the dict names says what ns says -/
structure Names (kvs : List (Key × V)) (ns : List (Option Nat)) : Prop where
  gnd : valV kvs (.inl (-1)) = some (.int (-1))
  at_ : ∀ k : Nat, valV kvs (.inl (k : Int)) = (ns.getD k none).map fun j => .int (j : Int)
  len : kvs.length ≤ ns.length + 1
theorem Names.get {kvs : List (Key × V)} {ns : List (Option Nat)} (h : Names kvs ns) {below : Int} (h1 : -1 ≤ below) : valV kvs (.inl below) = (nameOf ns below).map V.int := by
  unfold nameOf
  by_cases hb : below < 0
  · have : below = -1 := by omega
    subst this
    rw [if_pos hb, h.gnd]; rfl
  · rw [if_neg hb]
    have := h.at_ below.toNat
    rw [show ((below.toNat : Nat) : Int) = below by omega] at this
    rw [this]
    cases ns.getD below.toNat none <;> rfl
theorem Names.skip {kvs : List (Key × V)} {ns : List (Option Nat)} (h : Names kvs ns) : Names kvs (ns ++ [none]) := by
  refine ⟨h.gnd, fun k => ?_, by rw [List.length_append]; have := h.len; omega⟩
  rw [h.at_ k, List.getD_eq_getElem?_getD, List.getD_eq_getElem?_getD]
  by_cases hk : k < ns.length
  · rw [List.getElem?_append_left hk]
  · rw [List.getElem?_eq_none (by omega), List.getElem?_append_right (by omega)]
    cases k - ns.length with
    | zero => rfl
    | succ m => rfl
theorem Names.put {kvs : List (Key × V)} {ns : List (Option Nat)} (h : Names kvs ns) (j : Nat) : Names (putK kvs (.inl (ns.length : Int)) (.int (j : Int))) (ns ++ [some j]) := by
  refine ⟨?_, fun k => ?_, ?_⟩
  · rw [valV_put, if_neg (fun z => by have := Sum.inl.inj z; omega)]; exact h.gnd
  · rw [valV_put, List.getD_eq_getElem?_getD]
    by_cases hk : k < ns.length
    · rw [if_neg (fun z => by have := Sum.inl.inj z; omega), h.at_ k, List.getElem?_append_left hk, List.getD_eq_getElem?_getD]
    · by_cases e : k = ns.length
      · subst e
        rw [if_pos rfl, List.getElem?_append_right (Nat.le_refl _), Nat.sub_self]; rfl
      · rw [if_neg (fun z => by have := Sum.inl.inj z; omega), h.at_ k, List.getD_eq_getElem?_getD, List.getElem?_eq_none (by omega), List.getElem?_eq_none (by rw [List.length_append]; simp; omega)]
  · have h1 := length_putK kvs (.inl (ns.length : Int)) (.int (j : Int))
    have h2 := h.len
    rw [List.length_append]; simp; omega
theorem k_without (F : Here K mg "without" s_without) (B : Blt mg) : Keeps' P w K mg base CX0 1 "without" ["bush", "number"] (spWithout K) := by
  refine keeps0 F scWithout (fun _ _ _ _ _ _ us hl => match us, hl with | [_, _], _ => rfl) (fun vs H Q E h => by obtain ⟨_, _, _, e, _⟩ := h; rw [e]; rfl) fun f cdv A outer s H vs Q E hr h => ?_
  obtain ⟨v, b, n, rfl, hA, hb, q⟩ := h
  refine ⟨_, pss_cons (ps_par (i := 2) (j := 3) rfl scWithout.nd rfl rfl (by decide) rfl rfl (pa2 (pe_disp (pps_cons (pe_un un_neg pe_int) (pe_un un_neg pe_int) pps_nil) rfl rfl (fun z => nomatch z) (by decide)) (pe_lstN pa_nil)) (by rfl))
    (pss_cons (ps_for PassesOwn.never rfl (pi_enumT K (by rfl) B.enumerate (pa1 (pv 0))) (pg_tupK K (n := 2) rfl (pgs_cons (pgn 4 scWithout.nd) (pgs_cons (pg_tupK K (n := 2) rfl (pgs_cons (pgn 5 scWithout.nd) (pgs_cons (pgn 6 scWithout.nd) pgs_nil))) pgs_nil)))
      (pss_one (ps_if (PW.pt (pw_and (pt_cmpR op_ne (pv 4) (pv 1) (nomark _)) (pw_and1 (pt_cmpR (op_din (hu_of hr)) (pv 5) (pv 2) (by rfl)))))
          (pss_cons (ps_dput (hu_of hr) (pv 2) (pv 4) (pb (call_len_seqK K) B.len PySem.boot_len (pa1 (pv 3))) (by rfl))
            (pss_one (ps_expr (pe_bm PySem.F.plainAttrs_list PySem.F.slot_list_append PySem.F.type_list_append mt_append (pv 3) (pa1 (pe_tupN (pa2 (pe_dget (hu_of hr) (pv 2) (pv 5) (fun _ _ => rfl)) (pv 6))))))))
          (pss_nil))))
    (pss_one (ps_ret (pbt (call_tupleK K) B.tuple boot_tuple (pa1 (pv 3)))))), ?_⟩
  obtain ⟨a, vs, rfl, hs, hvs, hlen⟩ := bush_at hA
  intro dn ndn
  refine ⟨_, rfl, _, rfl, upd_same, [(Sum.inl (-1), V.int (-1))], rfl, by decide, szl rfl, fun l H2 nl s2 el => ?_⟩
  have ed : H2 dn = some (.dK [(Sum.inl (-1), V.int (-1))]) := s2 _ _ upd_same
  have hdl : l ≠ dn := fun z => by rw [z, upd_same] at nl; cases nl
  have nlH : H l = none := by
    rw [upd_ne hdl, upd_ne hdl] at nl; exact nl
  have s01 : Same H (upd H dn (.dK [])) := same_new ndn
  have s02 : Same H H2 := (same_put s01 ndn).trans s2
  refine ⟨_, _, rfl, _, rfl, a, vs, rfl, (Same.ext s02).sqT hs, for_it (walk_enumT (xs := vs)) (fun i σ H' => ∃ y4 y5 y6 kvs lv, σ = [some (.ref a), some (.int (n : Nat)), some (.ref dn), some (.ref l), y4, y5, y6] ∧ Same H H' ∧ H' dn = some (.dK kvs) ∧ Names kvs (wSt b n i).1 ∧ H' l = some (.lst lv) ∧ AtAll K H' lv ((wSt b n i).2.map stemD))
    ⟨none, none, none, _, [], rfl, s02, ed, ⟨rfl, fun k => rfl, Nat.le_refl 1⟩, el, AtAll.nil⟩ (fun i σ H' _ h => by obtain ⟨_, _, _, _, _, _, s', _⟩ := h; exact (Same.ext s').sqT hs) ?_ ?_⟩
  · rintro i x σ H3 H4 hi ⟨y4, y5, y6, kvs, lv, rfl, s3, ed3, hN, el3, hlv⟩ ⟨T, y, rfl, nT, s4, eT, hy⟩
    obtain ⟨st, sa, hst, rfl, hsa⟩ := bush_get hvs hy
    have s04 := s3.trans s4
    have hsa4 := (Same.ext s04).sqT hsa
    have hlo := hb.low i st hst
    have hib : i < b.length := by omega
    have hw := wSt_succ (n := n) hst
    have hwl := wSt_len (b := b) (n := n) i (by omega)
    have hb7 := hb.len
    refine ⟨T, _, rfl, SqT.of eT, rfl, _, _, rfl, _, _, rfl, sa, _, rfl, hsa4, rfl, _, _, rfl, _, _, rfl, rfl, rfl, ?_⟩
    have ed4 := s4 _ _ ed3
    have el4 := s4 _ _ el3
    have hg : DGet H4 dn (.int st.1) ((nameOf (wSt b n i).1 st.1).map V.int) := by
      rw [← hN.get hlo.1]
      exact DGet.k (k := .inl st.1) ed4
    have skip : wSt b n (i + 1) = ((wSt b n i).1 ++ [none], (wSt b n i).2) → Names kvs (wSt b n (i + 1)).1 ∧ AtAll K H4 lv ((wSt b n (i + 1)).2.map stemD) := fun e => by
      rw [e]
      exact ⟨hN.skip, hlv.ext (Same.ext s4)⟩
    refine ⟨_, rfl, _, rfl, rfl, _, rfl, ?_⟩
    by_cases hin : i = n
    · subst hin
      have e : wSt b i (i + 1) = ((wSt b i i).1 ++ [none], (wSt b i i).2) := by rw [hw]; unfold wStep; rw [if_pos rfl]
      refine ite2 (fun z => absurd z (by simp)) fun _ => iteF ⟨_, _, _, kvs, lv, rfl, s04, ed4, (skip e).1, el4, (skip e).2⟩
    · refine ite2 (fun _ => ?_) fun z => absurd (show (!decide (V.int (i : Int) = V.int (n : Int))) = true by
        rw [decide_eq_false (fun z => hin (by have := V.int.inj z; omega))]; rfl) z
      refine ⟨_, rfl, _, rfl, dn, _, rfl, hg, _, rfl, ?_⟩
      cases hj : nameOf (wSt b n i).1 st.1 with
      | none =>
        have e : wSt b n (i + 1) = ((wSt b n i).1 ++ [none], (wSt b n i).2) := by rw [hw]; unfold wStep; rw [if_neg hin, hj]
        exact iteF ⟨_, _, _, kvs, lv, rfl, s04, ed4, (skip e).1, el4, (skip e).2⟩
      | some j =>
        have e : wSt b n (i + 1) = ((wSt b n i).1 ++ [some (wSt b n i).2.length], (wSt b n i).2 ++ [(j, st.2)]) := by rw [hw]; unfold wStep; rw [if_neg hin, hj]
        have hll : lv.length = (wSt b n i).2.length := by rw [AtAll.len hlv.2, List.length_map]
        have hN2 := hN.put (wSt b n i).2.length
        rw [hwl.1, ← hll] at hN2
        refine iteT ⟨_, rfl, l, lv, rfl, .inl (SqL.of el4), _, rfl, _, rfl, dn, _, rfl, DPut.k (k := .inl (i : Int)) ed4 (by have := hN.len; rw [sizeLine_eq]; omega), ?_⟩
        have hld : l ≠ dn := hdl
        have el5 : (upd H4 dn (.dK (putK kvs (.inl (i : Int)) (.int (lv.length : Int))))) l = some (.lst lv) := by rw [upd_ne hld]; exact el4
        have ed5 : (upd H4 dn (.dK (putK kvs (.inl (i : Int)) (.int (lv.length : Int))))) dn = some (.dK (putK kvs (.inl (i : Int)) (.int (lv.length : Int)))) := upd_same
        have hg5 : DGet (upd H4 dn (.dK (putK kvs (.inl (i : Int)) (.int (lv.length : Int))))) dn (.int st.1) (some (.int j)) := by
          have h5 := DGet.k (k := .inl st.1) ed5
          rw [valV_put, if_neg (fun z => by have := Sum.inl.inj z; omega), hN.get hlo.1, hj] at h5
          exact h5
        have x45 : Ext H4 (upd H4 dn (.dK (putK kvs (.inl (i : Int)) (.int (lv.length : Int))))) := Ext.wr ed4 (fun _ z => nomatch z) (fun _ _ z => nomatch z)
        refine ⟨_, rfl, .inl ⟨rfl, _, SqL.of el5⟩, _, rfl, _, rfl, dn, _, rfl, hg5, _, rfl, szl rfl, fun t H6 nt s6 et => ?_⟩
        have el6 := s6 _ _ el5
        have x6 := Ext.lst (o := .lst (lv ++ [.ref t])) el6
        refine ⟨l, lv, .ref t, rfl, rfl, el6, by rw [sizeLine_eq]; omega, ?_⟩
        refine ⟨_, _, _, _, lv ++ [.ref t], rfl, same_put ((same_put s04 ndn).trans s6) nlH, by rw [upd_ne hld.symm]; exact s6 _ _ ed5, ?_, upd_same, ?_⟩
        · rw [e]
          show Names _ ((wSt b n i).1 ++ [some (wSt b n i).2.length])
          rw [← hll]; exact hN2
        · rw [e, List.map_append]
          exact AtAll.snoc ((at_stem (s := (j, st.2)) et).ext x6) ((hlv.ext (Same.ext s4)).ext (x45.trans ((Same.ext s6).trans x6)))
  · rintro σ H3 ⟨y4, y5, y6, kvs, lv, rfl, s3, ed3, hN, el3, hlv⟩
    rw [hlen] at hlv
    refine ⟨_, rfl, l, lv, rfl, SqL.of el3, fun p H4 np s4 e4 => ?_⟩
    exact q H4 p (s3.trans s4) (s3.free np) (At.tupO e4 (hlv.ext (Same.ext s4)))
/-! ### need_stem, need_player -/
def spNeedStem (K : PySem.W.Frag) (C : Nat → Addr) : Sp := fun vs H Q E => ∃ v v2 ds d, vs = [v, v2] ∧ At K H v (.tuple ds) ∧ Dp K H v2 d ∧ (whole d 0 (ds.length - 1) = true → ∀ H', Same H H' → Q .non H') ∧ (whole d 0 (ds.length - 1) = false → ∀ H', Same H H' → E (.ref (C 1)) none H')
theorem scNeedStem : FnScope ["bush", "number"] ["bush", "number"] (defScope s_need_stem) := ⟨rfl, rfl, rfl, by decide +kernel, rfl, by decide +kernel, by decide +kernel⟩
theorem k_need_stem (F : Here K mg "need_stem" s_need_stem) (B : Blt mg) (O : ExcOne K mg "InvalidStem" (C 1)) (d_whole : Keeps' P w K mg base CX0 1 "is_whole" ["value", "low", "high"] (spWhole K)) : Keeps' P w K mg base (L2N.CX P w) 2 "need_stem" ["bush", "number"] (spNeedStem K C) := by
  refine keepsN F scNeedStem (fun _ _ _ _ _ _ us hl => match us, hl with | [_, _], _ => rfl) (fun vs H Q E h => by obtain ⟨_, _, _, _, e, _⟩ := h; rw [e]; rfl) fun f cdv A outer s H vs Q E hr h => ?_
  obtain ⟨v, v2, ds, d, rfl, hA, hd, q1, q2⟩ := h
  obtain ⟨a, us, rfl, hs, hus⟩ := hA.inv
  have hl := AtAll.len hus.2
  refine ⟨_, pss_one (ps_if (pt_not (pt_val (pe_d0 d_whole (hr.mono (by decide)) (by rfl) (pa3 (pv 1) pe_int (pe_op op_sub (pb (call_len_seqK K) B.len PySem.boot_len (pa1 (pv 0))) pe_int)))))
      (pss_one (ps_raiseN rfl O (by rfl) rfl rfl rfl rfl))
      (pss_nil)), ?_⟩
  refine ⟨_, rfl, _, rfl, a, us, rfl, .inr hs, _, _, rfl, rfl, v2, d, 0, (us.length : Int) - 1, rfl, hd, _, rfl, ?_⟩
  rw [hl]
  cases hn : whole d 0 (ds.length - 1) with
  | true => exact q1 hn _ (Same.refl H)
  | false => exact q2 hn _ (Same.refl H)
def isPl (d : PyData) : Bool := match d with
  | .str x => ([Col.w.s, Col.b.s] : List Str).contains x
  | _ => false
def spNeedPl (K : PySem.W.Frag) (C : Nat → Addr) : Sp := fun vs H Q E => ∃ v d, vs = [v] ∧ Dp K H v d ∧ (isPl d = true → ∀ H', Same H H' → Q .non H') ∧ (isPl d = false → ∀ H', Same H H' → E (.ref (C 2)) none H')
theorem scNeedPl : FnScope ["player"] ["player"] (defScope s_need_player) := ⟨rfl, rfl, rfl, by decide +kernel, rfl, by decide +kernel, by decide +kernel⟩
theorem k_need_player (F : Here K mg "need_player" s_need_player) (B : Blt mg) (O : ExcOne K mg "InvalidPlayer" (C 2)) : Keeps' P w K mg base (L2N.CX P w) 1 "need_player" ["player"] (spNeedPl K C) := by
  refine keepsN F scNeedPl (fun _ _ _ _ _ _ us hl => match us, hl with | [_], _ => rfl) (fun vs H Q E h => by obtain ⟨_, _, e, _⟩ := h; rw [e]; rfl) fun f cdv A outer s H vs Q E hr h => ?_
  obtain ⟨v, d, rfl, hd, q1, q2⟩ := h
  refine ⟨_, pss_one (ps_if (PW.pt (pw_or (pt_not (pt_val (pb (call_isDK K) B.isinstance boot_isinstance (pa2 (pv 0) (pty B.str boot_str))))) (pw_or1 (pt_cmpR (op_notIn_seqK K) (pv 0) (pe_tupN (pa2 pe_str pe_str)) (by rfl)))))
      (pss_one (ps_raiseN rfl O (by rfl) rfl rfl rfl rfl))
      (pss_nil)), ?_⟩
  refine ⟨_, rfl, _, _, d, rfl, hd, .inr (.inr (.inl rfl)), _, rfl, ?_⟩
  cases hd with
  | non => exact q2 rfl _ (Same.refl H)
  | bl b => exact q2 rfl _ (Same.refl H)
  | int i => exact q2 rfl _ (Same.refl H)
  | lst _ _ => exact q2 rfl _ (Same.refl H)
  | tup _ _ => exact q2 rfl _ (Same.refl H)
  | str x =>
    refine iteF ⟨_, rfl, szl rfl, fun p H1 np s1 e1 => ⟨p, ([Col.w.s, Col.b.s] : List Str).map V.str, rfl, .inr (SqT.of e1), rfl, rfl, _, rfl, ?_⟩⟩
    show if (!inV (.str x) (([Col.w.s, Col.b.s] : List Str).map V.str)) = true then _ else _
    rw [inV_strs]
    cases hc : ([Col.w.s, Col.b.s] : List Str).contains x with
    | true => exact q1 hc _ s1
    | false => exact q2 hc _ s1
theorem isPl_iff {d : PyData} : isPl d = true ↔ d = .str Col.w.s ∨ d = .str Col.b.s := by
  constructor
  · intro h
    match d, h with
    | .str x, h =>
      have h : ([Col.w.s, Col.b.s] : List Str).contains x = true := h
      rw [List.contains_iff_mem] at h
      simp only [List.mem_cons, List.not_mem_nil, or_false] at h
      rcases h with h | h
      · exact .inl (by rw [h])
      · exact .inr (by rw [h])
    | .none, h | .bool _, h | .int _, h | .list _, h | .dict _, h | .tuple _, h => cases h
  · rintro (rfl | rfl) <;> decide
/-! ### after_cut -/
def spAfterCut (K : PySem.W.Frag) (C : Nat → Addr) : Sp := fun vs H Q E => ∃ v v2 d d2, vs = [v, v2] ∧ Dp K H v d ∧ Dp K H v2 d2 ∧ (isBush d = false → ∀ H', Same H H' → E (.ref (C 0)) none H') ∧
  ∀ b : Bsh, d = bushD b → BushOk b → (whole d2 0 (b.length - 1) = false → ∀ H', Same H H' → E (.ref (C 1)) none H') ∧
    ∀ n : Nat, d2 = .int n → n < b.length → ∀ H' p, Same H H' → H p = none → At K H' (.ref p) (bushD (withoutB b n)) → Q (.ref p) H'
theorem scAfterCut : FnScope ["bush", "number"] ["bush", "number"] (defScope s_after_cut) := ⟨rfl, rfl, rfl, by decide +kernel, rfl, by decide +kernel, by decide +kernel⟩
theorem k_after_cut (F : Here K mg "after_cut" s_after_cut) (d_need : Keeps' P w K mg base (L2N.CX P w) 4 "need_bush" ["bush"] (spNeedBush K C)) (d_stem : Keeps' P w K mg base (L2N.CX P w) 2 "need_stem" ["bush", "number"] (spNeedStem K C))
    (d_without : Keeps' P w K mg base CX0 1 "without" ["bush", "number"] (spWithout K)) : Keeps' P w K mg base (L2N.CX P w) 5 "after_cut" ["bush", "number"] (spAfterCut K C) := by
  refine keepsN F scAfterCut (fun _ _ _ _ _ _ us hl => match us, hl with | [_, _], _ => rfl) (fun vs H Q E h => by obtain ⟨_, _, _, _, e, _⟩ := h; rw [e]; rfl) fun f cdv A outer s H vs Q E hr h => ?_
  obtain ⟨v, v2, d, d2, rfl, hd, hd2, q1, q2⟩ := h
  refine ⟨_, pss_cons (ps_expr (pe_dX d_need (hr.mono (by decide)) (by rfl) (L2N.takes_of rfl rfl rfl rfl) (fun _ _ _ _ h => h) (pa1 (pv 0))))
    (pss_cons (ps_expr (pe_dX d_stem (hr.mono (by decide)) (by rfl) (L2N.takes_of rfl rfl rfl rfl) (fun _ _ _ _ h => h) (pa2 (pv 0) (pv 1))))
    (pss_one (ps_ret (pe_d0 d_without (hr.mono (by decide)) (by rfl) (pa2 (pv 0) (pv 1)))))), ?_⟩
  refine ⟨_, rfl, v, d, rfl, hd, fun n1 H1 s1 => ?_, fun n1 H1 s1 => q1 n1 H1 s1⟩
  obtain ⟨b, rfl, hb⟩ := isBush_iff.mp n1
  obtain ⟨q3, q4⟩ := q2 b rfl hb
  have hA : At K H1 v (bushD b) := ⟨pl_bush b, dp_same s1 _ _ hd⟩
  refine ⟨_, rfl, _, rfl, v, v2, b.map stemD, d2, rfl, hA, dp_same s1 _ _ hd2, fun n2 H2 s2 => ?_, fun n2 H2 s2 => q3 (by rw [List.length_map] at n2; exact n2) H2 (s1.trans s2)⟩
  rw [List.length_map] at n2
  obtain ⟨i, rfl, i0, i1⟩ := whole_int n2
  obtain ⟨n, rfl⟩ : ∃ n : Nat, i = (n : Int) := ⟨i.toNat, by omega⟩
  cases hd2
  refine ⟨_, rfl, _, rfl, v, b, n, rfl, hA.same s2, hb.lo, fun H3 p s3 np hp => ?_⟩
  exact q4 n rfl (by omega) H3 p (s1.trans (s2.trans s3)) (s1.free (s2.free np)) hp
end
end Sv

set_option maxHeartbeats 4000000
namespace Sv
open PySem PySem.Spec PyProof.Rows L2 L2H HotX LamX
/-! ### who may cut what -/
def mayB (b : Bsh) (c : Col) (j : Nat) : Bool := match b[j]? with
  | some s => s.2 == c || s.2 == .g
  | none => false
def cutsUp (b : Bsh) (c : Col) (i : Nat) : List Nat := (List.range i).filter (mayB b c)
def cutsB (b : Bsh) (c : Col) : List Nat := cutsUp b c b.length
theorem cutsUp_yes {b : Bsh} {c : Col} {i : Nat} (h : mayB b c i = true) : cutsUp b c (i + 1) = cutsUp b c i ++ [i] := by
  unfold cutsUp
  rw [List.range_succ, List.filter_append, List.filter_cons, if_pos h]; rfl
theorem cutsUp_no {b : Bsh} {c : Col} {i : Nat} (h : ¬ mayB b c i = true) : cutsUp b c (i + 1) = cutsUp b c i := by
  unfold cutsUp
  rw [List.range_succ, List.filter_append, List.filter_cons, if_neg h]; simp
theorem mayB_at {b : Bsh} {c : Col} {i : Nat} {s : Int × Col} (h : b[i]? = some s) : mayB b c i = (s.2 == c || s.2 == .g) := by
  unfold mayB
  rw [h]
theorem cs_beq (a c : Col) : (a.s == c.s) = (a == c) := by cases a <;> cases c <;> decide
theorem cs_inj {a c : Col} (h : a.s = c.s) : a = c := by
  have := cs_beq a c
  rw [h, beq_self_eq_true] at this
  exact of_decide_eq_true this.symm
/-- numbers as data -/
def natsD (ns : List Nat) : PyData := .tuple (ns.map fun (n : Nat) => .int n)
theorem atAll_nats {K : PySem.W.Frag} {H : Hp} : ∀ ns : List Nat, AtAll K H (ns.map fun (n : Nat) => V.int n) (ns.map fun (n : Nat) => PyData.int n)
  | [] => .nil
  | n :: ns => .cons (.int n) (atAll_nats ns)
theorem natsD_depth (ns : List Nat) : (natsD ns).depth ≤ 64 := by
  have : ∀ l : List Nat, PyData.depthAll (l.map fun (n : Nat) => PyData.int n) = 0 := by
    intro l
    induction l with
    | nil => rfl
    | cons n l ih => rw [List.map_cons, PyData.depthAll, ih]; rfl
  show PyData.depthAll _ + 1 ≤ 64
  rw [this]; decide
section
variable {P : Program} {w : World} {K : PySem.W.Frag} {mg : Str → Option Value} {base : Heap} {C : Nat → Addr} {CS : Addr}
/-! ### cuts_of -/
def spCutsOf (K : PySem.W.Frag) : Sp := fun vs H Q _ => ∃ (v : V) (b : Bsh) (c : Col), vs = [v, .str c.s] ∧ At K H v (bushD b) ∧ BushLo b ∧ ∀ H' p, Same H H' → H p = none → H' p = some (.lst ((cutsB b c).map fun (n : Nat) => V.int n)) → Q (.ref p) H'
theorem scCutsOf : FnScope ["bush", "player", "at", "below", "colour"] ["bush", "player"] (defScope s_cuts_of) := ⟨rfl, rfl, rfl, by decide +kernel, rfl, by decide +kernel, by decide +kernel⟩
theorem k_cuts_of (F : Here K mg "cuts_of" s_cuts_of) (B : Blt mg) : Keeps' P w K mg base CX0 1 "cuts_of" ["bush", "player"] (spCutsOf K) := by
  refine keeps0 F scCutsOf (fun _ _ _ _ _ _ us hl => match us, hl with | [_, _], _ => rfl) (fun vs H Q E h => by obtain ⟨_, _, _, e, _⟩ := h; rw [e]; rfl) fun f cdv A outer s H vs Q E hr h => ?_
  obtain ⟨v, b, c, rfl, hA, hb, q⟩ := h
  refine ⟨_, pss_one (ps_ret (pe_lc (own := [("at", 2), ("below", 3), ("colour", 4)]) rfl scCutsOf.nd (pi_enumT K (by rfl) B.enumerate (pa1 (pv 0))) (blkOk_by (own := [("at", 2), ("below", 3), ("colour", 4)]) (N := ["bush", "player", "at", "below", "colour"]) (sc := defScope s_cuts_of) (by decide +kernel)) (fun _ _ _ _ _ => pg_tupK K (n := 2) rfl (pgs_cons (pgn 2 scCutsOf.nd) (pgs_cons (pg_tupK K (n := 2) rfl (pgs_cons (pgn 3 scCutsOf.nd) (pgs_cons (pgn 4 scCutsOf.nd) pgs_nil))) pgs_nil))) (fun _ _ _ _ _ => pts_one (pt_cmpR (op_in_seqK K) (pv 4) (pe_tupN (pa2 (pv 1) pe_str)) (by rfl))) (fun _ _ _ _ _ => pv 2))), ?_⟩
  obtain ⟨a, vs, rfl, hs, hvs, hlen⟩ := bush_at hA
  have hb7 := hb.len
  refine ⟨_, rfl, a, vs, rfl, hs, ?_⟩
  refine lc_J (walk_enumT (xs := vs)) Same (fun D i ys H' => ys = (cutsUp b c i).map fun (n : Nat) => V.int n) (goes_same H) (by rw [sizeLine_eq]; omega) (fun H' t => (Same.ext t).sqT hs) (fun _ _ => rfl) (fun _ _ _ _ _ _ _ _ r => r) ?_ ?_
  · rintro D E E0 i x ys H1 H2 nD eD hi t rfl ⟨T, y, rfl, nT, s2, eT, hy⟩ k1 k0
    obtain ⟨st, sa, hst, rfl, hsa⟩ := bush_get hvs hy
    have hsa2 := (Same.ext (t.trans s2)).sqT hsa
    refine ⟨T, _, rfl, SqT.of eT, rfl, _, _, rfl, _, _, rfl, sa, _, rfl, hsa2, rfl, _, _, rfl, _, _, rfl, rfl, rfl, rfl, ?_⟩
    refine ⟨_, rfl, _, rfl, szl rfl, fun p H3 np s3 e3 => ⟨p, ([c.s, Col.g.s] : List Str).map V.str, rfl, .inr (SqT.of e3), rfl, rfl, _, rfl, ?_⟩⟩
    show if inV (.str st.2.s) (([c.s, Col.g.s] : List Str).map V.str) = true then _ else _
    rw [inV_strs]
    have e : ([c.s, Col.g.s] : List Str).contains st.2.s = mayB b c i := by
      rw [mayB_at hst, List.contains_cons, List.contains_cons, cs_beq, cs_beq, List.contains_nil, Bool.or_false]
    rw [e]
    refine ite2 (fun z => ⟨_, rfl, k1 _ _ (s2.trans s3) ?_⟩) fun z => k0 _ (s2.trans s3) ?_
    · rw [cutsUp_yes z, List.map_append]; rfl
    · rw [cutsUp_no z]
  · rintro D H1 ys nD t eD _ rfl
    rw [hlen] at eD
    exact q H1 D t nD eD
/-- the stem that is cut has no name -/
theorem wSt_gone {b : Bsh} {n : Nat} : ∀ i, i ≤ b.length → n < i → (wSt b n i).1.getD n none = none
  | 0, _, h => by omega
  | i + 1, h, hn => by
    have hl := wSt_len (b := b) (n := n) i (by omega)
    rw [wSt_succ (List.getElem?_eq_getElem (show i < b.length by omega))]
    unfold wStep
    by_cases e : i = n
    · rw [if_pos e]
      show ((wSt b n i).1 ++ [none]).getD n none = none
      rw [List.getD_eq_getElem?_getD, List.getElem?_append_right (by omega), hl.1, e, Nat.sub_self]; rfl
    · have ih := wSt_gone (b := b) (n := n) i (by omega) (by omega)
      rw [if_neg e]
      rw [List.getD_eq_getElem?_getD] at ih
      split
      · show ((wSt b n i).1 ++ [none]).getD n none = none
        rw [List.getD_eq_getElem?_getD, List.getElem?_append_left (by omega)]; exact ih
      · show ((wSt b n i).1 ++ [some _]).getD n none = none
        rw [List.getD_eq_getElem?_getD, List.getElem?_append_left (by omega)]; exact ih
end
end Sv

set_option maxHeartbeats 4000000
namespace Sv
open PySem PySem.Spec PyProof.Rows L2 L2H HotX LamX
section
variable {P : Program} {w : World} {K : PySem.W.Frag} {mg : Str → Option Value} {base : Heap} {C : Nat → Addr} {CS : Addr}
/-! ### _law_colours -/
def spColours : Sp := fun vs H Q _ => ∃ d : Addr, vs = [.ref d] ∧ Dice H d ∧ ∀ H' (cs : List Col), Mv d H H' → 0 < cs.length → cs.length < 100 → Q (.str (colStr cs)) H'
end
end Sv

set_option maxHeartbeats 4000000
namespace Sv
open PySem PySem.Spec PyProof.Rows L2 L2H HotX LamX
/-! ### one bush on another, in plain words -/
def shift (m num : Int) (s : Int × Col) : Int × Col := (if 0 ≤ s.1 then s.1 + m else num, s.2)
def onStemB (b : Bsh) (num : Int) (o : Bsh) : Bsh := b ++ o.map (shift b.length num)
theorem take_snoc {α : Type} {l : List α} {i : Nat} {x : α} (h : l[i]? = some x) : l.take (i + 1) = l.take i ++ [x] := by
  rw [List.take_add_one, h]; rfl
theorem at_cat {K : PySem.W.Frag} {H H' : Hp} {c : Addr} {xs : List V} {b : Bsh} {t : Addr} {s : Int × Col} (hx : AtAll K H' xs (b.map stemD)) (hc : SqT K H' c (xs ++ [.ref t])) (ht : At K H' (.ref t) (stemD s)) : At K H' (.ref c) (bushD (b ++ [s])) := by
  refine At.tup hc ?_
  rw [List.map_append]
  exact AtAll.snoc ht hx
section
variable {P : Program} {w : World} {K : PySem.W.Frag} {mg : Str → Option Value} {base : Heap} {C : Nat → Addr} {CS : Addr}
/-! ### exchanged -/
def Col.sw : Col → Col
  | .w => .b
  | .b => .w
  | .g => .g
def swS (s : Int × Col) : Int × Col := (s.1, s.2.sw)
def swB (b : Bsh) : Bsh := b.map swS
/-! ### stalks -/
/-- a stalk of the colours cs -/
def stalkB (cs : List Col) : Bsh := cs.mapIdx fun i c => ((i : Int) - 1, c)
def spStalkBush (K : PySem.W.Frag) : Sp := fun vs H Q _ => ∃ cs : List Col, vs = [.str (colStr cs)] ∧ cs.length ≤ 7 ∧ ∀ H' p, Same H H' → H p = none → At K H' (.ref p) (bushD (stalkB cs)) → Q (.ref p) H'
theorem scStalkBush : FnScope ["stalk", "at", "colour"] ["stalk"] (defScope s_stalk_bush) := ⟨rfl, rfl, rfl, by decide +kernel, rfl, by decide +kernel, by decide +kernel⟩
theorem stalk_at {cs : List Col} {i c : Nat} (h : (colStr cs).cps[i]? = some c) : ∃ k : Col, cs[i]? = some k ∧ (⟨#[c]⟩ : Str) = k.s := by
  have h : (cs.map Col.code).toArray[i]? = some c := h
  rw [List.getElem?_toArray, List.getElem?_map] at h
  cases q : cs[i]? with
  | none => rw [q] at h; cases h
  | some k =>
    rw [q] at h
    cases h
    exact ⟨k, rfl, (col_code k).symm⟩
theorem stalkB_take {cs : List Col} {i : Nat} {k : Col} (h : cs[i]? = some k) : (stalkB cs).take (i + 1) = (stalkB cs).take i ++ [((i : Int) - 1, k)] := by
  refine take_snoc ?_
  unfold stalkB
  rw [List.getElem?_mapIdx, h]; rfl
theorem colStr_size (cs : List Col) : (colStr cs).cps.size = cs.length := by
  show ((cs.map Col.code).toArray).size = _
  simp
theorem stalkB_len (cs : List Col) : (stalkB cs).length = cs.length := by unfold stalkB; rw [List.length_mapIdx]
theorem k_stalk_bush (F : Here K mg "stalk_bush" s_stalk_bush) (B : Blt mg) : Keeps' P w K mg base CX0 1 "stalk_bush" ["stalk"] (spStalkBush K) := by
  refine keeps0 F scStalkBush (fun _ _ _ _ _ _ us hl => match us, hl with | [_], _ => rfl) (fun vs H Q E h => by obtain ⟨_, e, _⟩ := h; rw [e]; rfl) fun f cdv A outer s H vs Q E hr h => ?_
  obtain ⟨cs, rfl, hc, q⟩ := h
  refine ⟨_, pss_one (ps_ret (pbt (call_tupleK K) B.tuple boot_tuple (pa1 (pe_lc (own := [("at", 1), ("colour", 2)]) rfl scStalkBush.nd (pi_enumS (by rfl) B.enumerate (pa1 (pv 0))) (blkOk_by (own := [("at", 1), ("colour", 2)]) (N := ["stalk", "at", "colour"]) (sc := defScope s_stalk_bush) (by decide +kernel)) (fun _ _ _ _ _ => pg_tupK K (n := 2) rfl (pgs_cons (pgn 1 scStalkBush.nd) (pgs_cons (pgn 2 scStalkBush.nd) pgs_nil))) (fun _ _ _ _ _ => pts_nil) (fun _ _ _ _ _ => pe_tupN (pa2 (pe_op op_sub (pv 1) pe_int) (pv 2))))))), ?_⟩
  refine ⟨_, rfl, _, rfl, ?_⟩
  refine lc_J (walk_enumS (x := colStr cs)) Same (fun D i ys H' => AtAll K H' ys (((stalkB cs).take i).map stemD)) (goes_same H) (by rw [colStr_size, sizeLine_eq]; omega) (fun _ _ => trivial) (fun _ _ => AtAll.nil) (fun _ _ _ _ _ _ x _ r => r.ext x) ?_ ?_
  · rintro D E E0 i x ys H2 H3 nD eD hi t r ⟨T, c, rfl, nT, s3, eT, hx⟩ k1 k0
    obtain ⟨k, hk, ek⟩ := stalk_at hx
    rw [ek] at eT
    refine ⟨T, _, rfl, SqT.of eT, rfl, _, _, rfl, _, _, rfl, rfl, rfl, ?_⟩
    refine ⟨_, rfl, _, _, rfl, rfl, _, rfl, szl rfl, fun r5 H5 n5 s5 e5 => k1 _ _ (s3.trans s5) ?_⟩
    rw [stalkB_take hk, List.map_append]
    exact AtAll.snoc (at_stem (s := ((i : Int) - 1, k)) e5) (r.ext (Same.ext (s3.trans s5)))
  · rintro D H2 ys nD t eD _ r
    rw [colStr_size, ← stalkB_len, List.take_length] at r
    exact ⟨D, ys, rfl, SqL.of eD, fun p H3 np s3 e3 => q H3 p (t.trans s3) (t.free np) (At.tupO e3 (r.ext (Same.ext s3)))⟩
/-! ### of_stalk -/
def isCode (c : Nat) : Bool := decide (c ∈ [119, 98, 103])
def isStalk (d : PyData) : Bool := match d with
  | .str x => decide (x.cps.size ≤ 7) && (x.cps.toList.map isCode).all id
  | _ => false
theorem codes_cols : ∀ l : List Nat, (l.map isCode).all id = true → ∃ cs : List Col, l = cs.map Col.code
  | [], _ => ⟨[], rfl⟩
  | c :: l, h => by
    rw [List.map_cons, List.all_cons, Bool.and_eq_true] at h
    obtain ⟨cs, e⟩ := codes_cols l h.2
    have hc : c ∈ [119, 98, 103] := of_decide_eq_true h.1
    simp only [List.mem_cons, List.not_mem_nil, or_false] at hc
    rcases hc with rfl | rfl | rfl
    · exact ⟨.w :: cs, by rw [e]; rfl⟩
    · exact ⟨.b :: cs, by rw [e]; rfl⟩
    · exact ⟨.g :: cs, by rw [e]; rfl⟩
theorem cols_codes : ∀ cs : List Col, ((cs.map Col.code).map isCode).all id = true
  | [] => rfl
  | c :: cs => by
    rw [List.map_cons, List.map_cons, List.all_cons, cols_codes cs]
    cases c <;> rfl
theorem isStalk_iff {d : PyData} : isStalk d = true ↔ ∃ cs : List Col, d = .str (colStr cs) ∧ cs.length ≤ 7 := by
  constructor
  · intro h
    match d, h with
    | .str x, h =>
      have h : (decide (x.cps.size ≤ 7) && (x.cps.toList.map isCode).all id) = true := h
      rw [Bool.and_eq_true, decide_eq_true_eq] at h
      obtain ⟨cs, e⟩ := codes_cols _ h.2
      refine ⟨cs, ?_, ?_⟩
      · congr 1
        show x = ⟨(cs.map Col.code).toArray⟩
        rw [← e]
      · have := congrArg List.length e
        rw [List.length_map] at this
        rw [← this]; exact h.1
    | .none, h | .bool _, h | .int _, h | .list _, h | .dict _, h | .tuple _, h => cases h
  · rintro ⟨cs, rfl, h⟩
    show (decide ((colStr cs).cps.size ≤ 7) && ((colStr cs).cps.toList.map isCode).all id) = true
    rw [colStr_size, decide_eq_true h, Bool.true_and]
    exact cols_codes cs
def spOfStalk (K : PySem.W.Frag) (C : Nat → Addr) : Sp := fun vs H Q E => ∃ (v : V) (d : PyData), vs = [v] ∧ Dp K H v d ∧ (∀ x, d = .str x → x.length ≤ 1000) ∧ (isStalk d = false → ∀ H', Same H H' → E (.ref (C 3)) none H') ∧
  ∀ cs : List Col, d = .str (colStr cs) → cs.length ≤ 7 → ∀ H' p, Same H H' → H p = none → At K H' (.ref p) (bushD (stalkB cs)) → Q (.ref p) H'
theorem scOfStalk : FnScope ["stalk", "one"] ["stalk"] (defScope s_of_stalk) := ⟨rfl, rfl, rfl, by decide +kernel, rfl, by decide +kernel, by decide +kernel⟩
theorem k_of_stalk (F : Here K mg "of_stalk" s_of_stalk) (B : Blt mg) (O : ExcOne K mg "InvalidStalk" (C 3)) (d_sb : Keeps' P w K mg base CX0 1 "stalk_bush" ["stalk"] (spStalkBush K)) : Keeps' P w K mg base (L2N.CX P w) 2 "of_stalk" ["stalk"] (spOfStalk K C) := by
  refine keepsN F scOfStalk (fun _ _ _ _ _ _ us hl => match us, hl with | [_], _ => rfl) (fun vs H Q E h => by obtain ⟨_, _, e, _⟩ := h; rw [e]; rfl) fun f cdv A outer s H vs Q E hr h => ?_
  obtain ⟨v, d, rfl, hd, hx, q1, q2⟩ := h
  refine ⟨_, pss_cons (ps_if (PW.pt (pw_or (pt_not (pt_val (pb (call_isDK K) B.isinstance boot_isinstance (pa2 (pv 0) (pty B.str boot_str))))) (pw_or (pt_cmpR op_gt (pb call_len_str B.len PySem.boot_len (pa1 (pv 0))) pe_int (nomark _)) (pw_or1 (pt_not (pt_val (pb (cr_allK K rfl) B.all boot_all (pa1 (pe_lc (own := [("one", 1)]) rfl scOfStalk.nd (pi_str (pv 0)) (blkOk_by (own := [("one", 1)]) (N := ["stalk", "one"]) (sc := defScope s_of_stalk) (by decide +kernel)) (fun _ _ _ _ _ => pgn 1 scOfStalk.nd) (fun _ _ _ _ _ => pts_nil) (fun _ _ _ _ _ => pe_cmpR op_in_str (pv 1) pe_str (by rfl)))))))))))
      (pss_one (ps_raiseN rfl O (by rfl) rfl rfl rfl rfl))
      (pss_nil))
    (pss_one (ps_ret (pe_d0 d_sb (hr.mono (by decide)) (by rfl) (pa1 (pv 0))))), ?_⟩
  refine ⟨_, rfl, _, _, d, rfl, hd, .inr (.inr (.inl rfl)), _, rfl, ?_⟩
  cases hd with
  | non => exact q1 rfl _ (Same.refl H)
  | bl b => exact q1 rfl _ (Same.refl H)
  | int i => exact q1 rfl _ (Same.refl H)
  | lst _ _ => exact q1 rfl _ (Same.refl H)
  | tup _ _ => exact q1 rfl _ (Same.refl H)
  | str x =>
    have hxl := hx x rfl
    have hxs : x.cps.size = x.length := rfl
    refine iteF ⟨_, rfl, x, rfl, by rw [sizeLine_eq]; omega, _, _, rfl, rfl, _, rfl, ?_⟩
    have q1 : (decide (x.cps.size ≤ 7) && (x.cps.toList.map isCode).all id) = false → ∀ H', Same H H' → E (.ref (C 3)) none H' := q1
    by_cases h7 : x.cps.size ≤ 7
    · refine ite2 (fun z => absurd (of_decide_eq_true z) (by omega)) fun _ => ?_
      refine ⟨_, rfl, x, rfl, ?_⟩
      refine lc_J (walk_str (z := x)) Same (fun D i ys H' => ys = ((x.cps.toList.take i).map isCode).map V.bl) (goes_same H) (by rw [sizeLine_eq]; omega) (fun _ _ => trivial) (fun _ _ => rfl) (fun _ _ _ _ _ _ _ _ r => r) ?_ ?_
      · rintro D E E0 i y ys H2 H2' nD eD hi t rfl ⟨rfl, c, hc, rfl⟩ k1 k0
        refine ⟨rfl, ⟨_, rfl, _, _, rfl, rfl, k1 _ _ (Same.refl _) ?_⟩⟩
        rw [take_snoc (x := c) (by rw [Array.getElem?_toList]; exact hc), List.map_append, List.map_append]
        congr 1
        show [V.bl _] = [V.bl (isCode c)]
        rw [StrLaws.found_one]
        rfl
      · rintro D H2 ys nD t eD _ rfl
        rw [← Array.length_toList, List.take_length] at eD
        refine ⟨D, _, rfl, SqL.of eD, _, rfl, ?_⟩
        cases ha : (x.cps.toList.map isCode).all id with
        | false => exact q1 (by rw [ha, Bool.and_false]) _ t
        | true =>
          obtain ⟨cs, e, hcs⟩ := isStalk_iff.mp (show isStalk (.str x) = true by show (decide (x.cps.size ≤ 7) && (x.cps.toList.map isCode).all id) = true; rw [decide_eq_true h7, ha]; rfl)
          cases PyData.str.inj e
          exact ⟨_, rfl, cs, rfl, hcs, fun H3 p s3 np hp => q2 cs rfl hcs H3 p (t.trans s3) (t.free np) hp⟩
    · exact ite2 (fun _ => q1 (by rw [decide_eq_false h7, Bool.false_and]) _ (Same.refl H)) fun z => absurd (decide_eq_true (show (7 : Int) < x.length by omega)) z
end
end Sv

set_option maxHeartbeats 4000000
namespace Sv
open PySem PySem.Spec PyProof.Rows L2 L2H HotX LamX
/-! ### plain facts -/
theorem sw_sw (b : Bsh) : swB (swB b) = b := by
  unfold swB
  rw [List.map_map]
  have : (swS ∘ swS) = id := by
    funext s
    obtain ⟨i, c⟩ := s
    cases c <;> rfl
  rw [this, List.map_id]
theorem swB_ok {b : Bsh} (h : BushOk b) : BushOk (swB b) := by
  refine ⟨by unfold swB; rw [List.length_map]; exact h.len, fun i s hs => ?_⟩
  unfold swB at hs
  rw [List.getElem?_map] at hs
  cases q : b[i]? with
  | none => rw [q] at hs; cases hs
  | some t => rw [q] at hs; cases hs; exact h.low i t q
theorem onStem_len (b o : Bsh) (num : Int) : (onStemB b num o).length = b.length + o.length := by unfold onStemB; rw [List.length_append, List.length_map]
theorem onStem_ok {b o : Bsh} {num : Int} (hb : BushOk b) (ho : BushOk o) (h1 : -1 ≤ num) (h2 : num < b.length) (h7 : b.length + o.length ≤ 7) : BushOk (onStemB b num o) := by
  refine ⟨by rw [onStem_len]; exact h7, fun i s hs => ?_⟩
  unfold onStemB at hs
  by_cases hi : i < b.length
  · rw [List.getElem?_append_left hi] at hs
    exact hb.low i s hs
  · rw [List.getElem?_append_right (by omega), List.getElem?_map] at hs
    cases q : o[i - b.length]? with
    | none => rw [q] at hs; cases hs
    | some t =>
      rw [q] at hs
      cases hs
      have := ho.low _ t q
      show -1 ≤ (shift b.length num t).1 ∧ (shift b.length num t).1 < i
      unfold shift
      split
      · dsimp only; omega
      · dsimp only; omega
/-- with the stem all that grows on it is cut -/
theorem cut_grown {b o : Bsh} {n : Nat} (ho : BushOk o) (hn : n < b.length) : withoutB (onStemB b n o) n = withoutB b n := by
  have low : ∀ i, i ≤ b.length → wSt (onStemB b n o) n i = wSt b n i := by
    intro i
    induction i with
    | zero => exact fun _ => rfl
    | succ i ih =>
      intro hi
      have e : (onStemB b n o)[i]? = b[i]? := by unfold onStemB; rw [List.getElem?_append_left (by omega)]
      have e2 : b[i]? = some b[i] := List.getElem?_eq_getElem (by omega)
      rw [wSt_succ (e.trans e2), wSt_succ e2, ih (by omega)]
  have up : ∀ j, j ≤ o.length → (wSt (onStemB b n o) n (b.length + j)).2 = (wSt b n b.length).2 ∧ ∀ k, b.length ≤ k → (wSt (onStemB b n o) n (b.length + j)).1.getD k none = none := by
    intro j
    induction j with
    | zero =>
      intro _
      rw [Nat.add_zero, low b.length (Nat.le_refl _)]
      refine ⟨rfl, fun k hk => ?_⟩
      have := (wSt_len (b := b) (n := n) b.length (Nat.le_refl _)).1
      rw [List.getD_eq_getElem?_getD, List.getElem?_eq_none (by omega)]; rfl
    | succ j ih =>
      intro hj
      obtain ⟨h1, h2⟩ := ih (by omega)
      have e2 : o[j]? = some o[j] := List.getElem?_eq_getElem (by omega)
      have e : (onStemB b n o)[b.length + j]? = some (shift b.length n o[j]) := by
        unfold onStemB
        rw [List.getElem?_append_right (by omega), List.getElem?_map, show b.length + j - b.length = j by omega, e2]; rfl
      have hl := wSt_len (b := onStemB b n o) (n := n) (b.length + j) (by rw [onStem_len]; omega)
      have hlo := ho.low j _ e2
      have hnone : nameOf (wSt (onStemB b n o) n (b.length + j)).1 (shift b.length n o[j]).1 = none := by
        unfold nameOf shift
        by_cases h0 : 0 ≤ o[j].1
        · rw [if_pos h0]
          show (if o[j].1 + (b.length : Int) < 0 then _ else _) = none
          rw [if_neg (by omega), h2 _ (by omega)]; rfl
        · rw [if_neg h0]
          show (if ((n : Nat) : Int) < 0 then _ else _) = none
          rw [if_neg (by omega), Int.toNat_natCast, wSt_gone _ (by rw [onStem_len]; omega) (by omega)]; rfl
      have e3 : wSt (onStemB b n o) n (b.length + j + 1) = ((wSt (onStemB b n o) n (b.length + j)).1 ++ [none], (wSt (onStemB b n o) n (b.length + j)).2) := by
        rw [wSt_succ e]
        unfold wStep
        rw [if_neg (by omega), hnone]
      rw [show b.length + (j + 1) = b.length + j + 1 by omega, e3]
      refine ⟨h1, fun k hk => ?_⟩
      show ((wSt (onStemB b n o) n (b.length + j)).1 ++ [none]).getD k none = none
      have h3 := h2 k hk
      rw [List.getD_eq_getElem?_getD] at h3 ⊢
      by_cases hkl : k < (wSt (onStemB b n o) n (b.length + j)).1.length
      · rw [List.getElem?_append_left hkl]; exact h3
      · rw [List.getElem?_append_right (by omega)]
        cases k - (wSt (onStemB b n o) n (b.length + j)).1.length with
        | zero => rfl
        | succ m => rfl
  unfold withoutB
  rw [onStem_len]
  exact (up o.length (Nat.le_refl _)).1
theorem goes_mv {d : Addr} {H1 : Hp} (D : Dice H1 d) : Goes1 H1 (Mv d) where
  refl := fun H t => Mv.of_same t.dice (Same.refl H)
  rf0 := Mv.of_same D (Same.refl H1)
  trans := fun H H' a b => a.trans b
  put := fun p H zs n a => ⟨fun b o e nb => by rw [upd_ne (ne_of_none e n)]; exact a.keep b o e nb, by
    obtain ⟨x, y, e⟩ := a.dice
    exact ⟨x, y, by rw [upd_ne (Ne.symm (D.ne n))]; exact e⟩⟩
  keep := fun p H H' o n _ t e => t.keep p o e (D.ne n)
section
variable {P : Program} {w : World} {K : PySem.W.Frag} {mg : Str → Option Value} {base : Heap} {C : Nat → Addr} {CS : Addr}
end
end Sv

set_option maxHeartbeats 4000000
namespace Sv
open PySem PySem.Spec PyProof.Rows L2 L2H HotX LamX
/-! ### cutting keeps a bush a bush, and makes it smaller -/
def WOk (st : List (Option Nat) × Bsh) (n i : Nat) : Prop := (∀ (k j : Nat), st.1[k]? = some (some j) → j < st.2.length) ∧ (∀ (k : Nat) (s : Int × Col), st.2[k]? = some s → -1 ≤ s.1 ∧ s.1 < k) ∧ st.2.length ≤ i ∧ (n < i → st.2.length < i)
theorem wSt_ok {b : Bsh} {n : Nat} (hb : BushLo b) : ∀ i, i ≤ b.length → WOk (wSt b n i) n i
  | 0, _ => by
    refine ⟨fun k j h => ?_, fun k s h => ?_, Nat.le_refl _, fun h => absurd h (by omega)⟩
    · simp [wSt] at h
    · simp [wSt] at h
  | i + 1, hi => by
    obtain ⟨h1, h2, h3, h4⟩ := wSt_ok (n := n) hb i (by omega)
    have hg : b[i]? = some b[i] := List.getElem?_eq_getElem (show i < b.length by omega)
    have hl := wSt_len (b := b) (n := n) i (by omega)
    rw [wSt_succ hg]
    have skip : wStep n i b[i] (wSt b n i) = ((wSt b n i).1 ++ [none], (wSt b n i).2) → WOk (wStep n i b[i] (wSt b n i)) n (i + 1) := fun e => by
      rw [e]
      show (∀ (k j : Nat), ((wSt b n i).1 ++ [none])[k]? = some (some j) → j < (wSt b n i).2.length) ∧ (∀ (k : Nat) (s : Int × Col), (wSt b n i).2[k]? = some s → -1 ≤ s.1 ∧ s.1 < k) ∧ (wSt b n i).2.length ≤ i + 1 ∧ (n < i + 1 → (wSt b n i).2.length < i + 1)
      refine ⟨fun k j h => ?_, h2, by omega, fun _ => by omega⟩
      by_cases hk : k < (wSt b n i).1.length
      · rw [List.getElem?_append_left hk] at h; exact h1 k j h
      · rw [List.getElem?_append_right (by omega)] at h
        cases q : k - (wSt b n i).1.length with
        | zero => rw [q] at h; simp at h
        | succ m => rw [q] at h; simp at h
    by_cases hin : i = n
    · exact skip (by unfold wStep; rw [if_pos hin])
    · cases hj : nameOf (wSt b n i).1 b[i].1 with
      | none => exact skip (by unfold wStep; rw [if_neg hin, hj])
      | some j =>
        have e : wStep n i b[i] (wSt b n i) = ((wSt b n i).1 ++ [some (wSt b n i).2.length], (wSt b n i).2 ++ [(j, b[i].2)]) := by unfold wStep; rw [if_neg hin, hj]
        rw [e]
        have hjl : -1 ≤ j ∧ j < (wSt b n i).2.length := by
          unfold nameOf at hj
          split at hj
          · cases hj; omega
          · rename_i hneg
            rw [List.getD_eq_getElem?_getD] at hj
            cases q : (wSt b n i).1[(b[i].1).toNat]? with
            | none => rw [q] at hj; cases hj
            | some o =>
              rw [q] at hj
              cases o with
              | none => cases hj
              | some j' =>
                cases hj
                have := h1 _ _ q
                show -1 ≤ (j' : Int) ∧ (j' : Int) < _
                omega
        refine ⟨fun k m h => ?_, fun k s h => ?_, ?_, fun hn => ?_⟩
        · show m < ((wSt b n i).2 ++ [(j, b[i].2)]).length
          rw [List.length_append, List.length_singleton]
          by_cases hk : k < (wSt b n i).1.length
          · have h : ((wSt b n i).1 ++ [some (wSt b n i).2.length])[k]? = some (some m) := h
            rw [List.getElem?_append_left hk] at h; have := h1 k m h; omega
          · have h : ((wSt b n i).1 ++ [some (wSt b n i).2.length])[k]? = some (some m) := h
            rw [List.getElem?_append_right (by omega)] at h
            cases q : k - (wSt b n i).1.length with
            | zero => rw [q] at h; simp at h; omega
            | succ m => rw [q] at h; simp at h
        · have h : ((wSt b n i).2 ++ [(j, b[i].2)])[k]? = some s := h
          by_cases hk : k < (wSt b n i).2.length
          · rw [List.getElem?_append_left hk] at h; exact h2 k s h
          · rw [List.getElem?_append_right (by omega)] at h
            cases q : k - (wSt b n i).2.length with
            | zero =>
              rw [q] at h; simp at h; subst h
              exact ⟨hjl.1, by show j < _; omega⟩
            | succ m => rw [q] at h; simp at h
        · show ((wSt b n i).2 ++ [(j, b[i].2)]).length ≤ i + 1
          rw [List.length_append, List.length_singleton]; omega
        · show ((wSt b n i).2 ++ [(j, b[i].2)]).length < i + 1
          rw [List.length_append, List.length_singleton]
          have := h4 (by omega)
          omega
theorem without_lo {b : Bsh} {n : Nat} (hb : BushLo b) : BushLo (withoutB b n) := by
  obtain ⟨_, h2, h3, _⟩ := wSt_ok (n := n) hb b.length (Nat.le_refl _)
  exact ⟨Nat.le_trans h3 hb.len, h2⟩
theorem without_lt {b : Bsh} {n : Nat} (hb : BushLo b) (hn : n < b.length) : (withoutB b n).length < b.length := (wSt_ok (n := n) hb b.length (Nat.le_refl _)).2.2.2 hn
theorem without_le {b : Bsh} {n : Nat} (hb : BushLo b) : (withoutB b n).length ≤ b.length := (wSt_ok (n := n) hb b.length (Nat.le_refl _)).2.2.1
theorem without_ok {b : Bsh} {n : Nat} (hb : BushOk b) : BushOk (withoutB b n) := ⟨Nat.le_trans (without_le hb.lo) hb.len, (without_lo hb.lo).low⟩
theorem cutsB_lt {b : Bsh} {c : Col} {i : Nat} (h : i ∈ cutsB b c) : i < b.length := by
  unfold cutsB cutsUp at h
  exact List.mem_range.mp (List.mem_filter.mp h).1
/-! ### who wins -/
def Col.opp : Col → Col
  | .w => .b
  | .b => .w
  | .g => .g
def winsF : Nat → Bsh → Col → Bool
  | 0, _, _ => false
  | n + 1, b, c => (cutsB b c).any fun i => !winsF n (withoutB b i) c.opp
/-- whether the player c, who begins, wins b -/
def wins (b : Bsh) (c : Col) : Bool := winsF b.length b c
theorem winsF_eq : ∀ (n m : Nat) (b : Bsh) (c : Col), BushLo b → b.length ≤ n → b.length ≤ m → winsF n b c = winsF m b c
  | 0, 0, _, _, _, _, _ => rfl
  | 0, m + 1, b, c, _, h, _ => by
    have : b = [] := List.eq_nil_of_length_eq_zero (by omega)
    subst this
    rfl
  | n + 1, 0, b, c, _, _, h => by
    have : b = [] := List.eq_nil_of_length_eq_zero (by omega)
    subst this
    rfl
  | n + 1, m + 1, b, c, hb, h1, h2 => by
    show (cutsB b c).any _ = (cutsB b c).any _
    rw [Bool.eq_iff_iff, List.any_eq_true, List.any_eq_true]
    have key : ∀ i ∈ cutsB b c, winsF n (withoutB b i) c.opp = winsF m (withoutB b i) c.opp := fun i hi => by
      have := without_lt hb (cutsB_lt hi)
      exact winsF_eq n m _ _ (without_lo hb) (by omega) (by omega)
    constructor
    · rintro ⟨i, hi, h⟩; exact ⟨i, hi, by rw [← key i hi]; exact h⟩
    · rintro ⟨i, hi, h⟩; exact ⟨i, hi, by rw [key i hi]; exact h⟩
theorem wins_eq {b : Bsh} {c : Col} (hb : BushLo b) : wins b c = (cutsB b c).any fun i => !wins (withoutB b i) c.opp := by
  unfold wins
  rw [winsF_eq b.length (b.length + 1) b c hb (Nat.le_refl _) (by omega)]
  show (cutsB b c).any _ = (cutsB b c).any _
  rw [Bool.eq_iff_iff, List.any_eq_true, List.any_eq_true]
  have key : ∀ i ∈ cutsB b c, winsF b.length (withoutB b i) c.opp = winsF (withoutB b i).length (withoutB b i) c.opp := fun i hi => by
    have := without_lt hb (cutsB_lt hi)
    exact winsF_eq _ _ _ _ (without_lo hb) (by omega) (by omega)
  constructor
  · rintro ⟨i, hi, h⟩; exact ⟨i, hi, by rw [← key i hi]; exact h⟩
  · rintro ⟨i, hi, h⟩; exact ⟨i, hi, by rw [key i hi]; exact h⟩
/-! ### what may come of a bush, by cuts -/
def reachF : Nat → Bsh → List Bsh
  | 0, b => [b]
  | n + 1, b => b :: (List.range b.length).flatMap fun i => reachF n (withoutB b i)
def reachN : Nat → Nat
  | 0 => 1
  | n + 1 => 1 + (n + 1) * reachN n
theorem flat_len {α β : Type} (f : α → List β) (m : Nat) : ∀ l : List α, (∀ x ∈ l, (f x).length ≤ m) → (l.flatMap f).length ≤ l.length * m
  | [], _ => by simp
  | x :: l, h => by
    rw [List.flatMap_cons, List.length_append, List.length_cons, Nat.add_mul]
    have h1 := h x (List.mem_cons_self ..)
    have h2 := flat_len f m l fun y hy => h y (List.mem_cons_of_mem _ hy)
    omega
theorem reachN_mono : ∀ n, reachN n ≤ reachN (n + 1)
  | 0 => by decide
  | n + 1 => by
    show 1 + (n + 1) * reachN n ≤ 1 + (n + 2) * reachN (n + 1)
    have := Nat.mul_le_mul (show n + 1 ≤ n + 2 by omega) (reachN_mono n)
    omega
theorem reachF_len : ∀ (n : Nat) (b : Bsh), BushLo b → b.length ≤ n → (reachF n b).length ≤ reachN n
  | 0, _, _, _ => Nat.le_refl _
  | n + 1, b, hb, h => by
    show (b :: _).length ≤ _
    rw [List.length_cons]
    have := flat_len (fun i => reachF n (withoutB b i)) (reachN n) (List.range b.length) fun i hi => by
      have h2 := without_lt hb (List.mem_range.mp hi)
      exact reachF_len n _ (without_lo hb) (by omega)
    rw [List.length_range] at this
    have h3 := Nat.mul_le_mul_right (reachN n) h
    show _ ≤ 1 + (n + 1) * reachN n
    omega
theorem reachF_self : ∀ (n : Nat) (b : Bsh), b ∈ reachF n b
  | 0, b => List.mem_singleton.mpr rfl
  | n + 1, b => List.mem_cons_self ..
theorem reachF_cut : ∀ (n : Nat) (b c : Bsh) (i : Nat), BushLo b → b.length ≤ n → c ∈ reachF n b → i < c.length → withoutB c i ∈ reachF n b
  | 0, b, c, i, _, h, hc, hi => by
    have : c = b := List.mem_singleton.mp hc
    subst this
    omega
  | n + 1, b, c, i, hb, h, hc, hi => by
    rcases List.mem_cons.mp hc with rfl | hc
    · exact List.mem_cons_of_mem _ (List.mem_flatMap.mpr ⟨i, List.mem_range.mpr hi, reachF_self _ _⟩)
    · obtain ⟨j, hj, hc⟩ := List.mem_flatMap.mp hc
      have h2 := without_lt hb (List.mem_range.mp hj)
      exact List.mem_cons_of_mem _ (List.mem_flatMap.mpr ⟨j, hj, reachF_cut n _ c i (without_lo hb) (by omega) hc hi⟩)
end Sv

set_option maxHeartbeats 4000000
namespace Sv
open PySem PySem.Spec PyProof.Rows L2 L2H HotX LamX
/-! ### the dict of what is known -/
def wkeyD (b : Bsh) (c : Col) : PyData := .tuple [bushD b, .str c.s]
theorem wkey_pl (b : Bsh) (c : Col) : pl (wkeyD b c) = true := by
  show (pl (bushD b) && (PyData.strOk c.s && true)) = true
  rw [pl_bush, col_ok]; rfl
theorem wkey_depth (b : Bsh) (c : Col) : (wkeyD b c).depth ≤ 8 := by
  show max (PyData.depthAll (b.map stemD) + 1) (max 0 0) + 1 ≤ 8
  have := depth_stems b
  omega
theorem wkey_inj {b b' : Bsh} {c c' : Col} (h : nk (wkeyD b c) = nk (wkeyD b' c')) : b = b' ∧ c = c' := by
  have h := nk_inj _ _ (wkey_pl _ _) (wkey_pl _ _) h
  have h := PyData.tuple.inj h
  simp only [List.cons.injEq, and_true] at h
  exact ⟨bushD_inj h.1, cs_inj (PyData.str.inj h.2)⟩
/-- what stands in the dict is right -/
def Known (b0 : Bsh) (D : NestedKey → Option V) : Prop := ∀ k v, D k = some v → ∃ b c, k = nk (wkeyD b c) ∧ b ∈ reachF b0.length b0 ∧ v = .bl (wins b c)
theorem Known.nil (b0 : Bsh) : Known b0 (fun _ => none) := fun _ _ z => nomatch z
theorem Known.put {b0 b : Bsh} {D : NestedKey → Option V} {c : Col} (h : Known b0 D) (hb : b ∈ reachF b0.length b0) : Known b0 (putD D (nk (wkeyD b c)) (.bl (wins b c))) := fun k v e => by
  unfold putD at e
  split at e
  · rename_i e1
    exact ⟨b, c, e1, hb, (Option.some.inj e).symm⟩
  · exact h k v e
theorem Known.get {b0 b : Bsh} {D : NestedKey → Option V} {c : Col} {v : V} (h : Known b0 D) (e : D (nk (wkeyD b c)) = some v) : v = .bl (wins b c) := by
  obtain ⟨b', c', e1, _, e2⟩ := h _ _ e
  obtain ⟨rfl, rfl⟩ := wkey_inj e1
  exact e2
def colsAll : List Col := [.w, .b, .g]
theorem Known.few {b0 : Bsh} {D : NestedKey → Option V} (h : Known b0 D) (h0 : BushLo b0) (h8 : b0.length ≤ 8) : ∃ L : List NestedKey, (∀ k, (D k).isSome = true → k ∈ L) ∧ L.length < sizeLine := by
  refine ⟨(reachF b0.length b0).flatMap fun b => colsAll.map fun c => nk (wkeyD b c), fun k hk => ?_, ?_⟩
  · obtain ⟨v, hv⟩ := Option.isSome_iff_exists.mp hk
    obtain ⟨b, c, rfl, hb, _⟩ := h k v hv
    exact List.mem_flatMap.mpr ⟨b, hb, List.mem_map.mpr ⟨c, by cases c <;> decide, rfl⟩⟩
  · have h1 := flat_len (fun b => colsAll.map fun c => nk (wkeyD b c)) 3 (reachF b0.length b0) fun _ _ => by rw [List.length_map]; exact Nat.le_refl _
    have h2 := reachF_len b0.length b0 h0 (Nat.le_refl _)
    have h3 : reachN b0.length ≤ 109601 := by
      have : ∀ n, n ≤ 8 → reachN n ≤ 109601 := by decide
      exact this _ h8
    rw [sizeLine_eq]; omega
/-- all but what stands at a stays -/
def MvA (a : Addr) (H H' : Hp) : Prop := ∀ b o, H b = some o → b ≠ a → H' b = some o
theorem MvA.refl (a : Addr) (H : Hp) : MvA a H H := fun _ _ e _ => e
theorem MvA.trans {a : Addr} {H H1 H2 : Hp} (x : MvA a H H1) (y : MvA a H1 H2) : MvA a H H2 := fun b o e n => y b o (x b o e n) n
theorem MvA.of_same {a : Addr} {H H' : Hp} (s : Same H H') : MvA a H H' := fun b o e _ => s b o e
theorem MvA.same {a : Addr} {H H1 H2 : Hp} (x : MvA a H H1) (y : Same H1 H2) : MvA a H H2 := x.trans (MvA.of_same y)
section
variable {P : Program} {w : World} {K : PySem.W.Frag} {a : Addr} {D D' : NestedKey → Option V} {H H' : Hp}
theorem MvA.ext (x : MvA a H H') (h : NDat P w K H a D) : Ext H H' := by
  obtain ⟨φ, e⟩ := h.isExt
  exact ⟨fun b xs q => x b _ q (ne_of q e fun z => nomatch z), fun b o u q => x b _ q (ne_of q e fun z => nomatch z)⟩
theorem MvA.free (x : MvA a H H') (h : NDat P w K H' a D) {p : Addr} (e : H' p = none) : H p = none := by
  cases q : H p with
  | none => rfl
  | some o =>
    by_cases hp : p = a
    · obtain ⟨φ, z⟩ := h.isExt
      rw [hp, z] at e; cases e
    · rw [x p o q hp] at e; cases e
theorem goes_mvA {H1 : Hp} (ha : H1 a ≠ none) : Goes1 H1 (MvA a) where
  refl := fun H _ => MvA.refl a H
  rf0 := MvA.refl a H1
  trans := fun H H' x y => x.trans y
  put := fun Dl H zs n x b o e hb => by rw [upd_ne (ne_of_none e n)]; exact x b o e hb
  keep := fun Dl H H' o n _ t e => t Dl o e (fun z => ha (z ▸ n))
end
theorem mvA_upd {H : Hp} {x : Addr} {o : HO} : MvA x H (upd H x o) := fun b u e n => by rw [upd_ne n]; exact e
theorem MvA.ins {H H' : Hp} {x C dx : Addr} {fs : List (Str × V)} (m : MvA x H H') (e : H x = some (.ins C dx fs)) : Ext H H' :=
  ⟨fun b xs q => m b _ q (ne_of q e fun z => nomatch z), fun b o u q => m b _ q (ne_of q e fun z => nomatch z)⟩
theorem cutsB_len (b : Bsh) (c : Col) : (cutsB b c).length ≤ b.length := by
  unfold cutsB cutsUp
  have := List.length_filter_le (mayB b c) (List.range b.length)
  rw [List.length_range] at this
  exact this
theorem opp_ne {c : Col} (h : c ≠ .g) : c.opp ≠ .g := by cases c <;> first | decide | exact absurd rfl h
theorem any_map {α : Type} (f : α → Bool) : ∀ l : List α, (l.map f).any id = l.any f
  | [] => rfl
  | x :: l => by rw [List.map_cons, List.any_cons, List.any_cons, any_map f l]; rfl
section
variable {P : Program} {w : World} {K : PySem.W.Frag} {mg : Str → Option Value} {base : Heap} {C : Nat → Addr} {CS : Addr}
def spOther : Sp := fun vs H Q _ => ∃ c : Col, vs = [.str c.s] ∧ c ≠ .g ∧ Q (.str c.opp.s) H
theorem scOther : FnScope ["player"] ["player"] (defScope s_other_player) := ⟨rfl, rfl, rfl, by decide +kernel, rfl, by decide +kernel, by decide +kernel⟩
theorem k_other (F : Here K mg "other_player" s_other_player) : Keeps' P w K mg base CX0 1 "other_player" ["player"] spOther := by
  refine keeps0 F scOther (fun _ _ _ _ _ _ us hl => match us, hl with | [_], _ => rfl) (fun vs H Q E h => by obtain ⟨_, e, _⟩ := h; rw [e]; rfl) fun f cdv A outer s H vs Q E hr h => ?_
  obtain ⟨c, rfl, hc, q⟩ := h
  refine ⟨_, pss_one (ps_ret (pe_ifExp (pt_cmpR op_eq (pv 0) pe_str (nomark _)) pe_str pe_str)), ?_⟩
  refine ⟨_, rfl, rfl, _, rfl, ?_⟩
  cases c with
  | w => exact iteT q
  | b => exact iteF q
  | g => exact absurd rfl hc
/-- whether a player wins, what is known being written down -/
def spWins (P : Program) (w : World) (K : PySem.W.Frag) (n : Nat) : Sp := fun vs H Q _ => ∃ (v : V) (b b0 : Bsh) (c : Col) (a : Addr) (D : NestedKey → Option V), vs = [v, .str c.s, .ref a] ∧ At K H v (bushD b) ∧ BushLo b ∧ b.length < n ∧ BushLo b0 ∧ b0.length ≤ 8 ∧ b ∈ reachF b0.length b0 ∧ c ≠ .g ∧
  NDat P w K H a D ∧ Known b0 D ∧ ∀ H' D', MvA a H H' → NDat P w K H' a D' → Known b0 D' → Q (.bl (wins b c)) H'
theorem scWins : FnScope ["bush", "player", "known", "key", "other", "at"] ["bush", "player", "known"] (defScope s_wins_first) := ⟨rfl, rfl, rfl, by decide +kernel, rfl, by decide +kernel, by decide +kernel⟩
theorem k_wins (F : Here K mg "wins_first" s_wins_first) (B : Blt mg) (d_other : Keeps' P w K mg base CX0 1 "other_player" ["player"] spOther) (d_without : Keeps' P w K mg base CX0 1 "without" ["bush", "number"] (spWithout K)) (d_cuts : Keeps' P w K mg base CX0 1 "cuts_of" ["bush", "player"] (spCutsOf K)) :
    ∀ n, Keeps' P w K mg base CX0 (n + 2) "wins_first" ["bush", "player", "known"] (spWins P w K n)
  | 0 => keeps0 F scWins (fun _ _ _ _ _ _ us hl => match us, hl with | [_, _, _], _ => rfl) (fun vs H Q E h => by obtain ⟨_, _, _, _, _, _, _, _, _, z, _⟩ := h; omega) fun f cdv A outer s H vs Q E hr h => by obtain ⟨_, _, _, _, _, _, _, _, _, z, _⟩ := h; omega
  | n + 1 => by
    have d_wins := k_wins F B d_other d_without d_cuts n
    refine keeps0 F scWins (fun _ _ _ _ _ _ us hl => match us, hl with | [_, _, _], _ => rfl) (fun vs H Q E h => by obtain ⟨_, _, _, _, _, _, e, _⟩ := h; rw [e]; rfl) fun f cdv A outer s H vs Q E hr h => ?_
    obtain ⟨v, b, b0, c, a, D, rfl, hA, hb, hn, hb0, hb8, hre, hc, hD, hk, q⟩ := h
    have hr1 := hr.mono (show 1 ≤ n + 2 by omega)
    refine ⟨_, pss_cons (st 3 scWins.nd (pe_tupN (pa2 (pv 0) (pv 1))))
    (pss_cut (ps_if (pt_cmpR (op_nnotin (P := P) (w := w) (K := K) hr.units) (pv 3) (pv 2) (by rfl))
      (pss_cons (st 4 scWins.nd (pe_d0 d_other (hr.mono (by omega)) (by rfl) (pa1 (pv 1))))
        (pss_one (ps_nput (P := P) (w := w) (K := K) hr.units (pv 2) (pv 3) (pb (cr_anyK K rfl) B.any boot_any (pa1 (pe_lc (own := [("at", 5)]) rfl scWins.nd (pi_listK K (pe_d0 d_cuts (hr.mono (by omega)) (by rfl) (pa2 (pv 0) (pv 1)))) (blkOk_by (own := [("at", 5)]) (N := ["bush", "player", "known", "key", "other", "at"]) (sc := defScope s_wins_first) (by decide +kernel)) (fun _ _ _ _ _ => pgn 5 scWins.nd) (fun _ _ _ _ _ => pts_nil) (fun _ _ _ _ _ => pe_not (pe_d0 d_wins (hr.mono (by omega)) (by rfl) (pa3 (pe_d0 d_without (hr.mono (by omega)) (by rfl) (pa2 (pv 0) (pv 5))) (pv 4) (pv 2))))))) (by rfl))))
      (pss_nil))
    (pss_one (ps_ret (pe_nget (P := P) (w := w) (K := K) hr.units (pv 2) (pv 3) (fun _ _ => rfl))))), ?_⟩
    obtain ⟨av, bvs, rfl, hs, hvs, hlen⟩ := bush_at hA
    refine ⟨_, rfl, _, rfl, szl rfl, fun kp H1 nkp s1 ek => ?_⟩
    have hK1 : At K H1 (.ref kp) (wkeyD b c) := At.tupO ek (.cons (hA.same s1) (.cons (.str (col_ok _)) .nil))
    have hD1 := hD.same s1
    refine ⟨fun σ H' => σ.length = 6 ∧ σ[2]? = some (some (.ref a)) ∧ σ[3]? = some (some (.ref kp)) ∧ MvA a H1 H' ∧ ∃ D', NDat P w K H' a D' ∧ Known b0 D' ∧ (D' (nk (wkeyD b c))).isSome = true, ?_, ?_⟩
    · refine ⟨_, rfl, _, rfl, a, D, _, rfl, hD1, hK1, wkey_depth b c, _, rfl, ?_⟩
      refine ite2 (fun z => ?_) fun z => ?_
      rotate_left
      · refine ⟨rfl, rfl, rfl, MvA.refl a H1, D, hD1, hk, ?_⟩
        have z : ¬ (true != (D (nk (wkeyD b c))).isSome) = true := z
        cases hh : (D (nk (wkeyD b c))).isSome with
        | true => rfl
        | false => rw [hh] at z; exact absurd rfl z
      · refine ⟨_, rfl, c, rfl, hc, ?_⟩
        refine ⟨_, rfl, _, rfl, .ref av, b, c, rfl, hA.same s1, hb, fun H2 p s2 np ep => ⟨p, rfl, ⟨_, SqL.of ep⟩, ?_⟩⟩
        have s02 := s1.trans s2
        have hA2 := hA.same s02
        have hD2 := hD1.same s2
        have ha2 : H2 a ≠ none := by obtain ⟨φ, e⟩ := hD2.isExt; rw [e]; exact fun z => nomatch z
        refine lc_J (walk_list (xs := (cutsB b c).map fun (n : Nat) => V.int n)) (MvA a) (fun Dl i ys H' => (∃ D', NDat P w K H' a D' ∧ Known b0 D') ∧ ys = (((cutsB b c).take i).map fun j => !wins (withoutB b j) c.opp).map V.bl) (goes_mvA ha2) ?_ ?_ (fun _ _ => ⟨⟨D, hD2, hk⟩, rfl⟩) ?_ ?_ ?_
        · have h1 := cutsB_len b c
          have h2 := hb.len
          rw [List.length_map, sizeLine_eq]; omega
        · intro H3 t
          obtain ⟨φ, e⟩ := hD2.isExt
          exact SqL.of (t p _ ep (ne_of ep e fun z => nomatch z))
        · rintro Dl i ys H3 H4 nD x k ⟨⟨D', h, hk'⟩, e⟩
          obtain ⟨φ, e3⟩ := h.isExt
          exact ⟨⟨D', h.keep (by rw [e3]; exact k a _ (fun z => ha2 (z ▸ nD)) e3) x, hk'⟩, e⟩
        · rintro Dl E E0 i x ys H3 H4 nD eD hi t ⟨⟨D3, hD3, hk3⟩, rfl⟩ ⟨rfl, hx⟩ k1 k0
          rw [List.getElem?_map] at hx
          cases hj : (cutsB b c)[i]? with
          | none => rw [hj] at hx; cases hx
          | some j =>
            rw [hj] at hx
            cases hx
            have hjb : j < b.length := cutsB_lt (List.mem_of_getElem? hj)
            have x3 := t.ext hD2
            refine ⟨rfl, _, rfl, _, rfl, .ref av, b, j, rfl, hA2.ext x3, hb, fun H5 pw s5 npw hpw => ⟨_, rfl, _, rfl, .ref pw, withoutB b j, b0, c.opp, a, D3, rfl, hpw, without_lo hb, ?_, hb0, hb8, ?_, opp_ne hc, hD3.same s5, hk3, fun H6 D6 m6 hD6 hk6 => ?_⟩⟩
            · have := without_lt hb hjb
              omega
            · exact reachF_cut _ _ _ _ hb0 (Nat.le_refl _) hre hjb
            · refine ⟨_, rfl, k1 _ H6 ((MvA.of_same s5).trans m6) ⟨⟨D6, hD6, hk6⟩, ?_⟩⟩
              rw [List.take_add_one, hj, List.map_append, List.map_append]; rfl
        · rintro Dl H3 ys nD t eD _ ⟨⟨D3, hD3, hk3⟩, rfl⟩
          rw [List.length_map, List.take_length] at eD
          refine ⟨Dl, _, rfl, SqL.of eD, ?_⟩
          rw [any_map, ← wins_eq hb]
          refine ⟨_, rfl, _, rfl, a, D3, _, rfl, hD3, (hK1.same s2).ext (t.ext hD2), wkey_depth b c, hk3.few hb0 hb8, fun H4 h4 x4 hD4 => ?_⟩
          refine ⟨rfl, rfl, rfl, ?_, _, hD4, hk3.put hre, ?_⟩
          · intro y o e n
            rw [h4 y n]
            exact t y o (s2 y o e) n
          · show (putD D3 (nk (wkeyD b c)) (.bl (wins b c)) (nk (wkeyD b c))).isSome = true
            unfold putD
            rw [if_pos rfl]; rfl
    · rintro σ H2 ⟨hl, h2, h3, m2, D2, hD2, hk2, hsm⟩
      obtain ⟨v2, hv2⟩ := Option.isSome_iff_exists.mp hsm
      refine ⟨_, h2, _, h3, a, D2, _, v2, rfl, hD2, hK1.ext (m2.ext hD1), wkey_depth b c, hv2, ?_⟩
      rw [hk2.get hv2]
      exact q H2 D2 ((MvA.of_same s1).trans m2) hD2 hk2
end
end Sv

set_option maxHeartbeats 4000000
namespace Sv
open PySem PySem.Spec PyProof.Rows L2 L2H HotX LamX
section
variable {P : Program} {w : World} {K : PySem.W.Frag} {mg : Str → Option Value} {base : Heap} {C : Nat → Addr} {CS : Addr}

def winnerS (b : Bsh) : Str := if wins b .w && wins b .b then "first" else if wins b .w then "white" else if wins b .b then "black" else "second"
def spWinner (K : PySem.W.Frag) (C : Nat → Addr) : Sp := fun vs H Q E => ∃ v d, vs = [v] ∧ Dp K H v d ∧ (isBush d = false → ∀ H', Same H H' → E (.ref (C 0)) none H') ∧ ∀ b, d = bushD b → BushOk b → ∀ H', Same H H' → Q (.str (winnerS b)) H'
/-! ### winning_cut -/
def goodB (b : Bsh) (c : Col) (j : Nat) : Bool := !wins (withoutB b j) c.opp
def winCut (b : Bsh) (c : Col) : Option Nat := (cutsB b c).find? (goodB b c)
def optV : Option Nat → V
  | none => .non
  | some j => .int (j : Nat)
def spWinCut (K : PySem.W.Frag) (C : Nat → Addr) : Sp := fun vs H Q E => ∃ v v2 d d2, vs = [v, v2] ∧ Dp K H v d ∧ Dp K H v2 d2 ∧ (isBush d = false → ∀ H', Same H H' → E (.ref (C 0)) none H') ∧ (isBush d = true → isPl d2 = false → ∀ H', Same H H' → E (.ref (C 2)) none H') ∧
  ∀ (b : Bsh) (c : Col), d = bushD b → BushOk b → d2 = .str c.s → c ≠ .g → ∀ H', Same H H' → Q (optV (winCut b c)) H'
theorem scWinCut : FnScope ["bush", "player", "known", "at"] ["bush", "player"] (defScope s_winning_cut) := ⟨rfl, rfl, rfl, by decide +kernel, rfl, by decide +kernel, by decide +kernel⟩
theorem k_win_cut (F : Here K mg "winning_cut" s_winning_cut) (d_need : Keeps' P w K mg base (L2N.CX P w) 4 "need_bush" ["bush"] (spNeedBush K C)) (d_pl : Keeps' P w K mg base (L2N.CX P w) 1 "need_player" ["player"] (spNeedPl K C))
    (d_other : Keeps' P w K mg base CX0 1 "other_player" ["player"] spOther) (d_without : Keeps' P w K mg base CX0 1 "without" ["bush", "number"] (spWithout K)) (d_cuts : Keeps' P w K mg base CX0 1 "cuts_of" ["bush", "player"] (spCutsOf K))
    (d_wins : Keeps' P w K mg base CX0 10 "wins_first" ["bush", "player", "known"] (spWins P w K 8)) : Keeps' P w K mg base (L2N.CX P w) 11 "winning_cut" ["bush", "player"] (spWinCut K C) := by
  refine keepsN F scWinCut (fun _ _ _ _ _ _ us hl => match us, hl with | [_, _], _ => rfl) (fun vs H Q E h => by obtain ⟨_, _, _, _, e, _⟩ := h; rw [e]; rfl) fun f cdv A outer s H vs Q E hr h => ?_
  obtain ⟨v, v2, d, d2, rfl, hd, hd2, q1, q2, q3⟩ := h
  refine ⟨_, pss_cons (ps_expr (pe_dX d_need (hr.mono (by decide)) (by rfl) (L2N.takes_of rfl rfl rfl rfl) (fun _ _ _ _ h => h) (pa1 (pv 0))))
    (pss_cons (ps_expr (pe_dX d_pl (hr.mono (by decide)) (by rfl) (L2N.takes_of rfl rfl rfl rfl) (fun _ _ _ _ h => h) (pa1 (pv 1))))
    (pss_cons (st 2 scWinCut.nd (pe_nnew (P := P) (w := w) (K := K)))
    (pss_cons (psNox (ps_for PassesOwn.never rfl (pi_listK K (pe_d0 d_cuts (hr.mono (by decide)) (by rfl) (pa2 (pv 0) (pv 1)))) (pgn 3 scWinCut.nd)
      (pss_one (ps_if (pt_not (pt_val (pe_d0 d_wins (hr.mono (by decide)) (by rfl) (pa3 (pe_d0 d_without (hr.mono (by decide)) (by rfl) (pa2 (pv 0) (pv 3))) (pe_d0 d_other (hr.mono (by decide)) (by rfl) (pa1 (pv 1))) (pv 2)))))
          (pss_one (ps_ret (pv 3)))
          (pss_nil)))))
    (pss_one (ps_ret pe_non))))), ?_⟩
  refine ⟨_, rfl, v, d, rfl, hd, fun n1 H1 s1 => ?_, fun n1 H1 s1 => q1 n1 H1 s1⟩
  obtain ⟨b, rfl, hb⟩ := isBush_iff.mp n1
  have hb7 := hb.len
  have hA : At K H1 v (bushD b) := ⟨pl_bush b, dp_same s1 _ _ hd⟩
  refine ⟨_, rfl, v2, d2, rfl, dp_same s1 _ _ hd2, fun n2 H2 s2 => ?_, fun n2 H2 s2 => q2 n1 n2 H2 (s1.trans s2)⟩
  obtain ⟨c, hc, rfl⟩ : ∃ c : Col, c ≠ .g ∧ d2 = .str c.s := by
    rcases isPl_iff.mp n2 with h | h
    · exact ⟨.w, by decide, h⟩
    · exact ⟨.b, by decide, h⟩
  cases hd2
  intro p H3 np s3 e3 hD3
  have s13 := (s1.trans s2).trans s3
  have hA3 := (hA.same s2).same s3
  have q := q3 b c rfl hb rfl hc
  refine ⟨_, rfl, _, rfl, v, b, c, rfl, hA3, hb.lo, fun H4 l s4 nl el => ⟨l, rfl, ⟨_, SqL.of el⟩, ?_⟩⟩
  have hD4 := hD3.same s4
  have npH : H p = none := s1.free (s2.free np)
  refine for_it (walk_list (xs := (cutsB b c).map fun (n : Nat) => V.int n)) (fun i σ H' => (∃ y3, σ = [some v, some (.str c.s), some (.ref p), y3]) ∧ MvA p H4 H' ∧ (∃ D', NDat P w K H' p D' ∧ Known b D') ∧ ∀ j ∈ (cutsB b c).take i, goodB b c j = false)
    ⟨⟨none, rfl⟩, MvA.refl p H4, ⟨_, hD4, Known.nil b⟩, fun j z => by simp at z⟩ ?_ ?_ ?_
  · rintro i σ H' _ ⟨_, m, _⟩
    obtain ⟨φ, e⟩ := hD4.isExt
    exact SqL.of (m l _ el (ne_of el e fun z => nomatch z))
  · rintro i x σ H5 H5' hi ⟨⟨y3, rfl⟩, m5, ⟨D5, hD5, hk5⟩, hall⟩ ⟨rfl, hx⟩
    rw [List.getElem?_map] at hx
    cases hj : (cutsB b c)[i]? with
    | none => rw [hj] at hx; cases hx
    | some j =>
      rw [hj] at hx
      cases hx
      have hjb : j < b.length := cutsB_lt (List.mem_of_getElem? hj)
      have hjl := without_lt hb.lo hjb
      refine ⟨_, rfl, _, rfl, v, b, j, rfl, (hA3.same s4).ext (m5.ext hD4), hb.lo, fun H6 pw s6 npw hpw => ⟨_, rfl, c, rfl, hc, _, rfl, .ref pw, withoutB b j, b, c.opp, p, D5, rfl, hpw, without_lo hb.lo, by omega, hb.lo, by omega, reachF_cut _ _ _ _ hb.lo (Nat.le_refl _) (reachF_self _ _) hjb, opp_ne hc, hD5.same s6, hk5, fun H7 D7 m7 hD7 hk7 => ?_⟩⟩
      have m57 : MvA p H4 H7 := (m5.same s6).trans m7
      refine ⟨_, rfl, ?_⟩
      cases hg : wins (withoutB b j) c.opp with
      | true =>
        refine ⟨⟨_, rfl⟩, m57, ⟨D7, hD7, hk7⟩, fun j' hj' => ?_⟩
        rw [List.take_add_one, hj] at hj'
        rcases List.mem_append.mp hj' with h | h
        · exact hall j' h
        · have : j' = j := by simpa using h
          subst this
          show (!wins (withoutB b j') c.opp) = false
          rw [hg]; rfl
      | false =>
        refine ⟨_, rfl, ?_⟩
        have e : winCut b c = some j := by
          unfold winCut
          rw [List.find?_eq_some_iff_getElem]
          obtain ⟨hi', ei⟩ := List.getElem?_eq_some_iff.mp hj
          refine ⟨by show (!wins (withoutB b j) c.opp) = true; rw [hg]; rfl, i, hi', ei, fun j' hlt => ?_⟩
          rw [hall _ (List.mem_take_iff_getElem.mpr ⟨j', by omega, rfl⟩)]; rfl
        have q := q H7 (fun x o e => m57 x o (s4 x o (s13 x o e)) (ne_of_none e npH))
        rw [e] at q
        exact q
  · rintro σ H5 ⟨⟨y3, rfl⟩, m5, ⟨D5, hD5, hk5⟩, hall⟩
    rw [List.length_map, List.take_length] at hall
    have e : winCut b c = none := by
      unfold winCut
      rw [List.find?_eq_none]
      intro j hj
      rw [hall j hj]; decide
    have q := q H5 (fun x o e => m5 x o (s4 x o (s13 x o e)) (ne_of_none e npH))
    rw [e] at q
    exact q
end
end Sv

set_option maxHeartbeats 4000000
namespace Sv
open PySem PySem.Spec PyProof.Rows L2 L2H HotX LamX
/-! ### cutting in bushes beside one another -/
theorem wSt_append {b x : Bsh} {n : Nat} : ∀ k, k ≤ b.length → wSt (b ++ x) n k = wSt b n k
  | 0, _ => rfl
  | k + 1, h => by
    have e1 : (b ++ x)[k]? = some b[k] := by rw [List.getElem?_append_left (by omega)]; exact List.getElem?_eq_getElem (by omega)
    have e2 : b[k]? = some b[k] := List.getElem?_eq_getElem (by omega)
    rw [wSt_succ e1, wSt_succ e2, wSt_append k (by omega)]
/-- nothing is cut -/
theorem wSt_none {b : Bsh} {n : Nat} (hb : BushLo b) (hn : b.length ≤ n) : ∀ k, k ≤ b.length → wSt b n k = ((List.range k).map some, b.take k)
  | 0, _ => by simp [wSt]
  | k + 1, h => by
    have e2 : b[k]? = some b[k] := List.getElem?_eq_getElem (by omega)
    have hlo := hb.low k _ e2
    rw [wSt_succ e2, wSt_none hb hn k (by omega)]
    have e3 : nameOf ((List.range k).map some) (b[k]).1 = some (b[k]).1 := by
      unfold nameOf
      split
      · have : (b[k]).1 = -1 := by omega
        rw [this]
      · rw [List.getD_eq_getElem?_getD, List.getElem?_map, List.getElem?_range (by omega)]
        show some (((b[k].1).toNat : Nat) : Int) = _
        congr 1
        omega
    unfold wStep
    rw [if_neg (show ¬ k = n by omega), e3]
    show ((List.range k).map some ++ [some (b.take k).length], b.take k ++ [(b[k].1, b[k].2)]) = _
    rw [List.range_succ, List.map_append, List.length_take, Nat.min_eq_left (by omega), List.take_add_one, e2]
    rfl
theorem without_none {b : Bsh} {n : Nat} (hb : BushLo b) (hn : b.length ≤ n) : withoutB b n = b := by
  unfold withoutB
  rw [wSt_none hb hn _ (Nat.le_refl _), List.take_length]
theorem wSt_sum {b o : Bsh} {n n' : Nat} (ho : BushLo o) (hn : ∀ k, k < o.length → (b.length + k = n ↔ k = n')) : ∀ k, k ≤ o.length →
    wSt (onStemB b (-1) o) n (b.length + k) = ((wSt b n b.length).1 ++ (wSt o n' k).1.map (Option.map fun j => (withoutB b n).length + j), withoutB b n ++ (wSt o n' k).2.map (shift (withoutB b n).length (-1)))
  | 0, _ => by
    rw [Nat.add_zero]
    show wSt (b ++ _) n b.length = _
    rw [wSt_append _ (Nat.le_refl _)]
    show _ = ((wSt b n b.length).1 ++ [], (wSt b n b.length).2 ++ [])
    rw [List.append_nil, List.append_nil]
  | k + 1, h => by
    have e2 : o[k]? = some o[k] := List.getElem?_eq_getElem (by omega)
    have hlo := ho.low k _ e2
    have e1 : (onStemB b (-1) o)[b.length + k]? = some (shift b.length (-1) o[k]) := by
      unfold onStemB
      rw [List.getElem?_append_right (by omega), show b.length + k - b.length = k by omega, List.getElem?_map, e2]; rfl
    rw [show b.length + (k + 1) = b.length + k + 1 by omega, wSt_succ e1, wSt_succ e2, wSt_sum ho hn k (by omega)]
    have hl0 : (wSt b n b.length).1.length = b.length := (wSt_len b.length (Nat.le_refl _)).1
    have hl1 : (wSt o n' k).1.length = k := (wSt_len k (by omega)).1
    generalize hW : withoutB b n = W
    generalize hS : wSt o n' k = S
    rw [hS] at hl1
    obtain ⟨S1, S2⟩ := S
    dsimp only at hl1 ⊢
    unfold wStep
    by_cases hc : k = n'
    · rw [if_pos hc, if_pos ((hn k (by omega)).mpr hc)]
      dsimp only
      rw [List.map_append, List.append_assoc]
      rfl
    · rw [if_neg hc, if_neg (fun z => hc ((hn k (by omega)).mp z))]
      have e3 : nameOf ((wSt b n b.length).1 ++ S1.map (Option.map fun j => W.length + j)) (shift b.length (-1) o[k]).1 = (nameOf S1 (o[k]).1).map fun i : Int => if 0 ≤ i then i + (W.length : Int) else -1 := by
        unfold nameOf shift
        by_cases h0 : 0 ≤ (o[k]).1
        · rw [if_pos h0, if_neg (show ¬ (o[k]).1 < 0 by omega)]
          dsimp only
          rw [if_neg (show ¬ (o[k]).1 + (b.length : Int) < 0 by omega), List.getD_eq_getElem?_getD, List.getD_eq_getElem?_getD, List.getElem?_append_right (by omega), hl0, show ((o[k]).1 + (b.length : Int)).toNat - b.length = ((o[k]).1).toNat by omega, List.getElem?_map]
          cases q : S1[((o[k]).1).toNat]? with
          | none => rfl
          | some v =>
            cases v with
            | none => rfl
            | some j =>
              show some (((W.length + j : Nat)) : Int) = some (if 0 ≤ (j : Int) then (j : Int) + W.length else -1)
              rw [if_pos (by omega)]
              congr 1
              omega
        · rw [if_neg h0, if_pos (show (o[k]).1 < 0 by omega)]
          rfl
      rw [e3]
      cases hm : nameOf S1 (o[k]).1 with
      | none =>
        show _ = (_, _)
        dsimp only [Option.map]
        rw [List.map_append, List.append_assoc]
        rfl
      | some j =>
        dsimp only [Option.map]
        rw [List.map_append, List.append_assoc, List.map_append, List.append_assoc, List.length_append, List.length_map]
        rfl
theorem without_sum {b o : Bsh} {n n' : Nat} (ho : BushLo o) (hn : ∀ k, k < o.length → (b.length + k = n ↔ k = n')) : withoutB (onStemB b (-1) o) n = onStemB (withoutB b n) (-1) (withoutB o n') := by
  show (wSt (onStemB b (-1) o) n (onStemB b (-1) o).length).2 = _
  rw [onStem_len, wSt_sum ho hn _ (Nat.le_refl _)]
  rfl
theorem without_left {b o : Bsh} {n : Nat} (ho : BushLo o) (hn : n < b.length) : withoutB (onStemB b (-1) o) n = onStemB (withoutB b n) (-1) o := by
  rw [without_sum (n' := o.length) ho (fun k hk => ⟨fun z => by omega, fun z => by omega⟩), without_none ho (Nat.le_refl _)]
theorem without_right {b o : Bsh} {n : Nat} (hb : BushLo b) (ho : BushLo o) : withoutB (onStemB b (-1) o) (b.length + n) = onStemB b (-1) (withoutB o n) := by
  rw [without_sum (n' := n) ho (fun k hk => ⟨fun z => by omega, fun z => by omega⟩), without_none hb (by omega)]
theorem mem_cuts {b : Bsh} {c : Col} {i : Nat} : i ∈ cutsB b c ↔ ∃ s, b[i]? = some s ∧ (s.2 = c ∨ s.2 = .g) := by
  unfold cutsB cutsUp
  rw [List.mem_filter, List.mem_range]
  constructor
  · rintro ⟨h1, h2⟩
    have e := List.getElem?_eq_getElem h1
    rw [mayB_at e] at h2
    refine ⟨_, e, ?_⟩
    rw [Bool.or_eq_true, beq_iff_eq, beq_iff_eq] at h2
    exact h2
  · rintro ⟨s, e, h⟩
    refine ⟨(List.getElem?_eq_some_iff.mp e).1, ?_⟩
    rw [mayB_at e, Bool.or_eq_true, beq_iff_eq, beq_iff_eq]
    exact h
theorem mem_cuts_sum {b o : Bsh} {c : Col} {i : Nat} : i ∈ cutsB (onStemB b (-1) o) c ↔ i ∈ cutsB b c ∨ ∃ j, i = b.length + j ∧ j ∈ cutsB o c := by
  rw [mem_cuts]
  constructor
  · rintro ⟨s, e, h⟩
    unfold onStemB at e
    by_cases hi : i < b.length
    · rw [List.getElem?_append_left hi] at e
      exact .inl (mem_cuts.mpr ⟨s, e, h⟩)
    · rw [List.getElem?_append_right (by omega), List.getElem?_map] at e
      cases q : o[i - b.length]? with
      | none => rw [q] at e; cases e
      | some t =>
        rw [q] at e
        cases e
        exact .inr ⟨i - b.length, by omega, mem_cuts.mpr ⟨t, q, h⟩⟩
  · rintro (h | ⟨j, rfl, h⟩)
    · obtain ⟨s, e, h⟩ := mem_cuts.mp h
      have := (List.getElem?_eq_some_iff.mp e).1
      exact ⟨s, by unfold onStemB; rw [List.getElem?_append_left this]; exact e, h⟩
    · obtain ⟨s, e, h⟩ := mem_cuts.mp h
      refine ⟨shift b.length (-1) s, ?_, h⟩
      unfold onStemB
      rw [List.getElem?_append_right (by omega), show b.length + j - b.length = j by omega, List.getElem?_map, e]; rfl
/-! ### exchanged colours -/
theorem sw_opp (c : Col) : c.sw = c.opp := by cases c <;> rfl
theorem opp_opp (c : Col) : c.opp.opp = c := by cases c <;> rfl
theorem swB_len (b : Bsh) : (swB b).length = b.length := by unfold swB; rw [List.length_map]
theorem swB_get {b : Bsh} {i : Nat} : (swB b)[i]? = (b[i]?).map swS := by unfold swB; rw [List.getElem?_map]
theorem wSt_sw {b : Bsh} {n : Nat} : ∀ k, k ≤ b.length → wSt (swB b) n k = ((wSt b n k).1, swB (wSt b n k).2)
  | 0, _ => rfl
  | k + 1, h => by
    have e2 : b[k]? = some b[k] := List.getElem?_eq_getElem (by omega)
    have e1 : (swB b)[k]? = some (swS b[k]) := by rw [swB_get, e2]; rfl
    rw [wSt_succ e1, wSt_succ e2, wSt_sw k (by omega)]
    unfold wStep
    by_cases hc : k = n
    · rw [if_pos hc, if_pos hc]
    · rw [if_neg hc, if_neg hc]
      show (match nameOf (wSt b n k).1 (b[k]).1 with | none => _ | some j => _) = _
      cases nameOf (wSt b n k).1 (b[k]).1 with
      | none => rfl
      | some j =>
        show (_ ++ [some (swB (wSt b n k).2).length], swB (wSt b n k).2 ++ [(j, (b[k]).2.sw)]) = _
        rw [swB_len]
        show _ = (_, swB (_ ++ [(j, (b[k]).2)]))
        unfold swB
        rw [List.map_append]; rfl
theorem without_sw {b : Bsh} {n : Nat} : withoutB (swB b) n = swB (withoutB b n) := by
  unfold withoutB
  rw [swB_len, wSt_sw _ (Nat.le_refl _)]
theorem cuts_sw {b : Bsh} {c : Col} : cutsB (swB b) c = cutsB b c.opp := by
  unfold cutsB cutsUp
  rw [swB_len]
  refine List.filter_congr fun i hi => ?_
  have hi := List.mem_range.mp hi
  have e2 : b[i]? = some b[i] := List.getElem?_eq_getElem hi
  rw [mayB_at e2, mayB_at (s := swS b[i]) (by rw [swB_get, e2]; rfl)]
  show ((b[i]).2.sw == c || (b[i]).2.sw == .g) = _
  cases (b[i]).2 <;> cases c <;> rfl
theorem swB_lo {b : Bsh} (h : BushLo b) : BushLo (swB b) := by
  refine ⟨by rw [swB_len]; exact h.len, fun i s hs => ?_⟩
  rw [swB_get] at hs
  cases q : b[i]? with
  | none => rw [q] at hs; cases hs
  | some t => rw [q] at hs; cases hs; exact h.low i t q
theorem any_congr {α : Type} {f g : α → Bool} {l : List α} (h : ∀ x ∈ l, f x = g x) : l.any f = l.any g := by
  rw [Bool.eq_iff_iff, List.any_eq_true, List.any_eq_true]
  constructor
  · rintro ⟨x, hx, e⟩; exact ⟨x, hx, by rw [← h x hx]; exact e⟩
  · rintro ⟨x, hx, e⟩; exact ⟨x, hx, by rw [h x hx]; exact e⟩
theorem wins_sw : ∀ (n : Nat) (b : Bsh) (c : Col), BushLo b → b.length ≤ n → wins (swB b) c = wins b c.opp
  | n, b, c, hb, hn => by
    rw [wins_eq (swB_lo hb), wins_eq hb, cuts_sw]
    refine any_congr fun i hi => ?_
    have hi := cutsB_lt hi
    have hl := without_lt hb hi
    match n, hn with
    | 0, hn => omega
    | n + 1, hn =>
      rw [without_sw, wins_sw n _ _ (without_lo hb) (by omega)]
/-! ### a bush beside itself with exchanged colours -/
theorem onStem_lo {b o : Bsh} {num : Int} (hb : BushLo b) (ho : BushLo o) (h1 : -1 ≤ num) (h2 : num < b.length) (h7 : b.length + o.length ≤ 100) : BushLo (onStemB b num o) := by
  refine ⟨by rw [onStem_len]; exact h7, fun i s hs => ?_⟩
  unfold onStemB at hs
  by_cases hi : i < b.length
  · rw [List.getElem?_append_left hi] at hs
    exact hb.low i s hs
  · rw [List.getElem?_append_right (by omega), List.getElem?_map] at hs
    cases q : o[i - b.length]? with
    | none => rw [q] at hs; cases hs
    | some t =>
      rw [q] at hs
      cases hs
      have := ho.low _ t q
      show -1 ≤ (shift b.length num t).1 ∧ (shift b.length num t).1 < i
      unfold shift
      split
      · dsimp only; omega
      · dsimp only; omega
theorem wins_self : ∀ (n : Nat) (b : Bsh) (c : Col), BushLo b → b.length ≤ n → b.length ≤ 50 → wins (onStemB b (-1) (swB b)) c = false
  | n, b, c, hb, hn, h50 => by
    have hs := swB_lo hb
    have hl : BushLo (onStemB b (-1) (swB b)) := onStem_lo hb hs (by omega) (by omega) (by rw [swB_len]; omega)
    rw [wins_eq hl, List.any_eq_false]
    intro i hi
    have cut2 : ∀ j, j < b.length → wins (onStemB (withoutB b j) (-1) (swB (withoutB b j))) c = false := fun j hj => by
      have hlt := without_lt hb hj
      match n, hn with
      | 0, hn => omega
      | n + 1, hn => exact wins_self n _ c (without_lo hb) (by omega) (by omega)
    rcases mem_cuts_sum.mp hi with hi | ⟨j, rfl, hj⟩
    · have hib := cutsB_lt hi
      have hlt := without_lt hb hib
      rw [without_left hs hib]
      have hl2 : BushLo (onStemB (withoutB b i) (-1) (swB b)) := onStem_lo (without_lo hb) hs (by omega) (by omega) (by rw [swB_len]; omega)
      have : wins (onStemB (withoutB b i) (-1) (swB b)) c.opp = true := by
        rw [wins_eq hl2, List.any_eq_true]
        refine ⟨(withoutB b i).length + i, mem_cuts_sum.mpr (.inr ⟨i, rfl, ?_⟩), ?_⟩
        · rw [cuts_sw, opp_opp]; exact hi
        · rw [without_right (without_lo hb) hs, without_sw, opp_opp, cut2 i hib]; rfl
      rw [this]; decide
    · rw [cuts_sw] at hj
      have hjb := cutsB_lt hj
      have hlt := without_lt hb hjb
      rw [without_right hb hs, without_sw]
      have hl2 : BushLo (onStemB b (-1) (swB (withoutB b j))) := onStem_lo hb (swB_lo (without_lo hb)) (by omega) (by omega) (by rw [swB_len]; omega)
      have : wins (onStemB b (-1) (swB (withoutB b j))) c.opp = true := by
        rw [wins_eq hl2, List.any_eq_true]
        refine ⟨j, mem_cuts_sum.mpr (.inl hj), ?_⟩
        rw [without_left (swB_lo (without_lo hb)) hjb, opp_opp, cut2 j hjb]; rfl
      rw [this]; decide
end Sv

/-! ### games, in plain words -/
namespace Sv
inductive Gm where
  | mk (l r : List Gm)
namespace Gm
def L : Gm → List Gm
  | .mk l _ => l
def R : Gm → List Gm
  | .mk _ r => r
theorem ext {x y : Gm} (h1 : x.L = y.L) (h2 : x.R = y.R) : x = y := by
  cases x; cases y
  simp only [L, R] at h1 h2
  rw [h1, h2]
theorem sizeL {x l : Gm} (h : l ∈ x.L) : sizeOf l < sizeOf x := by
  cases x with
  | mk a b =>
    have := List.sizeOf_lt_of_mem (show l ∈ a from h)
    simp only [Gm.mk.sizeOf_spec]
    omega
theorem sizeR {x r : Gm} (h : r ∈ x.R) : sizeOf r < sizeOf x := by
  cases x with
  | mk a b =>
    have := List.sizeOf_lt_of_mem (show r ∈ b from h)
    simp only [Gm.mk.sizeOf_spec]
    omega
/-- x is at most y -/
def le (x y : Gm) : Prop := (∀ l, l ∈ x.L → ¬ le y l) ∧ ∀ r, r ∈ y.R → ¬ le r x
termination_by sizeOf x + sizeOf y
decreasing_by
  · have := sizeL ‹_›; omega
  · have := sizeR ‹_›; omega
theorem le_iff {x y : Gm} : le x y ↔ (∀ l ∈ x.L, ¬ le y l) ∧ ∀ r ∈ y.R, ¬ le r x := by rw [le]
theorem le_refl_all (x : Gm) : le x x ∧ (∀ l ∈ x.L, ¬ le x l) ∧ ∀ r ∈ x.R, ¬ le r x := by
  have hl : ∀ l ∈ x.L, ¬ le x l := fun l h z => by
    have := sizeL h
    exact (le_iff.mp z).1 l h (le_refl_all l).1
  have hr : ∀ r ∈ x.R, ¬ le r x := fun r h z => by
    have := sizeR h
    exact (le_iff.mp z).2 r h (le_refl_all r).1
  exact ⟨le_iff.mpr ⟨hl, hr⟩, hl, hr⟩
termination_by sizeOf x
theorem le_refl (x : Gm) : le x x := (le_refl_all x).1
theorem not_le_left {x l : Gm} (h : l ∈ x.L) : ¬ le x l := (le_refl_all x).2.1 l h
theorem not_le_right {x r : Gm} (h : r ∈ x.R) : ¬ le r x := (le_refl_all x).2.2 r h
theorem le_trans {x y z : Gm} (a : le x y) (b : le y z) : le x z := by
  refine le_iff.mpr ⟨fun l hl c => ?_, fun r hr c => ?_⟩
  · have := sizeL hl
    exact (le_iff.mp a).1 l hl (le_trans b c)
  · have := sizeR hr
    exact (le_iff.mp b).2 r hr (le_trans c a)
termination_by sizeOf x + sizeOf y + sizeOf z
/-- equal in worth -/
def eqv (x y : Gm) : Prop := le x y ∧ le y x
theorem eqv.refl (x : Gm) : eqv x x := ⟨le_refl x, le_refl x⟩
theorem eqv.symm {x y : Gm} (h : eqv x y) : eqv y x := ⟨h.2, h.1⟩
theorem eqv.trans {x y z : Gm} (a : eqv x y) (b : eqv y z) : eqv x z := ⟨le_trans a.1 b.1, le_trans b.2 a.2⟩
theorem le_of_opts {x y : Gm} (hl : ∀ l ∈ x.L, ∃ l' ∈ y.L, le l l') (hr : ∀ r ∈ y.R, ∃ r' ∈ x.R, le r' r) : le x y := by
  refine le_iff.mpr ⟨fun l h c => ?_, fun r h c => ?_⟩
  · obtain ⟨l', h', e⟩ := hl l h
    exact not_le_left h' (le_trans c e)
  · obtain ⟨r', h', e⟩ := hr r h
    exact not_le_right h' (le_trans e c)
/-- nothing to choose -/
def zero : Gm := .mk [] []
theorem att {α β : Type} (f : α → β) (l : List α) : (l.attach.map fun p => f p.1) = l.map f := by
  have : (fun p : { x // x ∈ l } => f p.1) = f ∘ Subtype.val := rfl
  rw [this, ← List.map_map, List.attach_map_subtype_val]
/-- both sides exchanged -/
def neg (x : Gm) : Gm := .mk (x.R.attach.map fun p => neg p.1) (x.L.attach.map fun p => neg p.1)
termination_by sizeOf x
decreasing_by
  · exact sizeR p.2
  · exact sizeL p.2
theorem neg_eq (x : Gm) : neg x = .mk (x.R.map neg) (x.L.map neg) := by rw [neg, att, att]
theorem neg_L (x : Gm) : (neg x).L = x.R.map neg := by rw [neg_eq]; rfl
theorem neg_R (x : Gm) : (neg x).R = x.L.map neg := by rw [neg_eq]; rfl
theorem neg_neg (x : Gm) : neg (neg x) = x := by
  refine ext ?_ ?_
  · rw [neg_L, neg_R, List.map_map]
    have h : ∀ l ∈ x.L, (neg ∘ neg) l = l := fun l hl => by
      have := sizeL hl
      exact neg_neg l
    rw [List.map_congr_left h, List.map_id']
  · rw [neg_R, neg_L, List.map_map]
    have h : ∀ l ∈ x.R, (neg ∘ neg) l = l := fun l hl => by
      have := sizeR hl
      exact neg_neg l
    rw [List.map_congr_left h, List.map_id']
termination_by sizeOf x
theorem neg_le_iff {x y : Gm} : le (neg y) (neg x) ↔ le x y := by
  rw [le_iff, le_iff (x := x), neg_L, neg_R]
  have h1 : ∀ r ∈ y.R, (le (neg x) (neg r) ↔ le r x) := fun r hr => by
    have := sizeR hr
    exact neg_le_iff
  have h2 : ∀ l ∈ x.L, (le (neg l) (neg y) ↔ le y l) := fun l hl => by
    have := sizeL hl
    exact neg_le_iff
  constructor
  · rintro ⟨a, b⟩
    exact ⟨fun l hl c => b _ (List.mem_map.mpr ⟨l, hl, rfl⟩) ((h2 l hl).mpr c), fun r hr c => a _ (List.mem_map.mpr ⟨r, hr, rfl⟩) ((h1 r hr).mpr c)⟩
  · rintro ⟨a, b⟩
    refine ⟨fun l hl c => ?_, fun r hr c => ?_⟩
    · obtain ⟨r, hr, rfl⟩ := List.mem_map.mp hl
      exact b r hr ((h1 r hr).mp c)
    · obtain ⟨l, hl, rfl⟩ := List.mem_map.mp hr
      exact a l hl ((h2 l hl).mp c)
termination_by sizeOf x + sizeOf y
/-- beside one another -/
def add (x y : Gm) : Gm := .mk ((x.L.attach.map fun p => add p.1 y) ++ y.L.attach.map fun p => add x p.1) ((x.R.attach.map fun p => add p.1 y) ++ y.R.attach.map fun p => add x p.1)
termination_by sizeOf x + sizeOf y
decreasing_by
  · have := sizeL p.2; omega
  · have := sizeL p.2; omega
  · have := sizeR p.2; omega
  · have := sizeR p.2; omega
theorem add_eq (x y : Gm) : add x y = .mk ((x.L.map fun l => add l y) ++ y.L.map fun l => add x l) ((x.R.map fun l => add l y) ++ y.R.map fun l => add x l) := by
  rw [add, att (fun l => add l y), att (fun l => add x l), att (fun l => add l y), att (fun l => add x l)]
theorem add_L (x y : Gm) : (add x y).L = (x.L.map fun l => add l y) ++ y.L.map fun l => add x l := by rw [add_eq]; rfl
theorem add_R (x y : Gm) : (add x y).R = (x.R.map fun l => add l y) ++ y.R.map fun l => add x l := by rw [add_eq]; rfl
theorem mem_addL {x y z : Gm} : z ∈ (add x y).L ↔ (∃ l ∈ x.L, z = add l y) ∨ ∃ l ∈ y.L, z = add x l := by
  rw [add_L, List.mem_append, List.mem_map, List.mem_map]
  constructor
  · rintro (⟨l, h, e⟩ | ⟨l, h, e⟩)
    · exact .inl ⟨l, h, e.symm⟩
    · exact .inr ⟨l, h, e.symm⟩
  · rintro (⟨l, h, e⟩ | ⟨l, h, e⟩)
    · exact .inl ⟨l, h, e.symm⟩
    · exact .inr ⟨l, h, e.symm⟩
theorem mem_addR {x y z : Gm} : z ∈ (add x y).R ↔ (∃ l ∈ x.R, z = add l y) ∨ ∃ l ∈ y.R, z = add x l := by
  rw [add_R, List.mem_append, List.mem_map, List.mem_map]
  constructor
  · rintro (⟨l, h, e⟩ | ⟨l, h, e⟩)
    · exact .inl ⟨l, h, e.symm⟩
    · exact .inr ⟨l, h, e.symm⟩
  · rintro (⟨l, h, e⟩ | ⟨l, h, e⟩)
    · exact .inl ⟨l, h, e.symm⟩
    · exact .inr ⟨l, h, e.symm⟩
/-- sums keep the order, both ways -/
theorem add_le_iff {x y z : Gm} : le (add x z) (add y z) ↔ le x y := by
  constructor
  · intro h
    refine le_iff.mpr ⟨fun l hl c => ?_, fun r hr c => ?_⟩
    · have := sizeL hl
      exact (le_iff.mp h).1 _ (mem_addL.mpr (.inl ⟨l, hl, rfl⟩)) (add_le_iff.mpr c)
    · have := sizeR hr
      exact (le_iff.mp h).2 _ (mem_addR.mpr (.inl ⟨r, hr, rfl⟩)) (add_le_iff.mpr c)
  · intro h
    refine le_iff.mpr ⟨fun l hl c => ?_, fun r hr c => ?_⟩
    · rcases mem_addL.mp hl with ⟨l', hl', rfl⟩ | ⟨l', hl', rfl⟩
      · have := sizeL hl'
        exact (le_iff.mp h).1 l' hl' (add_le_iff.mp c)
      · have := sizeL hl'
        exact (le_iff.mp c).1 _ (mem_addL.mpr (.inr ⟨l', hl', rfl⟩)) (add_le_iff.mpr h)
    · rcases mem_addR.mp hr with ⟨l', hl', rfl⟩ | ⟨l', hl', rfl⟩
      · have := sizeR hl'
        exact (le_iff.mp h).2 l' hl' (add_le_iff.mp c)
      · have := sizeR hl'
        exact (le_iff.mp c).2 _ (mem_addR.mpr (.inr ⟨l', hl', rfl⟩)) (add_le_iff.mpr h)
termination_by sizeOf x + sizeOf y + sizeOf z
theorem add_comm_le (x y : Gm) : le (add x y) (add y x) := by
  refine le_of_opts (fun l hl => ?_) fun r hr => ?_
  · rcases mem_addL.mp hl with ⟨l', hl', rfl⟩ | ⟨l', hl', rfl⟩
    · have := sizeL hl'
      exact ⟨_, mem_addL.mpr (.inr ⟨l', hl', rfl⟩), add_comm_le l' y⟩
    · have := sizeL hl'
      exact ⟨_, mem_addL.mpr (.inl ⟨l', hl', rfl⟩), add_comm_le x l'⟩
  · rcases mem_addR.mp hr with ⟨l', hl', rfl⟩ | ⟨l', hl', rfl⟩
    · have := sizeR hl'
      exact ⟨_, mem_addR.mpr (.inr ⟨l', hl', rfl⟩), add_comm_le x l'⟩
    · have := sizeR hl'
      exact ⟨_, mem_addR.mpr (.inl ⟨l', hl', rfl⟩), add_comm_le l' y⟩
termination_by sizeOf x + sizeOf y
theorem add_comm_eqv (x y : Gm) : eqv (add x y) (add y x) := ⟨add_comm_le x y, add_comm_le y x⟩
theorem add_assoc (x y z : Gm) : add (add x y) z = add x (add y z) := by
  have ihL : ∀ l ∈ x.L, add (add l y) z = add l (add y z) := fun l h => by have := sizeL h; exact add_assoc l y z
  have ihR : ∀ l ∈ x.R, add (add l y) z = add l (add y z) := fun l h => by have := sizeR h; exact add_assoc l y z
  have jhL : ∀ l ∈ y.L, add (add x l) z = add x (add l z) := fun l h => by have := sizeL h; exact add_assoc x l z
  have jhR : ∀ l ∈ y.R, add (add x l) z = add x (add l z) := fun l h => by have := sizeR h; exact add_assoc x l z
  have khL : ∀ l ∈ z.L, add (add x y) l = add x (add y l) := fun l h => by have := sizeL h; exact add_assoc x y l
  have khR : ∀ l ∈ z.R, add (add x y) l = add x (add y l) := fun l h => by have := sizeR h; exact add_assoc x y l
  refine ext ?_ ?_
  · rw [add_L, add_L, add_L, add_L, List.map_append, List.map_append, List.map_map, List.map_map, List.map_map, List.map_map, List.append_assoc]
    congr 1
    · exact List.map_congr_left ihL
    · congr 1
      · exact List.map_congr_left jhL
      · exact List.map_congr_left khL
  · rw [add_R, add_R, add_R, add_R, List.map_append, List.map_append, List.map_map, List.map_map, List.map_map, List.map_map, List.append_assoc]
    congr 1
    · exact List.map_congr_left ihR
    · congr 1
      · exact List.map_congr_left jhR
      · exact List.map_congr_left khR
termination_by sizeOf x + sizeOf y + sizeOf z
theorem add_zero (x : Gm) : add x zero = x := by
  have ihL : ∀ l ∈ x.L, add l zero = l := fun l h => by have := sizeL h; exact add_zero l
  have ihR : ∀ l ∈ x.R, add l zero = l := fun l h => by have := sizeR h; exact add_zero l
  refine ext ?_ ?_
  · rw [add_L]
    show (x.L.map fun l => add l zero) ++ [] = x.L
    rw [List.append_nil, List.map_congr_left ihL, List.map_id']
  · rw [add_R]
    show (x.R.map fun l => add l zero) ++ [] = x.R
    rw [List.append_nil, List.map_congr_left ihR, List.map_id']
termination_by sizeOf x
theorem zero_add (x : Gm) : add zero x = x := by
  have ihL : ∀ l ∈ x.L, add zero l = l := fun l h => by have := sizeL h; exact zero_add l
  have ihR : ∀ l ∈ x.R, add zero l = l := fun l h => by have := sizeR h; exact zero_add l
  refine ext ?_ ?_
  · rw [add_L]
    show (x.L.map fun l => add zero l) = x.L
    rw [List.map_congr_left ihL, List.map_id']
  · rw [add_R]
    show (x.R.map fun l => add zero l) = x.R
    rw [List.map_congr_left ihR, List.map_id']
termination_by sizeOf x
theorem add_neg_le (x : Gm) : le (add x (neg x)) zero := by
  refine le_iff.mpr ⟨fun l hl c => ?_, (fun r hr => by cases hr)⟩
  rcases mem_addL.mp hl with ⟨l', hl', rfl⟩ | ⟨l', hl', rfl⟩
  · have := sizeL hl'
    refine (le_iff.mp c).2 (add l' (neg l')) (mem_addR.mpr (.inr ⟨neg l', ?_, rfl⟩)) (add_neg_le l')
    rw [neg_R]; exact List.mem_map.mpr ⟨l', hl', rfl⟩
  · rw [neg_L] at hl'
    obtain ⟨r, hr, rfl⟩ := List.mem_map.mp hl'
    have := sizeR hr
    exact (le_iff.mp c).2 (add r (neg r)) (mem_addR.mpr (.inl ⟨r, hr, rfl⟩)) (add_neg_le r)
termination_by sizeOf x
theorem le_add_neg (x : Gm) : le zero (add x (neg x)) := by
  refine le_iff.mpr ⟨(fun l hl => by cases hl), fun r hr c => ?_⟩
  rcases mem_addR.mp hr with ⟨r', hr', rfl⟩ | ⟨l', hl', rfl⟩
  · have := sizeR hr'
    refine (le_iff.mp c).1 (add r' (neg r')) (mem_addL.mpr (.inr ⟨neg r', ?_, rfl⟩)) (le_add_neg r')
    rw [neg_L]; exact List.mem_map.mpr ⟨r', hr', rfl⟩
  · rw [neg_R] at hl'
    obtain ⟨l, hl, rfl⟩ := List.mem_map.mp hl'
    have := sizeL hl
    exact (le_iff.mp c).1 (add l (neg l)) (mem_addL.mpr (.inl ⟨l, hl, rfl⟩)) (le_add_neg l)
termination_by sizeOf x
theorem le_iff_sub {x y : Gm} : le x y ↔ le (add x (neg y)) zero := by
  rw [← add_le_iff (z := neg y)]
  exact ⟨fun h => le_trans h (add_neg_le y), fun h => le_trans h (le_add_neg y)⟩
theorem ge_iff_sub {x y : Gm} : le y x ↔ le zero (add x (neg y)) := by
  rw [← add_le_iff (z := neg y)]
  exact ⟨fun h => le_trans (le_add_neg y) h, fun h => le_trans (add_neg_le y) h⟩
theorem add_mono {x y u v : Gm} (h1 : le x y) (h2 : le u v) : le (add x u) (add y v) :=
  le_trans (add_le_iff.mpr h1) (le_trans (add_comm_le y u) (le_trans (add_le_iff.mpr h2) (add_comm_le v y)))
end Gm
end Sv

set_option maxHeartbeats 4000000
namespace Sv
open PySem PySem.Spec PyProof.Rows L2 L2H HotX LamX
/-! ### the game of a bush -/
def gameF : Nat → Bsh → Gm
  | 0, _ => .zero
  | n + 1, b => .mk ((cutsB b .w).map fun i => gameF n (withoutB b i)) ((cutsB b .b).map fun i => gameF n (withoutB b i))
def game (b : Bsh) : Gm := gameF b.length b
theorem gameF_eq : ∀ (n m : Nat) (b : Bsh), BushLo b → b.length ≤ n → b.length ≤ m → gameF n b = gameF m b
  | 0, 0, _, _, _, _ => rfl
  | 0, m + 1, b, _, h, _ => by
    have : b = [] := List.eq_nil_of_length_eq_zero (by omega)
    subst this; rfl
  | n + 1, 0, b, _, _, h => by
    have : b = [] := List.eq_nil_of_length_eq_zero (by omega)
    subst this; rfl
  | n + 1, m + 1, b, hb, h1, h2 => by
    have key : ∀ c, ∀ i ∈ cutsB b c, gameF n (withoutB b i) = gameF m (withoutB b i) := fun c i hi => by
      have := without_lt hb (cutsB_lt hi)
      exact gameF_eq n m _ (without_lo hb) (by omega) (by omega)
    show Gm.mk _ _ = Gm.mk _ _
    rw [List.map_congr_left (key .w), List.map_congr_left (key .b)]
def optsB (b : Bsh) (c : Col) : List Gm := (cutsB b c).map fun i => game (withoutB b i)
theorem game_eq {b : Bsh} (hb : BushLo b) : game b = .mk (optsB b .w) (optsB b .b) := by
  unfold game
  rw [gameF_eq b.length (b.length + 1) b hb (Nat.le_refl _) (by omega)]
  have key : ∀ c, ∀ i ∈ cutsB b c, gameF b.length (withoutB b i) = gameF (withoutB b i).length (withoutB b i) := fun c i hi => by
    have := without_lt hb (cutsB_lt hi)
    exact gameF_eq _ _ _ (without_lo hb) (by omega) (by omega)
  show Gm.mk _ _ = Gm.mk _ _
  rw [List.map_congr_left (key .w), List.map_congr_left (key .b)]
  rfl
theorem game_L {b : Bsh} (hb : BushLo b) : (game b).L = optsB b .w := by rw [game_eq hb]; rfl
theorem game_R {b : Bsh} (hb : BushLo b) : (game b).R = optsB b .b := by rw [game_eq hb]; rfl
theorem mem_opts {b : Bsh} {c : Col} {g : Gm} : g ∈ optsB b c ↔ ∃ i ∈ cutsB b c, g = game (withoutB b i) := by
  unfold optsB
  rw [List.mem_map]
  exact ⟨fun ⟨i, h, e⟩ => ⟨i, h, e.symm⟩, fun ⟨i, h, e⟩ => ⟨i, h, e.symm⟩⟩
/-! ### who wins, by the order -/
theorem wins_le : ∀ (n : Nat) (b : Bsh), BushLo b → b.length ≤ n → (wins b .w = false ↔ Gm.le (game b) .zero) ∧ (wins b .b = false ↔ Gm.le .zero (game b))
  | n, b, hb, hn => by
    have ih : ∀ c, ∀ i ∈ cutsB b c, (wins (withoutB b i) .w = false ↔ Gm.le (game (withoutB b i)) .zero) ∧ (wins (withoutB b i) .b = false ↔ Gm.le .zero (game (withoutB b i))) := fun c i hi => by
      have hl := without_lt hb (cutsB_lt hi)
      match n, hn with
      | 0, hn => have := cutsB_lt hi; omega
      | n + 1, hn => exact wins_le n _ (without_lo hb) (by omega)
    constructor
    · rw [wins_eq hb, List.any_eq_false, Gm.le_iff, game_L hb]
      constructor
      · intro h
        refine ⟨fun l hl c => ?_, (fun r hr => by cases hr)⟩
        obtain ⟨i, hi, rfl⟩ := mem_opts.mp hl
        refine h i hi ?_
        have := (ih .w i hi).2.mpr c
        show (!wins (withoutB b i) .b) = true
        rw [this]; rfl
      · rintro ⟨h, _⟩ i hi z
        refine h _ (mem_opts.mpr ⟨i, hi, rfl⟩) ((ih .w i hi).2.mp ?_)
        have z : (!wins (withoutB b i) .b) = true := z
        simpa using z
    · rw [wins_eq hb, List.any_eq_false, Gm.le_iff, game_R hb]
      constructor
      · intro h
        refine ⟨(fun r hr => by cases hr), fun l hl c => ?_⟩
        obtain ⟨i, hi, rfl⟩ := mem_opts.mp hl
        refine h i hi ?_
        have := (ih .b i hi).1.mpr c
        show (!wins (withoutB b i) .w) = true
        rw [this]; rfl
      · rintro ⟨_, h⟩ i hi z
        refine h _ (mem_opts.mpr ⟨i, hi, rfl⟩) ((ih .b i hi).1.mp ?_)
        have z : (!wins (withoutB b i) .w) = true := z
        simpa using z
theorem wins_w {b : Bsh} (hb : BushLo b) : wins b .w = false ↔ Gm.le (game b) .zero := (wins_le b.length b hb (Nat.le_refl _)).1
theorem wins_b {b : Bsh} (hb : BushLo b) : wins b .b = false ↔ Gm.le .zero (game b) := (wins_le b.length b hb (Nat.le_refl _)).2
/-! ### sums, exchanged colours -/
theorem cuts_sum (a b : Bsh) (c : Col) : cutsB (onStemB a (-1) b) c = cutsB a c ++ (cutsB b c).map fun i => a.length + i := by
  unfold cutsB cutsUp
  rw [onStem_len, List.range_add, List.filter_append]
  congr 1
  · refine List.filter_congr fun i hi => ?_
    have hi := List.mem_range.mp hi
    have e : a[i]? = some a[i] := List.getElem?_eq_getElem hi
    rw [mayB_at e]
    refine mayB_at ?_
    unfold onStemB
    rw [List.getElem?_append_left hi]; exact e
  · rw [List.filter_map]
    congr 1
    refine List.filter_congr fun i hi => ?_
    have hi := List.mem_range.mp hi
    have e : b[i]? = some b[i] := List.getElem?_eq_getElem hi
    rw [mayB_at e]
    show mayB (onStemB a (-1) b) c (a.length + i) = _
    refine (mayB_at (s := shift a.length (-1) b[i]) ?_).trans rfl
    unfold onStemB
    rw [List.getElem?_append_right (by omega), show a.length + i - a.length = i by omega, List.getElem?_map, e]; rfl
theorem game_sum : ∀ (n : Nat) (a b : Bsh), BushLo a → BushLo b → a.length + b.length ≤ n → n ≤ 100 → game (onStemB a (-1) b) = Gm.add (game a) (game b)
  | n, a, b, ha, hb, hn, h1 => by
    have hl : BushLo (onStemB a (-1) b) := onStem_lo ha hb (by omega) (by omega) (by omega)
    have side : ∀ c, optsB (onStemB a (-1) b) c = ((optsB a c).map fun l => Gm.add l (game b)) ++ (optsB b c).map fun l => Gm.add (game a) l := fun c => by
      unfold optsB
      rw [cuts_sum, List.map_append, List.map_map, List.map_map, List.map_map]
      congr 1
      · refine List.map_congr_left fun i hi => ?_
        have hi := cutsB_lt hi
        have hlt := without_lt ha hi
        show game (withoutB (onStemB a (-1) b) i) = Gm.add (game (withoutB a i)) (game b)
        rw [without_left hb hi]
        match n, hn with
        | 0, hn => omega
        | n + 1, hn => exact game_sum n _ _ (without_lo ha) hb (by omega) (by omega)
      · refine List.map_congr_left fun i hi => ?_
        have hi := cutsB_lt hi
        have hlt := without_lt hb hi
        show game (withoutB (onStemB a (-1) b) (a.length + i)) = Gm.add (game a) (game (withoutB b i))
        rw [without_right ha hb]
        match n, hn with
        | 0, hn => omega
        | n + 1, hn => exact game_sum n _ _ ha (without_lo hb) (by omega) (by omega)
    refine Gm.ext ?_ ?_
    · rw [game_L hl, Gm.add_L, game_L ha, game_L hb]; exact side .w
    · rw [game_R hl, Gm.add_R, game_R ha, game_R hb]; exact side .b
theorem game_add {a b : Bsh} (ha : BushLo a) (hb : BushLo b) (h : a.length + b.length ≤ 100) : game (onStemB a (-1) b) = Gm.add (game a) (game b) := game_sum _ a b ha hb (Nat.le_refl _) h
theorem game_sw : ∀ (n : Nat) (b : Bsh), BushLo b → b.length ≤ n → game (swB b) = Gm.neg (game b)
  | n, b, hb, hn => by
    have side : ∀ c, optsB (swB b) c = (optsB b c.opp).map Gm.neg := fun c => by
      unfold optsB
      rw [cuts_sw, List.map_map]
      refine List.map_congr_left fun i hi => ?_
      have hi := cutsB_lt hi
      have hlt := without_lt hb hi
      show game (withoutB (swB b) i) = Gm.neg (game (withoutB b i))
      rw [without_sw]
      match n, hn with
      | 0, hn => omega
      | n + 1, hn => exact game_sw n _ (without_lo hb) (by omega)
    refine Gm.ext ?_ ?_
    · rw [game_L (swB_lo hb), Gm.neg_L, game_R hb]; exact side .w
    · rw [game_R (swB_lo hb), Gm.neg_R, game_L hb]; exact side .b
theorem game_neg {b : Bsh} (hb : BushLo b) : game (swB b) = Gm.neg (game b) := game_sw _ b hb (Nat.le_refl _)
/-- the difference, played -/
theorem diff_w {a b : Bsh} (ha : BushLo a) (hb : BushLo b) (h : a.length + b.length ≤ 100) : wins (onStemB a (-1) (swB b)) .w = false ↔ Gm.le (game a) (game b) := by
  have hs := swB_lo hb
  have hl : BushLo (onStemB a (-1) (swB b)) := onStem_lo ha hs (by omega) (by omega) (by rw [swB_len]; exact h)
  rw [wins_w hl, game_add ha hs (by rw [swB_len]; exact h), game_neg hb, ← Gm.le_iff_sub]
theorem diff_b {a b : Bsh} (ha : BushLo a) (hb : BushLo b) (h : a.length + b.length ≤ 100) : wins (onStemB a (-1) (swB b)) .b = false ↔ Gm.le (game b) (game a) := by
  have hs := swB_lo hb
  have hl : BushLo (onStemB a (-1) (swB b)) := onStem_lo ha hs (by omega) (by omega) (by rw [swB_len]; exact h)
  rw [wins_b hl, game_add ha hs (by rw [swB_len]; exact h), game_neg hb, ← Gm.ge_iff_sub]
end Sv

/-! ### least forms, in plain words -/
namespace Sv
namespace Gm
/-- alike, up to the sequence -/
def same (x y : Gm) : Prop := (∀ l, l ∈ x.L → ∃ l', ∃ (_ : l' ∈ y.L), same l l') ∧ (∀ l', l' ∈ y.L → ∃ l, ∃ (_ : l ∈ x.L), same l l') ∧ (∀ r, r ∈ x.R → ∃ r', ∃ (_ : r' ∈ y.R), same r r') ∧ ∀ r', r' ∈ y.R → ∃ r, ∃ (_ : r ∈ x.R), same r r'
termination_by sizeOf x + sizeOf y
decreasing_by
  · have := sizeL ‹l ∈ x.L›; have := sizeL ‹l' ∈ y.L›; omega
  · have := sizeL ‹l ∈ x.L›; have := sizeL ‹l' ∈ y.L›; omega
  · have := sizeR ‹r ∈ x.R›; have := sizeR ‹r' ∈ y.R›; omega
  · have := sizeR ‹r ∈ x.R›; have := sizeR ‹r' ∈ y.R›; omega
theorem same_iff {x y : Gm} : same x y ↔ (∀ l ∈ x.L, ∃ l' ∈ y.L, same l l') ∧ (∀ l' ∈ y.L, ∃ l ∈ x.L, same l l') ∧ (∀ r ∈ x.R, ∃ r' ∈ y.R, same r r') ∧ ∀ r' ∈ y.R, ∃ r ∈ x.R, same r r' := by
  rw [same]
  simp only [exists_prop]
/-- a least form: nothing dominated, nothing reversible, everywhere inside -/
def Can (x : Gm) : Prop := (∀ a, a ∈ x.L → ∀ b, b ∈ x.L → le a b → a = b) ∧ (∀ a, a ∈ x.R → ∀ b, b ∈ x.R → le a b → a = b) ∧ (∀ l, l ∈ x.L → ∀ r, r ∈ l.R → ¬ le r x) ∧ (∀ r, r ∈ x.R → ∀ l, l ∈ r.L → ¬ le x l) ∧ (∀ l, l ∈ x.L → Can l) ∧ ∀ r, r ∈ x.R → Can r
termination_by sizeOf x
decreasing_by
  · exact sizeL ‹_›
  · exact sizeR ‹_›
theorem can_iff {x : Gm} : Can x ↔ (∀ a ∈ x.L, ∀ b ∈ x.L, le a b → a = b) ∧ (∀ a ∈ x.R, ∀ b ∈ x.R, le a b → a = b) ∧ (∀ l ∈ x.L, ∀ r ∈ l.R, ¬ le r x) ∧ (∀ r ∈ x.R, ∀ l ∈ r.L, ¬ le x l) ∧ (∀ l ∈ x.L, Can l) ∧ ∀ r ∈ x.R, Can r := by rw [Can]
theorem not_le_iff {x y : Gm} : ¬ le x y ↔ (∃ l ∈ x.L, le y l) ∨ ∃ r ∈ y.R, le r x := by
  rw [le_iff]
  constructor
  · intro h
    by_cases h1 : ∃ l ∈ x.L, le y l
    · exact .inl h1
    · refine .inr ?_
      apply Classical.byContradiction
      intro h2
      exact h ⟨fun l hl c => h1 ⟨l, hl, c⟩, fun r hr c => h2 ⟨r, hr, c⟩⟩
  · rintro (⟨l, hl, c⟩ | ⟨r, hr, c⟩) ⟨h1, h2⟩
    · exact h1 l hl c
    · exact h2 r hr c
/-- least forms of the same worth are alike -/
theorem can_same {x y : Gm} (cx : Can x) (cy : Can y) (h : eqv x y) : same x y := by
  obtain ⟨dx1, dx2, rx1, rx2, ox1, ox2⟩ := can_iff.mp cx
  obtain ⟨dy1, dy2, ry1, ry2, oy1, oy2⟩ := can_iff.mp cy
  -- an option finds one that is no worse
  have upL : ∀ {u v : Gm}, eqv u v → (∀ l ∈ u.L, ∀ r ∈ l.R, ¬ le r u) → ∀ l ∈ u.L, ∃ l' ∈ v.L, le l l' := fun {u v} e ru l hl => by
    have n : ¬ le v l := fun c => not_le_left hl (le_trans e.1 c)
    rcases not_le_iff.mp n with ⟨l', hl', c⟩ | ⟨r, hr, c⟩
    · exact ⟨l', hl', c⟩
    · exact absurd (le_trans c e.2) (ru l hl r hr)
  have upR : ∀ {u v : Gm}, eqv u v → (∀ r ∈ u.R, ∀ l ∈ r.L, ¬ le u l) → ∀ r ∈ u.R, ∃ r' ∈ v.R, le r' r := fun {u v} e ru r hr => by
    have n : ¬ le r v := fun c => not_le_right hr (le_trans c e.2)
    rcases not_le_iff.mp n with ⟨l, hl, c⟩ | ⟨r', hr', c⟩
    · exact absurd (le_trans e.1 c) (ru r hr l hl)
    · exact ⟨r', hr', c⟩
  have a1 : ∀ l ∈ x.L, ∃ l' ∈ y.L, same l l' := fun l hl => by
    obtain ⟨l', hl', c1⟩ := upL h rx1 l hl
    obtain ⟨l2, hl2, c2⟩ := upL h.symm ry1 l' hl'
    have e := dx1 l hl l2 hl2 (le_trans c1 c2)
    have := sizeL hl
    have := sizeL hl'
    exact ⟨l', hl', can_same (ox1 l hl) (oy1 l' hl') ⟨c1, e ▸ c2⟩⟩
  have a2 : ∀ l' ∈ y.L, ∃ l ∈ x.L, same l l' := fun l' hl' => by
    obtain ⟨l, hl, c1⟩ := upL h.symm ry1 l' hl'
    obtain ⟨l2, hl2, c2⟩ := upL h rx1 l hl
    have e := dy1 l' hl' l2 hl2 (le_trans c1 c2)
    have := sizeL hl
    have := sizeL hl'
    exact ⟨l, hl, can_same (ox1 l hl) (oy1 l' hl') ⟨e ▸ c2, c1⟩⟩
  have a3 : ∀ r ∈ x.R, ∃ r' ∈ y.R, same r r' := fun r hr => by
    obtain ⟨r', hr', c1⟩ := upR h rx2 r hr
    obtain ⟨r2, hr2, c2⟩ := upR h.symm ry2 r' hr'
    have e := dx2 r2 hr2 r hr (le_trans c2 c1)
    have := sizeR hr
    have := sizeR hr'
    exact ⟨r', hr', can_same (ox2 r hr) (oy2 r' hr') ⟨e ▸ c2, c1⟩⟩
  have a4 : ∀ r' ∈ y.R, ∃ r ∈ x.R, same r r' := fun r' hr' => by
    obtain ⟨r, hr, c1⟩ := upR h.symm ry2 r' hr'
    obtain ⟨r2, hr2, c2⟩ := upR h rx2 r hr
    have e := dy2 r2 hr2 r' hr' (le_trans c2 c1)
    have := sizeR hr
    have := sizeR hr'
    exact ⟨r, hr, can_same (ox2 r hr) (oy2 r' hr') ⟨c1, e ▸ c2⟩⟩
  exact same_iff.mpr ⟨a1, a2, a3, a4⟩
termination_by sizeOf x + sizeOf y
/-! ### the steps to a least form -/
/-- the same choices in another sequence -/
theorem eqv_of_mem {x y : Gm} (h1 : ∀ g, g ∈ x.L ↔ g ∈ y.L) (h2 : ∀ g, g ∈ x.R ↔ g ∈ y.R) : eqv x y :=
  ⟨le_of_opts (fun l hl => ⟨l, (h1 l).mp hl, le_refl l⟩) fun r hr => ⟨r, (h2 r).mpr hr, le_refl r⟩, le_of_opts (fun l hl => ⟨l, (h1 l).mpr hl, le_refl l⟩) fun r hr => ⟨r, (h2 r).mp hr, le_refl r⟩⟩
/-- a choice of White's that is answered back -/
theorem bypassL {A B : List Gm} {o back g : Gm} (h : eqv (.mk (o :: A) B) g) (hb : back ∈ o.R) (hl : le back g) : eqv (.mk (A ++ back.L) B) g := by
  have hX : le back (.mk (o :: A) B) := le_trans hl h.2
  have bY : le back (.mk (A ++ back.L) B) := by
    refine le_iff.mpr ⟨fun l h1 c => ?_, fun r h1 c => ?_⟩
    · exact not_le_left (x := .mk (A ++ back.L) B) (List.mem_append_right _ h1) c
    · exact not_le_right (x := .mk (o :: A) B) h1 (le_trans c hX)
  refine eqv.trans ⟨?_, ?_⟩ h
  · refine le_iff.mpr ⟨fun l h1 c => ?_, fun r h1 c => ?_⟩
    · rcases List.mem_append.mp h1 with h1 | h1
      · exact not_le_left (x := .mk (o :: A) B) (List.mem_cons_of_mem _ h1) c
      · exact not_le_left h1 (le_trans hX c)
    · exact not_le_right (x := .mk (A ++ back.L) B) h1 c
  · refine le_iff.mpr ⟨fun l h1 c => ?_, fun r h1 c => ?_⟩
    · rcases List.mem_cons.mp h1 with rfl | h1
      · exact (le_iff.mp c).2 back hb bY
      · exact not_le_left (x := .mk (A ++ back.L) B) (List.mem_append_left _ h1) c
    · exact not_le_right (x := .mk (o :: A) B) h1 c
/-- .. of Black's -/
theorem bypassR {A B : List Gm} {o back g : Gm} (h : eqv (.mk A (o :: B)) g) (hb : back ∈ o.L) (hl : le g back) : eqv (.mk A (B ++ back.R)) g := by
  have hX : le (.mk A (o :: B)) back := le_trans h.1 hl
  have bY : le (.mk A (B ++ back.R)) back := by
    refine le_iff.mpr ⟨fun l h1 c => ?_, fun r h1 c => ?_⟩
    · exact not_le_left (x := .mk A (o :: B)) h1 (le_trans hX c)
    · exact not_le_right (x := .mk A (B ++ back.R)) (List.mem_append_right _ h1) c
  refine eqv.trans ⟨?_, ?_⟩ h
  · refine le_iff.mpr ⟨fun l h1 c => ?_, fun r h1 c => ?_⟩
    · exact not_le_left (x := .mk A (o :: B)) h1 c
    · rcases List.mem_cons.mp h1 with rfl | h1
      · exact (le_iff.mp c).1 back hb bY
      · exact not_le_right (x := .mk A (B ++ back.R)) (List.mem_append_left _ h1) c
  · refine le_iff.mpr ⟨fun l h1 c => ?_, fun r h1 c => ?_⟩
    · exact not_le_left (x := .mk A (B ++ back.R)) h1 c
    · rcases List.mem_append.mp h1 with h1 | h1
      · exact not_le_right (x := .mk A (o :: B)) (List.mem_cons_of_mem _ h1) c
      · exact not_le_right h1 (le_trans c hX)
/-- choices that are no better than others left out -/
theorem domL {A A' B : List Gm} (h1 : ∀ a ∈ A', a ∈ A) (h2 : ∀ a ∈ A, ∃ a' ∈ A', le a a') : eqv (.mk A' B) (.mk A B) :=
  ⟨le_of_opts (fun l hl => ⟨l, h1 l hl, le_refl l⟩) fun r hr => ⟨r, hr, le_refl r⟩, le_of_opts (fun l hl => h2 l hl) fun r hr => ⟨r, hr, le_refl r⟩⟩
theorem domR {A B B' : List Gm} (h1 : ∀ a ∈ B', a ∈ B) (h2 : ∀ a ∈ B, ∃ a' ∈ B', le a' a) : eqv (.mk A B') (.mk A B) :=
  ⟨le_of_opts (fun l hl => ⟨l, hl, le_refl l⟩) fun r hr => h2 r hr, le_of_opts (fun l hl => ⟨l, hl, le_refl l⟩) fun r hr => ⟨r, h1 r hr, le_refl r⟩⟩
theorem mk_eqv {A A' B B' : List Gm} (h1 : ∀ a ∈ A, ∃ a' ∈ A', eqv a a') (h2 : ∀ a' ∈ A', ∃ a ∈ A, eqv a a') (h3 : ∀ a ∈ B, ∃ a' ∈ B', eqv a a') (h4 : ∀ a' ∈ B', ∃ a ∈ B, eqv a a') : eqv (.mk A B) (.mk A' B') :=
  ⟨le_of_opts (fun l hl => let ⟨l', a, b⟩ := h1 l hl; ⟨l', a, b.1⟩) fun r hr => let ⟨r', a, b⟩ := h4 r hr; ⟨r', a, b.1⟩, le_of_opts (fun l hl => let ⟨l', a, b⟩ := h2 l hl; ⟨l', a, b.2⟩) fun r hr => let ⟨r', a, b⟩ := h3 r hr; ⟨r', a, b.2⟩⟩
end Gm
end Sv

/-! ### forms under numbers -/
namespace Sv
abbrev Form := List Nat × List Nat
def valF (fs : List Form) : Nat → Nat → Gm
  | 0, _ => .zero
  | n + 1, i => match fs[i]? with
    | none => .zero
    | some f => .mk (f.1.map (valF fs n)) (f.2.map (valF fs n))
/-- the game under a number -/
def val (fs : List Form) (i : Nat) : Gm := valF fs (i + 1) i
structure FsOk (fs : List Form) : Prop where
  lt : ∀ (i : Nat) (f : Form), fs[i]? = some f → (∀ j ∈ f.1, j < i) ∧ ∀ j ∈ f.2, j < i
  up : ∀ (i : Nat) (f : Form), fs[i]? = some f → f.1.Pairwise (· < ·) ∧ f.2.Pairwise (· < ·)
  nd : ∀ (i j : Nat) (f : Form), fs[i]? = some f → fs[j]? = some f → i = j
theorem fsOk_nil : FsOk [] := ⟨fun _ _ h => by simp at h, fun _ _ h => by simp at h, fun _ _ _ h => by simp at h⟩
section
variable {fs : List Form}
theorem valF_eq (ok : FsOk fs) : ∀ (n m i : Nat), i < n → i < m → valF fs n i = valF fs m i
  | 0, _, _, h, _ => absurd h (by omega)
  | _, 0, _, _, h => absurd h (by omega)
  | n + 1, m + 1, i, h1, h2 => by
    show (match fs[i]? with | none => Gm.zero | some f => .mk (f.1.map (valF fs n)) (f.2.map (valF fs n))) = match fs[i]? with | none => Gm.zero | some f => .mk (f.1.map (valF fs m)) (f.2.map (valF fs m))
    cases e : fs[i]? with
    | none => rfl
    | some f =>
      obtain ⟨a, b⟩ := ok.lt i f e
      show Gm.mk _ _ = Gm.mk _ _
      congr 1
      · exact List.map_congr_left fun j hj => valF_eq ok n m j (by have := a j hj; omega) (by have := a j hj; omega)
      · exact List.map_congr_left fun j hj => valF_eq ok n m j (by have := b j hj; omega) (by have := b j hj; omega)
theorem val_eq (ok : FsOk fs) {i : Nat} {f : Form} (e : fs[i]? = some f) : val fs i = .mk (f.1.map (val fs)) (f.2.map (val fs)) := by
  obtain ⟨a, b⟩ := ok.lt i f e
  unfold val
  show (match fs[i]? with | none => Gm.zero | some f => .mk (f.1.map (valF fs i)) (f.2.map (valF fs i))) = _
  rw [e]
  show Gm.mk _ _ = Gm.mk _ _
  congr 1
  · exact List.map_congr_left fun j hj => valF_eq ok _ _ j (a j hj) (Nat.lt_succ_self j)
  · exact List.map_congr_left fun j hj => valF_eq ok _ _ j (b j hj) (Nat.lt_succ_self j)
theorem val_L (ok : FsOk fs) {i : Nat} {f : Form} (e : fs[i]? = some f) : (val fs i).L = f.1.map (val fs) := by rw [val_eq ok e]; rfl
theorem val_R (ok : FsOk fs) {i : Nat} {f : Form} (e : fs[i]? = some f) : (val fs i).R = f.2.map (val fs) := by rw [val_eq ok e]; rfl
theorem valF_app (ok : FsOk fs) (gs : List Form) : ∀ (n i : Nat), i < fs.length → valF (fs ++ gs) n i = valF fs n i
  | 0, _, _ => rfl
  | n + 1, i, h => by
    show (match (fs ++ gs)[i]? with | none => Gm.zero | some f => .mk (f.1.map (valF (fs ++ gs) n)) (f.2.map (valF (fs ++ gs) n))) = match fs[i]? with | none => Gm.zero | some f => .mk (f.1.map (valF fs n)) (f.2.map (valF fs n))
    rw [List.getElem?_append_left h]
    cases e : fs[i]? with
    | none => rfl
    | some f =>
      obtain ⟨a, b⟩ := ok.lt i f e
      show Gm.mk _ _ = Gm.mk _ _
      congr 1
      · exact List.map_congr_left fun j hj => valF_app ok gs n j (Nat.lt_trans (a j hj) h)
      · exact List.map_congr_left fun j hj => valF_app ok gs n j (Nat.lt_trans (b j hj) h)
theorem val_app (ok : FsOk fs) (gs : List Form) {i : Nat} (h : i < fs.length) : val (fs ++ gs) i = val fs i := valF_app ok gs _ i h
theorem asc_eq : ∀ {l m : List Nat}, l.Pairwise (· < ·) → m.Pairwise (· < ·) → (∀ x, x ∈ l ↔ x ∈ m) → l = m
  | [], [], _, _, _ => rfl
  | [], y :: m, _, _, h => absurd ((h y).mpr List.mem_cons_self) (by simp)
  | x :: l, [], _, _, h => absurd ((h x).mp List.mem_cons_self) (by simp)
  | x :: l, y :: m, h1, h2, h => by
    obtain ⟨a1, a2⟩ := List.pairwise_cons.mp h1
    obtain ⟨b1, b2⟩ := List.pairwise_cons.mp h2
    have e : x = y := by
      rcases List.mem_cons.mp ((h x).mp List.mem_cons_self) with e | e
      · exact e
      · rcases List.mem_cons.mp ((h y).mpr List.mem_cons_self) with e2 | e2
        · exact e2.symm
        · have := b1 x e
          have := a1 y e2
          omega
    subst e
    rw [asc_eq a2 b2 fun z => ?_]
    constructor
    · intro hz
      rcases List.mem_cons.mp ((h z).mp (List.mem_cons_of_mem _ hz)) with e | e
      · have := a1 z hz; omega
      · exact e
    · intro hz
      rcases List.mem_cons.mp ((h z).mpr (List.mem_cons_of_mem _ hz)) with e | e
      · have := b1 z hz; omega
      · exact e
/-- numbers of forms that are alike are equal -/
theorem uniq (ok : FsOk fs) : ∀ (n i j : Nat), i < n → i < fs.length → j < fs.length → Gm.same (val fs i) (val fs j) → i = j
  | 0, _, _, h, _, _, _ => absurd h (by omega)
  | n + 1, i, j, hn, hi, hj, h => by
    have ei : fs[i]? = some fs[i] := List.getElem?_eq_getElem hi
    have ej : fs[j]? = some fs[j] := List.getElem?_eq_getElem hj
    obtain ⟨a1, a2⟩ := ok.lt i _ ei
    obtain ⟨b1, b2⟩ := ok.lt j _ ej
    obtain ⟨u1, u2⟩ := ok.up i _ ei
    obtain ⟨v1, v2⟩ := ok.up j _ ej
    obtain ⟨s1, s2, s3, s4⟩ := Gm.same_iff.mp h
    rw [val_L ok ei] at s1 s2
    rw [val_L ok ej] at s1 s2
    rw [val_R ok ei] at s3 s4
    rw [val_R ok ej] at s3 s4
    have key : ∀ {l m : List Nat}, (∀ x ∈ l, x < i) → (∀ x ∈ m, x < j) → (∀ g ∈ l.map (val fs), ∃ g' ∈ m.map (val fs), Gm.same g g') → (∀ g' ∈ m.map (val fs), ∃ g ∈ l.map (val fs), Gm.same g g') → ∀ x, x ∈ l ↔ x ∈ m := by
      intro l m hl hm t1 t2 x
      constructor
      · intro hx
        obtain ⟨g', hg', sg⟩ := t1 _ (List.mem_map.mpr ⟨x, hx, rfl⟩)
        obtain ⟨y, hy, rfl⟩ := List.mem_map.mp hg'
        have := hl x hx
        have := hm y hy
        rw [uniq ok n x y (by omega) (by omega) (by omega) sg]
        exact hy
      · intro hx
        obtain ⟨g', hg', sg⟩ := t2 _ (List.mem_map.mpr ⟨x, hx, rfl⟩)
        obtain ⟨y, hy, rfl⟩ := List.mem_map.mp hg'
        have := hl y hy
        have := hm x hx
        rw [← uniq ok n y x (by omega) (by omega) (by omega) sg]
        exact hy
    have e1 := asc_eq u1 v1 (key a1 b1 s1 s2)
    have e2 := asc_eq u2 v2 (key a2 b2 s3 s4)
    have e : fs[i] = fs[j] := Prod.ext e1 e2
    exact ok.nd i j _ ei (by rw [e]; exact ej)
theorem uniq' (ok : FsOk fs) {i j : Nat} (hi : i < fs.length) (hj : j < fs.length) (ci : Gm.Can (val fs i)) (cj : Gm.Can (val fs j)) (h : Gm.eqv (val fs i) (val fs j)) : i = j :=
  uniq ok (i + 1) i j (Nat.lt_succ_self i) hi hj (Gm.can_same ci cj h)
theorem FsOk.add (ok : FsOk fs) {f : Form} (h1 : ∀ j ∈ f.1, j < fs.length) (h2 : ∀ j ∈ f.2, j < fs.length) (u1 : f.1.Pairwise (· < ·)) (u2 : f.2.Pairwise (· < ·)) (n : f ∉ fs) : FsOk (fs ++ [f]) := by
  have split : ∀ (i : Nat) (g : Form), (fs ++ [f])[i]? = some g → fs[i]? = some g ∨ (i = fs.length ∧ g = f) := by
    intro i g h
    rcases Nat.lt_or_ge i fs.length with c | c
    · rw [List.getElem?_append_left c] at h; exact .inl h
    · rw [List.getElem?_append_right c] at h
      cases q : i - fs.length with
      | zero => rw [q] at h; exact .inr ⟨by omega, (Option.some.inj h).symm⟩
      | succ m => rw [q] at h; simp at h
  refine ⟨fun i g h => ?_, fun i g h => ?_, fun i j g hi hj => ?_⟩
  · rcases split i g h with h | ⟨rfl, rfl⟩
    · exact ok.lt i g h
    · exact ⟨h1, h2⟩
  · rcases split i g h with h | ⟨rfl, rfl⟩
    · exact ok.up i g h
    · exact ⟨u1, u2⟩
  · rcases split i g hi with a | ⟨a1, a2⟩ <;> rcases split j g hj with b | ⟨b1, b2⟩
    · exact ok.nd i j g a b
    · exact absurd (b2 ▸ List.mem_of_getElem? a) n
    · exact absurd (a2 ▸ List.mem_of_getElem? b) n
    · omega
/-! ### how deep, how many -/
def cn : Nat → Nat
  | 0 => 1
  | 1 => 1
  | r + 2 => max 1 ((r + 1) * cn r * cn r)
/-- the greatest number of choices of a player -/
def wn : Nat → Nat
  | 0 => 0
  | r + 1 => (r + 1) * cn r
theorem cn_pos : ∀ r, 1 ≤ cn r
  | 0 => Nat.le_refl _
  | 1 => Nat.le_refl _
  | r + 2 => Nat.le_max_left ..
theorem cn_mono : ∀ r, cn r ≤ cn (r + 1)
  | 0 => Nat.le_refl _
  | 1 => Nat.le_max_left ..
  | r + 2 => by
    show max 1 ((r + 1) * cn r * cn r) ≤ max 1 ((r + 2) * cn (r + 1) * cn (r + 1))
    have h := cn_mono r
    have : (r + 1) * cn r * cn r ≤ (r + 2) * cn (r + 1) * cn (r + 1) := Nat.mul_le_mul (Nat.mul_le_mul (by omega) h) h
    omega
theorem wn_mono : ∀ r, wn r ≤ wn (r + 1)
  | 0 => Nat.zero_le _
  | r + 1 => Nat.mul_le_mul (by omega) (cn_mono r)
/-- a form of rank r: so many choices, of less rank -/
def Gd (fs : List Form) : Nat → Nat → Prop
  | 0, i => fs[i]? = some ([], [])
  | r + 1, i => ∃ f, fs[i]? = some f ∧ f.1.length ≤ wn (r + 1) ∧ f.2.length ≤ wn (r + 1) ∧ (∀ j ∈ f.1, Gd fs r j) ∧ ∀ j ∈ f.2, Gd fs r j
theorem Gd.up : ∀ {r i : Nat}, Gd fs r i → Gd fs (r + 1) i
  | 0, i, h => ⟨([], []), h, Nat.zero_le _, Nat.zero_le _, (fun _ z => nomatch z), (fun _ z => nomatch z)⟩
  | r + 1, i, ⟨f, h1, h2, h3, h4, h5⟩ => ⟨f, h1, Nat.le_trans h2 (wn_mono _), Nat.le_trans h3 (wn_mono _), fun j hj => (h4 j hj).up, fun j hj => (h5 j hj).up⟩
theorem Gd.mono {r q i : Nat} (h : Gd fs r i) (l : r ≤ q) : Gd fs q i := by
  induction l with
  | refl => exact h
  | step _ ih => exact ih.up
theorem getElem?_app {gs : List Form} {i : Nat} {f : Form} (h : fs[i]? = some f) : (fs ++ gs)[i]? = some f := by
  rw [List.getElem?_append_left (List.getElem?_eq_some_iff.mp h).1]; exact h
theorem Gd.app {gs : List Form} : ∀ {r i : Nat}, Gd fs r i → Gd (fs ++ gs) r i
  | 0, i, h => getElem?_app h
  | r + 1, i, ⟨f, h1, h2, h3, h4, h5⟩ => ⟨f, getElem?_app h1, h2, h3, fun j hj => (h4 j hj).app, fun j hj => (h5 j hj).app⟩
theorem Gd.lt : ∀ {r i : Nat}, Gd fs r i → i < fs.length
  | 0, i, h => (List.getElem?_eq_some_iff.mp h).1
  | r + 1, i, ⟨f, h1, _⟩ => (List.getElem?_eq_some_iff.mp h1).1
theorem Gd.opt {r i : Nat} {f : Form} (h : Gd fs r i) (e : fs[i]? = some f) {j : Nat} (hj : j ∈ f.1 ∨ j ∈ f.2) : ∃ q, r = q + 1 ∧ Gd fs q j := by
  cases r with
  | zero =>
    rw [show fs[i]? = some ([], []) from h] at e
    cases e
    rcases hj with z | z <;> cases z
  | succ q =>
    obtain ⟨g, h1, h2, h3, h4, h5⟩ := h
    rw [h1] at e
    cases e
    exact ⟨q, rfl, hj.elim (h4 j) (h5 j)⟩
theorem Gd.few {r i : Nat} {f : Form} (h : Gd fs r i) (e : fs[i]? = some f) : f.1.length ≤ wn r ∧ f.2.length ≤ wn r := by
  cases r with
  | zero =>
    rw [show fs[i]? = some ([], []) from h] at e
    cases e
    exact ⟨Nat.le_refl _, Nat.le_refl _⟩
  | succ q =>
    obtain ⟨g, h1, h2, h3, h4, h5⟩ := h
    rw [h1] at e
    cases e
    exact ⟨h2, h3⟩
/-- a form at most r deep -/
def Rk (fs : List Form) : Nat → Nat → Prop
  | 0, i => fs[i]? = some ([], [])
  | r + 1, i => ∃ f, fs[i]? = some f ∧ (∀ j ∈ f.1, Rk fs r j) ∧ ∀ j ∈ f.2, Rk fs r j
theorem Gd.rk : ∀ {r i : Nat}, Gd fs r i → Rk fs r i
  | 0, _, h => h
  | r + 1, i, ⟨f, h1, _, _, h4, h5⟩ => ⟨f, h1, fun j hj => (h4 j hj).rk, fun j hj => (h5 j hj).rk⟩
theorem Rk.lt : ∀ {r i : Nat}, Rk fs r i → i < fs.length
  | 0, i, h => (List.getElem?_eq_some_iff.mp h).1
  | r + 1, i, ⟨f, h1, _⟩ => (List.getElem?_eq_some_iff.mp h1).1
theorem Rk.opt {r i : Nat} {f : Form} (h : Rk fs r i) (e : fs[i]? = some f) {j : Nat} (hj : j ∈ f.1 ∨ j ∈ f.2) : ∃ q, r = q + 1 ∧ Rk fs q j := by
  cases r with
  | zero =>
    rw [show fs[i]? = some ([], []) from h] at e
    cases e
    rcases hj with z | z <;> cases z
  | succ q =>
    obtain ⟨g, h1, h4, h5⟩ := h
    rw [h1] at e
    cases e
    exact ⟨q, rfl, hj.elim (h4 j) (h5 j)⟩
theorem Rk.app {gs : List Form} : ∀ {r i : Nat}, Rk fs r i → Rk (fs ++ gs) r i
  | 0, i, h => getElem?_app h
  | r + 1, i, ⟨f, h1, h4, h5⟩ => ⟨f, getElem?_app h1, fun j hj => (h4 j hj).app, fun j hj => (h5 j hj).app⟩
end
/-! ### one side or the other (false: White's) -/
def optS (s : Bool) (x : Gm) : List Gm := if s then x.R else x.L
def fo (s : Bool) (f : Form) : List Nat := if s then f.2 else f.1
/-- for the player s the one is no better than the other -/
def leS (s : Bool) (x y : Gm) : Prop := if s then Gm.le y x else Gm.le x y
def mkS (s : Bool) (A B : List Gm) : Gm := if s then .mk B A else .mk A B
theorem val_opt {fs : List Form} (ok : FsOk fs) {i : Nat} {f : Form} (e : fs[i]? = some f) (s : Bool) : optS s (val fs i) = (fo s f).map (val fs) := by
  cases s
  · exact val_L ok e
  · exact val_R ok e
theorem bypassS {s : Bool} {A B : List Gm} {o back g : Gm} (h : Gm.eqv (mkS s (o :: A) B) g) (hb : back ∈ optS (!s) o) (hl : leS s back g) : Gm.eqv (mkS s (A ++ optS s back) B) g := by
  cases s
  · exact Gm.bypassL h hb hl
  · exact Gm.bypassR h hb hl
theorem domS {s : Bool} {A A' B : List Gm} (h1 : ∀ a ∈ A', a ∈ A) (h2 : ∀ a ∈ A, ∃ a' ∈ A', leS s a a') : Gm.eqv (mkS s A' B) (mkS s A B) := by
  cases s
  · exact Gm.domL h1 h2
  · exact Gm.domR h1 h2
theorem memS {s : Bool} {A A' B B' : List Gm} (h1 : ∀ g, g ∈ A ↔ g ∈ A') (h2 : ∀ g, g ∈ B ↔ g ∈ B') : Gm.eqv (mkS s A B) (mkS s A' B') := by
  cases s
  · exact Gm.eqv_of_mem h1 h2
  · exact Gm.eqv_of_mem h2 h1
theorem leS_trans {s : Bool} {x y z : Gm} (a : leS s x y) (b : leS s y z) : leS s x z := by
  cases s
  · exact Gm.le_trans (y := y) a b
  · exact Gm.le_trans (y := y) b a
theorem leS_refl (s : Bool) (x : Gm) : leS s x x := by
  cases s <;> exact Gm.le_refl x
theorem leS_eqv {s : Bool} {x y : Gm} (a : leS s x y) (b : leS s y x) : Gm.eqv x y := by
  cases s
  · exact ⟨a, b⟩
  · exact ⟨b, a⟩
/-- among few things there is a greatest one above each -/
theorem most_above {α : Type} [DecidableEq α] (r : α → α → Prop) (rt : ∀ x y z, r x y → r y z → r x z) : ∀ (n : Nat) (l : List α), l.length ≤ n → (∀ x ∈ l, ∀ y ∈ l, r x y → r y x → x = y) → ∀ x ∈ l, ∃ y ∈ l, (x = y ∨ r x y) ∧ ∀ z ∈ l, z ≠ y → ¬ r y z
  | 0, l, h, _, x, hx => by
    have : l = [] := List.eq_nil_of_length_eq_zero (by omega)
    rw [this] at hx; cases hx
  | n + 1, l, h, an, x, hx => by
    by_cases c : ∃ z ∈ l, z ≠ x ∧ r x z
    · obtain ⟨z, hz, ne, hr⟩ := c
      have hl := List.length_erase_of_mem hx
      have hp := List.length_pos_of_mem hx
      have sub : ∀ y ∈ l.erase x, y ∈ l := fun y hy => List.mem_of_mem_erase hy
      obtain ⟨y, hy, h1, h2⟩ := most_above r rt n (l.erase x) (by omega) (fun a ha b hb => an a (sub a ha) b (sub b hb)) z ((List.mem_erase_of_ne ne).mpr hz)
      have xy : r x y := by
        rcases h1 with rfl | h1
        · exact hr
        · exact rt _ _ _ hr h1
      refine ⟨y, sub y hy, .inr xy, fun u hu nu ru => ?_⟩
      by_cases ux : u = x
      · subst ux
        exact nu (an u hu y (sub y hy) xy ru)
      · exact h2 u ((List.mem_erase_of_ne ux).mpr hu) nu ru
    · exact ⟨x, hx, .inl rfl, fun z hz nz hr => c ⟨z, hz, nz, hr⟩⟩
end Sv

/-! ### options answered back, options beaten -/
namespace Sv
def mm : Nat → Nat
  | 0 => 1
  | 1 => 1
  | r + 2 => 1 + wn (r + 1) * mm r
theorem mm_pos : ∀ r, 1 ≤ mm r
  | 0 => Nat.le_refl _
  | 1 => Nat.le_refl _
  | r + 2 => Nat.le_add_right ..
theorem fo_mem {s : Bool} {f : Form} {j : Nat} (h : j ∈ fo s f) : j ∈ f.1 ∨ j ∈ f.2 := by
  cases s
  · exact .inl h
  · exact .inr h
/-- what an answered option is replaced by -/
theorem back_pot {fs : List Form} {s : Bool} {q o r : Nat} {f g : Form} (h : Gd fs q o) (ef : fs[o]? = some f) (hr : r ∈ fo (!s) f) (eg : fs[r]? = some g) :
    ∃ q2, (∀ x ∈ fo s g, Gd fs q2 x) ∧ q2 ≤ q ∧ (fo s g).length * cn q2 ≤ cn q ∧ (fo s g).length * mm q2 < mm q := by
  obtain ⟨q1, rfl, h1⟩ := h.opt ef (fo_mem hr)
  have few := h1.few eg
  have few : (fo s g).length ≤ wn q1 := by
    cases s
    · exact few.1
    · exact few.2
  cases q1 with
  | zero =>
    have e : (fo s g).length = 0 := Nat.le_zero.mp few
    have e2 : fo s g = [] := List.eq_nil_of_length_eq_zero e
    refine ⟨0, fun x hx => (by rw [e2] at hx; cases hx), Nat.zero_le _, ?_, ?_⟩
    · rw [e, Nat.zero_mul]; exact Nat.zero_le _
    · rw [e, Nat.zero_mul]; exact mm_pos _
  | succ q2 =>
    refine ⟨q2, fun x hx => ?_, by omega, ?_, ?_⟩
    · obtain ⟨q3, e, h3⟩ := h1.opt eg (fo_mem hx)
      cases e
      exact h3
    · show _ ≤ max 1 ((q2 + 1) * cn q2 * cn q2)
      exact Nat.le_trans (Nat.mul_le_mul_right _ few) (Nat.le_max_right ..)
    · show _ < 1 + wn (q2 + 1) * mm q2
      have := Nat.mul_le_mul_right (mm q2) few
      omega
/-- options still to be looked at, with their ranks -/
abbrev Lf := List (Nat × Nat)
def pot (l : Lf) : Nat := (l.map fun p => cn p.2).sum
def mea (l : Lf) : Nat := (l.map fun p => mm p.2).sum
theorem pot_cons (p : Nat × Nat) (l : Lf) : pot (p :: l) = cn p.2 + pot l := rfl
theorem mea_cons (p : Nat × Nat) (l : Lf) : mea (p :: l) = mm p.2 + mea l := rfl
theorem pot_app (l m : Lf) : pot (l ++ m) = pot l + pot m := by unfold pot; rw [List.map_append, List.sum_append]
theorem mea_app (l m : Lf) : mea (l ++ m) = mea l + mea m := by unfold mea; rw [List.map_append, List.sum_append]
theorem pot_same (xs : List Nat) (q : Nat) : pot (xs.map fun x => (x, q)) = xs.length * cn q := by
  induction xs with
  | nil => show 0 = 0 * cn q; rw [Nat.zero_mul]
  | cons x xs ih => rw [List.map_cons, pot_cons, ih, List.length_cons, Nat.add_mul]; show cn q + _ = _; omega
theorem mea_same (xs : List Nat) (q : Nat) : mea (xs.map fun x => (x, q)) = xs.length * mm q := by
  induction xs with
  | nil => show 0 = 0 * mm q; rw [Nat.zero_mul]
  | cons x xs ih => rw [List.map_cons, mea_cons, ih, List.length_cons, Nat.add_mul]; show mm q + _ = _; omega
theorem pot_len (l : Lf) : l.length ≤ pot l := by
  induction l with
  | nil => exact Nat.zero_le _
  | cons p l ih => rw [pot_cons, List.length_cons]; have := cn_pos p.2; omega
theorem fst_same (xs : List Nat) (q : Nat) : (xs.map fun x => (x, q)).map (·.1) = xs := by
  induction xs with
  | nil => rfl
  | cons x xs ih => rw [List.map_cons, List.map_cons, ih]
/-- the choices of a player among the forms are least forms themselves -/
theorem can_opt {fs : List Form} (ok : FsOk fs) {i : Nat} {f : Form} (e : fs[i]? = some f) (c : Gm.Can (val fs i)) {s : Bool} {j : Nat} (hj : j ∈ fo s f) : Gm.Can (val fs j) := by
  rw [Gm.can_iff] at c
  obtain ⟨_, _, _, _, c5, c6⟩ := c
  cases s
  · exact c5 _ (by rw [val_L ok e]; exact List.mem_map.mpr ⟨j, hj, rfl⟩)
  · exact c6 _ (by rw [val_R ok e]; exact List.mem_map.mpr ⟨j, hj, rfl⟩)
/-- none of the player's s option o can be answered back -/
def NoBack (fs : List Form) (s : Bool) (wh o : Nat) : Prop := ∀ r ∈ optS (!s) (val fs o), ¬ leS s r (val fs wh)
/-- the state of the looking -/
structure PlSt (fs : List Form) (s : Bool) (wh r N : Nat) (os fd : List Nat) (lf : Lf) : Prop where
  hlf : ∀ p ∈ lf, Gd fs p.2 p.1 ∧ p.2 ≤ r ∧ Gm.Can (val fs p.1)
  hfd : ∀ o ∈ fd, Gd fs r o ∧ Gm.Can (val fs o) ∧ NoBack fs s wh o
  few : fd.length + pot lf ≤ N
  eqv : ∀ B, Gm.eqv (mkS s (os.map (val fs)) B) (val fs wh) → Gm.eqv (mkS s ((fd ++ lf.map (·.1)).map (val fs)) B) (val fs wh)
theorem PlSt.start {fs : List Form} {s : Bool} {wh r : Nat} {os : List Nat} (h : ∀ o ∈ os, Gd fs r o ∧ Gm.Can (val fs o)) : PlSt fs s wh r (os.length * cn r) os [] (os.map fun x => (x, r)) := by
  refine ⟨fun p hp => ?_, (fun _ z => nomatch z), ?_, fun B h => ?_⟩
  · obtain ⟨x, hx, rfl⟩ := List.mem_map.mp hp
    exact ⟨(h x hx).1, Nat.le_refl _, (h x hx).2⟩
  · rw [pot_same, List.length_nil]; omega
  · rw [fst_same]; exact h
theorem PlSt.found {fs : List Form} {s : Bool} {wh r N o q : Nat} {os fd : List Nat} {lf : Lf} (h : PlSt fs s wh r N os fd ((o, q) :: lf)) (n : NoBack fs s wh o) : PlSt fs s wh r N os (fd ++ [o]) lf := by
  obtain ⟨h1, h2, h3, h4⟩ := h
  refine ⟨fun p hp => h1 p (List.mem_cons_of_mem _ hp), fun x hx => ?_, ?_, fun B hB => ?_⟩
  · rcases List.mem_append.mp hx with hx | hx
    · exact h2 x hx
    · rw [List.mem_singleton.mp hx]
      obtain ⟨a, b, c⟩ := h1 (o, q) List.mem_cons_self
      exact ⟨a.mono b, c, n⟩
  · rw [pot_cons] at h3
    have := cn_pos q
    rw [List.length_append, List.length_singleton]
    have h3 : fd.length + (cn q + pot lf) ≤ N := h3
    omega
  · have := h4 B hB
    rw [List.append_assoc]; exact this
theorem PlSt.back {fs : List Form} {s : Bool} {wh r N o q b : Nat} {f g : Form} {os fd : List Nat} {lf : Lf} (ok : FsOk fs) (h : PlSt fs s wh r N os fd ((o, q) :: lf)) (ef : fs[o]? = some f) (hb : b ∈ fo (!s) f) (eg : fs[b]? = some g) (hl : leS s (val fs b) (val fs wh)) :
    ∃ q2, PlSt fs s wh r N os fd (lf ++ (fo s g).map fun x => (x, q2)) ∧ mea (lf ++ (fo s g).map fun x => (x, q2)) < mea ((o, q) :: lf) := by
  obtain ⟨h1, h2, h3, h4⟩ := h
  obtain ⟨a, a2, a3⟩ := h1 (o, q) List.mem_cons_self
  obtain ⟨q2, g1, g2, g3, g4⟩ := back_pot (q := q) a ef hb eg
  have cb := can_opt ok ef a3 hb
  refine ⟨q2, ⟨fun p hp => ?_, h2, ?_, fun B hB => ?_⟩, ?_⟩
  · rcases List.mem_append.mp hp with hp | hp
    · exact h1 p (List.mem_cons_of_mem _ hp)
    · obtain ⟨x, hx, rfl⟩ := List.mem_map.mp hp
      exact ⟨g1 x hx, Nat.le_trans g2 a2, can_opt ok eg cb hx⟩
  · have h3 : fd.length + (cn q + pot lf) ≤ N := h3
    rw [pot_app, pot_same]
    omega
  · have e := h4 B hB
    have e2 : Gm.eqv (mkS s (val fs o :: (fd ++ lf.map (·.1)).map (val fs)) B) (val fs wh) := by
      refine Gm.eqv.trans (memS (fun x => ?_) (fun x => Iff.rfl)) e
      rw [List.map_append, List.map_append, List.map_cons, List.map_cons]
      simp only [List.mem_cons, List.mem_append]
      constructor
      · rintro (h | h | h)
        · exact .inr (.inl h)
        · exact .inl h
        · exact .inr (.inr h)
      · rintro (h | h | h)
        · exact .inr (.inl h)
        · exact .inl h
        · exact .inr (.inr h)
    have e3 := bypassS e2 (by rw [val_opt ok ef]; exact List.mem_map.mpr ⟨b, hb, rfl⟩) hl
    rw [val_opt ok eg, ← List.map_append, List.append_assoc] at e3
    rwa [List.map_append (f := fun p : Nat × Nat => p.1), fst_same]
  · rw [mea_cons, mea_app, mea_same]
    show mea lf + (fo s g).length * mm q2 < mm q + mea lf
    omega
/-! ### beaten ones -/
noncomputable def leSB (s : Bool) (x y : Gm) : Bool := @decide (leS s x y) (Classical.propDecidable _)
theorem leSB_iff {s : Bool} {x y : Gm} : leSB s x y = true ↔ leS s x y := by
  unfold leSB
  exact ⟨@of_decide_eq_true _ (Classical.propDecidable _), @decide_eq_true _ (Classical.propDecidable _)⟩
noncomputable def bestIs (fs : List Form) (s : Bool) (os : List Nat) (o : Nat) : Bool := !((os.filter fun x => x != o).any fun x => leSB s (val fs o) (val fs x))
noncomputable def bestL (fs : List Form) (s : Bool) (os : List Nat) : List Nat := os.filter (bestIs fs s os)
theorem best_iff {fs : List Form} {s : Bool} {os : List Nat} {o : Nat} : o ∈ bestL fs s os ↔ o ∈ os ∧ ∀ x ∈ os, x ≠ o → ¬ leS s (val fs o) (val fs x) := by
  unfold bestL
  rw [List.mem_filter]
  unfold bestIs
  rw [Bool.not_eq_true', List.any_eq_false]
  constructor
  · rintro ⟨h, h2⟩
    exact ⟨h, fun x hx n l => h2 x (List.mem_filter.mpr ⟨hx, by simpa using n⟩) (leSB_iff.mpr l)⟩
  · rintro ⟨h, h2⟩
    refine ⟨h, fun x hx l => ?_⟩
    obtain ⟨a, b⟩ := List.mem_filter.mp hx
    exact h2 x a (by simpa using b) (leSB_iff.mp l)
theorem best_eqv {fs : List Form} (ok : FsOk fs) {s : Bool} {os : List Nat} (hc : ∀ o ∈ os, o < fs.length ∧ Gm.Can (val fs o)) (B : List Gm) : Gm.eqv (mkS s ((bestL fs s os).map (val fs)) B) (mkS s (os.map (val fs)) B) := by
  refine domS (fun a ha => ?_) fun a ha => ?_
  · obtain ⟨o, ho, rfl⟩ := List.mem_map.mp ha
    exact List.mem_map.mpr ⟨o, (best_iff.mp ho).1, rfl⟩
  · obtain ⟨o, ho, rfl⟩ := List.mem_map.mp ha
    obtain ⟨y, hy, h1, h2⟩ := most_above (fun x y => leS s (val fs x) (val fs y)) (fun x y z => leS_trans) os.length os (Nat.le_refl _) (fun x hx y hy a b => uniq' ok (hc x hx).1 (hc y hy).1 (hc x hx).2 (hc y hy).2 (leS_eqv a b)) o ho
    refine ⟨_, List.mem_map.mpr ⟨y, best_iff.mpr ⟨hy, h2⟩, rfl⟩, ?_⟩
    rcases h1 with rfl | h1
    · exact leS_refl ..
    · exact h1
/-- what the least form is made of -/
structure BestOf (fs : List Form) (s : Bool) (wh r : Nat) (ps : List Nat) : Prop where
  all : ∀ o ∈ ps, Gd fs r o ∧ Gm.Can (val fs o) ∧ NoBack fs s wh o
  best : ∀ a ∈ ps, ∀ b ∈ ps, leS s (val fs a) (val fs b) → a = b
theorem bestOf {fs : List Form} {s : Bool} {wh r : Nat} {os : List Nat} (h : ∀ o ∈ os, Gd fs r o ∧ Gm.Can (val fs o) ∧ NoBack fs s wh o) : BestOf fs s wh r (bestL fs s os) := by
  refine ⟨fun o ho => h o (best_iff.mp ho).1, fun a ha b hb l => ?_⟩
  by_cases c : b = a
  · exact c.symm
  · exact absurd l ((best_iff.mp ha).2 b (best_iff.mp hb).1 c)
theorem least_can {fs : List Form} {wh r : Nat} {ps qs : List Nat} (h1 : BestOf fs false wh r ps) (h2 : BestOf fs true wh r qs) (e : Gm.eqv (.mk (ps.map (val fs)) (qs.map (val fs))) (val fs wh)) : Gm.Can (.mk (ps.map (val fs)) (qs.map (val fs))) := by
  rw [Gm.can_iff]
  refine ⟨fun a ha b hb l => ?_, fun a ha b hb l => ?_, fun l hl r hr c => ?_, fun r hr l hl c => ?_, fun l hl => ?_, fun l hl => ?_⟩
  · obtain ⟨x, hx, rfl⟩ := List.mem_map.mp ha
    obtain ⟨y, hy, rfl⟩ := List.mem_map.mp hb
    rw [h1.best x hx y hy l]
  · obtain ⟨x, hx, rfl⟩ := List.mem_map.mp ha
    obtain ⟨y, hy, rfl⟩ := List.mem_map.mp hb
    rw [h2.best y hy x hx l]
  · obtain ⟨x, hx, rfl⟩ := List.mem_map.mp hl
    exact (h1.all x hx).2.2 r hr (Gm.le_trans c e.1)
  · obtain ⟨x, hx, rfl⟩ := List.mem_map.mp hr
    exact (h2.all x hx).2.2 l hl (Gm.le_trans e.2 c)
  · obtain ⟨x, hx, rfl⟩ := List.mem_map.mp hl
    exact (h1.all x hx).2.1
  · obtain ⟨x, hx, rfl⟩ := List.mem_map.mp hl
    exact (h2.all x hx).2.1
end Sv

set_option maxHeartbeats 4000000
namespace Sv
open PySem PySem.Spec PyProof.Rows L2 L2H HotX LamX
/-! ### what rows of cuts lead to: at most 2^m bushes -/
def sKeep (s : Int × Col) (st : List (Option Nat) × Bsh) : List (List (Option Nat) × Bsh) := match nameOf st.1 s.1 with
  | none => []
  | some j => [(st.1 ++ [some st.2.length], st.2 ++ [(j, s.2)])]
def sSt (b : Bsh) : Nat → List (List (Option Nat) × Bsh)
  | 0 => [([], [])]
  | i + 1 => match b[i]? with
    | none => sSt b i
    | some s => (sSt b i).flatMap fun st => (st.1 ++ [none], st.2) :: sKeep s st
def subsB (b : Bsh) : List Bsh := (sSt b b.length).map (·.2)
theorem sSt_succ {b : Bsh} {i : Nat} {s : Int × Col} (h : b[i]? = some s) : sSt b (i + 1) = (sSt b i).flatMap fun st => (st.1 ++ [none], st.2) :: sKeep s st := by
  show (match b[i]? with | none => sSt b i | some s => (sSt b i).flatMap fun (st : List (Option Nat) × Bsh) => (st.1 ++ [none], st.2) :: sKeep s st) = _
  rw [h]
theorem sSt_cases {b : Bsh} {i : Nat} {s : Int × Col} (h : b[i]? = some s) {st : List (Option Nat) × Bsh} : st ∈ sSt b (i + 1) ↔ ∃ u ∈ sSt b i, st = (u.1 ++ [none], u.2) ∨ ∃ j, nameOf u.1 s.1 = some j ∧ st = (u.1 ++ [some u.2.length], u.2 ++ [(j, s.2)]) := by
  rw [sSt_succ h, List.mem_flatMap]
  constructor
  · rintro ⟨u, hu, h⟩
    refine ⟨u, hu, ?_⟩
    rcases List.mem_cons.mp h with h | h
    · exact .inl h
    · unfold sKeep at h
      cases e : nameOf u.1 s.1 with
      | none => rw [e] at h; cases h
      | some j => rw [e] at h; exact .inr ⟨j, rfl, List.mem_singleton.mp h⟩
  · rintro ⟨u, hu, h⟩
    refine ⟨u, hu, ?_⟩
    rcases h with h | ⟨j, e, h⟩
    · exact List.mem_cons.mpr (.inl h)
    · refine List.mem_cons.mpr (.inr ?_)
      unfold sKeep
      rw [e]
      exact List.mem_singleton.mpr h
theorem sSt_num (b : Bsh) : ∀ i, i ≤ b.length → (sSt b i).length ≤ 2 ^ i
  | 0, _ => Nat.le_refl _
  | i + 1, h => by
    have ih := sSt_num b i (by omega)
    rw [sSt_succ (List.getElem?_eq_getElem (show i < b.length by omega))]
    have := flat_len (fun st => (st.1 ++ [none], st.2) :: sKeep b[i] st) 2 (sSt b i) fun st _ => by
      unfold sKeep
      split <;> simp
    rw [Nat.pow_succ]
    omega
theorem subs_num (b : Bsh) : (subsB b).length ≤ 2 ^ b.length := by
  unfold subsB
  rw [List.length_map]
  exact sSt_num b _ (Nat.le_refl _)
theorem wSt_sub (b : Bsh) (n : Nat) : ∀ i, i ≤ b.length → wSt b n i ∈ sSt b i
  | 0, _ => List.mem_singleton.mpr rfl
  | i + 1, h => by
    have e := List.getElem?_eq_getElem (show i < b.length by omega)
    rw [sSt_cases e, wSt_succ e]
    refine ⟨_, wSt_sub b n i (by omega), ?_⟩
    unfold wStep
    split
    · exact .inl rfl
    · cases q : nameOf (wSt b n i).1 (b[i]).1 with
      | none => exact .inl rfl
      | some j => exact .inr ⟨j, rfl, rfl⟩
theorem subs_without (b : Bsh) (n : Nat) : withoutB b n ∈ subsB b := List.mem_map.mpr ⟨_, wSt_sub b n _ (Nat.le_refl _), rfl⟩
theorem subs_self {b : Bsh} (hb : BushLo b) : b ∈ subsB b := by
  have := subs_without b b.length
  rwa [without_none hb (Nat.le_refl _)] at this
theorem sSt_ok {b : Bsh} (hb : BushLo b) : ∀ i, i ≤ b.length → ∀ st ∈ sSt b i, st.1.length = i ∧ st.2.length ≤ i ∧ (∀ (k j : Nat), st.1[k]? = some (some j) → j < st.2.length) ∧ ∀ (k : Nat) (s : Int × Col), st.2[k]? = some s → -1 ≤ s.1 ∧ s.1 < k
  | 0, _, st, h => by
    rw [List.mem_singleton.mp h]
    exact ⟨rfl, Nat.le_refl _, fun _ _ z => by simp at z, fun _ _ z => by simp at z⟩
  | i + 1, h, st, hst => by
    have e := List.getElem?_eq_getElem (show i < b.length by omega)
    have hlo := hb.low i _ e
    obtain ⟨u, hu, c⟩ := (sSt_cases e).mp hst
    obtain ⟨h1, h2, h3, h4⟩ := sSt_ok hb i (by omega) u hu
    rcases c with rfl | ⟨j, ej, rfl⟩
    · refine ⟨by simp [h1], by simp; omega, fun k j q => ?_, h4⟩
      rcases Nat.lt_or_ge k u.1.length with c | c
      · rw [List.getElem?_append_left c] at q
        exact h3 k j q
      · rw [List.getElem?_append_right c] at q
        cases e2 : k - u.1.length with
        | zero => rw [e2] at q; cases q
        | succ m => rw [e2] at q; simp at q
    · refine ⟨by simp [h1], by simp; omega, fun k m q => ?_, fun k s q => ?_⟩
      · show m < (u.2 ++ [(j, b[i].2)]).length
        rw [List.length_append, List.length_singleton]
        rcases Nat.lt_or_ge k u.1.length with c | c
        · rw [List.getElem?_append_left c] at q
          have := h3 k m q
          omega
        · rw [List.getElem?_append_right c] at q
          cases e2 : k - u.1.length with
          | zero => rw [e2] at q; cases q; omega
          | succ m => rw [e2] at q; simp at q
      · have q : (u.2 ++ [(j, b[i].2)])[k]? = some s := q
        rcases Nat.lt_or_ge k u.2.length with c | c
        · rw [List.getElem?_append_left c] at q
          exact h4 k s q
        · rw [List.getElem?_append_right c] at q
          cases e2 : k - u.2.length with
          | zero =>
            rw [e2] at q
            cases q
            show -1 ≤ j ∧ j < k
            unfold nameOf at ej
            split at ej
            · cases ej; exact ⟨Int.le_refl _, by omega⟩
            · rw [List.getD_eq_getElem?_getD] at ej
              cases q2 : u.1[(b[i].1).toNat]? with
              | none => rw [q2] at ej; cases ej
              | some o =>
                rw [q2] at ej
                cases o with
                | none => cases ej
                | some m =>
                  have ej : some (m : Int) = some j := ej
                  cases ej
                  have := h3 _ _ q2
                  omega
          | succ m => rw [e2] at q; simp at q
theorem subs_ok {b c : Bsh} (hb : BushLo b) (h : c ∈ subsB b) : BushLo c ∧ c.length ≤ b.length := by
  obtain ⟨st, hst, rfl⟩ := List.mem_map.mp h
  obtain ⟨h1, h2, h3, h4⟩ := sSt_ok hb _ (Nat.le_refl _) st hst
  exact ⟨⟨Nat.le_trans h2 hb.len, h4⟩, h2⟩
/-- names of names -/
def nn (N M : List (Option Nat)) : List (Option Nat) := N.map fun o => o.bind fun j => M.getD j none
theorem nameOf_nn {N M : List (Option Nat)} {below j : Int} (h : nameOf N below = some j) (h0 : -1 ≤ j) : nameOf (nn N M) below = nameOf M j := by
  unfold nameOf at h ⊢
  split at h
  · cases h
    rw [if_pos (by assumption), if_pos (by decide)]
  · rename_i c
    rw [if_neg c]
    rw [List.getD_eq_getElem?_getD] at h ⊢
    unfold nn
    rw [List.getElem?_map]
    cases q : N[below.toNat]? with
    | none => rw [q] at h; cases h
    | some o =>
      rw [q] at h
      cases o with
      | none => cases h
      | some m =>
        have h : some (m : Int) = some j := h
        cases h
        rw [if_neg (by omega)]
        rfl
theorem nameOf_none {N M : List (Option Nat)} {below : Int} (h : nameOf N below = none) : nameOf (nn N M) below = none := by
  unfold nameOf at h ⊢
  split at h
  · cases h
  · rename_i c
    rw [if_neg c]
    rw [List.getD_eq_getElem?_getD] at h ⊢
    unfold nn
    rw [List.getElem?_map]
    cases q : N[below.toNat]? with
    | none => rfl
    | some o =>
      rw [q] at h
      cases o with
      | none => rfl
      | some m => cases h
theorem nn_snoc {N M : List (Option Nat)} {x : Option Nat} {n : Nat} (hN : ∀ (k j : Nat), N[k]? = some (some j) → j < n) (hM : M.length = n) : nn N (M ++ [x]) = nn N M := by
  unfold nn
  refine List.map_congr_left fun o ho => ?_
  cases o with
  | none => rfl
  | some j =>
    obtain ⟨k, hk⟩ := List.mem_iff_getElem?.mp ho
    have := hN k j hk
    show (M ++ [x]).getD j none = M.getD j none
    rw [List.getD_eq_getElem?_getD, List.getD_eq_getElem?_getD, List.getElem?_append_left (by omega)]
theorem nn_app {N M : List (Option Nat)} {o : Option Nat} : nn (N ++ [o]) M = nn N M ++ [o.bind fun j => M.getD j none] := by
  unfold nn
  rw [List.map_append]; rfl
theorem sSt_cut {b : Bsh} (hb : BushLo b) (n : Nat) : ∀ i, i ≤ b.length → ∀ st ∈ sSt b i, (nn st.1 (wSt st.2 n st.2.length).1, (wSt st.2 n st.2.length).2) ∈ sSt b i
  | 0, _, st, h => by
    rw [List.mem_singleton.mp h]
    exact List.mem_singleton.mpr rfl
  | i + 1, h, st, hst => by
    have e := List.getElem?_eq_getElem (show i < b.length by omega)
    obtain ⟨u, hu, c⟩ := (sSt_cases e).mp hst
    have ih := sSt_cut hb n i (by omega) u hu
    obtain ⟨h1, h2, h3, h4⟩ := sSt_ok hb i (by omega) u hu
    rw [sSt_cases e]
    refine ⟨_, ih, ?_⟩
    have hl := (wSt_len (b := u.2) (n := n) u.2.length (Nat.le_refl _)).1
    rcases c with rfl | ⟨j, ej, rfl⟩
    · refine .inl ?_
      show (nn (u.1 ++ [none]) _, _) = _
      rw [nn_app]; rfl
    · have h0 : -1 ≤ j := by
        have := (sSt_ok hb (i + 1) h _ hst).2.2.2 u.2.length (j, b[i].2) (by simp)
        exact this.1
      have e1 : (u.2 ++ [(j, b[i].2)])[u.2.length]? = some (j, b[i].2) := by simp
      have el : (u.2 ++ [(j, b[i].2)]).length = u.2.length + 1 := by simp
      show (nn (u.1 ++ [some u.2.length]) (wSt (u.2 ++ [(j, b[i].2)]) n (u.2 ++ [(j, b[i].2)]).length).1, (wSt (u.2 ++ [(j, b[i].2)]) n (u.2 ++ [(j, b[i].2)]).length).2) = _ ∨ _
      rw [el, wSt_succ e1, wSt_append _ (Nat.le_refl _)]
      generalize wSt u.2 n u.2.length = W at hl ⊢
      have lastM : ∀ x : Option Nat, (some u.2.length).bind (fun j => (W.1 ++ [x]).getD j none) = x := fun x => by
        show (W.1 ++ [x]).getD u.2.length none = x
        rw [List.getD_eq_getElem?_getD, ← hl]
        simp
      unfold wStep
      split
      · refine .inl ?_
        show (nn (u.1 ++ [some u.2.length]) (W.1 ++ [none]), W.2) = _
        rw [nn_app, lastM, nn_snoc h3 hl]
      · cases q : nameOf W.1 j with
        | none =>
          refine .inl ?_
          show (nn (u.1 ++ [some u.2.length]) (W.1 ++ [none]), W.2) = _
          rw [nn_app, lastM, nn_snoc h3 hl]
        | some m =>
          refine .inr ⟨m, by rw [← q]; exact nameOf_nn ej h0, ?_⟩
          show (nn (u.1 ++ [some u.2.length]) (W.1 ++ [some W.2.length]), W.2 ++ [(m, b[i].2)]) = _
          rw [nn_app, lastM, nn_snoc h3 hl]
theorem subs_cut {b c : Bsh} (hb : BushLo b) (h : c ∈ subsB b) (n : Nat) : withoutB c n ∈ subsB b := by
  obtain ⟨st, hst, rfl⟩ := List.mem_map.mp h
  exact List.mem_map.mpr ⟨_, sSt_cut hb n _ (Nat.le_refl _) st hst, rfl⟩
end Sv

set_option maxHeartbeats 4000000
namespace Sv
open PySem PySem.Spec PyProof.Rows L2 L2H HotX LamX
/-! ### a book of forms -/
def fldsB : List Str := ["numbers", "forms", "known", "bushes"]
/-- where a book and what belongs to it lie -/
structure Bx where
  x : Addr
  dx : Addr
  an : Addr
  af : Addr
  ak : Addr
  ab : Addr
def bf (B : Bx) : List (Str × V) := [("numbers", .ref B.an), ("forms", .ref B.af), ("known", .ref B.ak), ("bushes", .ref B.ab)]
theorem bf_no (B : Bx) {m : Str} (h : (fldsB.contains m) = false) : (bf B).lookup m = none := by
  have h1 : ∀ f ∈ fldsB, (m == f) = false := fun f hf => by
    cases q : m == f with
    | false => rfl
    | true =>
      rw [eq_of_beq q, List.contains_iff_mem.mpr hf] at h
      cases h
  unfold bf
  rw [List.lookup_cons, h1 _ (by decide), List.lookup_cons, h1 _ (by decide), List.lookup_cons, h1 _ (by decide), List.lookup_cons, h1 _ (by decide)]
  rfl
def natD (n : Nat) : PyData := .int n
def formD (f : Form) : PyData := .tuple [.tuple (f.1.map natD), .tuple (f.2.map natD)]
def pairD (i j : Nat) : PyData := .tuple [natD i, natD j]
theorem pl_nats : ∀ l : List Nat, plAll (l.map natD) = true
  | [] => rfl
  | n :: l => by rw [List.map_cons, plAll, pl_nats l]; rfl
theorem natD_inj {l m : List Nat} (h : l.map natD = m.map natD) : l = m := by
  induction l generalizing m with
  | nil =>
    cases m with
    | nil => rfl
    | cons y m => simp at h
  | cons x l ih =>
    cases m with
    | nil => simp at h
    | cons y m =>
      simp only [List.map_cons, List.cons.injEq] at h
      have e : (x : Int) = (y : Int) := PyData.int.inj h.1
      rw [ih h.2, show x = y by omega]
theorem depth_nats : ∀ l : List Nat, PyData.depthAll (l.map natD) = 0
  | [] => rfl
  | n :: l => by rw [List.map_cons, PyData.depthAll, depth_nats l]; rfl
theorem pl_form (f : Form) : pl (formD f) = true := by
  show (plAll (f.1.map natD) && (plAll (f.2.map natD) && true)) = true
  rw [pl_nats, pl_nats]; rfl
theorem form_depth (f : Form) : (formD f).depth ≤ 8 := by
  show max (PyData.depthAll (f.1.map natD) + 1) (max (PyData.depthAll (f.2.map natD) + 1) 0) + 1 ≤ 8
  rw [depth_nats, depth_nats]; decide
theorem form_inj {f g : Form} (h : nk (formD f) = nk (formD g)) : f = g := by
  have h := nk_inj _ _ (pl_form _) (pl_form _) h
  have h := PyData.tuple.inj h
  simp only [List.cons.injEq, and_true] at h
  exact Prod.ext (natD_inj (PyData.tuple.inj h.1)) (natD_inj (PyData.tuple.inj h.2))
theorem pair_depth (i j : Nat) : (pairD i j).depth ≤ 8 := by
  show max 0 (max 0 0) + 1 ≤ 8
  decide
theorem pair_inj {i j i' j' : Nat} (h : nk (pairD i j) = nk (pairD i' j')) : i = i' ∧ j = j' := by
  have h := nk_inj (pairD i j) (pairD i' j') rfl rfl h
  have h := PyData.tuple.inj h
  simp only [List.cons.injEq, and_true] at h
  have e1 : (i : Int) = (i' : Int) := PyData.int.inj h.1
  have e2 : (j : Int) = (j' : Int) := PyData.int.inj h.2
  omega
/-- all but what belongs to the book stays -/
def MvB (B : Bx) (H H' : Hp) : Prop := ∀ b o, H b = some o → b ≠ B.an → b ≠ B.af → b ≠ B.ak → b ≠ B.ab → H' b = some o
theorem MvB.refl (B : Bx) (H : Hp) : MvB B H H := fun _ _ e _ _ _ _ => e
theorem MvB.trans {B : Bx} {H H1 H2 : Hp} (x : MvB B H H1) (y : MvB B H1 H2) : MvB B H H2 := fun b o e n1 n2 n3 n4 => y b o (x b o e n1 n2 n3 n4) n1 n2 n3 n4
theorem MvB.of_same {B : Bx} {H H' : Hp} (s : Same H H') : MvB B H H' := fun b o e _ _ _ _ => s b o e
theorem MvB.same {B : Bx} {H H1 H2 : Hp} (x : MvB B H H1) (y : Same H1 H2) : MvB B H H2 := x.trans (MvB.of_same y)
/-- the book at B in the heap -/
structure BookAt (P : Program) (w : World) (K : PySem.W.Frag) (CB : Addr) (H : Hp) (B : Bx) (fs : List Form) (Dn Dk Db : NestedKey → Option V) : Prop where
  ins : H B.x = some (.ins CB B.dx (bf B))
  num : NDat P w K H B.an Dn
  lst : ∃ vs, H B.af = some (.lst vs) ∧ AtAll K H vs (fs.map formD)
  kn : NDat P w K H B.ak Dk
  bu : NDat P w K H B.ab Db
  ne1 : B.an ≠ B.ak
  ne2 : B.an ≠ B.ab
  ne3 : B.ak ≠ B.ab
/-- what stands in the book is right -/
structure BkOk (fs : List Form) (Dn Dk : NestedKey → Option V) : Prop where
  ok : FsOk fs
  num1 : ∀ k v, Dn k = some v → ∃ (i : Nat) (f : Form), fs[i]? = some f ∧ k = nk (formD f) ∧ v = .int i
  num2 : ∀ (i : Nat) (f : Form), fs[i]? = some f → Dn (nk (formD f)) = some (.int i)
  kn : ∀ k v, Dk k = some v → ∃ (i j : Nat) (b : Bool), k = nk (pairD i j) ∧ i < fs.length ∧ j < fs.length ∧ v = .bl b ∧ (b = true ↔ Gm.le (val fs i) (val fs j))
def BInv (P : Program) (w : World) (K : PySem.W.Frag) (CB : Addr) (H : Hp) (B : Bx) (fs : List Form) (Db : NestedKey → Option V) : Prop := ∃ Dn Dk, BookAt P w K CB H B fs Dn Dk Db ∧ BkOk fs Dn Dk
section
variable {P : Program} {w : World} {K : PySem.W.Frag} {CB : Addr} {H H' : Hp} {B : Bx} {fs : List Form} {Dn Dk Db : NestedKey → Option V}
theorem BookAt.keep (h : BookAt P w K CB H B fs Dn Dk Db) (k : ∀ b o, b = B.x ∨ b = B.an ∨ b = B.af ∨ b = B.ak ∨ b = B.ab → H b = some o → H' b = some o) (x : Ext H H') : BookAt P w K CB H' B fs Dn Dk Db := by
  have kk : ∀ {a : Addr} {D : NestedKey → Option V}, (a = B.x ∨ a = B.an ∨ a = B.af ∨ a = B.ak ∨ a = B.ab) → NDat P w K H a D → NDat P w K H' a D := fun {a D} q n => by
    obtain ⟨φ, e⟩ := n.isExt
    exact n.keep (by rw [e]; exact k _ _ q e) x
  obtain ⟨vs, l1, l2⟩ := h.lst
  exact ⟨k _ _ (.inl rfl) h.ins, kk (.inr (.inl rfl)) h.num, ⟨vs, k _ _ (.inr (.inr (.inl rfl))) l1, l2.ext x⟩, kk (.inr (.inr (.inr (.inl rfl)))) h.kn, kk (.inr (.inr (.inr (.inr rfl)))) h.bu, h.ne1, h.ne2, h.ne3⟩
theorem BookAt.same (h : BookAt P w K CB H B fs Dn Dk Db) (s : Same H H') : BookAt P w K CB H' B fs Dn Dk Db := h.keep (fun b o _ e => s b o e) (Same.ext s)
theorem BInv.same (h : BInv P w K CB H B fs Db) (s : Same H H') : BInv P w K CB H' B fs Db := by
  obtain ⟨Dn, Dk, h1, h2⟩ := h
  exact ⟨Dn, Dk, h1.same s, h2⟩
theorem BookAt.live (h : BookAt P w K CB H B fs Dn Dk Db) {b : Addr} (q : b = B.x ∨ b = B.an ∨ b = B.af ∨ b = B.ak ∨ b = B.ab) : ∃ o, H b = some o ∧ (∀ xs, o ≠ .tup xs) ∧ ∀ u y, o ≠ .frz u y := by
  rcases q with rfl | rfl | rfl | rfl | rfl
  · exact ⟨_, h.ins, (fun _ z => nomatch z), fun _ _ z => nomatch z⟩
  · obtain ⟨φ, e⟩ := h.num.isExt
    exact ⟨_, e, (fun _ z => nomatch z), fun _ _ z => nomatch z⟩
  · obtain ⟨vs, e, _⟩ := h.lst
    exact ⟨_, e, (fun _ z => nomatch z), fun _ _ z => nomatch z⟩
  · obtain ⟨φ, e⟩ := h.kn.isExt
    exact ⟨_, e, (fun _ z => nomatch z), fun _ _ z => nomatch z⟩
  · obtain ⟨φ, e⟩ := h.bu.isExt
    exact ⟨_, e, (fun _ z => nomatch z), fun _ _ z => nomatch z⟩
theorem BInv.live (h : BInv P w K CB H B fs Db) {b : Addr} (q : b = B.x ∨ b = B.an ∨ b = B.af ∨ b = B.ak ∨ b = B.ab) : ∃ o, H b = some o ∧ (∀ xs, o ≠ .tup xs) ∧ ∀ u y, o ≠ .frz u y := by
  obtain ⟨Dn, Dk, h1, _⟩ := h
  exact h1.live q
/-- a place that is free, or that bears a list of another one's, is none of the book's -/
theorem BInv.off (h : BInv P w K CB H B fs Db) {b : Addr} (e : H b = none) : b ≠ B.x ∧ b ≠ B.an ∧ b ≠ B.af ∧ b ≠ B.ak ∧ b ≠ B.ab := by
  refine ⟨fun z => ?_, fun z => ?_, fun z => ?_, fun z => ?_, fun z => ?_⟩
  all_goals
    obtain ⟨o, e2, _⟩ := h.live (b := b) (by first | exact .inl z | exact .inr (.inl z) | exact .inr (.inr (.inl z)) | exact .inr (.inr (.inr (.inl z))) | exact .inr (.inr (.inr (.inr z))))
    rw [e] at e2
    cases e2
theorem BInv.keepD (h : BInv P w K CB H B fs Db) {D : Addr} (nD : D ≠ B.x ∧ D ≠ B.an ∧ D ≠ B.af ∧ D ≠ B.ak ∧ D ≠ B.ab) (x : Ext H H') (k : ∀ b o, b ≠ D → H b = some o → H' b = some o) : BInv P w K CB H' B fs Db := by
  obtain ⟨Dn, Dk, h1, h2⟩ := h
  refine ⟨Dn, Dk, h1.keep (fun b o q e => k b o (fun z => ?_) e) x, h2⟩
  subst z
  rcases q with q | q | q | q | q
  · exact nD.1 q
  · exact nD.2.1 q
  · exact nD.2.2.1 q
  · exact nD.2.2.2.1 q
  · exact nD.2.2.2.2 q
theorem MvB.ext (m : MvB B H H') (h : BInv P w K CB H B fs Db) : Ext H H' := by
  have n : ∀ {b : Addr} {o : HO}, H b = some o → ((∃ xs, o = .tup xs) ∨ ∃ u y, o = .frz u y) → b ≠ B.an ∧ b ≠ B.af ∧ b ≠ B.ak ∧ b ≠ B.ab := fun {b o} e q => by
    have no : ∀ c, (c = B.x ∨ c = B.an ∨ c = B.af ∨ c = B.ak ∨ c = B.ab) → b ≠ c := fun c hc z => by
      subst z
      obtain ⟨o2, e2, t1, t2⟩ := h.live hc
      rw [e] at e2
      cases e2
      rcases q with ⟨xs, q⟩ | ⟨u, y, q⟩
      · exact t1 xs q
      · exact t2 u y q
    exact ⟨no _ (.inr (.inl rfl)), no _ (.inr (.inr (.inl rfl))), no _ (.inr (.inr (.inr (.inl rfl)))), no _ (.inr (.inr (.inr (.inr rfl))))⟩
  refine ⟨fun b xs e => ?_, fun b o u e => ?_⟩
  · obtain ⟨a1, a2, a3, a4⟩ := n e (.inl ⟨_, rfl⟩)
    exact m b _ e a1 a2 a3 a4
  · obtain ⟨a1, a2, a3, a4⟩ := n e (.inr ⟨_, _, rfl⟩)
    exact m b _ e a1 a2 a3 a4
/-- a list that is none of the book's -/
theorem MvB.lst (m : MvB B H H') (h : BInv P w K CB H B fs Db) {p : Addr} {xs : List V} (e : H p = some (.lst xs)) (n : p ≠ B.af) : H' p = some (.lst xs) := by
  obtain ⟨Dn, Dk, h1, _⟩ := h
  have no : ∀ {a D}, NDat P w K H a D → p ≠ a := fun {a D} q z => by
    subst z
    obtain ⟨φ, e2⟩ := q.isExt
    rw [e] at e2
    cases e2
  exact m p _ e (no h1.num) n (no h1.kn) (no h1.bu)
theorem goes_mvB {H1 : Hp} (h : BInv P w K CB H1 B fs Db) : Goes1 H1 (MvB B) where
  refl := fun H _ => MvB.refl B H
  rf0 := MvB.refl B H1
  trans := fun H H' x y => x.trans y
  put := fun Dl H zs n x b o e a1 a2 a3 a4 => by rw [upd_ne (ne_of_none e n)]; exact x b o e a1 a2 a3 a4
  keep := fun Dl H H' o n _ t e => by
    obtain ⟨_, a1, a2, a3, a4⟩ := h.off n
    exact t Dl o e a1 a2 a3 a4
/-- what is known is not too much -/
theorem BkOk.few (h : BkOk fs Dn Dk) (few : fs.length ≤ 1000) : ∃ L : List NestedKey, (∀ k, (Dk k).isSome = true → k ∈ L) ∧ L.length < sizeLine := by
  refine ⟨(List.range 1000).flatMap fun i => (List.range 1000).map fun j => nk (pairD i j), fun k hk => ?_, ?_⟩
  · obtain ⟨v, hv⟩ := Option.isSome_iff_exists.mp hk
    obtain ⟨i, j, b, rfl, hi, hj, _⟩ := h.kn k v hv
    exact List.mem_flatMap.mpr ⟨i, List.mem_range.mpr (by omega), List.mem_map.mpr ⟨j, List.mem_range.mpr (by omega), rfl⟩⟩
  · have := flat_len (fun i => (List.range 1000).map fun j => nk (pairD i j)) 1000 (List.range 1000) fun i _ => by rw [List.length_map, List.length_range]; exact Nat.le_refl _
    rw [List.length_range] at this
    rw [sizeLine_eq]; omega
theorem BkOk.few2 (h : BkOk fs Dn Dk) (few : fs.length ≤ 1000) : ∃ L : List NestedKey, (∀ k, (Dn k).isSome = true → k ∈ L) ∧ L.length < sizeLine := by
  refine ⟨fs.map fun f => nk (formD f), fun k hk => ?_, ?_⟩
  · obtain ⟨v, hv⟩ := Option.isSome_iff_exists.mp hk
    obtain ⟨i, f, hf, rfl, _⟩ := h.num1 k v hv
    exact List.mem_map.mpr ⟨f, List.mem_of_getElem? hf, rfl⟩
  · rw [List.length_map, sizeLine_eq]; omega
theorem BkOk.nil : BkOk [] (fun _ => none) (fun _ => none) := ⟨fsOk_nil, fun _ _ z => (nomatch z), fun _ _ z => by simp at z, fun _ _ z => nomatch z⟩
theorem BkOk.putK (h : BkOk fs Dn Dk) {i j : Nat} {b : Bool} (hi : i < fs.length) (hj : j < fs.length) (hb : b = true ↔ Gm.le (val fs i) (val fs j)) : BkOk fs Dn (putD Dk (nk (pairD i j)) (.bl b)) := by
  refine ⟨h.ok, h.num1, h.num2, fun k v e => ?_⟩
  unfold putD at e
  split at e
  · rename_i ek
    exact ⟨i, j, b, ek, hi, hj, (Option.some.inj e).symm, hb⟩
  · exact h.kn k v e
theorem BkOk.getK (h : BkOk fs Dn Dk) {i j : Nat} {v : V} (e : Dk (nk (pairD i j)) = some v) : ∃ b, v = .bl b ∧ (b = true ↔ Gm.le (val fs i) (val fs j)) := by
  obtain ⟨i', j', b, ek, _, _, ev, hb⟩ := h.kn _ _ e
  obtain ⟨rfl, rfl⟩ := pair_inj ek
  exact ⟨b, ev, hb⟩
theorem BkOk.add (h : BkOk fs Dn Dk) {f : Form} (h1 : ∀ j ∈ f.1, j < fs.length) (h2 : ∀ j ∈ f.2, j < fs.length) (u1 : f.1.Pairwise (· < ·)) (u2 : f.2.Pairwise (· < ·)) (n : Dn (nk (formD f)) = none) : BkOk (fs ++ [f]) (putD Dn (nk (formD f)) (.int fs.length)) Dk := by
  have nf : f ∉ fs := fun m => by
    obtain ⟨i, hi⟩ := List.mem_iff_getElem?.mp m
    rw [h.num2 i f hi] at n
    cases n
  have len : (fs ++ [f]).length = fs.length + 1 := by rw [List.length_append, List.length_singleton]
  refine ⟨h.ok.add h1 h2 u1 u2 nf, fun k v e => ?_, fun i g e => ?_, fun k v e => ?_⟩
  · unfold putD at e
    split at e
    · rename_i ek
      exact ⟨fs.length, f, by simp, ek, (Option.some.inj e).symm⟩
    · obtain ⟨i, g, a, b, c⟩ := h.num1 k v e
      exact ⟨i, g, getElem?_app a, b, c⟩
  · unfold putD
    rcases Nat.lt_or_ge i fs.length with c | c
    · rw [List.getElem?_append_left c] at e
      rw [if_neg (fun z => nf (by rw [← form_inj z]; exact List.mem_of_getElem? e))]
      exact h.num2 i g e
    · have hi := (List.getElem?_eq_some_iff.mp e).1
      have ei : i = fs.length := by omega
      subst ei
      have : g = f := by simpa using e.symm
      rw [this, if_pos rfl]
  · obtain ⟨i, j, b, e1, hi, hj, e2, hb⟩ := h.kn k v e
    refine ⟨i, j, b, e1, by omega, by omega, e2, ?_⟩
    rw [val_app h.ok _ hi, val_app h.ok _ hj]
    exact hb
end
end Sv

set_option maxHeartbeats 4000000
namespace Sv
open PySem PySem.Spec PyProof.Rows L2 L2H HotX LamX
def nV (n : Nat) : V := .int n
theorem nV_int (l : List Nat) : l.map nV = (l.map fun (n : Nat) => (n : Int)).map V.int := by rw [List.map_map]; rfl
theorem nat_out {ws : List Nat} : ∀ {ns : List Int}, ns.Pairwise (· < ·) → (∀ k ∈ ns, 0 ≤ k) → ∃ l : List Nat, ns = l.map (fun (n : Nat) => (n : Int)) ∧ l.Pairwise (· < ·)
  | [], _, _ => ⟨[], rfl, List.Pairwise.nil⟩
  | k :: ns, h, hp => by
    obtain ⟨h1, h2⟩ := List.pairwise_cons.mp h
    obtain ⟨l, e, hl⟩ := nat_out (ws := ws) h2 fun j hj => hp j (List.mem_cons_of_mem _ hj)
    have h0 := hp k List.mem_cons_self
    refine ⟨k.toNat :: l, by rw [List.map_cons, ← e, Int.toNat_of_nonneg h0], List.pairwise_cons.mpr ⟨fun y hy => ?_, hl⟩⟩
    have := h1 (y : Int) (by rw [e]; exact List.mem_map.mpr ⟨y, hy, rfl⟩)
    omega
theorem nat_set {ws : List Nat} {ns : List Int} (h : ns.Pairwise (· < ·)) (m : ∀ k, k ∈ ns ↔ k ∈ ws.map fun (n : Nat) => (n : Int)) : ∃ l : List Nat, ns.map V.int = l.map nV ∧ l.Pairwise (· < ·) ∧ ∀ j, j ∈ l ↔ j ∈ ws := by
  obtain ⟨l, e, hl⟩ := nat_out (ws := ws) h fun k hk => by
    obtain ⟨n, _, e⟩ := List.mem_map.mp ((m k).mp hk)
    rw [← e]; exact Int.natCast_nonneg n
  refine ⟨l, by rw [nV_int, e], hl, fun j => ?_⟩
  have q := m (j : Int)
  rw [e, List.mem_map, List.mem_map] at q
  constructor
  · intro hj
    obtain ⟨n, hn, en⟩ := q.mp ⟨j, hj, rfl⟩
    have : n = j := by omega
    rw [← this]; exact hn
  · intro hj
    obtain ⟨n, hn, en⟩ := q.mpr ⟨j, hj, rfl⟩
    have : n = j := by omega
    rw [← this]; exact hn
theorem at_nats {K : PySem.W.Frag} {H : Hp} : ∀ l : List Nat, AtAll K H (l.map nV) (l.map natD)
  | [] => AtAll.nil
  | n :: l => AtAll.cons (At.int (n : Int)) (at_nats l)
section
variable {P : Program} {w : World} {K : PySem.W.Frag} {mg : Str → Option Value} {base : Heap} {CB : Addr}
theorem NDat.put {H : Hp} {a x C dx : Addr} {fs : List (Str × V)} {o : HO} {D : NestedKey → Option V} (h : NDat P w K H a D) (e : H x = some (.ins C dx fs)) (n : a ≠ x) : NDat P w K (upd H x o) a D :=
  h.keep (upd_ne n) (Ext.wr e (fun _ z => nomatch z) (fun _ _ z => nomatch z))
def spBInit (P : Program) (w : World) (K : PySem.W.Frag) (CB : Addr) : Sp := fun vs H Q _ => ∃ x dx, vs = [.ref x] ∧ H x = some (.ins CB dx []) ∧ ∀ H' B, B.x = x → MvA x H H' → H B.an = none → H B.af = none → H B.ak = none → H B.ab = none → BInv P w K CB H' B [] (fun _ => none) → Q .non H'
theorem scBInit : FnScope ["self"] ["self"] (defScope s_Book_init) := ⟨rfl, rfl, rfl, by decide +kernel, rfl, by decide +kernel, by decide +kernel⟩
theorem k_b_init (F : HereM K CB "__init__" "Book.__init__" s_Book_init) (T : ClsT K mg "Book" CB fldsB) : KeepsM P w K mg base CX0 1 CB "__init__" ["self"] (spBInit P w K CB) := by
  refine keepsM0 F scBInit (fun _ _ _ _ _ _ us hl => match us, hl with | [_], _ => rfl) (fun vs H Q E h => by obtain ⟨_, _, e, _⟩ := h; rw [e]; rfl) fun f cdv A outer s H vs Q E hr h => ?_
  obtain ⟨x, dx, rfl, hx, q⟩ := h
  have n0 : NoAttr K CB "numbers" := T.nf _ (by decide)
  have n1 : NoAttr K CB "forms" := T.nf _ (by decide)
  have n2 : NoAttr K CB "known" := T.nf _ (by decide)
  have n3 : NoAttr K CB "bushes" := T.nf _ (by decide)
  refine ⟨_, pss_cons (ps_fldK T.cl n0 (pv 0) (pe_nnew (P := P) (w := w) (K := K)))
    (pss_cons (ps_fldK T.cl n1 (pv 0) (pe_lstN pa_nil))
    (pss_cons (ps_fldK T.cl n2 (pv 0) (pe_nnew (P := P) (w := w) (K := K)))
    (pss_one (ps_fldK T.cl n3 (pv 0) (pe_nnew (P := P) (w := w) (K := K)))))), ?_⟩
  refine fun a1 H1 f1 s1 o1 d1 => ⟨_, rfl, x, dx, [], rfl, s1 _ _ hx, by decide, szl rfl, fun a2 H2 f2 s2 d2 => ⟨_, rfl, x, dx, _, rfl, s2 _ _ upd_same, putF_few (by decide), fun a3 H3 f3 s3 o3 d3 => ⟨_, rfl, x, dx, _, rfl, s3 _ _ upd_same, putF_few (Nat.lt_of_lt_of_le (putF_lt (k := 1) (by decide)) (by decide)), fun a4 H4 f4 s4 o4 d4 => ⟨_, rfl, x, dx, _, rfl, s4 _ _ upd_same, ?_, ?_⟩⟩⟩⟩
  · exact putF_few (Nat.lt_of_lt_of_le (putF_lt (k := 2) (Nat.lt_of_lt_of_le (putF_lt (k := 1) (by decide)) (by decide))) (by decide))
  have x1 : a1 ≠ x := fun z => by rw [z, hx] at f1; cases f1
  have x2 : a2 ≠ x := fun z => by rw [z, upd_same] at f2; cases f2
  have x3 : a3 ≠ x := fun z => by rw [z, upd_same] at f3; cases f3
  have x4 : a4 ≠ x := fun z => by rw [z, upd_same] at f4; cases f4
  have m1 : MvA x H H1 := MvA.of_same s1
  have m2 : MvA x H H2 := (m1.trans mvA_upd).same s2
  have m3 : MvA x H H3 := (m2.trans mvA_upd).same s3
  have m4 : MvA x H H4 := (m3.trans mvA_upd).same s4
  have fr : ∀ {a : Addr} {Hn Hm : Hp} {o : HO}, MvA x H Hn → upd Hn x o a = none → a ≠ x → H a = none := fun {a Hn Hm o} m f n => by
    rw [upd_ne n] at f
    cases e : H a with
    | none => rfl
    | some u => rw [m a u e n] at f; cases f
  have g2 := fr (Hm := H1) m1 f2 x2
  have g3 := fr (Hm := H1) m2 f3 x3
  have g4 := fr (Hm := H1) m3 f4 x4
  have l1 := s3 _ _ (show upd H2 x (.ins CB dx (putF "forms" (.ref a2) (putF "numbers" (.ref a1) []))) a2 = some (.lst []) by rw [upd_ne x2]; exact d2)
  have l2 := s4 _ _ (show upd H3 x (.ins CB dx (putF "known" (.ref a3) (putF "forms" (.ref a2) (putF "numbers" (.ref a1) [])))) a2 = some (.lst []) by rw [upd_ne x2]; exact l1)
  have k1 : NDat P w K (upd H2 x (.ins CB dx (putF "forms" (.ref a2) (putF "numbers" (.ref a1) [])))) a1 (fun _ => none) := ((d1.put (s1 _ _ hx) x1).same s2).put (s2 _ _ upd_same) x1
  have k2 : NDat P w K (upd H3 x (.ins CB dx (putF "known" (.ref a3) (putF "forms" (.ref a2) (putF "numbers" (.ref a1) []))))) a1 (fun _ => none) := (k1.same s3).put (s3 _ _ upd_same) x1
  have k3 : NDat P w K (upd H3 x (.ins CB dx (putF "known" (.ref a3) (putF "forms" (.ref a2) (putF "numbers" (.ref a1) []))))) a3 (fun _ => none) := d3.put (s3 _ _ upd_same) x3
  have n13 : a1 ≠ a3 := fun z => by
    obtain ⟨φ, e⟩ := k1.isExt
    exact absurd (e.symm.trans ((congrArg _ z).trans f3)) (fun z => nomatch z)
  have n14 : a1 ≠ a4 := fun z => by
    obtain ⟨φ, e⟩ := k2.isExt
    exact absurd (e.symm.trans ((congrArg _ z).trans f4)) (fun z => nomatch z)
  have n34 : a3 ≠ a4 := fun z => by
    obtain ⟨φ, e⟩ := k3.isExt
    exact absurd (e.symm.trans ((congrArg _ z).trans f4)) (fun z => nomatch z)
  refine q _ ⟨x, dx, a1, a2, a3, a4⟩ rfl (m4.trans mvA_upd) f1 g2 g3 g4 ⟨_, _, ⟨?_, (k2.same s4).put (s4 _ _ upd_same) x1, ⟨[], ?_, AtAll.nil⟩, (k3.same s4).put (s4 _ _ upd_same) x3, d4.put (s4 _ _ upd_same) x4, n13, n14, n34⟩, BkOk.nil⟩
  · show upd H4 x _ x = _
    rw [upd_same]; rfl
  · show upd H4 x _ a2 = _
    rw [upd_ne x2]; exact l2
/-! ### enter -/
def FormOf (f : Form) (ws bs : List Nat) : Prop := f.1.Pairwise (· < ·) ∧ f.2.Pairwise (· < ·) ∧ (∀ j, j ∈ f.1 ↔ j ∈ ws) ∧ ∀ j, j ∈ f.2 ↔ j ∈ bs
def spEnter (P : Program) (w : World) (K : PySem.W.Frag) (CB : Addr) : Sp := fun vs H Q _ => ∃ B fs Db p q ws bs, vs = [.ref B.x, .ref p, .ref q] ∧ BInv P w K CB H B fs Db ∧ H p = some (.lst (ws.map nV)) ∧ H q = some (.lst (bs.map nV)) ∧
  (∀ j ∈ ws, j < fs.length) ∧ (∀ j ∈ bs, j < fs.length) ∧ ws.length < 4000 ∧ bs.length < 4000 ∧ fs.length < 1000 ∧
  ∀ H' gs i f, MvB B H H' → BInv P w K CB H' B (fs ++ gs) Db → gs.length ≤ 1 → (fs ++ gs)[i]? = some f → FormOf f ws bs → Q (.int (i : Nat)) H'
theorem scEnter : FnScope ["self", "whites", "blacks", "form"] ["self", "whites", "blacks"] (defScope s_Book_enter) := ⟨rfl, rfl, rfl, by decide +kernel, rfl, by decide +kernel, by decide +kernel⟩
theorem k_enter (F : HereM K CB "enter" "Book.enter" s_Book_enter) (T : ClsT K mg "Book" CB fldsB) (B : Blt mg) : KeepsM P w K mg base CX0 1 CB "enter" ["self", "whites", "blacks"] (spEnter P w K CB) := by
  refine keepsM0 F scEnter (fun _ _ _ _ _ _ us hl => match us, hl with | [_, _, _], _ => rfl) (fun vs H Q E h => by obtain ⟨_, _, _, _, _, _, _, e, _⟩ := h; rw [e]; rfl) fun f cdv A outer s H vs Q E hr h => ?_
  obtain ⟨b, fs, Db, p, q, ws, bs, rfl, hB, hp, hq, hw, hb, lw, lb, few, q0⟩ := h
  have n0 : NoAttr K CB "numbers" := T.nf _ (by decide)
  have n1 : NoAttr K CB "forms" := T.nf _ (by decide)
  refine ⟨_, pss_cons (st 3 scEnter.nd (pe_tupN (pa2 (pbt (call_tupleK K) B.tuple boot_tuple (pa1 (pe_sset rfl (by rfl) B.sorted (by rfl) B.set (pv 1)))) (pbt (call_tupleK K) B.tuple boot_tuple (pa1 (pe_sset rfl (by rfl) B.sorted (by rfl) B.set (pv 2)))))))
    (pss_cut (ps_if (pt_cmpR (op_nnotin (P := P) (w := w) (K := K) hr.units) (pv 3) (pe_fldK T.cl n0 (pv 0)) (by rfl))
      (pss_cons (ps_nput (P := P) (w := w) (K := K) hr.units (pe_fldK T.cl n0 (pv 0)) (pv 3) (pb (call_len_seqK K) B.len PySem.boot_len (pa1 (pe_fldK T.cl n1 (pv 0)))) (by rfl))
        (pss_one (ps_expr (pe_bm PySem.F.plainAttrs_list PySem.F.slot_list_append PySem.F.type_list_append mt_append (pe_fldK T.cl n1 (pv 0)) (pa1 (pv 3))))))
      (pss_nil))
    (pss_one (ps_ret (pe_nget (P := P) (w := w) (K := K) hr.units (pe_fldK T.cl n0 (pv 0)) (pv 3) (fun _ _ => rfl))))), ?_⟩
  refine ⟨_, rfl, p, ws.map (fun (n : Nat) => (n : Int)), rfl, SqL.of (by rw [← nV_int]; exact hp), by rw [List.length_map]; unfold scanBound; omega, fun ns1 p1 up1 me1 np1 => ?_⟩
  obtain ⟨f1, e1, u1, m1⟩ := nat_set up1 me1
  rw [e1]
  have s1 : Same H (upd H p1 (.lst (f1.map nV))) := same_new np1
  refine ⟨p1, _, rfl, SqL.of upd_same, fun t1 H2 nt1 s2 et1 => ⟨_, rfl, q, bs.map (fun (n : Nat) => (n : Int)), rfl, SqL.of (by rw [← nV_int]; exact s2 _ _ (s1 _ _ hq)), by rw [List.length_map]; unfold scanBound; omega, fun ns2 p2 up2 me2 np2 => ?_⟩⟩
  obtain ⟨f2, e2, u2, m2⟩ := nat_set up2 me2
  rw [e2]
  have s3 : Same H2 (upd H2 p2 (.lst (f2.map nV))) := same_new np2
  refine ⟨p2, _, rfl, SqL.of upd_same, fun t2 H4 nt2 s4 et2 => ⟨szl rfl, fun t3 H5 nt3 s5 et3 => ?_⟩⟩
  have s05 : Same H H5 := (((s1.trans s2).trans s3).trans s4).trans s5
  have hF : At K H5 (.ref t3) (formD (f1, f2)) := At.tupO et3 (.cons (At.tupO (s5 _ _ (s4 _ _ (s3 _ _ et1))) (at_nats f1)) (.cons (At.tupO (s5 _ _ et2) (at_nats f2)) .nil))
  obtain ⟨Dn, Dk, hA, hK⟩ := hB
  have hA5 := hA.same s05
  have hf1 : ∀ j ∈ f1, j < fs.length := fun j hj => hw j ((m1 j).mp hj)
  have hf2 : ∀ j ∈ f2, j < fs.length := fun j hj => hb j ((m2 j).mp hj)
  refine ⟨fun σ H' => σ.length = 4 ∧ σ[0]? = some (some (.ref b.x)) ∧ σ[3]? = some (some (.ref t3)) ∧ MvB b H5 H' ∧ ∃ gs Dn', BookAt P w K CB H' b (fs ++ gs) Dn' Dk Db ∧ BkOk (fs ++ gs) Dn' Dk ∧ gs.length ≤ 1 ∧ (Dn' (nk (formD (f1, f2)))).isSome = true, ?_, ?_⟩
  · refine ⟨_, rfl, _, rfl, b.x, b.dx, _, _, rfl, hA5.ins, rfl, b.an, Dn, _, rfl, hA5.num, hF, form_depth _, _, rfl, ?_⟩
    refine ite2 (fun z => ?_) fun z => ?_
    rotate_left
    · refine ⟨rfl, rfl, rfl, MvB.refl b H5, [], Dn, by rw [List.append_nil]; exact hA5, by rw [List.append_nil]; exact hK, by decide, ?_⟩
      have z : ¬ (true != (Dn (nk (formD (f1, f2)))).isSome) = true := z
      cases hh : (Dn (nk (formD (f1, f2)))).isSome with
      | true => rfl
      | false => rw [hh] at z; exact absurd rfl z
    · have hn : Dn (nk (formD (f1, f2))) = none := by
        have z : (true != (Dn (nk (formD (f1, f2)))).isSome) = true := z
        cases hh : Dn (nk (formD (f1, f2))) with
        | none => rfl
        | some u => rw [hh] at z; cases z
      obtain ⟨ys, ly, ay⟩ := hA5.lst
      have ll : ys.length = fs.length := by rw [AtAll.len ay.2, List.length_map]
      refine ⟨_, rfl, b.x, b.dx, _, _, rfl, hA5.ins, rfl, b.af, ys, rfl, .inl (SqL.of ly), _, rfl, b.x, b.dx, _, _, rfl, hA5.ins, rfl, _, rfl, b.an, Dn, _, rfl, hA5.num, hF, form_depth _, hK.few2 (by omega), fun H6 o6 x6 d6 => ?_⟩
      have af6 : H6 b.af = some (.lst ys) := by
        obtain ⟨φ, e⟩ := hA5.num.isExt
        rw [o6 _ (fun z => by rw [z, e] at ly; cases ly)]; exact ly
      have in6 : H6 b.x = some (.ins CB b.dx (bf b)) := by
        obtain ⟨φ, e⟩ := hA5.num.isExt
        rw [o6 _ (fun z => by have h := hA5.ins; rw [z, e] at h; cases h)]; exact hA5.ins
      refine ⟨_, rfl, b.x, b.dx, _, _, rfl, in6, rfl, .inl ⟨rfl, _, SqL.of af6⟩, _, rfl, b.af, ys, _, rfl, rfl, af6, by rw [ll, sizeLine_eq]; omega, ?_⟩
      have x7 : Ext H6 (upd H6 b.af (.lst (ys ++ [.ref t3]))) := Ext.lst af6
      have k7 : ∀ {a : Addr} {D : NestedKey → Option V}, NDat P w K H6 a D → NDat P w K (upd H6 b.af (.lst (ys ++ [.ref t3]))) a D := fun {a D} h => by
        obtain ⟨φ, e⟩ := h.isExt
        exact h.keep (upd_ne fun z => by rw [z, af6] at e; cases e) x7
      have k6 : ∀ {a : Addr} {D : NestedKey → Option V}, NDat P w K H5 a D → a ≠ b.an → NDat P w K H6 a D := fun {a D} h n => h.keep (o6 _ n) x6
      refine ⟨rfl, rfl, rfl, fun c o e a1 a2 a3 a4 => ?_, [(f1, f2)], _, ⟨?_, k7 d6, ⟨_, upd_same, ?_⟩, k7 (k6 hA5.kn (Ne.symm hA5.ne1)), k7 (k6 hA5.bu (Ne.symm hA5.ne2)), hA5.ne1, hA5.ne2, hA5.ne3⟩, ?_, Nat.le_refl _, ?_⟩
      · rw [upd_ne a2, o6 _ a1]; exact e
      · rw [upd_ne (fun z => by rw [z, af6] at in6; cases in6)]; exact in6
      · rw [List.map_append]
        exact AtAll.snoc (hF.ext (x6.trans x7)) (ay.ext (x6.trans x7))
      · have := hK.add (f := (f1, f2)) hf1 hf2 u1 u2 hn
        rw [← ll] at this
        exact this
      · show (putD Dn (nk (formD (f1, f2))) _ (nk (formD (f1, f2)))).isSome = true
        unfold putD
        rw [if_pos rfl]; rfl
  · rintro σ H6 ⟨hl, h0, h3, m6, gs, Dn', hA6, hK6, lg, hsm⟩
    obtain ⟨v2, hv2⟩ := Option.isSome_iff_exists.mp hsm
    refine ⟨_, h0, b.x, b.dx, _, _, rfl, hA6.ins, rfl, _, h3, b.an, Dn', _, v2, rfl, hA6.num, hF.ext (m6.ext ⟨Dn, Dk, hA5, hK⟩), form_depth _, hv2, ?_⟩
    obtain ⟨i, f, ei, ek, ev⟩ := hK6.num1 _ _ hv2
    rw [ev]
    rw [← form_inj ek] at ei
    exact q0 H6 gs i (f1, f2) ((MvB.of_same s05).trans m6) ⟨_, _, hA6, hK6⟩ lg ei ⟨u1, u2, m1, m2⟩
end
end Sv

set_option maxHeartbeats 4000000
namespace Sv
open PySem PySem.Spec PyProof.Rows L2 L2H HotX LamX
theorem nats_inv {K : PySem.W.Frag} {H : Hp} : ∀ {us : List V} {l : List Nat}, AtAll K H us (l.map natD) → us = l.map nV
  | us, [], h => by
    have := AtAll.len h.2
    exact List.eq_nil_of_length_eq_zero (by simpa using this)
  | us, n :: l, h => by
    obtain ⟨hp, hd⟩ := h
    rw [List.map_cons, plAll, Bool.and_eq_true] at hp
    cases hd with
    | cons a b =>
      rw [nats_inv ⟨hp.2, b⟩, At.inv_int (i := (n : Int)) ⟨hp.1, a⟩]
      rfl
section
variable {P : Program} {w : World} {K : PySem.W.Frag} {mg : Str → Option Value} {base : Heap} {CB : Addr}
theorem BookAt.form {H : Hp} {B : Bx} {fs : List Form} {Dn Dk Db : NestedKey → Option V} (h : BookAt P w K CB H B fs Dn Dk Db) {i : Nat} {f : Form} (e : fs[i]? = some f) :
    ∃ ys a a1 a2, H B.af = some (.lst ys) ∧ atI ys (i : Int) = some (V.ref a) ∧ SqT K H a [.ref a1, .ref a2] ∧ SqT K H a1 (f.1.map nV) ∧ SqT K H a2 (f.2.map nV) := by
  obtain ⟨ys, l, ay⟩ := h.lst
  obtain ⟨v, hv, hd⟩ := ay.get' (i := i) (d := formD f) (by rw [List.getElem?_map, e]; rfl)
  obtain ⟨a, vs, rfl, hs, hall⟩ := hd.inv
  obtain ⟨hp, hall⟩ := hall
  rw [plAll, Bool.and_eq_true, plAll, Bool.and_eq_true] at hp
  cases hall with
  | cons d1 r =>
    cases r with
    | cons d2 r =>
      cases r
      obtain ⟨a1, u1, rfl, s1, k1⟩ := At.inv ⟨hp.1, d1⟩
      obtain ⟨a2, u2, rfl, s2, k2⟩ := At.inv ⟨hp.2.1, d2⟩
      rw [nats_inv k1] at s1
      rw [nats_inv k2] at s2
      exact ⟨ys, a, a1, a2, l, atI_nat hv, hs, s1, s2⟩
theorem BookAt.putKn {H H' : Hp} {B : Bx} {fs : List Form} {Dn Dk Dk' Db : NestedKey → Option V} (h : BookAt P w K CB H B fs Dn Dk Db) (o : ∀ b, b ≠ B.ak → H' b = H b) (x : Ext H H') (d : NDat P w K H' B.ak Dk') : BookAt P w K CB H' B fs Dn Dk' Db ∧ MvB B H H' := by
  have ne : ∀ {a u}, H a = some u → (∀ φ, u ≠ .ext φ) → H' a = some u := fun {a u} e n => by
    rw [o a fun z => by
      obtain ⟨φ, q⟩ := h.kn.isExt
      rw [z, q] at e
      exact n φ (Option.some.inj e).symm]
    exact e
  obtain ⟨vs, l1, l2⟩ := h.lst
  exact ⟨⟨ne h.ins (fun _ z => nomatch z), h.num.keep (o _ h.ne1) x, ⟨vs, ne l1 (fun _ z => nomatch z), l2.ext x⟩, d, h.bu.keep (o _ (Ne.symm h.ne3)) x, h.ne1, h.ne2, h.ne3⟩, fun b u e _ _ a3 _ => by rw [o b a3]; exact e⟩
theorem asc_len {l : List Nat} {n : Nat} (u : l.Pairwise (· < ·)) (h : ∀ x ∈ l, x < n) : l.length ≤ n := by
  have := nodup_le (l := l) (m := List.range n) (u.imp fun h => Nat.ne_of_lt h) fun x hx => List.mem_range.mpr (h x hx)
  rwa [List.length_range] at this
theorem FsOk.len1 {fs : List Form} (ok : FsOk fs) {i : Nat} {f : Form} (e : fs[i]? = some f) : f.1.length ≤ fs.length ∧ f.2.length ≤ fs.length := by
  have l := (List.getElem?_eq_some_iff.mp e).1
  exact ⟨asc_len (ok.up i f e).1 fun x hx => Nat.lt_trans ((ok.lt i f e).1 x hx) l, asc_len (ok.up i f e).2 fun x hx => Nat.lt_trans ((ok.lt i f e).2 x hx) l⟩
noncomputable def leB (x y : Gm) : Bool := @decide (Gm.le x y) (Classical.propDecidable _)
theorem leB_iff {x y : Gm} : leB x y = true ↔ Gm.le x y := by
  unfold leB
  exact ⟨@of_decide_eq_true _ (Classical.propDecidable _), @decide_eq_true _ (Classical.propDecidable _)⟩
theorem leB_of {x y : Gm} {t : Bool} (h : t = true ↔ Gm.le x y) : t = leB x y := by
  rw [Bool.eq_iff_iff, h, leB_iff]
def spMost (P : Program) (w : World) (K : PySem.W.Frag) (CB : Addr) (n : Nat) : Sp := fun vs H Q _ => ∃ B fs Db i j a c, vs = [.ref B.x, .int (i : Nat), .int (j : Nat)] ∧ BInv P w K CB H B fs Db ∧ Rk fs a i ∧ Rk fs c j ∧ a + c < n ∧ fs.length ≤ 1000 ∧
  ∀ H' t, MvB B H H' → BInv P w K CB H' B fs Db → (t = true ↔ Gm.le (val fs i) (val fs j)) → Q (.bl t) H'
theorem scMost : FnScope ["self", "one", "other", "key", "bad", "white", "black"] ["self", "one", "other"] (defScope s_Book_is_most) := ⟨rfl, rfl, rfl, by decide +kernel, rfl, by decide +kernel, by decide +kernel⟩
theorem k_most (F : HereM K CB "is_most" "Book.is_most" s_Book_is_most) (T : ClsT K mg "Book" CB fldsB) (B : Blt mg) : ∀ n, KeepsM P w K mg base CX0 (n + 1) CB "is_most" ["self", "one", "other"] (spMost P w K CB n)
  | 0 => keepsM0 F scMost (fun _ _ _ _ _ _ us hl => match us, hl with | [_, _, _], _ => rfl) (fun vs H Q E h => by obtain ⟨_, _, _, _, _, _, _, _, _, _, _, z, _⟩ := h; omega) fun f cdv A outer s H vs Q E hr h => by obtain ⟨_, _, _, _, _, _, _, _, _, _, _, z, _⟩ := h; omega
  | n + 1 => by
    have d_most := k_most F T B n
    refine keepsM0 F scMost (fun _ _ _ _ _ _ us hl => match us, hl with | [_, _, _], _ => rfl) (fun vs H Q E h => by obtain ⟨_, _, _, _, _, _, _, e, _⟩ := h; rw [e]; rfl) fun f cdv A outer s H vs Q E hr h => ?_
    obtain ⟨b, fs, Db, i, j, ra, rc, rfl, hB, hi, hj, hn, few, q⟩ := h
    have n1 : NoAttr K CB "forms" := T.nf _ (by decide)
    have n2 : NoAttr K CB "known" := T.nf _ (by decide)
    refine ⟨_, pss_cons (st 3 scMost.nd (pe_tupN (pa2 (pv 1) (pv 2))))
    (pss_cut (ps_if (pt_cmpR (op_nnotin (P := P) (w := w) (K := K) hr.units) (pv 3) (pe_fldK T.cl n2 (pv 0)) (by rfl))
      (pss_cons (st 4 scMost.nd (pb (cr_anyK K rfl) B.any boot_any (pa1 (pe_lc (own := [("white", 5)]) rfl scMost.nd (pi_tupK K (pe_ix (ix_tupK K) (pe_ix (ix_listK K) (pe_fldK T.cl n1 (pv 0)) (pv 1) (fun _ _ => rfl)) pe_int (fun _ _ => rfl))) (blkOk_by (own := [("white", 5)]) (N := ["self", "one", "other", "key", "bad", "white", "black"]) (sc := defScope s_Book_is_most) (by decide +kernel)) (fun _ _ _ _ _ => pgn 5 scMost.nd) (fun _ _ _ _ _ => pts_nil) (fun _ _ _ _ _ => pe_m0 d_most T.cl (hr.mono (by omega)) (pv 0) (pa2 (pv 2) (pv 5)))))))
        (pss_one (ps_nput (P := P) (w := w) (K := K) hr.units (pe_fldK T.cl n2 (pv 0)) (pv 3) (pe_and (pe_not (pv 4)) (pe_one (pe_not (pb (cr_anyK K rfl) B.any boot_any (pa1 (pe_lc (own := [("black", 6)]) rfl scMost.nd (pi_tupK K (pe_ix (ix_tupK K) (pe_ix (ix_listK K) (pe_fldK T.cl n1 (pv 0)) (pv 2) (fun _ _ => rfl)) pe_int (fun _ _ => rfl))) (blkOk_by (own := [("black", 6)]) (N := ["self", "one", "other", "key", "bad", "white", "black"]) (sc := defScope s_Book_is_most) (by decide +kernel)) (fun _ _ _ _ _ => pgn 6 scMost.nd) (fun _ _ _ _ _ => pts_nil) (fun _ _ _ _ _ => pe_m0 d_most T.cl (hr.mono (by omega)) (pv 0) (pa2 (pv 6) (pv 1))))))))) (by rfl))))
      (pss_nil))
    (pss_one (ps_ret (pe_nget (P := P) (w := w) (K := K) hr.units (pe_fldK T.cl n2 (pv 0)) (pv 3) (fun _ _ => rfl))))), ?_⟩
    refine ⟨_, rfl, _, rfl, szl rfl, fun kp H1 nkp s1 ek => ?_⟩
    have hK1 : At K H1 (.ref kp) (pairD i j) := At.tupO ek (.cons (.int _) (.cons (.int _) .nil))
    obtain ⟨Dn, Dk, hA, hK⟩ := hB
    have hA1 := hA.same s1
    refine ⟨fun σ H' => σ.length = 7 ∧ σ[0]? = some (some (.ref b.x)) ∧ σ[3]? = some (some (.ref kp)) ∧ MvB b H1 H' ∧ ∃ Dn' Dk', BookAt P w K CB H' b fs Dn' Dk' Db ∧ BkOk fs Dn' Dk' ∧ (Dk' (nk (pairD i j))).isSome = true, ?_, ?_⟩
    · refine ⟨_, rfl, _, rfl, b.x, b.dx, _, _, rfl, hA1.ins, rfl, b.ak, Dk, _, rfl, hA1.kn, hK1, pair_depth i j, _, rfl, ?_⟩
      refine ite2 (fun z => ?_) fun z => ?_
      rotate_left
      · refine ⟨rfl, rfl, rfl, MvB.refl b H1, Dn, Dk, hA1, hK, ?_⟩
        have z : ¬ (true != (Dk (nk (pairD i j))).isSome) = true := z
        cases hh : (Dk (nk (pairD i j))).isSome with
        | true => rfl
        | false => rw [hh] at z; exact absurd rfl z
      · obtain ⟨fi, hi'⟩ : ∃ f, fs[i]? = some f := ⟨_, List.getElem?_eq_getElem hi.lt⟩
        obtain ⟨fj, hj'⟩ : ∃ f, fs[j]? = some f := ⟨_, List.getElem?_eq_getElem hj.lt⟩
        obtain ⟨ys, af, a1, a2, e1, e2, e3, e4, e5⟩ := hA1.form hi'
        have hB1 : BInv P w K CB H1 b fs Db := ⟨Dn, Dk, hA1, hK⟩
        refine ⟨_, rfl, b.x, b.dx, _, _, rfl, hA1.ins, rfl, _, rfl, b.af, ys, _, _, rfl, rfl, SqL.of e1, e2, af, _, _, _, rfl, rfl, e3, rfl, a1, rfl, ⟨_, e4⟩, ?_⟩
        refine lc_J (walk_tup (xs := fi.1.map nV)) (MvB b) (fun Dl k zs H' => BInv P w K CB H' b fs Db ∧ zs = ((fi.1.take k).map fun m => leB (val fs j) (val fs m)).map V.bl) (goes_mvB hB1) ?_ ?_ (fun _ _ => ⟨hB1, rfl⟩) ?_ ?_ ?_
        · have := (hK.ok.len1 hi').1
          rw [List.length_map, sizeLine_eq]; omega
        · intro H3 t
          exact (t.ext hB1).sqT e4
        · rintro Dl k zs H3 H4 nD x kk ⟨h, e⟩
          exact ⟨h.keepD (hB1.off nD) x kk, e⟩
        · rintro Dl E E0 k x zs H3 H4 nD eD hk t ⟨hB3, rfl⟩ ⟨rfl, hx⟩ k1 k0
          rw [List.getElem?_map] at hx
          cases hm : fi.1[k]? with
          | none => rw [hm] at hx; cases hx
          | some m =>
            rw [hm] at hx
            cases hx
            obtain ⟨qa, rfl, hq⟩ := hi.opt hi' (.inl (List.mem_of_getElem? hm))
            obtain ⟨Dn3, Dk3, hA3, hK3⟩ := hB3
            refine ⟨rfl, _, rfl, b.x, b.dx, _, rfl, hA3.ins, bf_no b (by decide +kernel), _, rfl, _, rfl, b, fs, Db, j, m, rc, qa, rfl, ⟨Dn3, Dk3, hA3, hK3⟩, hj, hq, by omega, few, fun H5 t5 m5 hB5 ht => ?_⟩
            refine k1 _ H5 m5 ⟨hB5, ?_⟩
            rw [List.take_add_one, hm, List.map_append, List.map_append, leB_of ht]; rfl
        · rintro Dl H3 zs nD t eD _ ⟨hB3, rfl⟩
          rw [List.length_map, List.take_length] at eD
          refine ⟨Dl, _, rfl, SqL.of eD, ?_⟩
          rw [any_map]
          have last : ∀ {H4 : Hp} {t : Bool}, MvB b H1 H4 → BInv P w K CB H4 b fs Db → (t = true ↔ Gm.le (val fs i) (val fs j)) → ∃ Dk4, H4 b.x = some (.ins CB b.dx (bf b)) ∧ NDat P w K H4 b.ak Dk4 ∧ At K H4 (.ref kp) (pairD i j) ∧ (∃ L : List NestedKey, (∀ k, (Dk4 k).isSome = true → k ∈ L) ∧ L.length < sizeLine) ∧
              ∀ H5, (∀ c, c ≠ b.ak → H5 c = H4 c) → Ext H4 H5 → NDat P w K H5 b.ak (putD Dk4 (nk (pairD i j)) (.bl t)) → MvB b H1 H5 ∧ ∃ Dn' Dk', BookAt P w K CB H5 b fs Dn' Dk' Db ∧ BkOk fs Dn' Dk' ∧ (Dk' (nk (pairD i j))).isSome = true := by
            rintro H4 t m4 ⟨Dn4, Dk4, hA4, hK4⟩ ht
            refine ⟨Dk4, hA4.ins, hA4.kn, hK1.ext (m4.ext hB1), hK4.few few, fun H5 o5 x5 d5 => ?_⟩
            obtain ⟨hA5, m5⟩ := hA4.putKn o5 x5 d5
            refine ⟨m4.trans m5, Dn4, _, hA5, hK4.putK hi.lt hj.lt ht, ?_⟩
            unfold putD
            rw [if_pos rfl]; rfl
          have le1 := Gm.le_iff (x := val fs i) (y := val fs j)
          rw [val_L hK.ok hi', val_R hK.ok hj'] at le1
          refine ⟨_, rfl, _, rfl, _, rfl, ?_⟩
          refine ite2 (fun z => ?_) fun z => ?_
          rotate_left
          · have no : ¬ Gm.le (val fs i) (val fs j) := fun q => by
              refine z ?_
              show (!(fi.1.any fun m => leB (val fs j) (val fs m))) = true
              rw [Bool.not_eq_true', List.any_eq_false]
              intro m hm hc
              exact (le1.mp q).1 _ (List.mem_map.mpr ⟨m, hm, rfl⟩) (leB_iff.mp hc)
            obtain ⟨Dk4, l1, l2, l3, l4, l5⟩ := last (t := false) t hB3 ⟨fun q => (nomatch q), fun q => absurd q no⟩
            exact ⟨_, rfl, b.x, b.dx, _, _, rfl, l1, rfl, _, rfl, b.ak, Dk4, _, rfl, l2, l3, pair_depth i j, l4, fun H5 o5 x5 d5 => ⟨rfl, rfl, rfl, l5 H5 o5 x5 d5⟩⟩
          · have z : (!(fi.1.any fun m => leB (val fs j) (val fs m))) = true := z
            rw [Bool.not_eq_true', List.any_eq_false] at z
            obtain ⟨Dn3, Dk3, hA3, hK3⟩ := id hB3
            obtain ⟨ys3, af3, b1, b2, g1, g2, g3, g4, g5⟩ := hA3.form hj'
            refine ⟨_, rfl, b.x, b.dx, _, _, rfl, hA3.ins, rfl, _, rfl, b.af, ys3, _, _, rfl, rfl, SqL.of g1, g2, af3, _, _, _, rfl, rfl, g3, rfl, b2, rfl, ⟨_, g5⟩, ?_⟩
            refine lc_J (walk_tup (xs := fj.2.map nV)) (MvB b) (fun Dl k zs H' => BInv P w K CB H' b fs Db ∧ zs = ((fj.2.take k).map fun m => leB (val fs m) (val fs i)).map V.bl) (goes_mvB hB3) ?_ ?_ (fun _ _ => ⟨hB3, rfl⟩) ?_ ?_ ?_
            · have := (hK.ok.len1 hj').2
              rw [List.length_map, sizeLine_eq]; omega
            · intro H4 t4
              exact (t4.ext hB3).sqT g5
            · rintro Dl4 k zs H4 H5 nD4 x kk ⟨h, e⟩
              exact ⟨h.keepD (hB3.off nD4) x kk, e⟩
            · rintro Dl4 E E0 k x zs H4 H5 nD4 eD4 hk t4 ⟨hB4, rfl⟩ ⟨rfl, hx⟩ k1 k0
              rw [List.getElem?_map] at hx
              cases hm : fj.2[k]? with
              | none => rw [hm] at hx; cases hx
              | some m =>
                rw [hm] at hx
                cases hx
                obtain ⟨qa, rfl, hq⟩ := hj.opt hj' (.inr (List.mem_of_getElem? hm))
                obtain ⟨Dn4, Dk4, hA4, hK4⟩ := hB4
                refine ⟨rfl, _, rfl, b.x, b.dx, _, rfl, hA4.ins, bf_no b (by decide +kernel), _, rfl, _, rfl, b, fs, Db, m, i, qa, ra, rfl, ⟨Dn4, Dk4, hA4, hK4⟩, hq, hi, by omega, few, fun H6 t6 m6 hB6 ht => ?_⟩
                refine k1 _ H6 m6 ⟨hB6, ?_⟩
                rw [List.take_add_one, hm, List.map_append, List.map_append, leB_of ht]; rfl
            · rintro Dl4 H4 zs nD4 t4 eD4 _ ⟨hB4, rfl⟩
              rw [List.length_map, List.take_length] at eD4
              refine ⟨Dl4, _, rfl, SqL.of eD4, _, rfl, ?_⟩
              rw [any_map]
              obtain ⟨Dk5, l1, l2, l3, l4, l5⟩ := last (t := !(fj.2.any fun m => leB (val fs m) (val fs i))) (t.trans t4) hB4 (by
                rw [Bool.not_eq_true', List.any_eq_false, le1]
                constructor
                · intro h
                  refine ⟨fun l hl hc => ?_, fun r hr hc => ?_⟩
                  · obtain ⟨m, hm, rfl⟩ := List.mem_map.mp hl
                    exact z m hm (leB_iff.mpr hc)
                  · obtain ⟨m, hm, rfl⟩ := List.mem_map.mp hr
                    exact h m hm (leB_iff.mpr hc)
                · intro h m hm hc
                  exact h.2 _ (List.mem_map.mpr ⟨m, hm, rfl⟩) (leB_iff.mp hc))
              exact ⟨_, rfl, b.x, b.dx, _, _, rfl, l1, rfl, _, rfl, b.ak, Dk5, _, rfl, l2, l3, pair_depth i j, l4, fun H5 o5 x5 d5 => ⟨rfl, rfl, rfl, l5 H5 o5 x5 d5⟩⟩
    · rintro σ H2 ⟨hl, h0, h3, m2, Dn', Dk', hA2, hK2, hsm⟩
      obtain ⟨v2, hv2⟩ := Option.isSome_iff_exists.mp hsm
      refine ⟨_, h0, b.x, b.dx, _, _, rfl, hA2.ins, rfl, _, h3, b.ak, Dk', _, v2, rfl, hA2.kn, hK1.ext (m2.ext ⟨Dn, Dk, hA1, hK⟩), pair_depth i j, hv2, ?_⟩
      obtain ⟨t, rfl, ht⟩ := hK2.getK hv2
      exact q H2 t ((MvB.of_same s1).trans m2) ⟨_, _, hA2, hK2⟩ ht
end
end Sv

set_option maxHeartbeats 4000000
namespace Sv
open PySem PySem.Spec PyProof.Rows L2 L2H HotX LamX
section
variable {P : Program} {w : World} {K : PySem.W.Frag} {mg : Str → Option Value} {base : Heap} {CB : Addr}
def sideN (s : Bool) : Int := if s then 1 else 0
def spBack (P : Program) (w : World) (K : PySem.W.Frag) (CB : Addr) (n : Nat) : Sp := fun vs H Q _ => ∃ B fs Db o wh s a c f, vs = [.ref B.x, .int (o : Nat), .int (wh : Nat), .int (sideN s)] ∧ BInv P w K CB H B fs Db ∧ fs[o]? = some f ∧ Rk fs a o ∧ Rk fs c wh ∧ a + c < n ∧ fs.length ≤ 1000 ∧
  (∀ H', MvB B H H' → BInv P w K CB H' B fs Db → NoBack fs s wh o → Q .non H') ∧ ∀ H' r, MvB B H H' → BInv P w K CB H' B fs Db → r ∈ fo (!s) f → leS s (val fs r) (val fs wh) → Q (.int (r : Nat)) H'
theorem scBack : FnScope ["self", "option", "whole", "side", "answer"] ["self", "option", "whole", "side"] (defScope s_Book_answer_back) := ⟨rfl, rfl, rfl, by decide +kernel, rfl, by decide +kernel, by decide +kernel⟩
theorem k_back {n : Nat} (F : HereM K CB "answer_back" "Book.answer_back" s_Book_answer_back) (T : ClsT K mg "Book" CB fldsB) (d_most : KeepsM P w K mg base CX0 (n + 1) CB "is_most" ["self", "one", "other"] (spMost P w K CB n)) :
    KeepsM P w K mg base CX0 (n + 2) CB "answer_back" ["self", "option", "whole", "side"] (spBack P w K CB n) := by
  refine keepsM0 F scBack (fun _ _ _ _ _ _ us hl => match us, hl with | [_, _, _, _], _ => rfl) (fun vs H Q E h => by obtain ⟨_, _, _, _, _, _, _, _, _, e, _⟩ := h; rw [e]; rfl) fun f cdv A outer s H vs Q E hr h => ?_
  obtain ⟨b, fs, Db, o, wh, sd, ra, rc, f, rfl, hB, ho, hro, hrw, hn, few, q1, q2⟩ := h
  have n1 : NoAttr K CB "forms" := T.nf _ (by decide)
  refine ⟨_, pss_cons (ps_for PassesOwn.never rfl (pi_tupK K (pe_ix (ix_tupK K) (pe_ix (ix_listK K) (pe_fldK T.cl n1 (pv 0)) (pv 1) (fun _ _ => rfl)) (pe_op op_sub pe_int (pv 3)) (fun _ _ => rfl))) (pgn 4 scBack.nd)
      (pss_one (ps_if (pt_ifExp (pt_cmpR op_eq (pv 3) pe_int (nomark _)) (pt_val (pe_m0 d_most T.cl (hr.mono (by omega)) (pv 0) (pa2 (pv 4) (pv 2)))) (pt_val (pe_m0 d_most T.cl (hr.mono (by omega)) (pv 0) (pa2 (pv 2) (pv 4)))))
          (pss_one (ps_ret (pv 4)))
          (pss_nil))))
    (pss_one (ps_ret pe_non)), ?_⟩
  obtain ⟨Dn, Dk, hA, hK⟩ := id hB
  obtain ⟨ys, af, a1, a2, e1, e2, e3, e4, e5⟩ := hA.form ho
  have hix : ∃ a3, atI [V.ref a1, V.ref a2] (1 - sideN sd) = some (V.ref a3) ∧ SqT K H a3 ((fo (!sd) f).map nV) := by
    cases sd
    · exact ⟨a2, rfl, e5⟩
    · exact ⟨a1, rfl, e4⟩
  obtain ⟨a3, e6, e7⟩ := hix
  refine ⟨_, rfl, b.x, b.dx, _, _, rfl, hA.ins, rfl, _, rfl, b.af, ys, _, _, rfl, rfl, SqL.of e1, e2, _, rfl, _, _, rfl, rfl, af, _, _, _, rfl, rfl, e3, e6, a3, rfl, ⟨_, e7⟩, ?_⟩
  refine for_it (walk_tup (xs := (fo (!sd) f).map nV)) (fun i σ H' => (∃ y4, σ = [some (.ref b.x), some (.int (o : Nat)), some (.int (wh : Nat)), some (.int (sideN sd)), y4]) ∧ MvB b H H' ∧ BInv P w K CB H' b fs Db ∧ ∀ j ∈ (fo (!sd) f).take i, ¬ leS sd (val fs j) (val fs wh))
    ⟨⟨none, rfl⟩, MvB.refl b H, hB, fun j z => by simp at z⟩ ?_ ?_ ?_
  · rintro i σ H' _ ⟨_, m, _⟩
    exact (m.ext hB).sqT e7
  · rintro i x σ H5 H5' hi ⟨⟨y3, rfl⟩, m5, hB5, hall⟩ ⟨rfl, hx⟩
    rw [List.getElem?_map] at hx
    cases hj : (fo (!sd) f)[i]? with
    | none => rw [hj] at hx; cases hx
    | some j =>
      rw [hj] at hx
      cases hx
      have hjm := List.mem_of_getElem? hj
      obtain ⟨qa, rfl, hq⟩ := hro.opt ho (fo_mem hjm)
      obtain ⟨Dn5, Dk5, hA5, hK5⟩ := id hB5
      have go : ∀ H6 t, MvB b H5' H6 → BInv P w K CB H6 b fs Db → (t = true ↔ leS sd (val fs j) (val fs wh)) → if t = true then Q (nV j) H6 else ((∃ y4, [some (V.ref b.x), some (V.int (o : Nat)), some (V.int (wh : Nat)), some (V.int (sideN sd)), some (nV j)] = [some (V.ref b.x), some (V.int (o : Nat)), some (V.int (wh : Nat)), some (V.int (sideN sd)), y4]) ∧ MvB b H H6 ∧ BInv P w K CB H6 b fs Db ∧ ∀ j ∈ (fo (!sd) f).take (i + 1), ¬ leS sd (val fs j) (val fs wh)) := by
        intro H6 t m6 hB6 ht
        cases t with
        | true => exact q2 H6 j (m5.trans m6) hB6 hjm (ht.mp rfl)
        | false =>
          refine ⟨⟨_, rfl⟩, m5.trans m6, hB6, fun j' hj' => ?_⟩
          rw [List.take_add_one, hj] at hj'
          rcases List.mem_append.mp hj' with h | h
          · exact hall j' h
          · have : j' = j := by simpa using h
            subst this
            exact fun z => nomatch ht.mpr z
      refine ⟨_, rfl, rfl, _, rfl, ?_⟩
      cases sd
      · refine iteT ⟨_, rfl, b.x, b.dx, _, rfl, hA5.ins, bf_no b (by decide +kernel), _, rfl, _, rfl, b, fs, Db, j, wh, qa, rc, rfl, hB5, hq, hrw, by omega, few, fun H6 t m6 hB6 ht => ⟨t, rfl, ?_⟩⟩
        have := go H6 t m6 hB6 ht
        cases t with
        | true => exact ⟨_, rfl, this⟩
        | false => exact this
      · refine iteF ⟨_, rfl, b.x, b.dx, _, rfl, hA5.ins, bf_no b (by decide +kernel), _, rfl, _, rfl, b, fs, Db, wh, j, rc, qa, rfl, hB5, hrw, hq, by omega, few, fun H6 t m6 hB6 ht => ⟨t, rfl, ?_⟩⟩
        have := go H6 t m6 hB6 ht
        cases t with
        | true => exact ⟨_, rfl, this⟩
        | false => exact this
  · rintro σ H5 ⟨⟨y3, rfl⟩, m5, hB5, hall⟩
    rw [List.length_map, List.take_length] at hall
    refine q1 H5 m5 hB5 fun r hr => ?_
    rw [val_opt hK.ok ho] at hr
    obtain ⟨j, hj, rfl⟩ := List.mem_map.mp hr
    exact hall j hj
end
end Sv

set_option maxHeartbeats 4000000
namespace Sv
open PySem PySem.Spec PyProof.Rows L2 L2H HotX LamX
section
variable {P : Program} {w : World} {K : PySem.W.Frag} {mg : Str → Option Value} {base : Heap} {CB : Addr}
theorem MvB.free {B : Bx} {H H' : Hp} {fs' : List Form} {Db' : NestedKey → Option V} (m : MvB B H H') (h' : BInv P w K CB H' B fs' Db') {p : Addr} (e : H' p = none) : H p = none := by
  obtain ⟨_, a1, a2, a3, a4⟩ := h'.off e
  cases q : H p with
  | none => rfl
  | some o => rw [m p o q a1 a2 a3 a4] at e; cases e
theorem cutV_tail (v : V) (xs : List V) : cutV (v :: xs) (some 1) none = xs := by
  unfold cutV
  have h1 : HT.sIx (v :: xs).length 0 (some 1) = 1 := by
    unfold HT.sIx
    simp
  have h2 : HT.sIx (v :: xs).length (v :: xs).length none = (v :: xs).length := rfl
  rw [h1, h2, List.drop_succ_cons, List.drop_zero, List.length_cons, Nat.add_sub_cancel, List.take_length]
def spPlain (P : Program) (w : World) (K : PySem.W.Frag) (CB : Addr) (n : Nat) : Sp := fun vs H Q _ => ∃ B fs Db p, ∃ os : List Nat, ∃ wh s r c, vs = [.ref B.x, .ref p, .int (wh : Nat), .int (sideN s)] ∧ BInv P w K CB H B fs Db ∧ H p = some (.lst (os.map nV)) ∧
  (∀ o ∈ os, Gd fs r o ∧ Gm.Can (val fs o)) ∧ Rk fs c wh ∧ r + c < n ∧ os.length * cn r < 4000 ∧ fs.length ≤ 1000 ∧
  ∀ H' q (ps : List Nat), MvB B H H' → H q = none → BInv P w K CB H' B fs Db → H' q = some (.lst (ps.map nV)) → ps.Pairwise (· < ·) → ps.length ≤ os.length * cn r → (∀ o ∈ ps, Gd fs r o ∧ Gm.Can (val fs o) ∧ NoBack fs s wh o) →
    (∀ Bs, Gm.eqv (mkS s (os.map (val fs)) Bs) (val fs wh) → Gm.eqv (mkS s (ps.map (val fs)) Bs) (val fs wh)) → Q (.ref q) H'
theorem scPlain : FnScope ["self", "options", "whole", "side", "found", "left", "option", "back"] ["self", "options", "whole", "side"] (defScope s_Book_plain_options) := ⟨rfl, rfl, rfl, by decide +kernel, rfl, by decide +kernel, by decide +kernel⟩
theorem k_plain {n : Nat} (F : HereM K CB "plain_options" "Book.plain_options" s_Book_plain_options) (T : ClsT K mg "Book" CB fldsB) (B : Blt mg) (d_back : KeepsM P w K mg base CX0 (n + 2) CB "answer_back" ["self", "option", "whole", "side"] (spBack P w K CB n)) :
    KeepsM P w K mg base CX0 (n + 3) CB "plain_options" ["self", "options", "whole", "side"] (spPlain P w K CB n) := by
  refine keepsM0 F scPlain (fun _ _ _ _ _ _ us hl => match us, hl with | [_, _, _, _], _ => rfl) (fun vs H Q E h => by obtain ⟨_, _, _, _, _, _, _, _, _, e, _⟩ := h; rw [e]; rfl) fun f cdv A outer s H vs Q E hr h => ?_
  obtain ⟨b, fs, Db, p, os, wh, sd, r, rc, rfl, hB, hp, hos, hrw, hn, hsz, few, q⟩ := h
  have n1 : NoAttr K CB "forms" := T.nf _ (by decide)
  have hr1 := hr.mono (show 1 ≤ n + 2 by omega)
  refine ⟨_, pss_cons (ps_par (i := 4) (j := 5) rfl scPlain.nd rfl rfl (by decide) rfl rfl (pa2 (pe_lstN pa_nil) (pbt (call_listK K) B.list boot_list (pa1 (pv 1)))) (by rfl))
    (pss_cons (ps_while PassesOwn.never (pt_cmpR (op_neNilK K hr.units) (pv 5) (pe_lstN pa_nil) (nomark _))
      (pss_cons (st 6 scPlain.nd (pe_ix (ix_listK K) (pv 5) pe_int (fun _ _ => rfl)))
        (pss_cons (st 5 scPlain.nd (pe_slice (sl_listK K) (pv 5) (po_some pe_int) po_none))
        (pss_cons (st 7 scPlain.nd (pe_m0 d_back T.cl (hr.mono (by omega)) (pv 0) (pa3 (pv 6) (pv 2) (pv 3))))
        (pss_one (ps_if (pt_cmpR op_isN (pv 7) pe_non (nomark _))
          (pss_one (ps_expr (pe_bm PySem.F.plainAttrs_list PySem.F.slot_list_append PySem.F.type_list_append mt_append (pv 4) (pa1 (pv 6)))))
          (pss_one (st 5 scPlain.nd (pe_op op_catN (pv 5) (pbt (call_listK K) B.list boot_list (pa1 (pe_ix (ix_tupK K) (pe_ix (ix_listK K) (pe_fldK T.cl n1 (pv 0)) (pv 7) (fun _ _ => rfl)) (pv 3) (fun _ _ => rfl)))))))))))))
    (pss_one (ps_ret (pe_sset rfl (by rfl) B.sorted (by rfl) B.set (pv 4))))), ?_⟩
  have offB : ∀ {c : Addr}, H c = none → c ≠ b.af := fun e => (hB.off e).2.2.1
  refine ⟨szl rfl, fun F0 H1 nF s1 eF => ⟨_, rfl, p, _, rfl, .inl (SqL.of (s1 _ _ hp)), fun L0 H2 nL s2 eL => ⟨_, _, rfl, ?_⟩⟩⟩
  have hB2 := hB.same (s1.trans s2)
  have hS0 : PlSt fs sd wh r (os.length * cn r) os [] (os.map fun x => (x, r)) := PlSt.start hos
  refine ⟨fun m σ H' => ∃ F L fd lf y6 y7, σ = [some (.ref b.x), some (.ref p), some (.int (wh : Nat)), some (.int (sideN sd)), some (.ref F), some (.ref L), y6, y7] ∧ MvB b H H' ∧ BInv P w K CB H' b fs Db ∧ H F = none ∧ H' F = some (.lst (fd.map nV)) ∧ H L = none ∧ H' L = some (.lst ((lf.map (·.1)).map nV)) ∧ L ≠ F ∧ PlSt fs sd wh r (os.length * cn r) os fd lf ∧ m = mea lf, ?_, ?_⟩
  · refine ⟨_, F0, L0, [], _, none, none, rfl, MvB.of_same (s1.trans s2), hB2, nF, s2 _ _ eF, s1.free nL, ?_, ?_, hS0, rfl⟩
    · rw [fst_same]; exact eL
    · exact (ne_of_none (eF) nL).symm
  · rintro m σ H3 ⟨F, L, fd, lf, y6, y7, rfl, m3, hB3, nF, eF, nL, eL, neLF, hS, rfl⟩
    refine ⟨_, rfl, szl rfl, fun N H4 nN s4 eN => ⟨L, N, (lf.map (·.1)).map (fun (n : Nat) => (n : Int)), rfl, rfl, SqL.of (by rw [← nV_int]; exact s4 _ _ eL), SqL.of eN, fun z => ?_, fun z => ?_⟩⟩
    · have z1 : lf = [] := by
        cases lf with
        | nil => rfl
        | cons a l => cases z
      subst z1
      refine ⟨false, rfl, iteF ?_⟩
      have few2 := hS.few
      have hB4 := hB3.same s4
      refine ⟨_, rfl, F, fd.map (fun (n : Nat) => (n : Int)), rfl, SqL.of (by rw [← nV_int]; exact s4 _ _ eF), by rw [List.length_map]; unfold scanBound; omega, fun ns p' up me np => ?_⟩
      obtain ⟨ps, e1, u1, m1⟩ := nat_set up me
      rw [e1]
      have s5 : Same H4 (upd H4 p' (.lst (ps.map nV))) := same_new np
      refine q _ p' ps ((m3.same s4).same s5) ((m3.same s4).free hB4 np) (hB4.same s5) upd_same u1 ?_ (fun o ho => hS.hfd o ((m1 o).mp ho)) fun Bs hBs => ?_
      · have h1 := nodup_le (l := ps) (m := fd) (u1.imp fun h => Nat.ne_of_lt h) fun x hx => (m1 x).mp hx
        omega
      · refine Gm.eqv.trans (memS (fun g => ?_) fun g => Iff.rfl) (hS.eqv Bs hBs)
        rw [List.map_nil, List.append_nil, List.mem_map, List.mem_map]
        constructor
        · rintro ⟨x, hx, rfl⟩
          exact ⟨x, (m1 x).mp hx, rfl⟩
        · rintro ⟨x, hx, rfl⟩
          exact ⟨x, (m1 x).mpr hx, rfl⟩
    · obtain ⟨⟨o, qo⟩, lf, rfl⟩ : ∃ a l, lf = a :: l := by
        cases lf with
        | nil => exact absurd rfl z
        | cons a l => exact ⟨a, l, rfl⟩
      refine ⟨true, rfl, iteT ⟨_, fun σ' H' h => h, ?_⟩⟩
      have hB4 := hB3.same s4
      have m4 := m3.same s4
      refine ⟨_, rfl, L, _, 0, nV o, rfl, rfl, SqL.of (s4 _ _ eL), atI_nat (j := 0) rfl, _, rfl, _, rfl, L, _, rfl, SqL.of (s4 _ _ eL), fun L5 H5 nL5 s5 eL5 => ?_⟩
      rw [show (((o, qo) :: lf).map (·.1)).map nV = nV o :: (lf.map (·.1)).map nV from rfl, cutV_tail] at eL5
      have hB5 := hB4.same s5
      have m5 := m4.same s5
      have eF5 := s5 _ _ (s4 _ _ eF)
      have nH5 : H L5 = none := m4.free hB4 nL5
      have ne5 : L5 ≠ F := (ne_of_none (s4 _ _ eF) nL5).symm
      obtain ⟨g1, g2, g3⟩ := hS.hlf (o, qo) List.mem_cons_self
      obtain ⟨fo', ho'⟩ : ∃ f, fs[o]? = some f := ⟨_, List.getElem?_eq_getElem g1.lt⟩
      obtain ⟨Dn5, Dk5, hA5, hK5⟩ := id hB5
      refine ⟨_, rfl, b.x, b.dx, _, rfl, hA5.ins, bf_no b (by decide +kernel), _, rfl, _, rfl, _, rfl, b, fs, Db, o, wh, sd, r, rc, fo', rfl, hB5, ho', (g1.mono g2).rk, hrw, hn, few, fun H6 m6 hB6 hno => ?_, fun H6 bk m6 hB6 hbk hle => ?_⟩
      · have eF6 := m6.lst hB5 eF5 (offB nF)
        have eL6 := m6.lst hB5 eL5 (offB nH5)
        refine ⟨_, rfl, rfl, _, rfl, iteT ⟨_, rfl, .inl ⟨rfl, _, SqL.of eF6⟩, _, rfl, F, _, _, rfl, rfl, eF6, ?_, ?_⟩⟩
        · have few2 := hS.few
          rw [List.length_map, sizeLine_eq]; omega
        · have x7 : Ext H6 (upd H6 F (.lst (fd.map nV ++ [nV o]))) := Ext.lst eF6
          refine ⟨mea lf, ?_, F, L5, fd ++ [o], lf, _, _, rfl, ?_, hB6.keepD (hB.off nF) x7 (fun c u n e => by rw [upd_ne n]; exact e), nF, by rw [upd_same, List.map_append]; rfl, nH5, by rw [upd_ne ne5]; exact eL6, ne5, hS.found hno, rfl⟩
          · rw [mea_cons]
            have := mm_pos qo
            show mea lf < mm qo + mea lf
            omega
          · intro c u e a1 a2 a3 a4
            rw [upd_ne (ne_of_none e nF)]
            exact (m5.trans m6) c u e a1 a2 a3 a4
      · have eF6 := m6.lst hB5 eF5 (offB nF)
        have eL6 := m6.lst hB5 eL5 (offB nH5)
        obtain ⟨Dn6, Dk6, hA6, hK6⟩ := id hB6
        have hbl : bk < fs.length := by
          cases sd
          · exact Nat.lt_trans ((hK6.ok.lt o fo' ho').2 bk hbk) g1.lt
          · exact Nat.lt_trans ((hK6.ok.lt o fo' ho').1 bk hbk) g1.lt
        obtain ⟨fb, hfb⟩ : ∃ f, fs[bk]? = some f := ⟨_, List.getElem?_eq_getElem hbl⟩
        obtain ⟨ys, af, a1, a2, e1, e2, e3, e4, e5⟩ := hA6.form hfb
        have hix : ∃ a3, atI [V.ref a1, V.ref a2] (sideN sd) = some (V.ref a3) ∧ SqT K H6 a3 ((fo sd fb).map nV) := by
          cases sd
          · exact ⟨a1, rfl, e4⟩
          · exact ⟨a2, rfl, e5⟩
        obtain ⟨a3, e6, e7⟩ := hix
        obtain ⟨q2, hS2, hm2⟩ := hS.back hK6.ok ho' hbk hfb hle
        have few2 := hS2.few
        have lenf : (lf.map (·.1)).length + (fo sd fb).length ≤ 4000 := by
          have := pot_len (lf ++ (fo sd fb).map fun x => (x, q2))
          rw [List.length_append, List.length_map] at this
          rw [List.length_map]
          omega
        refine ⟨_, rfl, rfl, _, rfl, iteF ⟨_, rfl, _, rfl, b.x, b.dx, _, _, rfl, hA6.ins, rfl, _, rfl, b.af, ys, _, _, rfl, rfl, SqL.of e1, e2, _, rfl, af, _, _, _, rfl, rfl, e3, e6, a3, _, rfl, .inr e7, fun N7 H7 nN7 s7 eN7 => ⟨L5, N7, _, _, rfl, rfl, s7 _ _ eL6, eN7, ?_, fun M8 H8 nM8 s8 eM8 => ?_⟩⟩⟩
        · rw [List.length_map, List.length_map (as := fo sd fb), sizeLine_eq]; omega
        · have s68 := s7.trans s8
          have m8 := ((m5.trans m6).same s68)
          refine ⟨_, hm2, F, M8, fd, _, _, _, rfl, m8, hB6.same s68, nF, s68 _ _ eF6, ((m5.trans m6).same s7).free (hB6.same s7) nM8, ?_, (ne_of_none (s7 _ _ eF6) nM8).symm, hS2, rfl⟩
          rw [eM8, List.map_append, fst_same, List.map_append]
end
end Sv

set_option maxHeartbeats 4000000
namespace Sv
open PySem PySem.Spec PyProof.Rows L2 L2H HotX LamX
section
variable {P : Program} {w : World} {K : PySem.W.Frag} {mg : Str → Option Value} {base : Heap} {CB : Addr}
def spBest (P : Program) (w : World) (K : PySem.W.Frag) (CB : Addr) (n : Nat) : Sp := fun vs H Q _ => ∃ B fs Db p, ∃ os : List Nat, ∃ s r, vs = [.ref B.x, .ref p, .int (sideN s)] ∧ BInv P w K CB H B fs Db ∧ H p = some (.lst (os.map nV)) ∧ p ≠ B.af ∧
  (∀ o ∈ os, Rk fs r o) ∧ r + r < n ∧ os.length < 4000 ∧ fs.length ≤ 1000 ∧
  ∀ H' q, MvB B H H' → H q = none → BInv P w K CB H' B fs Db → H' q = some (.lst ((bestL fs s os).map nV)) → Q (.ref q) H'
theorem scBest : FnScope ["self", "options", "side", "found", "one", "rest", "other"] ["self", "options", "side"] (defScope s_Book_best_options) := ⟨rfl, rfl, rfl, by decide +kernel, rfl, by decide +kernel, by decide +kernel⟩
theorem k_best {n : Nat} (F : HereM K CB "best_options" "Book.best_options" s_Book_best_options) (T : ClsT K mg "Book" CB fldsB) (B : Blt mg) (d_most : KeepsM P w K mg base CX0 (n + 1) CB "is_most" ["self", "one", "other"] (spMost P w K CB n)) :
    KeepsM P w K mg base CX0 (n + 2) CB "best_options" ["self", "options", "side"] (spBest P w K CB n) := by
  refine keepsM0 F scBest (fun _ _ _ _ _ _ us hl => match us, hl with | [_, _, _], _ => rfl) (fun vs H Q E h => by obtain ⟨_, _, _, _, _, _, _, e, _⟩ := h; rw [e]; rfl) fun f cdv A outer s H vs Q E hr h => ?_
  obtain ⟨b, fs, Db, p, os, sd, r, rfl, hB, hp, hpa, hos, hn, hsz, few, q⟩ := h
  refine ⟨_, pss_cons (st 3 scBest.nd (pe_lstN pa_nil))
    (pss_cons (ps_for PassesOwn.never rfl (pi_listK K (pv 1)) (pgn 4 scBest.nd)
      (pss_cut (ps_setLc (i := 5) (own := [("other", 6)]) rfl scBest.nd rfl rfl (sw_true rfl rfl rfl (by decide +kernel)) (pi_listK K (pv 1)) (blkOk_by (own := [("other", 6)]) (N := ["self", "options", "side", "found", "one", "rest", "other"]) (sc := defScope s_Book_best_options) (by decide +kernel)) (fun _ _ _ _ _ => pgn 6 scBest.nd) (fun _ _ _ _ _ => pts_one (pt_cmpR op_ne (pv 6) (pv 4) (nomark _))) (fun _ _ _ _ _ => pv 6))
        (pss_cut (ps_if (PW.pt (pw_and (pt_cmpR op_eq (pv 2) pe_int (nomark _)) (pw_and1 (pt_not (pt_val (pb (cr_anyK K rfl) B.any boot_any (pa1 (pe_lc (own := [("other", 6)]) rfl scBest.nd (pi_listK K (pv 5)) (blkOk_by (own := [("other", 6)]) (N := ["self", "options", "side", "found", "one", "rest", "other"]) (sc := defScope s_Book_best_options) (by decide +kernel)) (fun _ _ _ _ _ => pgn 6 scBest.nd) (fun _ _ _ _ _ => pts_nil) (fun _ _ _ _ _ => pe_m0 d_most T.cl (hr.mono (by omega)) (pv 0) (pa2 (pv 4) (pv 6)))))))))))
          (pss_one (ps_expr (pe_bm PySem.F.plainAttrs_list PySem.F.slot_list_append PySem.F.type_list_append mt_append (pv 3) (pa1 (pv 4)))))
          (pss_nil))
        (pss_one (ps_if (PW.pt (pw_and (pt_cmpR op_eq (pv 2) pe_int (nomark _)) (pw_and1 (pt_not (pt_val (pb (cr_anyK K rfl) B.any boot_any (pa1 (pe_lc (own := [("other", 6)]) rfl scBest.nd (pi_listK K (pv 5)) (blkOk_by (own := [("other", 6)]) (N := ["self", "options", "side", "found", "one", "rest", "other"]) (sc := defScope s_Book_best_options) (by decide +kernel)) (fun _ _ _ _ _ => pgn 6 scBest.nd) (fun _ _ _ _ _ => pts_nil) (fun _ _ _ _ _ => pe_m0 d_most T.cl (hr.mono (by omega)) (pv 0) (pa2 (pv 6) (pv 4)))))))))))
          (pss_one (ps_expr (pe_bm PySem.F.plainAttrs_list PySem.F.slot_list_append PySem.F.type_list_append mt_append (pv 3) (pa1 (pv 4)))))
          (pss_nil))))))
    (pss_one (ps_ret (pv 3)))), ?_⟩
  have offB : ∀ {c : Addr}, H c = none → c ≠ b.af := fun e => (hB.off e).2.2.1
  refine ⟨szl rfl, fun F0 H1 nF s1 eF => ⟨_, rfl, p, rfl, ⟨_, SqL.of (s1 _ _ hp)⟩, ?_⟩⟩
  have neF : F0 ≠ p := (ne_of_none hp nF).symm
  refine for_it (walk_list (xs := os.map nV)) (fun i σ H' => (∃ y4 y5 y6, σ = [some (.ref b.x), some (.ref p), some (.int (sideN sd)), some (.ref F0), y4, y5, y6]) ∧ MvB b H H' ∧ BInv P w K CB H' b fs Db ∧ H' F0 = some (.lst (((os.take i).filter (bestIs fs sd os)).map nV)) ∧ H' p = some (.lst (os.map nV)))
    ⟨⟨none, none, none, rfl⟩, MvB.of_same s1, hB.same s1, eF, s1 _ _ hp⟩ ?_ ?_ ?_
  · rintro i σ H' _ ⟨_, m, hB', _, ep⟩
    exact SqL.of ep
  · rintro i x σ H5 H5' hi ⟨⟨y4, y5, y6, rfl⟩, m5, hB5, eF5, ep5⟩ ⟨rfl, hx⟩
    rw [List.getElem?_map] at hx
    cases hj : os[i]? with
    | none => rw [hj] at hx; cases hx
    | some o =>
      rw [hj] at hx
      cases hx
      have hom := List.mem_of_getElem? hj
      generalize hfd : (os.take i).filter (bestIs fs sd os) = fd at eF5
      have hfd2 : (os.take (i + 1)).filter (bestIs fs sd os) = fd ++ (if bestIs fs sd os o = true then [o] else []) := by
        rw [List.take_add_one, hj, List.filter_append, hfd]
        show fd ++ [o].filter _ = _
        rw [List.filter_cons]; rfl
      have fdl : fd.length < sizeLine := by
        rw [← hfd, sizeLine_eq]
        have h1 := List.length_filter_le (bestIs fs sd os) (os.take i)
        have h2 := List.length_take_le' i os
        omega
      refine ⟨fun σ H' => (∃ R, σ = [some (.ref b.x), some (.ref p), some (.int (sideN sd)), some (.ref F0), some (nV o), some (.ref R), y6] ∧ Same H5' H' ∧ H5' R = none ∧ H' R = some (.lst ((os.filter fun x => x != o).map nV))), ?_, ?_⟩
      · refine ⟨_, rfl, p, rfl, ⟨_, SqL.of ep5⟩, ?_⟩
        refine lc_J (walk_list (xs := os.map nV)) Same (fun Dl k zs H' => zs = ((os.take k).filter fun x => x != o).map nV) (goes_same H5') (by rw [List.length_map, sizeLine_eq]; omega) (fun H' t => SqL.of (t _ _ ep5)) (fun _ _ => rfl) (fun _ _ _ _ _ _ _ _ r => r) ?_ ?_
        · rintro Dl E E0 k x zs H3 H4 nD eD hk t rfl ⟨rfl, hx⟩ k1 k0
          rw [List.getElem?_map] at hx
          cases hm : os[k]? with
          | none => rw [hm] at hx; cases hx
          | some m =>
            rw [hm] at hx
            cases hx
            refine ⟨rfl, _, rfl, _, rfl, rfl, _, rfl, ?_⟩
            have e2 : (os.take (k + 1)).filter (fun x => x != o) = (os.take k).filter (fun x => x != o) ++ (if (m != o) = true then [m] else []) := by
              rw [List.take_add_one, hm, List.filter_append]
              show _ ++ [m].filter _ = _
              rw [List.filter_cons]; rfl
            by_cases c : m = o
            · have e3 : decide (nV m = nV o) = true := decide_eq_true (congrArg nV c)
              rw [e3]
              refine iteF (k0 H4 (Same.refl _) ?_)
              rw [e2, if_neg (by simp [c]), List.append_nil]
            · have e3 : decide (nV m = nV o) = false := decide_eq_false fun z => c (by have := V.int.inj z; omega)
              rw [e3]
              refine iteT ⟨_, rfl, k1 _ H4 (Same.refl _) ?_⟩
              rw [e2, if_pos (by simpa using c), List.map_append]; rfl
        · rintro Dl H3 zs nD t eD _ rfl
          rw [List.length_map, List.take_length] at eD
          exact ⟨Dl, rfl, t, nD, eD⟩
      · rintro σ H6 ⟨R, rfl, s6, nR, eR⟩
        have hB6 := hB5.same s6
        have hR0 := (hB5.off nR).2.2.1
        have offR : R ≠ b.af := hR0
        generalize hrs0 : (os.filter fun x => x != o) = rs at eR
        have hrs : ∀ m ∈ rs, Rk fs r m := fun m hm => hos m (by rw [← hrs0] at hm; exact (List.mem_filter.mp hm).1)
        have lrs : rs.length < 4000 := by
          rw [← hrs0]
          exact Nat.lt_of_le_of_lt (List.length_filter_le ..) hsz
        have hro := hos o hom
        have best : bestIs fs sd os o = !(rs.any fun m => leSB sd (val fs o) (val fs m)) := by unfold bestIs; rw [hrs0]
        have m6 : MvB b H H6 := m5.same s6
        have eF6 := s6 _ _ eF5
        have ep6 := s6 _ _ ep5
        have fin : ∀ H7, MvB b H6 H7 → BInv P w K CB H7 b fs Db → ∀ (S : L2.St), (∃ y4 y5 y6, S = [some (V.ref b.x), some (V.ref p), some (V.int (sideN sd)), some (V.ref F0), y4, y5, y6]) →
            (bestIs fs sd os o = true → tyV K "list" (.ref F0) H7 ∧ H7 F0 = some (.lst (fd.map nV)) ∧ ((∃ y4 y5 y6, S = [some (V.ref b.x), some (V.ref p), some (V.int (sideN sd)), some (V.ref F0), y4, y5, y6]) ∧ MvB b H (upd H7 F0 (.lst (fd.map nV ++ [nV o]))) ∧ BInv P w K CB (upd H7 F0 (.lst (fd.map nV ++ [nV o]))) b fs Db ∧ upd H7 F0 (.lst (fd.map nV ++ [nV o])) F0 = some (.lst (((os.take (i + 1)).filter (bestIs fs sd os)).map nV)) ∧ upd H7 F0 (.lst (fd.map nV ++ [nV o])) p = some (.lst (os.map nV)))) ∧
            (bestIs fs sd os o = false → (∃ y4 y5 y6, S = [some (V.ref b.x), some (V.ref p), some (V.int (sideN sd)), some (V.ref F0), y4, y5, y6]) ∧ MvB b H H7 ∧ BInv P w K CB H7 b fs Db ∧ H7 F0 = some (.lst (((os.take (i + 1)).filter (bestIs fs sd os)).map nV)) ∧ H7 p = some (.lst (os.map nV))) := by
          intro H7 m7 hB7 S hS
          have eF7 := m7.lst hB6 eF6 (offB nF)
          have ep7 := m7.lst hB6 ep6 hpa
          have x7 : Ext H7 (upd H7 F0 (.lst (fd.map nV ++ [nV o]))) := Ext.lst eF7
          refine ⟨fun z => ⟨.inl ⟨rfl, _, SqL.of eF7⟩, eF7, hS, ?_, hB7.keepD (hB.off nF) x7 (fun c u n e => by rw [upd_ne n]; exact e), ?_, ?_⟩, fun z => ⟨hS, m6.trans m7, hB7, ?_, ep7⟩⟩
          · intro c u e a1 a2 a3 a4
            rw [upd_ne (ne_of_none e nF)]
            exact (m6.trans m7) c u e a1 a2 a3 a4
          · rw [upd_same, hfd2, if_pos z, List.map_append]; rfl
          · rw [upd_ne neF.symm]; exact ep7
          · rw [hfd2, z, if_neg (by decide), List.append_nil]; exact eF7
        cases sd
        · refine ⟨fun σ H' => (∃ y4 y5 y6, σ = [some (V.ref b.x), some (V.ref p), some (V.int (sideN false)), some (V.ref F0), y4, y5, y6]) ∧ MvB b H H' ∧ BInv P w K CB H' b fs Db ∧ H' F0 = some (.lst (((os.take (i + 1)).filter (bestIs fs false os)).map nV)) ∧ H' p = some (.lst (os.map nV)), ?_, ?_⟩
          · refine ⟨_, rfl, rfl, _, rfl, iteT ⟨_, rfl, R, rfl, ⟨_, SqL.of eR⟩, ?_⟩⟩
            refine lc_J (walk_list (xs := rs.map nV)) (MvB b) (fun Dl k zs H' => BInv P w K CB H' b fs Db ∧ zs = ((rs.take k).map fun m => leSB false (val fs o) (val fs m)).map V.bl) (goes_mvB hB6) (by rw [List.length_map, sizeLine_eq]; omega) (fun H' t => SqL.of (t.lst hB6 eR offR)) (fun _ _ => ⟨hB6, rfl⟩) (fun Dl k zs H3 H4 nD x kk h => ⟨h.1.keepD (hB6.off nD) x kk, h.2⟩) ?_ ?_
            · rintro Dl E E0 k x zs H3 H4 nD eD hk t ⟨hB3, rfl⟩ ⟨rfl, hx⟩ k1 k0
              rw [List.getElem?_map] at hx
              cases hm : rs[k]? with
              | none => rw [hm] at hx; cases hx
              | some m =>
                rw [hm] at hx
                cases hx
                have hmm := hrs m (List.mem_of_getElem? hm)
                obtain ⟨Dn3, Dk3, hA3, hK3⟩ := id hB3
                refine ⟨rfl, _, rfl, b.x, b.dx, _, rfl, hA3.ins, bf_no b (by decide +kernel), _, rfl, _, rfl, b, fs, Db, o, m, r, r, rfl, hB3, hro, hmm, by omega, few, fun H5 t5 m5 hB5 ht => ?_⟩
                refine k1 _ H5 m5 ⟨hB5, ?_⟩
                rw [List.take_add_one, hm, List.map_append, List.map_append]
                have : t5 = leSB false (val fs o) (val fs m) := by rw [Bool.eq_iff_iff, ht, leSB_iff]; rfl
                rw [this]; rfl
            · rintro Dl H7 zs nD t eD _ ⟨hB7, rfl⟩
              rw [List.length_map, List.take_length] at eD
              refine ⟨Dl, _, rfl, SqL.of eD, ?_⟩
              rw [any_map]
              refine ⟨_, rfl, ?_⟩
              obtain ⟨f1, f2⟩ := fin H7 t hB7 _ ⟨_, _, _, rfl⟩
              rw [← best]
              cases hb : bestIs fs false os o with
              | true =>
                obtain ⟨g1, g2, g3⟩ := f1 hb
                exact iteT ⟨_, rfl, g1, _, rfl, F0, _, _, rfl, rfl, g2, by rw [List.length_map]; exact fdl, g3⟩
              | false => exact iteF (f2 hb)
          · rintro σ H7 ⟨⟨y4, y5, y6, rfl⟩, h7⟩
            exact ⟨_, rfl, rfl, _, rfl, iteF ⟨⟨_, _, _, rfl⟩, h7⟩⟩
        · refine ⟨fun σ H' => (∃ y6, σ = [some (V.ref b.x), some (V.ref p), some (V.int (sideN true)), some (V.ref F0), some (nV o), some (.ref R), y6]) ∧ H' = H6, ?_, ?_⟩
          · exact ⟨_, rfl, rfl, _, rfl, iteF ⟨⟨_, rfl⟩, rfl⟩⟩
          · rintro σ H6' ⟨⟨y6, rfl⟩, rfl⟩
            refine ⟨_, rfl, rfl, _, rfl, iteT ⟨_, rfl, R, rfl, ⟨_, SqL.of eR⟩, ?_⟩⟩
            refine lc_J (walk_list (xs := rs.map nV)) (MvB b) (fun Dl k zs H' => BInv P w K CB H' b fs Db ∧ zs = ((rs.take k).map fun m => leSB true (val fs o) (val fs m)).map V.bl) (goes_mvB hB6) (by rw [List.length_map, sizeLine_eq]; omega) (fun H' t => SqL.of (t.lst hB6 eR offR)) (fun _ _ => ⟨hB6, rfl⟩) (fun Dl k zs H3 H4 nD x kk h => ⟨h.1.keepD (hB6.off nD) x kk, h.2⟩) ?_ ?_
            · rintro Dl E E0 k x zs H3 H4 nD eD hk t ⟨hB3, rfl⟩ ⟨rfl, hx⟩ k1 k0
              rw [List.getElem?_map] at hx
              cases hm : rs[k]? with
              | none => rw [hm] at hx; cases hx
              | some m =>
                rw [hm] at hx
                cases hx
                have hmm := hrs m (List.mem_of_getElem? hm)
                obtain ⟨Dn3, Dk3, hA3, hK3⟩ := id hB3
                refine ⟨rfl, _, rfl, b.x, b.dx, _, rfl, hA3.ins, bf_no b (by decide +kernel), _, rfl, _, rfl, b, fs, Db, m, o, r, r, rfl, hB3, hmm, hro, by omega, few, fun H5 t5 m5 hB5 ht => ?_⟩
                refine k1 _ H5 m5 ⟨hB5, ?_⟩
                rw [List.take_add_one, hm, List.map_append, List.map_append]
                have : t5 = leSB true (val fs o) (val fs m) := by rw [Bool.eq_iff_iff, ht, leSB_iff]; rfl
                rw [this]; rfl
            · rintro Dl H7 zs nD t eD _ ⟨hB7, rfl⟩
              rw [List.length_map, List.take_length] at eD
              refine ⟨Dl, _, rfl, SqL.of eD, ?_⟩
              rw [any_map]
              refine ⟨_, rfl, ?_⟩
              obtain ⟨f1, f2⟩ := fin H7 t hB7 _ ⟨_, _, _, rfl⟩
              rw [← best]
              cases hb : bestIs fs true os o with
              | true =>
                obtain ⟨g1, g2, g3⟩ := f1 hb
                exact iteT ⟨_, rfl, g1, _, rfl, F0, _, _, rfl, rfl, g2, by rw [List.length_map]; exact fdl, g3⟩
              | false => exact iteF (f2 hb)
  · rintro σ H5 ⟨⟨y4, y5, y6, rfl⟩, m5, hB5, eF5, ep5⟩
    rw [List.length_map, List.take_length] at eF5
    exact ⟨_, rfl, q H5 F0 m5 nF hB5 eF5⟩
end
end Sv

set_option maxHeartbeats 4000000
namespace Sv
open PySem PySem.Spec PyProof.Rows L2 L2H HotX LamX
section
variable {P : Program} {w : World} {K : PySem.W.Frag} {mg : Str → Option Value} {base : Heap} {CB : Addr}
def spLeast (P : Program) (w : World) (K : PySem.W.Frag) (CB : Addr) : Sp := fun vs H Q _ => ∃ B fs Db p1 p2, ∃ ws bs : List Nat, ∃ r, vs = [.ref B.x, .ref p1, .ref p2] ∧ BInv P w K CB H B fs Db ∧ H p1 = some (.lst (ws.map nV)) ∧ H p2 = some (.lst (bs.map nV)) ∧ p1 ≠ B.af ∧ p2 ≠ B.af ∧
  (∀ o ∈ ws, Gd fs r o ∧ Gm.Can (val fs o)) ∧ (∀ o ∈ bs, Gd fs r o ∧ Gm.Can (val fs o)) ∧ ws.length ≤ r + 1 ∧ bs.length ≤ r + 1 ∧ r ≤ 6 ∧ fs.length + 2 ≤ 1000 ∧
  ∀ H' (gs : List Form) i, MvB B H H' → BInv P w K CB H' B (fs ++ gs) Db → gs.length ≤ 2 → Gd (fs ++ gs) (r + 1) i → Gm.Can (val (fs ++ gs) i) → Gm.eqv (val (fs ++ gs) i) (.mk (ws.map (val fs)) (bs.map (val fs))) → Q (.int (i : Nat)) H'
theorem scLeast : FnScope ["self", "whites", "blacks", "whole", "first", "last"] ["self", "whites", "blacks"] (defScope s_Book_least) := ⟨rfl, rfl, rfl, by decide +kernel, rfl, by decide +kernel, by decide +kernel⟩
theorem k_least (F : HereM K CB "least" "Book.least" s_Book_least) (T : ClsT K mg "Book" CB fldsB) (d_enter : KeepsM P w K mg base CX0 1 CB "enter" ["self", "whites", "blacks"] (spEnter P w K CB)) (d_plain : KeepsM P w K mg base CX0 18 CB "plain_options" ["self", "options", "whole", "side"] (spPlain P w K CB 15)) (d_best : KeepsM P w K mg base CX0 17 CB "best_options" ["self", "options", "side"] (spBest P w K CB 15)) :
    KeepsM P w K mg base CX0 19 CB "least" ["self", "whites", "blacks"] (spLeast P w K CB) := by
  refine keepsM0 F scLeast (fun _ _ _ _ _ _ us hl => match us, hl with | [_, _, _], _ => rfl) (fun vs H Q E h => by obtain ⟨_, _, _, _, _, _, _, _, e, _⟩ := h; rw [e]; rfl) fun f cdv A outer s H vs Q E hr h => ?_
  obtain ⟨b, fs, Db, p1, p2, ws, bs, r, rfl, hB, h1, h2, a1, a2, hws, hbs, lw, lb, hr6, few, q⟩ := h
  refine ⟨_, pss_cons (st 3 scLeast.nd (pe_m0 d_enter T.cl (hr.mono (by decide)) (pv 0) (pa2 (pv 1) (pv 2))))
    (pss_cons (st 4 scLeast.nd (pe_m0 d_best T.cl (hr.mono (by decide)) (pv 0) (pa2 (pe_m0 d_plain T.cl (hr.mono (by decide)) (pv 0) (pa3 (pv 1) (pv 3) pe_int)) pe_int)))
    (pss_cons (st 5 scLeast.nd (pe_m0 d_best T.cl (hr.mono (by decide)) (pv 0) (pa2 (pe_m0 d_plain T.cl (hr.mono (by decide)) (pv 0) (pa3 (pv 2) (pv 3) pe_int)) pe_int)))
    (pss_one (ps_ret (pe_m0 d_enter T.cl (hr.mono (by decide)) (pv 0) (pa2 (pv 4) (pv 5))))))), ?_⟩
  have hB' := hB
  obtain ⟨Dn, Dk, hA, hK⟩ := hB'
  have w4 : wn (r + 1) < 4000 ∧ cn r < 400 := by
    have : r = 0 ∨ r = 1 ∨ r = 2 ∨ r = 3 ∨ r = 4 ∨ r = 5 ∨ r = 6 := by omega
    rcases this with rfl | rfl | rfl | rfl | rfl | rfl | rfl <;> decide
  have lt1 : ∀ j ∈ ws, j < fs.length := fun j hj => (hws j hj).1.lt
  have lt2 : ∀ j ∈ bs, j < fs.length := fun j hj => (hbs j hj).1.lt
  refine ⟨_, rfl, b.x, b.dx, _, rfl, hA.ins, bf_no b (by decide +kernel), _, rfl, _, rfl, b, fs, Db, p1, p2, ws, bs, rfl, hB, h1, h2, lt1, lt2, by omega, by omega, by omega, fun H1 gs wh fw m1 hB1 lg ew fo1 => ?_⟩
  obtain ⟨u1, u2, e1, e2⟩ := fo1
  have lfs : (fs ++ gs).length ≤ 999 := by rw [List.length_append]; omega
  have hgd1 : ∀ o ∈ ws, Gd (fs ++ gs) r o ∧ Gm.Can (val (fs ++ gs) o) := fun o ho => ⟨(hws o ho).1.app, by rw [val_app hK.ok _ (lt1 o ho)]; exact (hws o ho).2⟩
  have hgd2 : ∀ o ∈ bs, Gd (fs ++ gs) r o ∧ Gm.Can (val (fs ++ gs) o) := fun o ho => ⟨(hbs o ho).1.app, by rw [val_app hK.ok _ (lt2 o ho)]; exact (hbs o ho).2⟩
  obtain ⟨Dn1, Dk1, hA1, hK1⟩ := id hB1
  have vw := val_eq hK1.ok ew
  have hwh : Rk (fs ++ gs) (r + 1) wh := ⟨fw, ew, fun j hj => (hgd1 j ((e1 j).mp hj)).1.rk, fun j hj => (hgd2 j ((e2 j).mp hj)).1.rk⟩
  have w0 : Gm.eqv (.mk (ws.map (val (fs ++ gs))) (bs.map (val (fs ++ gs)))) (val (fs ++ gs) wh) := by
    rw [vw]
    refine Gm.eqv_of_mem (fun g => ?_) fun g => ?_
    · show g ∈ ws.map _ ↔ g ∈ fw.1.map _
      rw [List.mem_map, List.mem_map]
      exact ⟨fun ⟨x, hx, e⟩ => ⟨x, (e1 x).mpr hx, e⟩, fun ⟨x, hx, e⟩ => ⟨x, (e1 x).mp hx, e⟩⟩
    · show g ∈ bs.map _ ↔ g ∈ fw.2.map _
      rw [List.mem_map, List.mem_map]
      exact ⟨fun ⟨x, hx, e⟩ => ⟨x, (e2 x).mpr hx, e⟩, fun ⟨x, hx, e⟩ => ⟨x, (e2 x).mp hx, e⟩⟩
  have lw2 : ws.length * cn r ≤ wn (r + 1) := Nat.mul_le_mul_right _ lw
  have lb2 : bs.length * cn r ≤ wn (r + 1) := Nat.mul_le_mul_right _ lb
  -- first
  refine ⟨_, rfl, b.x, b.dx, _, rfl, hA1.ins, bf_no b (by decide +kernel), _, rfl, b.x, b.dx, _, rfl, hA1.ins, bf_no b (by decide +kernel), _, rfl, _, rfl, b, fs ++ gs, Db, p1, ws, wh, false, r, r + 1, rfl, hB1, m1.lst hB h1 a1, hgd1, hwh, by omega, by omega, by omega, fun H2 q1 ps1 m2 nq1 hB2 eq1 up1 ln1 all1 eqv1 => ?_⟩
  have oq1 : q1 ≠ b.af := (hB1.off nq1).2.2.1
  refine ⟨b, fs ++ gs, Db, q1, ps1, false, r, rfl, hB2, eq1, oq1, fun o ho => (all1 o ho).1.rk, by omega, by omega, by omega, fun H3 q2 m3 nq2 hB3 eq2 => ?_⟩
  have oq2 : q2 ≠ b.af := (hB2.off nq2).2.2.1
  obtain ⟨Dn3, Dk3, hA3, hK3⟩ := id hB3
  have m13 := (m1.trans m2).trans m3
  -- last
  refine ⟨_, rfl, b.x, b.dx, _, rfl, hA3.ins, bf_no b (by decide +kernel), _, rfl, b.x, b.dx, _, rfl, hA3.ins, bf_no b (by decide +kernel), _, rfl, _, rfl, b, fs ++ gs, Db, p2, bs, wh, true, r, r + 1, rfl, hB3, m13.lst hB h2 a2, hgd2, hwh, by omega, by omega, by omega, fun H4 q3 ps2 m4 nq3 hB4 eq3 up2 ln2 all2 eqv2 => ?_⟩
  have oq3 : q3 ≠ b.af := (hB3.off nq3).2.2.1
  refine ⟨b, fs ++ gs, Db, q3, ps2, true, r, rfl, hB4, eq3, oq3, fun o ho => (all2 o ho).1.rk, by omega, by omega, by omega, fun H5 q4 m5 nq4 hB5 eq4 => ?_⟩
  obtain ⟨Dn5, Dk5, hA5, hK5⟩ := id hB5
  have B1 : BestOf (fs ++ gs) false wh r (bestL (fs ++ gs) false ps1) := bestOf all1
  have B2 : BestOf (fs ++ gs) true wh r (bestL (fs ++ gs) true ps2) := bestOf all2
  have E1 := Gm.eqv.trans (best_eqv hK5.ok (s := false) (os := ps1) (fun o ho => ⟨(all1 o ho).1.lt, (all1 o ho).2.1⟩) (bs.map (val (fs ++ gs)))) (eqv1 _ w0)
  have E2 := Gm.eqv.trans (best_eqv hK5.ok (s := true) (os := ps2) (fun o ho => ⟨(all2 o ho).1.lt, (all2 o ho).2.1⟩) ((bestL (fs ++ gs) false ps1).map (val (fs ++ gs)))) (eqv2 _ E1)
  have E2 : Gm.eqv (.mk ((bestL (fs ++ gs) false ps1).map (val (fs ++ gs))) ((bestL (fs ++ gs) true ps2).map (val (fs ++ gs)))) (val (fs ++ gs) wh) := E2
  have C2 := least_can B1 B2 E2
  have ln1' : (bestL (fs ++ gs) false ps1).length ≤ wn (r + 1) := Nat.le_trans (List.length_filter_le ..) (by omega)
  have ln2' : (bestL (fs ++ gs) true ps2).length ≤ wn (r + 1) := Nat.le_trans (List.length_filter_le ..) (by omega)
  have up1' : (bestL (fs ++ gs) false ps1).Pairwise (· < ·) := up1.filter _
  have up2' : (bestL (fs ++ gs) true ps2).Pairwise (· < ·) := up2.filter _
  generalize bestL (fs ++ gs) false ps1 = f1 at *
  generalize bestL (fs ++ gs) true ps2 = f2 at *
  have eq2' := (m4.trans m5).lst hB3 eq2 oq2
  refine ⟨_, rfl, b.x, b.dx, _, rfl, hA5.ins, bf_no b (by decide +kernel), _, rfl, _, rfl, b, fs ++ gs, Db, q2, q4, f1, f2, rfl, hB5, eq2', eq4, fun j hj => (B1.all j hj).1.lt, fun j hj => (B2.all j hj).1.lt, by omega, by omega, by omega, fun H6 gs2 i f m6 hB6 lg2 ei fo2 => ?_⟩
  obtain ⟨v1, v2, e3, e4⟩ := fo2
  obtain rfl : f = (f1, f2) := Prod.ext (asc_eq v1 up1' e3) (asc_eq v2 up2' e4)
  obtain ⟨Dn6, Dk6, hA6, hK6⟩ := id hB6
  rw [List.append_assoc] at hB6 ei hK6
  have vi := val_eq hK6.ok ei
  have av : ∀ {l : List Nat}, (∀ j ∈ l, j < (fs ++ gs).length) → l.map (val (fs ++ (gs ++ gs2))) = l.map (val (fs ++ gs)) := fun {l} h => List.map_congr_left fun j hj => by rw [← List.append_assoc]; exact val_app hK5.ok _ (h j hj)
  have av0 : ∀ {l : List Nat}, (∀ j ∈ l, j < fs.length) → l.map (val (fs ++ gs)) = l.map (val fs) := fun {l} h => List.map_congr_left fun j hj => val_app hK.ok _ (h j hj)
  have vi : val (fs ++ (gs ++ gs2)) i = .mk (f1.map (val (fs ++ gs))) (f2.map (val (fs ++ gs))) := by
    rw [vi, ← av fun j hj => (B1.all j hj).1.lt, ← av fun j hj => (B2.all j hj).1.lt]
  refine q H6 (gs ++ gs2) i ((m13.trans m4).trans (m5.trans m6)) hB6 (by rw [List.length_append]; omega) ⟨(f1, f2), ei, ln1', ln2', fun j hj => ?_, fun j hj => ?_⟩ (by rw [vi]; exact C2) ?_
  · rw [← List.append_assoc]; exact (B1.all j hj).1.app
  · rw [← List.append_assoc]; exact (B2.all j hj).1.app
  · rw [vi, ← av0 lt1, ← av0 lt2]
    exact E2.trans w0.symm
end
end Sv

set_option maxHeartbeats 4000000
namespace Sv
open PySem PySem.Spec PyProof.Rows L2 L2H HotX LamX
/-! ### the numbers of bushes -/
theorem bkey_depth (b : Bsh) : (bushD b).depth ≤ 8 := by
  show PyData.depthAll (b.map stemD) + 1 ≤ 8
  have := depth_stems b
  omega
theorem bkey_inj {b b' : Bsh} (h : nk (bushD b) = nk (bushD b')) : b = b' := bushD_inj (nk_inj _ _ (pl_bush _) (pl_bush _) h)
/-- the bushes that may come -/
structure SubOk (S : List Bsh) : Prop where
  lo : ∀ c ∈ S, BushLo c ∧ c.length ≤ 7
  cut : ∀ c ∈ S, ∀ n, withoutB c n ∈ S
  num : S.length ≤ 500
/-- j is the number of the least form of g, of rank r -/
def NumOf (fs : List Form) (r j : Nat) (g : Gm) : Prop := Gd fs r j ∧ Gm.Can (val fs j) ∧ Gm.eqv (val fs j) g
theorem NumOf.app {fs gs : List Form} (ok : FsOk fs) {r j : Nat} {g : Gm} (h : NumOf fs r j g) : NumOf (fs ++ gs) r j g := by
  obtain ⟨a, b, c⟩ := h
  unfold NumOf
  rw [val_app ok gs a.lt]
  exact ⟨a.app, b, c⟩
theorem NumOf.mono {fs : List Form} {r q j : Nat} {g : Gm} (h : NumOf fs r j g) (l : r ≤ q) : NumOf fs q j g := ⟨h.1.mono l, h.2⟩
/-- those that have no number yet -/
def un (S : List Bsh) (Db : NestedKey → Option V) : Nat := (S.filter fun c => (Db (nk (bushD c))).isNone).length
structure BuOk (fs : List Form) (S : List Bsh) (Db : NestedKey → Option V) : Prop where
  at_ : ∀ k v, Db k = some v → ∃ (c : Bsh) (i : Nat), c ∈ S ∧ k = nk (bushD c) ∧ v = .int (i : Nat) ∧ NumOf fs c.length i (game c)
  few : fs.length + 2 * un S Db ≤ 2 * S.length
theorem BuOk.get {fs : List Form} {S : List Bsh} {Db : NestedKey → Option V} (h : BuOk fs S Db) {b : Bsh} {v : V} (e : Db (nk (bushD b)) = some v) : ∃ i : Nat, v = .int (i : Nat) ∧ NumOf fs b.length i (game b) := by
  obtain ⟨c, i, _, ek, ev, hc⟩ := h.at_ _ _ e
  obtain rfl := bkey_inj ek
  exact ⟨i, ev, hc⟩
theorem filter_lt {α : Type} {p q : α → Bool} {l : List α} (h : ∀ x ∈ l, q x = true → p x = true) {a : α} (ha : a ∈ l) (h1 : p a = true) (h2 : q a = false) : (l.filter q).length + 1 ≤ (l.filter p).length := by
  induction l with
  | nil => cases ha
  | cons x l ih =>
    have le : ∀ {m : List α}, (∀ y ∈ m, q y = true → p y = true) → (m.filter q).length ≤ (m.filter p).length := by
      intro m
      induction m with
      | nil => intro _; exact Nat.le_refl _
      | cons y m ihm =>
        intro hm
        have h0 := ihm fun z hz => hm z (List.mem_cons_of_mem _ hz)
        rw [List.filter_cons, List.filter_cons]
        have h3 := hm y List.mem_cons_self
        cases hq : q y with
        | true => rw [h3 hq]; simpa using h0
        | false =>
          cases hp : p y with
          | true => simp; omega
          | false => simpa using h0
    have hl : ∀ y ∈ l, q y = true → p y = true := fun y hy => h y (List.mem_cons_of_mem _ hy)
    rw [List.filter_cons, List.filter_cons]
    rcases List.mem_cons.mp ha with rfl | ha
    · rw [h1, h2]
      have := le hl
      simpa using this
    · have := ih hl ha
      have h3 := h x List.mem_cons_self
      cases hq : q x with
      | true => rw [h3 hq]; simpa using this
      | false =>
        cases hp : p x with
        | true => simp; omega
        | false => simpa using this
theorem BuOk.put {fs gs : List Form} {S : List Bsh} {Db : NestedKey → Option V} (ok : FsOk fs) (h : BuOk fs S Db) {b : Bsh} {i : Nat} (hb : b ∈ S) (n : Db (nk (bushD b)) = none) (hg : gs.length ≤ 2) (hi : NumOf (fs ++ gs) b.length i (game b)) : BuOk (fs ++ gs) S (putD Db (nk (bushD b)) (.int (i : Nat))) := by
  refine ⟨fun k v e => ?_, ?_⟩
  · unfold putD at e
    split at e
    · rename_i ek
      exact ⟨b, i, hb, ek, (Option.some.inj e).symm, hi⟩
    · obtain ⟨c, j, h1, h2, h3, h4⟩ := h.at_ k v e
      exact ⟨c, j, h1, h2, h3, h4.app ok⟩
  · have := filter_lt (p := fun c => (Db (nk (bushD c))).isNone) (q := fun c => (putD Db (nk (bushD b)) (.int (i : Nat)) (nk (bushD c))).isNone) (l := S) (fun c _ hc => ?_) hb (by rw [n]; rfl) (by unfold putD; rw [if_pos rfl]; rfl)
    · have h0 := h.few
      unfold un at h0 ⊢
      rw [List.length_append]
      omega
    · unfold putD at hc
      split at hc
      · cases hc
      · exact hc
theorem BuOk.keys {fs : List Form} {S : List Bsh} {Db : NestedKey → Option V} (h : BuOk fs S Db) (hS : SubOk S) : ∃ L : List NestedKey, (∀ k, (Db k).isSome = true → k ∈ L) ∧ L.length < sizeLine := by
  refine ⟨S.map fun c => nk (bushD c), fun k hk => ?_, ?_⟩
  · obtain ⟨v, hv⟩ := Option.isSome_iff_exists.mp hk
    obtain ⟨c, i, hc, rfl, _⟩ := h.at_ k v hv
    exact List.mem_map.mpr ⟨c, hc, rfl⟩
  · have := hS.num
    rw [List.length_map, sizeLine_eq]; omega
theorem un_pos {S : List Bsh} {Db : NestedKey → Option V} {b : Bsh} (hb : b ∈ S) (n : Db (nk (bushD b)) = none) : 1 ≤ un S Db :=
  List.length_pos_of_mem (a := b) (List.mem_filter.mpr ⟨hb, by rw [n]; rfl⟩)
theorem can_zero {x : Gm} (c : Gm.Can x) (h : Gm.eqv x .zero) : x.L = [] ∧ x.R = [] := by
  have cz : Gm.Can .zero := by
    rw [Gm.can_iff]
    exact ⟨fun _ z => (nomatch z), fun _ z => (nomatch z), fun _ z => (nomatch z), fun _ z => (nomatch z), fun _ z => (nomatch z), fun _ z => nomatch z⟩
  obtain ⟨s1, _, s3, _⟩ := Gm.same_iff.mp (Gm.can_same c cz h)
  refine ⟨List.eq_nil_iff_forall_not_mem.mpr fun l hl => ?_, List.eq_nil_iff_forall_not_mem.mpr fun l hl => ?_⟩
  · obtain ⟨l', hl', _⟩ := s1 l hl
    cases hl'
  · obtain ⟨l', hl', _⟩ := s3 l hl
    cases hl'
section
variable {P : Program} {w : World} {K : PySem.W.Frag} {mg : Str → Option Value} {base : Heap} {CB : Addr}
theorem BookAt.putBu {H H' : Hp} {B : Bx} {fs : List Form} {Dn Dk Db Db' : NestedKey → Option V} (h : BookAt P w K CB H B fs Dn Dk Db) (o : ∀ b, b ≠ B.ab → H' b = H b) (x : Ext H H') (d : NDat P w K H' B.ab Db') : BookAt P w K CB H' B fs Dn Dk Db' ∧ MvB B H H' := by
  have ne : ∀ {a u}, H a = some u → (∀ φ, u ≠ .ext φ) → H' a = some u := fun {a u} e n => by
    rw [o a fun z => by
      obtain ⟨φ, q⟩ := h.bu.isExt
      rw [z, q] at e
      exact n φ (Option.some.inj e).symm]
    exact e
  obtain ⟨vs, l1, l2⟩ := h.lst
  exact ⟨⟨ne h.ins (fun _ z => nomatch z), h.num.keep (o _ h.ne2) x, ⟨vs, ne l1 (fun _ z => nomatch z), l2.ext x⟩, h.kn.keep (o _ h.ne3) x, d, h.ne1, h.ne2, h.ne3⟩, fun b u e _ _ _ a4 => by rw [o b a4]; exact e⟩
/-- the numbers js of what the player's cuts lead to -/
def JsOk (fs : List Form) (bu : Bsh) (cs js : List Nat) : Prop := (∀ j ∈ js, ∃ i ∈ cs, NumOf fs (bu.length - 1) j (game (withoutB bu i))) ∧ ∀ i ∈ cs, ∃ j ∈ js, NumOf fs (bu.length - 1) j (game (withoutB bu i))
theorem JsOk.app {fs gs : List Form} {bu : Bsh} {cs js : List Nat} (ok : FsOk fs) (h : JsOk fs bu cs js) : JsOk (fs ++ gs) bu cs js := by
  refine ⟨fun j hj => ?_, fun i hi => ?_⟩
  · obtain ⟨i, hi, h1⟩ := h.1 j hj
    exact ⟨i, hi, h1.app ok⟩
  · obtain ⟨j, hj, h1⟩ := h.2 i hi
    exact ⟨j, hj, h1.app ok⟩
theorem set_of {fs : List Form} {bu : Bsh} {cs js ws : List Nat} (h : JsOk fs bu cs js) (m : ∀ j, j ∈ ws ↔ j ∈ js) : JsOk fs bu cs ws := ⟨fun j hj => h.1 j ((m j).mp hj), fun i hi => let ⟨j, hj, n⟩ := h.2 i hi; ⟨j, (m j).mpr hj, n⟩⟩
theorem num_bush {fs gs : List Form} {bu : Bsh} {ws bs : List Nat} {i : Nat} (ok : FsOk (fs ++ gs)) (hlo : BushLo bu) (h1 : JsOk fs bu (cutsB bu .w) ws) (h2 : JsOk fs bu (cutsB bu .b) bs) (g : Gd (fs ++ gs) (bu.length - 1 + 1) i) (c : Gm.Can (val (fs ++ gs) i)) (e : Gm.eqv (val (fs ++ gs) i) (.mk (ws.map (val fs)) (bs.map (val fs)))) : NumOf (fs ++ gs) bu.length i (game bu) := by
  have mo : ∀ {cl : Col} {js : List Nat}, JsOk fs bu (cutsB bu cl) js → (∀ a ∈ js.map (val fs), ∃ a' ∈ optsB bu cl, Gm.eqv a a') ∧ ∀ a' ∈ optsB bu cl, ∃ a ∈ js.map (val fs), Gm.eqv a a' := by
    intro cl js h
    refine ⟨fun a ha => ?_, fun a ha => ?_⟩
    · obtain ⟨j, hj, rfl⟩ := List.mem_map.mp ha
      obtain ⟨k, hk, n⟩ := h.1 j hj
      exact ⟨_, mem_opts.mpr ⟨k, hk, rfl⟩, n.2.2⟩
    · obtain ⟨k, hk, rfl⟩ := mem_opts.mp ha
      obtain ⟨j, hj, n⟩ := h.2 k hk
      exact ⟨_, List.mem_map.mpr ⟨j, hj, rfl⟩, n.2.2⟩
  have ge : Gm.eqv (val (fs ++ gs) i) (game bu) := by
    rw [game_eq hlo]
    exact Gm.eqv.trans e (Gm.mk_eqv (mo h1).1 (mo h1).2 (mo h2).1 (mo h2).2)
  refine ⟨?_, c, ge⟩
  rcases Nat.eq_zero_or_pos bu.length with z | z
  · have bz : bu = [] := List.eq_nil_of_length_eq_zero z
    subst bz
    obtain ⟨e1, e2⟩ := can_zero c ge
    obtain ⟨f, ef, _⟩ := g
    rw [val_L ok ef, List.map_eq_nil_iff] at e1
    rw [val_R ok ef, List.map_eq_nil_iff] at e2
    show (fs ++ gs)[i]? = some ([], [])
    rw [ef]
    exact congrArg some (Prod.ext e1 e2)
  · rwa [Nat.sub_add_cancel z] at g
def spOf (P : Program) (w : World) (K : PySem.W.Frag) (CB : Addr) (n : Nat) : Sp := fun vs H Q _ => ∃ B, ∃ fs : List Form, ∃ Db S v, ∃ b : Bsh, vs = [.ref B.x, v] ∧ BInv P w K CB H B fs Db ∧ SubOk S ∧ BuOk fs S Db ∧ b ∈ S ∧ At K H v (bushD b) ∧ b.length < n ∧
  ∀ H' gs Db' (i : Nat), MvB B H H' → BInv P w K CB H' B (fs ++ gs) Db' → BuOk (fs ++ gs) S Db' → (∀ c : Bsh, b.length < c.length → Db' (nk (bushD c)) = Db (nk (bushD c))) → NumOf (fs ++ gs) b.length i (game b) → Q (.int (i : Nat)) H'
theorem of_list {n : Nat} {b : Bx} {fs : List Form} {Db : NestedKey → Option V} {S : List Bsh} {v : V} {bu : Bsh} {c : Col} {H : Hp} {Q : VK} {y2 y3 y4 : Option V} (hB : BInv P w K CB H b fs Db) (hS : SubOk S) (hU : BuOk fs S Db) (hbS : bu ∈ S) (hv : At K H v (bushD bu)) (hn : bu.length < n + 1)
    (q : ∀ H' p js gs Db', MvB b H H' → H p = none → BInv P w K CB H' b (fs ++ gs) Db' → BuOk (fs ++ gs) S Db' → (∀ c : Bsh, bu.length ≤ c.length → Db' (nk (bushD c)) = Db (nk (bushD c))) → H' p = some (.lst (js.map nV)) → js.length ≤ bu.length → JsOk (fs ++ gs) bu (cutsB bu c) js → Q (.ref p) H') :
    tLc (iList K (tD (spCutsOf K) E0 (tCons (tVar 1) (tCons (tC (V.str c.s)) tNil)))) (gName 3) tYes (tMethK CB "of_bush" (spOf P w K CB n) E0 (tVar 0) (tCons (tD (spWithout K) E0 (tCons (tVar 1) (tCons (tVar 3) tNil))) tNil)) [3] [some (.ref b.x), some v, y2, y3, y4] H Q := by
  obtain ⟨hlo, hl7⟩ := hS.lo bu hbS
  refine ⟨_, rfl, v, bu, c, rfl, hv, hlo, fun H2 p s2 np ep => ⟨p, rfl, ⟨_, SqL.of ep⟩, ?_⟩⟩
  have hB2 := hB.same s2
  have hv2 := hv.same s2
  have offp : p ≠ b.af := (hB.off np).2.2.1
  refine lc_J (walk_list (xs := (cutsB bu c).map fun (n : Nat) => V.int n)) (MvB b) (fun Dl k zs H' => ∃ js gs Db', zs = js.map nV ∧ BInv P w K CB H' b (fs ++ gs) Db' ∧ BuOk (fs ++ gs) S Db' ∧ (∀ c : Bsh, bu.length ≤ c.length → Db' (nk (bushD c)) = Db (nk (bushD c))) ∧ js.length ≤ k ∧ JsOk (fs ++ gs) bu ((cutsB bu c).take k) js) (goes_mvB hB2) ?_ ?_ ?_ ?_ ?_ ?_
  · have h1 := cutsB_len bu c
    rw [List.length_map, sizeLine_eq]; omega
  · intro H3 t
    exact SqL.of (t.lst hB2 ep offp)
  · intro _ _
    exact ⟨[], [], Db, rfl, by rw [List.append_nil]; exact hB2, by rw [List.append_nil]; exact hU, fun _ _ => rfl, Nat.le_refl _, (fun _ z => nomatch z), fun _ z => nomatch z⟩
  · rintro Dl k zs H3 H4 nD x kk ⟨js, gs, Db', e1, e2, e3⟩
    exact ⟨js, gs, Db', e1, e2.keepD (hB2.off nD) x kk, e3⟩
  · rintro Dl E E0 k x zs H3 H4 nD eD hk t ⟨js, gs, Db', rfl, hB3, hU3, un3, ljs, j1, j2⟩ ⟨rfl, hx⟩ k1 k0
    rw [List.getElem?_map] at hx
    cases hi : (cutsB bu c)[k]? with
    | none => rw [hi] at hx; cases hx
    | some i =>
      rw [hi] at hx
      cases hx
      have hib : i < bu.length := cutsB_lt (List.mem_of_getElem? hi)
      have hlt := without_lt hlo hib
      have x3 := t.ext hB2
      obtain ⟨Dn3, Dk3, hA3, hK3⟩ := id hB3
      refine ⟨rfl, _, rfl, b.x, b.dx, _, rfl, hA3.ins, bf_no b (by decide +kernel), _, rfl, _, rfl, v, bu, i, rfl, hv2.ext x3, hlo, fun H5 pw s5 npw hpw => ⟨b, fs ++ gs, Db', S, .ref pw, withoutB bu i, rfl, hB3.same s5, hS, hU3, hS.cut _ hbS _, hpw, by omega, fun H6 gs6 Db6 j m6 hB6 hU6 un6 num6 => ?_⟩⟩
      rw [List.append_assoc] at hB6 hU6 num6
      have num6 := num6.mono (show (withoutB bu i).length ≤ bu.length - 1 by omega)
      refine k1 _ H6 ((MvB.of_same s5).trans m6) ⟨js ++ [j], gs ++ gs6, Db6, by rw [List.map_append]; rfl, hB6, hU6, fun c hc => ?_, by rw [List.length_append, List.length_singleton]; omega, fun j' hj' => ?_, fun i' hi' => ?_⟩
      · rw [un6 c (by omega)]; exact un3 c hc
      · rw [List.take_add_one, hi]
        rcases List.mem_append.mp hj' with h | h
        · obtain ⟨i0, h0, h1⟩ := j1 j' h
          exact ⟨i0, List.mem_append_left _ h0, by rw [← List.append_assoc]; exact h1.app hK3.ok⟩
        · rw [List.mem_singleton.mp h]
          exact ⟨i, by simp, num6⟩
      · rw [List.take_add_one, hi] at hi'
        rcases List.mem_append.mp hi' with h | h
        · obtain ⟨j0, h0, h1⟩ := j2 i' h
          exact ⟨j0, List.mem_append_left _ h0, by rw [← List.append_assoc]; exact h1.app hK3.ok⟩
        · have : i' = i := by simpa using h
          subst this
          exact ⟨j, by simp, num6⟩
  · rintro Dl H3 zs nD t eD _ ⟨js, gs, Db', rfl, hB3, hU3, un3, ljs, j1⟩
    rw [List.length_map] at ljs j1
    rw [List.take_length] at j1
    have h1 := cutsB_len bu c
    exact q H3 Dl js gs Db' ((MvB.of_same s2).trans t) (s2.free nD) hB3 hU3 un3 eD (by omega) j1
theorem scOf : FnScope ["self", "bush", "whites", "at", "blacks"] ["self", "bush"] (defScope s_Book_of_bush) := ⟨rfl, rfl, rfl, by decide +kernel, rfl, by decide +kernel, by decide +kernel⟩
theorem k_of (F : HereM K CB "of_bush" "Book.of_bush" s_Book_of_bush) (T : ClsT K mg "Book" CB fldsB) (B : Blt mg) (d_without : Keeps' P w K mg base CX0 1 "without" ["bush", "number"] (spWithout K)) (d_cuts : Keeps' P w K mg base CX0 1 "cuts_of" ["bush", "player"] (spCutsOf K)) (d_least : KeepsM P w K mg base CX0 19 CB "least" ["self", "whites", "blacks"] (spLeast P w K CB)) :
    ∀ n, KeepsM P w K mg base CX0 (n + 20) CB "of_bush" ["self", "bush"] (spOf P w K CB n)
  | 0 => keepsM0 F scOf (fun _ _ _ _ _ _ us hl => match us, hl with | [_, _], _ => rfl) (fun vs H Q E h => by obtain ⟨_, _, _, _, _, _, _, _, _, _, _, _, z, _⟩ := h; omega) fun f cdv A outer s H vs Q E hr h => by obtain ⟨_, _, _, _, _, _, _, _, _, _, _, _, z, _⟩ := h; omega
  | n + 1 => by
    have d_of := k_of F T B d_without d_cuts d_least n
    refine keepsM0 F scOf (fun _ _ _ _ _ _ us hl => match us, hl with | [_, _], _ => rfl) (fun vs H Q E h => by obtain ⟨_, _, _, _, _, _, e, _⟩ := h; rw [e]; rfl) fun f cdv A outer s H vs Q E hr h => ?_
    obtain ⟨b, fs, Db, S, v, bu, rfl, hB, hS, hU, hbS, hv, hn, q⟩ := h
    have n1 : NoAttr K CB "bushes" := T.nf _ (by decide)
    refine ⟨_, pss_cut (ps_if (pt_cmpR (op_nnotin (P := P) (w := w) (K := K) hr.units) (pv 1) (pe_fldK T.cl n1 (pv 0)) (by rfl))
      (pss_cons (ps_setLc (i := 2) (own := [("at", 3)]) rfl scOf.nd rfl rfl (sw_true rfl rfl rfl (by decide +kernel)) (pi_listK K (pe_d0 d_cuts (hr.mono (by omega)) (by rfl) (pa2 (pv 1) pe_str))) (blkOk_by (own := [("at", 3)]) (N := ["self", "bush", "whites", "at", "blacks"]) (sc := defScope s_Book_of_bush) (by decide +kernel)) (fun _ _ _ _ _ => pgn 3 scOf.nd) (fun _ _ _ _ _ => pts_nil) (fun _ _ _ _ _ => pe_m0 d_of T.cl (hr.mono (by omega)) (pv 0) (pa1 (pe_d0 d_without (hr.mono (by omega)) (by rfl) (pa2 (pv 1) (pv 3))))))
        (pss_cons (ps_setLc (i := 4) (own := [("at", 3)]) rfl scOf.nd rfl rfl (sw_true rfl rfl rfl (by decide +kernel)) (pi_listK K (pe_d0 d_cuts (hr.mono (by omega)) (by rfl) (pa2 (pv 1) pe_str))) (blkOk_by (own := [("at", 3)]) (N := ["self", "bush", "whites", "at", "blacks"]) (sc := defScope s_Book_of_bush) (by decide +kernel)) (fun _ _ _ _ _ => pgn 3 scOf.nd) (fun _ _ _ _ _ => pts_nil) (fun _ _ _ _ _ => pe_m0 d_of T.cl (hr.mono (by omega)) (pv 0) (pa1 (pe_d0 d_without (hr.mono (by omega)) (by rfl) (pa2 (pv 1) (pv 3))))))
        (pss_one (ps_nput (P := P) (w := w) (K := K) hr.units (pe_fldK T.cl n1 (pv 0)) (pv 1) (pe_m0 d_least T.cl (hr.mono (by omega)) (pv 0) (pa2 (pe_sset rfl (by rfl) B.sorted (by rfl) B.set (pv 2)) (pe_sset rfl (by rfl) B.sorted (by rfl) B.set (pv 4)))) (by rfl)))))
      (pss_nil))
    (pss_one (ps_ret (pe_nget (P := P) (w := w) (K := K) hr.units (pe_fldK T.cl n1 (pv 0)) (pv 1) (fun _ _ => rfl)))), ?_⟩
    obtain ⟨hlo, hl7⟩ := hS.lo bu hbS
    obtain ⟨Dn, Dk, hA, hK⟩ := id hB
    refine ⟨fun σ H' => σ.length = 5 ∧ σ[0]? = some (some (.ref b.x)) ∧ σ[1]? = some (some v) ∧ MvB b H H' ∧ ∃ gs Db', BInv P w K CB H' b (fs ++ gs) Db' ∧ BuOk (fs ++ gs) S Db' ∧ (∀ c : Bsh, bu.length < c.length → Db' (nk (bushD c)) = Db (nk (bushD c))) ∧ (Db' (nk (bushD bu))).isSome = true, ?_, ?_⟩
    · refine ⟨_, rfl, _, rfl, b.x, b.dx, _, _, rfl, hA.ins, rfl, b.ab, Db, _, rfl, hA.bu, hv, bkey_depth bu, _, rfl, ?_⟩
      refine ite2 (fun z => ?_) fun z => ?_
      rotate_left
      · refine ⟨rfl, rfl, rfl, MvB.refl b H, [], Db, by rw [List.append_nil]; exact hB, by rw [List.append_nil]; exact hU, fun _ _ => rfl, ?_⟩
        have z : ¬ (true != (Db (nk (bushD bu))).isSome) = true := z
        cases hh : (Db (nk (bushD bu))).isSome with
        | true => rfl
        | false => rw [hh] at z; exact absurd rfl z
      · have hnone : Db (nk (bushD bu)) = none := by
          have z : (true != (Db (nk (bushD bu))).isSome) = true := z
          cases hh : Db (nk (bushD bu)) with
          | none => rfl
          | some u => rw [hh] at z; cases z
        unfold tSeq tAsg
        refine of_list (c := .w) hB hS hU hbS hv hn fun H1 p1 js1 gs1 Db1 m1 np1 hB1 hU1 un1 ep1 lj1 jo1 => ?_
        have hv1 := hv.ext (m1.ext hB)
        unfold gName
        dsimp only
        refine of_list (c := .b) hB1 hS hU1 hbS hv1 hn fun H2 p2 js2 gs2 Db2 m2 np2 hB2 hU2 un2 ep2 lj2 jo2 => ?_
        have op1 : p1 ≠ b.af := (hB.off np1).2.2.1
        have ep1' := m2.lst hB1 ep1 op1
        obtain ⟨Dn1, Dk1, hA1, hK1⟩ := id hB1
        obtain ⟨Dn2, Dk2, hA2, hK2⟩ := id hB2
        have jo1 := jo1.app (gs := gs2) hK1.ok
        have hnone2 : Db2 (nk (bushD bu)) = none := by rw [un2 bu (Nat.le_refl _), un1 bu (Nat.le_refl _), hnone]
        have few2 := hU2.few
        have unp := un_pos hbS hnone2
        have num := hS.num
        refine ⟨_, rfl, b.x, b.dx, _, rfl, hA2.ins, bf_no b (by decide +kernel), _, rfl, p1, js1.map (fun (n : Nat) => (n : Int)), rfl, SqL.of (by rw [← nV_int]; exact ep1'), by rw [List.length_map]; unfold scanBound; omega, fun ns1 q1 upn1 me1 nq1 => ?_⟩
        obtain ⟨ws, ew, uw, mw⟩ := nat_set upn1 me1
        rw [ew]
        have s3 : Same H2 (upd H2 q1 (.lst (ws.map nV))) := same_new nq1
        refine ⟨_, rfl, p2, js2.map (fun (n : Nat) => (n : Int)), rfl, SqL.of (by rw [← nV_int]; exact s3 _ _ ep2), by rw [List.length_map]; unfold scanBound; omega, fun ns2 q2 upn2 me2 nq2 => ?_⟩
        obtain ⟨bs, eb, ub, mb⟩ := nat_set upn2 me2
        rw [eb]
        have s4 : Same (upd H2 q1 (.lst (ws.map nV))) (upd (upd H2 q1 (.lst (ws.map nV))) q2 (.lst (bs.map nV))) := same_new nq2
        have jw := set_of jo1 mw
        have jb := set_of jo2 mb
        have hB4 := hB2.same (s3.trans s4)
        have lw : ws.length ≤ js1.length := nodup_le (uw.imp fun h => Nat.ne_of_lt h) fun x hx => (mw x).mp hx
        have lb : bs.length ≤ js2.length := nodup_le (ub.imp fun h => Nat.ne_of_lt h) fun x hx => (mb x).mp hx
        refine ⟨b, _, Db2, q1, q2, ws, bs, bu.length - 1, rfl, hB4, s4 _ _ upd_same, upd_same, (hB2.off nq1).2.2.1, ((hB2.same s3).off nq2).2.2.1, fun o ho => ?_, fun o ho => ?_, by omega, by omega, by omega, by omega, fun H5 gs3 i m5 hB5 lg3 gd5 cn5 ev5 => ?_⟩
        · obtain ⟨k, hk, a, c, _⟩ := jw.1 o ho
          exact ⟨a, c⟩
        · obtain ⟨k, hk, a, c, _⟩ := jb.1 o ho
          exact ⟨a, c⟩
        · obtain ⟨Dn5, Dk5, hA5, hK5⟩ := id hB5
          have m05 : MvB b H H5 := ((m1.trans m2).same (s3.trans s4)).trans m5
          have hv5 := hv.ext (m05.ext hB)
          refine ⟨_, rfl, b.x, b.dx, _, _, rfl, hA5.ins, rfl, _, rfl, b.ab, Db2, _, rfl, hA5.bu, hv5, bkey_depth bu, hU2.keys hS, fun H6 o6 x6 d6 => ?_⟩
          obtain ⟨hA6, m6⟩ := hA5.putBu o6 x6 d6
          refine ⟨rfl, rfl, rfl, m05.trans m6, gs1 ++ gs2 ++ gs3, _, ⟨Dn5, Dk5, by rw [← List.append_assoc, ← List.append_assoc]; exact hA6, by rw [← List.append_assoc, ← List.append_assoc]; exact hK5⟩, ?_, fun c hc => ?_, ?_⟩
          · have := hU2.put (gs := gs3) hK2.ok hbS hnone2 lg3 (num_bush hK5.ok hlo jw jb gd5 cn5 ev5)
            rw [← List.append_assoc, ← List.append_assoc]
            exact this
          · unfold putD
            rw [if_neg (fun z => by rw [bkey_inj z] at hc; omega), un2 c (by omega), un1 c (by omega)]
          · show (putD Db2 (nk (bushD bu)) (.int (i : Nat)) (nk (bushD bu))).isSome = true
            unfold putD
            rw [if_pos rfl]; rfl
    · rintro σ H2 ⟨hl, h0, h1, m2, gs, Db', hB2, hU2, un2, hsm⟩
      obtain ⟨v2, hv2⟩ := Option.isSome_iff_exists.mp hsm
      obtain ⟨i, rfl, num⟩ := hU2.get hv2
      obtain ⟨Dn2, Dk2, hA2, hK2⟩ := id hB2
      exact ⟨_, h0, b.x, b.dx, _, _, rfl, hA2.ins, rfl, _, h1, b.ab, Db', _, _, rfl, hA2.bu, hv.ext (m2.ext hB), bkey_depth bu, hv2, q H2 gs Db' i m2 hB2 hU2 un2 num⟩
end
end Sv

set_option maxHeartbeats 4000000
namespace Sv
open PySem PySem.Spec PyProof.Rows L2 L2H HotX LamX
/-! ### a new book; comparing -/
theorem subs_two {a b : Bsh} (ha : BushOk a) (hb : BushOk b) : SubOk (subsB a ++ subsB b) := by
  have h1 := subs_num a
  have h2 := subs_num b
  have p7 : ∀ n, n ≤ 7 → 2 ^ n ≤ 128 := by decide
  have h3 := p7 _ ha.len
  have h4 := p7 _ hb.len
  refine ⟨fun c hc => ?_, fun c hc n => ?_, by rw [List.length_append]; omega⟩
  · rcases List.mem_append.mp hc with h | h
    · exact ⟨(subs_ok ha.lo h).1, Nat.le_trans (subs_ok ha.lo h).2 ha.len⟩
    · exact ⟨(subs_ok hb.lo h).1, Nat.le_trans (subs_ok hb.lo h).2 hb.len⟩
  · rcases List.mem_append.mp hc with h | h
    · exact List.mem_append_left _ (subs_cut ha.lo h n)
    · exact List.mem_append_right _ (subs_cut hb.lo h n)
theorem subs_one {a : Bsh} (ha : BushOk a) : SubOk (subsB a) := by
  have h1 := subs_num a
  have p7 : ∀ n, n ≤ 7 → 2 ^ n ≤ 128 := by decide
  have h3 := p7 _ ha.len
  exact ⟨fun c hc => ⟨(subs_ok ha.lo hc).1, Nat.le_trans (subs_ok ha.lo hc).2 ha.len⟩, fun c hc n => subs_cut ha.lo hc n, by omega⟩
theorem BuOk.nil (S : List Bsh) : BuOk [] S (fun _ => none) := by
  refine ⟨fun _ _ z => (nomatch z), ?_⟩
  have : un S (fun _ => none) ≤ S.length := List.length_filter_le ..
  show 0 + _ ≤ _
  omega
section
variable {P : Program} {w : World} {K : PySem.W.Frag} {mg : Str → Option Value} {base : Heap} {CB : Addr} {C : Nat → Addr}
/-- what stood before the book was made stands still -/
theorem book_same {H H1 H2 : Hp} {x dx : Addr} {B : Bx} (nx : H x = none) (ndx : H dx = none) (bx : B.x = x) (m : MvA x (upd (upd H dx (.own x)) x (.ins CB dx [])) H1)
    (a1 : (upd (upd H dx (.own x)) x (.ins CB dx [])) B.an = none) (a2 : (upd (upd H dx (.own x)) x (.ins CB dx [])) B.af = none) (a3 : (upd (upd H dx (.own x)) x (.ins CB dx [])) B.ak = none) (a4 : (upd (upd H dx (.own x)) x (.ins CB dx [])) B.ab = none) (m2 : MvB B H1 H2) : Same H H2 := by
  intro b o e
  have e1 : (upd (upd H dx (.own x)) x (.ins CB dx [])) b = some o := by rw [upd_ne (ne_of_none e nx), upd_ne (ne_of_none e ndx)]; exact e
  have ne : ∀ {c : Addr}, (upd (upd H dx (.own x)) x (.ins CB dx [])) c = none → b ≠ c := fun q => ne_of_none e1 q
  exact m2 b o (m b o e1 (ne_of_none e nx)) (ne a1) (ne a2) (ne a3) (ne a4)
def spJudged (K : PySem.W.Frag) : Sp := fun vs H Q _ => ∃ v v2 a b, vs = [v, v2] ∧ At K H v (bushD a) ∧ At K H v2 (bushD b) ∧ BushOk a ∧ BushOk b ∧ ∀ H' p, Same H H' → H p = none → H' p = some (.tup [.bl (leB (game a) (game b)), .bl (leB (game b) (game a))]) → Q (.ref p) H'
/-! ### compare -/
noncomputable def cmpS (a b : Bsh) : Str := if leB (game a) (game b) && leB (game b) (game a) then "equal" else if leB (game a) (game b) then "less" else if leB (game b) (game a) then "greater" else "neither"
def spCompare (K : PySem.W.Frag) (C : Nat → Addr) : Sp := fun vs H Q E => ∃ v v2 d d2, vs = [v, v2] ∧ Dp K H v d ∧ Dp K H v2 d2 ∧ (isBush d = false → ∀ H', Same H H' → E (.ref (C 0)) none H') ∧ (isBush d = true → isBush d2 = false → ∀ H', Same H H' → E (.ref (C 0)) none H') ∧
  ∀ a b, d = bushD a → BushOk a → d2 = bushD b → BushOk b → ∀ H', Same H H' → Q (.str (cmpS a b)) H'
def spAtLeast (K : PySem.W.Frag) (C : Nat → Addr) : Sp := fun vs H Q E => ∃ v v2 d d2, vs = [v, v2] ∧ Dp K H v d ∧ Dp K H v2 d2 ∧ (isBush d = false → ∀ H', Same H H' → E (.ref (C 0)) none H') ∧ (isBush d = true → isBush d2 = false → ∀ H', Same H H' → E (.ref (C 0)) none H') ∧
  ∀ a b, d = bushD a → BushOk a → d2 = bushD b → BushOk b → ∀ H', Same H H' → Q (.bl (leB (game b) (game a))) H'
end
end Sv

set_option maxHeartbeats 4000000
namespace Sv
open PySem PySem.Spec PyProof.Rows L2 L2H HotX LamX
/-! ### comparing by playing -/
def cs (x y : Bool) : Str := if x && y then "equal" else if x then "less" else if y then "greater" else "neither"
theorem cmpS_eq (a b : Bsh) : cmpS a b = cs (leB (game a) (game b)) (leB (game b) (game a)) := rfl
theorem not_wins {b : Bool} {p : Prop} (h : b = false ↔ p) : (!b) = true ↔ p := by rw [Bool.not_eq_true']; exact h
theorem leB_diff {a b : Bsh} (ha : BushLo a) (hb : BushLo b) (h : a.length + b.length ≤ 100) : leB (game a) (game b) = !wins (onStemB a (-1) (swB b)) .w := (leB_of (not_wins (diff_w ha hb h))).symm
theorem leB_diff' {a b : Bsh} (ha : BushLo a) (hb : BushLo b) (h : a.length + b.length ≤ 100) : leB (game b) (game a) = !wins (onStemB a (-1) (swB b)) .b := (leB_of (not_wins (diff_b ha hb h))).symm
theorem leB_iff_eq {x y u v : Gm} (h : Gm.le x y ↔ Gm.le u v) : leB x y = leB u v := by rw [Bool.eq_iff_iff, leB_iff, leB_iff, h]
theorem Gm.add_le_self {x y : Gm} : Gm.le (Gm.add x y) x ↔ Gm.le y .zero := by
  have h := Gm.add_le_iff (x := y) (y := .zero) (z := x)
  rw [Gm.zero_add] at h
  rw [← h]
  exact ⟨fun q => Gm.le_trans (Gm.add_comm_le y x) q, fun q => Gm.le_trans (Gm.add_comm_le x y) q⟩
theorem Gm.self_le_add {x y : Gm} : Gm.le x (Gm.add x y) ↔ Gm.le .zero y := by
  have h := Gm.add_le_iff (x := .zero) (y := y) (z := x)
  rw [Gm.zero_add] at h
  rw [← h]
  exact ⟨fun q => Gm.le_trans q (Gm.add_comm_le x y), fun q => Gm.le_trans q (Gm.add_comm_le y x)⟩
theorem one_lo (c : Col) : BushLo [(-1, c)] := ⟨by simp, fun i s h => by
  cases i with
  | zero => cases h; exact ⟨Int.le_refl _, Int.negSucc_lt_zero 0⟩
  | succ n => simp at h⟩
theorem one_ok (c : Col) : BushOk [(-1, c)] := ⟨by simp, (one_lo c).low⟩
theorem on_one (a : Bsh) (c : Col) : onStemB a (-1) [(-1, c)] = a ++ [(-1, c)] := rfl
theorem more_ok {a : Bsh} (ha : BushOk a) (h : a.length ≤ 6) (c : Col) : BushOk (a ++ [(-1, c)]) := by
  rw [← on_one]
  exact onStem_ok ha (one_ok c) (by decide) (by omega) (by simp; omega)
/-- a stem more on the ground -/
theorem cmp_more {a : Bsh} (ha : BushOk a) (c : Col) : cmpS (a ++ [(-1, c)]) a = cs (!wins [(-1, c)] .w) (!wins [(-1, c)] .b) := by
  have h7 := ha.len
  rw [cmpS_eq, ← on_one, game_add ha.lo (one_lo c) (by simp; omega)]
  have e1 : leB (Gm.add (game a) (game [(-1, c)])) (game a) = !wins [(-1, c)] .w := (leB_of ((not_wins (wins_w (one_lo c))).trans Gm.add_le_self.symm)).symm
  have e2 : leB (game a) (Gm.add (game a) (game [(-1, c)])) = !wins [(-1, c)] .b := (leB_of ((not_wins (wins_b (one_lo c))).trans Gm.self_le_add.symm)).symm
  rw [e1, e2]
theorem cmp_w {a : Bsh} (ha : BushOk a) : cmpS (a ++ [(-1, .w)]) a = "greater" := by rw [cmp_more ha]; decide +kernel
theorem cmp_b {a : Bsh} (ha : BushOk a) : cmpS (a ++ [(-1, .b)]) a = "less" := by rw [cmp_more ha]; decide +kernel
theorem cmp_g {a : Bsh} (ha : BushOk a) : cmpS (a ++ [(-1, .g)]) a = "neither" := by rw [cmp_more ha]; decide +kernel
theorem cmp_self (a : Bsh) : cmpS a a = "equal" := by
  rw [cmpS_eq, show leB (game a) (game a) = true from leB_iff.mpr (Gm.le_refl _)]; rfl
theorem nil_lo : BushLo [] := ⟨by decide, fun i s h => by simp at h⟩
theorem nil_ok : BushOk [] := ⟨by decide, fun i s h => by simp at h⟩
theorem cmp_nil {a : Bsh} (ha : BushOk a) : cmpS a [] = cs (!wins a .w) (!wins a .b) := by
  rw [cmpS_eq]
  have e1 : leB (game a) (game []) = !wins a .w := (leB_of (not_wins (wins_w ha.lo))).symm
  have e2 : leB (game []) (game a) = !wins a .b := (leB_of (not_wins (wins_b ha.lo))).symm
  rw [e1, e2]
theorem cmp_sw {a b : Bsh} (ha : BushOk a) (hb : BushOk b) : cmpS (swB a) (swB b) = cmpS b a := by
  rw [cmpS_eq, cmpS_eq, game_neg ha.lo, game_neg hb.lo, leB_iff_eq (Gm.neg_le_iff (x := game b) (y := game a)), leB_iff_eq (Gm.neg_le_iff (x := game a) (y := game b))]
def turnS (x : Str) : Str := if x = "greater" then "less" else if x = "less" then "greater" else x
theorem cmp_turn (a b : Bsh) : cmpS b a = turnS (cmpS a b) := by
  rw [cmpS_eq, cmpS_eq]
  cases leB (game a) (game b) <;> cases leB (game b) (game a) <;> decide +kernel
section
variable {P : Program} {w : World} {K : PySem.W.Frag} {mg : Str → Option Value} {base : Heap} {C : Nat → Addr}
theorem use_cmp {v v2 : V} {a b : Bsh} {H : Hp} {Q : VK} {E : XK} (hA : At K H v (bushD a)) (hB : At K H v2 (bushD b)) (ha : BushOk a) (hb : BushOk b) (q : ∀ H', Same H H' → Q (.str (cmpS a b)) H') : spCompare K C [v, v2] H Q E := by
  have na := isBush_iff.mpr ⟨a, rfl, ha⟩
  have nb := isBush_iff.mpr ⟨b, rfl, hb⟩
  refine ⟨v, v2, _, _, rfl, hA.2, hB.2, (fun z => absurd (na.symm.trans z) (by decide)), (fun _ z => absurd (nb.symm.trans z) (by decide)), fun a' b' e1 _ e2 _ => ?_⟩
  cases bushD_inj e1
  cases bushD_inj e2
  exact q
theorem use_least {v v2 : V} {a b : Bsh} {H : Hp} {Q : VK} {E : XK} (hA : At K H v (bushD a)) (hB : At K H v2 (bushD b)) (ha : BushOk a) (hb : BushOk b) (q : ∀ H', Same H H' → Q (.bl (leB (game b) (game a))) H') : spAtLeast K C [v, v2] H Q E := by
  have na := isBush_iff.mpr ⟨a, rfl, ha⟩
  have nb := isBush_iff.mpr ⟨b, rfl, hb⟩
  refine ⟨v, v2, _, _, rfl, hA.2, hB.2, (fun z => absurd (na.symm.trans z) (by decide)), (fun _ z => absurd (nb.symm.trans z) (by decide)), fun a' b' e1 _ e2 _ => ?_⟩
  cases bushD_inj e1
  cases bushD_inj e2
  exact q
theorem use_winner {v : V} {a : Bsh} {H : Hp} {Q : VK} {E : XK} (hA : At K H v (bushD a)) (ha : BushOk a) (q : ∀ H', Same H H' → Q (.str (winnerS a)) H') : spWinner K C [v] H Q E := by
  have na := isBush_iff.mpr ⟨a, rfl, ha⟩
  refine ⟨v, _, rfl, hA.2, (fun z => absurd (na.symm.trans z) (by decide)), fun a' e1 _ => ?_⟩
  cases bushD_inj e1
  exact q
/-! ### what is promised of bushes that are bushes -/
def spCmp0 (K : PySem.W.Frag) : Sp := fun vs H Q _ => ∃ v v2 a b, vs = [v, v2] ∧ At K H v (bushD a) ∧ At K H v2 (bushD b) ∧ BushOk a ∧ BushOk b ∧ ∀ H', Same H H' → Q (.str (cmpS a b)) H'
theorem cmp0 {CX : CXT} {k : Nat} (D : Keeps' P w K mg base CX k "compare" ["one", "other"] (spCompare K C)) : Keeps' P w K mg base CX k "compare" ["one", "other"] (spCmp0 K) :=
  D.imp fun vs H Q E ⟨v, v2, a, b, e, hA, hB, ha, hb, q⟩ => by rw [e]; exact use_cmp hA hB ha hb q
def spAtLeast0 (K : PySem.W.Frag) : Sp := fun vs H Q _ => ∃ v v2 a b, vs = [v, v2] ∧ At K H v (bushD a) ∧ At K H v2 (bushD b) ∧ BushOk a ∧ BushOk b ∧ ∀ H', Same H H' → Q (.bl (leB (game b) (game a))) H'
theorem atLeast0 {CX : CXT} {k : Nat} (D : Keeps' P w K mg base CX k "is_at_least" ["one", "other"] (spAtLeast K C)) : Keeps' P w K mg base CX k "is_at_least" ["one", "other"] (spAtLeast0 K) :=
  D.imp fun vs H Q E ⟨v, v2, a, b, e, hA, hB, ha, hb, q⟩ => by rw [e]; exact use_least hA hB ha hb q
def spWinner0 (K : PySem.W.Frag) : Sp := fun vs H Q _ => ∃ v a, vs = [v] ∧ At K H v (bushD a) ∧ BushOk a ∧ ∀ H', Same H H' → Q (.str (winnerS a)) H'
theorem winner0 {CX : CXT} {k : Nat} (D : Keeps' P w K mg base CX k "winner" ["bush"] (spWinner K C)) : Keeps' P w K mg base CX k "winner" ["bush"] (spWinner0 K) :=
  D.imp fun vs H Q E ⟨v, a, e, hA, ha, q⟩ => by rw [e]; exact use_winner hA ha q
/-- the empty bush, a stem more -/
theorem at_nil {H : Hp} {t : Addr} (e : H t = some (.tup [])) : At K H (.ref t) (bushD []) := At.tupO e .nil
theorem at_one {H : Hp} {t u : Addr} {n : Int} {x : Col} (e : H t = some (.tup [.int n, .str x.s])) (e2 : H u = some (.tup [.ref t])) : At K H (.ref u) (bushD [(n, x)]) := At.tupO e2 (.cons (at_stem (s := (n, x)) e) .nil)
end
end Sv

set_option maxHeartbeats 4000000
namespace Sv
open PySem PySem.Spec PyProof.Rows L2 L2H HotX LamX
/-! ### games written as nested tuples -/
mutual
def gD : Gm → PyData
  | .mk l r => .tuple [.tuple (gDs l), .tuple (gDs r)]
def gDs : List Gm → List PyData
  | [] => []
  | x :: xs => gD x :: gDs xs
end
theorem gDs_eq : ∀ l : List Gm, gDs l = l.map gD
  | [] => rfl
  | x :: l => by rw [gDs, gDs_eq l, List.map_cons]
theorem gD_eq (x : Gm) : gD x = .tuple [.tuple (x.L.map gD), .tuple (x.R.map gD)] := by
  cases x with
  | mk l r => rw [gD, gDs_eq, gDs_eq]; rfl
mutual
theorem gD_pl : ∀ x : Gm, pl (gD x) = true
  | .mk l r => by
    rw [gD]
    show (plAll (gDs l) && (plAll (gDs r) && true)) = true
    rw [gDs_pl l, gDs_pl r]; rfl
theorem gDs_pl : ∀ l : List Gm, plAll (gDs l) = true
  | [] => by rw [gDs]; rfl
  | x :: l => by rw [gDs, plAll, gD_pl x, gDs_pl l]; rfl
end
mutual
theorem gD_alike : ∀ x y : Gm, PySem.W.alike (gD x) (gD y) = true
  | .mk l r, .mk l' r' => by
    rw [gD, gD]
    show (PySem.W.alikeAll (gDs l) (gDs l') && (PySem.W.alikeAll (gDs r) (gDs r') && true)) = true
    rw [gDs_alike l l', gDs_alike r r']; rfl
theorem gDs_alike : ∀ l m : List Gm, PySem.W.alikeAll (gDs l) (gDs m) = true
  | [], m => by rw [gDs]; cases gDs m <;> rfl
  | x :: l, [] => by rw [gDs, gDs]; rfl
  | x :: l, y :: m => by
    rw [gDs, gDs]
    show (PySem.W.alike (gD x) (gD y) && PySem.W.alikeAll (gDs l) (gDs m)) = true
    rw [gD_alike x y, gDs_alike l m]; rfl
end
mutual
theorem gD_inj : ∀ x y : Gm, gD x = gD y → x = y
  | .mk l r, .mk l' r', h => by
    rw [gD, gD] at h
    have h := PyData.tuple.inj h
    simp only [List.cons.injEq, and_true] at h
    rw [gDs_inj l l' (PyData.tuple.inj h.1), gDs_inj r r' (PyData.tuple.inj h.2)]
theorem gDs_inj : ∀ l m : List Gm, gDs l = gDs m → l = m
  | [], [], _ => rfl
  | [], y :: m, h => by rw [gDs, gDs] at h; cases h
  | x :: l, [], h => by rw [gDs, gDs] at h; cases h
  | x :: l, y :: m, h => by
    rw [gDs, gDs] at h
    simp only [List.cons.injEq] at h
    rw [gD_inj x y h.1, gDs_inj l m h.2]
end
/-! ### how deep -/
mutual
def dpt : Gm → Nat
  | .mk l r => max (dpts l) (dpts r)
def dpts : List Gm → Nat
  | [] => 0
  | x :: l => max (dpt x + 1) (dpts l)
end
mutual
theorem gD_depth : ∀ x : Gm, (gD x).depth = 2 * dpt x + 2
  | .mk l r => by
    rw [gD, dpt]
    show max (PyData.depthAll (gDs l) + 1) (max (PyData.depthAll (gDs r) + 1) 0) + 1 = _
    rw [gDs_depth l, gDs_depth r]
    omega
theorem gDs_depth : ∀ l : List Gm, PyData.depthAll (gDs l) = 2 * dpts l
  | [] => by rw [gDs, dpts]; rfl
  | x :: l => by
    rw [gDs, dpts]
    show max (gD x).depth (PyData.depthAll (gDs l)) = _
    rw [gD_depth x, gDs_depth l]
    omega
end
theorem dpts_le {n : Nat} : ∀ {l : List Gm}, dpts l ≤ n ↔ ∀ x ∈ l, dpt x + 1 ≤ n
  | [] => by rw [dpts]; exact ⟨fun _ _ z => (nomatch z), fun _ => Nat.zero_le _⟩
  | y :: l => by
    rw [dpts, Nat.max_le, dpts_le]
    exact ⟨fun h x hx => (List.mem_cons.mp hx).elim (fun e => e ▸ h.1) (h.2 x), fun h => ⟨h y List.mem_cons_self, fun x hx => h x (List.mem_cons_of_mem _ hx)⟩⟩
theorem dpt_le {n : Nat} {x : Gm} : dpt x ≤ n ↔ (∀ l ∈ x.L, dpt l + 1 ≤ n) ∧ ∀ r ∈ x.R, dpt r + 1 ≤ n := by
  cases x with
  | mk l r => rw [dpt, Nat.max_le, dpts_le, dpts_le]; exact Iff.rfl
/-! ### ascending -/
def leG (a b : Gm) : Bool := !PySem.W.dataLt (gD b) (gD a)
def sortG (l : List Gm) : List Gm := l.mergeSort leG
theorem leG_le : leG = PySem.W.sortLe (listOrd itemOrd) false (fun x : Gm => PySem.W.keyToks (gD x)) := rfl
theorem leG_tot : PySem.W.TotalLe leG := by rw [leG_le]; exact PySem.W.sortLe_total _ _ _
theorem toks_inj {x y : Gm} (h : PySem.W.keyToks (gD x) = PySem.W.keyToks (gD y)) : x = y := by
  obtain ⟨_, h2⟩ := PySem.W.toks_eqv (gD x) (gD y) (gD_alike x y)
  cases q : PyData.eqv (gD x) (gD y) with
  | true => exact gD_inj x y (eqv_eq _ _ (gD_pl x) (gD_pl y) q)
  | false =>
    have := h2 q [] [.inl 0]
    rw [h, PySem.W.lex_pre, lex_irrefl] at this
    exact absurd this (by decide)
theorem leG_anti {a b : Gm} (h1 : leG a b = true) (h2 : leG b a = true) : a = b := by
  unfold leG at h1 h2
  rw [Bool.not_eq_true'] at h1 h2
  exact toks_inj (lex_total _ _ h2 h1)
theorem sortG_perm (l : List Gm) : (sortG l).Perm l := List.mergeSort_perm ..
theorem mem_sortG {l : List Gm} {x : Gm} : x ∈ sortG l ↔ x ∈ l := (sortG_perm l).mem_iff
theorem sortG_up (l : List Gm) : (sortG l).Pairwise fun a b => leG a b = true := PySem.W.sort_pairwise leG_tot l
theorem up_uniq : ∀ {l m : List Gm}, l.Perm m → (l.Pairwise fun a b => leG a b = true) → (m.Pairwise fun a b => leG a b = true) → l = m
  | [], m, h, _, _ => (List.Perm.eq_nil h.symm).symm
  | x :: l, [], h, _, _ => absurd h.length_eq (by simp)
  | x :: l, y :: m, h, h1, h2 => by
    obtain ⟨a1, a2⟩ := List.pairwise_cons.mp h1
    obtain ⟨b1, b2⟩ := List.pairwise_cons.mp h2
    have e : x = y := by
      rcases List.mem_cons.mp (h.mem_iff.mp List.mem_cons_self) with e | hx
      · exact e
      · rcases List.mem_cons.mp (h.mem_iff.mpr (List.mem_cons_self (a := y) (l := m))) with e | hy
        · exact e.symm
        · exact leG_anti (a1 y hy) (b1 x hx)
    subst e
    rw [up_uniq h.cons_inv a2 b2]
theorem sortG_eq {l m : List Gm} (h : l.Perm m) : sortG l = sortG m := up_uniq (((sortG_perm l).trans h).trans (sortG_perm m).symm) (sortG_up l) (sortG_up m)
theorem sortG_id {l : List Gm} (h : l.Pairwise fun a b => leG a b = true) : sortG l = l := up_uniq (sortG_perm l) (sortG_up l) h
theorem sortD_map (l : List Gm) : sortD (l.map gD) = (sortG l).map gD := (PySem.W.sort_maps (r := leG) (s := fun a b => !PySem.W.dataLt b a) gD fun a _ b _ => rfl).symm
mutual
def srt : Gm → Gm
  | .mk l r => .mk (sortG (srts l)) (sortG (srts r))
def srts : List Gm → List Gm
  | [] => []
  | x :: l => srt x :: srts l
end
theorem srts_eq : ∀ l : List Gm, srts l = l.map srt
  | [] => by rw [srts]; rfl
  | x :: l => by rw [srts, srts_eq l]; rfl
theorem srt_eq (x : Gm) : srt x = .mk (sortG (x.L.map srt)) (sortG (x.R.map srt)) := by
  cases x with
  | mk l r => rw [srt, srts_eq, srts_eq]; rfl
theorem srt_L (x : Gm) : (srt x).L = sortG (x.L.map srt) := by rw [srt_eq]; rfl
theorem srt_R (x : Gm) : (srt x).R = sortG (x.R.map srt) := by rw [srt_eq]; rfl
theorem srt_mk (l r : List Gm) : srt (.mk l r) = .mk (sortG (l.map srt)) (sortG (r.map srt)) := srt_eq _
theorem gm_ind {p : Gm → Prop} (h : ∀ x, (∀ l ∈ x.L, p l) → (∀ r ∈ x.R, p r) → p x) (x : Gm) : p x := by
  have : ∀ n x, sizeOf x < n → p x := by
    intro n
    induction n with
    | zero => intro x hx; omega
    | succ n ih =>
      intro x hx
      exact h x (fun l hl => ih l (by have := Gm.sizeL hl; omega)) fun r hr => ih r (by have := Gm.sizeR hr; omega)
  exact this _ x (Nat.lt_succ_self _)
theorem nodup_map {α β : Type} {f : α → β} : ∀ {l : List α}, l.Nodup → (∀ a ∈ l, ∀ b ∈ l, f a = f b → a = b) → (l.map f).Nodup
  | [], _, _ => List.nodup_nil
  | x :: l, h, u => by
    obtain ⟨h1, h2⟩ := List.nodup_cons.mp h
    rw [List.map_cons, List.nodup_cons]
    refine ⟨fun hm => ?_, nodup_map h2 fun a ha b hb => u a (List.mem_cons_of_mem _ ha) b (List.mem_cons_of_mem _ hb)⟩
    obtain ⟨y, hy, e⟩ := List.mem_map.mp hm
    rw [u y (List.mem_cons_of_mem _ hy) x List.mem_cons_self e] at hy
    exact h1 hy
theorem same_refl (x : Gm) : Gm.same x x := gm_ind (p := fun x => Gm.same x x) (fun x h1 h2 => Gm.same_iff.mpr ⟨fun l hl => ⟨l, hl, h1 l hl⟩, fun l hl => ⟨l, hl, h1 l hl⟩, fun l hl => ⟨l, hl, h2 l hl⟩, fun l hl => ⟨l, hl, h2 l hl⟩⟩) x
theorem same_eqv : ∀ (x : Gm) {y : Gm}, Gm.same x y → Gm.eqv x y := by
  intro x
  refine gm_ind (p := fun x => ∀ {y : Gm}, Gm.same x y → Gm.eqv x y) (fun x h1 h2 y s => ?_) x
  obtain ⟨s1, s2, s3, s4⟩ := Gm.same_iff.mp s
  have e : x = .mk x.L x.R := Gm.ext rfl rfl
  have e' : y = .mk y.L y.R := Gm.ext rfl rfl
  rw [e, e']
  refine Gm.mk_eqv (fun a ha => ?_) (fun a ha => ?_) (fun a ha => ?_) fun a ha => ?_
  · obtain ⟨b, hb, s⟩ := s1 a ha
    exact ⟨b, hb, h1 a ha s⟩
  · obtain ⟨b, hb, s⟩ := s2 a ha
    exact ⟨b, hb, h1 b hb s⟩
  · obtain ⟨b, hb, s⟩ := s3 a ha
    exact ⟨b, hb, h2 a ha s⟩
  · obtain ⟨b, hb, s⟩ := s4 a ha
    exact ⟨b, hb, h2 b hb s⟩
theorem srt_eqv (x : Gm) : Gm.eqv (srt x) x := by
  refine gm_ind (p := fun x => Gm.eqv (srt x) x) (fun x h1 h2 => ?_) x
  have e : x = .mk x.L x.R := Gm.ext rfl rfl
  rw [srt_eq]
  conv => rhs; rw [e]
  refine Gm.mk_eqv (fun a ha => ?_) (fun a ha => ?_) (fun a ha => ?_) fun a ha => ?_
  · obtain ⟨y, hy, rfl⟩ := List.mem_map.mp (mem_sortG.mp ha)
    exact ⟨y, hy, h1 y hy⟩
  · exact ⟨srt a, mem_sortG.mpr (List.mem_map.mpr ⟨a, ha, rfl⟩), h1 a ha⟩
  · obtain ⟨y, hy, rfl⟩ := List.mem_map.mp (mem_sortG.mp ha)
    exact ⟨y, hy, h2 y hy⟩
  · exact ⟨srt a, mem_sortG.mpr (List.mem_map.mpr ⟨a, ha, rfl⟩), h2 a ha⟩
theorem srt_dpt {n : Nat} (x : Gm) : dpt (srt x) ≤ n ↔ dpt x ≤ n := by
  revert n
  refine gm_ind (p := fun x => ∀ {n : Nat}, dpt (srt x) ≤ n ↔ dpt x ≤ n) (fun x h1 h2 n => ?_) x
  rw [dpt_le, dpt_le, srt_L, srt_R]
  refine and_congr ⟨fun h l hl => ?_, fun h l hl => ?_⟩ ⟨fun h l hl => ?_, fun h l hl => ?_⟩
  · have := h _ (mem_sortG.mpr (List.mem_map.mpr ⟨l, hl, rfl⟩))
    have := (h1 l hl (n := n - 1)).mp (by omega)
    omega
  · obtain ⟨y, hy, rfl⟩ := List.mem_map.mp (mem_sortG.mp hl)
    have := h y hy
    have := (h1 y hy (n := n - 1)).mpr (by omega)
    omega
  · have := h _ (mem_sortG.mpr (List.mem_map.mpr ⟨l, hl, rfl⟩))
    have := (h2 l hl (n := n - 1)).mp (by omega)
    omega
  · obtain ⟨y, hy, rfl⟩ := List.mem_map.mp (mem_sortG.mp hl)
    have := h y hy
    have := (h2 y hy (n := n - 1)).mpr (by omega)
    omega
/-- no choice stands twice, everywhere inside -/
def ND (x : Gm) : Prop := x.L.Nodup ∧ x.R.Nodup ∧ (∀ l, l ∈ x.L → ND l) ∧ ∀ r, r ∈ x.R → ND r
termination_by sizeOf x
decreasing_by
  · have := Gm.sizeL ‹_›; omega
  · have := Gm.sizeR ‹_›; omega
theorem ND_iff {x : Gm} : ND x ↔ x.L.Nodup ∧ x.R.Nodup ∧ (∀ l ∈ x.L, ND l) ∧ ∀ r ∈ x.R, ND r := by rw [ND]
/-- written least forms of games that are equal are equal -/
theorem srt_uniq : ∀ (x y : Gm), Gm.Can x → Gm.Can y → ND x → ND y → Gm.eqv x y → srt x = srt y := by
  intro x
  refine gm_ind (p := fun x => ∀ y : Gm, Gm.Can x → Gm.Can y → ND x → ND y → Gm.eqv x y → srt x = srt y) (fun x h1 h2 y cx cy nx ny e => ?_) x
  obtain ⟨s1, s2, s3, s4⟩ := Gm.same_iff.mp (Gm.can_same cx cy e)
  have sq : ∀ {a b : Gm}, Gm.same a b → Gm.eqv a b := fun {a b} h => same_eqv a h
  obtain ⟨x1, x2, _, _, x5, x6⟩ := Gm.can_iff.mp cx
  obtain ⟨y1, y2, _, _, y5, y6⟩ := Gm.can_iff.mp cy
  obtain ⟨nx1, nx2, nx3, nx4⟩ := ND_iff.mp nx
  obtain ⟨ny1, ny2, ny3, ny4⟩ := ND_iff.mp ny
  have key : ∀ {l m : List Gm}, (∀ a ∈ l, ∀ b : Gm, Gm.Can a → Gm.Can b → ND a → ND b → Gm.eqv a b → srt a = srt b) → (∀ a ∈ l, Gm.Can a) → (∀ a ∈ m, Gm.Can a) → (∀ a ∈ l, ND a) → (∀ a ∈ m, ND a) →
      (∀ a ∈ l, ∀ b ∈ l, Gm.le a b → a = b) → (∀ a ∈ m, ∀ b ∈ m, Gm.le a b → a = b) → l.Nodup → m.Nodup → (∀ a ∈ l, ∃ b ∈ m, Gm.same a b) → (∀ b ∈ m, ∃ a ∈ l, Gm.same a b) → sortG (l.map srt) = sortG (m.map srt) := by
    intro l m ih cl cm nl nm ul um dl dm t1 t2
    refine sortG_eq ?_
    have inj : ∀ {k : List Gm}, k.Nodup → (∀ a ∈ k, ∀ b ∈ k, Gm.le a b → a = b) → (k.map srt).Nodup := fun {k} hk uk => by
      exact nodup_map hk fun a ha b hb e => uk a ha b hb (Gm.le_trans (srt_eqv a).2 (by rw [e]; exact (srt_eqv b).1))
    refine (List.perm_ext_iff_of_nodup (inj dl ul) (inj dm um)).mpr fun g => ?_
    rw [List.mem_map, List.mem_map]
    constructor
    · rintro ⟨a, ha, rfl⟩
      obtain ⟨b, hb, s⟩ := t1 a ha
      exact ⟨b, hb, (ih a ha b (cl a ha) (cm b hb) (nl a ha) (nm b hb) (sq s)).symm⟩
    · rintro ⟨b, hb, rfl⟩
      obtain ⟨a, ha, s⟩ := t2 b hb
      exact ⟨a, ha, ih a ha b (cl a ha) (cm b hb) (nl a ha) (nm b hb) (sq s)⟩
  rw [srt_eq, srt_eq, key h1 x5 y5 nx3 ny3 x1 y1 nx1 ny1 s1 s2, key h2 x6 y6 nx4 ny4 x2 y2 nx2 ny2 s3 s4]
theorem sortG_nil : sortG [] = [] := sortG_id List.Pairwise.nil
theorem sortG_one (x : Gm) : sortG [x] = [x] := sortG_id (List.pairwise_singleton ..)
/-- at most n deep, and not too wide -/
def Nar : Nat → Gm → Prop
  | 0, g => g.L = [] ∧ g.R = []
  | n + 1, g => g.L.length ≤ 1000 ∧ g.R.length ≤ 1000 ∧ (∀ l ∈ g.L, Nar n l) ∧ ∀ r ∈ g.R, Nar n r
theorem Nar.dpt : ∀ {n : Nat} {g : Gm}, Nar n g → dpt g ≤ n
  | 0, g, h => by
    rw [dpt_le, h.1, h.2]
    exact ⟨fun _ z => (nomatch z), fun _ z => nomatch z⟩
  | n + 1, g, ⟨_, _, h1, h2⟩ => by
    rw [dpt_le]
    exact ⟨fun l hl => Nat.succ_le_succ (h1 l hl).dpt, fun l hl => Nat.succ_le_succ (h2 l hl).dpt⟩
theorem Nar.srt : ∀ {n : Nat} {g : Gm}, Nar n g → Nar n (srt g)
  | 0, g, h => by
    show (Sv.srt g).L = [] ∧ (Sv.srt g).R = []
    rw [srt_L, srt_R, h.1, h.2]
    exact ⟨sortG_nil, sortG_nil⟩
  | n + 1, g, ⟨h1, h2, h3, h4⟩ => by
    show (Sv.srt g).L.length ≤ 1000 ∧ (Sv.srt g).R.length ≤ 1000 ∧ (∀ l ∈ (Sv.srt g).L, Nar n l) ∧ ∀ r ∈ (Sv.srt g).R, Nar n r
    rw [srt_L, srt_R, (sortG_perm _).length_eq, (sortG_perm _).length_eq, List.length_map, List.length_map]
    refine ⟨h1, h2, fun l hl => ?_, fun l hl => ?_⟩
    · obtain ⟨y, hy, rfl⟩ := List.mem_map.mp (mem_sortG.mp hl)
      exact (h3 y hy).srt
    · obtain ⟨y, hy, rfl⟩ := List.mem_map.mp (mem_sortG.mp hl)
      exact (h4 y hy).srt
theorem Nar.opt {n : Nat} {g l : Gm} (h : Nar n g) (hl : l ∈ g.L ∨ l ∈ g.R) : ∃ m, n = m + 1 ∧ Nar m l := by
  cases n with
  | zero =>
    rw [h.1, h.2] at hl
    rcases hl with z | z <;> cases z
  | succ m => exact ⟨m, rfl, hl.elim (h.2.2.1 l) (h.2.2.2 l)⟩
theorem Nar.len {n : Nat} {g : Gm} (h : Nar n g) : g.L.length ≤ 1000 ∧ g.R.length ≤ 1000 := by
  cases n with
  | zero => rw [h.1, h.2]; exact ⟨Nat.zero_le _, Nat.zero_le _⟩
  | succ m => exact ⟨h.1, h.2.1⟩
/-- g is a worth of the bush b -/
def IsW (b : Bsh) (g : Gm) : Prop := ∃ x, Gm.Can x ∧ ND x ∧ Gm.eqv x (game b) ∧ Nar b.length x ∧ g = srt x
theorem IsW.nar {b : Bsh} {g : Gm} (h : IsW b g) : Nar b.length g := by
  obtain ⟨x, _, _, _, d, rfl⟩ := h
  exact d.srt
theorem IsW.eqv {b : Bsh} {g : Gm} (h : IsW b g) : Gm.eqv g (game b) := by
  obtain ⟨x, _, _, e, _, rfl⟩ := h
  exact Gm.eqv.trans (srt_eqv x) e
theorem IsW.dpt {b : Bsh} {g : Gm} (h : IsW b g) : dpt g ≤ b.length := by
  exact h.nar.dpt
theorem IsW.uniq {a b : Bsh} {g g' : Gm} (h : IsW a g) (h' : IsW b g') : g = g' ↔ Gm.eqv (game a) (game b) := by
  constructor
  · intro e
    exact Gm.eqv.trans h.eqv.symm (e ▸ h'.eqv)
  · intro e
    obtain ⟨x, c, n, e1, _, rfl⟩ := h
    obtain ⟨y, c', n', e2, _, rfl⟩ := h'
    exact srt_uniq x y c c' n n' (Gm.eqv.trans e1 (Gm.eqv.trans e e2.symm))
theorem val_nd {fs : List Form} (ok : FsOk fs) : ∀ n i, i < n → ND (val fs i)
  | 0, _, h => absurd h (by omega)
  | n + 1, i, h => by
    rw [ND_iff]
    cases e : fs[i]? with
    | none =>
      have : val fs i = .zero := by
        unfold val valF
        rw [e]
      rw [this]
      exact ⟨List.nodup_nil, List.nodup_nil, fun _ z => (nomatch z), fun _ z => nomatch z⟩
    | some f =>
      obtain ⟨a, b⟩ := ok.lt i f e
      obtain ⟨u1, u2⟩ := ok.up i f e
      have hi := (List.getElem?_eq_some_iff.mp e).1
      have nd : ∀ {l : List Nat}, l.Pairwise (· < ·) → (∀ j ∈ l, j < i) → (l.map (val fs)).Nodup := fun {l} hl hj => by
        exact nodup_map (hl.imp fun h => Nat.ne_of_lt h) fun x hx y hy e => uniq ok (x + 1) x y (Nat.lt_succ_self x) (Nat.lt_trans (hj x hx) hi) (Nat.lt_trans (hj y hy) hi) (by rw [e]; exact same_refl _)
      rw [val_L ok e, val_R ok e]
      refine ⟨nd u1 a, nd u2 b, fun l hl => ?_, fun l hl => ?_⟩
      · obtain ⟨j, hj, rfl⟩ := List.mem_map.mp hl
        exact val_nd ok n j (by have := a j hj; omega)
      · obtain ⟨j, hj, rfl⟩ := List.mem_map.mp hl
        exact val_nd ok n j (by have := b j hj; omega)
theorem rk_dpt {fs : List Form} (ok : FsOk fs) : ∀ {r i : Nat}, Rk fs r i → dpt (val fs i) ≤ r
  | 0, i, h => by
    have h : fs[i]? = some ([], []) := h
    rw [dpt_le, val_L ok h, val_R ok h]
    exact ⟨fun _ z => (nomatch z), fun _ z => nomatch z⟩
  | r + 1, i, ⟨f, h1, h2, h3⟩ => by
    rw [dpt_le, val_L ok h1, val_R ok h1]
    refine ⟨fun l hl => ?_, fun l hl => ?_⟩
    · obtain ⟨j, hj, rfl⟩ := List.mem_map.mp hl
      have := rk_dpt ok (h2 j hj)
      omega
    · obtain ⟨j, hj, rfl⟩ := List.mem_map.mp hl
      have := rk_dpt ok (h3 j hj)
      omega
theorem rk_nar {fs : List Form} (ok : FsOk fs) (few : fs.length ≤ 1000) : ∀ {r i : Nat}, Rk fs r i → Nar r (val fs i)
  | 0, i, h => by
    have h : fs[i]? = some ([], []) := h
    show (val fs i).L = [] ∧ (val fs i).R = []
    rw [val_L ok h, val_R ok h]
    exact ⟨rfl, rfl⟩
  | r + 1, i, ⟨f, h1, h2, h3⟩ => by
    have hi := (List.getElem?_eq_some_iff.mp h1).1
    have len : ∀ {l : List Nat}, l.Pairwise (· < ·) → (∀ j ∈ l, j < i) → l.length ≤ 1000 := fun {l} u hj => by
      have := nodup_le (l := l) (m := List.range fs.length) (u.imp fun h => Nat.ne_of_lt h) fun x hx => List.mem_range.mpr (Nat.lt_trans (hj x hx) hi)
      rw [List.length_range] at this
      omega
    show (val fs i).L.length ≤ 1000 ∧ (val fs i).R.length ≤ 1000 ∧ (∀ l ∈ (val fs i).L, Nar r l) ∧ ∀ l ∈ (val fs i).R, Nar r l
    rw [val_L ok h1, val_R ok h1, List.length_map, List.length_map]
    refine ⟨len (ok.up i f h1).1 (ok.lt i f h1).1, len (ok.up i f h1).2 (ok.lt i f h1).2, fun l hl => ?_, fun l hl => ?_⟩
    · obtain ⟨j, hj, rfl⟩ := List.mem_map.mp hl
      exact rk_nar ok few (h2 j hj)
    · obtain ⟨j, hj, rfl⟩ := List.mem_map.mp hl
      exact rk_nar ok few (h3 j hj)
end Sv

set_option maxHeartbeats 4000000
namespace Sv
open PySem PySem.Spec PyProof.Rows L2 L2H HotX LamX
/-! ### worths written -/
theorem gDs_ok {l : List Gm} : PySem.W.AllAlike (l.map gD) ∧ PySem.W.Sortable (l.map gD) := by
  refine ⟨fun d hd d' hd' => ?_, .inl fun d hd => ?_⟩
  · obtain ⟨x, _, rfl⟩ := List.mem_map.mp hd
    obtain ⟨y, _, rfl⟩ := List.mem_map.mp hd'
    exact gD_alike x y
  · obtain ⟨x, _, rfl⟩ := List.mem_map.mp hd
    rw [gD_eq]
    exact ⟨_, _, rfl⟩
section
variable {P : Program} {w : World} {K : PySem.W.Frag} {mg : Str → Option Value} {base : Heap} {CB : Addr} {C : Nat → Addr}
def spWritten (P : Program) (w : World) (K : PySem.W.Frag) (CB : Addr) (n : Nat) : Sp := fun vs H Q _ => ∃ B fs Db i a, vs = [.ref B.x, .int (i : Nat)] ∧ BInv P w K CB H B fs Db ∧ Rk fs a i ∧ a < n ∧ a ≤ 20 ∧ fs.length ≤ 1000 ∧
  ∀ H' v, Same H H' → At K H' v (gD (srt (val fs i))) → Q v H'
theorem scWritten : FnScope ["self", "number", "whites", "blacks", "first", "one"] ["self", "number"] (defScope s_Book_written) := ⟨rfl, rfl, rfl, by decide +kernel, rfl, by decide +kernel, by decide +kernel⟩
theorem k_written (F : HereM K CB "written" "Book.written" s_Book_written) (T : ClsT K mg "Book" CB fldsB) (B : Blt mg) : ∀ n, KeepsM P w K mg base CX0 (n + 1) CB "written" ["self", "number"] (spWritten P w K CB n)
  | 0 => keepsM0 F scWritten (fun _ _ _ _ _ _ us hl => match us, hl with | [_, _], _ => rfl) (fun vs H Q E h => by obtain ⟨_, _, _, _, _, _, _, _, z, _⟩ := h; omega) fun f cdv A outer s H vs Q E hr h => by obtain ⟨_, _, _, _, _, _, _, _, z, _⟩ := h; omega
  | n + 1 => by
    have d_written := k_written F T B n
    refine keepsM0 F scWritten (fun _ _ _ _ _ _ us hl => match us, hl with | [_, _], _ => rfl) (fun vs H Q E h => by obtain ⟨_, _, _, _, _, e, _⟩ := h; rw [e]; rfl) fun f cdv A outer s H vs Q E hr h => ?_
    obtain ⟨b, fs, Db, i, ra, rfl, hB, hi, hn, h20, few, q⟩ := h
    have n1 : NoAttr K CB "forms" := T.nf _ (by decide)
    refine ⟨_, pss_cons (ps_asg (pe_ix (ix_listK K) (pe_fldK T.cl n1 (pv 0)) (pv 1) (fun _ _ => rfl)) (pg_tupK K (n := 2) rfl (pgs_cons (pgn 2 scWritten.nd) (pgs_cons (pgn 3 scWritten.nd) pgs_nil))))
    (pss_cons (st 4 scWritten.nd (pb (cr_sortAK K hr.units) B.sorted boot_sorted (pa1 (pe_lc (own := [("one", 5)]) rfl scWritten.nd (pi_tupK K (pv 2)) (blkOk_by (own := [("one", 5)]) (N := ["self", "number", "whites", "blacks", "first", "one"]) (sc := defScope s_Book_written) (by decide +kernel)) (fun _ _ _ _ _ => pgn 5 scWritten.nd) (fun _ _ _ _ _ => pts_nil) (fun _ _ _ _ _ => pe_m0 d_written T.cl (hr.mono (by omega)) (pv 0) (pa1 (pv 5)))))))
    (pss_one (ps_ret (pe_tupN (pa2 (pbt (call_tupleK K) B.tuple boot_tuple (pa1 (pv 4))) (pbt (call_tupleK K) B.tuple boot_tuple (pa1 (pb (cr_sortAK K hr.units) B.sorted boot_sorted (pa1 (pe_lc (own := [("one", 5)]) rfl scWritten.nd (pi_tupK K (pv 3)) (blkOk_by (own := [("one", 5)]) (N := ["self", "number", "whites", "blacks", "first", "one"]) (sc := defScope s_Book_written) (by decide +kernel)) (fun _ _ _ _ _ => pgn 5 scWritten.nd) (fun _ _ _ _ _ => pts_nil) (fun _ _ _ _ _ => pe_m0 d_written T.cl (hr.mono (by omega)) (pv 0) (pa1 (pv 5))))))))))))), ?_⟩
    obtain ⟨Dn, Dk, hA, hK⟩ := id hB
    obtain ⟨fi, hi'⟩ : ∃ f, fs[i]? = some f := ⟨_, List.getElem?_eq_getElem hi.lt⟩
    obtain ⟨ys, af, a1, a2, e1, e2, e3, e4, e5⟩ := hA.form hi'
    have lens := hK.ok.len1 hi'
    have sorts : ∀ l : List Nat, (l.map fun j => gD (srt (val fs j))) = ((l.map (val fs)).map srt).map gD := fun l => by rw [List.map_map, List.map_map]; rfl
    have dep : ∀ {H0 : Hp} {l : List Nat}, (∀ j ∈ l, j ∈ fi.1 ∨ j ∈ fi.2) → ∀ d ∈ (((l.map (val fs)).map srt).map gD), d.depth ≤ 60 := fun {H0 l} hl d hd => by
      obtain ⟨g, hg, rfl⟩ := List.mem_map.mp hd
      obtain ⟨x, hx, rfl⟩ := List.mem_map.mp hg
      obtain ⟨j, hj, rfl⟩ := List.mem_map.mp hx
      obtain ⟨qa, rfl, hq⟩ := hi.opt hi' (hl j hj)
      have := (srt_dpt _).mpr (rk_dpt hK.ok hq)
      rw [gD_depth]
      omega
    refine ⟨_, rfl, b.x, b.dx, _, _, rfl, hA.ins, rfl, _, rfl, b.af, ys, _, _, rfl, rfl, SqL.of e1, e2, af, _, rfl, e3, rfl, _, _, rfl, _, _, rfl, rfl, ?_⟩
    refine ⟨_, rfl, a1, rfl, ⟨_, e4⟩, ?_⟩
    refine lc_J (walk_tup (xs := fi.1.map nV)) Same (fun Dl k zs H' => AtAll K H' zs ((fi.1.take k).map fun j => gD (srt (val fs j)))) (goes_same H) (by rw [List.length_map, sizeLine_eq]; omega) (fun H' t => (Same.ext t).sqT e4) (fun _ _ => AtAll.nil) (fun _ _ _ _ _ _ x _ r => r.ext x) ?_ ?_
    · rintro Dl E E0 k x zs H3 H4 nD eD hk t r ⟨rfl, hx⟩ k1 k0
      rw [List.getElem?_map] at hx
      cases hm : fi.1[k]? with
      | none => rw [hm] at hx; cases hx
      | some m =>
        rw [hm] at hx
        cases hx
        obtain ⟨qa, rfl, hq⟩ := hi.opt hi' (.inl (List.mem_of_getElem? hm))
        have hA3 := hA.same t
        refine ⟨rfl, _, rfl, b.x, b.dx, _, rfl, hA3.ins, bf_no b (by decide +kernel), _, rfl, b, fs, Db, m, qa, rfl, ⟨Dn, Dk, hA3, hK⟩, hq, by omega, by omega, few, fun H5 v s5 hv => ?_⟩
        refine k1 _ H5 s5 ?_
        rw [List.take_add_one, hm, List.map_append]
        exact AtAll.snoc hv (r.ext (Same.ext s5))
    · rintro Dl H3 zs nD t eD _ r
      rw [List.length_map, List.take_length, sorts] at r
      refine ⟨Dl, zs, _, rfl, SqL.of eD, r, gDs_ok.1, gDs_ok.2, dep (H0 := H) (fun j hj => .inl hj), fun us p1 np1 hu1 => ?_⟩
      rw [sortD_map] at hu1
      have s4 : Same H3 (upd H3 p1 (.lst us)) := same_new np1
      refine ⟨_, rfl, p1, us, rfl, SqL.of upd_same, fun t1 H5 nt1 s5 et1 => ?_⟩
      have s05 := t.trans (s4.trans s5)
      refine ⟨_, rfl, a2, rfl, ⟨_, (Same.ext s05).sqT e5⟩, ?_⟩
      refine lc_J (walk_tup (xs := fi.2.map nV)) Same (fun Dl k zs H' => AtAll K H' zs ((fi.2.take k).map fun j => gD (srt (val fs j)))) (goes_same H5) (by rw [List.length_map, sizeLine_eq]; omega) (fun H' t => (Same.ext (s05.trans t)).sqT e5) (fun _ _ => AtAll.nil) (fun _ _ _ _ _ _ x _ r => r.ext x) ?_ ?_
      · rintro Dl E E0 k x zs H6 H7 nD eD hk t r ⟨rfl, hx⟩ k1 k0
        rw [List.getElem?_map] at hx
        cases hm : fi.2[k]? with
        | none => rw [hm] at hx; cases hx
        | some m =>
          rw [hm] at hx
          cases hx
          obtain ⟨qa, rfl, hq⟩ := hi.opt hi' (.inr (List.mem_of_getElem? hm))
          have hA3 := hA.same (s05.trans t)
          refine ⟨rfl, _, rfl, b.x, b.dx, _, rfl, hA3.ins, bf_no b (by decide +kernel), _, rfl, b, fs, Db, m, qa, rfl, ⟨Dn, Dk, hA3, hK⟩, hq, by omega, by omega, few, fun H5 v s5 hv => ?_⟩
          refine k1 _ H5 s5 ?_
          rw [List.take_add_one, hm, List.map_append]
          exact AtAll.snoc hv (r.ext (Same.ext s5))
      · rintro Dl2 H6 zs2 nD2 t6 eD2 _ r2
        rw [List.length_map, List.take_length, sorts] at r2
        refine ⟨Dl2, zs2, _, rfl, SqL.of eD2, r2, gDs_ok.1, gDs_ok.2, dep (H0 := H) (fun j hj => .inr hj), fun us2 p2 np2 hu2 => ?_⟩
        rw [sortD_map] at hu2
        have s7 : Same H6 (upd H6 p2 (.lst us2)) := same_new np2
        refine ⟨p2, us2, rfl, SqL.of upd_same, fun t2 H8 nt2 s8 et2 => ⟨szl rfl, fun t3 H9 nt3 s9 et3 => ?_⟩⟩
        have s59 := t6.trans (s7.trans (s8.trans s9))
        refine q H9 _ (s05.trans s59) ?_
        rw [srt_eq, gD_eq, val_L hK.ok hi', val_R hK.ok hi']
        exact At.tupO et3 (.cons (At.tupO (s59 _ _ et1) (hu1.ext (Same.ext (s5.trans s59)))) (.cons (At.tupO (s9 _ _ et2) (hu2.ext (Same.ext (s8.trans s9)))) .nil))
/-! ### worth_of, worth -/
def spWorthOf (K : PySem.W.Frag) : Sp := fun vs H Q _ => ∃ v b, vs = [v] ∧ At K H v (bushD b) ∧ BushOk b ∧ ∀ H' u g, Same H H' → IsW b g → At K H' u (gD g) → Q u H'
theorem scWorthOf : FnScope ["bush", "book"] ["bush"] (defScope s_worth_of) := ⟨rfl, rfl, rfl, by decide +kernel, rfl, by decide +kernel, by decide +kernel⟩
theorem k_worth_of (F : Here K mg "worth_of" s_worth_of) (T : ClsT K mg "Book" CB fldsB) (d_init : KeepsM P w K mg base CX0 1 CB "__init__" ["self"] (spBInit P w K CB)) (d_of : KeepsM P w K mg base CX0 28 CB "of_bush" ["self", "bush"] (spOf P w K CB 8)) (d_written : KeepsM P w K mg base CX0 9 CB "written" ["self", "number"] (spWritten P w K CB 8)) :
    Keeps' P w K mg base CX0 29 "worth_of" ["bush"] (spWorthOf K) := by
  refine keeps0 F scWorthOf (fun _ _ _ _ _ _ us hl => match us, hl with | [_], _ => rfl) (fun vs H Q E h => by obtain ⟨_, _, e, _⟩ := h; rw [e]; rfl) fun f cdv A outer s H vs Q E hr h => ?_
  obtain ⟨v, b, rfl, hA, hb, q⟩ := h
  refine ⟨_, pss_cons (st 1 scWorthOf.nd (pe_mk0 d_init T (hr.mono (by decide)) (by rfl)))
    (pss_one (ps_ret (pe_m0 d_written T.cl (hr.mono (by decide)) (pv 1) (pa1 (pe_m0 d_of T.cl (hr.mono (by decide)) (pv 1) (pa1 (pv 0))))))), ?_⟩
  intro x dx nx ndx ne
  refine ⟨x, dx, rfl, upd_same, fun H1 bk bx m1 a1 a2 a3 a4 hB1 => ⟨rfl, ?_⟩⟩
  have sm : ∀ {H2 : Hp}, MvB bk H1 H2 → Same H H2 := fun {H2} m2 => book_same nx ndx bx m1 a1 a2 a3 a4 m2
  subst bx
  have hS := subs_one hb
  have s1 := sm (MvB.refl bk H1)
  have lb := hb.len
  obtain ⟨Dn1, Dk1, hA1, hK1⟩ := id hB1
  refine ⟨_, rfl, bk.x, bk.dx, _, rfl, hA1.ins, bf_no bk (by decide +kernel), _, rfl, bk.x, bk.dx, _, rfl, hA1.ins, bf_no bk (by decide +kernel), _, rfl, bk, [], _, _, v, b, rfl, hB1, hS, BuOk.nil _, subs_self hb.lo, hA.same s1, by omega, fun H2 gs2 Db2 i m2 hB2 hU2 _ num2 => ?_⟩
  obtain ⟨Dn2, Dk2, hA2, hK2⟩ := id hB2
  have fw := hU2.few
  have fn := hS.num
  refine ⟨bk, _, Db2, i, b.length, rfl, hB2, num2.1.rk, by omega, by omega, by omega, fun H3 u s3 hu => ?_⟩
  exact q H3 u _ ((sm m2).trans s3) ⟨_, num2.2.1, val_nd hK2.ok _ _ (Nat.lt_succ_self _), num2.2.2, rk_nar hK2.ok (by omega) num2.1.rk, rfl⟩ hu
def spWorth (K : PySem.W.Frag) (C : Nat → Addr) : Sp := fun vs H Q E => ∃ v d, vs = [v] ∧ Dp K H v d ∧ (isBush d = false → ∀ H', Same H H' → E (.ref (C 0)) none H') ∧ ∀ b, d = bushD b → BushOk b → ∀ H' u g, Same H H' → IsW b g → At K H' u (gD g) → Q u H'
def spWorth0 (K : PySem.W.Frag) : Sp := fun vs H Q _ => ∃ v b, vs = [v] ∧ At K H v (bushD b) ∧ BushOk b ∧ ∀ H' u g, Same H H' → IsW b g → At K H' u (gD g) → Q u H'
theorem worth0 {CX : CXT} {k : Nat} (D : Keeps' P w K mg base CX k "worth" ["bush"] (spWorth K C)) : Keeps' P w K mg base CX k "worth" ["bush"] (spWorth0 K) :=
  D.imp fun vs H Q E ⟨v, b, e, hA, hb, q⟩ => by
    have nb := isBush_iff.mpr ⟨b, rfl, hb⟩
    refine ⟨v, _, e, hA.2, (fun z => absurd (nb.symm.trans z) (by decide)), fun b' e1 _ => ?_⟩
    cases bushD_inj e1
    exact q
theorem scWorth : FnScope ["bush"] ["bush"] (defScope s_worth) := ⟨rfl, rfl, rfl, by decide +kernel, rfl, by decide +kernel, by decide +kernel⟩
theorem k_worth (F : Here K mg "worth" s_worth) (d_need : Keeps' P w K mg base (L2N.CX P w) 4 "need_bush" ["bush"] (spNeedBush K C)) (d_wo : Keeps' P w K mg base CX0 29 "worth_of" ["bush"] (spWorthOf K)) : Keeps' P w K mg base (L2N.CX P w) 30 "worth" ["bush"] (spWorth K C) := by
  refine keepsN F scWorth (fun _ _ _ _ _ _ us hl => match us, hl with | [_], _ => rfl) (fun vs H Q E h => by obtain ⟨_, _, e, _⟩ := h; rw [e]; rfl) fun f cdv A outer s H vs Q E hr h => ?_
  obtain ⟨v, d, rfl, hd, q1, q⟩ := h
  refine ⟨_, pss_cons (ps_expr (pe_dX d_need (hr.mono (by decide)) (by rfl) (L2N.takes_of rfl rfl rfl rfl) (fun _ _ _ _ h => h) (pa1 (pv 0))))
    (pss_one (ps_ret (pe_d0 d_wo (hr.mono (by decide)) (by rfl) (pa1 (pv 0))))), ?_⟩
  refine ⟨_, rfl, v, d, rfl, hd, fun n1 H1 s1 => ?_, fun n1 H1 s1 => q1 n1 H1 s1⟩
  obtain ⟨b, rfl, hb⟩ := isBush_iff.mp n1
  exact ⟨_, rfl, v, b, rfl, ⟨pl_bush b, dp_same s1 _ _ hd⟩, hb, fun H2 u g s2 hg hu => q b rfl hb H2 u g (s1.trans s2) hg hu⟩
end
end Sv

set_option maxHeartbeats 4000000
namespace Sv
open PySem PySem.Spec PyProof.Rows L2 L2H HotX LamX
/-! ### both sides exchanged -/
mutual
def mir : Gm → Gm
  | .mk l r => .mk (sortG (mirs r)) (sortG (mirs l))
def mirs : List Gm → List Gm
  | [] => []
  | x :: l => mir x :: mirs l
end
theorem mirs_eq : ∀ l : List Gm, mirs l = l.map mir
  | [] => by rw [mirs]; rfl
  | x :: l => by rw [mirs, mirs_eq l]; rfl
theorem mir_eq (x : Gm) : mir x = .mk (sortG (x.R.map mir)) (sortG (x.L.map mir)) := by
  cases x with
  | mk l r => rw [mir, mirs_eq, mirs_eq]; rfl
theorem mir_srt (x : Gm) : mir (srt x) = srt (Gm.neg x) := by
  refine gm_ind (p := fun x => mir (srt x) = srt (Gm.neg x)) (fun x h1 h2 => ?_) x
  have key : ∀ {l : List Gm}, (∀ y ∈ l, mir (srt y) = srt (Gm.neg y)) → sortG ((sortG (l.map srt)).map mir) = sortG ((l.map Gm.neg).map srt) := fun {l} h => by
    refine sortG_eq (((sortG_perm _).map mir).trans ?_)
    rw [List.map_map, List.map_map, List.map_congr_left (f := mir ∘ srt) (g := srt ∘ Gm.neg) fun y hy => h y hy]
  rw [mir_eq, srt_L, srt_R, srt_eq (Gm.neg x), Gm.neg_L, Gm.neg_R, key h1, key h2]
theorem neg_inj {x y : Gm} (h : Gm.neg x = Gm.neg y) : x = y := by rw [← Gm.neg_neg x, h, Gm.neg_neg]
theorem neg_can (x : Gm) : Gm.Can x → Gm.Can (Gm.neg x) := by
  refine gm_ind (p := fun x => Gm.Can x → Gm.Can (Gm.neg x)) (fun x h1 h2 c => ?_) x
  obtain ⟨c1, c2, c3, c4, c5, c6⟩ := Gm.can_iff.mp c
  rw [Gm.can_iff, Gm.neg_L, Gm.neg_R]
  refine ⟨fun a ha b hb l => ?_, fun a ha b hb l => ?_, fun l hl r hr q => ?_, fun r hr l hl q => ?_, fun l hl => ?_, fun l hl => ?_⟩
  · obtain ⟨u, hu, rfl⟩ := List.mem_map.mp ha
    obtain ⟨v, hv, rfl⟩ := List.mem_map.mp hb
    rw [c2 v hv u hu (Gm.neg_le_iff.mp l)]
  · obtain ⟨u, hu, rfl⟩ := List.mem_map.mp ha
    obtain ⟨v, hv, rfl⟩ := List.mem_map.mp hb
    rw [c1 v hv u hu (Gm.neg_le_iff.mp l)]
  · obtain ⟨u, hu, rfl⟩ := List.mem_map.mp hl
    rw [Gm.neg_R] at hr
    obtain ⟨v, hv, rfl⟩ := List.mem_map.mp hr
    exact c4 u hu v hv (Gm.neg_le_iff.mp q)
  · obtain ⟨u, hu, rfl⟩ := List.mem_map.mp hr
    rw [Gm.neg_L] at hl
    obtain ⟨v, hv, rfl⟩ := List.mem_map.mp hl
    exact c3 u hu v hv (Gm.neg_le_iff.mp q)
  · obtain ⟨u, hu, rfl⟩ := List.mem_map.mp hl
    exact h2 u hu (c6 u hu)
  · obtain ⟨u, hu, rfl⟩ := List.mem_map.mp hl
    exact h1 u hu (c5 u hu)
theorem neg_nd (x : Gm) : ND x → ND (Gm.neg x) := by
  refine gm_ind (p := fun x => ND x → ND (Gm.neg x)) (fun x h1 h2 c => ?_) x
  obtain ⟨c1, c2, c3, c4⟩ := ND_iff.mp c
  rw [ND_iff, Gm.neg_L, Gm.neg_R]
  refine ⟨nodup_map c2 fun a _ b _ e => neg_inj e, nodup_map c1 fun a _ b _ e => neg_inj e, fun l hl => ?_, fun l hl => ?_⟩
  · obtain ⟨u, hu, rfl⟩ := List.mem_map.mp hl
    exact h2 u hu (c4 u hu)
  · obtain ⟨u, hu, rfl⟩ := List.mem_map.mp hl
    exact h1 u hu (c3 u hu)
theorem neg_nar : ∀ {n : Nat} {x : Gm}, Nar n x → Nar n (Gm.neg x)
  | 0, x, h => by
    show (Gm.neg x).L = [] ∧ (Gm.neg x).R = []
    rw [Gm.neg_L, Gm.neg_R, h.1, h.2]; exact ⟨rfl, rfl⟩
  | n + 1, x, ⟨h1, h2, h3, h4⟩ => by
    show (Gm.neg x).L.length ≤ 1000 ∧ (Gm.neg x).R.length ≤ 1000 ∧ (∀ l ∈ (Gm.neg x).L, Nar n l) ∧ ∀ l ∈ (Gm.neg x).R, Nar n l
    rw [Gm.neg_L, Gm.neg_R, List.length_map, List.length_map]
    refine ⟨h2, h1, fun l hl => ?_, fun l hl => ?_⟩
    · obtain ⟨u, hu, rfl⟩ := List.mem_map.mp hl
      exact neg_nar (h4 u hu)
    · obtain ⟨u, hu, rfl⟩ := List.mem_map.mp hl
      exact neg_nar (h3 u hu)
theorem IsW.sw {b : Bsh} {g : Gm} (hb : BushLo b) (h : IsW b g) : IsW (swB b) (mir g) := by
  obtain ⟨x, c, n, e, d, rfl⟩ := h
  refine ⟨Gm.neg x, neg_can x c, neg_nd x n, ?_, by rw [swB_len]; exact neg_nar d, mir_srt x⟩
  rw [game_neg hb]
  exact ⟨Gm.neg_le_iff.mpr e.2, Gm.neg_le_iff.mpr e.1⟩
theorem IsW.one {a : Bsh} {g g' : Gm} (h : IsW a g) (h' : IsW a g') : g = g' := (h.uniq h').mpr (Gm.eqv.refl _)
theorem isW_nil : IsW [] .zero := by
  refine ⟨.zero, ?_, ?_, Gm.eqv.refl _, ⟨rfl, rfl⟩, ?_⟩
  · rw [Gm.can_iff]
    exact ⟨fun _ z => (nomatch z), fun _ z => (nomatch z), fun _ z => (nomatch z), fun _ z => (nomatch z), fun _ z => (nomatch z), fun _ z => nomatch z⟩
  · rw [ND_iff]
    exact ⟨List.nodup_nil, List.nodup_nil, fun _ z => (nomatch z), fun _ z => nomatch z⟩
  · show Gm.zero = srt (.mk [] [])
    rw [srt_mk]
    show _ = Gm.mk (sortG []) (sortG [])
    rw [sortG_nil]; rfl
theorem oneW_lo (c : Col) : BushLo [(-1, c)] := ⟨by simp, fun i s h => by
  cases i with
  | zero => cases h; exact ⟨Int.le_refl _, Int.negSucc_lt_zero 0⟩
  | succ n => simp at h⟩
theorem can_pos : Gm.Can (.mk [.zero] []) := by
  rw [Gm.can_iff]
  refine ⟨fun a ha b hb _ => ?_, fun _ z => (nomatch z), fun l hl r hr => ?_, fun _ z => (nomatch z), fun l hl => ?_, fun _ z => nomatch z⟩
  · rw [List.mem_singleton.mp ha, List.mem_singleton.mp hb]
  · rw [List.mem_singleton.mp hl] at hr; cases hr
  · rw [List.mem_singleton.mp hl]
    obtain ⟨x, c, _, _, _, e⟩ := isW_nil
    rw [Gm.can_iff]
    exact ⟨fun _ z => (nomatch z), fun _ z => (nomatch z), fun _ z => (nomatch z), fun _ z => (nomatch z), fun _ z => (nomatch z), fun _ z => nomatch z⟩
theorem nd_zero : ND .zero := by
  rw [ND_iff]
  exact ⟨List.nodup_nil, List.nodup_nil, fun _ z => (nomatch z), fun _ z => nomatch z⟩
theorem srt_zero : srt .zero = .zero := by
  show srt (.mk [] []) = .mk [] []
  rw [srt_mk]
  show Gm.mk (sortG []) (sortG []) = _
  rw [sortG_nil]
theorem isW_w : IsW [(-1, .w)] (.mk [.zero] []) := by
  refine ⟨.mk [.zero] [], can_pos, ?_, ?_, ⟨by decide, by decide, fun l hl => ?_, fun _ z => nomatch z⟩, ?_⟩
  · rw [ND_iff]
    refine ⟨List.nodup_cons.mpr ⟨(fun z => nomatch z), List.nodup_nil⟩, List.nodup_nil, fun l hl => ?_, fun _ z => nomatch z⟩
    rw [List.mem_singleton.mp hl]; exact nd_zero
  · rw [game_eq (oneW_lo .w)]
    have e1 : optsB [(-1, .w)] .w = [.zero] := rfl
    have e2 : optsB [(-1, .w)] .b = [] := rfl
    rw [e1, e2]
    exact Gm.eqv.refl _
  · rw [List.mem_singleton.mp hl]; exact ⟨rfl, rfl⟩
  · rw [srt_mk, List.map_cons, List.map_nil, srt_zero, sortG_one, sortG_nil]
theorem isW_b : IsW [(-1, .b)] (.mk [] [.zero]) := by
  have h := isW_w.sw (oneW_lo .w)
  have e : mir (.mk [.zero] []) = .mk [] [.zero] := by
    rw [mir_eq]
    show Gm.mk (sortG []) (sortG [mir .zero]) = _
    have e0 : mir .zero = .zero := by
      rw [mir_eq]
      show Gm.mk (sortG []) (sortG []) = _
      rw [sortG_nil]; rfl
    rw [e0, sortG_nil, sortG_one]
  rw [e] at h
  exact h
end Sv

set_option maxHeartbeats 4000000
namespace Sv
open PySem PySem.Spec PyProof.Rows L2 L2H HotX LamX
/-- a written game: where its parts stand -/
theorem gm_at {K : PySem.W.Frag} {H : Hp} {v : V} {g : Gm} (h : At K H v (gD g)) : ∃ a a1 a2 us1 us2, v = .ref a ∧ SqT K H a [.ref a1, .ref a2] ∧ SqT K H a1 us1 ∧ SqT K H a2 us2 ∧ AtAll K H us1 (g.L.map gD) ∧ AtAll K H us2 (g.R.map gD) ∧ us1.length = g.L.length ∧ us2.length = g.R.length := by
  rw [gD_eq] at h
  obtain ⟨a, vs, rfl, hs, hp, hall⟩ := h.inv
  rw [plAll, Bool.and_eq_true, plAll, Bool.and_eq_true] at hp
  cases hall with
  | cons d1 r =>
    cases r with
    | cons d2 r =>
      cases r
      obtain ⟨a1, u1, rfl, s1, k1⟩ := At.inv ⟨hp.1, d1⟩
      obtain ⟨a2, u2, rfl, s2, k2⟩ := At.inv ⟨hp.2.1, d2⟩
      have l1 := AtAll.len k1.2
      have l2 := AtAll.len k2.2
      rw [List.length_map] at l1 l2
      exact ⟨a, a1, a2, u1, u2, rfl, hs, s1, s2, k1, k2, l1, l2⟩
theorem gm_get {K : PySem.W.Frag} {H : Hp} {us : List V} {l : List Gm} {i : Nat} {v : V} (h : AtAll K H us (l.map gD)) (e : us[i]? = some v) : ∃ g, l[i]? = some g ∧ At K H v (gD g) := by
  obtain ⟨d, hd, hv⟩ := h.get e
  rw [List.getElem?_map] at hd
  cases q : l[i]? with
  | none => rw [q] at hd; cases hd
  | some g =>
    rw [q] at hd
    cases hd
    exact ⟨g, rfl, hv⟩
section
variable {P : Program} {w : World} {K : PySem.W.Frag} {mg : Str → Option Value} {base : Heap} {C : Nat → Addr}
end
end Sv

set_option maxHeartbeats 4000000
namespace Sv
open PySem PySem.Spec PyProof.Rows L2 L2H HotX LamX
theorem cmp_equal {a b : Bsh} : cmpS a b = "equal" ↔ Gm.eqv (game a) (game b) := by
  rw [cmpS_eq]
  unfold Gm.eqv
  rw [← leB_iff, ← leB_iff]
  cases leB (game a) (game b) <;> cases leB (game b) (game a) <;> decide +kernel
theorem gD_iff {x y : Gm} : gD x = gD y ↔ x = y := ⟨gD_inj x y, fun e => e ▸ rfl⟩
theorem w_depth {b : Bsh} {g : Gm} (h : IsW b g) (hb : BushOk b) : (gD g).depth ≤ 64 := by
  have := h.dpt
  have := hb.len
  rw [gD_depth]; omega
theorem w_eq {a b : Bsh} {g g' : Gm} (h : IsW a g) (h' : IsW b g') : eqC (gD g) (gD g') = decide (V.str (cmpS a b) = V.str (Str.ofString "equal")) := by
  rw [Bool.eq_iff_iff, eqC_iff, gD_iff, h.uniq h', ← cmp_equal, decide_eq_true_iff]
  exact ⟨fun e => congrArg V.str e, fun e => V.str.inj e⟩
theorem take_ok {b : Bsh} (h : BushOk b) (n : Nat) : BushOk (b.take n) := by
  refine ⟨Nat.le_trans (List.length_take_le' ..) h.len, fun i s hs => ?_⟩
  rw [List.getElem?_take] at hs
  split at hs
  · exact h.low i s hs
  · cases hs
theorem cutV_take (xs : List V) (k : Nat) : cutV xs none (some (k : Int)) = xs.take k := by
  unfold cutV
  rw [HT.sIx_none, HT.sIx_nat, List.drop_zero, Nat.sub_zero]
  by_cases h : k ≤ xs.length
  · rw [Nat.min_eq_left h]
  · rw [Nat.min_eq_right (by omega), List.take_length, List.take_of_length_le (by omega)]
theorem AtAll.take {K : PySem.W.Frag} {H : Hp} : ∀ (n : Nat) {vs : List V} {ds : List PyData}, AtAll K H vs ds → AtAll K H (vs.take n) (ds.take n)
  | 0, _, _, _ => AtAll.nil
  | n + 1, _, _, ⟨h, .nil⟩ => AtAll.nil
  | n + 1, _, _, ⟨h, .cons x t⟩ => by
    rw [plAll, Bool.and_eq_true] at h
    exact AtAll.cons ⟨h.1, x⟩ (AtAll.take n ⟨h.2, t⟩)
/-- the first stems of a bush -/
theorem bush_take {K : PySem.W.Frag} {H H' : Hp} {c : Addr} {vs : List V} {b : Bsh} {n : Nat} (hv : AtAll K H vs (b.map stemD)) (s : Same H H') (hc : SqT K H' c (cutV vs none (some (n : Int)))) : At K H' (.ref c) (bushD (b.take n)) := by
  rw [cutV_take] at hc
  refine At.tup hc ?_
  rw [List.map_take]
  exact AtAll.take n (hv.ext (Same.ext s))
theorem eqv_void {b s : Bsh} (hb : BushOk b) (hs : BushOk s) (h : b.length + (s.length + s.length) ≤ 100) : Gm.eqv (game (onStemB b (-1) (onStemB s (-1) (swB s)))) (game b) := by
  have l := hs.len
  have lo := onStem_lo (num := -1) hs.lo (swB_lo hs.lo) (by omega) (by omega) (by rw [swB_len]; omega)
  rw [game_add hb.lo lo (by rw [onStem_len, swB_len]; omega), game_add hs.lo (swB_lo hs.lo) (by rw [swB_len]; omega), game_neg hs.lo]
  exact ⟨Gm.add_le_self.mpr (Gm.add_neg_le _), Gm.self_le_add.mpr (Gm.le_add_neg _)⟩
theorem eqv_comm_bush {a b : Bsh} (ha : BushOk a) (hb : BushOk b) : Gm.eqv (game (onStemB a (-1) b)) (game (onStemB b (-1) a)) := by
  have := ha.len
  have := hb.len
  rw [game_add ha.lo hb.lo (by omega), game_add hb.lo ha.lo (by omega)]
  exact Gm.add_comm_eqv _ _
section
variable {P : Program} {w : World} {K : PySem.W.Frag} {mg : Str → Option Value} {base : Heap} {C : Nat → Addr}
theorem colStr_inj {a b : List Col} (h : colStr a = colStr b) : a = b := by
  unfold colStr at h
  have h := congrArg (fun z : Str => z.cps.toList) h
  simp only at h
  exact (List.map_inj_right (fun x y e => by cases x <;> cases y <;> first | rfl | cases e)).mp h
def spOfStalk0 (K : PySem.W.Frag) : Sp := fun vs H Q _ => ∃ cs : List Col, vs = [.str (colStr cs)] ∧ cs.length ≤ 7 ∧ ∀ H' p, Same H H' → H p = none → At K H' (.ref p) (bushD (stalkB cs)) → Q (.ref p) H'
theorem ofStalk0 {CX : CXT} {k : Nat} (D : Keeps' P w K mg base CX k "of_stalk" ["stalk"] (spOfStalk K C)) : Keeps' P w K mg base CX k "of_stalk" ["stalk"] (spOfStalk0 K) :=
  D.imp fun vs H Q E ⟨cs, e, l, q⟩ => by
    have hs := isStalk_iff.mpr ⟨cs, rfl, l⟩
    refine ⟨.str (colStr cs), .str (colStr cs), e, .str _, fun x ex => ?_, (fun z => absurd (hs.symm.trans z) (by decide)), fun cs' e1 l' => ?_⟩
    · cases ex
      show (colStr cs).cps.size ≤ 1000
      rw [colStr_size]; omega
    · cases colStr_inj (PyData.str.inj e1)
      exact q
end
end Sv

set_option maxHeartbeats 4000000
namespace Sv
open PySem PySem.Spec PyProof.Rows L2 L2H HotX LamX
/-! ### stalks -/
theorem stalkB_get {cs : List Col} {i : Nat} : (stalkB cs)[i]? = (cs[i]?).map fun c => ((i : Int) - 1, c) := by
  unfold stalkB
  rw [List.getElem?_mapIdx]
theorem stalk_lo {cs : List Col} (h : cs.length ≤ 100) : BushLo (stalkB cs) := by
  refine ⟨by rw [stalkB_len]; exact h, fun i s e => ?_⟩
  rw [stalkB_get] at e
  cases q : cs[i]? with
  | none => rw [q] at e; cases e
  | some c =>
    rw [q] at e
    cases e
    exact ⟨by show -1 ≤ (i : Int) - 1; omega, by show (i : Int) - 1 < i; omega⟩
theorem stalk_ok {cs : List Col} (h : cs.length ≤ 7) : BushOk (stalkB cs) := ⟨by rw [stalkB_len]; exact h, (stalk_lo (by omega)).low⟩
theorem stalk_st {cs : List Col} {n : Nat} : ∀ k, k ≤ cs.length → wSt (stalkB cs) n k = if k ≤ n then ((List.range k).map some, stalkB (cs.take k)) else ((List.range n).map some ++ List.replicate (k - n) none, stalkB (cs.take n))
  | 0, _ => by rw [if_pos (Nat.zero_le _)]; rfl
  | k + 1, h => by
    have e : (stalkB cs)[k]? = some ((k : Int) - 1, cs[k]) := by rw [stalkB_get, List.getElem?_eq_getElem (by omega)]; rfl
    rw [wSt_succ e, stalk_st k (by omega)]
    by_cases h1 : k + 1 ≤ n
    · rw [if_pos (by omega), if_pos h1]
      unfold wStep
      rw [if_neg (by omega)]
      have e3 : nameOf ((List.range k).map some) ((k : Int) - 1) = some ((k : Int) - 1) := by
        unfold nameOf
        split
        · have : k = 0 := by omega
          subst this; rfl
        · rw [List.getD_eq_getElem?_getD, List.getElem?_map, List.getElem?_range (by omega)]
          show some (((((k : Int) - 1).toNat : Nat)) : Int) = _
          congr 1
          omega
      rw [e3]
      show ((List.range k).map some ++ [some (stalkB (cs.take k)).length], stalkB (cs.take k) ++ [((k : Int) - 1, cs[k])]) = _
      rw [stalkB_len, List.length_take, Nat.min_eq_left (by omega), List.range_succ, List.map_append]
      congr 1
      have := stalkB_take (cs := cs.take (k + 1)) (i := k) (k := cs[k]) (by rw [List.getElem?_take]; rw [if_pos (by omega)]; exact List.getElem?_eq_getElem (by omega))
      rw [List.take_of_length_le (by rw [stalkB_len, List.length_take]; omega)] at this
      rw [this]
      congr 1
      have e4 : ∀ {l : List Col} {i : Nat}, (stalkB l).take i = stalkB (l.take i) := by
        intro l i
        apply List.ext_getElem?
        intro j
        rw [List.getElem?_take, stalkB_get, stalkB_get, List.getElem?_take]
        split <;> rfl
      rw [e4, List.take_take, Nat.min_eq_left (by omega)]
    · rw [if_neg h1]
      by_cases h2 : k ≤ n
      · have hk : k = n := by omega
        subst hk
        rw [if_pos (Nat.le_refl _)]
        unfold wStep
        rw [if_pos rfl, show k + 1 - k = 1 by omega]
        rfl
      · rw [if_neg h2]
        unfold wStep
        rw [if_neg (by omega)]
        have e3 : nameOf ((List.range n).map some ++ List.replicate (k - n) none) ((k : Int) - 1) = none := by
          unfold nameOf
          rw [if_neg (by omega), List.getD_eq_getElem?_getD, List.getElem?_append_right (by rw [List.length_map, List.length_range]; omega), List.length_map, List.length_range, List.getElem?_replicate, if_pos (by omega)]
          rfl
        rw [e3]
        show ((List.range n).map some ++ List.replicate (k - n) none ++ [none], _) = _
        rw [List.append_assoc, show [(none : Option Nat)] = List.replicate 1 none from rfl, List.replicate_append_replicate, show k - n + 1 = k + 1 - n by omega]
theorem stalk_cut {cs : List Col} {n : Nat} (h : n < cs.length) : withoutB (stalkB cs) n = stalkB (cs.take n) := by
  unfold withoutB
  rw [stalkB_len, stalk_st _ (Nat.le_refl _), if_neg (by omega)]
theorem stalk_cuts {cs : List Col} {c : Col} {i : Nat} : i ∈ cutsB (stalkB cs) c ↔ ∃ k, cs[i]? = some k ∧ (k = c ∨ k = .g) := by
  rw [mem_cuts]
  constructor
  · rintro ⟨s, e, h⟩
    rw [stalkB_get] at e
    cases q : cs[i]? with
    | none => rw [q] at e; cases e
    | some k => rw [q] at e; cases e; exact ⟨k, rfl, h⟩
  · rintro ⟨k, e, h⟩
    exact ⟨((i : Int) - 1, k), by rw [stalkB_get, e]; rfl, h⟩
theorem stalk_opts {cs : List Col} {c : Col} {g : Gm} : g ∈ optsB (stalkB cs) c ↔ ∃ i k, cs[i]? = some k ∧ (k = c ∨ k = .g) ∧ g = game (stalkB (cs.take i)) := by
  rw [mem_opts]
  constructor
  · rintro ⟨i, hi, rfl⟩
    obtain ⟨k, e, h⟩ := stalk_cuts.mp hi
    exact ⟨i, k, e, h, by rw [stalk_cut (List.getElem?_eq_some_iff.mp e).1]⟩
  · rintro ⟨i, k, e, h, rfl⟩
    exact ⟨i, stalk_cuts.mpr ⟨k, e, h⟩, by rw [stalk_cut (List.getElem?_eq_some_iff.mp e).1]⟩
/-! ### whole numbers -/
def intG : Nat → Gm
  | 0 => .zero
  | n + 1 => .mk [intG n] []
theorem intG_R : ∀ n, (intG n).R = []
  | 0 => rfl
  | n + 1 => rfl
theorem intG_up : ∀ n, Gm.le (intG n) (intG (n + 1))
  | 0 => by
    rw [Gm.le_iff]
    exact ⟨fun _ z => (nomatch z), fun _ z => nomatch z⟩
  | n + 1 => Gm.le_of_opts (fun l hl => ⟨intG (n + 1), List.mem_singleton.mpr rfl, by rw [List.mem_singleton.mp hl]; exact intG_up n⟩) fun _ z => nomatch z
theorem intG_le {i j : Nat} (h : i ≤ j) : Gm.le (intG i) (intG j) := by
  induction h with
  | refl => exact Gm.le_refl _
  | step _ ih => exact Gm.le_trans ih (intG_up _)
theorem intG_can : ∀ n, Gm.Can (intG n)
  | 0 => by
    rw [Gm.can_iff]
    exact ⟨fun _ z => (nomatch z), fun _ z => (nomatch z), fun _ z => (nomatch z), fun _ z => (nomatch z), fun _ z => (nomatch z), fun _ z => nomatch z⟩
  | n + 1 => by
    rw [Gm.can_iff]
    refine ⟨fun a ha b hb _ => ?_, fun _ z => (nomatch z), fun l hl r hr => ?_, fun _ z => (nomatch z), fun l hl => ?_, fun _ z => nomatch z⟩
    · rw [List.mem_singleton.mp ha, List.mem_singleton.mp hb]
    · rw [List.mem_singleton.mp hl, intG_R] at hr; cases hr
    · rw [List.mem_singleton.mp hl]; exact intG_can n
theorem intG_nd : ∀ n, ND (intG n)
  | 0 => nd_zero
  | n + 1 => by
    rw [ND_iff]
    refine ⟨List.nodup_cons.mpr ⟨(fun z => nomatch z), List.nodup_nil⟩, List.nodup_nil, fun l hl => ?_, fun _ z => nomatch z⟩
    rw [List.mem_singleton.mp hl]; exact intG_nd n
theorem intG_dpt : ∀ n, dpt (intG n) = n
  | 0 => rfl
  | n + 1 => by
    show max (max (dpt (intG n) + 1) 0) 0 = n + 1
    rw [intG_dpt n]; omega
theorem rep_take {c : Col} {n i : Nat} (h : i ≤ n) : (List.replicate n c).take i = List.replicate i c := by rw [List.take_replicate, Nat.min_eq_left h]
theorem game_white : ∀ n, n ≤ 100 → Gm.eqv (intG n) (game (stalkB (List.replicate n .w)))
  | 0, _ => Gm.eqv.refl _
  | n + 1, h => by
    have ih : ∀ i, i ≤ n → Gm.eqv (intG i) (game (stalkB (List.replicate i .w))) := fun i hi => game_white i (by omega)
    rw [game_eq (stalk_lo (by rw [List.length_replicate]; exact h))]
    have r0 : optsB (stalkB (List.replicate (n + 1) .w)) .b = [] := by
      refine List.eq_nil_iff_forall_not_mem.mpr fun g hg => ?_
      obtain ⟨i, k, e, hk, _⟩ := stalk_opts.mp hg
      have := List.eq_of_mem_replicate (List.mem_of_getElem? e)
      subst this
      rcases hk with z | z <;> cases z
    rw [r0]
    refine ⟨Gm.le_of_opts (fun l hl => ?_) (fun _ z => nomatch z), Gm.le_of_opts (fun l hl => ?_) fun _ z => nomatch z⟩
    · rw [List.mem_singleton.mp hl]
      refine ⟨_, stalk_opts.mpr ⟨n, .w, by rw [List.getElem?_replicate, if_pos (by omega)], .inl rfl, rfl⟩, ?_⟩
      rw [rep_take (by omega)]
      exact (ih n (Nat.le_refl _)).1
    · obtain ⟨i, k, e, _, rfl⟩ := stalk_opts.mp hl
      have hi := (List.getElem?_eq_some_iff.mp e).1
      rw [List.length_replicate] at hi
      rw [rep_take (by omega)]
      exact ⟨intG n, List.mem_singleton.mpr rfl, Gm.le_trans (ih i (by omega)).2 (intG_le (by omega))⟩
termination_by n => n
/-! ### heaps -/
def nims : Nat → List Gm
  | 0 => []
  | n + 1 => nims n ++ [.mk (nims n) (nims n)]
def nimG (n : Nat) : Gm := .mk (nims n) (nims n)
theorem mem_nims : ∀ {n : Nat} {x : Gm}, x ∈ nims n ↔ ∃ i, i < n ∧ x = nimG i
  | 0, x => ⟨(fun z => nomatch z), fun ⟨i, hi, _⟩ => absurd hi (by omega)⟩
  | n + 1, x => by
    show x ∈ nims n ++ [nimG n] ↔ _
    rw [List.mem_append, mem_nims, List.mem_singleton]
    constructor
    · rintro (⟨i, hi, e⟩ | e)
      · exact ⟨i, by omega, e⟩
      · exact ⟨n, by omega, e⟩
    · rintro ⟨i, hi, e⟩
      rcases Nat.lt_or_ge i n with h | h
      · exact .inl ⟨i, h, e⟩
      · exact .inr (by rw [e, show i = n by omega])
theorem nim_le {a b : Nat} : Gm.le (nimG a) (nimG b) ↔ a = b := by
  constructor
  · intro h
    rcases Nat.lt_trichotomy a b with c | c | c
    · exact absurd h (Gm.not_le_right (mem_nims.mpr ⟨a, c, rfl⟩ : nimG a ∈ (nimG b).R))
    · exact c
    · exact absurd h (Gm.not_le_left (mem_nims.mpr ⟨b, c, rfl⟩ : nimG b ∈ (nimG a).L))
  · rintro rfl; exact Gm.le_refl _
theorem nimG_inj {a b : Nat} (h : nimG a = nimG b) : a = b := nim_le.mp (by rw [h]; exact Gm.le_refl _)
theorem nims_nd : ∀ n, (nims n).Nodup
  | 0 => List.nodup_nil
  | n + 1 => by
    show (nims n ++ [nimG n]).Nodup
    rw [List.nodup_append]
    refine ⟨nims_nd n, List.nodup_cons.mpr ⟨(fun z => nomatch z), List.nodup_nil⟩, fun a ha b hb e => ?_⟩
    obtain ⟨i, hi, rfl⟩ := mem_nims.mp ha
    rw [List.mem_singleton.mp hb] at e
    have := nimG_inj e
    omega
theorem nim_can : ∀ m n, n < m → Gm.Can (nimG n)
  | 0, n, h => absurd h (by omega)
  | m + 1, n, h => by
    rw [Gm.can_iff]
    have one : ∀ a ∈ nims n, ∀ b ∈ nims n, Gm.le a b → a = b := fun a ha b hb l => by
      obtain ⟨i, _, rfl⟩ := mem_nims.mp ha
      obtain ⟨j, _, rfl⟩ := mem_nims.mp hb
      rw [nim_le.mp l]
    have all : ∀ a ∈ nims n, Gm.Can a := fun a ha => by
      obtain ⟨i, hi, rfl⟩ := mem_nims.mp ha
      exact nim_can m i (by omega)
    refine ⟨one, one, fun l hl r hr c => ?_, fun r hr l hl c => ?_, all, all⟩
    · obtain ⟨i, hi, rfl⟩ := mem_nims.mp hl
      obtain ⟨j, hj, rfl⟩ := mem_nims.mp hr
      have := nim_le.mp c
      omega
    · obtain ⟨i, hi, rfl⟩ := mem_nims.mp hr
      obtain ⟨j, hj, rfl⟩ := mem_nims.mp hl
      have := nim_le.mp c
      omega
theorem nim_nd : ∀ m n, n < m → ND (nimG n)
  | 0, n, h => absurd h (by omega)
  | m + 1, n, h => by
    rw [ND_iff]
    have all : ∀ a ∈ nims n, ND a := fun a ha => by
      obtain ⟨i, hi, rfl⟩ := mem_nims.mp ha
      exact nim_nd m i (by omega)
    exact ⟨nims_nd n, nims_nd n, all, all⟩
theorem dpts_app : ∀ (l m : List Gm), dpts (l ++ m) = max (dpts l) (dpts m)
  | [], m => by rw [List.nil_append, dpts]; omega
  | x :: l, m => by rw [List.cons_append, dpts, dpts, dpts_app l m]; omega
theorem nims_dpt : ∀ n, dpts (nims n) = n
  | 0 => rfl
  | n + 1 => by
    show dpts (nims n ++ [nimG n]) = n + 1
    rw [dpts_app, nims_dpt n]
    show max n (max (max (dpts (nims n)) (dpts (nims n)) + 1) 0) = n + 1
    rw [nims_dpt n]; omega
theorem nim_dpt (n : Nat) : dpt (nimG n) = n := by
  show max (dpts (nims n)) (dpts (nims n)) = n
  rw [nims_dpt n]; omega
theorem game_grey : ∀ m n, n < m → n ≤ 100 → Gm.eqv (nimG n) (game (stalkB (List.replicate n .g)))
  | 0, n, h, _ => absurd h (by omega)
  | m + 1, n, hm, h => by
    have ih : ∀ i, i < n → Gm.eqv (nimG i) (game (stalkB (List.replicate i .g))) := fun i hi => game_grey m i (by omega) (by omega)
    rw [game_eq (stalk_lo (by rw [List.length_replicate]; exact h))]
    have o1 : ∀ c : Col, ∀ a ∈ nims n, ∃ a' ∈ optsB (stalkB (List.replicate n .g)) c, Gm.eqv a a' := fun c a ha => by
      obtain ⟨i, hi, rfl⟩ := mem_nims.mp ha
      refine ⟨_, stalk_opts.mpr ⟨i, .g, by rw [List.getElem?_replicate, if_pos hi], .inr rfl, rfl⟩, ?_⟩
      rw [rep_take (by omega)]
      exact ih i hi
    have o2 : ∀ c : Col, ∀ a' ∈ optsB (stalkB (List.replicate n .g)) c, ∃ a ∈ nims n, Gm.eqv a a' := fun c a ha => by
      obtain ⟨i, k, e, _, rfl⟩ := stalk_opts.mp ha
      have hi := (List.getElem?_eq_some_iff.mp e).1
      rw [List.length_replicate] at hi
      refine ⟨nimG i, mem_nims.mpr ⟨i, hi, rfl⟩, ?_⟩
      rw [rep_take (by omega)]
      exact ih i hi
    exact Gm.mk_eqv (o1 .w) (o2 .w) (o1 .b) (o2 .b)
theorem neg_nims : ∀ n, (nims n).map Gm.neg = nims n
  | 0 => rfl
  | n + 1 => by
    show (nims n ++ [nimG n]).map Gm.neg = nims n ++ [nimG n]
    rw [List.map_append, neg_nims n]
    show nims n ++ [Gm.neg (nimG n)] = _
    have : Gm.neg (nimG n) = nimG n := by
      rw [Gm.neg_eq]
      show Gm.mk ((nims n).map Gm.neg) ((nims n).map Gm.neg) = _
      rw [neg_nims n]; rfl
    rw [this]
theorem neg_nim (n : Nat) : Gm.neg (nimG n) = nimG n := by
  rw [Gm.neg_eq]
  show Gm.mk ((nims n).map Gm.neg) ((nims n).map Gm.neg) = _
  rw [neg_nims n]; rfl
/-! ### worths of these -/
theorem IsW.of {b : Bsh} {g y : Gm} (h : IsW b g) (c : Gm.Can y) (n : ND y) (e : Gm.eqv y (game b)) : g = srt y := by
  obtain ⟨x, c', n', e', _, rfl⟩ := h
  exact srt_uniq x y c' c n' n (Gm.eqv.trans e' e.symm)
theorem dpt_srt (x : Gm) : dpt (srt x) = dpt x := Nat.le_antisymm ((srt_dpt x).mpr (Nat.le_refl _)) ((srt_dpt x).mp (Nat.le_refl _))
theorem IsW.depth {b : Bsh} {g y : Gm} (h : IsW b g) (c : Gm.Can y) (n : ND y) (e : Gm.eqv y (game b)) : Sv.dpt g = Sv.dpt y := by rw [h.of c n e, dpt_srt]
theorem dpt_neg (x : Gm) : dpt (Gm.neg x) = dpt x := by
  have key : ∀ (y : Gm) {n : Nat}, dpt y ≤ n → dpt (Gm.neg y) ≤ n := by
    intro y
    refine gm_ind (p := fun y => ∀ {n : Nat}, dpt y ≤ n → dpt (Gm.neg y) ≤ n) (fun y h1 h2 n h => ?_) y
    rw [dpt_le] at h ⊢
    rw [Gm.neg_L, Gm.neg_R]
    refine ⟨fun l hl => ?_, fun l hl => ?_⟩
    · obtain ⟨u, hu, rfl⟩ := List.mem_map.mp hl
      have := h.2 u hu
      have := h2 u hu (n := n - 1) (by omega)
      omega
    · obtain ⟨u, hu, rfl⟩ := List.mem_map.mp hl
      have := h.1 u hu
      have := h1 u hu (n := n - 1) (by omega)
      omega
  refine Nat.le_antisymm (key x (Nat.le_refl _)) ?_
  have := key (Gm.neg x) (Nat.le_refl _)
  rwa [Gm.neg_neg] at this
theorem IsW.depth_sw {b : Bsh} {g g' : Gm} (hb : BushLo b) (h : IsW b g) (h' : IsW (swB b) g') : Sv.dpt g' = Sv.dpt g := by
  rw [h'.one (h.sw hb)]
  obtain ⟨x, _, _, _, _, rfl⟩ := h
  rw [mir_srt, dpt_srt, dpt_srt, dpt_neg]
theorem dpt_zero {g : Gm} : dpt g = 0 ↔ g = .zero := by
  constructor
  · intro h
    obtain ⟨h1, h2⟩ := dpt_le.mp (Nat.le_of_eq h)
    refine Gm.ext (List.eq_nil_iff_forall_not_mem.mpr fun l hl => ?_) (List.eq_nil_iff_forall_not_mem.mpr fun l hl => ?_)
    · have := h1 l hl; omega
    · have := h2 l hl; omega
  · rintro rfl; rfl
theorem IsW.zero {b : Bsh} {g : Gm} (h : IsW b g) : Sv.dpt g = 0 ↔ Gm.eqv (game b) (game []) := by
  rw [dpt_zero, ← h.uniq isW_nil]
theorem depth_white {n : Nat} {g : Gm} (hn : n ≤ 100) (h : IsW (stalkB (List.replicate n .w)) g) : dpt g = n := by
  rw [h.depth (intG_can n) (intG_nd n) (game_white n hn), intG_dpt]
theorem sw_rep (n : Nat) : swB (stalkB (List.replicate n .w)) = stalkB (List.replicate n .b) := by
  apply List.ext_getElem?
  intro i
  rw [swB_get, stalkB_get, stalkB_get, List.getElem?_replicate, List.getElem?_replicate]
  split <;> rfl
theorem depth_black {n : Nat} {g : Gm} (hn : n ≤ 100) (h : IsW (stalkB (List.replicate n .b)) g) : dpt g = n := by
  have e := game_white n hn
  rw [h.depth (neg_can _ (intG_can n)) (neg_nd _ (intG_nd n)) ?_, dpt_neg, intG_dpt]
  rw [← sw_rep, game_neg (stalk_lo (by rw [List.length_replicate]; exact hn))]
  exact ⟨Gm.neg_le_iff.mpr e.2, Gm.neg_le_iff.mpr e.1⟩
theorem depth_grey {n : Nat} {g : Gm} (hn : n ≤ 100) (h : IsW (stalkB (List.replicate n .g)) g) : dpt g = n := by
  rw [h.depth (nim_can _ n (Nat.lt_succ_self n)) (nim_nd _ n (Nat.lt_succ_self n)) (game_grey _ n (Nat.lt_succ_self n) hn), nim_dpt]
/-! ### grey stems on the ground -/
theorem star_lo (n : Nat) (h : n ≤ 100) : BushLo (List.replicate n ((-1 : Int), Col.g)) := by
  refine ⟨by rw [List.length_replicate]; exact h, fun i s e => ?_⟩
  rw [List.eq_of_mem_replicate (List.mem_of_getElem? e)]
  exact ⟨Int.le_refl _, by show (-1 : Int) < i; omega⟩
theorem star_game : Gm.eqv (nimG 1) (game [(-1, .g)]) := by
  rw [game_eq (oneW_lo .g)]
  have e1 : optsB [(-1, .g)] .w = [.zero] := rfl
  have e2 : optsB [(-1, .g)] .b = [.zero] := rfl
  rw [e1, e2]
  exact Gm.eqv.refl _
theorem eqv_add {x y u v : Gm} (h1 : Gm.eqv x y) (h2 : Gm.eqv u v) : Gm.eqv (Gm.add x u) (Gm.add y v) := ⟨Gm.add_mono h1.1 h2.1, Gm.add_mono h1.2 h2.2⟩
theorem game_stars : ∀ n, n ≤ 100 → Gm.eqv (nimG (n % 2)) (game (List.replicate n ((-1 : Int), Col.g)))
  | 0, _ => Gm.eqv.refl _
  | n + 1, h => by
    have ih := game_stars n (by omega)
    have e : List.replicate (n + 1) ((-1 : Int), Col.g) = onStemB (List.replicate n ((-1 : Int), Col.g)) (-1) [(-1, .g)] := by
      rw [List.replicate_succ']; rfl
    rw [e, game_add (star_lo n (by omega)) (oneW_lo .g) (by rw [List.length_replicate]; simp; omega)]
    refine Gm.eqv.trans ?_ (eqv_add ih star_game)
    rcases Nat.mod_two_eq_zero_or_one n with c | c
    · rw [c, show (n + 1) % 2 = 1 by omega]
      show Gm.eqv (nimG 1) (Gm.add .zero (nimG 1))
      rw [Gm.zero_add]
      exact Gm.eqv.refl _
    · rw [c, show (n + 1) % 2 = 0 by omega]
      have := neg_nim 1
      exact ⟨by have h := Gm.le_add_neg (nimG 1); rw [this] at h; exact h, by have h := Gm.add_neg_le (nimG 1); rw [this] at h; exact h⟩
theorem depth_stars {n : Nat} {g : Gm} (hn : n ≤ 100) (h : IsW (List.replicate n ((-1 : Int), Col.g)) g) : dpt g = n % 2 := by
  rw [h.depth (nim_can _ _ (Nat.lt_succ_self _)) (nim_nd _ _ (Nat.lt_succ_self _)) (game_stars n hn), nim_dpt]
end Sv

set_option maxHeartbeats 4000000
namespace Sv
open PySem PySem.Spec PyProof.Rows L2 L2H HotX LamX
/-! ### numbers: t / 2^k -/
def intZ (t : Int) : Gm := if 0 ≤ t then intG t.toNat else Gm.neg (intG (-t).toNat)
def numG : Nat → Int → Gm
  | 0, t => intZ t
  | k + 1, t => if t % 2 = 0 then numG k (t / 2) else .mk [numG k (t / 2)] [numG k (t / 2 + 1)]
theorem numG_even (k : Nat) (a : Int) : numG (k + 1) (2 * a) = numG k a := by
  show (if 2 * a % 2 = 0 then numG k (2 * a / 2) else _) = _
  rw [if_pos (by omega), show 2 * a / 2 = a by omega]
theorem numG_odd (k : Nat) (a : Int) : numG (k + 1) (2 * a + 1) = .mk [numG k a] [numG k (a + 1)] := by
  show (if (2 * a + 1) % 2 = 0 then _ else Gm.mk [numG k ((2 * a + 1) / 2)] [numG k ((2 * a + 1) / 2 + 1)]) = _
  rw [if_neg (by omega), show (2 * a + 1) / 2 = a by omega]
theorem parity (t : Int) : (∃ a, t = 2 * a) ∨ ∃ a, t = 2 * a + 1 := by
  rcases (show t % 2 = 0 ∨ t % 2 = 1 by omega) with h | h
  · exact .inl ⟨t / 2, by omega⟩
  · exact .inr ⟨t / 2, by omega⟩
theorem intZ_pos {n : Nat} : intZ ((n : Int) + 1) = .mk [intZ n] [] := by
  unfold intZ
  rw [if_pos (by omega), if_pos (by omega), show ((n : Int) + 1).toNat = n + 1 by omega, Int.toNat_natCast]; rfl
theorem intZ_neg {n : Nat} : intZ (-((n : Int) + 1)) = .mk [] [intZ (-(n : Int))] := by
  unfold intZ
  rw [if_neg (by omega), show (- -((n : Int) + 1)).toNat = n + 1 by omega, Gm.neg_eq]
  show Gm.mk [] [Gm.neg (intG n)] = _
  by_cases h : n = 0
  · subst h
    rw [if_pos (by decide)]
    show Gm.mk [] [Gm.neg .zero] = Gm.mk [] [.zero]
    rw [Gm.neg_eq]; rfl
  · rw [if_neg (by omega), show (- -(n : Int)).toNat = n by omega]
theorem int_cases (t : Int) : t = 0 ∨ (∃ n : Nat, t = (n : Int) + 1) ∨ ∃ n : Nat, t = -((n : Int) + 1) := by
  rcases (show t = 0 ∨ 0 < t ∨ t < 0 by omega) with h | h | h
  · exact .inl h
  · exact .inr (.inl ⟨(t - 1).toNat, by omega⟩)
  · exact .inr (.inr ⟨(-t - 1).toNat, by omega⟩)
/-- one choice at most, a less number of the same level -/
theorem num_L : ∀ (k : Nat) (t : Int), (numG k t).L = [] ∨ ∃ c, c < t ∧ (numG k t).L = [numG k c]
  | 0, t => by
    rcases int_cases t with rfl | ⟨n, rfl⟩ | ⟨n, rfl⟩
    · exact .inl rfl
    · exact .inr ⟨n, by omega, by show (intZ _).L = _; rw [intZ_pos]; rfl⟩
    · exact .inl (by show (intZ _).L = _; rw [intZ_neg]; rfl)
  | k + 1, t => by
    rcases parity t with ⟨a, rfl⟩ | ⟨a, rfl⟩
    · rw [numG_even]
      rcases num_L k a with h | ⟨c, hc, h⟩
      · exact .inl h
      · exact .inr ⟨2 * c, by omega, by rw [h, numG_even]⟩
    · exact .inr ⟨2 * a, by omega, by rw [numG_odd, numG_even]; rfl⟩
theorem num_R : ∀ (k : Nat) (t : Int), (numG k t).R = [] ∨ ∃ c, t < c ∧ (numG k t).R = [numG k c]
  | 0, t => by
    rcases int_cases t with rfl | ⟨n, rfl⟩ | ⟨n, rfl⟩
    · exact .inl rfl
    · exact .inl (by show (intZ _).R = _; rw [intZ_pos]; rfl)
    · exact .inr ⟨-(n : Int), by omega, by show (intZ _).R = _; rw [intZ_neg]; rfl⟩
  | k + 1, t => by
    rcases parity t with ⟨a, rfl⟩ | ⟨a, rfl⟩
    · rw [numG_even]
      rcases num_R k a with h | ⟨c, hc, h⟩
      · exact .inl h
      · exact .inr ⟨2 * c, by omega, by rw [h, numG_even]⟩
    · exact .inr ⟨2 * (a + 1), by omega, by rw [numG_odd, numG_even]; rfl⟩
theorem mem_numL {k : Nat} {t : Int} {l : Gm} (h : l ∈ (numG k t).L) : ∃ c, c < t ∧ l = numG k c ∧ (numG k t).L = [numG k c] := by
  rcases num_L k t with e | ⟨c, hc, e⟩
  · rw [e] at h; cases h
  · exact ⟨c, hc, by rw [e] at h; exact List.mem_singleton.mp h, e⟩
theorem mem_numR {k : Nat} {t : Int} {l : Gm} (h : l ∈ (numG k t).R) : ∃ c, t < c ∧ l = numG k c ∧ (numG k t).R = [numG k c] := by
  rcases num_R k t with e | ⟨c, hc, e⟩
  · rw [e] at h; cases h
  · exact ⟨c, hc, by rw [e] at h; exact List.mem_singleton.mp h, e⟩
/-- between two numbers lies a choice of one of them -/
theorem num_gap : ∀ (k : Nat) {u t : Int}, u < t → (∃ c, u ≤ c ∧ numG k c ∈ (numG k t).L) ∨ ∃ c, c ≤ t ∧ numG k c ∈ (numG k u).R
  | 0, u, t, h => by
    rcases (show 0 < t ∨ t ≤ 0 by omega) with c | c
    · obtain ⟨n, rfl⟩ : ∃ n : Nat, t = (n : Int) + 1 := ⟨(t - 1).toNat, by omega⟩
      refine .inl ⟨n, by omega, ?_⟩
      show _ ∈ (intZ _).L
      rw [intZ_pos]; exact List.mem_singleton.mpr rfl
    · obtain ⟨n, rfl⟩ : ∃ n : Nat, u = -((n : Int) + 1) := ⟨(-u - 1).toNat, by omega⟩
      refine .inr ⟨-(n : Int), by omega, ?_⟩
      show _ ∈ (intZ _).R
      rw [intZ_neg]; exact List.mem_singleton.mpr rfl
  | k + 1, u, t, h => by
    rcases parity t with ⟨a, rfl⟩ | ⟨a, rfl⟩
    · rcases parity u with ⟨b, rfl⟩ | ⟨b, rfl⟩
      · rw [numG_even, numG_even]
        rcases num_gap k (show b < a by omega) with ⟨c, h1, h2⟩ | ⟨c, h1, h2⟩
        · exact .inl ⟨2 * c, by omega, by rw [numG_even]; exact h2⟩
        · exact .inr ⟨2 * c, by omega, by rw [numG_even]; exact h2⟩
      · exact .inr ⟨2 * (b + 1), by omega, by rw [numG_odd, numG_even]; exact List.mem_singleton.mpr rfl⟩
    · exact .inl ⟨2 * a, by omega, by rw [numG_odd, numG_even]; exact List.mem_singleton.mpr rfl⟩
theorem num_le_all (k : Nat) : ∀ (n : Nat) (t u : Int), sizeOf (numG k t) + sizeOf (numG k u) ≤ n → (Gm.le (numG k t) (numG k u) ↔ t ≤ u)
  | n, t, u, hn => by
    have ih : ∀ t' u' : Int, sizeOf (numG k t') + sizeOf (numG k u') < sizeOf (numG k t) + sizeOf (numG k u) → (Gm.le (numG k t') (numG k u') ↔ t' ≤ u') := fun t' u' h => by
      match n, hn with
      | 0, hn => omega
      | n + 1, hn => exact num_le_all k n t' u' (by omega)
    constructor
    · intro h
      refine Classical.byContradiction fun c => ?_
      rcases num_gap k (show u < t by omega) with ⟨c, h1, h2⟩ | ⟨c, h1, h2⟩
      · exact Gm.not_le_left h2 (Gm.le_trans h ((ih u c (by have := Gm.sizeL h2; omega)).mpr h1))
      · exact Gm.not_le_right h2 (Gm.le_trans ((ih c t (by have := Gm.sizeR h2; omega)).mpr h1) h)
    · intro h
      rw [Gm.le_iff]
      refine ⟨fun l hl c => ?_, fun r hr c => ?_⟩
      · obtain ⟨e, he, rfl, _⟩ := mem_numL hl
        have := (ih u e (by have := Gm.sizeL hl; omega)).mp c
        omega
      · obtain ⟨e, he, rfl, _⟩ := mem_numR hr
        have := (ih e t (by have := Gm.sizeR hr; omega)).mp c
        omega
theorem num_le {k : Nat} {t u : Int} : Gm.le (numG k t) (numG k u) ↔ t ≤ u := num_le_all k _ t u (Nat.le_refl _)
theorem num_eqv {k : Nat} {t u : Int} : Gm.eqv (numG k t) (numG k u) ↔ t = u := by
  unfold Gm.eqv
  rw [num_le, num_le]; omega
theorem num_far : ∀ (k : Nat) (t : Int), (∀ l ∈ (numG k t).L, ∀ r ∈ l.R, ∃ e, t < e ∧ r = numG k e) ∧ ∀ r ∈ (numG k t).R, ∀ l ∈ r.L, ∃ e, e < t ∧ l = numG k e
  | 0, t => by
    rcases int_cases t with rfl | ⟨n, rfl⟩ | ⟨n, rfl⟩
    · exact ⟨fun _ z => (nomatch z), fun _ z => nomatch z⟩
    · refine ⟨fun l hl r hr => ?_, fun r hr => ?_⟩
      · rw [show numG 0 ((n : Int) + 1) = intZ ((n : Int) + 1) from rfl, intZ_pos] at hl
        rw [List.mem_singleton.mp hl] at hr
        rcases num_R 0 (n : Int) with e | ⟨c, hc, e⟩
        · rw [show intZ (n : Int) = numG 0 (n : Int) from rfl, e] at hr; cases hr
        · exfalso
          cases n with
          | zero => cases hr
          | succ m => rw [show ((m + 1 : Nat) : Int) = (m : Int) + 1 by omega, intZ_pos] at hr; cases hr
      · rw [show numG 0 ((n : Int) + 1) = intZ ((n : Int) + 1) from rfl, intZ_pos] at hr; cases hr
    · refine ⟨fun l hl => ?_, fun r hr l hl => ?_⟩
      · rw [show numG 0 (-((n : Int) + 1)) = intZ (-((n : Int) + 1)) from rfl, intZ_neg] at hl; cases hl
      · rw [show numG 0 (-((n : Int) + 1)) = intZ (-((n : Int) + 1)) from rfl, intZ_neg] at hr
        rw [List.mem_singleton.mp hr] at hl
        exfalso
        cases n with
        | zero => cases hl
        | succ m => rw [show -((m + 1 : Nat) : Int) = -((m : Int) + 1) by omega, intZ_neg] at hl; cases hl
  | k + 1, t => by
    rcases parity t with ⟨a, rfl⟩ | ⟨a, rfl⟩
    · rw [numG_even]
      obtain ⟨h1, h2⟩ := num_far k a
      refine ⟨fun l hl r hr => ?_, fun r hr l hl => ?_⟩
      · obtain ⟨e, he, rfl⟩ := h1 l hl r hr
        exact ⟨2 * e, by omega, by rw [numG_even]⟩
      · obtain ⟨e, he, rfl⟩ := h2 r hr l hl
        exact ⟨2 * e, by omega, by rw [numG_even]⟩
    · rw [numG_odd]
      refine ⟨fun l hl r hr => ?_, fun r hr l hl => ?_⟩
      · rw [List.mem_singleton.mp hl] at hr
        obtain ⟨e, he, rfl, _⟩ := mem_numR hr
        exact ⟨2 * e, by omega, by rw [numG_even]⟩
      · rw [List.mem_singleton.mp hr] at hl
        obtain ⟨e, he, rfl, _⟩ := mem_numL hl
        exact ⟨2 * e, by omega, by rw [numG_even]⟩
theorem num_can_all (k : Nat) : ∀ (n : Nat) (t : Int), sizeOf (numG k t) ≤ n → Gm.Can (numG k t) ∧ ND (numG k t)
  | n, t, hn => by
    have ih : ∀ t' : Int, sizeOf (numG k t') < sizeOf (numG k t) → Gm.Can (numG k t') ∧ ND (numG k t') := fun t' h => by
      match n, hn with
      | 0, hn => omega
      | n + 1, hn => exact num_can_all k n t' (by omega)
    obtain ⟨f1, f2⟩ := num_far k t
    have l1 : ∀ l ∈ (numG k t).L, Gm.Can l ∧ ND l := fun l hl => by
      have hs := Gm.sizeL hl
      obtain ⟨c, _, rfl, _⟩ := mem_numL hl
      exact ih c hs
    have r1 : ∀ l ∈ (numG k t).R, Gm.Can l ∧ ND l := fun l hl => by
      have hs := Gm.sizeR hl
      obtain ⟨c, _, rfl, _⟩ := mem_numR hl
      exact ih c hs
    constructor
    · rw [Gm.can_iff]
      refine ⟨fun a ha b hb _ => ?_, fun a ha b hb _ => ?_, fun l hl r hr c => ?_, fun r hr l hl c => ?_, fun l hl => (l1 l hl).1, fun l hl => (r1 l hl).1⟩
      · obtain ⟨c, _, rfl, e⟩ := mem_numL ha
        rw [e] at hb
        exact (List.mem_singleton.mp hb).symm
      · obtain ⟨c, _, rfl, e⟩ := mem_numR ha
        rw [e] at hb
        exact (List.mem_singleton.mp hb).symm
      · obtain ⟨e, he, rfl⟩ := f1 l hl r hr
        have := num_le.mp c
        omega
      · obtain ⟨e, he, rfl⟩ := f2 r hr l hl
        have := num_le.mp c
        omega
    · rw [ND_iff]
      have one : ∀ x : Gm, [x].Nodup := fun x => List.nodup_cons.mpr ⟨(fun z => nomatch z), List.nodup_nil⟩
      refine ⟨?_, ?_, fun l hl => (l1 l hl).2, fun l hl => (r1 l hl).2⟩
      · rcases num_L k t with e | ⟨c, _, e⟩
        · rw [e]; exact List.nodup_nil
        · rw [e]; exact one _
      · rcases num_R k t with e | ⟨c, _, e⟩
        · rw [e]; exact List.nodup_nil
        · rw [e]; exact one _
theorem num_can (k : Nat) (t : Int) : Gm.Can (numG k t) := (num_can_all k _ t (Nat.le_refl _)).1
theorem num_nd (k : Nat) (t : Int) : ND (numG k t) := (num_can_all k _ t (Nat.le_refl _)).2
theorem num_up (k d : Nat) (t : Int) : numG (k + d) (t * 2 ^ d) = numG k t := by
  induction d with
  | zero => rw [Nat.add_zero, Int.pow_zero, Int.mul_one]
  | succ d ih => rw [show k + (d + 1) = k + d + 1 by omega, Int.pow_succ, show t * (2 ^ d * 2) = 2 * (t * 2 ^ d) by rw [← Int.mul_assoc, Int.mul_comm], numG_even, ih]
theorem neg_intZ (t : Int) : Gm.neg (intZ t) = intZ (-t) := by
  rcases int_cases t with rfl | ⟨n, rfl⟩ | ⟨n, rfl⟩
  · show Gm.neg .zero = .zero
    rw [Gm.neg_eq]; rfl
  · unfold intZ
    rw [if_pos (by omega), if_neg (by omega)]
    congr 2
  · unfold intZ
    rw [if_neg (by omega), if_pos (by omega), Gm.neg_neg]
theorem neg_num : ∀ (k : Nat) (t : Int), Gm.neg (numG k t) = numG k (-t)
  | 0, t => neg_intZ t
  | k + 1, t => by
    rcases parity t with ⟨a, rfl⟩ | ⟨a, rfl⟩
    · rw [numG_even, neg_num k a, show -(2 * a) = 2 * (-a) by omega, numG_even]
    · rw [numG_odd, Gm.neg_eq, show -(2 * a + 1) = 2 * (-a - 1) + 1 by omega, numG_odd]
      show Gm.mk [Gm.neg (numG k (a + 1))] [Gm.neg (numG k a)] = _
      rw [neg_num k, neg_num k, show -(a + 1) = -a - 1 by omega, show -a - 1 + 1 = -a by omega]
/-! ### the simplest number that fits -/
def Fits (x s : Gm) : Prop := (∀ l ∈ x.L, ¬ Gm.le s l) ∧ ∀ r ∈ x.R, ¬ Gm.le r s
theorem num_optL {k : Nat} {t : Int} {l : Gm} (h : l ∈ (numG k t).L) : Gm.le l (numG k t) := by
  obtain ⟨c, hc, rfl, _⟩ := mem_numL h
  exact num_le.mpr (by omega)
theorem num_optR {k : Nat} {t : Int} {l : Gm} (h : l ∈ (numG k t).R) : Gm.le (numG k t) l := by
  obtain ⟨c, hc, rfl, _⟩ := mem_numR h
  exact num_le.mpr (by omega)
theorem simplest {x : Gm} {k : Nat} : ∀ (n : Nat) (t : Int), sizeOf (numG k t) ≤ n → Fits x (numG k t) → ∃ s, Gm.eqv x (numG k s) ∧ Fits x (numG k s)
  | n, t, hn, hf => by
    by_cases h : (∃ l ∈ (numG k t).L, Fits x l) ∨ ∃ r ∈ (numG k t).R, Fits x r
    · rcases h with ⟨l, hl, h⟩ | ⟨l, hl, h⟩
      · have hs := Gm.sizeL hl
        obtain ⟨c, _, rfl, _⟩ := mem_numL hl
        match n, hn with
        | 0, hn => omega
        | n + 1, hn => exact simplest n c (by omega) h
      · have hs := Gm.sizeR hl
        obtain ⟨c, _, rfl, _⟩ := mem_numR hl
        match n, hn with
        | 0, hn => omega
        | n + 1, hn => exact simplest n c (by omega) h
    · have h1 : ∀ l ∈ (numG k t).L, ¬ Fits x l := fun l hl f => h (.inl ⟨l, hl, f⟩)
      have h2 : ∀ l ∈ (numG k t).R, ¬ Fits x l := fun l hl f => h (.inr ⟨l, hl, f⟩)
      have nf : ∀ {y : Gm}, ¬ Fits x y → (∃ l ∈ x.L, Gm.le y l) ∨ ∃ r ∈ x.R, Gm.le r y := fun {y} f => by
        refine Classical.byContradiction fun c => f ⟨fun l hl q => c (.inl ⟨l, hl, q⟩), fun r hr q => c (.inr ⟨r, hr, q⟩)⟩
      refine ⟨t, ⟨?_, ?_⟩, hf⟩
      · rw [Gm.le_iff]
        refine ⟨hf.1, fun r hr q => ?_⟩
        rcases nf (h2 r hr) with ⟨l, hl, c⟩ | ⟨r', hr', c⟩
        · exact hf.1 l hl (Gm.le_trans (num_optR hr) c)
        · exact Gm.not_le_right hr' (Gm.le_trans c q)
      · rw [Gm.le_iff]
        refine ⟨fun l hl q => ?_, hf.2⟩
        rcases nf (h1 l hl) with ⟨l', hl', c⟩ | ⟨r', hr', c⟩
        · exact Gm.not_le_left hl' (Gm.le_trans q c)
        · exact hf.2 r' hr' (Gm.le_trans c (num_optL hl))
/-! ### adding up -/
theorem intZ_add_pos (n m : Nat) : Gm.eqv (Gm.add (intG n) (intG m)) (intG (n + m)) := by
  induction n generalizing m with
  | zero => rw [Nat.zero_add]; show Gm.eqv (Gm.add .zero _) _; rw [Gm.zero_add]; exact Gm.eqv.refl _
  | succ n ih =>
    induction m with
    | zero => rw [Nat.add_zero]; show Gm.eqv (Gm.add _ .zero) _; rw [Gm.add_zero]; exact Gm.eqv.refl _
    | succ m ihm =>
      rw [Gm.add_eq]
      show Gm.eqv (.mk ([Gm.add (intG n) (intG (m + 1))] ++ [Gm.add (intG (n + 1)) (intG m)]) []) (.mk [intG (n + 1 + m)] [])
      refine Gm.mk_eqv (fun a ha => ⟨_, List.mem_singleton.mpr rfl, ?_⟩) (fun a ha => ⟨Gm.add (intG (n + 1)) (intG m), by simp, ?_⟩) (fun _ z => nomatch z) fun _ z => nomatch z
      · rcases List.mem_append.mp ha with h | h
        · rw [List.mem_singleton.mp h, show n + 1 + m = n + (m + 1) by omega]; exact ih (m + 1)
        · rw [List.mem_singleton.mp h]; exact ihm
      · rw [List.mem_singleton.mp ha]; exact ihm
theorem intG_sub {n m : Nat} (h : m ≤ n) : Gm.eqv (Gm.add (intG n) (Gm.neg (intG m))) (intG (n - m)) := by
  have e := intZ_add_pos (n - m) m
  rw [Nat.sub_add_cancel h] at e
  have e2 := eqv_add e.symm (Gm.eqv.refl (Gm.neg (intG m)))
  refine Gm.eqv.trans e2 ?_
  rw [Gm.add_assoc]
  have h1 := Gm.add_mono (Gm.le_refl (intG (n - m))) (Gm.add_neg_le (intG m))
  have h2 := Gm.add_mono (Gm.le_refl (intG (n - m))) (Gm.le_add_neg (intG m))
  rw [Gm.add_zero] at h1 h2
  exact ⟨h1, h2⟩
theorem neg_add (x y : Gm) : Gm.neg (Gm.add x y) = Gm.add (Gm.neg x) (Gm.neg y) := by
  have key : ∀ n x y, sizeOf x + sizeOf y ≤ n → Gm.neg (Gm.add x y) = Gm.add (Gm.neg x) (Gm.neg y) := by
    intro n
    induction n with
    | zero => intro x y h; cases x; simp at h
    | succ n ih =>
      intro x y h
      rw [Gm.neg_eq, Gm.add_eq (Gm.neg x), Gm.add_L, Gm.add_R, Gm.neg_L, Gm.neg_R, Gm.neg_L, Gm.neg_R]
      congr 1
      · rw [List.map_append, List.map_map, List.map_map, List.map_map, List.map_map]
        congr 1
        · exact List.map_congr_left fun a ha => ih a y (by have := Gm.sizeR ha; omega)
        · exact List.map_congr_left fun a ha => ih x a (by have := Gm.sizeR ha; omega)
      · rw [List.map_append, List.map_map, List.map_map, List.map_map, List.map_map]
        congr 1
        · exact List.map_congr_left fun a ha => ih a y (by have := Gm.sizeL ha; omega)
        · exact List.map_congr_left fun a ha => ih x a (by have := Gm.sizeL ha; omega)
  exact key _ x y (Nat.le_refl _)
theorem eqv_neg {x y : Gm} (h : Gm.eqv x y) : Gm.eqv (Gm.neg x) (Gm.neg y) := ⟨Gm.neg_le_iff.mpr h.2, Gm.neg_le_iff.mpr h.1⟩
theorem int_nat (t : Int) : (∃ n : Nat, t = n ∧ intZ t = intG n) ∨ ∃ n : Nat, t = -(n : Int) ∧ intZ t = Gm.neg (intG n) := by
  unfold intZ
  by_cases h : 0 ≤ t
  · exact .inl ⟨t.toNat, by omega, if_pos h⟩
  · exact .inr ⟨(-t).toNat, by omega, if_neg h⟩
theorem intZ_nat (n : Nat) : intZ (n : Int) = intG n := by unfold intZ; rw [if_pos (by omega), Int.toNat_natCast]
theorem intZ_negnat (n : Nat) : intZ (-(n : Int)) = Gm.neg (intG n) := by rw [← intZ_nat, neg_intZ]
theorem int_mix (n m : Nat) : Gm.eqv (Gm.add (intG n) (Gm.neg (intG m))) (intZ ((n : Int) - m)) := by
  rcases Nat.le_total m n with h | h
  · rw [show (n : Int) - m = ((n - m : Nat) : Int) by omega, intZ_nat]
    exact intG_sub h
  · have e := eqv_neg (intG_sub h)
    rw [neg_add, Gm.neg_neg] at e
    rw [show (n : Int) - m = -((m - n : Nat) : Int) by omega, intZ_negnat]
    exact Gm.eqv.trans (Gm.add_comm_eqv _ _) e
theorem int_add (t u : Int) : Gm.eqv (Gm.add (intZ t) (intZ u)) (intZ (t + u)) := by
  rcases int_nat t with ⟨n, rfl, e1⟩ | ⟨n, rfl, e1⟩ <;> rcases int_nat u with ⟨m, rfl, e2⟩ | ⟨m, rfl, e2⟩ <;> rw [e1, e2]
  · rw [show (n : Int) + m = ((n + m : Nat) : Int) by omega, intZ_nat]
    exact intZ_add_pos n m
  · rw [show (n : Int) + -(m : Int) = (n : Int) - m by omega]
    exact int_mix n m
  · rw [show -(n : Int) + (m : Int) = (m : Int) - n by omega]
    exact Gm.eqv.trans (Gm.add_comm_eqv _ _) (int_mix m n)
  · have e := eqv_neg (intZ_add_pos n m)
    rw [neg_add] at e
    rw [show -(n : Int) + -(m : Int) = -((n + m : Nat) : Int) by omega, intZ_negnat]
    exact e
theorem num_add : ∀ (k : Nat) (t u : Int), Gm.eqv (Gm.add (numG k t) (numG k u)) (numG k (t + u))
  | 0, t, u => int_add t u
  | k + 1, t, u => by
    -- an odd one and an even one
    have oe : ∀ a b : Int, Gm.eqv (Gm.add (numG (k + 1) (2 * a + 1)) (numG (k + 1) (2 * b))) (numG (k + 1) (2 * (a + b) + 1)) := fun a b => by
      rw [numG_odd k (a + b), numG_even]
      have eA := num_add k a b
      have eB := num_add k (a + 1) b
      rw [show a + 1 + b = a + b + 1 by omega] at eB
      have hA : Gm.add (numG k a) (numG k b) ∈ (Gm.add (numG (k + 1) (2 * a + 1)) (numG k b)).L := Gm.mem_addL.mpr (.inl ⟨numG k a, by rw [numG_odd]; exact List.mem_singleton.mpr rfl, rfl⟩)
      have hB : Gm.add (numG k (a + 1)) (numG k b) ∈ (Gm.add (numG (k + 1) (2 * a + 1)) (numG k b)).R := Gm.mem_addR.mpr (.inl ⟨numG k (a + 1), by rw [numG_odd]; exact List.mem_singleton.mpr rfl, rfl⟩)
      have xB : Gm.le (numG (k + 1) (2 * a + 1)) (numG k (a + 1)) := by rw [← numG_even k (a + 1), num_le]; omega
      have xA : Gm.le (numG k a) (numG (k + 1) (2 * a + 1)) := by rw [← numG_even k a, num_le]; omega
      have zA : ¬ Gm.le (Gm.mk [numG k (a + b)] [numG k (a + b + 1)]) (numG k (a + b)) := Gm.not_le_left (List.mem_singleton.mpr rfl)
      have zB : ¬ Gm.le (numG k (a + b + 1)) (Gm.mk [numG k (a + b)] [numG k (a + b + 1)]) := Gm.not_le_right (List.mem_singleton.mpr rfl)
      constructor
      · rw [Gm.le_iff]
        refine ⟨fun l hl q => ?_, fun r hr q => ?_⟩
        · rcases Gm.mem_addL.mp hl with ⟨l', hl', rfl⟩ | ⟨l', hl', rfl⟩
          · rw [numG_odd] at hl'
            rw [List.mem_singleton.mp hl'] at q
            exact zA (Gm.le_trans q eA.1)
          · obtain ⟨c, hc, rfl, _⟩ := mem_numL hl'
            have h1 := Gm.add_mono xB (num_le (k := k).mpr (show c ≤ b - 1 by omega))
            have h2 := (num_add k (a + 1) (b - 1)).1
            rw [show a + 1 + (b - 1) = a + b by omega] at h2
            exact zA (Gm.le_trans q (Gm.le_trans h1 h2))
        · rw [List.mem_singleton.mp hr] at q
          exact Gm.not_le_right hB (Gm.le_trans eB.1 q)
      · rw [Gm.le_iff]
        refine ⟨fun l hl q => ?_, fun r hr q => ?_⟩
        · rw [List.mem_singleton.mp hl] at q
          exact Gm.not_le_left hA (Gm.le_trans q eA.2)
        · rcases Gm.mem_addR.mp hr with ⟨l', hl', rfl⟩ | ⟨l', hl', rfl⟩
          · rw [numG_odd] at hl'
            rw [List.mem_singleton.mp hl'] at q
            exact zB (Gm.le_trans eB.2 q)
          · obtain ⟨c, hc, rfl, _⟩ := mem_numR hl'
            have h1 := Gm.add_mono xA (num_le (k := k).mpr (show b + 1 ≤ c by omega))
            have h2 := (num_add k a (b + 1)).2
            rw [show a + (b + 1) = a + b + 1 by omega] at h2
            exact zB (Gm.le_trans (Gm.le_trans h2 h1) q)
    rcases parity t with ⟨a, rfl⟩ | ⟨a, rfl⟩ <;> rcases parity u with ⟨b, rfl⟩ | ⟨b, rfl⟩
    · rw [show 2 * a + 2 * b = 2 * (a + b) by omega, numG_even, numG_even, numG_even]
      exact num_add k a b
    · rw [show 2 * a + (2 * b + 1) = 2 * (b + a) + 1 by omega]
      exact Gm.eqv.trans (Gm.add_comm_eqv _ _) (oe b a)
    · rw [show 2 * a + 1 + 2 * b = 2 * (a + b) + 1 by omega]
      exact oe a b
    · -- both odd
      rw [show 2 * a + 1 + (2 * b + 1) = 2 * (a + b + 1) by omega]
      have eo : ∀ x y : Int, Gm.eqv (Gm.add (numG (k + 1) (2 * x)) (numG (k + 1) (2 * y + 1))) (numG (k + 1) (2 * (x + y) + 1)) := fun x y => by
        have := Gm.eqv.trans (Gm.add_comm_eqv _ _) (oe y x)
        rwa [show y + x = x + y by omega] at this
      have xL : ∀ c : Int, ∀ l ∈ (numG (k + 1) (2 * c + 1)).L, l = numG (k + 1) (2 * c) := fun c l hl => by
        rw [numG_odd] at hl
        rw [List.mem_singleton.mp hl, numG_even]
      have xR : ∀ c : Int, ∀ l ∈ (numG (k + 1) (2 * c + 1)).R, l = numG (k + 1) (2 * (c + 1)) := fun c l hl => by
        rw [numG_odd] at hl
        rw [List.mem_singleton.mp hl, numG_even]
      constructor
      · rw [Gm.le_iff]
        refine ⟨fun l hl q => ?_, fun r hr q => ?_⟩
        · rcases Gm.mem_addL.mp hl with ⟨l', hl', rfl⟩ | ⟨l', hl', rfl⟩
          · rw [xL a l' hl'] at q
            have := num_le.mp (Gm.le_trans q (eo a b).1)
            omega
          · rw [xL b l' hl'] at q
            have := num_le.mp (Gm.le_trans q (oe a b).1)
            omega
        · obtain ⟨e, he, rfl, _⟩ := mem_numR hr
          rcases num_R (k + 1) (2 * (a + b + 1)) with z | ⟨e', he', z⟩
          · rw [z] at hr; cases hr
          · have h1 := Gm.add_mono (Gm.le_refl (numG (k + 1) (2 * a + 1))) (num_le (k := k + 1).mpr (show 2 * b + 1 ≤ 2 * (b + 1) by omega))
            have h2 := Gm.le_trans q (Gm.le_trans h1 (oe a (b + 1)).1)
            have h3 := num_le.mp h2
            -- e is even: a choice of an even number
            have he2 : e % 2 = 0 := by
              have : numG (k + 1) e ∈ (numG k (a + b + 1)).R := by rw [← numG_even]; exact hr
              obtain ⟨c, _, ec, _⟩ := mem_numR this
              have : numG (k + 1) e = numG (k + 1) (2 * c) := by rw [numG_even]; exact ec
              have : e = 2 * c := num_eqv.mp (by rw [this]; exact Gm.eqv.refl _)
              omega
            omega
      · rw [Gm.le_iff]
        refine ⟨fun l hl q => ?_, fun r hr q => ?_⟩
        · obtain ⟨e, he, rfl, _⟩ := mem_numL hl
          have h1 := Gm.add_mono (Gm.le_refl (numG (k + 1) (2 * a + 1))) (num_le (k := k + 1).mpr (show 2 * b ≤ 2 * b + 1 by omega))
          have h2 := Gm.le_trans (Gm.le_trans (oe a b).2 h1) q
          have h3 := num_le.mp h2
          have he2 : e % 2 = 0 := by
            have : numG (k + 1) e ∈ (numG k (a + b + 1)).L := by rw [← numG_even]; exact hl
            obtain ⟨c, _, ec, _⟩ := mem_numL this
            have : numG (k + 1) e = numG (k + 1) (2 * c) := by rw [numG_even]; exact ec
            have : e = 2 * c := num_eqv.mp (by rw [this]; exact Gm.eqv.refl _)
            omega
          omega
        · rcases Gm.mem_addR.mp hr with ⟨l', hl', rfl⟩ | ⟨l', hl', rfl⟩
          · rw [xR a l' hl'] at q
            have := num_le.mp (Gm.le_trans (eo (a + 1) b).2 q)
            omega
          · rw [xR b l' hl'] at q
            have := num_le.mp (Gm.le_trans (oe a (b + 1)).2 q)
            omega
end Sv

set_option maxHeartbeats 4000000
namespace Sv
open PySem PySem.Spec PyProof.Rows L2 L2H HotX LamX
/-! ### in lowest terms -/
def red : Nat → Int → Int × Int
  | 0, t => (t, 1)
  | k + 1, t => if t % 2 = 0 then red k (t / 2) else (t, 2 ^ (k + 1))
theorem red_even (k : Nat) (a : Int) : red (k + 1) (2 * a) = red k a := by
  show (if 2 * a % 2 = 0 then red k (2 * a / 2) else _) = _
  rw [if_pos (by omega), show 2 * a / 2 = a by omega]
theorem red_odd (k : Nat) (a : Int) : red (k + 1) (2 * a + 1) = (2 * a + 1, 2 ^ (k + 1)) := by
  show (if (2 * a + 1) % 2 = 0 then _ else (2 * a + 1, (2 : Int) ^ (k + 1))) = _
  rw [if_neg (by omega)]
theorem red_up (k d : Nat) (t : Int) : red (k + d) (t * 2 ^ d) = red k t := by
  induction d with
  | zero => rw [Nat.add_zero, Int.pow_zero, Int.mul_one]
  | succ d ih => rw [show k + (d + 1) = k + d + 1 by omega, Int.pow_succ, show t * (2 ^ d * 2) = 2 * (t * 2 ^ d) by rw [← Int.mul_assoc, Int.mul_comm], red_even, ih]
theorem red_spec : ∀ (k : Nat) (t : Int), ∃ i, i ≤ k ∧ (red k t).2 = 2 ^ i ∧ t = (red k t).1 * 2 ^ (k - i) ∧ (i = 0 ∨ (red k t).1 % 2 = 1)
  | 0, t => ⟨0, Nat.le_refl _, rfl, by show t = t * 1; omega, .inl rfl⟩
  | k + 1, t => by
    rcases parity t with ⟨a, rfl⟩ | ⟨a, rfl⟩
    · rw [red_even]
      obtain ⟨i, h1, h2, h3, h4⟩ := red_spec k a
      refine ⟨i, by omega, h2, ?_, h4⟩
      rw [show k + 1 - i = (k - i) + 1 by omega, Int.pow_succ, ← Int.mul_assoc, ← h3]
      omega
    · rw [red_odd]
      refine ⟨k + 1, Nat.le_refl _, rfl, ?_, .inr (by show (2 * a + 1) % 2 = 1; omega)⟩
      rw [Nat.sub_self, Int.pow_zero]
      show 2 * a + 1 = (2 * a + 1) * 1
      omega
theorem pow2_inj {x y : Nat} (e : (2 : Int) ^ x = 2 ^ y) : x = y := by
  have e : ((2 ^ x : Nat) : Int) = ((2 ^ y : Nat) : Int) := by rw [Int.natCast_pow, Int.natCast_pow]; exact e
  have e := Int.ofNat.inj e
  have := congrArg Nat.log2 e
  rwa [Nat.log2_two_pow, Nat.log2_two_pow] at this
theorem pow_pos2 (i : Nat) : (0 : Int) < 2 ^ i := Int.pow_pos (by decide)
/-- numbers t/2^k and u/2^m -/
theorem num_same {k m : Nat} {t u : Int} : numG k t = numG (k + m) (t * 2 ^ m) ∧ numG m u = numG (k + m) (u * 2 ^ k) := by
  refine ⟨(num_up k m t).symm, ?_⟩
  rw [Nat.add_comm k m]
  exact (num_up m k u).symm
/-- the fraction that comes out of two neighbours' -/
theorem red_mid (k : Nat) (a : Int) {i j : Nat} {p q : Int} (hp : red k a = (p, 2 ^ i)) (hq : red k (a + 1) = (q, 2 ^ j)) : red (1 + i + j) (p * 2 ^ j + q * 2 ^ i) = red (k + 1) (2 * a + 1) ∧ p * 2 ^ j < q * 2 ^ i := by
  obtain ⟨i', h1, h2, h3, _⟩ := red_spec k a
  obtain ⟨j', g1, g2, g3, _⟩ := red_spec k (a + 1)
  rw [hp] at h2 h3
  rw [hq] at g2 g3
  have : i = i' := pow2_inj h2
  subst this
  have : j = j' := pow2_inj g2
  subst this
  have h3 : a = p * 2 ^ (k - i) := h3
  have g3 : a + 1 = q * 2 ^ (k - j) := g3
  have ea : a * 2 ^ k = p * 2 ^ j * 2 ^ (k - i + (k - j)) := by
    conv => lhs; rw [h3]
    rw [Int.mul_assoc, Int.mul_assoc, ← Int.pow_add, ← Int.pow_add]
    congr 2
    omega
  have eb : (a + 1) * 2 ^ k = q * 2 ^ i * 2 ^ (k - i + (k - j)) := by
    conv => lhs; rw [g3]
    rw [Int.mul_assoc, Int.mul_assoc, ← Int.pow_add, ← Int.pow_add]
    congr 2
    omega
  constructor
  · rw [← red_up (1 + i + j) (k - i + (k - j)), Int.add_mul, ← ea, ← eb, ← Int.add_mul, show a + (a + 1) = 2 * a + 1 by omega, show 1 + i + j + (k - i + (k - j)) = k + 1 + k by omega, red_up]
  · have h : p * 2 ^ j * 2 ^ (k - i + (k - j)) < q * 2 ^ i * 2 ^ (k - i + (k - j)) := by
      rw [← ea, ← eb]
      exact Int.mul_lt_mul_of_pos_right (by omega) (pow_pos2 k)
    exact Int.lt_of_mul_lt_mul_right h (Int.le_of_lt (pow_pos2 _))
/-! ### the number of a written form -/
def numIn : Gm → Option (Int × Int)
  | .mk [] [] => some (0, 1)
  | .mk [l] [] => (numIn l).map fun p => (p.1 + 1, 1)
  | .mk [] [r] => (numIn r).map fun p => (p.1 - 1, 1)
  | .mk [l] [r] => match numIn l, numIn r with
    | some p, some q => if p.1 * q.2 < q.1 * p.2 then some (red (2 * p.2 * q.2).toNat.log2 (p.1 * q.2 + q.1 * p.2)) else none
    | _, _ => none
  | _ => none
termination_by g => sizeOf g
theorem srt_one (l r : Gm) : srt (.mk [l] [r]) = .mk [srt l] [srt r] := by
  rw [srt_mk]
  show Gm.mk (sortG [srt l]) (sortG [srt r]) = _
  rw [sortG_one, sortG_one]
theorem srt_left (l : Gm) : srt (.mk [l] []) = .mk [srt l] [] := by
  rw [srt_mk]
  show Gm.mk (sortG [srt l]) (sortG []) = _
  rw [sortG_one, sortG_nil]
theorem srt_right (r : Gm) : srt (.mk [] [r]) = .mk [] [srt r] := by
  rw [srt_mk]
  show Gm.mk (sortG []) (sortG [srt r]) = _
  rw [sortG_one, sortG_nil]
theorem log2_mid (i j : Nat) : ((2 : Int) * 2 ^ i * 2 ^ j).toNat.log2 = 1 + i + j := by
  have e : (2 : Int) * 2 ^ i * 2 ^ j = ((2 ^ (1 + i + j) : Nat) : Int) := by
    rw [Int.natCast_pow, Int.pow_add, Int.pow_add, Int.pow_one]; rfl
  rw [e, Int.toNat_natCast, Nat.log2_two_pow]
theorem numIn_num : ∀ (k : Nat) (t : Int), numIn (srt (numG k t)) = some (red k t)
  | 0, t => by
    show numIn (srt (intZ t)) = some (t, 1)
    rcases int_cases t with rfl | ⟨n, rfl⟩ | ⟨n, rfl⟩
    · show numIn (srt (.mk [] [])) = _
      rw [srt_mk]
      show numIn (.mk (sortG []) (sortG [])) = _
      rw [sortG_nil, numIn]
    · induction n with
      | zero =>
        rw [intZ_pos, srt_left, numIn]
        show (numIn (srt (.mk [] []))).map _ = _
        rw [srt_mk]
        show (numIn (.mk (sortG []) (sortG []))).map _ = _
        rw [sortG_nil, numIn]; rfl
      | succ n ih =>
        rw [intZ_pos, srt_left, numIn, show ((n + 1 : Nat) : Int) = (n : Int) + 1 by omega, ih]; rfl
    · induction n with
      | zero =>
        rw [intZ_neg, srt_right, numIn]
        show (numIn (srt (.mk [] []))).map _ = _
        rw [srt_mk]
        show (numIn (.mk (sortG []) (sortG []))).map _ = _
        rw [sortG_nil, numIn]; rfl
      | succ n ih =>
        rw [intZ_neg, srt_right, numIn, show -((n + 1 : Nat) : Int) = -((n : Int) + 1) by omega, ih]
        show some (-((n : Int) + 1) - 1, (1 : Int)) = _
        congr 2
  | k + 1, t => by
    rcases parity t with ⟨a, rfl⟩ | ⟨a, rfl⟩
    · rw [numG_even, red_even, numIn_num k a]
    · rw [numG_odd, srt_one, numIn, numIn_num k a, numIn_num k (a + 1)]
      obtain ⟨i, _, hi, _⟩ := red_spec k a
      obtain ⟨j, _, hj, _⟩ := red_spec k (a + 1)
      obtain ⟨h1, h2⟩ := red_mid k a (p := (red k a).1) (q := (red k (a + 1)).1) (i := i) (j := j) (by rw [← hi]) (by rw [← hj])
      show (if (red k a).1 * (red k (a + 1)).2 < (red k (a + 1)).1 * (red k a).2 then _ else _) = _
      rw [hi, hj, if_pos h2, log2_mid, h1]
/-! ### which worths are numbers -/
def IsNum (g : Gm) : Prop := ∃ k t, Gm.eqv g (numG k t)
theorem IsNum.eqv {g h : Gm} (e : Gm.eqv g h) (n : IsNum g) : IsNum h := by
  obtain ⟨k, t, q⟩ := n
  exact ⟨k, t, Gm.eqv.trans e.symm q⟩
theorem numIn_of {x : Gm} (c : Gm.Can x) (n : ND x) {k : Nat} {t : Int} (e : Gm.eqv x (numG k t)) : numIn (srt x) = some (red k t) := by
  rw [srt_uniq x _ c (num_can k t) n (num_nd k t) e, numIn_num]
theorem numIn_is (x : Gm) : Gm.Can x → ND x → ∀ v, numIn (srt x) = some v → ∃ k t, Gm.eqv x (numG k t) ∧ v = red k t := by
  refine gm_ind (p := fun x => Gm.Can x → ND x → ∀ v, numIn (srt x) = some v → ∃ k t, Gm.eqv x (numG k t) ∧ v = red k t) (fun x ih1 ih2 c n v hv => ?_) x
  obtain ⟨_, _, _, _, c5, c6⟩ := Gm.can_iff.mp c
  obtain ⟨_, _, n3, n4⟩ := ND_iff.mp n
  have done : ∀ {K : Nat} {T : Int}, Fits x (numG K T) → ∃ k t, Gm.eqv x (numG k t) ∧ v = red k t := fun {K T} f => by
    obtain ⟨s, e, _⟩ := simplest _ T (Nat.le_refl _) f
    refine ⟨K, s, e, ?_⟩
    rw [numIn_of c n e] at hv
    exact (Option.some.inj hv).symm
  obtain ⟨L, R⟩ := x
  rw [srt_mk] at hv
  match L, R, hv with
  | [], [], hv => exact done (K := 0) (T := 0) ⟨fun _ z => (nomatch z), fun _ z => nomatch z⟩
  | [l], [], hv =>
    have hv : numIn (.mk (sortG [srt l]) (sortG [])) = some v := hv
    rw [sortG_one, sortG_nil, numIn] at hv
    cases hl : numIn (srt l) with
    | none => rw [hl] at hv; cases hv
    | some p =>
      obtain ⟨k, t, e, _⟩ := ih1 l (List.mem_singleton.mpr rfl) (c5 l (List.mem_singleton.mpr rfl)) (n3 l (List.mem_singleton.mpr rfl)) p hl
      refine done (K := k) (T := t + 1) ⟨fun y hy q => ?_, fun _ z => nomatch z⟩
      rw [List.mem_singleton.mp hy] at q
      have := num_le.mp (Gm.le_trans q e.1)
      omega
  | [], [r], hv =>
    have hv : numIn (.mk (sortG []) (sortG [srt r])) = some v := hv
    rw [sortG_one, sortG_nil, numIn] at hv
    cases hr : numIn (srt r) with
    | none => rw [hr] at hv; cases hv
    | some p =>
      obtain ⟨k, t, e, _⟩ := ih2 r (List.mem_singleton.mpr rfl) (c6 r (List.mem_singleton.mpr rfl)) (n4 r (List.mem_singleton.mpr rfl)) p hr
      refine done (K := k) (T := t - 1) ⟨fun _ z => (nomatch z), fun y hy q => ?_⟩
      rw [List.mem_singleton.mp hy] at q
      have := num_le.mp (Gm.le_trans e.2 q)
      omega
  | [l], [r], hv =>
    have hv : numIn (.mk (sortG [srt l]) (sortG [srt r])) = some v := hv
    rw [sortG_one, sortG_one, numIn] at hv
    cases hl : numIn (srt l) with
    | none => rw [hl] at hv; cases hv
    | some p =>
      cases hr : numIn (srt r) with
      | none => rw [hl, hr] at hv; cases hv
      | some q =>
        rw [hl, hr] at hv
        obtain ⟨k, t, e, hp⟩ := ih1 l (List.mem_singleton.mpr rfl) (c5 l (List.mem_singleton.mpr rfl)) (n3 l (List.mem_singleton.mpr rfl)) p hl
        obtain ⟨m, u, e2, hq⟩ := ih2 r (List.mem_singleton.mpr rfl) (c6 r (List.mem_singleton.mpr rfl)) (n4 r (List.mem_singleton.mpr rfl)) q hr
        dsimp only at hv
        split at hv
        · rename_i hlt
          obtain ⟨i, hi1, hi2, hi3, _⟩ := red_spec k t
          obtain ⟨j, hj1, hj2, hj3, _⟩ := red_spec m u
          rw [← hp] at hi2 hi3
          rw [← hq] at hj2 hj3
          rw [hi2, hj2] at hlt
          have lt : t * 2 ^ m < u * 2 ^ k := by
            have a1 : t * 2 ^ m = p.1 * 2 ^ j * 2 ^ (k - i + (m - j)) := by
              conv => lhs; rw [hi3]
              rw [Int.mul_assoc, Int.mul_assoc, ← Int.pow_add, ← Int.pow_add]
              congr 2
              omega
            have a2 : u * 2 ^ k = q.1 * 2 ^ i * 2 ^ (k - i + (m - j)) := by
              conv => lhs; rw [hj3]
              rw [Int.mul_assoc, Int.mul_assoc, ← Int.pow_add, ← Int.pow_add]
              congr 2
              omega
            rw [a1, a2]
            exact Int.mul_lt_mul_of_pos_right hlt (pow_pos2 _)
          have ns := num_same (k := k) (m := m) (t := t) (u := u)
          rw [ns.1, ← numG_even] at e
          rw [ns.2, ← numG_even] at e2
          refine done (K := k + m + 1) (T := 2 * (t * 2 ^ m) + 1) ⟨fun y hy z => ?_, fun y hy z => ?_⟩
          · rw [List.mem_singleton.mp hy] at z
            have := num_le.mp (Gm.le_trans z e.1)
            omega
          · rw [List.mem_singleton.mp hy] at z
            have := num_le.mp (Gm.le_trans e2.2 z)
            omega
        · cases hv
  | a :: b :: l, R, hv =>
    exfalso
    obtain ⟨y1, y2, l', e⟩ : ∃ y1 y2 l', sortG ((a :: b :: l).map srt) = y1 :: y2 :: l' := by
      have := (sortG_perm ((a :: b :: l).map srt)).length_eq
      match h : sortG ((a :: b :: l).map srt), this with
      | [], this => simp at this
      | [_], this => simp at this
      | y1 :: y2 :: l', _ => exact ⟨y1, y2, l', rfl⟩
    rw [e, numIn] at hv
    · cases hv
    all_goals simp
  | [], a :: b :: l, hv =>
    exfalso
    obtain ⟨y1, y2, l', e⟩ : ∃ y1 y2 l', sortG ((a :: b :: l).map srt) = y1 :: y2 :: l' := by
      have := (sortG_perm ((a :: b :: l).map srt)).length_eq
      match h : sortG ((a :: b :: l).map srt), this with
      | [], this => simp at this
      | [_], this => simp at this
      | y1 :: y2 :: l', _ => exact ⟨y1, y2, l', rfl⟩
    rw [e, List.map_nil, sortG_nil, numIn] at hv
    · cases hv
    all_goals simp
  | [x0], a :: b :: l, hv =>
    exfalso
    obtain ⟨y1, y2, l', e⟩ : ∃ y1 y2 l', sortG ((a :: b :: l).map srt) = y1 :: y2 :: l' := by
      have := (sortG_perm ((a :: b :: l).map srt)).length_eq
      match h : sortG ((a :: b :: l).map srt), this with
      | [], this => simp at this
      | [_], this => simp at this
      | y1 :: y2 :: l', _ => exact ⟨y1, y2, l', rfl⟩
    have e1 : sortG ([x0].map srt) = [srt x0] := sortG_one _
    rw [e, e1, numIn] at hv
    · cases hv
    all_goals simp
theorem IsW.num {b : Bsh} {g : Gm} (h : IsW b g) : (numIn g = none ∧ ¬ IsNum (game b)) ∨ ∃ k t, Gm.eqv (game b) (numG k t) ∧ numIn g = some (red k t) := by
  obtain ⟨x, c, n, e, _, rfl⟩ := h
  cases q : numIn (srt x) with
  | none =>
    refine .inl ⟨rfl, fun ⟨k, t, z⟩ => ?_⟩
    rw [numIn_of c n (Gm.eqv.trans e z)] at q
    cases q
  | some v =>
    obtain ⟨k, t, e2, rfl⟩ := numIn_is x c n v q
    exact .inr ⟨k, t, Gm.eqv.trans e.symm e2, rfl⟩
/-! ### not too large -/
theorem dpt_int (t : Int) : (dpt (intZ t) : Int) = t.natAbs := by
  rcases int_nat t with ⟨n, rfl, e⟩ | ⟨n, rfl, e⟩
  · rw [e, intG_dpt]; omega
  · rw [e, dpt_neg, intG_dpt]; omega
theorem bound_mid {A B M k : Nat} {a : Int} (hA : A ≤ M) (hB : B ≤ M) (h2 : a.natAbs ≤ A * 2 ^ k) (g2 : (a + 1).natAbs ≤ B * 2 ^ k) : (2 * a + 1).natAbs ≤ (M + 1) * 2 ^ (k + 1) := by
  have m1 : A * 2 ^ k ≤ M * 2 ^ k := Nat.mul_le_mul_right _ hA
  have m2 : B * 2 ^ k ≤ M * 2 ^ k := Nat.mul_le_mul_right _ hB
  have e : M * 2 ^ (k + 1) = 2 * (M * 2 ^ k) := by rw [Nat.pow_succ, ← Nat.mul_assoc, Nat.mul_comm]
  rw [Nat.add_mul, e]
  generalize M * 2 ^ k = X at *
  omega
theorem num_bound : ∀ (k : Nat) (t : Int), ((red k t).2 = 1 ∨ ∃ i, i + 1 ≤ dpt (numG k t) ∧ i ≤ k ∧ (red k t).2 = 2 ^ i) ∧ t.natAbs ≤ dpt (numG k t) * 2 ^ k
  | 0, t => by
    have := dpt_int t
    refine ⟨.inl rfl, ?_⟩
    show t.natAbs ≤ dpt (intZ t) * 1
    omega
  | k + 1, t => by
    rcases parity t with ⟨a, rfl⟩ | ⟨a, rfl⟩
    · rw [numG_even, red_even]
      obtain ⟨h1, h2⟩ := num_bound k a
      refine ⟨?_, ?_⟩
      · rcases h1 with h | ⟨i, h3, h4, h5⟩
        · exact .inl h
        · exact .inr ⟨i, h3, by omega, h5⟩
      · rw [Nat.pow_succ, ← Nat.mul_assoc]
        have : (2 * a).natAbs = 2 * a.natAbs := by rw [Int.natAbs_mul]; rfl
        omega
    · rw [numG_odd, red_odd]
      obtain ⟨h1, h2⟩ := num_bound k a
      obtain ⟨g1, g2⟩ := num_bound k (a + 1)
      have hd : dpt (.mk [numG k a] [numG k (a + 1)]) = max (dpt (numG k a)) (dpt (numG k (a + 1))) + 1 := by
        show max (max (dpt (numG k a) + 1) 0) (max (dpt (numG k (a + 1)) + 1) 0) = _
        omega
      rw [hd]
      generalize hA : dpt (numG k a) = A at *
      generalize hB : dpt (numG k (a + 1)) = B at *
      refine ⟨.inr ⟨k + 1, ?_, Nat.le_refl _, rfl⟩, ?_⟩
      · cases k with
        | zero =>
          have ea := dpt_int a
          have eb := dpt_int (a + 1)
          rw [show intZ a = numG 0 a from rfl, hA] at ea
          rw [show intZ (a + 1) = numG 0 (a + 1) from rfl, hB] at eb
          omega
        | succ k =>
          rcases parity a with ⟨c, rfl⟩ | ⟨c, rfl⟩
          · rw [show 2 * c + 1 = 2 * c + 1 from rfl, red_odd] at g1
            rcases g1 with g | ⟨i, g3, g4, g5⟩
            · exfalso
              have : (2 : Int) ^ (k + 1) = 1 := g
              rw [Int.pow_succ] at this
              omega
            · have e : (2 : Int) ^ (k + 1) = 2 ^ i := g5
              have := pow2_inj e
              omega
          · rw [red_odd] at h1
            rcases h1 with g | ⟨i, g3, g4, g5⟩
            · exfalso
              have : (2 : Int) ^ (k + 1) = 1 := g
              rw [Int.pow_succ] at this
              omega
            · have e : (2 : Int) ^ (k + 1) = 2 ^ i := g5
              have := pow2_inj e
              omega
      · exact bound_mid (Nat.le_max_left A B) (Nat.le_max_right A B) h2 g2
end Sv

set_option maxHeartbeats 4000000
namespace Sv
open PySem PySem.Spec PyProof.Rows L2 L2H HotX LamX
/-- a fraction as data -/
abbrev num (t u : Int) : PyData := .tuple [.int t, .int u]
def pows : List Int := [1, 2, 4, 8, 16, 32, 64]
/-- is_number's answer -/
def numOk (a b : PyData) : Bool := whole a (-448) 448 && (whole b 1 64 && match b with
  | .int u => pows.contains u && match a with
    | .int t => u == 1 || t % 2 == 1
    | _ => false
  | _ => false)
def isNum (d : PyData) : Bool := match d with
  | .tuple [a, b] => numOk a b
  | _ => false
theorem inV_ints (u : Int) : ∀ l : List Int, inV (.int u) (l.map V.int) = l.contains u
  | [] => rfl
  | x :: r => by
    show (eqV (.int x) (.int u) || inV (.int u) (r.map V.int)) = _
    rw [inV_ints u r, List.contains_cons]
    have : eqV (.int x) (.int u) = (u == x) := by
      show (x == u) = (u == x)
      exact Bool.beq_comm
    rw [this]
/-- what is_number asks of a fraction -/
structure Numb (t u : Int) : Prop where
  lo : -448 ≤ t
  hi : t ≤ 448
  pw : pows.contains u = true
  od : u = 1 ∨ t % 2 = 1
theorem numb_iff {t u : Int} : isNum (num t u) = true ↔ Numb t u := by
  show (whole (.int t) (-448) 448 && (whole (.int u) 1 64 && (pows.contains u && (u == 1 || t % 2 == 1)))) = true ↔ _
  have e1 : whole (.int t) (-448) 448 = (decide (-448 ≤ t) && decide (t ≤ 448)) := rfl
  have e2 : whole (.int u) 1 64 = (decide (1 ≤ u) && decide (u ≤ 64)) := rfl
  rw [e1, e2]
  simp only [Bool.and_eq_true, decide_eq_true_eq, Bool.or_eq_true, beq_iff_eq]
  constructor
  · rintro ⟨⟨h1, h2⟩, _, h4, h5⟩
    exact ⟨h1, h2, h4, h5⟩
  · rintro ⟨h1, h2, h3, h4⟩
    refine ⟨⟨h1, h2⟩, ?_, h3, h4⟩
    have : u ∈ pows := by simpa using h3
    have : u = 1 ∨ u = 2 ∨ u = 4 ∨ u = 8 ∨ u = 16 ∨ u = 32 ∨ u = 64 := by simpa [pows] using this
    omega
theorem Numb.cases {t u : Int} (h : Numb t u) : u = 1 ∨ u = 2 ∨ u = 4 ∨ u = 8 ∨ u = 16 ∨ u = 32 ∨ u = 64 := by
  have : u ∈ pows := by simpa using h.pw
  simpa [pows] using this
/-- a number's data is a pair of ints -/
theorem isNum_data {d : PyData} (h : isNum d = true) : ∃ t u, d = num t u := by
  match d, h with
  | .tuple [a, b], h =>
    have h : numOk a b = true := h
    unfold numOk at h
    rw [Bool.and_eq_true, Bool.and_eq_true] at h
    obtain ⟨t, rfl, _⟩ := whole_int h.1
    obtain ⟨u, rfl, _⟩ := whole_int h.2.1
    exact ⟨t, u, rfl⟩
  | .none, h => cases h
  | .bool _, h => cases h
  | .int _, h => cases h
  | .str _, h => cases h
  | .list _, h => cases h
  | .dict _, h => cases h
  | .tuple [], h => cases h
  | .tuple [_], h => cases h
  | .tuple (_ :: _ :: _ :: _), h => cases h
theorem num_at {K : PySem.W.Frag} {H : Hp} {v : V} {t u : Int} (h : At K H v (num t u)) : ∃ a, v = .ref a ∧ SqT K H a [.int t, .int u] := by
  obtain ⟨a, vs, rfl, hs, _, hd⟩ := h.inv
  cases hd with
  | cons x r =>
    cases x
    cases r with
    | cons y r2 => cases y; cases r2; exact ⟨a, rfl, hs⟩
theorem num_depth {t u : Int} : (num t u).depth ≤ 64 := Nat.le_of_ble_eq_true rfl
theorem at_num {K : PySem.W.Frag} {H : Hp} {a : Addr} {t u : Int} (h : H a = some (.tup [.int t, .int u])) : At K H (.ref a) (num t u) := At.tupO h (.cons (.int t) (.cons (.int u) .nil))
section
variable {P : Program} {w : World} {K : PySem.W.Frag} {mg : Str → Option Value} {base : Heap} {C : Nat → Addr} {CS : Addr}
/-! ### is_number -/
def spIsNum (K : PySem.W.Frag) : Sp := fun vs H Q _ => ∃ v d, vs = [v] ∧ Dp K H v d ∧ ∀ H', Same H H' → Q (.bl (isNum d)) H'
theorem scIsNum : FnScope ["value"] ["value"] (defScope s_is_number) := ⟨rfl, rfl, rfl, by decide +kernel, rfl, by decide +kernel, by decide +kernel⟩
theorem k_is_number (F : Here K mg "is_number" s_is_number) (B : Blt mg) (d_whole : Keeps' P w K mg base CX0 1 "is_whole" ["value", "low", "high"] (spWhole K)) : Keeps' P w K mg base CX0 2 "is_number" ["value"] (spIsNum K) := by
  refine keeps0 F scIsNum (fun _ _ _ _ _ _ us hl => match us, hl with | [_], _ => rfl) (fun vs H Q E h => by obtain ⟨_, _, e, _⟩ := h; rw [e]; rfl) fun f cdv A outer s H vs Q E hr h => ?_
  obtain ⟨v, d, rfl, hd, q⟩ := h
  refine ⟨_, pss_cons (ps_if (PW.pt (pw_or (pt_not (pt_val (pb (call_isDK K) B.isinstance boot_isinstance (pa2 (pv 0) (pty B.tuple boot_tuple))))) (pw_or (pt_cmpR op_ne (pb (call_len_seqK K) B.len PySem.boot_len (pa1 (pv 0))) pe_int (nomark _)) (pw_or1 (pt_not (pt_val (pe_d0 d_whole (hr.mono (by decide)) (by rfl) (pa3 (pe_ix (ix_tupK K) (pv 0) pe_int (fun _ _ => rfl)) (pe_un un_neg pe_int) pe_int))))))))
      (pss_one (ps_ret pe_bl))
      (pss_nil))
    (pss_cons (ps_if (PW.pt (pw_or (pt_not (pt_val (pe_d0 d_whole (hr.mono (by decide)) (by rfl) (pa3 (pe_ix (ix_tupK K) (pv 0) pe_int (fun _ _ => rfl)) pe_int pe_int)))) (pw_or1 (pt_cmpR (op_notIn_seqK K) (pe_ix (ix_tupK K) (pv 0) pe_int (fun _ _ => rfl)) (pe_tupN (pa_cons pe_int (pa_cons pe_int (pa_cons pe_int (pa_cons pe_int (pa3 pe_int pe_int pe_int)))))) (by rfl)))))
      (pss_one (ps_ret pe_bl))
      (pss_nil))
    (pss_one (ps_ret (pe_or (pe_cmpR op_eq (pe_ix (ix_tupK K) (pv 0) pe_int (fun _ _ => rfl)) pe_int (nomark _)) (pe_one (pe_cmpR op_eq (pe_op op_mod (pe_ix (ix_tupK K) (pv 0) pe_int (fun _ _ => rfl)) pe_int) pe_int (nomark _))))))), ?_⟩
  refine ⟨_, rfl, _, _, d, rfl, hd, .inr (.inr (.inr rfl)), _, rfl, ?_⟩
  cases hd with
  | non => exact q _ (Same.refl H)
  | bl b => exact q _ (Same.refl H)
  | int i => exact q _ (Same.refl H)
  | str x => exact q _ (Same.refl H)
  | lst _ _ => exact q _ (Same.refl H)
  | @tup a vs ds hs ht =>
    refine iteF ⟨_, rfl, a, vs, rfl, .inr hs, rfl, _, rfl, ?_⟩
    have hl := AtAll.len ht
    by_cases h2 : ds.length = 2
    · obtain ⟨d0, d1, rfl⟩ : ∃ d0 d1, ds = [d0, d1] := by
        match ds, h2 with
        | [x, y], _ => exact ⟨x, y, rfl⟩
      obtain ⟨v0, e0, p0⟩ := dpAll_get (i := 0) ht rfl
      obtain ⟨v1, e1, p1⟩ := dpAll_get (i := 1) ht rfl
      obtain rfl : vs = [v0, v1] := by
        match vs, hl, e0, e1 with
        | [x, y], _, e0, e1 => simp at e0 e1; rw [e0, e1]
      refine iteF ⟨_, rfl, a, _, 0, v0, rfl, rfl, hs, atI_nat (j := 0) rfl, _, rfl, _, _, _, _, rfl, p0, _, rfl, ?_⟩
      have qn : ∀ H', Same H H' → Q (.bl (numOk d0 d1)) H' := q
      cases w0 : whole d0 (-448) 448 with
      | false =>
        unfold numOk at qn
        rw [w0, Bool.false_and] at qn
        exact qn _ (Same.refl H)
      | true =>
        refine iteF ⟨_, rfl, a, _, 1, v1, rfl, rfl, hs, atI_nat (j := 1) rfl, _, _, _, _, rfl, p1, _, rfl, ?_⟩
        cases w1 : whole d1 1 64 with
        | false =>
          unfold numOk at qn
          rw [w0, w1, Bool.true_and, Bool.false_and] at qn
          exact qn _ (Same.refl H)
        | true =>
          obtain ⟨t, rfl, _, _⟩ := whole_int w0
          obtain ⟨u, rfl, _, _⟩ := whole_int w1
          have qn : ∀ H', Same H H' → Q (.bl (pows.contains u && (u == 1 || t % 2 == 1))) H' := fun H' s' => by
            have := qn H' s'
            unfold numOk at this
            rw [w0, w1, Bool.true_and, Bool.true_and] at this
            exact this
          cases p0
          cases p1
          refine iteF ⟨_, rfl, a, _, 1, _, rfl, rfl, hs, atI_nat (j := 1) rfl, szl rfl, fun p H1 np s1 e1 => ⟨p, pows.map V.int, rfl, .inr (SqT.of e1), rfl, rfl, _, rfl, ?_⟩⟩
          have hs1 := (Same.ext s1).sqT hs
          show if (!inV (.int u) (pows.map V.int)) = true then _ else _
          rw [inV_ints]
          cases hc : pows.contains u with
          | false =>
            rw [hc, Bool.false_and] at qn
            exact qn _ s1
          | true =>
            rw [hc, Bool.true_and] at qn
            refine iteF ⟨_, rfl, a, _, 1, _, rfl, rfl, hs1, atI_nat (j := 1) rfl, rfl, _, rfl, ?_⟩
            by_cases hu : u = 1
            · subst hu
              exact qn _ s1
            · rw [decide_eq_false (fun z => hu (V.int.inj z))]
              rw [beq_eq_false_iff_ne.mpr hu, Bool.false_or] at qn
              refine iteF ⟨_, rfl, a, _, 0, _, rfl, rfl, hs1, atI_nat (j := 0) rfl, _, _, rfl, rfl, (show (0 : Int) < 2 by decide), rfl, ?_⟩
              have z := qn _ s1
              rw [dec_int]
              exact z
    · have hne : ¬ ((vs.length : Int) = 2) := by omega
      have e : isNum (.tuple ds) = false := by
        match ds, h2 with
        | [], _ => rfl
        | [_], _ => rfl
        | _ :: _ :: _ :: _, _ => rfl
        | [x, y], h => exact absurd rfl h
      rw [e] at q
      rw [decide_eq_false (fun z => hne (V.int.inj z))]
      exact q _ (Same.refl H)
/-! ### need_number -/
def spNeedNum (K : PySem.W.Frag) (C : Nat → Addr) : Sp := fun vs H Q E => ∃ v d, vs = [v] ∧ Dp K H v d ∧ (isNum d = true → ∀ H', Same H H' → Q .non H') ∧ (isNum d = false → ∀ H', Same H H' → E (.ref (C 4)) none H')
theorem scNeedNum : FnScope ["value"] ["value"] (defScope s_need_number) := ⟨rfl, rfl, rfl, by decide +kernel, rfl, by decide +kernel, by decide +kernel⟩
theorem k_need_number (F : Here K mg "need_number" s_need_number) (O : ExcOne K mg "InvalidNumber" (C 4)) (d_num : Keeps' P w K mg base CX0 2 "is_number" ["value"] (spIsNum K)) : Keeps' P w K mg base (L2N.CX P w) 3 "need_number" ["value"] (spNeedNum K C) := by
  refine keepsN F scNeedNum (fun _ _ _ _ _ _ us hl => match us, hl with | [_], _ => rfl) (fun vs H Q E h => by obtain ⟨_, _, e, _⟩ := h; rw [e]; rfl) fun f cdv A outer s H vs Q E hr h => ?_
  obtain ⟨v, d, rfl, hd, q1, q2⟩ := h
  refine ⟨_, pss_one (ps_if (pt_not (pt_val (pe_d0 d_num (hr.mono (by decide)) (by rfl) (pa1 (pv 0)))))
      (pss_one (ps_raiseN rfl O (by rfl) rfl rfl rfl rfl))
      (pss_nil)), ?_⟩
  refine ⟨_, rfl, _, _, rfl, hd, fun H1 s1 => ⟨_, rfl, ?_⟩⟩
  cases hn : isNum d with
  | true => exact q1 hn _ s1
  | false => exact q2 hn _ s1
/-! ### is_under -/
def spUnder (K : PySem.W.Frag) : Sp := fun vs H Q _ => ∃ v1 v2 t1 u1 t2 u2, vs = [v1, v2] ∧ At K H v1 (num t1 u1) ∧ At K H v2 (num t2 u2) ∧ t1.natAbs < 2 ^ 40 ∧ u1.natAbs < 2 ^ 40 ∧ t2.natAbs < 2 ^ 40 ∧ u2.natAbs < 2 ^ 40 ∧ Q (.bl (decide (t1 * u2 < t2 * u1))) H
theorem scUnder : FnScope ["one", "other"] ["one", "other"] (defScope s_is_under) := ⟨rfl, rfl, rfl, by decide +kernel, rfl, by decide +kernel, by decide +kernel⟩
theorem k_under (F : Here K mg "is_under" s_is_under) : Keeps' P w K mg base CX0 1 "is_under" ["one", "other"] (spUnder K) := by
  refine keeps0 F scUnder (fun _ _ _ _ _ _ us hl => match us, hl with | [_, _], _ => rfl) (fun vs H Q E h => by obtain ⟨_, _, _, _, _, _, e, _⟩ := h; rw [e]; rfl) fun f cdv A outer s H vs Q E hr h => ?_
  obtain ⟨v1, v2, t1, u1, t2, u2, rfl, h1, h2, b1, b2, b3, b4, q⟩ := h
  obtain ⟨a1, rfl, s1⟩ := num_at h1
  obtain ⟨a2, rfl, s2⟩ := num_at h2
  refine ⟨_, pss_one (ps_ret (pe_cmpR op_lt (pe_op op_mulW (pe_ix (ix_tupK K) (pv 0) pe_int (fun _ _ => rfl)) (pe_ix (ix_tupK K) (pv 1) pe_int (fun _ _ => rfl))) (pe_op op_mulW (pe_ix (ix_tupK K) (pv 1) pe_int (fun _ _ => rfl)) (pe_ix (ix_tupK K) (pv 0) pe_int (fun _ _ => rfl))) (nomark _))), ?_⟩
  refine ⟨_, rfl, a1, _, 0, _, rfl, rfl, s1, atI_nat (j := 0) rfl, _, rfl, a2, _, 1, _, rfl, rfl, s2, atI_nat (j := 1) rfl, _, _, rfl, rfl, wide_mul b1 b4 (by decide) (by decide) (by decide), ?_⟩
  refine ⟨_, rfl, a2, _, 0, _, rfl, rfl, s2, atI_nat (j := 0) rfl, _, rfl, a1, _, 1, _, rfl, rfl, s1, atI_nat (j := 1) rfl, _, _, rfl, rfl, wide_mul b3 b2 (by decide) (by decide) (by decide), ?_⟩
  exact ⟨_, _, rfl, rfl, q⟩
/-! ### best_integer -/
def bestInt (first t u : Int) : Int := if 0 ≤ first then first else if 0 ≤ -(-t / u) - 1 then 0 else -(-t / u) - 1
def spBestI (K : PySem.W.Frag) : Sp := fun vs H Q _ => ∃ v first t u, vs = [.int first, v] ∧ At K H v (num t u) ∧ 0 < u ∧ u < 1000000 ∧ Q (.int (bestInt first t u)) H
theorem scBestI : FnScope ["first", "high", "last"] ["first", "high"] (defScope s_best_integer) := ⟨rfl, rfl, rfl, by decide +kernel, rfl, by decide +kernel, by decide +kernel⟩
theorem k_bestI (F : Here K mg "best_integer" s_best_integer) : Keeps' P w K mg base CX0 1 "best_integer" ["first", "high"] (spBestI K) := by
  refine keeps0 F scBestI (fun _ _ _ _ _ _ us hl => match us, hl with | [_, _], _ => rfl) (fun vs H Q E h => by obtain ⟨_, _, _, _, e, _⟩ := h; rw [e]; rfl) fun f cdv A outer s H vs Q E hr h => ?_
  obtain ⟨v, first, t, u, rfl, h1, b1, b2, q⟩ := h
  obtain ⟨a1, rfl, s1⟩ := num_at h1
  refine ⟨_, pss_cons (ps_if (pt_cmpR op_ge (pv 0) pe_int (nomark _))
      (pss_one (ps_ret (pv 0)))
      (pss_nil))
    (pss_cons (st 2 scBestI.nd (pe_op op_sub (pe_un un_neg (pe_op op_fdiv (pe_un un_neg (pe_ix (ix_tupK K) (pv 1) pe_int (fun _ _ => rfl))) (pe_ix (ix_tupK K) (pv 1) pe_int (fun _ _ => rfl)))) pe_int))
    (pss_one (ps_ret (pe_ifExp (pt_cmpR op_ge (pv 2) pe_int (nomark _)) pe_int (pv 2))))), ?_⟩
  unfold bestInt at q
  refine ⟨_, rfl, _, _, rfl, rfl, _, rfl, ite2 (fun c => ?_) fun c => ?_⟩
  · rw [if_pos (of_decide_eq_true c)] at q
    exact ⟨_, rfl, q⟩
  · rw [if_neg (fun z => c (decide_eq_true z))] at q
    refine ⟨_, rfl, a1, _, 0, _, rfl, rfl, s1, atI_nat (j := 0) rfl, _, rfl, _, rfl, a1, _, 1, _, rfl, rfl, s1, atI_nat (j := 1) rfl, _, _, rfl, rfl, ⟨b1, by omega⟩, _, rfl, _, _, rfl, rfl, ?_⟩
    refine ⟨_, rfl, _, _, rfl, rfl, _, rfl, ite2 (fun c2 => ?_) fun c2 => ?_⟩
    · rw [if_pos (of_decide_eq_true c2)] at q
      exact q
    · rw [if_neg (fun z => c2 (decide_eq_true z))] at q
      exact ⟨_, rfl, q⟩
end
end Sv

set_option maxHeartbeats 4000000
namespace Sv
open PySem PySem.Spec PyProof.Rows L2 L2H HotX LamX
/-! ### _law_lowest -/
def lowStep (p : Int × Int) : Int × Int := if p.1 % 2 = 0 ∧ 1 < p.2 then (p.1 / 2, p.2 / 2) else p
def lowIt : Nat → Int × Int → Int × Int
  | 0, p => p
  | n + 1, p => lowStep (lowIt n p)
def lowF (t u : Int) : Int × Int := lowIt 8 (t, u)
section
variable {P : Program} {w : World} {K : PySem.W.Frag} {mg : Str → Option Value} {base : Heap} {C : Nat → Addr} {CS : Addr}
def spLow : Sp := fun vs H Q _ => ∃ t u, vs = [.int t, .int u] ∧ NewQ H (.tup [.int (lowF t u).1, .int (lowF t u).2]) Q
end
/-- what it makes of a fraction over a power of 2 -/
theorem low_num {t u : Int} (hu : u = 1 ∨ u = 2 ∨ u = 4 ∨ u = 8 ∨ u = 16 ∨ u = 32 ∨ u = 64) (h1 : -448 ≤ t) (h2 : t ≤ 448) : Numb (lowF t u).1 (lowF t u).2 := by
  have inv : ∀ n, ∀ b : Int, (∀ p : Int × Int, p = lowIt n (t, u) → (p.2 = 1 ∨ p.2 = 2 ∨ p.2 = 4 ∨ p.2 = 8 ∨ p.2 = 16 ∨ p.2 = 32 ∨ p.2 = 64) ∧ -448 ≤ p.1 ∧ p.1 ≤ 448 ∧ (p.2 = 1 ∨ p.1 % 2 = 1 ∨ p.2 ≤ b)) →
      (∀ p : Int × Int, p = lowIt (n + 1) (t, u) → (p.2 = 1 ∨ p.2 = 2 ∨ p.2 = 4 ∨ p.2 = 8 ∨ p.2 = 16 ∨ p.2 = 32 ∨ p.2 = 64) ∧ -448 ≤ p.1 ∧ p.1 ≤ 448 ∧ (p.2 = 1 ∨ p.1 % 2 = 1 ∨ p.2 ≤ b / 2)) := by
    intro n b h p hp
    have := h _ rfl
    subst hp
    show _ ∧ _
    have e : lowIt (n + 1) (t, u) = lowStep (lowIt n (t, u)) := rfl
    rw [e]
    generalize lowIt n (t, u) = q at this
    unfold lowStep
    split
    · dsimp only; omega
    · omega
  have h0 : ∀ p : Int × Int, p = lowIt 0 (t, u) → (p.2 = 1 ∨ p.2 = 2 ∨ p.2 = 4 ∨ p.2 = 8 ∨ p.2 = 16 ∨ p.2 = 32 ∨ p.2 = 64) ∧ -448 ≤ p.1 ∧ p.1 ≤ 448 ∧ (p.2 = 1 ∨ p.1 % 2 = 1 ∨ p.2 ≤ 64) := by
    rintro p rfl
    refine ⟨hu, h1, h2, .inr (.inr ?_)⟩
    show u ≤ 64
    omega
  have h8 := inv 7 _ (inv 6 _ (inv 5 _ (inv 4 _ (inv 3 _ (inv 2 _ (inv 1 _ (inv 0 _ h0))))))) _ rfl
  obtain ⟨a, b, c, d⟩ := h8
  have a : (lowF t u).2 = 1 ∨ (lowF t u).2 = 2 ∨ (lowF t u).2 = 4 ∨ (lowF t u).2 = 8 ∨ (lowF t u).2 = 16 ∨ (lowF t u).2 = 32 ∨ (lowF t u).2 = 64 := a
  have d : (lowF t u).2 = 1 ∨ (lowF t u).1 % 2 = 1 ∨ (lowF t u).2 ≤ 64 / 2 / 2 / 2 / 2 / 2 / 2 / 2 / 2 := d
  refine ⟨b, c, ?_, by omega⟩
  have : (lowF t u).2 ∈ pows := by simpa [pows] using a
  simpa using this
end Sv

set_option maxHeartbeats 4000000
namespace Sv
open PySem PySem.Spec PyProof.Rows L2 L2H HotX LamX
/-! ### x in a list of data -/
theorem room65 {k : Nat} {A : Around} (r : Room k A) : A.units + 65 < cLine := by have := r.un; omega
theorem depthAll_le {n : Nat} : ∀ {ds : List PyData}, (∀ d ∈ ds, d.depth ≤ n) → PyData.depthAll ds ≤ n
  | [], _ => Nat.zero_le _
  | d :: ds, h => by
    show max d.depth (PyData.depthAll ds) ≤ n
    exact Nat.max_le.mpr ⟨h d List.mem_cons_self, depthAll_le fun e he => h e (List.mem_cons_of_mem _ he)⟩
theorem eqC_eqv {d e : PyData} (h1 : pl d = true) (h2 : pl e = true) : PyData.eqv d e = eqC d e := by
  by_cases h : d = e
  · subst h; rw [eqv_same h1, eqC_self]
  · rw [eqv_ne h1 h2 h, eqC_no h]
theorem plAll_mem : ∀ {ds : List PyData}, plAll ds = true → ∀ d ∈ ds, pl d = true
  | d :: ds, h, e, he => by
    rw [plAll, Bool.and_eq_true] at h
    rcases List.mem_cons.mp he with rfl | he
    · exact h.1
    · exact plAll_mem h.2 e he
theorem canLayAll_of : ∀ {ds : List PyData}, plAll ds = true → PyData.canLayAll0 ds = true
  | [], _ => rfl
  | d :: ds, h => by
    rw [plAll, Bool.and_eq_true] at h
    show (PyData.canLay0 d && PyData.canLayAll0 ds) = true
    rw [canLay_pl d h.1, canLayAll_of h.2]; rfl
def rInC (K : PySem.W.Frag) : R2 := fun x y H Q => ∃ p xs d ds, y = .ref p ∧ SqL K H p xs ∧ At K H x d ∧ AtAll K H xs ds ∧ d.depth ≤ 60 ∧ (∀ e ∈ ds, e.depth ≤ 60) ∧ Q (.bl (ds.any fun e => eqC e d)) H
theorem op_inCK {X : Cx} (K : PySem.W.Frag) (hu : X.A.units + 65 < cLine) (h : X.K = K := by rfl) : OpR X (compareOp .In) (rInC K) := by
  subst h
  refine OpR.imp (op_inD hu) fun x y H Q h => ?_
  obtain ⟨p, xs, d, ds, rfl, hs, hd, hds, h1, h2, q⟩ := h
  refine ⟨d, ds, hd.2, .lst hs hds.2, shaped_of hd.1 (by omega), ?_, ?_⟩
  · unfold SeqAt.shaped
    have := depthAll_le h2
    rw [show PyData.canLay0 (.list ds) = PyData.canLayAll0 ds from rfl, canLayAll_of hds.1, show PyData.depth (.list ds) = PyData.depthAll ds + 1 from rfl, decide_eq_true (by omega)]
    rfl
  · have e : (ds.any fun z => PyData.eqv z d) = ds.any fun e => eqC e d := by
      have hp := plAll_mem hds.1
      clear hds h2 q
      induction ds with
      | nil => rfl
      | cons a l ih => rw [List.any_cons, List.any_cons, eqC_eqv (hp a List.mem_cons_self) hd.1, ih fun e he => hp e (List.mem_cons_of_mem _ he)]
    rw [e]; exact q
end Sv

set_option maxHeartbeats 4000000
namespace Sv
open PySem PySem.Spec PyProof.Rows L2 L2H HotX LamX
theorem red_zero (t : Int) : red 0 t = (t, 1) := rfl
theorem red_notEven {m : Nat} {t : Int} (h : t % 2 ≠ 0) : red m t = (t, 2 ^ m) := by
  cases m with
  | zero => rfl
  | succ m => show (if t % 2 = 0 then _ else _) = _; rw [if_neg h]
def optD : Option (Int × Int) → PyData
  | none => .none
  | some p => num p.1 p.2
theorem optD_pl (o : Option (Int × Int)) : pl (optD o) = true := by cases o <;> rfl
theorem optD_depth (o : Option (Int × Int)) : (optD o).depth ≤ 1 := by cases o <;> exact Nat.le_of_ble_eq_true rfl
theorem optD_inj {a b : Option (Int × Int)} (h : optD a = optD b) : a = b := by
  cases a with
  | none =>
    cases b with
    | none => rfl
    | some q => cases h
  | some p =>
    cases b with
    | none => cases h
    | some q =>
      have h := PyData.tuple.inj h
      simp only [List.cons.injEq, and_true] at h
      rw [Prod.ext (PyData.int.inj h.1) (PyData.int.inj h.2)]
/-- not too large -/
theorem num_small {x : Gm} {a : Nat} {p : Int × Int} (c : Gm.Can x) (n : ND x) (d : dpt x ≤ a) (h20 : a ≤ 20) (h : numIn (srt x) = some p) : p.1.natAbs < 2 ^ 40 ∧ ∃ i, i ≤ 20 ∧ p.2 = 2 ^ i := by
  obtain ⟨k, t, e, rfl⟩ := numIn_is x c n p h
  have es := srt_uniq x _ c (num_can k t) n (num_nd k t) e
  have ed : dpt (numG k t) ≤ a := by
    rw [← dpt_srt (numG k t), ← es, dpt_srt]; exact d
  obtain ⟨i, hi, e1, e2, _⟩ := red_spec k t
  have eg : numG k t = numG i (red k t).1 := by
    have := num_up i (k - i) (red k t).1
    rw [← e2, show i + (k - i) = k by omega] at this
    exact this
  have er : red i (red k t).1 = red k t := by
    have := red_up i (k - i) (red k t).1
    rw [← e2, show i + (k - i) = k by omega] at this
    exact this.symm
  obtain ⟨b1, b2⟩ := num_bound i (red k t).1
  rw [er] at b1
  rw [← eg] at b1 b2
  have hi20 : i ≤ 20 := by
    rcases b1 with b | ⟨j, h1, _, h2⟩
    · rw [e1] at b
      have := pow2_inj (x := i) (y := 0) b
      omega
    · rw [e1] at h2
      have := pow2_inj h2
      omega
  refine ⟨?_, i, hi20, e1⟩
  have p20 : 2 ^ i ≤ 2 ^ 20 := Nat.pow_le_pow_right (by decide) hi20
  have : dpt (numG k t) * 2 ^ i ≤ 20 * 2 ^ 20 := Nat.mul_le_mul (by omega) p20
  have e20 : 20 * 2 ^ 20 < 2 ^ 40 := by decide
  omega
theorem numIn_many {g : Gm} (h : 1 < g.L.length ∨ 1 < g.R.length) : numIn g = none := by
  obtain ⟨L, R⟩ := g
  match L, R, h with
  | a :: b :: l, R, _ => rw [numIn]; all_goals simp
  | [], a :: b :: l, _ => rw [numIn]; all_goals simp
  | [x], a :: b :: l, _ => rw [numIn]; all_goals simp
  | [], [], h => simp [Gm.L, Gm.R] at h
  | [x], [], h => simp [Gm.L, Gm.R] at h
  | [], [x], h => simp [Gm.L, Gm.R] at h
  | [x], [y], h => simp [Gm.L, Gm.R] at h
theorem pow_small {i : Nat} (h : i ≤ 20) : ((2 : Int) ^ i).natAbs < 2 ^ 21 := by
  have e : ((2 : Int) ^ i) = ((2 ^ i : Nat) : Int) := by rw [Int.natCast_pow]; rfl
  have : 2 ^ i ≤ 2 ^ 20 := Nat.pow_le_pow_right (by decide) h
  rw [e, Int.natAbs_natCast]
  have : (2 : Nat) ^ 20 < 2 ^ 21 := by decide
  omega
theorem mul_small {x y : Int} {a b : Nat} (hx : x.natAbs < 2 ^ a) (hy : y.natAbs < 2 ^ b) : (x * y).natAbs < 2 ^ (a + b) := by
  rw [Int.natAbs_mul, Nat.pow_add]
  exact Nat.mul_lt_mul_of_lt_of_le hx (Nat.le_of_lt hy) (Nat.lt_of_le_of_lt (Nat.zero_le _) hy)
section
variable {P : Program} {w : World} {K : PySem.W.Frag} {mg : Str → Option Value} {base : Heap} {C : Nat → Addr} {Z : Addr}
/-! ### lowest -/
def spLowest : Sp := fun vs H Q _ => ∃ (t : Int) (m : Nat), vs = [.int t, .int (2 ^ m)] ∧ NewQ H (.tup [.int (red m t).1, .int (red m t).2]) Q
theorem scLowest : FnScope ["top", "under"] ["top", "under"] (defScope s_lowest) := ⟨rfl, rfl, rfl, by decide +kernel, rfl, by decide +kernel, by decide +kernel⟩
theorem k_lowest (F : Here K mg "lowest" s_lowest) : Keeps' P w K mg base CX0 1 "lowest" ["top", "under"] spLowest := by
  refine keeps0 F scLowest (fun _ _ _ _ _ _ us hl => match us, hl with | [_, _], _ => rfl) (fun vs H Q E h => by obtain ⟨_, _, e, _⟩ := h; rw [e]; rfl) fun f cdv A outer s H vs Q E hr h => ?_
  obtain ⟨t, m, rfl, q⟩ := h
  refine ⟨_, pss_cons (ps_while PassesOwn.never (PW.pt (pw_and (pt_cmpR op_eq (pe_op op_mod (pv 0) pe_int) pe_int (nomark _)) (pw_and1 (pt_cmpR op_gt (pv 1) pe_int (nomark _)))))
      (pss_one (ps_par (i := 0) (j := 1) rfl scLowest.nd rfl rfl (by decide) rfl rfl (pa2 (pe_op op_fdiv (pv 0) pe_int) (pe_op op_fdiv (pv 1) pe_int)) (by rfl))))
    (pss_one (ps_ret (pe_tupN (pa2 (pv 0) (pv 1))))), ?_⟩
  refine ⟨fun j σ H' => H' = H ∧ ∃ (t' : Int), σ = [some (.int t'), some (.int (2 ^ j))] ∧ red j t' = red m t, ⟨m, rfl, t, rfl, rfl⟩, ?_⟩
  rintro j σ H1 ⟨rfl, t', rfl, er⟩
  have fin : red j t' = (t', 2 ^ j) → tRet (tTupN (tCons (tVar 0) (tCons (tVar 1) tNil))) { nx := fun x H' => Q V.non H', rt := Q } [some (.int t'), some (.int (2 ^ j))] H1 := fun e => by
    refine ⟨_, rfl, _, rfl, szl rfl, ?_⟩
    rw [← er, e] at q
    exact q
  refine ⟨_, rfl, _, _, rfl, rfl, (show (0 : Int) < 2 by decide), rfl, _, rfl, ?_⟩
  refine ite2 (fun z => ?_) fun z => ?_
  · have h0 : t' % 2 = 0 := V.int.inj (of_decide_eq_true z)
    refine ⟨_, rfl, _, _, rfl, rfl, _, rfl, ite2 (fun z2 => ?_) fun z2 => ?_⟩
    · have h1 : (1 : Int) < 2 ^ j := of_decide_eq_true z2
      cases j with
      | zero => exact absurd h1 (by decide)
      | succ j =>
        refine ⟨_, fun σ' H' h => h, _, rfl, _, _, rfl, rfl, ⟨by decide, by decide⟩, _, rfl, _, _, rfl, rfl, ⟨by decide, by decide⟩, _, _, rfl, j, Nat.lt_succ_self j, rfl, t' / 2, ?_, ?_⟩
        · show [some (V.int (t' / 2)), some (V.int (2 ^ (j + 1) / 2))] = _
          rw [Int.pow_succ, Int.mul_ediv_cancel _ (by decide)]
        · rw [← er]
          show _ = if t' % 2 = 0 then red j (t' / 2) else _
          rw [if_pos h0]
    · have h1 : ¬ (1 : Int) < 2 ^ j := fun c => z2 (decide_eq_true c)
      have hj : j = 0 := by
        cases j with
        | zero => rfl
        | succ j =>
          exfalso
          apply h1
          rw [Int.pow_succ]
          have := pow_pos2 j
          omega
      subst hj
      exact fin rfl
  · have h0 : t' % 2 ≠ 0 := fun c => z (decide_eq_true (congrArg V.int c))
    exact fin (red_notEven h0)
end
end Sv

set_option maxHeartbeats 8000000
namespace Sv
open PySem PySem.Spec PyProof.Rows L2 L2H HotX LamX
/-- a least form's choices, as they are written -/
theorem srt_memL {x g : Gm} (h : g ∈ (srt x).L) : ∃ y ∈ x.L, g = srt y := by
  rw [srt_L] at h
  obtain ⟨y, hy, e⟩ := List.mem_map.mp (mem_sortG.mp h)
  exact ⟨y, hy, e.symm⟩
theorem srt_memR {x g : Gm} (h : g ∈ (srt x).R) : ∃ y ∈ x.R, g = srt y := by
  rw [srt_R] at h
  obtain ⟨y, hy, e⟩ := List.mem_map.mp (mem_sortG.mp h)
  exact ⟨y, hy, e.symm⟩
/-- least, and not too wide -/
structure Lst (a : Nat) (x : Gm) : Prop where
  can : Gm.Can x
  nd : ND x
  nar : Nar a x
theorem Lst.opt {a : Nat} {x y : Gm} (h : Lst a x) (hy : y ∈ x.L ∨ y ∈ x.R) : ∃ m, a = m + 1 ∧ Lst m y := by
  obtain ⟨m, e, hm⟩ := h.nar.opt hy
  obtain ⟨_, _, _, _, c5, c6⟩ := Gm.can_iff.mp h.can
  obtain ⟨_, _, n3, n4⟩ := ND_iff.mp h.nd
  exact ⟨m, e, hy.elim (c5 y) (c6 y), hy.elim (n3 y) (n4 y), hm⟩
theorem Lst.wr {a : Nat} {x g : Gm} (h : Lst a x) (hg : g ∈ (srt x).L ++ (srt x).R) : ∃ m y, a = m + 1 ∧ Lst m y ∧ g = srt y := by
  rcases List.mem_append.mp hg with q | q
  · obtain ⟨y, hy, e⟩ := srt_memL q
    obtain ⟨m, e2, hm⟩ := h.opt (.inl hy)
    exact ⟨m, y, e2, hm, e⟩
  · obtain ⟨y, hy, e⟩ := srt_memR q
    obtain ⟨m, e2, hm⟩ := h.opt (.inr hy)
    exact ⟨m, y, e2, hm, e⟩
theorem Lst.small {a : Nat} {x : Gm} {p : Int × Int} (h : Lst a x) (h20 : a ≤ 20) (e : numIn (srt x) = some p) : p.1.natAbs < 2 ^ 40 ∧ ∃ i, i ≤ 20 ∧ p.2 = 2 ^ i := num_small h.can h.nd h.nar.dpt h20 e
theorem IsW.lst {b : Bsh} {g : Gm} (h : IsW b g) : ∃ x, Lst b.length x ∧ Gm.eqv x (game b) ∧ g = srt x := by
  obtain ⟨x, c, n, e, d, rfl⟩ := h
  exact ⟨x, ⟨c, n, d⟩, e, rfl⟩
theorem none_in (l : List (Option (Int × Int))) : ((l.map optD).any fun e => eqC e .none) = l.any Option.isNone := by
  induction l with
  | nil => rfl
  | cons o l ih =>
    rw [List.map_cons, List.any_cons, List.any_cons, ih]
    cases o with
    | none => rw [show optD none = .none from rfl, eqC_self]; rfl
    | some p => rw [eqC_no (d := optD (some p)) (e := .none) (fun z => by cases z)]; rfl
theorem num_cases {g : Gm} (hne : g ≠ .zero) (h1 : g.L.length ≤ 1) (h2 : g.R.length ≤ 1) :
    (∃ l, g.L = [l] ∧ g.R = [] ∧ numIn g = (numIn l).map fun p => (p.1 + 1, 1)) ∨ (∃ r, g.L = [] ∧ g.R = [r] ∧ numIn g = (numIn r).map fun p => (p.1 - 1, 1)) ∨
    ∃ l r, g.L = [l] ∧ g.R = [r] ∧ numIn g = match numIn l, numIn r with
      | some p, some q => if p.1 * q.2 < q.1 * p.2 then some (red (2 * p.2 * q.2).toNat.log2 (p.1 * q.2 + q.1 * p.2)) else none
      | _, _ => none := by
  obtain ⟨L, R⟩ := g
  match L, R, h1, h2 with
  | [], [], _, _ => exact absurd rfl hne
  | [l], [], _, _ => exact .inl ⟨l, rfl, rfl, by rw [numIn]⟩
  | [], [r], _, _ => exact .inr (.inl ⟨r, rfl, rfl, by rw [numIn]⟩)
  | [l], [r], _, _ => exact .inr (.inr ⟨l, r, rfl, rfl, by rw [numIn] <;> (cases numIn l <;> cases numIn r <;> rfl)⟩)
  | _ :: _ :: _, _, h, _ => simp [Gm.L] at h
  | _, _ :: _ :: _, _, h => simp [Gm.R] at h
theorem AtAll.inv1 {K : PySem.W.Frag} {H : Hp} {zs : List V} {d : PyData} (h : AtAll K H zs [d]) : ∃ v, zs = [v] ∧ At K H v d := by
  obtain ⟨v, hv, hd⟩ := h.get' (i := 0) rfl
  have := AtAll.len h.2
  match zs, this, hv with
  | [u], _, hv => cases hv; exact ⟨_, rfl, hd⟩
theorem AtAll.inv2 {K : PySem.W.Frag} {H : Hp} {zs : List V} {d e : PyData} (h : AtAll K H zs [d, e]) : ∃ u v, zs = [u, v] ∧ At K H u d ∧ At K H v e := by
  obtain ⟨v, hv, hd⟩ := h.get' (i := 0) rfl
  obtain ⟨v', hv', hd'⟩ := h.get' (i := 1) rfl
  have := AtAll.len h.2
  match zs, this, hv, hv' with
  | [u, u'], _, hv, hv' => cases hv; cases hv'; exact ⟨_, _, rfl, hd, hd'⟩
section
variable {P : Program} {w : World} {K : PySem.W.Frag} {mg : Str → Option Value} {base : Heap} {C : Nat → Addr} {Z : Addr}
theorem opt_at {H : Hp} {v : V} {p : Int × Int} (h : At K H v (optD (some p))) : ∃ a, v = .ref a ∧ SqT K H a [.int p.1, .int p.2] := num_at h
end
end Sv

set_option maxHeartbeats 4000000
namespace Sv
open PySem PySem.Spec PyProof.Rows L2 L2H HotX LamX
/-! ### fractions in lowest terms -/
abbrev Fr := Int × Int
def OkF (p : Fr) : Prop := ∃ i, p.2 = 2 ^ i ∧ (i = 0 ∨ p.1 % 2 = 1)
def numP (p : Fr) : Gm := numG p.2.toNat.log2 p.1
theorem okF_red (k : Nat) (t : Int) : OkF (red k t) := by
  obtain ⟨i, _, h1, _, h2⟩ := red_spec k t
  exact ⟨i, h1, h2⟩
theorem log2_pow (i : Nat) : ((2 : Int) ^ i).toNat.log2 = i := by
  have e : (2 : Int) ^ i = ((2 ^ i : Nat) : Int) := by rw [Int.natCast_pow]; rfl
  rw [e, Int.toNat_natCast, Nat.log2_two_pow]
theorem numP_pow {p : Fr} {i : Nat} (h : p.2 = 2 ^ i) : numP p = numG i p.1 := by
  unfold numP
  rw [h, log2_pow]
theorem numP_red (k : Nat) (t : Int) : numP (red k t) = numG k t := by
  obtain ⟨i, hi, h1, h2, _⟩ := red_spec k t
  rw [numP_pow h1]
  have := num_up i (k - i) (red k t).1
  rw [← h2, show i + (k - i) = k by omega] at this
  exact this.symm
def under (p q : Fr) : Bool := decide (p.1 * q.2 < q.1 * p.2)
theorem numP_le {p q : Fr} (hp : OkF p) (hq : OkF q) : Gm.le (numP p) (numP q) ↔ p.1 * q.2 ≤ q.1 * p.2 := by
  obtain ⟨i, h1, _⟩ := hp
  obtain ⟨j, h2, _⟩ := hq
  rw [numP_pow h1, numP_pow h2]
  have ns := num_same (k := i) (m := j) (t := p.1) (u := q.1)
  rw [ns.1, ns.2, num_le, h1, h2]
theorem under_iff {p q : Fr} (hp : OkF p) (hq : OkF q) : under p q = true ↔ ¬ Gm.le (numP q) (numP p) := by
  unfold under
  rw [decide_eq_true_iff, numP_le hq hp]
  omega
theorem under_no {p q : Fr} (hp : OkF p) (hq : OkF q) : under p q = false ↔ Gm.le (numP q) (numP p) := by
  have := under_iff hp hq
  cases h : under p q with
  | false => simp [h] at this; exact ⟨fun _ => this, fun _ => rfl⟩
  | true => simp [h] at this; exact ⟨fun z => (nomatch z), fun z => absurd z this⟩
theorem red_pow {p : Fr} {i : Nat} (h : p.2 = 2 ^ i) (h2 : i = 0 ∨ p.1 % 2 = 1) : red i p.1 = p := by
  cases i with
  | zero => exact Prod.ext rfl h.symm
  | succ i =>
    have h2 : p.1 % 2 = 1 := by rcases h2 with z | z; exact absurd z (by omega); exact z
    show (if p.1 % 2 = 0 then _ else (p.1, (2 : Int) ^ (i + 1))) = p
    rw [if_neg (by omega)]
    exact Prod.ext rfl h.symm
theorem okF_inj {p q : Fr} (hp : OkF p) (hq : OkF q) (e : Gm.eqv (numP p) (numP q)) : p = q := by
  have h1 := numIn_of (num_can _ _) (num_nd _ _) (x := numP p) (k := p.2.toNat.log2) (t := p.1) (Gm.eqv.refl _)
  have h2 := numIn_of (num_can _ _) (num_nd _ _) (x := numP p) (k := q.2.toNat.log2) (t := q.1) e
  rw [h1] at h2
  have h2 := Option.some.inj h2
  obtain ⟨i, a1, a2⟩ := hp
  obtain ⟨j, b1, b2⟩ := hq
  rw [a1, b1, log2_pow, log2_pow, red_pow a1 a2, red_pow b1 b2] at h2
  exact h2
/-! ### the greatest, the least -/
def grt : List Fr → Fr
  | [] => (0, 1)
  | p :: l => (p :: l).foldl (fun best one => if under best one then one else best) p
def lst : List Fr → Fr
  | [] => (0, 1)
  | p :: l => (p :: l).foldl (fun best one => if under one best then one else best) p
theorem fold_grt : ∀ (l : List Fr) (p : Fr), OkF p → (∀ q ∈ l, OkF q) → let r := l.foldl (fun best one => if under best one then one else best) p; (r = p ∨ r ∈ l) ∧ Gm.le (numP p) (numP r) ∧ ∀ q ∈ l, Gm.le (numP q) (numP r)
  | [], p, hp, _ => ⟨.inl rfl, Gm.le_refl _, fun _ z => nomatch z⟩
  | x :: l, p, hp, hl => by
    have hx := hl x List.mem_cons_self
    have hl' : ∀ q ∈ l, OkF q := fun q hq => hl q (List.mem_cons_of_mem _ hq)
    show let r := l.foldl (fun best one => if under best one then one else best) (if under p x then x else p); (r = p ∨ r ∈ x :: l) ∧ Gm.le (numP p) (numP r) ∧ ∀ q ∈ x :: l, Gm.le (numP q) (numP r)
    cases hu : under p x with
    | true =>
      obtain ⟨a, b, c⟩ := fold_grt l x hx hl'
      have hpx : Gm.le (numP p) (numP x) := by
        unfold under at hu
        have := of_decide_eq_true hu
        rw [numP_le hp hx]; omega
      refine ⟨?_, Gm.le_trans hpx b, fun q hq => ?_⟩
      · rcases a with a | a
        · exact .inr (by rw [show (if true = true then x else p) = x from rfl, a]; exact List.mem_cons_self)
        · exact .inr (List.mem_cons_of_mem _ a)
      · rcases List.mem_cons.mp hq with rfl | hq
        · exact b
        · exact c q hq
    | false =>
      obtain ⟨a, b, c⟩ := fold_grt l p hp hl'
      have hxp := (under_no hp hx).mp hu
      refine ⟨?_, b, fun q hq => ?_⟩
      · rcases a with a | a
        · exact .inl a
        · exact .inr (List.mem_cons_of_mem _ a)
      · rcases List.mem_cons.mp hq with rfl | hq
        · exact Gm.le_trans hxp b
        · exact c q hq
theorem fold_lst : ∀ (l : List Fr) (p : Fr), OkF p → (∀ q ∈ l, OkF q) → let r := l.foldl (fun best one => if under one best then one else best) p; (r = p ∨ r ∈ l) ∧ Gm.le (numP r) (numP p) ∧ ∀ q ∈ l, Gm.le (numP r) (numP q)
  | [], p, hp, _ => ⟨.inl rfl, Gm.le_refl _, fun _ z => nomatch z⟩
  | x :: l, p, hp, hl => by
    have hx := hl x List.mem_cons_self
    have hl' : ∀ q ∈ l, OkF q := fun q hq => hl q (List.mem_cons_of_mem _ hq)
    show let r := l.foldl (fun best one => if under one best then one else best) (if under x p then x else p); (r = p ∨ r ∈ x :: l) ∧ Gm.le (numP r) (numP p) ∧ ∀ q ∈ x :: l, Gm.le (numP r) (numP q)
    cases hu : under x p with
    | true =>
      obtain ⟨a, b, c⟩ := fold_lst l x hx hl'
      have hpx : Gm.le (numP x) (numP p) := by
        unfold under at hu
        have := of_decide_eq_true hu
        rw [numP_le hx hp]; omega
      refine ⟨?_, Gm.le_trans b hpx, fun q hq => ?_⟩
      · rcases a with a | a
        · exact .inr (by rw [show (if true = true then x else p) = x from rfl, a]; exact List.mem_cons_self)
        · exact .inr (List.mem_cons_of_mem _ a)
      · rcases List.mem_cons.mp hq with rfl | hq
        · exact b
        · exact c q hq
    | false =>
      obtain ⟨a, b, c⟩ := fold_lst l p hp hl'
      have hxp := (under_no hx hp).mp hu
      refine ⟨?_, b, fun q hq => ?_⟩
      · rcases a with a | a
        · exact .inl a
        · exact .inr (List.mem_cons_of_mem _ a)
      · rcases List.mem_cons.mp hq with rfl | hq
        · exact Gm.le_trans b hxp
        · exact c q hq
theorem grt_spec {l : List Fr} (hne : l ≠ []) (h : ∀ q ∈ l, OkF q) : grt l ∈ l ∧ ∀ q ∈ l, Gm.le (numP q) (numP (grt l)) := by
  cases l with
  | nil => exact absurd rfl hne
  | cons p l =>
    obtain ⟨a, b, c⟩ := fold_grt (p :: l) p (h p List.mem_cons_self) h
    exact ⟨a.elim (fun e => by show List.foldl _ p (p :: l) ∈ _; rw [e]; exact List.mem_cons_self) id, c⟩
theorem lst_spec {l : List Fr} (hne : l ≠ []) (h : ∀ q ∈ l, OkF q) : lst l ∈ l ∧ ∀ q ∈ l, Gm.le (numP (lst l)) (numP q) := by
  cases l with
  | nil => exact absurd rfl hne
  | cons p l =>
    obtain ⟨a, b, c⟩ := fold_lst (p :: l) p (h p List.mem_cons_self) h
    exact ⟨a.elim (fun e => by show List.foldl _ p (p :: l) ∈ _; rw [e]; exact List.mem_cons_self) id, c⟩
/-! ### stops -/
def stIn (g : Gm) : Fr × Fr := match numIn g with
  | some p => (p, p)
  | none => (grt (g.L.attach.map fun l => (stIn l.1).2), lst (g.R.attach.map fun r => (stIn r.1).1))
termination_by sizeOf g
decreasing_by
  · have := Gm.sizeL l.2; omega
  · have := Gm.sizeR r.2; omega
theorem stIn_num {g : Gm} {p : Fr} (h : numIn g = some p) : stIn g = (p, p) := by rw [stIn, h]
theorem stIn_not {g : Gm} (h : numIn g = none) : stIn g = (grt (g.L.map fun l => (stIn l).2), lst (g.R.map fun r => (stIn r).1)) := by
  rw [stIn, h]
  dsimp only
  rw [Gm.att (fun l => (stIn l).2), Gm.att (fun l => (stIn l).1)]
/-- every game is below some whole number -/
theorem below_int (x : Gm) : Gm.le x (intG (dpt x)) := by
  have key : ∀ (x : Gm) {n : Nat}, dpt x ≤ n → Gm.le x (intG n) := by
    intro x
    refine gm_ind (p := fun x => ∀ {n : Nat}, dpt x ≤ n → Gm.le x (intG n)) (fun x h1 h2 n h => ?_) x
    rw [Gm.le_iff, intG_R]
    refine ⟨fun l hl q => ?_, fun _ z => nomatch z⟩
    have hd := (dpt_le.mp h).1 l hl
    obtain ⟨m, rfl⟩ : ∃ m, n = m + 1 := ⟨n - 1, by omega⟩
    have := h1 l hl (n := m) (by omega)
    have c := Gm.le_trans q this
    rw [show intG (m + 1) = intZ ((m : Int) + 1) by rw [← intZ_nat]; rfl, show intG m = intZ (m : Int) from (intZ_nat m).symm] at c
    have := num_le (k := 0).mp c
    omega
  exact key x (Nat.le_refl _)
theorem above_int (x : Gm) : Gm.le (Gm.neg (intG (dpt x))) x := by
  have := Gm.neg_le_iff.mpr (below_int (Gm.neg x))
  rw [Gm.neg_neg, dpt_neg] at this
  exact this
theorem dpts_mem : ∀ {l : List Gm} {x : Gm}, x ∈ l → dpt x + 1 ≤ dpts l := fun {l x} h => dpts_le.mp (Nat.le_refl _) x h
/-- what is no number has choices on both sides -/
theorem not_num {x : Gm} (h : ¬ IsNum x) : x.L ≠ [] ∧ x.R ≠ [] := by
  constructor
  · intro e
    have hf : ∀ r ∈ x.R, ¬ Gm.le r (numG 0 (-((dpts x.R : Nat) : Int))) := fun r hr q => by
      have h1 := above_int r
      have h2 := dpts_mem hr
      have c := Gm.le_trans h1 q
      rw [← intZ_negnat] at c
      have := num_le (k := 0).mp c
      omega
    obtain ⟨s, q, _⟩ := simplest (x := x) (k := 0) _ (-((dpts x.R : Nat) : Int)) (Nat.le_refl _) ⟨fun l hl => absurd (e ▸ hl) (fun z => nomatch z), hf⟩
    exact h ⟨0, s, q⟩
  · intro e
    have hf : ∀ l ∈ x.L, ¬ Gm.le (numG 0 ((dpts x.L : Nat) : Int)) l := fun l hl q => by
      have h1 := below_int l
      have h2 := dpts_mem hl
      have c := Gm.le_trans q h1
      rw [← intZ_nat] at c
      have := num_le (k := 0).mp c
      omega
    obtain ⟨s, q, _⟩ := simplest (x := x) (k := 0) _ ((dpts x.L : Nat) : Int) (Nat.le_refl _) ⟨hf, fun r hr => absurd (e ▸ hr) (fun z => nomatch z)⟩
    exact h ⟨0, s, q⟩
theorem numIn_none {x : Gm} (c : Gm.Can x) (n : ND x) (h : numIn (srt x) = none) : ¬ IsNum x := fun ⟨k, t, e⟩ => by
  rw [numIn_of c n e] at h
  cases h
/-- what the stops are good for -/
structure StOk (x : Gm) (s : Fr × Fr) : Prop where
  okW : OkF s.1
  okB : OkF s.2
  upW : ∀ k t, ¬ Gm.le (numG k t) (numP s.1) → Gm.le x (numG k t) ∧ ¬ Gm.le (numG k t) x
  dnB : ∀ k t, ¬ Gm.le (numP s.2) (numG k t) → Gm.le (numG k t) x ∧ ¬ Gm.le x (numG k t)
  dnW : ∀ k t, ¬ Gm.le (numP s.1) (numG k t) → ¬ Gm.le x (numG k t)
  upB : ∀ k t, ¬ Gm.le (numG k t) (numP s.2) → ¬ Gm.le (numG k t) x
/-- numbers are in one row -/
theorem num_tot (k m : Nat) (t u : Int) : Gm.le (numG k t) (numG m u) ∨ Gm.le (numG m u) (numG k t) := by
  have ns := num_same (k := k) (m := m) (t := t) (u := u)
  rw [ns.1, ns.2, num_le, num_le]
  omega
theorem stIn_ok (x : Gm) : Gm.Can x → ND x → StOk x (stIn (srt x)) := by
  refine gm_ind (p := fun x => Gm.Can x → ND x → StOk x (stIn (srt x))) (fun x ih1 ih2 c n => ?_) x
  obtain ⟨_, _, _, _, c5, c6⟩ := Gm.can_iff.mp c
  obtain ⟨_, _, n3, n4⟩ := ND_iff.mp n
  cases h : numIn (srt x) with
  | some p =>
    rw [stIn_num h]
    obtain ⟨k, t, e, rfl⟩ := numIn_is x c n p h
    have tot : ∀ (m : Nat) (u : Int), ¬ Gm.le (numG m u) (numG k t) → Gm.le (numG k t) (numG m u) := fun m u q => (num_tot m k u t).resolve_left q
    have tot' : ∀ (m : Nat) (u : Int), ¬ Gm.le (numG k t) (numG m u) → Gm.le (numG m u) (numG k t) := fun m u q => (num_tot k m t u).resolve_left q
    refine ⟨okF_red k t, okF_red k t, fun m u q => ?_, fun m u q => ?_, fun m u q z => ?_, fun m u q z => ?_⟩
    · rw [numP_red] at q
      exact ⟨Gm.le_trans e.1 (tot m u q), fun z => q (Gm.le_trans z e.1)⟩
    · rw [numP_red] at q
      exact ⟨Gm.le_trans (tot' m u q) e.2, fun z => q (Gm.le_trans e.2 z)⟩
    · rw [numP_red] at q
      exact q (Gm.le_trans e.2 z)
    · rw [numP_red] at q
      exact q (Gm.le_trans z e.1)
  | none =>
    have hnum := numIn_none c n h
    obtain ⟨neL, neR⟩ := not_num hnum
    rw [stIn_not h]
    have eL : ∀ q, q ∈ ((srt x).L.map fun l => (stIn l).2) ↔ ∃ l ∈ x.L, q = (stIn (srt l)).2 := fun q => by
      rw [List.mem_map, srt_L]
      constructor
      · rintro ⟨g, hg, rfl⟩
        obtain ⟨l, hl, rfl⟩ := List.mem_map.mp (mem_sortG.mp hg)
        exact ⟨l, hl, rfl⟩
      · rintro ⟨l, hl, rfl⟩
        exact ⟨srt l, mem_sortG.mpr (List.mem_map.mpr ⟨l, hl, rfl⟩), rfl⟩
    have eR : ∀ q, q ∈ ((srt x).R.map fun l => (stIn l).1) ↔ ∃ l ∈ x.R, q = (stIn (srt l)).1 := fun q => by
      rw [List.mem_map, srt_R]
      constructor
      · rintro ⟨g, hg, rfl⟩
        obtain ⟨l, hl, rfl⟩ := List.mem_map.mp (mem_sortG.mp hg)
        exact ⟨l, hl, rfl⟩
      · rintro ⟨l, hl, rfl⟩
        exact ⟨srt l, mem_sortG.mpr (List.mem_map.mpr ⟨l, hl, rfl⟩), rfl⟩
    have okL : ∀ q ∈ ((srt x).L.map fun l => (stIn l).2), OkF q := fun q hq => by
      obtain ⟨l, hl, rfl⟩ := (eL q).mp hq
      exact (ih1 l hl (c5 l hl) (n3 l hl)).okB
    have okR : ∀ q ∈ ((srt x).R.map fun l => (stIn l).1), OkF q := fun q hq => by
      obtain ⟨l, hl, rfl⟩ := (eR q).mp hq
      exact (ih2 l hl (c6 l hl) (n4 l hl)).okW
    have neL' : ((srt x).L.map fun l => (stIn l).2) ≠ [] := fun z => by
      obtain ⟨l, hl⟩ := List.exists_mem_of_ne_nil _ neL
      have := (eL _).mpr ⟨l, hl, rfl⟩
      rw [z] at this; cases this
    have neR' : ((srt x).R.map fun l => (stIn l).1) ≠ [] := fun z => by
      obtain ⟨l, hl⟩ := List.exists_mem_of_ne_nil _ neR
      have := (eR _).mpr ⟨l, hl, rfl⟩
      rw [z] at this; cases this
    obtain ⟨g1, g2⟩ := grt_spec neL' okL
    obtain ⟨b1, b2⟩ := lst_spec neR' okR
    generalize grt ((srt x).L.map fun l => (stIn l).2) = W at g1 g2
    generalize lst ((srt x).R.map fun l => (stIn l).1) = B at b1 b2
    -- above the white stop
    have noUp : ∀ k t, ¬ Gm.le (numG k t) (numP W) → ∀ l ∈ x.L, ¬ Gm.le (numG k t) l := fun k t q l hl =>
      (ih1 l hl (c5 l hl) (n3 l hl)).upB k t fun z => q (Gm.le_trans z (g2 _ ((eL _).mpr ⟨l, hl, rfl⟩)))
    have noDn : ∀ k t, ¬ Gm.le (numP B) (numG k t) → ∀ r ∈ x.R, ¬ Gm.le r (numG k t) := fun k t q r hr =>
      (ih2 r hr (c6 r hr) (n4 r hr)).dnW k t fun z => q (Gm.le_trans (b2 _ ((eR _).mpr ⟨r, hr, rfl⟩)) z)
    have up1 : ∀ k t, ¬ Gm.le (numG k t) (numP W) → ¬ Gm.le (numG k t) x := fun k t q z => by
      obtain ⟨s, e, _⟩ := simplest (x := x) (k := k) _ t (Nat.le_refl _) ⟨noUp k t q, (Gm.le_iff.mp z).2⟩
      exact hnum ⟨k, s, e⟩
    have dn1 : ∀ k t, ¬ Gm.le (numP B) (numG k t) → ¬ Gm.le x (numG k t) := fun k t q z => by
      obtain ⟨s, e, _⟩ := simplest (x := x) (k := k) _ t (Nat.le_refl _) ⟨(Gm.le_iff.mp z).1, noDn k t q⟩
      exact hnum ⟨k, s, e⟩
    refine ⟨okL W g1, okR B b1, fun k t q => ⟨?_, up1 k t q⟩, fun k t q => ⟨?_, dn1 k t q⟩, fun k t q z => ?_, fun k t q z => ?_⟩
    · rw [Gm.le_iff]
      refine ⟨noUp k t q, fun r hr => ?_⟩
      obtain ⟨e, he, rfl, _⟩ := mem_numR hr
      exact up1 k e fun z => q (Gm.le_trans (num_optR hr) z)
    · rw [Gm.le_iff]
      refine ⟨fun l hl => ?_, noDn k t q⟩
      obtain ⟨e, he, rfl, _⟩ := mem_numL hl
      exact dn1 k e fun z => q (Gm.le_trans z (num_optL hl))
    · obtain ⟨l, hl, rfl⟩ := (eL _).mp g1
      exact Gm.not_le_left hl (Gm.le_trans z ((ih1 l hl (c5 l hl) (n3 l hl)).dnB k t q).1)
    · obtain ⟨r, hr, rfl⟩ := (eR _).mp b1
      exact Gm.not_le_right hr (Gm.le_trans ((ih2 r hr (c6 r hr) (n4 r hr)).upW k t q).1 z)
/-- the white stop is not below the black one -/
theorem st_ge {x : Gm} (c : Gm.Can x) (n : ND x) : Gm.le (numP (stIn (srt x)).2) (numP (stIn (srt x)).1) := by
  cases h : numIn (srt x) with
  | some p => rw [stIn_num h]; exact Gm.le_refl _
  | none =>
    have S := stIn_ok x c n
    have hnum := numIn_none c n h
    refine Classical.byContradiction fun q => ?_
    generalize stIn (srt x) = s at S q
    obtain ⟨i, a1, _⟩ := S.okW
    obtain ⟨j, b1, _⟩ := S.okB
    have ns := num_same (k := i) (m := j) (t := s.1.1) (u := s.2.1)
    have eW : numP s.1 = numG (i + j + 1) (2 * (s.1.1 * 2 ^ j)) := by rw [numP_pow a1, ns.1, numG_even]
    have eB : numP s.2 = numG (i + j + 1) (2 * (s.2.1 * 2 ^ i)) := by rw [numP_pow b1, ns.2, numG_even]
    rw [eW, eB, num_le] at q
    have h1 := (S.upW (i + j + 1) (2 * (s.1.1 * 2 ^ j) + 1) (by rw [eW, num_le]; omega)).1
    have h2 := (S.dnB (i + j + 1) (2 * (s.1.1 * 2 ^ j) + 1) (by rw [eB, num_le]; omega)).1
    exact hnum ⟨_, _, h1, h2⟩
end Sv

set_option maxHeartbeats 8000000
namespace Sv
open PySem PySem.Spec PyProof.Rows L2 L2H HotX LamX
def numD (p : Fr) : PyData := num p.1 p.2
def Sm (p : Fr) : Prop := p.1.natAbs < 2 ^ 40 ∧ p.2.natAbs < 2 ^ 40
def stD (s : Fr × Fr) : PyData := .tuple [numD s.1, numD s.2]
theorem numD_inj {p q : Fr} (h : numD p = numD q) : p = q := by
  have := optD_inj (a := some p) (b := some q) h
  exact Option.some.inj this
theorem small_Sm {p : Fr} (h : p.1.natAbs < 2 ^ 40 ∧ ∃ i, i ≤ 20 ∧ p.2 = 2 ^ i) : Sm p := by
  obtain ⟨h1, i, h2, h3⟩ := h
  have := pow_small h2
  have p21 : (2 : Nat) ^ 21 < 2 ^ 40 := by decide
  exact ⟨h1, by rw [h3]; omega⟩
theorem lst_not {a : Nat} {x : Gm} (h : Lst a x) (e : numIn (srt x) = none) : (srt x).L ≠ [] ∧ (srt x).R ≠ [] := by
  obtain ⟨h1, h2⟩ := not_num (numIn_none h.can h.nd e)
  constructor
  · intro z
    obtain ⟨l, hl⟩ := List.exists_mem_of_ne_nil _ h1
    have : srt l ∈ (srt x).L := by rw [srt_L]; exact mem_sortG.mpr (List.mem_map.mpr ⟨l, hl, rfl⟩)
    rw [z] at this; cases this
  · intro z
    obtain ⟨l, hl⟩ := List.exists_mem_of_ne_nil _ h2
    have : srt l ∈ (srt x).R := by rw [srt_R]; exact mem_sortG.mpr (List.mem_map.mpr ⟨l, hl, rfl⟩)
    rw [z] at this; cases this
theorem map_ne {α β : Type} {f : α → β} {l : List α} (h : l ≠ []) : l.map f ≠ [] := fun z => h (List.map_eq_nil_iff.mp z)
theorem st_okF {a : Nat} {x : Gm} (h : Lst a x) : OkF (stIn (srt x)).1 ∧ OkF (stIn (srt x)).2 := ⟨(stIn_ok x h.can h.nd).okW, (stIn_ok x h.can h.nd).okB⟩
theorem st_okL {a : Nat} {x : Gm} (h : Lst a x) : ∀ q ∈ ((srt x).L.map fun l => (stIn l).2), OkF q := fun q hq => by
  obtain ⟨g, hg, rfl⟩ := List.mem_map.mp hq
  obtain ⟨m, y, _, hy, rfl⟩ := h.wr (List.mem_append_left _ hg)
  exact (st_okF hy).2
theorem st_okR {a : Nat} {x : Gm} (h : Lst a x) : ∀ q ∈ ((srt x).R.map fun l => (stIn l).1), OkF q := fun q hq => by
  obtain ⟨g, hg, rfl⟩ := List.mem_map.mp hq
  obtain ⟨m, y, _, hy, rfl⟩ := h.wr (List.mem_append_right _ hg)
  exact (st_okF hy).1
theorem st_small : ∀ (a : Nat) {x : Gm}, Lst a x → a ≤ 20 → Sm (stIn (srt x)).1 ∧ Sm (stIn (srt x)).2 := by
  intro a
  induction a with
  | zero =>
    intro x h h20
    cases e : numIn (srt x) with
    | some p => rw [stIn_num e]; exact ⟨small_Sm (h.small h20 e), small_Sm (h.small h20 e)⟩
    | none =>
      obtain ⟨g, hg⟩ := List.exists_mem_of_ne_nil _ (lst_not h e).1
      obtain ⟨m, y, z, _⟩ := h.wr (List.mem_append_left _ hg)
      omega
  | succ a ih =>
    intro x h h20
    cases e : numIn (srt x) with
    | some p => rw [stIn_num e]; exact ⟨small_Sm (h.small h20 e), small_Sm (h.small h20 e)⟩
    | none =>
      obtain ⟨n1, n2⟩ := lst_not h e
      rw [stIn_not e]
      constructor
      · obtain ⟨g, hg, eg⟩ := List.mem_map.mp (grt_spec (map_ne n1) (st_okL h)).1
        rw [← eg]
        obtain ⟨m, y, z, hy, rfl⟩ := h.wr (List.mem_append_left _ hg)
        cases z
        exact (ih hy (by omega)).2
      · obtain ⟨g, hg, eg⟩ := List.mem_map.mp (lst_spec (map_ne n2) (st_okR h)).1
        rw [← eg]
        obtain ⟨m, y, z, hy, rfl⟩ := h.wr (List.mem_append_right _ hg)
        cases z
        exact (ih hy (by omega)).1
theorem st_at {K : PySem.W.Frag} {H : Hp} {v : V} {s : Fr × Fr} (h : At K H v (stD s)) : ∃ b c d, v = .ref b ∧ SqT K H b [c, d] ∧ At K H c (numD s.1) ∧ At K H d (numD s.2) := by
  obtain ⟨b, vs, rfl, hs, ha⟩ := At.inv h
  obtain ⟨c, d, rfl, hc, hd⟩ := AtAll.inv2 ha
  exact ⟨b, c, d, rfl, hs, hc, hd⟩
section
variable {P : Program} {w : World} {K : PySem.W.Frag} {mg : Str → Option Value} {base : Heap} {C : Nat → Addr} {Z : Addr}
end
end Sv

set_option maxHeartbeats 4000000
namespace Sv
open PySem PySem.Spec PyProof.Rows L2 L2H HotX LamX
def negF (p : Fr) : Fr := (-p.1, p.2)
theorem negF_ok {p : Fr} (h : OkF p) : OkF (negF p) := by
  obtain ⟨i, h1, h2⟩ := h
  exact ⟨i, h1, h2.imp id fun z => by show -p.1 % 2 = 1; omega⟩
theorem numP_neg {p : Fr} : numP (negF p) = Gm.neg (numP p) := by
  unfold numP
  rw [neg_num]; rfl
theorem numP_between {p q : Fr} (hp : OkF p) (hq : OkF q) (h : ¬ Gm.le (numP q) (numP p)) : ∃ k t, ¬ Gm.le (numG k t) (numP p) ∧ ¬ Gm.le (numP q) (numG k t) := by
  obtain ⟨i, a1, _⟩ := hp
  obtain ⟨j, b1, _⟩ := hq
  have ns := num_same (k := i) (m := j) (t := p.1) (u := q.1)
  have eW : numP p = numG (i + j + 1) (2 * (p.1 * 2 ^ j)) := by rw [numP_pow a1, ns.1, numG_even]
  have eB : numP q = numG (i + j + 1) (2 * (q.1 * 2 ^ i)) := by rw [numP_pow b1, ns.2, numG_even]
  rw [eW, eB, num_le] at h
  exact ⟨i + j + 1, 2 * (p.1 * 2 ^ j) + 1, by rw [eW, num_le]; omega, by rw [eB, num_le]; omega⟩
theorem StOk.uniq {x : Gm} {s s' : Fr × Fr} (h : StOk x s) (h' : StOk x s') : s = s' := by
  have w1 : ∀ {s s' : Fr × Fr}, StOk x s → StOk x s' → Gm.le (numP s'.1) (numP s.1) := fun {s s'} h h' => Classical.byContradiction fun c => by
    obtain ⟨k, t, c1, c2⟩ := numP_between h.okW h'.okW c
    exact h'.dnW k t c2 (h.upW k t c1).1
  have b1 : ∀ {s s' : Fr × Fr}, StOk x s → StOk x s' → Gm.le (numP s'.2) (numP s.2) := fun {s s'} h h' => Classical.byContradiction fun c => by
    obtain ⟨k, t, c1, c2⟩ := numP_between h.okB h'.okB c
    exact h.upB k t c1 (h'.dnB k t c2).1
  exact Prod.ext (okF_inj h.okW h'.okW ⟨w1 h' h, w1 h h'⟩) (okF_inj h.okB h'.okB ⟨b1 h' h, b1 h h'⟩)
theorem neg_le_num {x : Gm} {k : Nat} {t : Int} : (Gm.le (Gm.neg x) (numG k t) ↔ Gm.le (numG k (-t)) x) ∧ (Gm.le (numG k t) (Gm.neg x) ↔ Gm.le x (numG k (-t))) := by
  have e : numG k t = Gm.neg (numG k (-t)) := by rw [neg_num, Int.neg_neg]
  rw [e]
  exact ⟨Gm.neg_le_iff, Gm.neg_le_iff⟩
theorem StOk.neg {x : Gm} {s : Fr × Fr} (h : StOk x s) : StOk (Gm.neg x) (negF s.2, negF s.1) := by
  refine ⟨negF_ok h.okB, negF_ok h.okW, fun k t q => ?_, fun k t q => ?_, fun k t q => ?_, fun k t q => ?_⟩
  · rw [show numP (negF s.2, negF s.1).1 = Gm.neg (numP s.2) from numP_neg, neg_le_num.2] at q
    rw [neg_le_num.1, neg_le_num.2]
    exact h.dnB k (-t) q
  · rw [show numP (negF s.2, negF s.1).2 = Gm.neg (numP s.1) from numP_neg, neg_le_num.1] at q
    rw [neg_le_num.1, neg_le_num.2]
    exact h.upW k (-t) q
  · rw [show numP (negF s.2, negF s.1).1 = Gm.neg (numP s.2) from numP_neg, neg_le_num.1] at q
    rw [neg_le_num.1]
    exact h.upB k (-t) q
  · rw [show numP (negF s.2, negF s.1).2 = Gm.neg (numP s.1) from numP_neg, neg_le_num.2] at q
    rw [neg_le_num.2]
    exact h.dnW k (-t) q
theorem StOk.eqv {x y : Gm} {s : Fr × Fr} (h : StOk x s) (e : Gm.eqv x y) : StOk y s := by
  refine ⟨h.okW, h.okB, fun k t q => ?_, fun k t q => ?_, fun k t q z => ?_, fun k t q z => ?_⟩
  · exact ⟨Gm.le_trans e.2 (h.upW k t q).1, fun z => (h.upW k t q).2 (Gm.le_trans z e.2)⟩
  · exact ⟨Gm.le_trans (h.dnB k t q).1 e.1, fun z => (h.dnB k t q).2 (Gm.le_trans e.1 z)⟩
  · exact h.dnW k t q (Gm.le_trans e.1 z)
  · exact h.upB k t q (Gm.le_trans z e.2)
theorem IsW.st {b : Bsh} {g : Gm} (h : IsW b g) : StOk (game b) (stIn g) := by
  obtain ⟨x, hx, e, rfl⟩ := h.lst
  exact (stIn_ok x hx.can hx.nd).eqv e
theorem w_st_sw {b : Bsh} {g g' : Gm} (hb : BushOk b) (h : IsW b g) (h' : IsW (swB b) g') : stIn g' = (negF (stIn g).2, negF (stIn g).1) := by
  have h2 := h'.st
  rw [game_neg hb.lo] at h2
  exact h2.uniq h.st.neg
theorem w_st_ge {b : Bsh} {g : Gm} (h : IsW b g) : ¬ (stIn g).1.1 * (stIn g).2.2 < (stIn g).2.1 * (stIn g).1.2 := by
  obtain ⟨x, hx, e, rfl⟩ := h.lst
  have s := stIn_ok x hx.can hx.nd
  have := (numP_le s.okB s.okW).mp (st_ge hx.can hx.nd)
  omega
theorem w_st_small {b : Bsh} {g : Gm} (h : IsW b g) (hb : BushOk b) : Sm (stIn g).1 ∧ Sm (stIn g).2 := by
  obtain ⟨x, hx, e, rfl⟩ := h.lst
  have := hb.len
  exact st_small _ hx (by omega)
end Sv

set_option maxHeartbeats 8000000
namespace Sv
open PySem PySem.Spec PyProof.Rows L2 L2H HotX LamX
theorem low_comm : ∀ (n : Nat) (p : Int × Int), lowIt n (lowStep p) = lowStep (lowIt n p)
  | 0, p => rfl
  | n + 1, p => by show lowStep (lowIt n (lowStep p)) = lowStep (lowStep (lowIt n p)); rw [low_comm n p]
theorem low_fix {p : Int × Int} (h : lowStep p = p) : ∀ n, lowIt n p = p
  | 0 => rfl
  | n + 1 => by show lowStep (lowIt n p) = p; rw [low_fix h n, h]
theorem low_red : ∀ (n m : Nat) (t : Int), m ≤ n → lowIt n (t, 2 ^ m) = red m t
  | n, 0, t, _ => by
    rw [low_fix]; · rfl
    unfold lowStep
    rw [if_neg (fun z => absurd (show (1 : Int) < 1 from z.2) (by decide))]
  | n + 1, m + 1, t, h => by
    show lowStep (lowIt n (t, 2 ^ (m + 1))) = _
    rw [← low_comm]
    show _ = if t % 2 = 0 then red m (t / 2) else (t, (2 : Int) ^ (m + 1))
    have hp := pow_pos2 m
    by_cases h0 : t % 2 = 0
    · rw [if_pos h0, show lowStep (t, (2 : Int) ^ (m + 1)) = (t / 2, 2 ^ m) from ?_]
      · exact low_red n m (t / 2) (by omega)
      · unfold lowStep
        rw [if_pos ⟨h0, by show (1 : Int) < 2 ^ (m + 1); rw [Int.pow_succ]; omega⟩]
        show (t / 2, (2 : Int) ^ (m + 1) / 2) = _
        rw [Int.pow_succ, Int.mul_ediv_cancel _ (by decide)]
    · rw [if_neg h0]
      have e : lowStep (t, (2 : Int) ^ (m + 1)) = (t, 2 ^ (m + 1)) := if_neg fun z => h0 z.1
      rw [e]
      exact low_fix e n
theorem low6 (t : Int) : lowF t 64 = red 6 t := low_red 8 6 t (by decide)
end Sv

set_option maxHeartbeats 4000000
namespace Sv
open PySem PySem.Spec PyProof.Rows L2 L2H HotX LamX
/-! ### the number of a stalk of white and black stems, in 64ths -/
structure Hv where
  lo : Option Int
  hi : Option Int
  now : Int
def Hv.up (s : Hv) : Int := match s.hi with
  | none => s.now + 64
  | some h => (s.now + h) / 2
def Hv.dn (s : Hv) : Int := match s.lo with
  | none => s.now - 64
  | some l => (s.now + l) / 2
def hvStep (s : Hv) : Col → Hv
  | .w => ⟨some s.now, s.hi, s.up⟩
  | _ => ⟨s.lo, some s.now, s.dn⟩
def hv (cs : List Col) : Hv := cs.foldl hvStep ⟨none, none, 0⟩
theorem hv_snoc (cs : List Col) (c : Col) : hv (cs ++ [c]) = hvStep (hv cs) c := by
  unfold hv
  rw [List.foldl_append]; rfl
/-- what holds of the ends -/
inductive HvOk : Hv → Nat → Prop
  | zero : HvOk ⟨none, none, 0⟩ 0
  | lo (z n : Nat) : 1 ≤ n → HvOk ⟨some (64 * z), none, 64 * (z + 1)⟩ n
  | hi (z n : Nat) : 1 ≤ n → HvOk ⟨none, some (-(64 * z)), -(64 * (z + 1))⟩ n
  | both (j n : Nat) (z : Int) : 7 ≤ j + n → j ≤ 5 → HvOk ⟨some (2 ^ (j + 1) * z), some (2 ^ (j + 1) * (z + 1)), 2 ^ j * (2 * z + 1)⟩ n
theorem pow_s (j : Nat) : (2 : Int) ^ (j + 1) = 2 * 2 ^ j := by rw [Int.pow_succ]; omega
theorem hv_step {s : Hv} {n : Nat} (h : HvOk s n) (hn : n < 7) {c : Col} (hc : c = .w ∨ c = .b) : HvOk (hvStep s c) (n + 1) := by
  cases h with
  | zero =>
    rcases hc with rfl | rfl
    · exact HvOk.lo 0 1 (Nat.le_refl _)
    · exact HvOk.hi 0 1 (Nat.le_refl _)
  | lo z n h1 =>
    rcases hc with rfl | rfl
    · have := HvOk.lo (z + 1) (n + 1) (by omega)
      show HvOk ⟨some (64 * ((z : Int) + 1)), none, 64 * ((z : Int) + 1) + 64⟩ _
      rw [show 64 * ((z : Int) + 1) + 64 = 64 * (((z + 1 : Nat) : Int) + 1) by omega]
      exact this
    · show HvOk ⟨some (64 * (z : Int)), some (64 * ((z : Int) + 1)), (64 * ((z : Int) + 1) + 64 * z) / 2⟩ _
      have := HvOk.both 5 (n + 1) z (by omega) (by omega)
      rw [show (64 * ((z : Int) + 1) + 64 * z) / 2 = 2 ^ 5 * (2 * z + 1) by omega]
      exact this
  | hi z n h1 =>
    rcases hc with rfl | rfl
    · show HvOk ⟨some (-(64 * ((z : Int) + 1))), some (-(64 * (z : Int))), (-(64 * ((z : Int) + 1)) + -(64 * z)) / 2⟩ _
      have := HvOk.both 5 (n + 1) (-((z : Int) + 1)) (by omega) (by omega)
      rw [show (-(64 * ((z : Int) + 1)) + -(64 * z)) / 2 = 2 ^ 5 * (2 * (-((z : Int) + 1)) + 1) by omega, show -(64 * ((z : Int) + 1)) = 2 ^ 6 * (-((z : Int) + 1)) by omega, show -(64 * (z : Int)) = 2 ^ 6 * (-((z : Int) + 1) + 1) by omega]
      exact this
    · have := HvOk.hi (z + 1) (n + 1) (by omega)
      show HvOk ⟨none, some (-(64 * ((z : Int) + 1))), -(64 * ((z : Int) + 1)) - 64⟩ _
      rw [show -(64 * ((z : Int) + 1)) - 64 = -(64 * (((z + 1 : Nat) : Int) + 1)) by omega]
      exact this
  | both j n z h1 h2 =>
    obtain ⟨i, rfl⟩ : ∃ i, j = i + 1 := ⟨j - 1, by omega⟩
    have e1 := pow_s (i + 1)
    have e2 := pow_s i
    generalize hP : (2 : Int) ^ i = p at e2
    rcases hc with rfl | rfl
    · have := HvOk.both i (n + 1) (2 * z + 1) (by omega) (by omega)
      show HvOk ⟨some (2 ^ (i + 1) * (2 * z + 1)), some (2 ^ (i + 1 + 1) * (z + 1)), (2 ^ (i + 1) * (2 * z + 1) + 2 ^ (i + 1 + 1) * (z + 1)) / 2⟩ _
      have a1 : (2 : Int) ^ (i + 1 + 1) * (z + 1) = 2 ^ (i + 1) * (2 * z + 1 + 1) := by rw [e1, Int.mul_comm 2, Int.mul_assoc]; congr 1; omega
      have a2 : ((2 : Int) ^ (i + 1) * (2 * z + 1) + 2 ^ (i + 1 + 1) * (z + 1)) / 2 = 2 ^ i * (2 * (2 * z + 1) + 1) := by
        rw [a1, ← Int.mul_add, e2, Int.mul_assoc, Int.mul_ediv_cancel_left _ (by decide), hP]
        congr 1; omega
      rw [a2, a1]
      exact this
    · have := HvOk.both i (n + 1) (2 * z) (by omega) (by omega)
      show HvOk ⟨some (2 ^ (i + 1 + 1) * z), some (2 ^ (i + 1) * (2 * z + 1)), (2 ^ (i + 1) * (2 * z + 1) + 2 ^ (i + 1 + 1) * z) / 2⟩ _
      have a1 : (2 : Int) ^ (i + 1 + 1) * z = 2 ^ (i + 1) * (2 * z) := by rw [e1, Int.mul_comm 2, Int.mul_assoc]
      have a2 : ((2 : Int) ^ (i + 1) * (2 * z + 1) + 2 ^ (i + 1 + 1) * z) / 2 = 2 ^ i * (2 * (2 * z) + 1) := by
        rw [a1, ← Int.mul_add, e2, Int.mul_assoc, Int.mul_ediv_cancel_left _ (by decide), hP]
        congr 1; omega
      rw [a2, a1]
      exact this
def Wb (cs : List Col) : Prop := ∀ c ∈ cs, c = .w ∨ c = .b
theorem snoc_cases (cs : List Col) : cs = [] ∨ ∃ l c, cs = l ++ [c] := by
  rcases List.eq_nil_or_concat cs with h | ⟨l, c, h⟩
  · exact .inl h
  · exact .inr ⟨l, c, by rw [h, List.concat_eq_append]⟩
theorem hv_ok : ∀ (n : Nat) (cs : List Col), cs.length = n → n ≤ 7 → Wb cs → HvOk (hv cs) n
  | 0, cs, h, _, _ => by rw [List.eq_nil_of_length_eq_zero h]; exact HvOk.zero
  | n + 1, cs, h, h7, hw => by
    rcases snoc_cases cs with rfl | ⟨l, c, rfl⟩
    · cases h
    · rw [List.length_append] at h
      rw [hv_snoc]
      exact hv_step (hv_ok n l (by simpa using h) (by omega) fun c hc => hw c (List.mem_append_left _ hc)) (by omega) (hw c (List.mem_append_right _ List.mem_cons_self))
def optN : Option Int → List Gm
  | none => []
  | some a => [numG 6 a]
theorem num_scale {j : Nat} (h : j ≤ 6) (z : Int) : numG 6 (2 ^ j * z) = numG (6 - j) z := by
  have := num_up (6 - j) j z
  rw [show 6 - j + j = 6 by omega, Int.mul_comm] at this
  exact this
theorem hv_num {s : Hv} {n : Nat} (h : HvOk s n) : numG 6 s.now = .mk (optN s.lo) (optN s.hi) := by
  cases h with
  | zero => exact num_up 0 6 0
  | lo z n h1 =>
    show numG 6 (2 ^ 6 * ((z : Int) + 1)) = .mk [numG 6 (2 ^ 6 * (z : Int))] []
    rw [num_scale (by decide), num_scale (by decide)]
    exact intZ_pos
  | hi z n h1 =>
    show numG 6 (-(64 * ((z : Int) + 1))) = .mk [] [numG 6 (-(64 * (z : Int)))]
    rw [show -(64 * ((z : Int) + 1)) = 2 ^ 6 * (-((z : Int) + 1)) by omega, show -(64 * (z : Int)) = 2 ^ 6 * (-(z : Int)) by omega, num_scale (by decide), num_scale (by decide)]
    exact intZ_neg
  | both j n z h1 h2 =>
    show numG 6 (2 ^ j * (2 * z + 1)) = .mk [numG 6 (2 ^ (j + 1) * z)] [numG 6 (2 ^ (j + 1) * (z + 1))]
    rw [num_scale (by omega), num_scale (by omega), num_scale (by omega), show 6 - j = 6 - (j + 1) + 1 by omega]
    exact numG_odd _ _
theorem hv_lt {s : Hv} {n : Nat} (h : HvOk s n) : (∀ a, s.lo = some a → a < s.now) ∧ ∀ a, s.hi = some a → s.now < a := by
  cases h with
  | zero => exact ⟨fun _ z => (nomatch z), fun _ z => nomatch z⟩
  | lo z n h1 => exact ⟨fun a e => by cases e; show _ < 64 * ((z : Int) + 1); omega, fun _ z => nomatch z⟩
  | hi z n h1 => exact ⟨fun _ z => (nomatch z), fun a e => by cases e; show -(64 * ((z : Int) + 1)) < _; omega⟩
  | both j n z h1 h2 =>
    have hp := pow_pos2 j
    have e1 := pow_s j
    constructor
    · intro a e
      cases e
      show 2 ^ (j + 1) * z < 2 ^ j * (2 * z + 1)
      rw [e1, Int.mul_comm 2 (2 ^ j), Int.mul_assoc]
      exact Int.mul_lt_mul_of_pos_left (by omega) hp
    · intro a e
      cases e
      show 2 ^ j * (2 * z + 1) < 2 ^ (j + 1) * (z + 1)
      rw [e1, Int.mul_comm 2 (2 ^ j), Int.mul_assoc]
      exact Int.mul_lt_mul_of_pos_left (by omega) hp
/-- the ends come from the letters -/
structure Ends (cs : List Col) : Prop where
  loU : ∀ i, cs[i]? = some .w → ∃ a, (hv cs).lo = some a ∧ (hv (cs.take i)).now ≤ a
  loE : ∀ a, (hv cs).lo = some a → ∃ i, cs[i]? = some .w ∧ (hv (cs.take i)).now = a
  hiU : ∀ i, cs[i]? = some .b → ∃ a, (hv cs).hi = some a ∧ a ≤ (hv (cs.take i)).now
  hiE : ∀ a, (hv cs).hi = some a → ∃ i, cs[i]? = some .b ∧ (hv (cs.take i)).now = a
theorem snoc_get {l : List Col} {c k : Col} {i : Nat} (h : (l ++ [c])[i]? = some k) : (i < l.length ∧ l[i]? = some k ∧ (l ++ [c]).take i = l.take i) ∨ (i = l.length ∧ k = c ∧ (l ++ [c]).take i = l) := by
  by_cases hi : i < l.length
  · rw [List.getElem?_append_left hi] at h
    exact .inl ⟨hi, h, List.take_append_of_le_length (by omega)⟩
  · have : i < (l ++ [c]).length := (List.getElem?_eq_some_iff.mp h).1
    rw [List.length_append] at this
    have hi : i = l.length := by simp at this; omega
    subst hi
    rw [List.getElem?_append_right (Nat.le_refl _), Nat.sub_self] at h
    cases h
    exact .inr ⟨rfl, rfl, List.take_left⟩
theorem ends : ∀ (n : Nat) (cs : List Col), cs.length = n → n ≤ 7 → Wb cs → Ends cs
  | 0, cs, h, _, _ => by
    rw [List.eq_nil_of_length_eq_zero h]
    exact ⟨fun _ z => (nomatch z), fun _ z => (nomatch z), fun _ z => (nomatch z), fun _ z => nomatch z⟩
  | n + 1, cs, h, h7, hw => by
    rcases snoc_cases cs with rfl | ⟨l, c, rfl⟩
    · cases h
    have hl : l.length = n := by rw [List.length_append] at h; simpa using h
    have hwl : Wb l := fun c hc => hw c (List.mem_append_left _ hc)
    have E := ends n l hl (by omega) hwl
    obtain ⟨lt1, lt2⟩ := hv_lt (hv_ok n l hl (by omega) hwl)
    have getL : ∀ {i : Nat} {k : Col}, l[i]? = some k → (l ++ [c])[i]? = some k ∧ (l ++ [c]).take i = l.take i := fun {i k} e => by
      have hi := (List.getElem?_eq_some_iff.mp e).1
      exact ⟨by rw [List.getElem?_append_left hi]; exact e, List.take_append_of_le_length (by omega)⟩
    have last : (l ++ [c])[l.length]? = some c ∧ (l ++ [c]).take l.length = l := ⟨by rw [List.getElem?_append_right (Nat.le_refl _), Nat.sub_self]; rfl, List.take_left⟩
    rcases hw c (List.mem_append_right _ List.mem_cons_self) with rfl | rfl
    · have e1 : (hv (l ++ [.w])).lo = some (hv l).now := by rw [hv_snoc]; rfl
      have e2 : (hv (l ++ [.w])).hi = (hv l).hi := by rw [hv_snoc]; rfl
      refine ⟨fun i hi => ?_, fun a ha => ?_, fun i hi => ?_, fun a ha => ?_⟩
      · refine ⟨_, e1, ?_⟩
        rcases snoc_get hi with ⟨_, h1, h2⟩ | ⟨_, _, h2⟩
        · obtain ⟨a, ha, hle⟩ := E.loU i h1
          have := lt1 a ha
          rw [h2]; omega
        · rw [h2]; exact Int.le_refl _
      · rw [e1] at ha
        cases ha
        exact ⟨l.length, last.1, by rw [last.2]⟩
      · rcases snoc_get hi with ⟨_, h1, h2⟩ | ⟨_, h1, _⟩
        · rw [e2, h2]; exact E.hiU i h1
        · cases h1
      · rw [e2] at ha
        obtain ⟨i, h1, h2⟩ := E.hiE a ha
        exact ⟨i, (getL h1).1, by rw [(getL h1).2]; exact h2⟩
    · have e1 : (hv (l ++ [.b])).hi = some (hv l).now := by rw [hv_snoc]; rfl
      have e2 : (hv (l ++ [.b])).lo = (hv l).lo := by rw [hv_snoc]; rfl
      refine ⟨fun i hi => ?_, fun a ha => ?_, fun i hi => ?_, fun a ha => ?_⟩
      · rcases snoc_get hi with ⟨_, h1, h2⟩ | ⟨_, h1, _⟩
        · rw [e2, h2]; exact E.loU i h1
        · cases h1
      · rw [e2] at ha
        obtain ⟨i, h1, h2⟩ := E.loE a ha
        exact ⟨i, (getL h1).1, by rw [(getL h1).2]; exact h2⟩
      · refine ⟨_, e1, ?_⟩
        rcases snoc_get hi with ⟨_, h1, h2⟩ | ⟨_, _, h2⟩
        · obtain ⟨a, ha, hle⟩ := E.hiU i h1
          have := lt2 a ha
          rw [h2]; omega
        · rw [h2]; exact Int.le_refl _
      · rw [e1] at ha
        cases ha
        exact ⟨l.length, last.1, by rw [last.2]⟩
theorem take_wb {cs : List Col} (h : Wb cs) (i : Nat) : Wb (cs.take i) := fun c hc => h c (List.mem_of_mem_take hc)
/-- a stalk's game is its number -/
theorem stalk_num : ∀ (n : Nat) (cs : List Col), cs.length = n → n ≤ 7 → Wb cs → Gm.eqv (game (stalkB cs)) (numG 6 (hv cs).now) := by
  intro n
  induction n using Nat.strongRecOn with
  | ind n ih =>
    intro cs hn h7 hw
    have sub : ∀ {i k}, cs[i]? = some k → Gm.eqv (game (stalkB (cs.take i))) (numG 6 (hv (cs.take i)).now) := fun {i k} e => by
      have hi := (List.getElem?_eq_some_iff.mp e).1
      exact ih i (by omega) _ (by rw [List.length_take]; omega) (by omega) (take_wb hw i)
    have E := ends n cs hn h7 hw
    rw [hv_num (hv_ok n cs hn h7 hw)]
    have lo := stalk_lo (cs := cs) (by omega)
    have oL : ∀ {g}, g ∈ (game (stalkB cs)).L → ∃ i, cs[i]? = some .w ∧ g = game (stalkB (cs.take i)) := fun {g} hg => by
      rw [game_L lo] at hg
      obtain ⟨i, k, h1, h2, h3⟩ := stalk_opts.mp hg
      rcases h2 with rfl | rfl
      · exact ⟨i, h1, h3⟩
      · rcases hw _ (List.mem_of_getElem? h1) with z | z <;> cases z
    have oR : ∀ {g}, g ∈ (game (stalkB cs)).R → ∃ i, cs[i]? = some .b ∧ g = game (stalkB (cs.take i)) := fun {g} hg => by
      rw [game_R lo] at hg
      obtain ⟨i, k, h1, h2, h3⟩ := stalk_opts.mp hg
      rcases h2 with rfl | rfl
      · exact ⟨i, h1, h3⟩
      · rcases hw _ (List.mem_of_getElem? h1) with z | z <;> cases z
    have iL : ∀ {i}, cs[i]? = some .w → game (stalkB (cs.take i)) ∈ (game (stalkB cs)).L := fun {i} h => by
      rw [game_L lo]; exact stalk_opts.mpr ⟨i, _, h, .inl rfl, rfl⟩
    have iR : ∀ {i}, cs[i]? = some .b → game (stalkB (cs.take i)) ∈ (game (stalkB cs)).R := fun {i} h => by
      rw [game_R lo]; exact stalk_opts.mpr ⟨i, _, h, .inl rfl, rfl⟩
    have mO : ∀ {o : Option Int} {g}, g ∈ optN o → ∃ a, o = some a ∧ g = numG 6 a := fun {o g} h => by
      cases o with
      | none => cases h
      | some a => exact ⟨a, rfl, List.mem_singleton.mp h⟩
    constructor
    · refine Gm.le_of_opts (fun l hl => ?_) fun r hr => ?_
      · obtain ⟨i, h1, rfl⟩ := oL hl
        obtain ⟨a, ha, hle⟩ := E.loU i h1
        refine ⟨numG 6 a, ?_, Gm.le_trans (sub h1).1 (num_le.mpr hle)⟩
        show _ ∈ optN (hv cs).lo
        rw [ha]; exact List.mem_singleton.mpr rfl
      · obtain ⟨a, ha, rfl⟩ := mO (show r ∈ optN (hv cs).hi from hr)
        obtain ⟨i, h1, h2⟩ := E.hiE a ha
        exact ⟨_, iR h1, h2 ▸ (sub h1).1⟩
    · refine Gm.le_of_opts (fun l hl => ?_) fun r hr => ?_
      · obtain ⟨a, ha, rfl⟩ := mO (show l ∈ optN (hv cs).lo from hl)
        obtain ⟨i, h1, h2⟩ := E.loE a ha
        exact ⟨_, iL h1, h2 ▸ (sub h1).2⟩
      · obtain ⟨i, h1, rfl⟩ := oR hr
        obtain ⟨a, ha, hle⟩ := E.hiU i h1
        refine ⟨numG 6 a, ?_, Gm.le_trans (num_le.mpr hle) (sub h1).2⟩
        show _ ∈ optN (hv cs).hi
        rw [ha]; exact List.mem_singleton.mpr rfl
/-- the way to a number -/
def Way (cs : List Col) (G : Int) : Prop := ∀ i c, cs[i]? = some c → (hv (cs.take i)).now ≠ G ∧ (c = .w ↔ (hv (cs.take i)).now < G)
theorem way_own {cs : List Col} (h7 : cs.length ≤ 7) (hw : Wb cs) : Way cs (hv cs).now := fun i c e => by
  have E := ends _ cs rfl h7 hw
  obtain ⟨l1, l2⟩ := hv_lt (hv_ok _ cs rfl h7 hw)
  rcases hw c (List.mem_of_getElem? e) with rfl | rfl
  · obtain ⟨a, ha, hle⟩ := E.loU i e
    have := l1 a ha
    exact ⟨by omega, ⟨fun _ => by omega, fun _ => rfl⟩⟩
  · obtain ⟨a, ha, hle⟩ := E.hiU i e
    have := l2 a ha
    exact ⟨by omega, ⟨(fun z => nomatch z), fun z => by omega⟩⟩
end Sv

set_option maxHeartbeats 8000000
namespace Sv
open PySem PySem.Spec PyProof.Rows L2 L2H HotX LamX
/-- not too far -/
structure HvBd (s : Hv) (n : Nat) : Prop where
  now : s.now.natAbs ≤ 64 * n
  lo : ∀ a, s.lo = some a → a.natAbs ≤ 64 * n
  hi : ∀ a, s.hi = some a → a.natAbs ≤ 64 * n
theorem hv_bd : ∀ (n : Nat) (cs : List Col), cs.length = n → HvBd (hv cs) n
  | 0, cs, h => by
    rw [List.eq_nil_of_length_eq_zero h]
    exact ⟨Nat.le_refl _, fun _ z => (nomatch z), fun _ z => nomatch z⟩
  | n + 1, cs, h => by
    rcases snoc_cases cs with rfl | ⟨l, c, rfl⟩
    · cases h
    have hl : l.length = n := by rw [List.length_append] at h; simpa using h
    obtain ⟨b1, b2, b3⟩ := hv_bd n l hl
    rw [hv_snoc]
    have up : ((hv l).up).natAbs ≤ 64 * (n + 1) := by
      unfold Hv.up
      split
      · omega
      · rename_i h e
        have := b3 h e
        omega
    have dn : ((hv l).dn).natAbs ≤ 64 * (n + 1) := by
      unfold Hv.dn
      split
      · omega
      · rename_i h e
        have := b2 h e
        omega
    cases c with
    | w => exact ⟨up, fun a e => by cases e; omega, fun a e => by have := b3 a e; omega⟩
    | b => exact ⟨dn, fun a e => by have := b2 a e; omega, fun a e => by cases e; omega⟩
    | g => exact ⟨dn, fun a e => by have := b2 a e; omega, fun a e => by cases e; omega⟩
theorem red_abs (k : Nat) (t : Int) : (red k t).1.natAbs ≤ t.natAbs := by
  obtain ⟨i, _, _, h, _⟩ := red_spec k t
  generalize (red k t).1 = a at h
  rw [h, Int.natAbs_mul]
  exact Nat.le_mul_of_pos_right _ (Int.natAbs_pos.mpr (by have := pow_pos2 (k - i); omega))
theorem red6_den (t : Int) : ∃ i, i ≤ 6 ∧ (red 6 t).2 = 2 ^ i := by
  obtain ⟨i, h1, h2, _⟩ := red_spec 6 t
  exact ⟨i, h1, h2⟩
theorem red6_scale {j : Nat} (h : j ≤ 6) (z : Int) : red 6 (2 ^ j * z) = red (6 - j) z := by
  have := red_up (6 - j) j z
  rw [show 6 - j + j = 6 by omega, Int.mul_comm] at this
  exact this
theorem red6_lt {a b : Int} : (red 6 a).1 * (red 6 b).2 < (red 6 b).1 * (red 6 a).2 ↔ a < b := by
  have h := under_iff (okF_red 6 a) (okF_red 6 b)
  rw [numP_red, numP_red, num_le] at h
  unfold under at h
  rw [decide_eq_true_iff] at h
  rw [h]; omega
theorem red6_inj {a b : Int} (h : red 6 a = red 6 b) : a = b := by
  have h1 := numP_red 6 a
  rw [h, numP_red] at h1
  exact num_eqv.mp (show Gm.eqv (numG 6 a) (numG 6 b) by rw [h1]; exact Gm.eqv.refl _)
theorem num_iff {a b : Int} : num (red 6 a).1 (red 6 a).2 = num (red 6 b).1 (red 6 b).2 ↔ a = b := by
  constructor
  · intro h
    exact red6_inj (Option.some.inj (optD_inj (a := some (red 6 a)) (b := some (red 6 b)) h))
  · rintro rfl; rfl
theorem col_snoc (a : List Col) (c : Col) : colStr a ++ colStr [c] = colStr (a ++ [c]) := by
  show (⟨(colStr a).cps ++ (colStr [c]).cps⟩ : Str) = _
  unfold colStr
  simp
section
variable {P : Program} {w : World} {K : PySem.W.Frag} {mg : Str → Option Value} {base : Heap} {C : Nat → Addr} {Z : Addr}
def spMiddle (K : PySem.W.Frag) : Sp := fun vs H Q _ => ∃ v1 v2 s n, vs = [v1, v2] ∧ HvOk s n ∧ 1 ≤ n ∧ HvBd s 8 ∧ At K H v1 (optD (s.lo.map (red 6))) ∧ At K H v2 (optD (s.hi.map (red 6))) ∧ ∀ H' p, Same H H' → At K H' (.ref p) (num (red 6 s.now).1 (red 6 s.now).2) → Q (.ref p) H'
theorem scMiddle : FnScope ["low", "high"] ["low", "high"] (defScope s_middle) := ⟨rfl, rfl, rfl, by decide +kernel, rfl, by decide +kernel, by decide +kernel⟩
theorem k_middle (F : Here K mg "middle" s_middle) (d_low : Keeps' P w K mg base CX0 1 "lowest" ["top", "under"] spLowest) : Keeps' P w K mg base CX0 2 "middle" ["low", "high"] (spMiddle K) := by
  refine keeps0 F scMiddle (fun _ _ _ _ _ _ us hl => match us, hl with | [_, _], _ => rfl) (fun vs H Q E h => by obtain ⟨_, _, _, _, e, _⟩ := h; rw [e]; rfl) fun f cdv A outer s H vs Q E hr h => ?_
  obtain ⟨v1, v2, st, n, rfl, hok, hn, hbd, h1, h2, q⟩ := h
  refine ⟨_, pss_cons (ps_if (pt_cmpR op_isN (pv 1) pe_non (nomark _))
      (pss_one (ps_ret (pe_tupN (pa2 (pe_op op_add (pe_ix (ix_tupK K) (pv 0) pe_int (fun _ _ => rfl)) pe_int) pe_int))))
      (pss_nil))
    (pss_cons (ps_if (pt_cmpR op_isN (pv 0) pe_non (nomark _))
      (pss_one (ps_ret (pe_tupN (pa2 (pe_op op_sub (pe_ix (ix_tupK K) (pv 1) pe_int (fun _ _ => rfl)) pe_int) pe_int))))
      (pss_nil))
    (pss_one (ps_ret (pe_d0 d_low (hr.mono (by decide)) (by rfl) (pa2 (pe_op op_add (pe_op op_mulW (pe_ix (ix_tupK K) (pv 0) pe_int (fun _ _ => rfl)) (pe_ix (ix_tupK K) (pv 1) pe_int (fun _ _ => rfl))) (pe_op op_mulW (pe_ix (ix_tupK K) (pv 1) pe_int (fun _ _ => rfl)) (pe_ix (ix_tupK K) (pv 0) pe_int (fun _ _ => rfl)))) (pe_op op_mulW (pe_op op_mulW pe_int (pe_ix (ix_tupK K) (pv 0) pe_int (fun _ _ => rfl))) (pe_ix (ix_tupK K) (pv 1) pe_int (fun _ _ => rfl)))))))), ?_⟩
  cases hok with
  | zero => omega
  | lo z n _ =>
    have h1 : At K H v1 (num (red 6 (64 * (z : Int))).1 (red 6 (64 * (z : Int))).2) := h1
    cases At.inv_none (show At K H v2 .none from h2)
    have e1 : red 6 (64 * (z : Int)) = ((z : Int), 1) := red6_scale (j := 6) (by decide) _
    have e2 : red 6 (64 * ((z : Int) + 1)) = ((z : Int) + 1, 1) := red6_scale (j := 6) (by decide) _
    rw [e1] at h1
    obtain ⟨a1, rfl, sq1⟩ := num_at h1
    refine ⟨_, rfl, rfl, _, rfl, ite2 (fun _ => ?_) fun z => absurd rfl z⟩
    refine ⟨_, rfl, a1, _, _, _, rfl, rfl, sq1, rfl, _, _, rfl, rfl, szl rfl, fun p H1 n1 s1 e => q H1 p s1 ?_⟩
    show At K H1 (.ref p) (num (red 6 (64 * ((z : Int) + 1))).1 (red 6 (64 * ((z : Int) + 1))).2)
    rw [e2]
    exact at_num e
  | hi z n _ =>
    have h2 : At K H v2 (num (red 6 (-(64 * (z : Int)))).1 (red 6 (-(64 * (z : Int)))).2) := h2
    cases At.inv_none (show At K H v1 .none from h1)
    have e1 : red 6 (-(64 * (z : Int))) = (-(z : Int), 1) := by
      rw [show -(64 * (z : Int)) = 2 ^ 6 * (-(z : Int)) by omega]
      exact red6_scale (j := 6) (by decide) _
    have e2 : red 6 (-(64 * ((z : Int) + 1))) = (-(z : Int) - 1, 1) := by
      rw [show -(64 * ((z : Int) + 1)) = 2 ^ 6 * (-(z : Int) - 1) by omega]
      exact red6_scale (j := 6) (by decide) _
    rw [e1] at h2
    obtain ⟨a1, rfl, sq1⟩ := num_at h2
    refine ⟨_, rfl, rfl, _, rfl, ite2 (fun z => nomatch z) fun _ => ⟨_, rfl, rfl, _, rfl, ite2 (fun _ => ?_) fun z => absurd rfl z⟩⟩
    refine ⟨_, rfl, a1, _, _, _, rfl, rfl, sq1, rfl, _, _, rfl, rfl, szl rfl, fun p H1 n1 s1 e => q H1 p s1 ?_⟩
    show At K H1 (.ref p) (num (red 6 (-(64 * ((z : Int) + 1)))).1 (red 6 (-(64 * ((z : Int) + 1)))).2)
    rw [e2]
    exact at_num e
  | both j n z hj1 hj2 =>
    have bl := hbd.lo _ rfl
    have bh := hbd.hi _ rfl
    have h1 : At K H v1 (num (red 6 (2 ^ (j + 1) * z)).1 (red 6 (2 ^ (j + 1) * z)).2) := h1
    have h2 : At K H v2 (num (red 6 (2 ^ (j + 1) * (z + 1))).1 (red 6 (2 ^ (j + 1) * (z + 1))).2) := h2
    have q : ∀ H' p, Same H H' → At K H' (.ref p) (num (red 6 (2 ^ j * (2 * z + 1))).1 (red 6 (2 ^ j * (2 * z + 1))).2) → Q (.ref p) H' := q
    have c1 := red_abs 6 (2 ^ (j + 1) * z)
    have c2 := red_abs 6 (2 ^ (j + 1) * (z + 1))
    obtain ⟨i, i6, di⟩ := red6_den (2 ^ (j + 1) * z)
    obtain ⟨i', i6', di'⟩ := red6_den (2 ^ (j + 1) * (z + 1))
    have r1 := red6_scale (j := j + 1) (by omega) z
    have r2 := red6_scale (j := j + 1) (by omega) (z + 1)
    have r3 := red6_scale (j := j) (by omega) (2 * z + 1)
    rw [r3] at q
    generalize hp : red 6 (2 ^ (j + 1) * z) = p at h1 c1 di r1
    generalize hp' : red 6 (2 ^ (j + 1) * (z + 1)) = p' at h2 c2 di' r2
    obtain ⟨a0, rfl, sq0⟩ := num_at h1
    obtain ⟨a1, rfl, sq1⟩ := num_at h2
    have e40 : (2 : Nat) ^ 40 = 1099511627776 := by decide
    have b1 : p.1.natAbs < 2 ^ 40 := by omega
    have b1' : p'.1.natAbs < 2 ^ 40 := by omega
    have b3 : p.2.natAbs < 2 ^ 21 := di ▸ pow_small (by omega)
    have c3 : p'.2.natAbs < 2 ^ 21 := di' ▸ pow_small (by omega)
    have rm := (red_mid (6 - (j + 1)) z (i := i) (j := i') (p := p.1) (q := p'.1) (by rw [← r1]; exact Prod.ext rfl di) (by rw [← r2]; exact Prod.ext rfl di')).1
    rw [show 6 - (j + 1) + 1 = 6 - j by omega] at rm
    refine ⟨_, rfl, rfl, _, rfl, ite2 (fun z => nomatch z) fun _ => ⟨_, rfl, rfl, _, rfl, ite2 (fun z => nomatch z) fun _ => ?_⟩⟩
    refine ⟨_, rfl, a0, _, 0, _, rfl, rfl, sq0, atI_nat (j := 0) rfl, _, rfl, a1, _, 1, _, rfl, rfl, sq1, atI_nat (j := 1) rfl, _, _, rfl, rfl, wide_mul b1 c3 (by decide) (by decide) (by decide), ?_⟩
    refine ⟨_, rfl, a1, _, 0, _, rfl, rfl, sq1, atI_nat (j := 0) rfl, _, rfl, a0, _, 1, _, rfl, rfl, sq0, atI_nat (j := 1) rfl, _, _, rfl, rfl, wide_mul b1' b3 (by decide) (by decide) (by decide), _, _, rfl, rfl, ?_⟩
    refine ⟨_, rfl, a0, _, 1, _, rfl, rfl, sq0, atI_nat (j := 1) rfl, _, _, rfl, rfl, wide_mul (a := 2) (show (2 : Int).natAbs < 2 ^ 2 by decide) b3 (by decide) (by decide) (by decide), _, rfl, a1, _, 1, _, rfl, rfl, sq1, atI_nat (j := 1) rfl, _, _, rfl, rfl, wide_mul (mul_small (a := 2) (by decide) b3) c3 (by decide) (by decide) (by decide), ?_⟩
    have e2 : (2 : Int) * p.2 * p'.2 = 2 ^ (1 + i + i') := by rw [di, di', Int.pow_add, Int.pow_add, Int.pow_one]
    refine ⟨p.1 * 2 ^ i' + p'.1 * 2 ^ i, 1 + i + i', ?_, fun pp H6 n6 s6 e6 => q H6 _ s6 ?_⟩
    · rw [← e2, ← di, ← di']
    · rw [rm] at e6
      exact at_num e6
def spStalkOf (K : PySem.W.Frag) (C : Nat → Addr) : Sp := fun vs H Q E => ∃ v cs G, vs = [v] ∧ At K H v (num (red 6 G).1 (red 6 G).2) ∧ Numb (red 6 G).1 (red 6 G).2 ∧ Wb cs ∧ cs.length ≤ 7 ∧ Way cs G ∧ ((hv cs).now = G → ∀ H', Same H H' → Q (.str (colStr cs)) H') ∧ ((hv cs).now ≠ G → cs.length = 7 ∧ ∀ H', Same H H' → E (.ref (C 6)) none H')
theorem scStalkOf : FnScope ["low", "goal", "below", "above", "now", "found"] ["low"] (defScope s_stalk_of) := ⟨rfl, rfl, rfl, by decide +kernel, rfl, by decide +kernel, by decide +kernel⟩
theorem k_stalk_of (F : Here K mg "stalk_of" s_stalk_of) (B : Blt mg) (O : ExcOne K mg "TooLarge" (C 6)) (d_need : Keeps' P w K mg base (L2N.CX P w) 3 "need_number" ["value"] (spNeedNum K C)) (d_under : Keeps' P w K mg base CX0 1 "is_under" ["one", "other"] (spUnder K)) (d_mid : Keeps' P w K mg base CX0 2 "middle" ["low", "high"] (spMiddle K)) : Keeps' P w K mg base (L2N.CX P w) 4 "stalk_of" ["low"] (spStalkOf K C) := by
  refine keepsN F scStalkOf (fun _ _ _ _ _ _ us hl => match us, hl with | [_], _ => rfl) (fun vs H Q E h => by obtain ⟨_, _, _, e, _⟩ := h; rw [e]; rfl) fun f cdv A outer s H vs Q E hr h => ?_
  obtain ⟨v, cs, G, rfl, hA, hN, hw, h7, way, q1, q2⟩ := h
  refine ⟨_, pss_cons (ps_expr (pe_dX d_need (hr.mono (by decide)) (by rfl) (L2N.takes_of rfl rfl rfl rfl) (fun _ _ _ _ h => h) (pa1 (pv 0))))
    (pss_cons (ps_asg (pe_tupN (pa_cons (pv 0) (pa_cons pe_non (pa3 pe_non (pe_tupN (pa2 pe_int pe_int)) pe_str)))) (pg_tupK K (n := 5) rfl (pgs_cons (pgn 1 scStalkOf.nd) (pgs_cons (pgn 2 scStalkOf.nd) (pgs_cons (pgn 3 scStalkOf.nd) (pgs_cons (pgn 4 scStalkOf.nd) (pgs_cons (pgn 5 scStalkOf.nd) pgs_nil)))))))
    (pss_cons (ps_while (passes_of rfl) (pt_cmpR (op_neCK K hr.units) (pv 4) (pv 1) (nomark _))
      (pss_cons (ps_if (pt_cmpR op_eq (pb call_len_str B.len PySem.boot_len (pa1 (pv 5))) pe_int (nomark _))
          (pss_one (ps_raiseN rfl O (by rfl) rfl rfl rfl rfl))
          (pss_nil))
        (pss_cons (ps_if (pt_val (pe_d0 d_under (hr.mono (by decide)) (by rfl) (pa2 (pv 4) (pv 1))))
          (pss_one (ps_par (i := 5) (j := 2) rfl scStalkOf.nd rfl rfl (by decide) rfl rfl (pa2 (pe_op op_add_str (pv 5) pe_str) (pv 4)) (by rfl)))
          (pss_one (ps_par (i := 5) (j := 3) rfl scStalkOf.nd rfl rfl (by decide) rfl rfl (pa2 (pe_op op_add_str (pv 5) pe_str) (pv 4)) (by rfl))))
        (pss_one (st 4 scStalkOf.nd (pe_d0 d_mid (hr.mono (by decide)) (by rfl) (pa2 (pv 2) (pv 3))))))))
    (pss_one (ps_ret (pv 5))))), ?_⟩
  have isn := numb_iff.mpr hN
  refine ⟨_, rfl, v, _, rfl, hA.2, fun _ H1 s1 => ?_, fun n1 H1 s1 => absurd (isn.symm.trans n1) (by decide)⟩
  have gN : At K H1 v (num (red 6 G).1 (red 6 G).2) := hA.same s1
  have l1 := hN.lo; have l2 := hN.hi; have lc := hN.cases
  have e40 : (2 : Nat) ^ 40 = 1099511627776 := by decide
  refine ⟨_, rfl, szl rfl, fun t1 H2 n2 x2 e2 => ⟨szl rfl, fun t2 H3 n3 x3 e3 => ⟨t2, _, rfl, SqT.of e3, rfl, _, _, rfl, _, _, rfl, _, _, rfl, _, _, rfl, _, _, rfl, rfl, ?_⟩⟩⟩
  have s03 := s1.trans (x2.trans x3)
  refine ⟨fun m σ H' => ∃ i vb va vn, i ≤ cs.length ∧ m = cs.length - i ∧ σ = [some v, some v, some vb, some va, some vn, some (.str (colStr (cs.take i)))] ∧ Same H H' ∧ At K H' vb (optD ((hv (cs.take i)).lo.map (red 6))) ∧ At K H' va (optD ((hv (cs.take i)).hi.map (red 6))) ∧ At K H' vn (num (red 6 (hv (cs.take i)).now).1 (red 6 (hv (cs.take i)).now).2), ⟨_, 0, .non, .non, .ref t1, Nat.zero_le _, rfl, rfl, s03, At.non, At.non, at_num (x3 _ _ e2)⟩, ?_⟩
  rintro m σ H4 ⟨i, vb, va, vn, hi, rfl, rfl, s04, hb, ha, hnw⟩
  have bd := hv_bd i (cs.take i) (by rw [List.length_take]; omega)
  have bn := bd.now
  have rn := red_abs 6 (hv (cs.take i)).now
  obtain ⟨di, di6, ed⟩ := red6_den (hv (cs.take i)).now
  have b3 := pow_small (i := di) (by omega)
  have hg := hA.same s04
  refine ⟨_, rfl, _, rfl, _, _, hnw, hg, by show 1 ≤ 64; decide, by show 1 ≤ 64; decide, _, rfl, ?_⟩
  by_cases hG : (hv (cs.take i)).now = G
  · rw [eqC_iff.mpr (num_iff.mpr hG)]
    have he : i = cs.length := by
      refine Classical.byContradiction fun c => ?_
      have hlt : i < cs.length := by omega
      exact (way i cs[i] (List.getElem?_eq_getElem hlt)).1 hG
    subst he
    rw [List.take_length] at hG ⊢
    exact iteF ⟨_, rfl, q1 hG H4 s04⟩
  · rw [eqC_no (fun z => hG (num_iff.mp z))]
    refine iteT ⟨_, fun σ' H' h => h, ?_⟩
    have ln : (colStr (cs.take i)).length = i := by
      show (colStr (cs.take i)).cps.size = i
      rw [colStr_size, List.length_take]; omega
    refine ⟨_, rfl, _, rfl, by rw [ln, sizeLine_eq]; omega, ?_⟩
    rw [ln]
    refine ⟨rfl, _, rfl, ite2 (fun z => ?_) fun z => ?_⟩
    · have z : (i : Int) = 7 := V.int.inj (of_decide_eq_true z)
      have he : i = cs.length := by omega
      subst he
      rw [List.take_length] at hG
      exact (q2 hG).2 H4 s04
    have z : ¬ (i : Int) = 7 := fun c => z (decide_eq_true (congrArg V.int c))
    have hlt : i < cs.length := by
      refine Classical.byContradiction fun c => ?_
      have he : i = cs.length := by omega
      subst he
      rw [List.take_length] at hG
      have := (q2 hG).1
      omega
    have hget := List.getElem?_eq_getElem hlt
    have hway := (way i cs[i] hget).2
    have et : cs.take (i + 1) = cs.take i ++ [cs[i]] := by rw [List.take_add_one, hget]; rfl
    have ok' := hv_ok (i + 1) (cs.take (i + 1)) (by rw [List.length_take]; omega) (by omega) (take_wb hw _)
    have bd' := hv_bd (i + 1) (cs.take (i + 1)) (by rw [List.length_take]; omega)
    have bd8 : HvBd (hv (cs.take (i + 1))) 8 := ⟨by have := bd'.now; omega, fun a e => by have := bd'.lo a e; omega, fun a e => by have := bd'.hi a e; omega⟩
    have es : hv (cs.take (i + 1)) = hvStep (hv (cs.take i)) cs[i] := by rw [et, hv_snoc]
    refine ⟨_, rfl, _, rfl, vn, v, _, _, _, _, rfl, hnw, hg, by omega, by rw [ed]; omega, by omega, by omega, _, rfl, ?_⟩
    by_cases hu : (hv (cs.take i)).now < G
    · have hc := hway.mpr hu
      rw [decide_eq_true (red6_lt.mpr hu)]
      rw [hc] at es et
      refine iteT ⟨_, rfl, _, _, rfl, rfl, by rw [ln, sizeLine_eq]; show i + 1 ≤ _; omega, _, rfl, _, _, rfl, ?_⟩
      refine ⟨_, rfl, _, rfl, vn, va, _, i + 1, rfl, ok', by omega, bd8, (by rw [es]; exact hnw), (by rw [es]; exact ha), fun H5 p5 s5 h5 => ?_⟩
      refine ⟨cs.length - (i + 1), by omega, i + 1, vn, va, .ref p5, by omega, rfl, ?_, s04.trans s5, by rw [es]; exact hnw.same s5, by rw [es]; exact ha.same s5, h5⟩
      rw [et, ← col_snoc]; rfl
    · have hc : cs[i] = .b := (hw _ (List.getElem_mem hlt)).resolve_left fun c => hu (hway.mp c)
      rw [decide_eq_false (fun c => hu (red6_lt.mp c))]
      rw [hc] at es et
      refine iteF ⟨_, rfl, _, _, rfl, rfl, by rw [ln, sizeLine_eq]; show i + 1 ≤ _; omega, _, rfl, _, _, rfl, ?_⟩
      refine ⟨_, rfl, _, rfl, vb, vn, _, i + 1, rfl, ok', by omega, bd8, (by rw [es]; exact hb), (by rw [es]; exact hnw), fun H5 p5 s5 h5 => ?_⟩
      refine ⟨cs.length - (i + 1), by omega, i + 1, vb, vn, .ref p5, by omega, rfl, ?_, s04.trans s5, by rw [es]; exact hb.same s5, by rw [es]; exact hnw.same s5, h5⟩
      rw [et, ← col_snoc]; rfl
end
end Sv

set_option maxHeartbeats 4000000
namespace Sv
open PySem PySem.Spec PyProof.Rows L2 L2H HotX LamX
theorem hv_ww : ∀ n : Nat, (hv (List.replicate n .w)).now = 64 * n ∧ (hv (List.replicate n .w)).hi = none
  | 0 => ⟨rfl, rfl⟩
  | n + 1 => by
    obtain ⟨h1, h2⟩ := hv_ww n
    rw [List.replicate_succ', hv_snoc]
    refine ⟨?_, h2⟩
    show (hv (List.replicate n .w)).up = _
    unfold Hv.up
    rw [h2, h1]
    show 64 * (n : Int) + 64 = 64 * ((n + 1 : Nat) : Int)
    omega
theorem hv_bb : ∀ n : Nat, (hv (List.replicate n .b)).now = -(64 * n) ∧ (hv (List.replicate n .b)).lo = none
  | 0 => ⟨rfl, rfl⟩
  | n + 1 => by
    obtain ⟨h1, h2⟩ := hv_bb n
    rw [List.replicate_succ', hv_snoc]
    refine ⟨?_, h2⟩
    show (hv (List.replicate n .b)).dn = _
    unfold Hv.dn
    rw [h2, h1]
    show -(64 * (n : Int)) - 64 = -(64 * ((n + 1 : Nat) : Int))
    omega
theorem wb_w (n : Nat) : Wb (List.replicate n .w) := fun c hc => .inl (List.eq_of_mem_replicate hc)
theorem wb_b (n : Nat) : Wb (List.replicate n .b) := fun c hc => .inr (List.eq_of_mem_replicate hc)
theorem rep_get {n i : Nat} {c k : Col} (h : (List.replicate n c)[i]? = some k) : i < n ∧ k = c ∧ (List.replicate n c).take i = List.replicate i c := by
  obtain ⟨h1, h2⟩ := List.getElem?_eq_some_iff.mp h
  rw [List.length_replicate] at h1
  rw [List.getElem_replicate] at h2
  exact ⟨h1, h2.symm, by rw [List.take_replicate, Nat.min_eq_left (by omega)]⟩
/-- what lies far above, far below -/
theorem way_far {G : Int} (h : 384 < G) : Way (List.replicate 7 .w) G := fun i c e => by
  obtain ⟨h1, rfl, h2⟩ := rep_get e
  rw [h2, (hv_ww i).1]
  exact ⟨by omega, ⟨fun _ => by omega, fun _ => rfl⟩⟩
theorem way_low {G : Int} (h : G < -384) : Way (List.replicate 7 .b) G := fun i c e => by
  obtain ⟨h1, rfl, h2⟩ := rep_get e
  rw [h2, (hv_bb i).1]
  exact ⟨by omega, ⟨(fun z => nomatch z), fun z => by omega⟩⟩
theorem red6_int (n : Int) : red 6 (64 * n) = (n, 1) := red6_scale (j := 6) (by decide) n
/-- the bush's number -/
theorem stalk_numIn {cs : List Col} {g : Gm} (h7 : cs.length ≤ 7) (hw : Wb cs) (h : IsW (stalkB cs) g) : numIn g = some (red 6 (hv cs).now) := by
  obtain ⟨x, hx, e, rfl⟩ := h.lst
  have e2 := stalk_num _ cs rfl h7 hw
  exact numIn_of hx.can hx.nd ⟨Gm.le_trans e.1 e2.1, Gm.le_trans e2.2 e.2⟩
theorem stalk_sw (cs : List Col) : swB (stalkB cs) = stalkB (cs.map Col.sw) := by
  apply List.ext_getElem?
  intro i
  unfold swB
  rw [List.getElem?_map, stalkB_get, stalkB_get, List.getElem?_map]
  cases cs[i]? <;> rfl
theorem wb_sw {cs : List Col} (h : Wb cs) : Wb (cs.map Col.sw) := fun c hc => by
  obtain ⟨k, hk, rfl⟩ := List.mem_map.mp hc
  rcases h k hk with rfl | rfl
  · exact .inr rfl
  · exact .inl rfl
theorem hv_sw {cs : List Col} (h7 : cs.length ≤ 7) (hw : Wb cs) : (hv (cs.map Col.sw)).now = -(hv cs).now := by
  have e1 := stalk_num _ (cs.map Col.sw) rfl (by rw [List.length_map]; exact h7) (wb_sw hw)
  have e2 := stalk_num _ cs rfl h7 hw
  rw [← stalk_sw, game_neg (stalk_lo (by omega))] at e1
  have e3 := eqv_neg e2
  rw [neg_num] at e3
  exact num_eqv.mp ⟨Gm.le_trans e1.2 e3.1, Gm.le_trans e3.2 e1.1⟩
theorem red_neg : ∀ (k : Nat) (t : Int), red k (-t) = (-(red k t).1, (red k t).2)
  | 0, t => rfl
  | k + 1, t => by
    show (if -t % 2 = 0 then red k (-t / 2) else (-t, (2 : Int) ^ (k + 1))) = _
    by_cases h : t % 2 = 0
    · rw [if_pos (by omega), show -t / 2 = -(t / 2) by omega, red_neg k (t / 2)]
      show _ = (-(if t % 2 = 0 then red k (t / 2) else (t, (2 : Int) ^ (k + 1))).1, (if t % 2 = 0 then red k (t / 2) else (t, (2 : Int) ^ (k + 1))).2)
      rw [if_pos h]
    · rw [if_neg (by omega)]
      show _ = (-(if t % 2 = 0 then red k (t / 2) else (t, (2 : Int) ^ (k + 1))).1, (if t % 2 = 0 then red k (t / 2) else (t, (2 : Int) ^ (k + 1))).2)
      rw [if_neg h]
end Sv

set_option maxHeartbeats 4000000
namespace Sv
open PySem PySem.Spec PyProof.Rows L2 L2H HotX LamX
/-- simplest's loop -/
def simpLoop (a b c d : Int) : Nat → Int → Int × Int
  | 0, u => (0, u)
  | n + 1, u => if (a * u / b + 1) * d < c * u then (if u = 1 then bestInt (a * u / b + 1) c d else a * u / b + 1, u) else simpLoop a b c d n (2 * u)
/-- the fraction that simplest finds -/
def simpest (a b c d : Int) : Int × Int := simpLoop a b c d 8 1
/-- with the denominator 128 the loop ends -/
theorem simp_last {a b c d : Int} (hb : b = 1 ∨ b = 2 ∨ b = 4 ∨ b = 8 ∨ b = 16 ∨ b = 32 ∨ b = 64) (hd : d = 1 ∨ d = 2 ∨ d = 4 ∨ d = 8 ∨ d = 16 ∨ d = 32 ∨ d = 64) (h : a * d < c * b) : (a * 128 / b + 1) * d < c * 128 := by
  rcases hb with rfl | rfl | rfl | rfl | rfl | rfl | rfl <;> rcases hd with rfl | rfl | rfl | rfl | rfl | rfl | rfl <;> omega
section
variable {P : Program} {w : World} {K : PySem.W.Frag} {mg : Str → Option Value} {base : Heap} {C : Nat → Addr} {CS : Addr}
def spSimplest (K : PySem.W.Frag) (C : Nat → Addr) : Sp := fun vs H Q E => ∃ v1 v2 d1 d2, vs = [v1, v2] ∧ Dp K H v1 d1 ∧ Dp K H v2 d2 ∧ ((isNum d1 = false ∨ isNum d2 = false) → ∀ H', Same H H' → E (.ref (C 4)) none H') ∧
  ∀ a b c d, d1 = num a b → d2 = num c d → Numb a b → Numb c d → (¬ a * d < c * b → ∀ H', Same H H' → E (.ref (C 7)) none H') ∧ (a * d < c * b → ∀ H' p, Same H H' → H p = none → H' p = some (.tup [.int (simpest a b c d).1, .int (simpest a b c d).2]) → Q (.ref p) H')
theorem scSimplest : FnScope ["low", "high", "under", "first"] ["low", "high"] (defScope s_simplest) := ⟨rfl, rfl, rfl, by decide +kernel, rfl, by decide +kernel, by decide +kernel⟩
theorem k_simplest (F : Here K mg "simplest" s_simplest) (O : ExcOne K mg "NoneBetween" (C 7)) (d_need : Keeps' P w K mg base (L2N.CX P w) 3 "need_number" ["value"] (spNeedNum K C)) (d_under : Keeps' P w K mg base CX0 1 "is_under" ["one", "other"] (spUnder K))
    (d_best : Keeps' P w K mg base CX0 1 "best_integer" ["first", "high"] (spBestI K)) : Keeps' P w K mg base (L2N.CX P w) 4 "simplest" ["low", "high"] (spSimplest K C) := by
  refine keepsN F scSimplest (fun _ _ _ _ _ _ us hl => match us, hl with | [_, _], _ => rfl) (fun vs H Q E h => by obtain ⟨_, _, _, _, e, _⟩ := h; rw [e]; rfl) fun f cdv A outer s H vs Q E hr h => ?_
  obtain ⟨v1, v2, d1, d2, rfl, hd1, hd2, qe, q⟩ := h
  refine ⟨_, pss_cons (ps_expr (pe_dX d_need (hr.mono (by decide)) (by rfl) (L2N.takes_of rfl rfl rfl rfl) (fun _ _ _ _ h => h) (pa1 (pv 0))))
    (pss_cons (ps_expr (pe_dX d_need (hr.mono (by decide)) (by rfl) (L2N.takes_of rfl rfl rfl rfl) (fun _ _ _ _ h => h) (pa1 (pv 1))))
    (pss_cons (ps_if (pt_not (pt_val (pe_d0 d_under (hr.mono (by decide)) (by rfl) (pa2 (pv 0) (pv 1)))))
      (pss_one (ps_raiseN rfl O (by rfl) rfl rfl rfl rfl))
      (pss_nil))
    (PSs.nox (pss_cons (st 2 scSimplest.nd pe_int)
    (pss_one (ps_while PassesOwn.never (pt_val pe_bl)
      (pss_cons (st 3 scSimplest.nd (pe_op op_add (pe_op op_fdiv (pe_op op_mul (pe_ix (ix_tupK K) (pv 0) pe_int (fun _ _ => rfl)) (pv 2)) (pe_ix (ix_tupK K) (pv 0) pe_int (fun _ _ => rfl))) pe_int))
        (pss_cons (ps_if (pt_val (pe_d0 d_under (hr.mono (by decide)) (by rfl) (pa2 (pe_tupN (pa2 (pv 3) (pv 2))) (pv 1))))
          (pss_one (ps_ret (pe_tupN (pa2 (pe_ifExp (pt_cmpR op_eq (pv 2) pe_int (nomark _)) (pe_d0 d_best (hr.mono (by decide)) (by rfl) (pa2 (pv 3) (pv 1))) (pv 3)) (pv 2)))))
          (pss_nil))
        (pss_one (st 2 scSimplest.nd (pe_op op_mul pe_int (pv 2)))))))))))), ?_⟩
  refine ⟨_, rfl, v1, d1, rfl, hd1, fun n1 H1 s1 => ?_, fun n1 H1 s1 => qe (.inl n1) H1 s1⟩
  refine ⟨_, rfl, v2, d2, rfl, dp_same s1 _ _ hd2, fun n2 H2 s2 => ?_, fun n2 H2 s2 => qe (.inr n2) H2 (s1.trans s2)⟩
  obtain ⟨a, b, rfl⟩ := isNum_data n1
  obtain ⟨c, d, rfl⟩ := isNum_data n2
  have N1 := numb_iff.mp n1
  have N2 := numb_iff.mp n2
  obtain ⟨qn, qy⟩ := q a b c d rfl rfl N1 N2
  have s12 := s1.trans s2
  have A1 : At K H2 v1 (num a b) := ⟨rfl, dp_same s12 _ _ hd1⟩
  have A2 : At K H2 v2 (num c d) := ⟨rfl, dp_same s12 _ _ hd2⟩
  have cb := N1.cases
  have cd := N2.cases
  have l1 := N1.lo; have l2 := N1.hi; have l3 := N2.lo; have l4 := N2.hi
  have e40 : (2 : Nat) ^ 40 = 1099511627776 := by decide
  refine ⟨_, rfl, _, rfl, v1, v2, a, b, c, d, rfl, A1, A2, by omega, by omega, by omega, by omega, _, rfl, ?_⟩
  by_cases hlt : a * d < c * b
  · rw [decide_eq_true hlt]
    have qy := qy hlt
    clear qn
    refine iteF ⟨fun m σ H' => ∃ u y, σ = [some v1, some v2, some (.int u), y] ∧ Same H2 H' ∧ u * 2 ^ m = 128 ∧ 1 ≤ u ∧ simpLoop a b c d (m + 1) u = simpest a b c d, ⟨7, 1, none, rfl, Same.refl _, by decide, by decide, rfl⟩, ?_⟩
    rintro m σ H3 ⟨u, y, rfl, s3, hu, hu1, hs⟩
    have hu2 : u ≤ 128 := by
      have h1 : (1 : Int) ≤ 2 ^ m := by
        have := Nat.one_le_two_pow (n := m)
        have h : ((2 ^ m : Nat) : Int) = (2 : Int) ^ m := by simp
        omega
      have := Int.mul_le_mul_of_nonneg_left h1 (show 0 ≤ u by omega)
      omega
    refine ⟨true, rfl, iteT ⟨fun σ' H' => 0 < m ∧ simpLoop a b c d m (2 * u) = simpest a b c d ∧ ∃ y', σ' = [some v1, some v2, some (.int (2 * u)), y'] ∧ Same H2 H', ?_, ?_⟩⟩
    · rintro σ' H' ⟨hm, hl, y', e, s'⟩
      refine ⟨m - 1, by omega, 2 * u, y', e, s', ?_, by omega, ?_⟩
      · obtain ⟨j, rfl⟩ : ∃ j, m = j + 1 := ⟨m - 1, by omega⟩
        rw [Int.pow_succ] at hu
        show 2 * u * 2 ^ j = 128
        rw [← hu, Int.mul_comm 2 u, Int.mul_assoc, Int.mul_comm 2]
      · rw [show m - 1 + 1 = m by omega]; exact hl
    · have A1' := At.same A1 s3
      have A2' := At.same A2 s3
      obtain ⟨a1, rfl, t1⟩ := num_at A1'
      have hb0 : 0 < b := by omega
      refine ⟨_, rfl, a1, _, 0, _, rfl, rfl, t1, atI_nat (j := 0) rfl, _, rfl, _, _, rfl, rfl, .inr ⟨by omega, by omega⟩, _, rfl, a1, _, 1, _, rfl, rfl, t1, atI_nat (j := 1) rfl, _, _, rfl, rfl, ⟨hb0, by omega⟩, _, _, rfl, rfl, ?_⟩
      have hfb : -100000 ≤ a * u / b + 1 ∧ a * u / b + 1 ≤ 100000 := by
        have x1 : -57344 ≤ a * u := by
          have h1 := Int.mul_le_mul_of_nonneg_right (show -448 ≤ a by omega) (show 0 ≤ u by omega)
          omega
        have x2 : a * u ≤ 57344 := by
          have h1 := Int.mul_le_mul_of_nonneg_right (show a ≤ 448 by omega) (show 0 ≤ u by omega)
          omega
        generalize a * u = z at x1 x2
        rcases cb with rfl | rfl | rfl | rfl | rfl | rfl | rfl <;> omega
      refine ⟨_, rfl, _, rfl, szl rfl, fun p H4 np s4 e4 => ⟨_, rfl, .ref p, v2, a * u / b + 1, u, c, d, rfl, at_num e4, At.same A2' s4, by omega, by omega, by omega, by omega, _, rfl, ?_⟩⟩
      have hs' : (if (a * u / b + 1) * d < c * u then (if u = 1 then bestInt (a * u / b + 1) c d else a * u / b + 1, u) else simpLoop a b c d m (2 * u)) = simpest a b c d := hs
      by_cases hc : (a * u / b + 1) * d < c * u
      · rw [decide_eq_true hc]
        rw [if_pos hc] at hs'
        have e1 : (simpest a b c d).1 = if u = 1 then bestInt (a * u / b + 1) c d else a * u / b + 1 := by rw [← hs']
        have e2 : (simpest a b c d).2 = u := by rw [← hs']
        have A2'' := At.same A2' s4
        have sa := s12.trans (s3.trans s4)
        refine iteT ⟨_, rfl, rfl, _, rfl, ?_⟩
        by_cases h1 : u = 1
        · rw [if_pos h1] at e1
          refine ite2 (fun _ => ⟨_, rfl, _, rfl, v2, _, c, d, rfl, A2'', by omega, by omega, _, rfl, szl rfl, fun r H5 nr s5 e5 => ?_⟩) fun z => absurd (decide_eq_true (congrArg V.int h1)) z
          refine qy H5 r (sa.trans s5) (sa.free nr) ?_
          rw [e5, e1, e2]
        · rw [if_neg h1] at e1
          refine ite2 (fun z => absurd (V.int.inj (of_decide_eq_true z)) h1) fun _ => ⟨_, rfl, _, rfl, szl rfl, fun r H5 nr s5 e5 => ?_⟩
          refine qy H5 r (sa.trans s5) (sa.free nr) ?_
          rw [e5, e1, e2]
      · rw [decide_eq_false hc]
        rw [if_neg hc] at hs'
        have hm : 0 < m := by
          refine Nat.pos_of_ne_zero fun z => hc ?_
          subst z
          have : u = 128 := by simpa using hu
          subst this
          exact simp_last cb cd hlt
        exact iteF ⟨_, rfl, _, _, rfl, rfl, .inl ⟨by decide, by decide⟩, hm, hs', _, rfl, s3.trans s4⟩
  · rw [decide_eq_false hlt]
    exact qn hlt _ s12
end
end Sv

set_option maxHeartbeats 4000000
namespace Sv
open PySem PySem.Spec PyProof.Rows L2 L2H HotX LamX
/-! ### a table -/
def fldsT : List Str := ["now", "earlier", "undone"]
def tf (v : V) (le lu : Addr) : List (Str × V) := [("now", v), ("earlier", .ref le), ("undone", .ref lu)]
theorem tf_now (v u : V) (le lu : Addr) : putF "now" u (tf v le lu) = tf u le lu := by unfold tf putF; rw [if_pos rfl]
theorem tf_ear (v : V) (le lu l : Addr) : putF "earlier" (.ref l) (tf v le lu) = tf v l lu := by
  unfold tf putF
  rw [if_neg (by decide +kernel)]
  unfold putF
  rw [if_pos rfl]
theorem tf_und (v : V) (le lu l : Addr) : putF "undone" (.ref l) (tf v le lu) = tf v le l := by
  unfold tf putF
  rw [if_neg (by decide +kernel)]
  unfold putF
  rw [if_neg (by decide +kernel)]
  unfold putF
  rw [if_pos rfl]
theorem tf_g0 (v : V) (le lu : Addr) : (tf v le lu).lookup ("now" : Str) = some v := rfl
theorem tf_g1 (v : V) (le lu : Addr) : (tf v le lu).lookup ("earlier" : Str) = some (V.ref le) := rfl
theorem tf_g2 (v : V) (le lu : Addr) : (tf v le lu).lookup ("undone" : Str) = some (V.ref lu) := rfl
theorem tf_no (v : V) (le lu : Addr) {m : Str} (h : (fldsT.contains m) = false) : (tf v le lu).lookup m = none := by
  have h1 : ∀ f ∈ fldsT, (m == f) = false := fun f hf => by
    cases q : m == f with
    | false => rfl
    | true =>
      rw [eq_of_beq q] at h
      rw [List.contains_iff_mem.mpr hf] at h
      cases h
  unfold tf
  rw [List.lookup_cons, h1 _ (by decide), List.lookup_cons, h1 _ (by decide), List.lookup_cons, h1 _ (by decide)]
  rfl
/-- the table at x: the bush, the earlier ones, those taken back -/
def TabAt (K : PySem.W.Frag) (C : Addr) (H : Hp) (x : Addr) (b : Bsh) (ear und : List Bsh) : Prop :=
  ∃ dx v le lu vs us, H x = some (.ins C dx (tf v le lu)) ∧ At K H v (bushD b) ∧ H le = some (.lst vs) ∧ AtAll K H vs (ear.map bushD) ∧ H lu = some (.lst us) ∧ AtAll K H us (und.map bushD)
def plc (n : Nat) : Col := if n % 2 = 0 then .w else .b
section
variable {P : Program} {w : World} {K : PySem.W.Frag} {mg : Str → Option Value} {base : Heap} {C : Nat → Addr} {CS CT : Addr}
theorem TabAt.same {H H' : Hp} {x : Addr} {b : Bsh} {ear und : List Bsh} (h : TabAt K CT H x b ear und) (s : Same H H') : TabAt K CT H' x b ear und := by
  obtain ⟨dx, v, le, lu, vs, us, h1, h2, h3, h4, h5, h6⟩ := h
  exact ⟨dx, v, le, lu, vs, us, s _ _ h1, h2.same s, s _ _ h3, h4.ext (Same.ext s), s _ _ h5, h6.ext (Same.ext s)⟩
/-! ### its methods -/
def spTInit (K : PySem.W.Frag) (C : Nat → Addr) (CT : Addr) : Sp := fun vs H Q E => ∃ x dx v d, vs = [.ref x, v] ∧ H x = some (.ins CT dx []) ∧ Dp K H v d ∧ (isBush d = false → ∀ H', Same H H' → E (.ref (C 0)) none H') ∧ ∀ b, d = bushD b → BushOk b → ∀ H', MvA x H H' → TabAt K CT H' x b [] [] → Q .non H'
theorem scTInit : FnScope ["self", "bush"] ["self", "bush"] (defScope s_Table_init) := ⟨rfl, rfl, rfl, by decide +kernel, rfl, by decide +kernel, by decide +kernel⟩
theorem k_t_init (F : HereM K CT "__init__" "Table.__init__" s_Table_init) (T : ClsT K mg "Table" CT fldsT) (d_need : Keeps' P w K mg base (L2N.CX P w) 4 "need_bush" ["bush"] (spNeedBush K C)) : KeepsM P w K mg base (L2N.CX P w) 5 CT "__init__" ["self", "bush"] (spTInit K C CT) := by
  refine keepsMN F scTInit (fun _ _ _ _ _ _ us hl => match us, hl with | [_, _], _ => rfl) (fun vs H Q E h => by obtain ⟨_, _, _, _, e, _⟩ := h; rw [e]; rfl) fun f cdv A outer s H vs Q E hr h => ?_
  obtain ⟨x, dx, v, d, rfl, hx, hd, q1, q2⟩ := h
  have n0 : NoAttr K CT "now" := T.nf _ (by decide)
  have n1 : NoAttr K CT "earlier" := T.nf _ (by decide)
  have n2 : NoAttr K CT "undone" := T.nf _ (by decide)
  refine ⟨_, pss_cons (ps_expr (pe_dX d_need (hr.mono (by decide)) (by rfl) (L2N.takes_of rfl rfl rfl rfl) (fun _ _ _ _ h => h) (pa1 (pv 1))))
    (pss_cons (ps_fldK T.cl n0 (pv 0) (pv 1))
    (pss_cons (ps_fldK T.cl n1 (pv 0) (pe_lstN pa_nil))
    (pss_one (ps_fldK T.cl n2 (pv 0) (pe_lstN pa_nil))))), ?_⟩
  refine ⟨_, rfl, v, d, rfl, hd, fun g1 H1 s1 => ?_, fun g1 H1 s1 => q1 g1 H1 s1⟩
  obtain ⟨b, rfl, hb⟩ := isBush_iff.mp g1
  refine ⟨_, rfl, _, rfl, x, dx, [], rfl, s1 _ _ hx, by decide, szl rfl, fun l H2 nl s2 el => ⟨_, rfl, x, dx, _, rfl, s2 _ _ upd_same, putF_few (by decide), szl rfl, fun l2 H3 nl2 s3 el2 => ⟨_, rfl, x, dx, _, rfl, s3 _ _ upd_same, putF_few (Nat.lt_of_lt_of_le (putF_lt (k := 1) (by decide)) (by decide)), ?_⟩⟩⟩
  have el3 := s3 _ _ (show (upd H2 x (.ins CT dx (putF "earlier" (.ref l) (putF "now" v [])))) l = some (.lst []) by rw [upd_ne (fun z => by rw [z, upd_same] at nl; cases nl)]; exact el)
  have nx : x ≠ l := fun z => by rw [← z, upd_same] at nl; cases nl
  have nx2 : x ≠ l2 := fun z => by rw [← z, upd_same] at nl2; cases nl2
  have m0 : MvA x H H3 := ((((MvA.of_same s1).trans mvA_upd).same s2).trans mvA_upd).same s3
  refine q2 b rfl hb _ (m0.trans mvA_upd) ⟨dx, v, l, l2, [], [], ?_, (At.ext ⟨pl_bush b, hd⟩ ((m0.trans mvA_upd).ins hx)), ?_, AtAll.nil, ?_, AtAll.nil⟩
  · rw [upd_same]; rfl
  · rw [upd_ne nx.symm]; exact el3
  · rw [upd_ne nx2.symm]; exact el2
def spTBush (K : PySem.W.Frag) (CT : Addr) : Sp := fun vs H Q _ => ∃ x b ear und, vs = [.ref x] ∧ TabAt K CT H x b ear und ∧ ∀ u, At K H u (bushD b) → Q u H
theorem scTBush : FnScope ["self"] ["self"] (defScope s_Table_bush) := ⟨rfl, rfl, rfl, by decide +kernel, rfl, by decide +kernel, by decide +kernel⟩
theorem k_t_bush (F : HereM K CT "bush" "Table.bush" s_Table_bush) (T : ClsT K mg "Table" CT fldsT) : KeepsM P w K mg base CX0 1 CT "bush" ["self"] (spTBush K CT) := by
  refine keepsM0 F scTBush (fun _ _ _ _ _ _ us hl => match us, hl with | [_], _ => rfl) (fun vs H Q E h => by obtain ⟨_, _, _, _, e, _⟩ := h; rw [e]; rfl) fun f cdv A outer s H vs Q E hr h => ?_
  obtain ⟨x, b, ear, und, rfl, ⟨dx, v, le, lu, vs, us, h1, h2, h3, h4, h5, h6⟩, q⟩ := h
  have n0 : NoAttr K CT "now" := T.nf _ (by decide)
  refine ⟨_, pss_one (ps_ret (pe_fldK T.cl n0 (pv 0))), ?_⟩
  exact ⟨_, rfl, x, dx, _, v, rfl, h1, rfl, q v h2⟩
def spTPlayer (K : PySem.W.Frag) (CT : Addr) : Sp := fun vs H Q _ => ∃ x b ear und, vs = [.ref x] ∧ TabAt K CT H x b ear und ∧ Q (.str (plc ear.length).s) H
theorem scTPlayer : FnScope ["self"] ["self"] (defScope s_Table_player) := ⟨rfl, rfl, rfl, by decide +kernel, rfl, by decide +kernel, by decide +kernel⟩
theorem k_t_player (F : HereM K CT "player" "Table.player" s_Table_player) (T : ClsT K mg "Table" CT fldsT) (B : Blt mg) : KeepsM P w K mg base CX0 1 CT "player" ["self"] (spTPlayer K CT) := by
  refine keepsM0 F scTPlayer (fun _ _ _ _ _ _ us hl => match us, hl with | [_], _ => rfl) (fun vs H Q E h => by obtain ⟨_, _, _, _, e, _⟩ := h; rw [e]; rfl) fun f cdv A outer s H vs Q E hr h => ?_
  obtain ⟨x, b, ear, und, rfl, ⟨dx, v, le, lu, vs, us, h1, h2, h3, h4, h5, h6⟩, q⟩ := h
  have n1 : NoAttr K CT "earlier" := T.nf _ (by decide)
  refine ⟨_, pss_one (ps_ret (pe_ifExp (pt_cmpR op_eq (pe_op op_mod (pb (call_len_seqK K) B.len PySem.boot_len (pa1 (pe_fldK T.cl n1 (pv 0)))) pe_int) pe_int (nomark _)) pe_str pe_str)), ?_⟩
  refine ⟨_, rfl, x, dx, _, _, rfl, h1, rfl, le, vs, rfl, .inl (SqL.of h3), _, _, rfl, rfl, (by show (0 : Int) < 2; decide), rfl, _, rfl, ?_⟩
  have hl : vs.length = ear.length := by rw [AtAll.len h4.2, List.length_map]
  rw [hl]
  unfold plc at q
  by_cases h0 : ear.length % 2 = 0
  · rw [if_pos h0] at q
    exact ite2 (fun _ => q) fun z => absurd (decide_eq_true (by show V.int ((ear.length : Int) % 2) = V.int 0; congr 1; omega)) z
  · rw [if_neg h0] at q
    exact ite2 (fun z => absurd (V.int.inj (of_decide_eq_true z)) (by omega)) fun _ => q
def spTLen (K : PySem.W.Frag) (CT : Addr) : Sp := fun vs H Q _ => ∃ x b ear und, vs = [.ref x] ∧ TabAt K CT H x b ear und ∧ Q (.int (ear.length : Int)) H
theorem scTLen : FnScope ["self"] ["self"] (defScope s_Table_len) := ⟨rfl, rfl, rfl, by decide +kernel, rfl, by decide +kernel, by decide +kernel⟩
theorem k_t_len (F : HereM K CT "__len__" "Table.__len__" s_Table_len) (T : ClsT K mg "Table" CT fldsT) (B : Blt mg) : KeepsM P w K mg base CX0 1 CT "__len__" ["self"] (spTLen K CT) := by
  refine keepsM0 F scTLen (fun _ _ _ _ _ _ us hl => match us, hl with | [_], _ => rfl) (fun vs H Q E h => by obtain ⟨_, _, _, _, e, _⟩ := h; rw [e]; rfl) fun f cdv A outer s H vs Q E hr h => ?_
  obtain ⟨x, b, ear, und, rfl, ⟨dx, v, le, lu, vs, us, h1, h2, h3, h4, h5, h6⟩, q⟩ := h
  have n1 : NoAttr K CT "earlier" := T.nf _ (by decide)
  refine ⟨_, pss_one (ps_ret (pb (call_len_seqK K) B.len PySem.boot_len (pa1 (pe_fldK T.cl n1 (pv 0))))), ?_⟩
  have hl : vs.length = ear.length := by rw [AtAll.len h4.2, List.length_map]
  rw [← hl] at q
  exact ⟨_, rfl, x, dx, _, _, rfl, h1, rfl, le, vs, rfl, .inl (SqL.of h3), q⟩
end
end Sv

set_option maxHeartbeats 4000000
namespace Sv
open PySem PySem.Spec PyProof.Rows L2 L2H HotX LamX
theorem inV_nats (n : Nat) : ∀ l : List Nat, inV (.int (n : Int)) (l.map fun (k : Nat) => V.int k) = decide (n ∈ l)
  | [] => by simp [inV]
  | k :: l => by
    show (eqV (.int (k : Int)) (.int (n : Int)) || inV (.int (n : Int)) (l.map fun (k : Nat) => V.int k)) = _
    rw [inV_nats n l]
    show (((k : Int) == (n : Int)) || decide (n ∈ l)) = _
    by_cases h : n = k
    · subst h; simp
    · rw [beq_eq_false_iff_ne.mpr (fun z => h (by omega)), Bool.false_or]
      simp [h]
theorem flat_nats (l : List Nat) : (l.map fun (k : Nat) => V.int k).all flatV = true := by
  rw [List.all_map]; exact List.all_eq_true.mpr fun _ _ => rfl
theorem AtAll.takeT {K : PySem.W.Frag} {H : Hp} : ∀ (n : Nat) {vs : List V} {ds : List PyData}, AtAll K H vs ds → AtAll K H (vs.take n) (ds.take n)
  | 0, _, _, _ => AtAll.nil
  | n + 1, _, _, ⟨h, .nil⟩ => AtAll.nil
  | n + 1, _, _, ⟨h, .cons x t⟩ => by
    rw [plAll, Bool.and_eq_true] at h
    exact AtAll.cons ⟨h.1, x⟩ (AtAll.takeT n ⟨h.2, t⟩)
theorem eqv_nil (ds : List PyData) : PyData.eqv (.list ds) (.list []) = ds.isEmpty := by
  cases ds with
  | nil => rfl
  | cons d r => rfl
theorem bushesD_ok : ∀ l : List Bsh, PyData.canLayAll0 (l.map bushD) = true
  | [] => rfl
  | b :: l => by rw [List.map_cons, PyData.canLayAll0, canLay_pl _ (pl_bush b), bushesD_ok l]; rfl
theorem bushesD_depth : ∀ l : List Bsh, PyData.depthAll (l.map bushD) ≤ 2
  | [] => by decide
  | b :: l => by
    rw [List.map_cons, PyData.depthAll]
    have h1 := bushesD_depth l
    have h2 := depth_stems b
    have h3 : (bushD b).depth = PyData.depthAll (b.map stemD) + 1 := rfl
    omega
theorem shaped_bushes (l : List Bsh) : SeqAt.shaped (.list (l.map bushD)) = true := by
  unfold SeqAt.shaped
  have := bushesD_depth l
  rw [show PyData.canLay0 (.list (l.map bushD)) = PyData.canLayAll0 (l.map bushD) from rfl, bushesD_ok, show PyData.depth (.list (l.map bushD)) = PyData.depthAll (l.map bushD) + 1 from rfl, decide_eq_true (by omega)]
  rfl
theorem cutV_init (xs : List V) (v : V) : cutV (xs ++ [v]) none (some (-1)) = xs := by
  unfold cutV
  rw [HT.sIx_none, List.drop_zero, Nat.sub_zero]
  have e : HT.sIx (xs ++ [v]).length (xs ++ [v]).length (some (-1)) = xs.length := by
    show (if (-1 : Int) < 0 then ((-1 : Int) + ((xs ++ [v]).length : Int)).toNat else min (-1 : Int).toNat (xs ++ [v]).length) = xs.length
    rw [if_pos (by decide), List.length_append, List.length_singleton]
    omega
  rw [e]
  exact List.take_left ..
theorem snoc_of {α : Type} {l : List α} (h : l ≠ []) : ∃ i x, l = i ++ [x] := ⟨l.dropLast, l.getLast h, (List.dropLast_concat_getLast h).symm⟩
theorem AtAll.unsnoc {K : PySem.W.Frag} {H : Hp} {vs : List V} {ds : List PyData} {d : PyData} (h : AtAll K H vs (ds ++ [d])) : ∃ us u, vs = us ++ [u] ∧ AtAll K H us ds ∧ At K H u d := by
  have hl := AtAll.len h.2
  have hne : vs ≠ [] := fun z => by rw [z] at hl; simp at hl
  obtain ⟨us, u, rfl⟩ := snoc_of hne
  have hlen : us.length = ds.length := by rw [List.length_append, List.length_append] at hl; simpa using hl
  refine ⟨us, u, rfl, ?_, ?_⟩
  · have := AtAll.takeT us.length h
    rw [List.take_left, hlen, List.take_left] at this
    exact this
  · obtain ⟨d', e, hd⟩ := h.get (i := us.length) (v := u) (by rw [List.getElem?_append_right (Nat.le_refl _)]; simp)
    rw [hlen, List.getElem?_append_right (Nat.le_refl _)] at e
    simp at e
    rw [e]; exact hd
section
variable {P : Program} {w : World} {K : PySem.W.Frag} {mg : Str → Option Value} {base : Heap} {C : Nat → Addr} {CS CT : Addr}
def spTCut (K : PySem.W.Frag) (C : Nat → Addr) (CT : Addr) : Sp := fun vs H Q E => ∃ x v2 b ear und d2, vs = [.ref x, v2] ∧ TabAt K CT H x b ear und ∧ BushOk b ∧ ear.length ≤ 1000 ∧ Dp K H v2 d2 ∧ (whole d2 0 (b.length - 1) = false → ∀ H', Same H H' → E (.ref (C 1)) none H') ∧
  ∀ n : Nat, d2 = .int n → n < b.length → (n ∉ cutsB b (plc ear.length) → ∀ H', Same H H' → E (.ref (C 8)) none H') ∧ (n ∈ cutsB b (plc ear.length) → ∀ H' u, MvA x H H' → TabAt K CT H' x (withoutB b n) (ear ++ [b]) [] → At K H' u (bushD (withoutB b n)) → Q u H')
theorem scTCut : FnScope ["self", "number"] ["self", "number"] (defScope s_Table_cut) := ⟨rfl, rfl, rfl, by decide +kernel, rfl, by decide +kernel, by decide +kernel⟩
theorem k_t_cut (F : HereM K CT "cut" "Table.cut" s_Table_cut) (T : ClsT K mg "Table" CT fldsT) (O : ExcOne K mg "NotYours" (C 8)) (d_stem : Keeps' P w K mg base (L2N.CX P w) 2 "need_stem" ["bush", "number"] (spNeedStem K C)) (d_cuts : Keeps' P w K mg base CX0 1 "cuts_of" ["bush", "player"] (spCutsOf K))
    (d_player : KeepsM P w K mg base CX0 1 CT "player" ["self"] (spTPlayer K CT)) (d_without : Keeps' P w K mg base CX0 1 "without" ["bush", "number"] (spWithout K)) : KeepsM P w K mg base (L2N.CX P w) 3 CT "cut" ["self", "number"] (spTCut K C CT) := by
  refine keepsMN F scTCut (fun _ _ _ _ _ _ us hl => match us, hl with | [_, _], _ => rfl) (fun vs H Q E h => by obtain ⟨_, _, _, _, _, _, e, _⟩ := h; rw [e]; rfl) fun f cdv A outer s H vs Q E hr h => ?_
  obtain ⟨x, v2, b, ear, und, d2, rfl, hT, hb, hl, hd2, q1, q2⟩ := h
  obtain ⟨dx, v, le, lu, vs, us, h1, h2, h3, h4, h5, h6⟩ := id hT
  have n0 : NoAttr K CT "now" := T.nf _ (by decide)
  have n1 : NoAttr K CT "earlier" := T.nf _ (by decide)
  have n2 : NoAttr K CT "undone" := T.nf _ (by decide)
  refine ⟨_, pss_cons (ps_expr (pe_dX d_stem (hr.mono (by decide)) (by rfl) (L2N.takes_of rfl rfl rfl rfl) (fun _ _ _ _ h => h) (pa2 (pe_fldK T.cl n0 (pv 0)) (pv 1))))
    (pss_cons (ps_if (pt_cmpR (op_notIn_seqK K) (pv 1) (pe_d0 d_cuts (hr.mono (by decide)) (by rfl) (pa2 (pe_fldK T.cl n0 (pv 0)) (pe_m00 d_player T.cl (hr.mono (by decide)) (pv 0)))) (by rfl))
      (pss_one (ps_raiseN rfl O (by rfl) rfl rfl rfl rfl))
      (pss_nil))
    (pss_cons (ps_fldK T.cl n1 (pv 0) (pe_op op_catN (pe_fldK T.cl n1 (pv 0)) (pe_lstN (pa1 (pe_fldK T.cl n0 (pv 0))))))
    (pss_cons (ps_fldK T.cl n2 (pv 0) (pe_lstN pa_nil))
    (pss_cons (ps_fldK T.cl n0 (pv 0) (pe_d0 d_without (hr.mono (by decide)) (by rfl) (pa2 (pe_fldK T.cl n0 (pv 0)) (pv 1))))
    (pss_one (ps_ret (pe_fldK T.cl n0 (pv 0)))))))), ?_⟩
  refine ⟨_, rfl, x, dx, _, v, rfl, h1, rfl, _, rfl, v, v2, b.map stemD, d2, rfl, h2, hd2, fun g1 H1 s1 => ?_, fun g1 H1 s1 => q1 (by rw [List.length_map] at g1; exact g1) H1 s1⟩
  rw [List.length_map] at g1
  obtain ⟨i, rfl, i0, i1⟩ := whole_int g1
  obtain ⟨n, rfl⟩ : ∃ n : Nat, i = (n : Int) := ⟨i.toNat, by omega⟩
  cases hd2
  obtain ⟨q3, q4⟩ := q2 n rfl (by omega)
  refine ⟨_, rfl, _, rfl, x, dx, _, v, rfl, s1 _ _ h1, rfl, _, rfl, x, dx, _, rfl, s1 _ _ h1, tf_no _ _ _ (by decide), x, b, ear, und, rfl, hT.same s1, ?_⟩
  refine ⟨v, b, plc ear.length, rfl, h2.same s1, hb.lo, fun H2 p s2 np ep => ⟨p, _, rfl, .inl (SqL.of ep), rfl, flat_nats _, _, rfl, ?_⟩⟩
  have s12 := s1.trans s2
  show if (!inV (.int (n : Int)) ((cutsB b (plc ear.length)).map fun (k : Nat) => V.int k)) = true then _ else _
  rw [inV_nats]
  by_cases hn : n ∈ cutsB b (plc ear.length)
  · rw [decide_eq_true hn]
    have q5 := q4 hn
    have hx2 := s12 _ _ h1
    refine ⟨_, rfl, x, dx, _, _, rfl, hx2, rfl, _, rfl, x, dx, _, v, rfl, hx2, rfl, szl rfl, fun l H3 nl s3 el => ⟨le, l, vs, [v], rfl, rfl, s3 _ _ (s12 _ _ h3), el, ?_, fun l2 H4 nl2 s4 el2 => ?_⟩⟩
    · have := AtAll.len h4.2
      rw [List.length_map] at this
      rw [sizeLine_eq]; simp; omega
    have s14 := s12.trans (s3.trans s4)
    refine ⟨_, rfl, x, dx, _, rfl, s14 _ _ h1, (by show 3 < 1000; decide), ?_⟩
    rw [tf_ear]
    refine ⟨szl rfl, fun l3 H5 nl3 s5 el3 => ⟨_, rfl, x, dx, _, rfl, s5 _ _ upd_same, (by show 3 < 1000; decide), ?_⟩⟩
    rw [tf_und]
    have nx3 : x ≠ l3 := fun z => by rw [← z, upd_same] at nl3; cases nl3
    have nx2 : x ≠ l2 := fun z => by rw [← z, s3 _ _ hx2] at nl2; cases nl2
    have m5 : MvA x H H5 := ((MvA.of_same s14).trans mvA_upd).same s5
    have m6 := m5.trans (mvA_upd (o := .ins CT dx (tf v l2 l3)))
    have el2' : H5 l2 = some (.lst (vs ++ [v])) := s5 _ _ (by rw [upd_ne nx2.symm]; exact el2)
    refine ⟨_, rfl, x, dx, _, v, rfl, upd_same, rfl, _, rfl, v, b, n, rfl, h2.ext (m6.ins h1), hb.lo, fun H7 pw s7 npw hpw => ⟨_, rfl, x, dx, _, rfl, s7 _ _ upd_same, (by show 3 < 1000; decide), ?_⟩⟩
    rw [tf_now]
    have m8 := (m6.same s7).trans (mvA_upd (o := .ins CT dx (tf (.ref pw) l2 l3)))
    have x8 := m8.ins h1
    have hpw8 : At K (upd H7 x (.ins CT dx (tf (.ref pw) l2 l3))) (.ref pw) (bushD (withoutB b n)) := hpw.ext (mvA_upd.ins (s7 _ _ upd_same))
    refine ⟨_, rfl, x, dx, _, .ref pw, rfl, upd_same, rfl, q5 _ _ m8 ⟨dx, .ref pw, l2, l3, vs ++ [v], [], upd_same, hpw8, ?_, ?_, ?_, AtAll.nil⟩ hpw8⟩
    · rw [upd_ne nx2.symm]
      exact s7 _ _ (by rw [upd_ne nx2.symm]; exact el2')
    · rw [List.map_append]
      exact AtAll.snoc (h2.ext x8) (h4.ext x8)
    · rw [upd_ne nx3.symm]
      exact s7 _ _ (by rw [upd_ne nx3.symm]; exact el3)
  · rw [decide_eq_false hn]
    exact q3 hn H2 s12
def spTUndo (K : PySem.W.Frag) (C : Nat → Addr) (CT : Addr) : Sp := fun vs H Q E => ∃ x b ear und, vs = [.ref x] ∧ TabAt K CT H x b ear und ∧ und.length ≤ 1000 ∧ (ear = [] → ∀ H', Same H H' → E (.ref (C 9)) none H') ∧
  ∀ e l, ear = e ++ [l] → ∀ H' u, MvA x H H' → TabAt K CT H' x l e (und ++ [b]) → At K H' u (bushD l) → Q u H'
theorem scTUndo : FnScope ["self"] ["self"] (defScope s_Table_undo) := ⟨rfl, rfl, rfl, by decide +kernel, rfl, by decide +kernel, by decide +kernel⟩
theorem k_t_undo (F : HereM K CT "undo" "Table.undo" s_Table_undo) (T : ClsT K mg "Table" CT fldsT) (O : ExcOne K mg "NothingToUndo" (C 9)) : KeepsM P w K mg base (L2N.CX P w) 1 CT "undo" ["self"] (spTUndo K C CT) := by
  refine keepsMN F scTUndo (fun _ _ _ _ _ _ us hl => match us, hl with | [_], _ => rfl) (fun vs H Q E h => by obtain ⟨_, _, _, _, e, _⟩ := h; rw [e]; rfl) fun f cdv A outer s H vs Q E hr h => ?_
  obtain ⟨x, b, ear, und, rfl, hT, hl, q1, q2⟩ := h
  obtain ⟨dx, v, le, lu, vs, us, h1, h2, h3, h4, h5, h6⟩ := id hT
  have n0 : NoAttr K CT "now" := T.nf _ (by decide)
  have n1 : NoAttr K CT "earlier" := T.nf _ (by decide)
  have n2 : NoAttr K CT "undone" := T.nf _ (by decide)
  refine ⟨_, pss_cons (ps_if (pt_cmpR (op_eqDK K hr.units) (pe_fldK T.cl n1 (pv 0)) (pe_lstN pa_nil) (nomark _))
      (pss_one (ps_raiseN rfl O (by rfl) rfl rfl rfl rfl))
      (pss_nil))
    (pss_cons (ps_fldK T.cl n2 (pv 0) (pe_op op_catN (pe_fldK T.cl n2 (pv 0)) (pe_lstN (pa1 (pe_fldK T.cl n0 (pv 0))))))
    (pss_cons (ps_fldK T.cl n0 (pv 0) (pe_ix (ix_listK K) (pe_fldK T.cl n1 (pv 0)) (pe_un un_neg pe_int) (fun _ _ => rfl)))
    (pss_cons (ps_fldK T.cl n1 (pv 0) (pe_slice (sl_listK K) (pe_fldK T.cl n1 (pv 0)) po_none (po_some (pe_un un_neg pe_int))))
    (pss_one (ps_ret (pe_fldK T.cl n0 (pv 0))))))), ?_⟩
  refine ⟨_, rfl, x, dx, _, _, rfl, h1, rfl, szl rfl, fun e0 H1 ne0 s1 ee0 => ⟨.list (ear.map bushD), .list [], .lst (SqL.of (s1 _ _ h3)) (h4.ext (Same.ext s1)).2, .lst (SqL.of ee0) .nil, shaped_bushes ear, rfl, _, rfl, ?_⟩⟩
  rw [eqv_nil]
  by_cases hne : ear = []
  · rw [hne]
    exact q1 hne H1 s1
  · obtain ⟨ei, l, rfl⟩ := snoc_of hne
    rw [show ((ei ++ [l]).map bushD).isEmpty = false by rw [List.map_append]; cases (ei.map bushD) <;> rfl]
    have q3 := q2 ei l rfl
    rw [List.map_append] at h4
    obtain ⟨vs', vl, rfl, hvs', hvl⟩ := h4.unsnoc
    have hx1 := s1 _ _ h1
    refine ⟨_, rfl, x, dx, _, _, rfl, hx1, rfl, _, rfl, x, dx, _, v, rfl, hx1, rfl, szl rfl, fun l1 H2 nl1 s2 el1 => ⟨lu, l1, us, [v], rfl, rfl, s2 _ _ (s1 _ _ h5), el1, ?_, fun l2 H3 nl2 s3 el2 => ?_⟩⟩
    · have := AtAll.len h6.2
      rw [List.length_map] at this
      rw [sizeLine_eq]; simp; omega
    have s13 := s1.trans (s2.trans s3)
    refine ⟨_, rfl, x, dx, _, rfl, s13 _ _ h1, (by show 3 < 1000; decide), ?_⟩
    rw [tf_und]
    have nx2 : x ≠ l2 := fun z => by rw [← z, s2 _ _ hx1] at nl2; cases nl2
    have nxe : x ≠ le := ne_of h1 h3 fun z => nomatch z
    have ele : (upd H3 x (.ins CT dx (tf v le l2))) le = some (.lst (vs' ++ [vl])) := by rw [upd_ne nxe.symm]; exact s13 _ _ h3
    refine ⟨_, rfl, x, dx, _, _, rfl, upd_same, rfl, _, rfl, le, _, -1, vl, rfl, rfl, SqL.of ele, atI_last _ _, _, rfl, x, dx, _, rfl, upd_same, (by show 3 < 1000; decide), ?_⟩
    rw [upd_upd, tf_now]
    have ele2 : (upd H3 x (.ins CT dx (tf vl le l2))) le = some (.lst (vs' ++ [vl])) := by rw [upd_ne nxe.symm]; exact s13 _ _ h3
    refine ⟨_, rfl, x, dx, _, _, rfl, upd_same, rfl, _, rfl, -1, rfl, le, _, rfl, SqL.of ele2, fun l3 H4 nl3 s4 el3 => ?_⟩
    rw [cutV_init] at el3
    refine ⟨_, rfl, x, dx, _, rfl, s4 _ _ upd_same, (by show 3 < 1000; decide), ?_⟩
    rw [tf_ear]
    have nx3 : x ≠ l3 := fun z => by rw [← z, upd_same] at nl3; cases nl3
    have m := (((MvA.of_same s13).trans mvA_upd).same s4).trans (mvA_upd (o := .ins CT dx (tf vl l3 l2)))
    have x8 := m.ins h1
    refine ⟨_, rfl, x, dx, _, vl, rfl, upd_same, rfl, q3 _ _ m ⟨dx, vl, l3, l2, vs', us ++ [v], upd_same, hvl.ext x8, ?_, hvs'.ext x8, ?_, ?_⟩ (hvl.ext x8)⟩
    · rw [upd_ne nx3.symm]; exact el3
    · rw [upd_ne nx2.symm]; exact s4 _ _ (by rw [upd_ne nx2.symm]; exact el2)
    · rw [List.map_append]
      exact AtAll.snoc (h2.ext x8) (h6.ext x8)
def spTRedo (K : PySem.W.Frag) (C : Nat → Addr) (CT : Addr) : Sp := fun vs H Q E => ∃ x b ear und, vs = [.ref x] ∧ TabAt K CT H x b ear und ∧ ear.length ≤ 1000 ∧ (und = [] → ∀ H', Same H H' → E (.ref (C 9)) none H') ∧
  ∀ e l, und = e ++ [l] → ∀ H' u, MvA x H H' → TabAt K CT H' x l (ear ++ [b]) e → At K H' u (bushD l) → Q u H'
theorem scTRedo : FnScope ["self"] ["self"] (defScope s_Table_redo) := ⟨rfl, rfl, rfl, by decide +kernel, rfl, by decide +kernel, by decide +kernel⟩
theorem k_t_redo (F : HereM K CT "redo" "Table.redo" s_Table_redo) (T : ClsT K mg "Table" CT fldsT) (O : ExcOne K mg "NothingToUndo" (C 9)) : KeepsM P w K mg base (L2N.CX P w) 1 CT "redo" ["self"] (spTRedo K C CT) := by
  refine keepsMN F scTRedo (fun _ _ _ _ _ _ us hl => match us, hl with | [_], _ => rfl) (fun vs H Q E h => by obtain ⟨_, _, _, _, e, _⟩ := h; rw [e]; rfl) fun f cdv A outer s H vs Q E hr h => ?_
  obtain ⟨x, b, ear, und, rfl, hT, hl, q1, q2⟩ := h
  obtain ⟨dx, v, le, lu, vs, us, h1, h2, h3, h4, h5, h6⟩ := id hT
  have n0 : NoAttr K CT "now" := T.nf _ (by decide)
  have n1 : NoAttr K CT "earlier" := T.nf _ (by decide)
  have n2 : NoAttr K CT "undone" := T.nf _ (by decide)
  refine ⟨_, pss_cons (ps_if (pt_cmpR (op_eqDK K hr.units) (pe_fldK T.cl n2 (pv 0)) (pe_lstN pa_nil) (nomark _))
      (pss_one (ps_raiseN rfl O (by rfl) rfl rfl rfl rfl))
      (pss_nil))
    (pss_cons (ps_fldK T.cl n1 (pv 0) (pe_op op_catN (pe_fldK T.cl n1 (pv 0)) (pe_lstN (pa1 (pe_fldK T.cl n0 (pv 0))))))
    (pss_cons (ps_fldK T.cl n0 (pv 0) (pe_ix (ix_listK K) (pe_fldK T.cl n2 (pv 0)) (pe_un un_neg pe_int) (fun _ _ => rfl)))
    (pss_cons (ps_fldK T.cl n2 (pv 0) (pe_slice (sl_listK K) (pe_fldK T.cl n2 (pv 0)) po_none (po_some (pe_un un_neg pe_int))))
    (pss_one (ps_ret (pe_fldK T.cl n0 (pv 0))))))), ?_⟩
  refine ⟨_, rfl, x, dx, _, _, rfl, h1, rfl, szl rfl, fun e0 H1 ne0 s1 ee0 => ⟨.list (und.map bushD), .list [], .lst (SqL.of (s1 _ _ h5)) (h6.ext (Same.ext s1)).2, .lst (SqL.of ee0) .nil, shaped_bushes und, rfl, _, rfl, ?_⟩⟩
  rw [eqv_nil]
  by_cases hne : und = []
  · rw [hne]
    exact q1 hne H1 s1
  · obtain ⟨ei, l, rfl⟩ := snoc_of hne
    rw [show ((ei ++ [l]).map bushD).isEmpty = false by rw [List.map_append]; cases (ei.map bushD) <;> rfl]
    have q3 := q2 ei l rfl
    rw [List.map_append] at h6
    obtain ⟨us', vl, rfl, hvs', hvl⟩ := h6.unsnoc
    have hx1 := s1 _ _ h1
    refine ⟨_, rfl, x, dx, _, _, rfl, hx1, rfl, _, rfl, x, dx, _, v, rfl, hx1, rfl, szl rfl, fun l1 H2 nl1 s2 el1 => ⟨le, l1, vs, [v], rfl, rfl, s2 _ _ (s1 _ _ h3), el1, ?_, fun l2 H3 nl2 s3 el2 => ?_⟩⟩
    · have := AtAll.len h4.2
      rw [List.length_map] at this
      rw [sizeLine_eq]; simp; omega
    have s13 := s1.trans (s2.trans s3)
    refine ⟨_, rfl, x, dx, _, rfl, s13 _ _ h1, (by show 3 < 1000; decide), ?_⟩
    rw [tf_ear]
    have nx2 : x ≠ l2 := fun z => by rw [← z, s2 _ _ hx1] at nl2; cases nl2
    have nxe : x ≠ lu := ne_of h1 h5 fun z => nomatch z
    have ele : (upd H3 x (.ins CT dx (tf v l2 lu))) lu = some (.lst (us' ++ [vl])) := by rw [upd_ne nxe.symm]; exact s13 _ _ h5
    refine ⟨_, rfl, x, dx, _, _, rfl, upd_same, rfl, _, rfl, lu, _, -1, vl, rfl, rfl, SqL.of ele, atI_last _ _, _, rfl, x, dx, _, rfl, upd_same, (by show 3 < 1000; decide), ?_⟩
    rw [upd_upd, tf_now]
    have ele2 : (upd H3 x (.ins CT dx (tf vl l2 lu))) lu = some (.lst (us' ++ [vl])) := by rw [upd_ne nxe.symm]; exact s13 _ _ h5
    refine ⟨_, rfl, x, dx, _, _, rfl, upd_same, rfl, _, rfl, -1, rfl, lu, _, rfl, SqL.of ele2, fun l3 H4 nl3 s4 el3 => ?_⟩
    rw [cutV_init] at el3
    refine ⟨_, rfl, x, dx, _, rfl, s4 _ _ upd_same, (by show 3 < 1000; decide), ?_⟩
    rw [tf_und]
    have nx3 : x ≠ l3 := fun z => by rw [← z, upd_same] at nl3; cases nl3
    have m := (((MvA.of_same s13).trans mvA_upd).same s4).trans (mvA_upd (o := .ins CT dx (tf vl l2 l3)))
    have x8 := m.ins h1
    refine ⟨_, rfl, x, dx, _, vl, rfl, upd_same, rfl, q3 _ _ m ⟨dx, vl, l2, l3, vs ++ [v], us', upd_same, hvl.ext x8, ?_, ?_, ?_, hvs'.ext x8⟩ (hvl.ext x8)⟩
    · rw [upd_ne nx2.symm]; exact s4 _ _ (by rw [upd_ne nx2.symm]; exact el2)
    · rw [List.map_append]
      exact AtAll.snoc (h2.ext x8) (h4.ext x8)
    · rw [upd_ne nx3.symm]; exact el3
end
end Sv

set_option maxHeartbeats 4000000
namespace Sv
open PySem PySem.Spec PyProof.Rows L2 L2H HotX LamX
/-! ### bushes as texts, in plain words -/
def digC (i : Int) : Nat := if i < 0 then 45 else 48 + i.toNat
def wordL (s : Int × Col) : List Nat := [digC s.1, s.2.code]
def wordB (s : Int × Col) : Str := ⟨(wordL s).toArray⟩
def textB (b : Bsh) : Str := Txt.join " " (b.map wordB)
theorem word_eq {s : Int × Col} (h1 : -1 ≤ s.1) (h2 : s.1 ≤ 6) : ((if s.1 < 0 then ("-" : Str) else Str.ofString (toString s.1)) ++ s.2.s) = wordB s := by
  obtain ⟨i, c⟩ := s
  have : i = -1 ∨ i = 0 ∨ i = 1 ∨ i = 2 ∨ i = 3 ∨ i = 4 ∨ i = 5 ∨ i = 6 := by dsimp only at h1 h2; omega
  rcases this with rfl | rfl | rfl | rfl | rfl | rfl | rfl | rfl <;> cases c <;> decide +kernel
/-- read back -/
def colOf (c : Nat) : Option Col := if c = 119 then some .w else if c = 98 then some .b else if c = 103 then some .g else none
def digOf (a : Nat) : Option Int := if a = 45 then some (-1) else if 48 ≤ a ∧ a ≤ 54 then some ((a : Int) - 48) else none
def goL : List Nat → Option Bsh
  | [a, c] => match digOf a, colOf c with
    | some i, some k => some [(i, k)]
    | _, _ => none
  | a :: c :: 32 :: r => match digOf a, colOf c, goL r with
    | some i, some k, some b => some ((i, k) :: b)
    | _, _, _ => none
  | _ => none
def readL (l : List Nat) : Option Bsh := if l = [] then some [] else goL l
theorem colOf_code (c : Col) : colOf c.code = some c := by cases c <;> rfl
theorem digOf_dig {i : Int} (h1 : -1 ≤ i) (h2 : i ≤ 6) : digOf (digC i) = some i := by
  have : i = -1 ∨ i = 0 ∨ i = 1 ∨ i = 2 ∨ i = 3 ∨ i = 4 ∨ i = 5 ∨ i = 6 := by omega
  rcases this with rfl | rfl | rfl | rfl | rfl | rfl | rfl | rfl <;> decide
def Small (b : Bsh) : Prop := ∀ s ∈ b, -1 ≤ s.1 ∧ s.1 ≤ 6
theorem BushOk.small {b : Bsh} (h : BushOk b) : Small b := fun s hs => by
  obtain ⟨i, hi⟩ := List.mem_iff_getElem?.mp hs
  have h1 := h.low i s hi
  have h2 := h.len
  have h3 := (List.getElem?_eq_some_iff.mp hi).1
  omega
theorem goL_cons (a c : Nat) (r : List Nat) : goL (a :: c :: 32 :: r) = match digOf a, colOf c, goL r with
    | some i, some k, some b => some ((i, k) :: b)
    | _, _, _ => none := by rw [goL]
theorem goL_join : ∀ b : Bsh, b ≠ [] → Small b → goL (TL.joinL [32] (b.map wordL)) = some b
  | [], h, _ => absurd rfl h
  | [s], _, h => by
    have hs := h s (List.mem_singleton.mpr rfl)
    show goL [digC s.1, s.2.code] = _
    unfold goL
    rw [digOf_dig hs.1 hs.2, colOf_code]
  | s :: t :: r, _, h => by
    have hs := h s (List.mem_cons_self ..)
    have ih := goL_join (t :: r) (by simp) fun x hx => h x (List.mem_cons_of_mem _ hx)
    show goL (digC s.1 :: s.2.code :: 32 :: TL.joinL [32] ((t :: r).map wordL)) = _
    rw [goL_cons, digOf_dig hs.1 hs.2, colOf_code, ih]
theorem textB_tl (b : Bsh) : TL.tl (textB b) = TL.joinL [32] (b.map wordL) := by
  unfold textB
  rw [TL.join_eq, TL.tl_join, List.map_map]
  rfl
theorem readL_text {b : Bsh} (h : Small b) : readL (TL.tl (textB b)) = some b := by
  rw [textB_tl]
  unfold readL
  cases b with
  | nil => rfl
  | cons s r =>
    rw [if_neg, goL_join _ (by simp) h]
    cases r <;> simp [TL.joinL, wordL]
/-- no bush has this text -/
theorem not_text {z : Str} (h : (match readL (TL.tl z) with | some b => isBush (bushD b) | none => false) = false) (b : Bsh) (hb : BushOk b) : textB b ≠ z := fun e => by
  rw [← e, readL_text hb.small] at h
  have h : isBush (bushD b) = false := h
  rw [isBush_iff.mpr ⟨b, rfl, hb⟩] at h
  cases h
theorem textB_len (b : Bsh) : (textB b).length ≤ 3 * b.length := by
  have h : ∀ b : Bsh, (TL.joinL [32] (b.map wordL)).length ≤ 3 * b.length := by
    intro b
    induction b with
    | nil => simp [TL.joinL]
    | cons s r ih =>
      cases r with
      | nil => simp [TL.joinL, wordL]
      | cons t r =>
        show (wordL s ++ ([32] ++ TL.joinL [32] ((t :: r).map wordL))).length ≤ _
        rw [List.length_append, List.length_append]
        simp only [List.length_cons, wordL, List.length_nil] at ih ⊢
        omega
  have e := h b
  rw [← textB_tl] at e
  exact e
theorem words_sum (b : Bsh) : ((b.map wordB).map fun x => x.length).sum + (b.map wordB).length * (" " : Str).length = 3 * b.length := by
  have h2 : (" " : Str).length = 1 := rfl
  rw [h2, Nat.mul_one, List.length_map, List.map_map]
  induction b with
  | nil => rfl
  | cons s r ih =>
    rw [List.map_cons, List.sum_cons, List.length_cons]
    have h1 : ((fun x : Str => x.length) ∘ wordB) s = 2 := rfl
    rw [h1]
    omega
theorem join_split (z : Str) : Txt.join " " (Txt.split z " ") = z := by
  unfold Txt.split
  split
  · exact TL.join_eq _ _ 
  · split
    · exact TL.join_eq _ _
    · unfold Txt.join
      exact StrLaws.glued_between_self ..
theorem split_text {b : Bsh} (hne : b ≠ []) (h : Small b) : Txt.split (textB b) " " = b.map wordB := by
  refine TL.split_join (s := 32) (S := []) rfl (by decide +kernel) (fun z => hne (List.map_eq_nil_iff.mp z)) fun p hp => ?_
  obtain ⟨s, hs, rfl⟩ := List.mem_map.mp hp
  have h1 := h s hs
  show 32 ∉ [digC s.1, s.2.code]
  have h2 : 32 ≠ digC s.1 := by unfold digC; split <;> omega
  have h3 : 32 ≠ s.2.code := by cases s.2 <;> decide
  simp [h2, h3]
theorem joinL_len : ∀ L : List (List Nat), L.length ≤ (TL.joinL [32] L).length + 1 ∧ ∀ p ∈ L, p.length ≤ (TL.joinL [32] L).length
  | [] => ⟨by simp, fun p hp => by cases hp⟩
  | [p] => ⟨by simp, fun q hq => by rw [List.mem_singleton.mp hq]; exact Nat.le_refl _⟩
  | p :: q :: r => by
    obtain ⟨h1, h2⟩ := joinL_len (q :: r)
    have e : (TL.joinL [32] (p :: q :: r)).length = p.length + 1 + (TL.joinL [32] (q :: r)).length := by
      show (p ++ ([32] ++ TL.joinL [32] (q :: r))).length = _
      rw [List.length_append, List.length_append, List.length_singleton]; omega
    refine ⟨?_, fun x hx => ?_⟩
    · simp only [List.length_cons] at h1 ⊢; omega
    · rw [e]
      rcases List.mem_cons.mp hx with rfl | hx
      · omega
      · have := h2 x hx; omega
/-- what a word tells -/
def stemOf (z : Str) : Option (Int × Nat) := match TL.tl z with
  | [a, c] => (digOf a).map fun i => (i, c)
  | _ => none
theorem stemOf_word {s : Int × Col} (h1 : -1 ≤ s.1) (h2 : s.1 ≤ 6) : stemOf (wordB s) = some (s.1, s.2.code) := by
  show (digOf (digC s.1)).map (fun i => (i, s.2.code)) = _
  rw [digOf_dig h1 h2]; rfl
theorem digOf_inv {a : Nat} {i : Int} (h : digOf a = some i) : -1 ≤ i ∧ i ≤ 6 ∧ digC i = a := by
  unfold digOf at h
  split at h
  · cases h; rename_i e; subst e; decide
  · split at h
    · cases h
      rename_i _ e
      refine ⟨by omega, by omega, ?_⟩
      unfold digC
      rw [if_neg (by omega)]
      omega
    · cases h
theorem word_of_stem {z : Str} {i : Int} {c : Col} (h : stemOf z = some (i, c.code)) : wordB (i, c) = z := by
  unfold stemOf at h
  split at h
  · rename_i a k e
    rw [Option.map_eq_some_iff] at h
    obtain ⟨j, h1, h2⟩ := h
    cases h2
    obtain ⟨_, _, h3⟩ := digOf_inv h1
    show (⟨[digC i, c.code].toArray⟩ : Str) = z
    rw [h3, ← TL.mk_tl z, e]
  · cases h
section
variable {P : Program} {w : World} {K : PySem.W.Frag} {mg : Str → Option Value} {base : Heap} {C : Nat → Addr} {CS : Addr}
/-! ### stem_of -/
def spStemOf (K : PySem.W.Frag) (C : Nat → Addr) : Sp := fun vs H Q E => ∃ z : Str, vs = [.str z] ∧ z.length ≤ 1000 ∧ (stemOf z = none → ∀ H', Same H H' → E (.ref (C 5)) none H') ∧ ∀ i c, stemOf z = some (i, c) → ∀ H' p, Same H H' → H p = none → H' p = some (.tup [.int i, .str ⟨#[c]⟩]) → Q (.ref p) H'
theorem scStemOf : FnScope ["word"] ["word"] (defScope s_stem_of) := ⟨rfl, rfl, rfl, by decide +kernel, rfl, by decide +kernel, by decide +kernel⟩
theorem k_stem_of (F : Here K mg "stem_of" s_stem_of) (B : Blt mg) (O : ExcOne K mg "InvalidText" (C 5)) : Keeps' P w K mg base (L2N.CX P w) 1 "stem_of" ["word"] (spStemOf K C) := by
  refine keepsN F scStemOf (fun _ _ _ _ _ _ us hl => match us, hl with | [_], _ => rfl) (fun vs H Q E h => by obtain ⟨_, e, _⟩ := h; rw [e]; rfl) fun f cdv A outer s H vs Q E hr h => ?_
  obtain ⟨z, rfl, hz, q1, q2⟩ := h
  refine ⟨_, pss_cons (ps_if (PW.pt (pw_or (pt_cmpR op_ne (pb call_len_str B.len PySem.boot_len (pa1 (pv 0))) pe_int (nomark _)) (pw_or1 (pt_cmpR op_notin_str (pe_ix ix_str (pv 0) pe_int (fun _ _ => rfl)) pe_str (by rfl)))))
      (pss_one (ps_raiseN rfl O (by rfl) rfl rfl rfl rfl))
      (pss_nil))
    (pss_one (ps_ret (pe_tupN (pa2 (pe_ifExp (pt_cmpR op_eq (pe_ix ix_str (pv 0) pe_int (fun _ _ => rfl)) pe_str (nomark _)) (pe_un un_neg pe_int) (pbt call_int_str B.int boot_int (pa1 (pe_ix ix_str (pv 0) pe_int (fun _ _ => rfl))))) (pe_ix ix_str (pv 0) pe_int (fun _ _ => rfl)))))), ?_⟩
  have hzl : z.length = (TL.tl z).length := TL.len_tl z
  refine ⟨_, rfl, z, rfl, by rw [sizeLine_eq]; omega, rfl, _, rfl, ?_⟩
  by_cases h2 : z.length = 2
  · refine ite2 (fun y => ?_) fun _ => ?_
    · simp [h2] at y
    obtain ⟨a, c, hac⟩ : ∃ a c, TL.tl z = [a, c] := by
      rw [hzl] at h2
      match TL.tl z, h2 with
      | [a, c], _ => exact ⟨a, c, rfl⟩
    have hso : stemOf z = (digOf a).map fun i => (i, c) := by unfold stemOf; rw [hac]
    have hcp : z.cps.toList = [a, c] := hac
    refine ⟨_, rfl, z, 0, a, rfl, rfl, by rw [sizeLine_eq]; omega, by rw [hcp]; exact atI_nat (j := 0) rfl, _, _, rfl, rfl, _, rfl, ?_⟩
    rw [StrLaws.found_one]
    have hin : decide (a ∈ (Str.ofString "-0123456").cps.toList) = (digOf a).isSome := by
      show decide (a ∈ [45, 48, 49, 50, 51, 52, 53, 54]) = _
      unfold digOf
      by_cases h1 : a = 45
      · subst h1; rfl
      · rw [if_neg h1]
        by_cases h3 : 48 ≤ a ∧ a ≤ 54
        · rw [if_pos h3]
          have : a = 48 ∨ a = 49 ∨ a = 50 ∨ a = 51 ∨ a = 52 ∨ a = 53 ∨ a = 54 := by omega
          rcases this with rfl | rfl | rfl | rfl | rfl | rfl | rfl <;> decide
        · rw [if_neg h3]
          simp
          omega
    rw [hin]
    cases hd : digOf a with
    | none =>
      rw [hd] at hso
      exact q1 hso H (Same.refl H)
    | some i =>
      rw [hd] at hso
      have q3 := q2 i c hso
      have end_ : ∀ Hx, Same H Hx → tTupN (tCons (tC (.int i)) (tCons (tOp rIxS (tVar 0) (tC (.int 1))) tNil)) [some (.str z)] Hx Q := fun Hx sx => by
        refine ⟨_, rfl, z, 1, c, rfl, rfl, by rw [sizeLine_eq]; omega, by rw [hcp]; exact atI_nat (j := 1) rfl, szl rfl, fun p H1 np s1 e1 => ?_⟩
        exact q3 H1 p (sx.trans s1) (sx.free np) e1
      refine ⟨_, rfl, z, 0, a, rfl, rfl, by rw [sizeLine_eq]; omega, by rw [hcp]; exact atI_nat (j := 0) rfl, rfl, _, rfl, ?_⟩
      by_cases h1 : a = 45
      · subst h1
        have : i = -1 := by
          have : digOf 45 = some (-1) := rfl
          rw [this] at hd; cases hd; rfl
        subst this
        refine ite2 (fun _ => ?_) fun y => absurd (by decide) y
        exact ⟨_, rfl, end_ H (Same.refl H)⟩
      · refine ite2 (fun y => ?_) fun _ => ?_
        · have y := of_decide_eq_true y
          have y := congrArg (fun v => match v with | V.str x => x.cps.toList | _ => []) y
          have y : [a] = [45] := y
          exact absurd (List.cons.inj y).1 h1
        · obtain ⟨j1, j2, j3⟩ := digOf_inv hd
          have hi : intText? ⟨#[a]⟩ = some i := by
            rw [← j3]
            have j0 : 0 ≤ i := by
              rcases Int.lt_or_le i 0 with k | k
              · exfalso
                apply h1
                rw [← j3]
                unfold digC
                rw [if_pos k]
              · exact k
            have : i = 0 ∨ i = 1 ∨ i = 2 ∨ i = 3 ∨ i = 4 ∨ i = 5 ∨ i = 6 := by omega
            rcases this with rfl | rfl | rfl | rfl | rfl | rfl | rfl <;> decide +kernel
          exact ⟨_, rfl, z, 0, a, rfl, rfl, by rw [sizeLine_eq]; omega, by rw [hcp]; exact atI_nat (j := 0) rfl, _, i, rfl, hi, (show 1 ≤ 640 by decide), end_ H (Same.refl H)⟩
  · refine ite2 (fun _ => ?_) fun y => ?_
    · refine q1 ?_ H (Same.refl H)
      unfold stemOf
      rw [hzl] at h2
      match TL.tl z, h2 with
      | [], _ => rfl
      | [_], _ => rfl
      | _ :: _ :: _ :: _, _ => rfl
      | [_, _], h2 => exact absurd rfl h2
    · exfalso
      apply y
      have : ¬ V.int (z.length : Int) = V.int 2 := fun e => h2 (by have := V.int.inj e; omega)
      rw [decide_eq_false this]; rfl
/-! ### parse_bush -/
def rawD (s : Int × Nat) : PyData := .tuple [.int s.1, .str ⟨#[s.2]⟩]
theorem raw_stem (s : Int × Col) : rawD (s.1, s.2.code) = stemD s := by
  show PyData.tuple [.int s.1, .str ⟨#[s.2.code]⟩] = .tuple [.int s.1, .str s.2.s]
  rw [col_code]
theorem words_of {b : Bsh} {ws : List Str} {ss : List (Int × Nat)} (h1 : ws.map stemOf = ss.map some) (h2 : ss.map rawD = b.map stemD) : ws = b.map wordB := by
  have hl1 : ws.length = ss.length := by have := congrArg List.length h1; simpa using this
  have hl2 : ss.length = b.length := by have := congrArg List.length h2; simpa using this
  refine List.ext_getElem? fun i => ?_
  rw [List.getElem?_map]
  by_cases hi : i < b.length
  · have e1 : b[i]? = some b[i] := List.getElem?_eq_getElem hi
    have e2 : ss[i]? = some ss[i] := List.getElem?_eq_getElem (by omega)
    have e3 : ws[i]? = some ws[i] := List.getElem?_eq_getElem (by omega)
    have q1 : (ws.map stemOf)[i]? = (ss.map some)[i]? := by rw [h1]
    rw [List.getElem?_map, List.getElem?_map, e2, e3] at q1
    have q1 : stemOf ws[i] = some ss[i] := Option.some.inj q1
    have q2 : (ss.map rawD)[i]? = (b.map stemD)[i]? := by rw [h2]
    rw [List.getElem?_map, List.getElem?_map, e1, e2] at q2
    have q2 : rawD ss[i] = stemD b[i] := Option.some.inj q2
    have q3 : ss[i] = ((b[i]).1, (b[i]).2.code) := by
      have q4 := PyData.tuple.inj q2
      simp only [List.cons.injEq, and_true, PyData.int.injEq, PyData.str.injEq] at q4
      obtain ⟨q5, q6⟩ := q4
      rw [col_code] at q6
      have q7 : [ss[i].2] = [(b[i]).2.code] := congrArg (fun x : Str => x.cps.toList) q6
      exact Prod.ext q5 (List.cons.inj q7).1
    rw [q3] at q1
    rw [e1, e3]
    exact congrArg some (word_of_stem (c := (b[i]).2) q1).symm
  · rw [List.getElem?_eq_none (by omega), List.getElem?_eq_none (by omega)]; rfl
theorem stems_of {b : Bsh} (hb : Small b) : (b.map wordB).map stemOf = (b.map fun s => (s.1, s.2.code)).map some := by
  rw [List.map_map, List.map_map]
  refine List.map_congr_left fun s hs => ?_
  exact stemOf_word (hb s hs).1 (hb s hs).2
def spParse (K : PySem.W.Frag) (C : Nat → Addr) : Sp := fun vs H Q E => ∃ v d, vs = [v] ∧ Dp K H v d ∧ (∀ z, d = .str z → z.length ≤ 1000) ∧ ((∀ b z, d = .str z → BushOk b → textB b ≠ z) → ∀ H', Same H H' → E (.ref (C 5)) none H') ∧
  ∀ b z, d = .str z → BushOk b → textB b = z → ∀ H' p, Same H H' → H p = none → At K H' (.ref p) (bushD b) → Q (.ref p) H'
theorem scParse : FnScope ["text", "bush", "word"] ["text"] (defScope s_parse_bush) := ⟨rfl, rfl, rfl, by decide +kernel, rfl, by decide +kernel, by decide +kernel⟩
theorem k_parse (F : Here K mg "parse_bush" s_parse_bush) (B : Blt mg) (O : ExcOne K mg "InvalidText" (C 5)) (d_stem : Keeps' P w K mg base (L2N.CX P w) 1 "stem_of" ["word"] (spStemOf K C)) (d_bush : Keeps' P w K mg base CX0 3 "is_bush" ["value"] (spIsBush K)) : Keeps' P w K mg base (L2N.CX P w) 4 "parse_bush" ["text"] (spParse K C) := by
  refine keepsN F scParse (fun _ _ _ _ _ _ us hl => match us, hl with | [_], _ => rfl) (fun vs H Q E h => by obtain ⟨_, _, e, _⟩ := h; rw [e]; rfl) fun f cdv A outer s H vs Q E hr h => ?_
  obtain ⟨v, d, rfl, hd, hz, q1, q2⟩ := h
  refine ⟨_, pss_cons (ps_if (pt_not (pt_val (pb (call_isDK K) B.isinstance boot_isinstance (pa2 (pv 0) (pty B.str boot_str)))))
      (pss_one (ps_raiseN rfl O (by rfl) rfl rfl rfl rfl))
      (pss_nil))
    (pss_cons (st 1 scParse.nd (pe_ifExp (pt_cmpR op_ne (pv 0) pe_str (nomark _)) (pbt (call_tupleK K) B.tuple boot_tuple (pa1 (pe_lcX (own := [("word", 2)]) rfl rfl rfl rfl rfl scParse.nd (pi_listK K (pe_split (pv 0) pe_str)) (blkOk_by (own := [("word", 2)]) (N := ["text", "bush", "word"]) (sc := defScope s_parse_bush) (by decide +kernel)) (fun _ _ _ _ _ => pgn 2 scParse.nd) (fun _ _ _ _ _ => pts_nil) (fun _ _ _ _ _ => pe_dB d_stem (hr.mono (by decide)) (by rfl) (pa1 (pv 2)))))) (pe_tupN pa_nil)))
    (pss_cons (ps_if (pt_not (pt_val (pe_d0 d_bush (hr.mono (by decide)) (by rfl) (pa1 (pv 1)))))
      (pss_one (ps_raiseN rfl O (by rfl) rfl rfl rfl rfl))
      (pss_nil))
    (pss_one (ps_ret (pv 1))))), ?_⟩
  refine ⟨_, rfl, _, _, d, rfl, hd, .inr (.inr (.inl rfl)), _, rfl, ?_⟩
  cases hd with
  | non => exact q1 (fun b z e => nomatch e) _ (Same.refl H)
  | bl b => exact q1 (fun b z e => nomatch e) _ (Same.refl H)
  | int i => exact q1 (fun b z e => nomatch e) _ (Same.refl H)
  | lst _ _ => exact q1 (fun b z e => nomatch e) _ (Same.refl H)
  | tup _ _ => exact q1 (fun b z e => nomatch e) _ (Same.refl H)
  | str z =>
    have hz := hz z rfl
    have q1 : (∀ b, BushOk b → textB b ≠ z) → ∀ H', Same H H' → E (.ref (C 5)) none H' := fun h => q1 fun b y e hb => by cases e; exact h b hb
    have q2 : ∀ b, BushOk b → textB b = z → ∀ H' p, Same H H' → H p = none → At K H' (.ref p) (bushD b) → Q (.ref p) H' := fun b hb e => q2 b z rfl hb e
    refine iteF ⟨_, rfl, rfl, _, rfl, ?_⟩
    by_cases h0 : z = ""
    · subst h0
      refine ite2 (fun y => ?_) fun _ => ?_
      · simp at y
      refine ⟨szl rfl, fun p H1 np s1 e1 => ⟨_, rfl, .ref p, .tuple [], rfl, .tup (SqT.of e1) .nil, fun H2 s2 => ⟨_, rfl, ?_⟩⟩⟩
      refine iteF ⟨_, rfl, q2 [] ⟨by decide, fun i s z => by simp at z⟩ rfl H2 p (s1.trans s2) np ?_⟩
      exact At.tupO (s2 _ _ e1) AtAll.nil
    · refine ite2 (fun _ => ?_) fun y => ?_
      rotate_left
      · exfalso
        apply y
        rw [decide_eq_false (fun e => h0 (V.str.inj e))]; rfl
      generalize hws : Txt.split z " " = ws
      have hjoin : Txt.join " " ws = z := by rw [← hws]; exact join_split z
      have hsp : ∀ b, BushOk b → textB b = z → ws = b.map wordB := fun b hb e => by
        have hne : b ≠ [] := fun y => h0 (by rw [← e, y]; rfl)
        rw [← hws, ← e]
        exact split_text hne hb.small
      have hjl := joinL_len (ws.map TL.tl)
      have hjz : TL.joinL [32] (ws.map TL.tl) = TL.tl z := by rw [← hjoin, TL.join_eq, TL.tl_join]; rfl
      rw [hjz, ← TL.len_tl z, List.length_map] at hjl
      have hwl : ws.length ≤ 2000 := by omega
      have hwz : ∀ x ∈ ws, x.length ≤ 1000 := fun x hx => by
        have := hjl.2 (TL.tl x) (List.mem_map.mpr ⟨x, hx, rfl⟩)
        rw [TL.len_tl x]; omega
      refine ⟨_, rfl, ⟨_, rfl⟩, z, _, rfl, rfl, rfl, by rw [sizeLine_eq]; omega, fun l nl => ?_⟩
      rw [hws]
      have sl : Same H (upd H l (.lst (ws.map V.str))) := same_new nl
      refine ⟨l, rfl, ⟨_, SqL.of upd_same⟩, ?_⟩
      refine lc_J (walk_list (xs := ws.map V.str)) Same (fun D i ys H' => ∃ ss : List (Int × Nat), (ws.take i).map stemOf = ss.map some ∧ ys.length = ss.length ∧ ∀ (j : Nat) (y : V), ys[j]? = some y → ∃ (T : Addr) (s : Int × Nat), y = V.ref T ∧ ss[j]? = some s ∧ T ≠ D ∧ H' T = some (.tup [.int s.1, .str ⟨#[s.2]⟩])) (goes_same _) ?_ (fun H' t => SqL.of (t _ _ upd_same)) (fun _ _ => ⟨[], rfl, rfl, fun j y e => by simp at e⟩) ?_ ?_ ?_
      · rw [List.length_map, sizeLine_eq]; omega
      · rintro D i ys Ha Hb nD x k ⟨ss, e1, e2, e3⟩
        refine ⟨ss, e1, e2, fun j y hy => ?_⟩
        obtain ⟨T, s, e4, e5, e6, e7⟩ := e3 j y hy
        exact ⟨T, s, e4, e5, e6, k T _ e6 e7⟩
      · rintro D E' E0 i x ys Ha Ha' nD eD hi t ⟨ss, e1, e2, e3⟩ ⟨rfl, hx⟩ k1 k0
        rw [List.getElem?_map] at hx
        cases hj : ws[i]? with
        | none => rw [hj] at hx; cases hx
        | some wd =>
          rw [hj] at hx
          cases hx
          refine ⟨rfl, _, rfl, wd, rfl, hwz wd (List.mem_of_getElem? hj), fun hn Hb sb => ?_, fun n c hs Hb pT sb nT eT => ?_⟩
          · refine q1 (fun b hb e => ?_) Hb (sl.trans (t.trans sb))
            have hw := hsp b hb e
            have hst := stems_of hb.small
            rw [← hw] at hst
            have : (ws.map stemOf)[i]? = some none := by rw [List.getElem?_map, hj]; exact congrArg some hn
            rw [hst, List.getElem?_map] at this
            cases q : (b.map fun s => (s.1, s.2.code))[i]? with
            | none => rw [q] at this; cases this
            | some u => rw [q] at this; cases this
          · refine k1 _ Hb sb ⟨ss ++ [(n, c)], ?_, by rw [List.length_append, List.length_append, e2]; rfl, fun j y hy => ?_⟩
            · rw [List.take_add_one, hj, List.map_append, List.map_append, e1]
              show _ ++ [stemOf wd] = _
              rw [hs]; rfl
            · by_cases hjl : j < ys.length
              · rw [List.getElem?_append_left hjl] at hy
                obtain ⟨T, s, e4, e5, e6, e7⟩ := e3 j y hy
                exact ⟨T, s, e4, by rw [List.getElem?_append_left (by omega)]; exact e5, e6, sb _ _ e7⟩
              · rw [List.getElem?_append_right (by omega)] at hy
                have hj0 : j - ys.length = 0 := by
                  have := (List.getElem?_eq_some_iff.mp hy).1
                  simp at this
                  omega
                rw [hj0] at hy
                cases hy
                exact ⟨pT, (n, c), rfl, by rw [List.getElem?_append_right (by omega), ← e2, hj0]; rfl, (ne_of_none eD nT).symm, eT⟩
      · rintro D Ha ys nD t eD _ ⟨ss, e1, e2, e3⟩
        rw [List.length_map, List.take_length] at e1
        refine ⟨D, ys, rfl, SqL.of eD, fun p Hb np sb eb => ?_⟩
        have sA := sl.trans (t.trans sb)
        have hdp : DpAll K Hb ys (ss.map rawD) := by
          have key : ∀ (ys : List V) (ss : List (Int × Nat)), ys.length = ss.length → (∀ (j : Nat) (y : V), ys[j]? = some y → ∃ (T : Addr) (s : Int × Nat), y = V.ref T ∧ ss[j]? = some s ∧ T ≠ D ∧ Ha T = some (.tup [.int s.1, .str ⟨#[s.2]⟩])) → DpAll K Hb ys (ss.map rawD) := by
            intro ys
            induction ys with
            | nil =>
              intro ss hl _
              cases ss with
              | nil => exact .nil
              | cons _ _ => simp at hl
            | cons y r ih =>
              intro ss hl h
              cases ss with
              | nil => simp at hl
              | cons s r2 =>
                obtain ⟨T, s', e4, e5, _, e7⟩ := h 0 y rfl
                cases e5
                subst e4
                refine .cons (.tup (SqT.of (sb _ _ e7)) (.cons (.int _) (.cons (.str _) .nil))) (ih r2 (by simpa using hl) fun j y hy => ?_)
                exact h (j + 1) y hy
          exact key ys ss e2 e3
        refine ⟨_, rfl, .ref p, .tuple (ss.map rawD), rfl, .tup (SqT.of eb) hdp, fun Hc sc => ⟨_, rfl, ?_⟩⟩
        cases hib : isBush (.tuple (ss.map rawD)) with
        | false =>
          refine q1 (fun b hb e => ?_) Hc (sA.trans sc)
          have hw := hsp b hb e
          have hst := stems_of hb.small
          rw [← hw, e1] at hst
          have hss : ss = b.map fun s => (s.1, s.2.code) := (List.map_inj_right (fun _ _ h => Option.some.inj h)).mp hst
          have : ss.map rawD = b.map stemD := by
            rw [hss, List.map_map]
            exact List.map_congr_left fun s _ => raw_stem s
          rw [this] at hib
          have hib : isBush (bushD b) = false := hib
          rw [isBush_iff.mpr ⟨b, rfl, hb⟩] at hib
          cases hib
        | true =>
          obtain ⟨b, e, hb⟩ := isBush_iff.mp hib
          have e' : ss.map rawD = b.map stemD := PyData.tuple.inj e
          have hw := words_of e1 e'
          refine ⟨_, rfl, q2 b hb ?_ Hc p (sA.trans sc) ((sl.trans t).free np) ?_⟩
          · show Txt.join " " (b.map wordB) = z
            rw [← hw]; exact hjoin
          · refine ⟨pl_bush b, ?_⟩
            rw [← e]
            exact dp_same sc _ _ (.tup (SqT.of eb) hdp)
end
end Sv

set_option maxHeartbeats 4000000
namespace Sv
open PySem PySem.Spec PyProof.Rows L2 L2H HotX LamX
/-! ### a letter so many times -/
theorem rep_foldl (k : Nat) : ∀ (n : Nat) (acc : Array Nat), ((List.replicate n #[k]).foldl (· ++ ·) acc).toList = acc.toList ++ List.replicate n k
  | 0, acc => by simp
  | n + 1, acc => by
    rw [List.replicate_succ, List.foldl_cons, rep_foldl k n, List.replicate_succ]
    simp
theorem repS_col (c : Col) (n : Nat) : repS c.s n = colStr (List.replicate n c) := by
  unfold repS colStr
  rw [col_code]
  congr 1
  apply Array.toList_inj.mp
  rw [rep_foldl]
  simp
section
variable {X : Cx}
theorem op_mul_col : OpR X (binaryOp .Mult) (fun x y H Q => ∃ (c : Col) (n : Nat), x = .str c.s ∧ y = .int (n : Int) ∧ n ≤ 1000 ∧ Q (.str (colStr (List.replicate n c))) H) := by
  intro pins s σ H x y v u Q I rx ry h
  obtain ⟨c, n, rfl, rfl, h3, q⟩ := h
  obtain ⟨t, rfl⟩ := rx
  obtain ⟨t', rfl⟩ := ry
  have hl : c.s.length = 1 := by cases c <;> rfl
  refine P.mul_str ?_ (fun _ _ => ?_) (fun _ _ => ?_) ?_
  · rw [decide_eq_false (show ¬ (n : Int) < -(2 ^ 63) by omega), decide_eq_false (show ¬ (n : Int) ≥ 2 ^ 63 by omega)]; rfl
  · rename_i h1 _
    rw [hl]
    have h7 : (1 : Int) ≤ (2 ^ 63 - 1) / n := by
      rw [Int.le_ediv_iff_mul_le (by omega)]
      omega
    omega
  · rw [hl]
    exact decide_eq_false (by rw [sizeLine_eq]; omega)
  · by_cases h1 : (n : Int) < 1
    · rw [if_pos h1]
      have : n = 0 := by omega
      subst this
      exact ⟨by decide, ⟨.str (colStr []), H, I.tok _, ⟨_, rfl⟩, q⟩⟩
    · rw [if_neg h1]
      by_cases h2 : ((n : Int) == 1 || c.s.length == 0) = true
      · rw [if_pos h2]
        have : n = 1 := by
          rw [hl] at h2
          simp at h2
          omega
        subst this
        refine ⟨.str c.s, H, I, ⟨_, rfl⟩, ?_⟩
        have e : colStr (List.replicate 1 c) = c.s := by rw [col_code]; rfl
        rw [e] at q
        exact q
      · rw [if_neg h2]
        refine ⟨?_, ⟨.str (repS c.s n), H, I.tok _, ⟨_, rfl⟩, by rw [repS_col]; exact q⟩⟩
        show (repS c.s n).length ≤ sizeLine
        rw [repS_len, hl, sizeLine_eq]; omega
end
end Sv

set_option maxHeartbeats 4000000
namespace Sv
open PySem PySem.Spec PyProof.Rows L2 L2H HotX LamX
/-! ### try: .. except X as e: return e: the exception is kept -/
/-- the object of an exception -/
def ExcH (cls : Value) (d : Option Addr) (a : Addr) : HO := .ext fun h => ∃ o vs, h.get? a = some o ∧ o.cls = cls ∧ o.dict = d ∧ o.data = .fields vs
section
variable {X : Cx} {pins : List (Addr × Obj)} {σ : L2.St} {H : Hp} {s : Shared}
/-- what was pinned is tracked from now on -/
theorem adopt {a : Addr} {oe : Obj} {cls : Value} {d : Option Addr} {vs : Array Value} (I : Inv X ((a, oe) :: pins) σ H s) (h0 : X.s_0.heap.get? a = none) (hp : ∀ p ∈ X.pn ++ pins, p.1 ≠ a) (hc : oe.cls = cls) (hdi : oe.dict = d) (hd : oe.data = .fields vs) :
    Inv X pins σ (upd H a (ExcH cls d a)) s := by
  obtain ⟨ha, nH, nL, nF, nC⟩ := I.pin (a, oe) (List.mem_append_right _ List.mem_cons_self)
  refine ⟨I.ok, I.os, I.bare, ⟨I.base.keep, I.base.slot, fun b o e n hx => ?_, I.base.there, fun b xs e => ?_, fun b o u e => ?_, fun b ps e => ?_⟩, I.loc, I.cell, ?_, fun y c e => ?_, fun p hp' => ?_, fun b o e => ?_, I.len⟩
  · rw [upd_ne (fun z => by rw [z, h0] at e; cases e)]
    exact I.base.free b o e n hx
  · have q := I.base.tups b xs e
    rw [upd_ne (ne_of_none q nH)]; exact q
  · have q := I.base.frzs b o u e
    rw [upd_ne (ne_of_none q nH)]; exact q
  · obtain ⟨more, q⟩ := I.base.tbls b ps e
    exact ⟨more, by rw [upd_ne (ne_of_none q nH)]; exact q⟩
  · rw [upd_ne (Ne.symm nL)]; exact I.free
  · have q := I.freeC y c e
    rw [upd_ne (fun z => ?_)]
    · exact q
    · obtain ⟨v, hv⟩ := I.cell y c e
      rw [z] at hv
      obtain ⟨o, ho, hdc⟩ := hv
      rw [ha] at ho
      cases ho
      exact nC v hdc
  · obtain ⟨p1, p2, p3⟩ := I.pin p (by
      rcases List.mem_append.mp hp' with z | z
      · exact List.mem_append_left _ z
      · exact List.mem_append_right _ (List.mem_cons_of_mem _ z))
    exact ⟨p1, by rw [upd_ne (hp p hp')]; exact p2, p3⟩
  · by_cases hb : b = a
    · subst hb
      rw [upd_same] at e
      cases e
      exact ⟨⟨oe, vs, ha, hc, hdi, hd⟩, ⟨oe, ha⟩, fun h1 h2 ⟨o, us, g, r⟩ k => ⟨o, us, k o g, r⟩⟩
    · rw [upd_ne hb] at e
      exact (I.hok b o e).stay (fun c v _ q => q) (fun c q => by rw [upd_ne (ne_of_none q nH)]; exact q) fun c xs q => by rw [upd_ne (ne_of_none q nH)]; exact q
end
/-- what is wanted where an exception of the class cls comes: it is one of c's -/
def wKeep (K : PySem.W.Frag) (c : Value) (D : L2.Ends) : WX := fun cls d _ H => PySem.W.exmOne K cls c = some true ∧ ∀ a, H a = none → D.rt (.ref a) (upd H a (ExcH cls d a))
section
variable {X : Cx} {pins : List (Addr × Obj)} {σ : L2.St} {H : Hp} {s : Shared}
theorem Inv.unhold {a : Addr} {q : Addr × Obj} (I : Inv (X.suite a (q :: (X.pn ++ pins))) [] σ H s) (ok : X.Ok) : Inv X (q :: pins) σ H s :=
  ⟨ok, I.os, I.bare, I.base, I.loc, I.cell, I.free, I.freeC, fun p hp => I.pin p (by
    rw [List.append_nil]
    rcases List.mem_append.mp hp with z | z
    · exact List.mem_cons_of_mem _ (List.mem_append_left _ z)
    · rcases List.mem_cons.mp z with z | z
      · rw [z]; exact List.mem_cons_self
      · exact List.mem_cons_of_mem _ (List.mem_append_right _ z)), I.hok, I.len⟩
theorem ps_try_keep {x n : Str} {c : Value} {i : Nat} {body : List Stmt} {np nq pos pos' pr : Pos} {tb : WX → TS} (stk : X.stack = X.env :: X.outer) (frm : X.env.frame = some X.env.locals) (noex : X.ex = []) (nd : X.N.Nodup) (at_i : X.N[i]? = some n) (loc : X.env.kindOf n = some .local)
    (cl : L2.Names X x c) (hb : ∀ (W : WX) (pn : List (Addr × Obj)) (xe : Value → Shared → Prop), L2N.Takes (X.tr pn xe) W → PSs (X.tr pn xe) body (tb W))
    (nd1 : (n == ("__debug__" : Str)) = false := by decide) (nd2 : (n == ("__classdict__" : Str)) = false := by decide) :
    PS X (.Try body [.ExceptHandler (some (.Name x np)) (some n) [.Return (some (.Name n nq)) pr] pos'] [] [] pos) (fun D σ H => tb (wKeep X.K c D) D σ H) := by
  refine ⟨fun pins s σ H D I0 h0 => ?_⟩
  have good := I0.ok
  have frames : X.A.frames = some (X.env :: X.outer) := by rw [good.frames, stk]
  refine wpAny_Try_except (wpAny_mono ((hb (wKeep X.K c D) (X.pn ++ pins) _ (fun u t air => ?_)).run [] s σ H D (I0.toTry _) h0) (fun fl t done => ?_) fun _ _ z => z)
  · -- it is caught
    obtain ⟨a, G, t0, _, σ1, H1, cls, d, rfl, J1, gnd, up1, sky, na, os1, ag1, eb, yes⟩ := air
    have J : Inv X pins σ1 H1 t0 := J1.ofTry good
    have sky1 : Sky G (X.env :: X.outer) a (L2N.Zn cls d) X.env.locals t.heap := by rw [← stk]; exact sky
    show wpAny (model X.prog X.w) X.A (noteFrame (.ref a) X.env) _ _ _
    refine L2N.Sky.land L2N.Zn.steady frames frm sky1 fun g fly up2 => ?_
    have K3 : Inv X pins σ1 H1 { t with heap := g } := J.landed gnd fly.1 (up1.trans up2) os1 ag1
    obtain ⟨o3, v3, at3, z3, f3⟩ := fly.there
    have off : a ∉ frs (X.env :: X.outer) := fun m => by
      obtain ⟨_, o', at', nf⟩ := fly.2.2.1.mem m
      rw [at3] at at'
      cases at'
      exact nf _ f3
    have offL : a ≠ X.env.locals := fun z => off (List.mem_filterMap.mpr ⟨X.env, List.mem_cons_self, by rw [frm, z]⟩)
    have offF : a ∉ X.fs := fun m => by
      obtain ⟨e, me, q⟩ := List.mem_filterMap.mp m
      exact off (List.mem_filterMap.mpr ⟨e, List.mem_cons_of_mem _ me, q⟩)
    have fresh : ∀ o, t0.heap.get? a ≠ some o := fun o z => by
      have := gnd a o z (by rw [stk]; exact off)
      rw [fly.2.1] at this
      cases this
    have T3 := K3.suite at3 f3 na offL offF
    refine wpAny_handleBy_cons (codeAny_handlers_test ?_) (fun q => by cases q)
    have typ : PySem.W.Looks (model X.prog X.w) g (typeOf (.ref a)) cls := fun _ _ _ _ k q => wpAny_typeOf_ref (k _ _ at3) (by rw [z3.1]; exact q)
    have mat := PySem.W.exm_one (M := model X.prog X.w) K3.kIn typ eb
    have name : ∀ {Q : Value → Shared → Prop} {E : Value → Shared → Prop}, Q c { t with heap := g } → wpAny (model X.prog X.w) (X.A.mark (some (.ref a))) (eval (.Name x np) X.env) Q E { t with heap := g } := fun {Q E} q => by
      obtain ⟨gl, db, m | ⟨m, v, nn⟩⟩ := cl
      · exact ld_glob (X := X.suite a ((a, o3) :: (X.pn ++ pins))) T3 gl m q db
      · exact ld_blt (X := X.suite a ((a, o3) :: (X.pn ++ pins))) T3 gl m v q nn db
    refine name (mat.here (codeAny_handlers_suite_as (HandSPX.lands_againZ fly fun g4 fly4 up4 => ?_)))
    have K4 : Inv X pins σ1 H1 { t with heap := g4 } := J.landed gnd fly4.1 ((up1.trans up2).trans up4) os1 ag1
    obtain ⟨o4, v4, at4, z4, f4⟩ := fly4.there
    have T4 := K4.suite at4 f4 na offL offF
    have own : Loc X.env.scope n := .inl loc
    refine store_ok (X := X.suite a ((a, o4) :: (X.pn ++ pins))) (v := .ref a) T4 nd at_i own rfl (fun t5 T5 => ?_) (.inr loc)
    refine wpAny_mono ((pss_one (ps_ret (pe_var (X := X.suite a ((a, o4) :: (X.pn ++ pins))) (i := i) (pos := nq) at_i (.inl loc) nd1 nd2))).run [] t5 _ H1 { nx := fun _ _ => False, rt := fun v H' => v = .ref a ∧ H' = H1 } T5 ?_) (fun fl t6 done => ?_) (fun _ _ z => z.elim)
    · exact ⟨.ref a, List.getElem?_set_self (by rw [K4.len]; exact (List.getElem?_eq_some_iff.mp at_i).1), rfl, rfl⟩
    · cases fl with
      | next => obtain ⟨_, _, _, z⟩ := done; exact z.elim
      | brk => obtain ⟨_, _, _, z⟩ := done; exact z.elim
      | cont => obtain ⟨_, _, _, z⟩ := done; exact z.elim
      | ret u =>
        obtain ⟨v6, σ6, H6, T6, r6, rfl, rfl⟩ := done
        refine gone_ok (Inv.unhold T6 good) nd at_i loc fun t7 J7 => ?_
        refine ⟨.ref a, _, _, adopt J7 ?_ (fun p m z => ?_) z4.1 z4.2.1 f4, r6, yes a na⟩
        · cases q : X.s_0.heap.get? a with
          | none => rfl
          | some o =>
            obtain ⟨o', e'⟩ := J.base.there a o q (by rw [noex]; exact fun z => nomatch z)
            exact absurd e' (fresh o')
        · have := (J.pin p m).1
          rw [z] at this
          exact fresh _ this
  · cases fl with
    | next =>
      obtain ⟨σ', H', J', q⟩ := done
      exact wpAny_execs_nil ⟨σ', H', J'.ofTry good, q⟩
    | brk => obtain ⟨σ', H', J', q⟩ := done; exact ⟨σ', H', J'.ofTry good, q⟩
    | cont => obtain ⟨σ', H', J', q⟩ := done; exact ⟨σ', H', J'.ofTry good, q⟩
    | ret u => obtain ⟨v, σ', H', J', r, q⟩ := done; exact ⟨v, σ', H', J'.ofTry good, r, q⟩
end
end Sv

set_option maxHeartbeats 8000000
namespace Sv
open PySem PySem.Spec PyProof.Rows L2 L2H HotX LamX
/-- isinstance(e, c), e an exception that is kept -/
def rIsT (K : PySem.W.Frag) : List V → Hp → VK → Prop := fun xs H Q => ∃ (a D : Addr) (c : V) (cv : Value) (b : Bool), xs = [.ref a, c] ∧ H a = some (ExcH (.ref D) none a) ∧ ExcC K D ∧ (∀ u, RelV c u → u = cv) ∧ PySem.W.kitOne K (.ref D) cv = some b ∧ Q (.bl b) H
theorem call_isT {X : Cx} : CallR X (.builtin "isinstance") (rIsT X.K) := by
  intro pins s σ H xs us Q I r h
  obtain ⟨a, D, c, cv, b, rfl, hH, C, hcv, e, q⟩ := h
  cases r with
  | cons rx rr =>
    cases rr with
    | cons rt rr =>
      cases rr
      cases rx
      have ec := hcv _ rt
      subst ec
      obtain ⟨⟨oe, vs, hget, h1, h2, hv⟩, _⟩ := I.hok a _ hH
      have J : PySem.W.InstAt s.heap a oe D none := by
        obtain ⟨oc, od, oda, osl⟩ := oe
        dsimp only at h1 h2 hv
        subst h1 h2 hv
        exact ⟨hget, rfl, rfl, trivial⟩
      exact PySem.W.kia_one (PySem.W.handS_kitx_exc C.hg C.hk C.hs C.hd C.ha C.hn C.ht C.hm) I.kIn J e (fun z => nomatch z) fun tk => ⟨.bl b, H, I.kept (t' := tk) fun _ _ z => z, rfl, q⟩
section
variable {P : Program} {w : World} {K : PySem.W.Frag} {mg : Str → Option Value} {base : Heap} {C : Nat → Addr} {CS : Addr}
theorem dpAll_bls {H : Hp} : ∀ bs : List Bool, DpAll K H (bs.map V.bl) (bs.map PyData.bool)
  | [] => .nil
  | b :: bs => .cons (.bl b) (dpAll_bls bs)
/-! ### _law_alone -/
def spAlone (C : Nat → Addr) : Sp := fun vs H Q _ => ∃ (a : Addr) (i : Nat), vs = [.ref a, .int (i : Int)] ∧ i < 10 ∧ H a = some (ExcH (.ref (C i)) none a) ∧ ∀ H', Same H H' → Q (.bl true) H'
theorem scAlone : FnScope ["e", "own", "some", "at"] ["e", "own"] (defScope s_law_alone) := ⟨rfl, rfl, rfl, by decide +kernel, rfl, by decide +kernel, by decide +kernel⟩
theorem shaped_flags (i : Nat) : SeqAt.shaped (.list ((flagsOf i).map PyData.bool)) = true := by
  have h1 : ∀ bs : List Bool, PyData.canLayAll0 (bs.map PyData.bool) = true := fun bs => by
    induction bs with
    | nil => rfl
    | cons b bs ih => show (true && _) = true; rw [ih]; rfl
  have h2 : ∀ bs : List Bool, PyData.depthAll (bs.map PyData.bool) = 0 := fun bs => by
    induction bs with
    | nil => rfl
    | cons b bs ih => show max 0 _ = 0; rw [ih]; rfl
  unfold SeqAt.shaped
  rw [show PyData.canLay0 (.list ((flagsOf i).map PyData.bool)) = PyData.canLayAll0 ((flagsOf i).map PyData.bool) from rfl, h1, show PyData.depth (.list ((flagsOf i).map PyData.bool)) = PyData.depthAll ((flagsOf i).map PyData.bool) + 1 from rfl, h2]
  rfl
theorem k_alone (F : Here K mg "_law_alone" s_law_alone) (B : Blt mg) (X : Excs K mg C CS) : Keeps' P w K mg base CX0 1 "_law_alone" ["e", "own"] (spAlone C) := by
  refine keeps0 F scAlone (fun _ _ _ _ _ _ us hl => match us, hl with | [_, _], _ => rfl) (fun vs H Q E h => by obtain ⟨_, _, e, _⟩ := h; rw [e]; rfl) fun f cdv A outer s H vs Q E hr h => ?_
  obtain ⟨a, i, rfl, hi, hH, q⟩ := h
  have g : ∀ j x, excNames[j]? = some x → mg x = some (.ref (C j)) := fun j x hx => (X.one j x hx).g
  refine ⟨_, pss_cons (st 2 scAlone.nd (pe_lstN (pa3 (pb call_isT B.isinstance boot_isinstance (pa2 (pv 0) (pgl (g 0 _ rfl)))) (pb call_isT B.isinstance boot_isinstance (pa2 (pv 0) (pgl (g 1 _ rfl)))) (pb call_isT B.isinstance boot_isinstance (pa2 (pv 0) (pgl (g 2 _ rfl)))))))
    (pss_cons (st 2 scAlone.nd (pe_op op_catN (pv 2) (pe_lstN (pa3 (pb call_isT B.isinstance boot_isinstance (pa2 (pv 0) (pgl (g 3 _ rfl)))) (pb call_isT B.isinstance boot_isinstance (pa2 (pv 0) (pgl (g 4 _ rfl)))) (pb call_isT B.isinstance boot_isinstance (pa2 (pv 0) (pgl (g 5 _ rfl))))))))
    (pss_cons (st 2 scAlone.nd (pe_op op_catN (pv 2) (pe_lstN (pa3 (pb call_isT B.isinstance boot_isinstance (pa2 (pv 0) (pgl (g 6 _ rfl)))) (pb call_isT B.isinstance boot_isinstance (pa2 (pv 0) (pgl (g 7 _ rfl)))) (pb call_isT B.isinstance boot_isinstance (pa2 (pv 0) (pgl (g 8 _ rfl))))))))
    (pss_cons (st 2 scAlone.nd (pe_op op_catN (pv 2) (pe_lstN (pa1 (pb call_isT B.isinstance boot_isinstance (pa2 (pv 0) (pgl (g 9 _ rfl))))))))
    (pss_one (ps_ret (pe_and (pb call_isT B.isinstance boot_isinstance (pa2 (pv 0) (pty (n := "ValueError") B.ve (by decide +kernel)))) (pe_one (pe_cmpR (op_eqDK K hr.units) (pv 2) (pe_lc (own := [("at", 3)]) rfl scAlone.nd (pi_range1 (by rfl) B.range (pa1 pe_int)) (blkOk_by (own := [("at", 3)]) (N := ["e", "own", "some", "at"]) (sc := defScope s_law_alone) (by decide +kernel)) (fun _ _ _ _ _ => pgn 3 scAlone.nd) (fun _ _ _ _ _ => pts_nil) (fun _ _ _ _ _ => pe_cmpR op_eq (pv 3) (pv 1) (nomark _))) (nomark _))))))))), ?_⟩
  have cl := X.cls i hi
  refine ⟨_, rfl, a, C i, _, _, _, rfl, hH, cl, fun _ r => r, X.apart i 0 hi (by decide), _, rfl, a, C i, _, _, _, rfl, hH, cl, fun _ r => r, X.apart i 1 hi (by decide), _, rfl, a, C i, _, _, _, rfl, hH, cl, fun _ r => r, X.apart i 2 hi (by decide), szl rfl, fun l1 H1 n1 s1 e1 => ?_⟩
  have h1 := s1 _ _ hH
  refine ⟨_, rfl, _, rfl, a, C i, _, _, _, rfl, h1, cl, fun _ r => r, X.apart i 3 hi (by decide), _, rfl, a, C i, _, _, _, rfl, h1, cl, fun _ r => r, X.apart i 4 hi (by decide), _, rfl, a, C i, _, _, _, rfl, h1, cl, fun _ r => r, X.apart i 5 hi (by decide), szl rfl, fun m2 H2 k2 s2 f2 => ?_⟩
  refine ⟨l1, m2, _, _, rfl, rfl, s2 _ _ e1, f2, szl rfl, fun l2 H3 n2 s3 e2 => ?_⟩
  have h3 := s3 _ _ (s2 _ _ h1)
  refine ⟨_, rfl, _, rfl, a, C i, _, _, _, rfl, h3, cl, fun _ r => r, X.apart i 6 hi (by decide), _, rfl, a, C i, _, _, _, rfl, h3, cl, fun _ r => r, X.apart i 7 hi (by decide), _, rfl, a, C i, _, _, _, rfl, h3, cl, fun _ r => r, X.apart i 8 hi (by decide), szl rfl, fun m3 H4 k3 s4 f3 => ?_⟩
  refine ⟨l2, m3, _, _, rfl, rfl, s4 _ _ e2, f3, szl rfl, fun l3 H5 n3 s5 e3 => ?_⟩
  have h5 := s5 _ _ (s4 _ _ h3)
  refine ⟨_, rfl, _, rfl, a, C i, _, _, _, rfl, h5, cl, fun _ r => r, X.apart i 9 hi (by decide), szl rfl, fun m4 H6 k4 s6 f4 => ?_⟩
  refine ⟨l3, m4, _, _, rfl, rfl, s6 _ _ e3, f4, szl rfl, fun l4 H7 n4 s7 e4 => ?_⟩
  have h7 := s7 _ _ (s6 _ _ h5)
  have e4 : H7 l4 = some (.lst ((flagsOf i).map V.bl)) := e4
  have sA := s1.trans (s2.trans (s3.trans (s4.trans (s5.trans (s6.trans s7)))))
  refine ⟨_, rfl, a, C i, _, _, _, rfl, h7, cl, fun _ r => r, X.ve i hi, ?_⟩
  refine ⟨_, rfl, iteT ⟨_, rfl, 10, rfl, by decide, by decide, ?_⟩⟩
  refine lc_J (walk_range (lo := 0)) Same (fun D k ys H' => ys = ((List.range k).map fun j => decide (i = j)).map V.bl) (goes_same H7) (szl rfl) (fun _ _ => trivial) (fun _ _ => rfl) (fun _ _ _ _ _ _ _ _ r => r) ?_ ?_
  · rintro D E E0 k x ys H8 H9 nD eD hk t rfl ⟨rfl, rfl⟩ k1 k0
    refine ⟨rfl, _, rfl, _, rfl, rfl, k1 _ _ (Same.refl _) ?_⟩
    have eb : decide (V.int (0 + (k : Int)) = V.int (i : Int)) = decide (i = k) := by
      rw [Bool.eq_iff_iff, decide_eq_true_iff, decide_eq_true_iff]
      exact ⟨fun z => by have := V.int.inj z; omega, fun z => congrArg V.int (by omega)⟩
    rw [List.range_succ, List.map_append, List.map_append]
    show _ ++ [V.bl (decide (V.int (0 + (k : Int)) = V.int (i : Int)))] = _
    rw [eb]; rfl
  · rintro D H8 ys nD t eD _ rfl
    have eD : H8 D = some (.lst ((flagsOf i).map V.bl)) := eD
    refine ⟨.list ((flagsOf i).map PyData.bool), .list ((flagsOf i).map PyData.bool), .lst (SqL.of (t _ _ e4)) (dpAll_bls _), .lst (SqL.of eD) (dpAll_bls _), shaped_flags i, shaped_flags i, ?_⟩
    have hs := shaped_flags i
    unfold SeqAt.shaped at hs
    rw [Bool.and_eq_true] at hs
    rw [SeqAt.eqv_refl _ hs.1]
    exact q H8 (sA.trans t)
end
/-! ### _law_met -/
/-- what _law_met makes of the lambda: its exception, kept; or None -/
def TMet (C : Nat → Addr) : (XK → Hp → VK → Prop) → Hp → VK → Prop := fun tl H Q =>
  tl (fun cls d H' => d = none ∧ ∃ i, i < 10 ∧ cls = .ref (C i) ∧ ∀ a, H' a = none → Q (.ref a) (upd H' a (ExcH (.ref (C i)) none a))) H fun _ H' => Q .non H'
theorem scMet : FnScope ["deed", "e"] ["deed"] (defScope s_law_met) := ⟨rfl, rfl, rfl, by decide +kernel, rfl, by decide +kernel, by decide +kernel⟩
section
variable {X : Cx} {C : Nat → Addr} {CS : Addr}
theorem g_met (Ex : Excs X.K X.mg C CS) {g : Addr} {cdg : Value} {q : Str} {k : Nat} :
    GivesN X ["deed", "e"] "_law_met" (defScope s_law_met) g cdg (defBody s_law_met) "deed" q k (TMet C) := by
  intro f c' s H Q tl hr act hc h
  refine ⟨_, pss_cons (ps_try_keep (X := (cxOf CX0 X.prog X.w X.K X.mg X.base ["deed", "e"] "_law_met" (defScope s_law_met) g cdg X.A X.stack s H E0).nox) (c := .ref CS) (i := 1)
      (tb := fun W D σ H => ∃ Ech : XK, (∀ cls d (σ' : L2.St) H', σ'.length = 2 → Ech cls d H' → W cls d σ' H') ∧ σ[0]? = some (some (.ref f)) ∧ H c' = some (CodeO c' q) ∧ tl Ech H fun _ H' => D.nx σ H')
      rfl rfl rfl scMet.nd rfl rfl ⟨by rfl, by decide, .inl Ex.gS⟩ (fun W pn xe tk => ?_)) (pss_one (ps_ret pe_non)), ?_⟩
  · refine ⟨fun pins s' σ H' D I h' => ?_⟩
    obtain ⟨Ech, hW, h1, h2, h3⟩ := h'
    exact (pss_one (ps_expr (act W pn xe Ech _ _ tk hW))).run pins s' σ H' D I ⟨h1, h2, h3⟩
  · refine ⟨fun cls d H' => d = none ∧ ∃ i, i < 10 ∧ cls = .ref (C i) ∧ ∀ a, H' a = none → Q (.ref a) (upd H' a (ExcH (.ref (C i)) none a)), fun cls d σ' H' _ hh => ?_, rfl, hc, h⟩
    obtain ⟨rfl, i, hi, rfl, hq⟩ := hh
    exact ⟨Ex.stem i hi, hq⟩
/-- what a def that calls _law_met with lambdas must know -/
structure MetS (X : Cx) (C : Nat → Addr) (CS c P : Addr) : Prop where
  met : Here X.K X.mg "_law_met" s_law_met
  exc : Excs X.K X.mg C CS
  tab : TabB X.base X.mg c P
/-- the name under which the lambdas of the def n stand -/
abbrev qOf (n : Str) : Str := n ++ ".<locals>."
abbrev lawT (Pt : Addr) : List (Addr × Str) := [(Pt, qOf "law" ++ "<lambda>")]
theorem lawT_mem {Pt : Addr} : (Pt, qOf "law" ++ "<lambda>") ∈ lawT Pt := List.mem_singleton.mpr rfl
theorem lawT_one {Pt : Addr} : ∀ p ∈ lawT Pt, p.1 = Pt → p.2 = qOf "law" ++ "<lambda>" := fun p hp _ => by rw [List.mem_singleton.mp hp]
/-- _law_met(lambda: body) -/
theorem pe_met {CS c P : Addr} {T : List (Addr × Str)} (sc : Scope) (q : Str) {params : Arguments} {body : Expr} {scope : Scope} {t : XK → TE} {p lpos pos : Pos} {k : Nat} (S : MetS X C CS c P) (hr : Room (k + 2) X.A)
    (hbody : ∀ (A : Around) (outer : List Env) (s : Shared) (H : Hp) (E : XK) (f c' : Addr), Room k (A.deeper (lamEnv X scope s.heap.objs.size f c')) → PE (lamN X A outer s H E scope f c') body (t E))
    (hmT : (P, q ++ "<lambda>") ∈ T) (hu : ∀ p ∈ T, p.1 = P → p.2 = q ++ "<lambda>")
    (hsc : X.env.scope = sc := by rfl) (hq : X.env.qual = q := by rfl)
    (L : lamSB sc scope = true := by decide +kernel) (hg : Gl X "_law_met" := by rfl) (hcode : X.env.code = .ref c := by rfl) (hdef : defaultsOf params X.env = ([], []) := by rfl)
    (hbind : ∀ (q : Str) (cl : List (Str × Addr)) (pm cv ctv : Value), bindArgs (PySem.W.kla_fn "<lambda>" q params body scope cl pm cv ctv) ⟨[], []⟩ = pure [] := by intros; rfl) :
    PE X (.Call (.Name "_law_met" p) [.Lambda params body scope lpos] [] pos) (tLam T (TMet C) t) := by
  subst hsc
  subst hq
  exact pe_lamN (k := k) S.met hg (fun _ _ _ _ _ _ us hl => match us, hl with | [_], _ => rfl) scMet rfl (.inl rfl) (fun g cdv => g_met S.exc) S.tab hcode hmT hu hr (lamS_by L) hdef hbind hbody
end
end Sv

set_option maxHeartbeats 8000000
namespace Sv
open PySem PySem.Spec PyProof.Rows L2 L2H HotX LamX
theorem dash_tl (n : Nat) : TL.tl (repS "-" n) = List.replicate n 45 := by
  show ((List.replicate n ("-" : Str).cps).foldl (· ++ ·) #[]).toList = _
  have : ("-" : Str).cps = #[45] := by decide +kernel
  rw [this, rep_foldl]
  simp
theorem dash_no {n : Nat} (hn : 2 ≤ n) (b : Bsh) : textB b ≠ repS "-" n := fun e => by
  have e := congrArg TL.tl e
  rw [textB_tl, dash_tl] at e
  have h1 : (TL.joinL [32] (b.map wordL))[1]? = some 45 := by rw [e, List.getElem?_replicate, if_pos (by omega)]
  cases b with
  | nil => cases h1
  | cons s r =>
    have h2 : (TL.joinL [32] ((s :: r).map wordL))[1]? = some s.2.code := by cases r <;> rfl
    rw [h2] at h1
    have h3 := Option.some.inj h1
    revert h3
    cases s.2 <;> decide
theorem many_no {n : Nat} (hn : 8 ≤ n) (d : PyData) : isBush (.tuple (List.replicate n d)) = false := by
  show (decide ((List.replicate n d).length ≤ 7) && _) = false
  rw [List.length_replicate, decide_eq_false (by omega), Bool.false_and]
theorem ws_no {n : Nat} (hn : 8 ≤ n) : isStalk (.str (colStr (List.replicate n .w))) = false ∧ isPl (.str (colStr (List.replicate n .w))) = false := by
  constructor
  · cases h : isStalk (.str (colStr (List.replicate n .w))) with
    | false => rfl
    | true =>
      obtain ⟨cs, e, l⟩ := isStalk_iff.mp h
      have := colStr_inj (PyData.str.inj e)
      rw [← this, List.length_replicate] at l
      omega
  · cases h : isPl (.str (colStr (List.replicate n .w))) with
    | false => rfl
    | true =>
      have len : ∀ c : Col, (colStr (List.replicate n .w)) ≠ c.s := fun c e => by
        have e : (colStr (List.replicate n .w)).cps.size = c.s.cps.size := by rw [e]
        rw [colStr_size, List.length_replicate] at e
        have : c.s.cps.size = 1 := by cases c <;> rfl
        omega
      rcases isPl_iff.mp h with e | e
      · exact absurd (PyData.str.inj e) (len .w)
      · exact absurd (PyData.str.inj e) (len .b)
section
variable {P : Program} {w : World} {K : PySem.W.Frag} {mg : Str → Option Value} {base : Heap} {C : Nat → Addr} {CS CT c Pt : Addr}
def spLaw (K : PySem.W.Frag) (Pt : Addr) : Sp := fun vs H Q _ => ∃ (a : Addr) (ns : List Int), vs = [.ref a] ∧ SqL K H a (ns.map V.int) ∧ ns.length ≤ 63 ∧ Tabs (lawT Pt) H ∧ ∀ H', Q (.bl true) H'
/-- what is made so far -/
structure Md (K : PySem.W.Frag) (C : Nat → Addr) (Pt p : Addr) (ds : List Addr) (l p1 : Addr) (as : List Addr) (H : Hp) : Prop where
  live : Live (lawT Pt) p ds H
  lst : H l = some (.lst (as.map V.ref))
  ex : ∀ (j : Nat) (a : Addr), as[j]? = some a → H a = some (ExcH (.ref (C j)) none a)
  one : At K H (.ref p1) (bushD [(-1, .b)])
theorem exc_tbl {v : Value} {d : Option Addr} {a : Addr} : ∀ ps, ExcH v d a ≠ .tbl ps := fun ps z => by unfold ExcH at z; cases z
theorem Md.extN {p : Addr} {ds : List Addr} {l p1 : Addr} {as : List Addr} {H H1 : Hp} (h : Md K C Pt p ds l p1 as H) (x : ExtN H H1) (T : Tabs (lawT Pt) H1) : Md K C Pt p ds l p1 as H1 :=
  ⟨h.live.extN x T, x _ _ h.lst (fun _ z => nomatch z), fun j a e => x _ _ (h.ex j a e) exc_tbl, h.one.ext (extN_ext x)⟩
theorem Md.same {p : Addr} {ds : List Addr} {l p1 : Addr} {as : List Addr} {H H1 : Hp} (h : Md K C Pt p ds l p1 as H) (s : Same H H1) : Md K C Pt p ds l p1 as H1 :=
  ⟨h.live.same s, s _ _ h.lst, fun j a e => s _ _ (h.ex j a e), h.one.same s⟩
/-- one more -/
theorem Md.step {p : Addr} {ds : List Addr} {l p1 a : Addr} {as : List Addr} {H : Hp} {i : Nat} (h : Md K C Pt p ds l p1 as H) (na : H a = none) (h1 : l ≠ p) (h2 : l ∉ ds) (hi : as.length = i) :
    (upd H a (ExcH (.ref (C i)) none a)) l = some (.lst (as.map V.ref)) ∧ Md K C Pt p ds l p1 (as ++ [a]) (upd (upd H a (ExcH (.ref (C i)) none a)) l (.lst (as.map V.ref ++ [.ref a]))) := by
  have hs := h.same (same_new (o := ExcH (.ref (C i)) none a) na)
  have nel : ∀ {b : Addr} {v d}, H b = some (ExcH v d b) → b ≠ l := fun {b v d} e z => by
    rw [z, h.lst] at e
    have := Option.some.inj e
    unfold ExcH at this
    cases this
  refine ⟨hs.lst, hs.live.put hs.lst h1 h2, by rw [upd_same, List.map_append]; rfl, fun j b e => ?_, hs.one.ext (Ext.lst hs.lst)⟩
  by_cases hj : j < as.length
  · rw [List.getElem?_append_left hj] at e
    rw [upd_ne (nel (h.ex j b e))]
    exact hs.ex j b e
  · have hl := (List.getElem?_eq_some_iff.mp e).1
    rw [List.length_append] at hl
    have hj : j = as.length := by simp at hl; omega
    subst hj
    rw [List.getElem?_append_right (Nat.le_refl _), Nat.sub_self] at e
    cases e
    rw [upd_ne (ne_of_none h.lst na).symm, upd_same, hi]
theorem scLaw : FnScope ["script", "dice", "more", "one", "made", "at", "e"] ["script"] (defScope s_law) := ⟨rfl, rfl, rfl, by decide +kernel, rfl, by decide +kernel, by decide +kernel⟩
theorem k_law (F : HereC K mg "law" s_law c) (Fm : Here K mg "_law_met" s_law_met) (B : Blt mg) (Ex : Excs K mg C CS) (TB : TabB base mg c Pt) (T : ClsT K mg "Table" CT fldsT)
    (d_rounds : Keeps' P w K mg base CX0 2 "_law_rounds" ["script", "most"] (spRounds K)) (d_roll : Keeps' P w K mg base CX0 2 "_law_roll" ["dice", "many"] spRoll) (d_alone : Keeps' P w K mg base CX0 1 "_law_alone" ["e", "own"] (spAlone C))
    (d_worth : Keeps' P w K mg base (L2N.CX P w) 30 "worth" ["bush"] (spWorth K C)) (d_after : Keeps' P w K mg base (L2N.CX P w) 5 "after_cut" ["bush", "number"] (spAfterCut K C)) (d_cut : Keeps' P w K mg base (L2N.CX P w) 11 "winning_cut" ["bush", "player"] (spWinCut K C)) (d_of : Keeps' P w K mg base (L2N.CX P w) 2 "of_stalk" ["stalk"] (spOfStalk K C))
    (d_simp : Keeps' P w K mg base (L2N.CX P w) 4 "simplest" ["low", "high"] (spSimplest K C)) (d_parse : Keeps' P w K mg base (L2N.CX P w) 4 "parse_bush" ["text"] (spParse K C)) (d_stalk : Keeps' P w K mg base (L2N.CX P w) 4 "stalk_of" ["low"] (spStalkOf K C))
    (d_tinit : KeepsM P w K mg base (L2N.CX P w) 5 CT "__init__" ["self", "bush"] (spTInit K C CT)) (d_tcut : KeepsM P w K mg base (L2N.CX P w) 3 CT "cut" ["self", "number"] (spTCut K C CT)) (d_tredo : KeepsM P w K mg base (L2N.CX P w) 1 CT "redo" ["self"] (spTRedo K C CT)) :
    KeepsC P w K mg base CX0 40 "law" ["script"] (spLaw K Pt) := by
  refine keepsLaw F scLaw (fun vs H Q E h => by obtain ⟨_, _, e, _⟩ := h; rw [e]; rfl) fun f A outer s H vs Q E hr h => ?_
  obtain ⟨a, ns, rfl, hS, hn, hT, q⟩ := h
  have TS : MetS (cxOf CX0 P w K mg base ["script", "dice", "more", "one", "made", "at", "e"] "law" (defScope s_law) f (.ref c) A outer s H E).nox C CS c Pt := ⟨Fm, Ex, TB⟩
  have hmT := lawT_mem (Pt := Pt)
  have huT := lawT_one (Pt := Pt)
  refine ⟨_, pss_cons (ps_for PassesOwn.never rfl (pi_listK K (pe_d0 d_rounds (hr.mono (by decide)) (by rfl) (pa2 (pv 0) pe_int))) (pgn 1 scLaw.nd)
      (pss_cut (ps_asg (pe_tupN (pa2 (pe_op op_add pe_int (pe_d0 d_roll (hr.mono (by decide)) (by rfl) (pa2 (pv 1) pe_int))) (pe_tupN (pa1 (pe_tupN (pa2 (pe_un un_neg pe_int) pe_str)))))) (pg_tupK K (n := 2) rfl (pgs_cons (pgn 2 scLaw.nd) (pgs_cons (pgn 3 scLaw.nd) pgs_nil))))
        (pss_cut (st 4 scLaw.nd (pe_lstN (pa1 (pe_met (defScope s_law) (qOf "law") (k := 32) TS (hr.mono (by decide)) (fun A outer s H E f c' hr' => pe_dX d_worth (hr'.mono (by decide)) (by rfl) (L2N.takes_of rfl rfl rfl rfl) (fun _ _ _ _ h => h) (pa1 (pe_op (op_repTK K) (pe_tupN (pa1 (pe_tupN (pa2 (pe_un un_neg pe_int) pe_str)))) (pv 2)))) hmT huT))))
        (pss_cut (ps_expr (pe_bm PySem.F.plainAttrs_list PySem.F.slot_list_append PySem.F.type_list_append mt_append (pv 4) (pa1 (pe_met (defScope s_law) (qOf "law") (k := 32) TS (hr.mono (by decide)) (fun A outer s H E f c' hr' => pe_dX d_after (hr'.mono (by decide)) (by rfl) (L2N.takes_of rfl rfl rfl rfl) (fun _ _ _ _ h => h) (pa2 (pv 3) (pv 2))) hmT huT))))
        (pss_cut (ps_expr (pe_bm PySem.F.plainAttrs_list PySem.F.slot_list_append PySem.F.type_list_append mt_append (pv 4) (pa1 (pe_met (defScope s_law) (qOf "law") (k := 32) TS (hr.mono (by decide)) (fun A outer s H E f c' hr' => pe_dX d_cut (hr'.mono (by decide)) (by rfl) (L2N.takes_of rfl rfl rfl rfl) (fun _ _ _ _ h => h) (pa2 (pv 3) (pe_op op_mul_col pe_str (pv 2)))) hmT huT))))
        (pss_cut (ps_expr (pe_bm PySem.F.plainAttrs_list PySem.F.slot_list_append PySem.F.type_list_append mt_append (pv 4) (pa1 (pe_met (defScope s_law) (qOf "law") (k := 32) TS (hr.mono (by decide)) (fun A outer s H E f c' hr' => pe_dX d_of (hr'.mono (by decide)) (by rfl) (L2N.takes_of rfl rfl rfl rfl) (fun _ _ _ _ h => h) (pa1 (pe_op op_mul_col pe_str (pv 2)))) hmT huT))))
        (pss_cut (ps_expr (pe_bm PySem.F.plainAttrs_list PySem.F.slot_list_append PySem.F.type_list_append mt_append (pv 4) (pa1 (pe_met (defScope s_law) (qOf "law") (k := 32) TS (hr.mono (by decide)) (fun A outer s H E f c' hr' => pe_dX d_simp (hr'.mono (by decide)) (by rfl) (L2N.takes_of rfl rfl rfl rfl) (fun _ _ _ _ h => h) (pa2 (pe_tupN (pa2 (pv 2) pe_int)) (pe_tupN (pa2 pe_int pe_int)))) hmT huT))))
        (pss_cut (ps_expr (pe_bm PySem.F.plainAttrs_list PySem.F.slot_list_append PySem.F.type_list_append mt_append (pv 4) (pa1 (pe_met (defScope s_law) (qOf "law") (k := 32) TS (hr.mono (by decide)) (fun A outer s H E f c' hr' => pe_dX d_parse (hr'.mono (by decide)) (by rfl) (L2N.takes_of rfl rfl rfl rfl) (fun _ _ _ _ h => h) (pa1 (pe_op op_mul_str pe_str (pv 2)))) hmT huT))))
        (pss_cut (ps_expr (pe_bm PySem.F.plainAttrs_list PySem.F.slot_list_append PySem.F.type_list_append mt_append (pv 4) (pa1 (pe_met (defScope s_law) (qOf "law") (k := 32) TS (hr.mono (by decide)) (fun A outer s H E f c' hr' => pe_dX d_stalk (hr'.mono (by decide)) (by rfl) (L2N.takes_of rfl rfl rfl rfl) (fun _ _ _ _ h => h) (pa1 (pe_tupN (pa2 (pv 2) pe_int)))) hmT huT))))
        (pss_cut (ps_expr (pe_bm PySem.F.plainAttrs_list PySem.F.slot_list_append PySem.F.type_list_append mt_append (pv 4) (pa1 (pe_met (defScope s_law) (qOf "law") (k := 32) TS (hr.mono (by decide)) (fun A outer s H E f c' hr' => pe_dX d_simp (hr'.mono (by decide)) (by rfl) (L2N.takes_of rfl rfl rfl rfl) (fun _ _ _ _ h => h) (pa2 (pe_tupN (pa2 (pv 2) pe_int)) (pe_tupN (pa2 (pe_op op_sub (pv 2) pe_int) pe_int)))) hmT huT))))
        (pss_cut (ps_expr (pe_bm PySem.F.plainAttrs_list PySem.F.slot_list_append PySem.F.type_list_append mt_append (pv 4) (pa1 (pe_met (defScope s_law) (qOf "law") (k := 32) TS (hr.mono (by decide)) (fun A outer s H E f c' hr' => pe_mX d_tcut T.cl (hr'.mono (by decide)) (L2N.takes_of rfl rfl rfl rfl) (fun _ _ _ _ h => h) (pe_mkX d_tinit T (hr'.mono (by decide)) (by rfl) (L2N.takes_of rfl rfl rfl rfl) (fun _ _ _ _ h => h) (pa1 (pv 3))) (pa1 pe_int)) hmT huT))))
        (pss_cut (ps_expr (pe_bm PySem.F.plainAttrs_list PySem.F.slot_list_append PySem.F.type_list_append mt_append (pv 4) (pa1 (pe_met (defScope s_law) (qOf "law") (k := 32) TS (hr.mono (by decide)) (fun A outer s H E f c' hr' => pe_mX0 d_tredo T.cl (hr'.mono (by decide)) (L2N.takes_of rfl rfl rfl rfl) (fun _ _ _ _ h => h) (pe_mkX d_tinit T (hr'.mono (by decide)) (by rfl) (L2N.takes_of rfl rfl rfl rfl) (fun _ _ _ _ h => h) (pa1 (pv 3)))) hmT huT))))
        (pss_one (ps_if (pt_not (pt_val (pb (cr_allK K rfl) B.all boot_all (pa1 (pe_lc (own := [("at", 5), ("e", 6)]) rfl scLaw.nd (pi_enumL K (by rfl) B.enumerate (pa1 (pv 4))) (blkOk_by (own := [("at", 5), ("e", 6)]) (N := ["script", "dice", "more", "one", "made", "at", "e"]) (sc := defScope s_law) (by decide +kernel)) (fun _ _ _ _ _ => pg_tupK K (n := 2) rfl (pgs_cons (pgn 5 scLaw.nd) (pgs_cons (pgn 6 scLaw.nd) pgs_nil))) (fun _ _ _ _ _ => pts_nil) (fun _ _ _ _ _ => pe_d0 d_alone (hr.mono (by decide)) (by rfl) (pa2 (pv 6) (pv 5))))))))
          (pss_one (ps_ret pe_bl))
          (pss_nil)))))))))))))))
    (pss_one (ps_ret pe_bl)), ?_⟩
  refine ⟨_, rfl, a, ns, 4, rfl, hS, hn, by decide, fun H1 p ds s1 np e1 hds => ?_⟩
  refine ⟨p, rfl, ⟨_, SqL.of e1⟩, for_it (walk_list (xs := ds.map V.ref)) (fun i σ H' => σ.length = 7 ∧ Live (lawT Pt) p ds H') ⟨rfl, e1, fun d hd => (hds d hd).2, fun t ht => (hT t ht).ext s1⟩ (fun i σ H' _ h => SqL.of h.2.rounds) ?_ ?_⟩
  · rintro i x σ H2 H2' hi ⟨hσ, L⟩ ⟨rfl, hx⟩
    obtain ⟨d, rfl, hd, hD⟩ := L.get hx
    match σ, hσ with
    | [y0, y1, y2, y3, y4, y5, y6], _ =>
    -- more, one
    refine ⟨fun σ H' => ∃ (m : Nat) (p1 : Addr), 8 ≤ m ∧ m ≤ 97 ∧ σ = [y0, some (.ref d), some (.int (m : Int)), some (.ref p1), y4, y5, y6] ∧ Live (lawT Pt) p ds H' ∧ At K H' (.ref p1) (bushD [(-1, .b)]), ?_, ?_⟩
    · refine ⟨_, rfl, d, 90, rfl, hD, by decide, by decide, fun H3 z m3 z0 z1 => ⟨_, _, rfl, rfl, _, rfl, szl rfl, fun t1 H4 n4 s4 e4 => ⟨szl rfl, fun p1 H5 n5 s5 e5 => ⟨szl rfl, fun t3 H6 n6 s6 e6 => ⟨t3, _, rfl, SqT.of e6, rfl, _, _, rfl, _, _, rfl, rfl, ?_⟩⟩⟩⟩⟩
      refine ⟨(8 + z).toNat, p1, by omega, by omega, ?_, (L.mv m3 hD).same (s4.trans (s5.trans s6)), At.tupO (s6 _ _ e5) (.cons (at_stem (s := (-1, .b)) (s6 _ _ (s5 _ _ e4))) .nil)⟩
      rw [show (((8 + z).toNat : Nat) : Int) = 8 + z by omega]
      rfl
    rintro σ H3 ⟨m, p1, hm8, hm97, rfl, L3, A3⟩
    have hm2 := hm8
    let S : Option V → L2.St := fun z4 => [y0, some (.ref d), some (.int (m : Int)), some (.ref p1), z4, y5, y6]
    have hbo : BushOk [((-1 : Int), Col.b)] := ⟨by decide, fun i s e => by
      match i, e with
      | 0, e => cases e; exact ⟨by decide, by decide⟩⟩
    have isb : isBush (bushD [((-1 : Int), Col.b)]) = true := isBush_iff.mpr ⟨_, rfl, hbo⟩
    -- no bush
    refine ⟨fun σ H' => ∃ l as, as.length = 1 ∧ σ = S (some (.ref l)) ∧ Md K C Pt p ds l p1 as H' ∧ l ≠ p ∧ l ∉ ds, ?_, ?_⟩
    · refine ⟨L3.tabs, fun H4 x4 T4 => ⟨_, rfl, szl rfl, fun t1 H5 n5 s5 e5 => ⟨szl rfl, fun t2 H6 n6 s6 e6 => ⟨_, rfl, t2, (m : Int), _, rfl, rfl, SqT.of e6, (fun z => nomatch z), by omega, by omega, Nat.succ_le_of_lt (by show 0 < 1000; decide), fun t3 n7 => ?_⟩⟩⟩⟩
      have ef : (List.replicate ((m : Int).toNat) [V.ref t1]).flatten = List.replicate m (V.ref t1) := by
        rw [Int.toNat_natCast]
        clear hm8 hm97 hm2 S
        induction m with
        | zero => rfl
        | succ k ih => rw [List.replicate_succ, List.flatten_cons, List.replicate_succ]; rw [show (List.replicate k [V.ref t1]).flatten = List.replicate k (V.ref t1) from by clear ih; induction k with | zero => rfl | succ k ih => rw [List.replicate_succ, List.flatten_cons, ih, List.replicate_succ]; rfl]; rfl
      rw [ef]
      have s7 := same_new (o := .tup (List.replicate m (V.ref t1))) n7
      have hst : Dp K (upd H6 t3 (.tup (List.replicate m (V.ref t1)))) (.ref t1) (stemD (-1, .w)) := (at_stem (s := (-1, .w)) (s7 _ _ (s6 _ _ e5))).2
      have hall : ∀ k, DpAll K (upd H6 t3 (.tup (List.replicate m (V.ref t1)))) (List.replicate k (V.ref t1)) (List.replicate k (stemD (-1, .w))) := by
        intro k
        induction k with
        | zero => exact .nil
        | succ k ih => exact .cons hst ih
      have nob := many_no hm8 (stemD (-1, .w))
      refine ⟨.ref t3, _, rfl, .tup (SqT.of upd_same) (hall m), fun _ H8 s8 => ⟨rfl, 0, by decide, rfl, fun a na => ?_⟩, fun b e hb => absurd (isBush_iff.mpr ⟨b, e, hb⟩) (by rw [nob]; decide)⟩
      have s48 := s5.trans (s6.trans (s7.trans s8))
      have L8 := (L3.extN x4 T4).same s48
      have A8 := (A3.ext (extN_ext x4)).same s48
      have s9 := same_new (o := ExcH (.ref (C 0)) none a) na
      refine ⟨szl rfl, fun l H10 n10 s10 e10 => ?_⟩
      have L9 := L8.same s9
      obtain ⟨f1, f2⟩ := L9.fresh n10
      refine ⟨l, [a], rfl, rfl, ⟨L9.same s10, e10, fun j b e => ?_, A8.same (s9.trans s10)⟩, f1, f2⟩
      match j, e with
      | 0, e => cases e; exact s10 _ _ upd_same
    rintro σ H4 ⟨l, as, l1, rfl, M4, f1, f2⟩
    let J : Nat → L2.St → Hp → Prop := fun i σ H' => ∃ as, as.length = i ∧ σ = S (some (.ref l)) ∧ Md K C Pt p ds l p1 as H'
    have app : ∀ {i : Nat} {as : List Addr} {H' : Hp} {a : Addr}, Md K C Pt p ds l p1 as H' → H' a = none → as.length = i → i ≤ 9 → rAppend (.ref l) [.ref a] (upd H' a (ExcH (.ref (C i)) none a)) (fun _ H'' => J (i + 1) (S (some (.ref l))) H'') := fun {i as H' a} M na hi h9 => by
      obtain ⟨g1, g2⟩ := M.step na f1 f2 hi
      exact ⟨l, _, _, rfl, rfl, g1, by rw [List.length_map, sizeLine_eq]; omega, as ++ [a], by rw [List.length_append, hi]; rfl, rfl, g2⟩
    have pt1 : ∀ {H' : Hp} {t : Addr} {x y : Int}, H' t = some (.tup [.int x, .int y]) → Dp K H' (.ref t) (num x y) := fun e => .tup (SqT.of e) (.cons (.int _) (.cons (.int _) .nil))
    -- no such stem
    refine ⟨J 2, ?_, ?_⟩
    · refine ⟨_, rfl, .inl ⟨rfl, _, SqL.of M4.lst⟩, M4.live.tabs, fun H5 x5 T5 => ?_⟩
      have M5 := M4.extN x5 T5
      refine ⟨_, rfl, _, rfl, .ref p1, _, _, _, rfl, M5.one.2, .int _, (fun z => absurd (isb.symm.trans z) (by decide)), fun b e hb => ⟨fun _ H6 s6 => ⟨rfl, 1, by decide, rfl, fun a na => app (M5.same s6) na l1 (by decide)⟩, fun n e2 hn => ?_⟩⟩
      cases bushD_inj e
      have := PyData.int.inj e2
      have hn : n < 1 := hn
      omega
    clear M4 l1 as
    rintro σ H5 ⟨as, l2, rfl, M5⟩
    -- no player
    obtain ⟨w1, w2⟩ := ws_no hm8
    refine ⟨J 3, ?_, ?_⟩
    · refine ⟨_, rfl, .inl ⟨rfl, _, SqL.of M5.lst⟩, M5.live.tabs, fun H6 x6 T6 => ?_⟩
      have M6 := M5.extN x6 T6
      refine ⟨_, rfl, _, rfl, .w, m, rfl, rfl, by omega, .ref p1, _, _, _, rfl, M6.one.2, .str _, (fun z => absurd (isb.symm.trans z) (by decide)), fun _ _ H7 s7 => ⟨rfl, 2, by decide, rfl, fun a na => app (M6.same s7) na l2 (by decide)⟩, fun b c _ _ e _ => ?_⟩
      have hp : isPl (.str c.s) = true := isPl_iff.mpr (by
        cases c with
        | w => exact .inl rfl
        | b => exact .inr rfl
        | g => exact absurd rfl ‹_›)
      rw [← e, w2] at hp
      cases hp
    clear M5 l2 as
    rintro σ H6 ⟨as, l3, rfl, M6⟩
    -- no stalk
    refine ⟨J 4, ?_, ?_⟩
    · refine ⟨_, rfl, .inl ⟨rfl, _, SqL.of M6.lst⟩, M6.live.tabs, fun H7 x7 T7 => ?_⟩
      have M7 := M6.extN x7 T7
      refine ⟨_, rfl, .w, m, rfl, rfl, by omega, _, _, rfl, .str _, fun x e => ?_, fun _ H8 s8 => ⟨rfl, 3, by decide, rfl, fun a na => app (M7.same s8) na l3 (by decide)⟩, fun cs e l => ?_⟩
      · rw [← PyData.str.inj e]
        show (colStr (List.replicate m .w)).cps.size ≤ 1000
        rw [colStr_size, List.length_replicate]; omega
      · rw [e, isStalk_iff.mpr ⟨cs, rfl, l⟩] at w1
        cases w1
    clear M6 l3 as
    rintro σ H7 ⟨as, l4, rfl, M7⟩
    -- no number
    refine ⟨J 5, ?_, ?_⟩
    · refine ⟨_, rfl, .inl ⟨rfl, _, SqL.of M7.lst⟩, M7.live.tabs, fun H8 x8 T8 => ⟨_, rfl, szl rfl, fun t1 H9 n9 s9 e9 => ⟨szl rfl, fun t2 H10 n10 s10 e10 => ?_⟩⟩⟩
      have M10 := (M7.extN x8 T8).same (s9.trans s10)
      have no3 : isNum (num (m : Int) 3) = false := by
        cases h : isNum (num (m : Int) 3) with
        | false => rfl
        | true => have := (numb_iff.mp h).cases; omega
      refine ⟨.ref t1, .ref t2, _, _, rfl, pt1 (s10 _ _ e9), pt1 e10, fun _ H11 s11 => ⟨rfl, 4, by decide, rfl, fun a na => app (M10.same s11) na l4 (by decide)⟩, fun a' b' c' d' g1 _ g3 _ => ?_⟩
      have hq := numb_iff.mpr g3
      rw [← g1, no3] at hq
      cases hq
    clear M7 l4 as
    rintro σ H8 ⟨as, l5, rfl, M8⟩
    -- no text
    refine ⟨J 6, ?_, ?_⟩
    · refine ⟨_, rfl, .inl ⟨rfl, _, SqL.of M8.lst⟩, M8.live.tabs, fun H9 x9 T9 => ?_⟩
      have M9 := M8.extN x9 T9
      refine ⟨_, rfl, "-", m, rfl, rfl, by omega, by omega, by decide, by decide, _, _, rfl, .str _, fun z e => ?_, fun _ H10 s10 => ⟨rfl, 5, by decide, rfl, fun a na => app (M9.same s10) na l5 (by decide)⟩, fun b z e _ e2 => ?_⟩
      · rw [← PyData.str.inj e, repS_len]
        show m * 1 ≤ 1000
        omega
      · rw [← PyData.str.inj e] at e2
        exact absurd e2 (dash_no (by omega) b)
    clear M8 l5 as
    rintro σ H9 ⟨as, l6, rfl, M9⟩
    -- too large
    refine ⟨J 7, ?_, ?_⟩
    · refine ⟨_, rfl, .inl ⟨rfl, _, SqL.of M9.lst⟩, M9.live.tabs, fun H10 x10 T10 => ⟨_, rfl, szl rfl, fun t1 H11 n11 s11 e11 => ?_⟩⟩
      have M11 := (M9.extN x10 T10).same s11
      refine ⟨.ref t1, List.replicate 7 .w, 64 * (m : Int), rfl, by rw [red6_int]; exact at_num e11, by rw [red6_int]; exact ⟨by show -448 ≤ (m : Int); omega, by show (m : Int) ≤ 448; omega, rfl, .inl rfl⟩, wb_w 7, by decide, way_far (by omega), fun z => ?_, fun _ => ⟨rfl, fun H12 s12 => ⟨rfl, 6, by decide, rfl, fun a na => app (M11.same s12) na l6 (by decide)⟩⟩⟩
      rw [(hv_ww 7).1] at z
      omega
    clear M9 l6 as
    rintro σ H10 ⟨as, l7, rfl, M10⟩
    -- none between
    refine ⟨J 8, ?_, ?_⟩
    · refine ⟨_, rfl, .inl ⟨rfl, _, SqL.of M10.lst⟩, M10.live.tabs, fun H11 x11 T11 => ⟨_, rfl, szl rfl, fun t1 H12 n12 s12 e12 => ⟨_, rfl, _, _, rfl, rfl, szl rfl, fun t2 H13 n13 s13 e13 => ?_⟩⟩⟩
      have M13 := (M10.extN x11 T11).same (s12.trans s13)
      have nb : ∀ {z : Int}, 0 ≤ z → z ≤ 97 → Numb z 1 := fun h1 h2 => ⟨by omega, by omega, rfl, .inl rfl⟩
      have b1 := numb_iff.mpr (nb (z := (m : Int)) (by omega) (by omega))
      have b2 := numb_iff.mpr (nb (z := (m : Int) - 1) (by omega) (by omega))
      refine ⟨.ref t1, .ref t2, _, _, rfl, pt1 (s13 _ _ e12), pt1 e13, fun z => ?_, fun a' b' c' d' g1 g2 _ _ => ?_⟩
      · rcases z with z | z
        · rw [b1] at z; cases z
        · rw [b2] at z; cases z
      · cases g1
        cases g2
        exact ⟨fun _ H14 s14 => ⟨rfl, 7, by decide, rfl, fun a na => app (M13.same s14) na l7 (by decide)⟩, fun z => by omega⟩
    clear M10 l7 as
    rintro σ H11 ⟨as, l8, rfl, M11⟩
    -- not yours
    refine ⟨J 9, ?_, ?_⟩
    · refine ⟨_, rfl, .inl ⟨rfl, _, SqL.of M11.lst⟩, M11.live.tabs, fun H12 x12 T12 => ?_⟩
      have M12 := M11.extN x12 T12
      refine ⟨_, rfl, fun x dx nx ndx ndx2 => ?_⟩
      have sA : Same H12 (upd (upd H12 dx (.own x)) x (.ins CT dx [])) := fun b o e => by rw [upd_ne (ne_of_none e nx), upd_ne (ne_of_none e ndx)]; exact e
      refine ⟨x, dx, .ref p1, _, rfl, upd_same, (M12.one.same sA).2, (fun z => absurd (isb.symm.trans z) (by decide)), fun b' e' _ HX mX tX => ⟨rfl, ?_⟩⟩
      cases bushD_inj e'
      have sX : Same H12 HX := fun y o e => mX y o (sA y o e) (ne_of_none e nx)
      obtain ⟨dx2, v2, le2, lu2, vs2, us2, hins, _⟩ := id tX
      refine ⟨x, dx2, _, rfl, hins, tf_no _ _ _ (by decide), x, .int 0, _, [], [], .int 0, rfl, tX, hbo, by decide, .int 0, (fun z => by cases z), fun n e2 hn => ⟨fun _ H14 s14 => ⟨rfl, 8, by decide, rfl, fun a na => app (M12.same (sX.trans s14)) na l8 (by decide)⟩, fun z => ?_⟩⟩
      have hn0 : n = 0 := by have : n < 1 := hn; omega
      subst hn0
      exact absurd z (by decide)
    clear M11 l8 as
    rintro σ H12 ⟨as, l9, rfl, M12⟩
    -- nothing to redo
    refine ⟨J 10, ?_, ?_⟩
    · refine ⟨_, rfl, .inl ⟨rfl, _, SqL.of M12.lst⟩, M12.live.tabs, fun H13 x13 T13 => ?_⟩
      have M13 := M12.extN x13 T13
      refine ⟨_, rfl, fun x dx nx ndx ndx2 => ?_⟩
      have sA : Same H13 (upd (upd H13 dx (.own x)) x (.ins CT dx [])) := fun b o e => by rw [upd_ne (ne_of_none e nx), upd_ne (ne_of_none e ndx)]; exact e
      refine ⟨x, dx, .ref p1, _, rfl, upd_same, (M13.one.same sA).2, (fun z => absurd (isb.symm.trans z) (by decide)), fun b' e' _ HX mX tX => ⟨rfl, ?_⟩⟩
      cases bushD_inj e'
      have sX : Same H13 HX := fun y o e => mX y o (sA y o e) (ne_of_none e nx)
      obtain ⟨dx2, v2, le2, lu2, vs2, us2, hins, _⟩ := id tX
      refine ⟨x, dx2, _, rfl, hins, tf_no _ _ _ (by decide), x, _, [], [], rfl, tX, by decide, fun _ H14 s14 => ⟨rfl, 9, by decide, rfl, fun a na => app (M13.same (sX.trans s14)) na l9 (by decide)⟩, fun e l' z => ?_⟩
      have := congrArg List.length z
      simp at this
    clear M12 l9 as
    rintro σ H13 ⟨as, l10, rfl, M13⟩
    -- each alone
    refine ⟨_, rfl, l, _, rfl, SqL.of M13.lst, ?_⟩
    refine lc_J (walk_enumL (xs := as.map V.ref)) Same (fun D i ys H' => ys = (List.replicate i true).map V.bl) (goes_same H13) (by rw [List.length_map, l10]; exact szl rfl) (fun H' t => SqL.of (t _ _ M13.lst)) (fun _ _ => rfl) (fun _ _ _ _ _ _ _ _ r => r) ?_ ?_
    · rintro D E E0 i x ys H14 H15 nD eD hi t rfl ⟨T5, x5, rfl, nT, s15, eT, hx5⟩ k1 k0
      rw [List.getElem?_map] at hx5
      obtain ⟨a5, ha5, rfl⟩ := Option.map_eq_some_iff.mp hx5
      have hi10 : i < 10 := by have := (List.getElem?_eq_some_iff.mp ha5).1; omega
      have hE := s15 _ _ (t _ _ (M13.ex i a5 ha5))
      refine ⟨T5, _, rfl, SqT.of eT, rfl, _, _, rfl, _, _, rfl, rfl, rfl, _, rfl, _, rfl, a5, i, rfl, hi10, hE, fun H16 s16 => k1 _ _ (s15.trans s16) ?_⟩
      rw [List.replicate_succ', List.map_append]; rfl
    · rintro D H14 ys nD t eD _ rfl
      refine ⟨D, _, rfl, SqL.of eD, _, rfl, ?_⟩
      have hall : (List.replicate (as.map V.ref).length true).all id = true := by
        rw [List.all_eq_true]
        intro b hb
        rw [List.eq_of_mem_replicate hb]; rfl
      rw [hall]
      exact iteF ⟨rfl, (M13.same t).live⟩
  · rintro σ H2 ⟨hσ, L⟩
    exact q _
end
end Sv

set_option maxHeartbeats 4000000
namespace Sv
open PySem PySem.Spec PyProof.Rows L2 L2H HotX LamX
/-- the classes' places -/
def cls10 (l : List Addr) : Nat → Addr := fun i => l.getD i 0
theorem tabs1 {h : Heap} {c Pt : Addr} (e : h.get? Pt = some (PySem.W.tabObj #[])) : ∀ p ∈ [(c, Pt)], h.get? p.2 = some (PySem.W.tabObj #[]) := fun p hp => by rw [List.mem_singleton.mp hp]; exact e
theorem tabs2 {h : Heap} {c c2 Pt P2 : Addr} (e : h.get? Pt = some (PySem.W.tabObj #[])) (e2 : h.get? P2 = some (PySem.W.tabObj #[])) : ∀ p ∈ [(c, Pt), (c2, P2)], h.get? p.2 = some (PySem.W.tabObj #[]) := fun p hp => by
  rcases List.mem_cons.mp hp with rfl | hp
  · exact e
  · rw [List.mem_singleton.mp hp]; exact e2
section
variable {P : Program} {w : World} {K : PySem.W.Frag} {mg : Str → Option Value} {base : Heap}
/-- the end: what walk_ofTs asks of the law -/
theorem lawAt {l : PySem.W.OpenLaw} {h : Heap} {fa c : Addr} {x : Str} {st : Stmt} {cs : List (Addr × Addr)} {sp : Sp} {n k : Nat} (X : K.In h) (FL : HereC K mg "law" st c) (hfa : mg "law" = some (.ref fa)) (hT : ∀ p ∈ cs, h.get? p.2 = some (PySem.W.tabObj #[])) (hn : (cs.all fun p => (K.lookup p.2).isNone) = true) (hc : (cs.all fun p => PySem.W.codeHdIn K p.1 p.2) = true)
    (hb : ∀ (kV doc pm : Value) (an : Option Addr) (cdv ct : Value) (us : List Value), us.length = 1 → bindArgs (PySem.W.fnOf "law" "law" (defArgs st) (defBody st) (defScope st) .none kV doc pm an cdv ct) ⟨us, []⟩ = pure ([x].zip us))
    (hsp : ∀ (H : Hp) (a : Addr) (ns : List Int), ns.length ≤ n → (∀ z ∈ ns, Builtin.Int.intBits z ≤ 1048576) → (∀ p ∈ cs, H p.2 = some (.tbl #[])) → SqL K H a (ns.map V.int) → sp [.ref a] H (fun v _ => v = .bl true) fun _ _ _ => False)
    (ok : ∀ base : Heap, K.In base → base.Ns mainGlobals mg → (∀ p ∈ cs, TabB base mg p.1 p.2) → KeepsC l.prog w K mg base CX0 k "law" [x] sp) : LawAtS l w K CX0 k n x mg fa h := by
  obtain ⟨f, oc, od, kV, doc, pm, an, ct, osl, g, lk, hcd, hk⟩ := FL
  cases hfa.symm.trans g
  refine ⟨PySem.W.fnOf "law" "law" (defArgs st) (defBody st) (defScope st) .none kV doc pm an (.ref c) ct, cs, sp, fun p hp => hT p hp, fun p hp => ?_, fun p hp => PySem.W.codeHd_of_K X (List.all_eq_true.mp hc p hp), fun s u => .of_eq (hb kV doc pm an _ ct [u] rfl), hsp, fun base KB GB TB => ?_⟩
  · have := List.all_eq_true.mp hn p hp
    exact Option.isNone_iff_eq_none.mp this
  · obtain ⟨f', fd', ⟨oc', od', osl', lk'⟩, g', F⟩ := ok base KB GB TB
    cases g.symm.trans g'
    rw [lk] at lk'
    cases lk'
    exact F
end
theorem walk {l : PySem.W.OpenLaw} {n k : Nat} {q : Program} {loose : List Str} {XP : (Str → Option Value) → Heap → Prop} {YP : World → Heap → Prop} {d : DefRec} {K : Params → PySem.W.Frag} {x : Str}
    (hn : l.most = some n) (hn2 : n ≤ sizeLine) (hdf : d.params.defaults = []) (hr : Room k callerA) (hY : ∀ (w : World) (h : Heap), YP w h → (K w.params).In h)
    (F : ∀ (w : World) (mg : Str → Option Value) (fa : Addr) (h : Heap), YP w h → (K w.params).In h → h.Ns mainGlobals mg → mg d.name = some (.ref fa) → LawAtS l w (K w.params) CX0 k n x mg fa h) :
    PySem.W.WalkO q loose XP YP l.row.toRowW d [] (fun f vs => PySem.call f vs) :=
  walk_ofTs (CX := fun _ => CX0) hn hn2 hdf hr hY F fun _ _ _ _ _ z => z
end Sv

set_option maxHeartbeats 4000000
namespace Sv
open PySem PySem.Spec PyProof.Rows L2 L2H HotX LamX
theorem fin {l : PySem.W.OpenLaw} {w : World} {K : PySem.W.Frag} {mg : Str → Option Value} {h : Heap} {fa c Pt CS C_Book C_Table : Addr} {C : Nat → Addr} (X : K.In h) (G : h.Ns mainGlobals mg) (hfa : mg "law" = some (.ref fa))
    (F_law_met : Here K mg "_law_met" s_law_met) (F_law_cell : Here K mg "_law_cell" s_law_cell) (F_law_rounds : Here K mg "_law_rounds" s_law_rounds) (F_law_drawn : Here K mg "_law_drawn" s_law_drawn) (F_law_roll : Here K mg "_law_roll" s_law_roll) (F_law_alone : Here K mg "_law_alone" s_law_alone) (F_is_whole : Here K mg "is_whole" s_is_whole) (F_is_stem : Here K mg "is_stem" s_is_stem) (F_is_bush : Here K mg "is_bush" s_is_bush) (F_need_bush : Here K mg "need_bush" s_need_bush) (F_without : Here K mg "without" s_without) (F_cuts_of : Here K mg "cuts_of" s_cuts_of) (F_worth_of : Here K mg "worth_of" s_worth_of) (F_worth : Here K mg "worth" s_worth) (F_need_stem : Here K mg "need_stem" s_need_stem) (F_after_cut : Here K mg "after_cut" s_after_cut) (F_need_player : Here K mg "need_player" s_need_player) (F_other_player : Here K mg "other_player" s_other_player) (F_wins_first : Here K mg "wins_first" s_wins_first) (F_winning_cut : Here K mg "winning_cut" s_winning_cut) (F_stalk_bush : Here K mg "stalk_bush" s_stalk_bush) (F_of_stalk : Here K mg "of_stalk" s_of_stalk) (F_is_number : Here K mg "is_number" s_is_number) (F_need_number : Here K mg "need_number" s_need_number) (F_is_under : Here K mg "is_under" s_is_under) (F_best_integer : Here K mg "best_integer" s_best_integer) (F_simplest : Here K mg "simplest" s_simplest) (F_stem_of : Here K mg "stem_of" s_stem_of) (F_parse_bush : Here K mg "parse_bush" s_parse_bush) (F_lowest : Here K mg "lowest" s_lowest) (F_middle : Here K mg "middle" s_middle) (F_stalk_of : Here K mg "stalk_of" s_stalk_of) (A_Book : PySem.W.nsIn K mainGlobals "Book" = some (some (.ref C_Book))) (A_Table : PySem.W.nsIn K mainGlobals "Table" = some (some (.ref C_Table))) (M_Book_init : HereM K C_Book "__init__" "Book.__init__" s_Book_init) (M_Book_enter : HereM K C_Book "enter" "Book.enter" s_Book_enter) (M_Book_is_most : HereM K C_Book "is_most" "Book.is_most" s_Book_is_most) (M_Book_answer_back : HereM K C_Book "answer_back" "Book.answer_back" s_Book_answer_back) (M_Book_plain_options : HereM K C_Book "plain_options" "Book.plain_options" s_Book_plain_options) (M_Book_best_options : HereM K C_Book "best_options" "Book.best_options" s_Book_best_options) (M_Book_least : HereM K C_Book "least" "Book.least" s_Book_least) (M_Book_of_bush : HereM K C_Book "of_bush" "Book.of_bush" s_Book_of_bush) (M_Book_written : HereM K C_Book "written" "Book.written" s_Book_written) (M_Table_init : HereM K C_Table "__init__" "Table.__init__" s_Table_init) (M_Table_player : HereM K C_Table "player" "Table.player" s_Table_player) (M_Table_cut : HereM K C_Table "cut" "Table.cut" s_Table_cut) (M_Table_redo : HereM K C_Table "redo" "Table.redo" s_Table_redo) (Z_Book : clsB K C_Book fldsB = true) (Z_Table : clsB K C_Table fldsT = true)
    (FL : HereC K mg "law" s_law c) (hB : bltB K = true) (hE : excsB K C CS = true) (hT : ∀ p ∈ [(c, Pt)], h.get? p.2 = some (PySem.W.tabObj #[])) (hn : (K.lookup Pt).isNone = true) (hc : PySem.W.codeHdIn K c Pt = true)  :
    LawAtS l w K CX0 40 63 "script" mg fa h := by
  have B := blt_of X G hB
  have Ex := excs_of X G hE
  refine lawAt (st := s_law) (c := c) (cs := [(c, Pt)]) (sp := spLaw K Pt) X FL hfa hT (by simp only [List.all_cons, List.all_nil, hn]; rfl) (by simp only [List.all_cons, List.all_nil, hc]; rfl) (fun _ _ _ _ _ _ us hl => match us, hl with | [_], _ => rfl) ?_ ?_
  · intro H a ns hl _ hH hS
    refine ⟨a, ns, rfl, hS, hl, fun p hp => ?_, fun _ => rfl⟩
    rw [List.mem_singleton.mp hp]
    exact TabS.nil (hH _ (List.mem_singleton.mpr rfl))
  · intro base _ _ TB
    have T_Book := clsT_of X G A_Book Z_Book
    have T_Table := clsT_of X G A_Table Z_Table
    have d_cell := k_cell (P := l.prog) (w := w) (base := base) F_law_cell B
    have d_rounds := k_rounds F_law_rounds B d_cell
    have d_drawn := k_drawn (P := l.prog) (w := w) (base := base) F_law_drawn
    have d_roll := k_roll F_law_roll d_drawn
    have d_alone := k_alone (P := l.prog) (w := w) (base := base) F_law_alone B Ex
    have d_whole := k_whole (P := l.prog) (w := w) (base := base) F_is_whole B
    have d_stem := k_is_stem F_is_stem B d_whole
    have d_bush := k_is_bush F_is_bush B d_stem
    have d_nb := k_need_bush (C := C) F_need_bush (Ex.one 0 _ rfl) d_bush
    have d_binit := k_b_init (P := l.prog) (w := w) (base := base) M_Book_init T_Book
    have d_wo := k_without (P := l.prog) (w := w) (base := base) F_without B
    have d_co := k_cuts_of (P := l.prog) (w := w) (base := base) F_cuts_of B
    have d_enter := k_enter (P := l.prog) (w := w) (base := base) M_Book_enter T_Book B
    have d_most := k_most (P := l.prog) (w := w) (base := base) M_Book_is_most T_Book B 15
    have d_back := k_back M_Book_answer_back T_Book d_most
    have d_plain := k_plain M_Book_plain_options T_Book B d_back
    have d_best := k_best M_Book_best_options T_Book B d_most
    have d_bleast := k_least M_Book_least T_Book d_enter d_plain d_best
    have d_ofb := k_of M_Book_of_bush T_Book B d_wo d_co d_bleast 8
    have d_written := k_written (P := l.prog) (w := w) (base := base) M_Book_written T_Book B 8
    have d_wof := k_worth_of F_worth_of T_Book d_binit d_ofb d_written
    have d_worth := k_worth F_worth d_nb d_wof
    have d_ns := k_need_stem (C := C) F_need_stem B (Ex.one 1 _ rfl) d_whole
    have d_after := k_after_cut F_after_cut d_nb d_ns d_wo
    have d_np := k_need_player (P := l.prog) (w := w) (base := base) (C := C) F_need_player B (Ex.one 2 _ rfl)
    have d_other := k_other (P := l.prog) (w := w) (base := base) F_other_player
    have d_wins := k_wins F_wins_first B d_other d_wo d_co 8
    have d_cut := k_win_cut F_winning_cut d_nb d_np d_other d_wo d_co d_wins
    have d_sb := k_stalk_bush (P := l.prog) (w := w) (base := base) F_stalk_bush B
    have d_of := k_of_stalk F_of_stalk B (Ex.one 3 _ rfl) d_sb
    have d_isnum := k_is_number F_is_number B d_whole
    have d_neednum := k_need_number (C := C) F_need_number (Ex.one 4 _ rfl) d_isnum
    have d_under := k_under (P := l.prog) (w := w) (base := base) F_is_under
    have d_besti := k_bestI (P := l.prog) (w := w) (base := base) F_best_integer
    have d_simp := k_simplest F_simplest (Ex.one 7 _ rfl) d_neednum d_under d_besti
    have d_stemof := k_stem_of (P := l.prog) (w := w) (base := base) (C := C) F_stem_of B (Ex.one 5 _ rfl)
    have d_parse := k_parse F_parse_bush B (Ex.one 5 _ rfl) d_stemof d_bush
    have d_lowest := k_lowest (P := l.prog) (w := w) (base := base) F_lowest
    have d_mid := k_middle F_middle d_lowest
    have d_stalk := k_stalk_of F_stalk_of B (Ex.one 6 _ rfl) d_neednum d_under d_mid
    have d_tinit := k_t_init M_Table_init T_Table d_nb
    have d_tplayer := k_t_player (P := l.prog) (w := w) (base := base) M_Table_player T_Table B
    have d_tcut := k_t_cut M_Table_cut T_Table (Ex.one 8 _ rfl) d_ns d_co d_tplayer d_wo
    have d_tredo := k_t_redo (P := l.prog) (w := w) (base := base) (C := C) M_Table_redo T_Table (Ex.one 9 _ rfl)
    exact k_law FL F_law_met B Ex (TB _ (List.mem_singleton.mpr rfl)) T_Table d_rounds d_roll d_alone d_worth d_after d_cut d_of d_simp d_parse d_stalk d_tinit d_tcut d_tredo
end Sv

open PySem PySem.W PyProof.Rows in
set_option maxRecDepth 100000 in
set_option maxHeartbeats 0 in
theorem PySem.Challenge.cw_stemvalues_k21_errors_apart_holds : PySem.Challenge.rw_stemvalues_k21_errors_apart.Holds := by
  w_on; o_law; k_head; (case hw => w_witness2)
  k_fill
  refine Sv.walk (l := PySem.Challenge.rw_stemvalues_k21_errors_apart) (n := 63) (k := 40) (x := "script") rfl (by decide) rfl ⟨rfl, by decide, by decide⟩ (fun w h Y => PySem.W.km_in_of Y) ?F
  case F =>
    intro w mg fa h Y KX G hmg
    refine' Sv.fin (Pt := 489) (CS := 24) (C := Sv.cls10 [37,49,61,73,85,97,109,121,133,145]) KX G hmg (Sv.here_mk KX G ?a0 ?l0 ?c0 ?k0) (Sv.here_mk KX G ?a1 ?l1 ?c1 ?k1) (Sv.here_mk KX G ?a2 ?l2 ?c2 ?k2) (Sv.here_mk KX G ?a3 ?l3 ?c3 ?k3) (Sv.here_mk KX G ?a4 ?l4 ?c4 ?k4) (Sv.here_mk KX G ?a5 ?l5 ?c5 ?k5) (Sv.here_mk KX G ?a6 ?l6 ?c6 ?k6) (Sv.here_mk KX G ?a7 ?l7 ?c7 ?k7) (Sv.here_mk KX G ?a8 ?l8 ?c8 ?k8) (Sv.here_mk KX G ?a9 ?l9 ?c9 ?k9) (Sv.here_mk KX G ?a10 ?l10 ?c10 ?k10) (Sv.here_mk KX G ?a11 ?l11 ?c11 ?k11) (Sv.here_mk KX G ?a12 ?l12 ?c12 ?k12) (Sv.here_mk KX G ?a13 ?l13 ?c13 ?k13) (Sv.here_mk KX G ?a14 ?l14 ?c14 ?k14) (Sv.here_mk KX G ?a15 ?l15 ?c15 ?k15) (Sv.here_mk KX G ?a16 ?l16 ?c16 ?k16) (Sv.here_mk KX G ?a17 ?l17 ?c17 ?k17) (Sv.here_mk KX G ?a18 ?l18 ?c18 ?k18) (Sv.here_mk KX G ?a19 ?l19 ?c19 ?k19) (Sv.here_mk KX G ?a20 ?l20 ?c20 ?k20) (Sv.here_mk KX G ?a21 ?l21 ?c21 ?k21) (Sv.here_mk KX G ?a22 ?l22 ?c22 ?k22) (Sv.here_mk KX G ?a23 ?l23 ?c23 ?k23) (Sv.here_mk KX G ?a24 ?l24 ?c24 ?k24) (Sv.here_mk KX G ?a25 ?l25 ?c25 ?k25) (Sv.here_mk KX G ?a26 ?l26 ?c26 ?k26) (Sv.here_mk KX G ?a27 ?l27 ?c27 ?k27) (Sv.here_mk KX G ?a28 ?l28 ?c28 ?k28) (Sv.here_mk KX G ?a29 ?l29 ?c29 ?k29) (Sv.here_mk KX G ?a30 ?l30 ?c30 ?k30) (Sv.here_mk KX G ?a31 ?l31 ?c31 ?k31) ?n32 ?n33 (Sv.hereM_mk ?a34 ?i34 ?l34 ?c34 ?k34) (Sv.hereM_mk ?a35 ?i35 ?l35 ?c35 ?k35) (Sv.hereM_mk ?a36 ?i36 ?l36 ?c36 ?k36) (Sv.hereM_mk ?a37 ?i37 ?l37 ?c37 ?k37) (Sv.hereM_mk ?a38 ?i38 ?l38 ?c38 ?k38) (Sv.hereM_mk ?a39 ?i39 ?l39 ?c39 ?k39) (Sv.hereM_mk ?a40 ?i40 ?l40 ?c40 ?k40) (Sv.hereM_mk ?a41 ?i41 ?l41 ?c41 ?k41) (Sv.hereM_mk ?a42 ?i42 ?l42 ?c42 ?k42) (Sv.hereM_mk ?a43 ?i43 ?l43 ?c43 ?k43) (Sv.hereM_mk ?a44 ?i44 ?l44 ?c44 ?k44) (Sv.hereM_mk ?a45 ?i45 ?l45 ?c45 ?k45) (Sv.hereM_mk ?a46 ?i46 ?l46 ?c46 ?k46) ?z47 ?z48 (Sv.hereC_mk KX G ?a49 ?l49 ?c49 ?k49) ?z50 ?z51 (Sv.tabs1 (PySem.W.km_tabs_of Y 489 (List.mem_singleton.mpr rfl))) ?z53 ?z54
    (case a0 => k_is)
    (case l0 => k_is)
    (case c0 => k_is)
    (case k0 => k_is)
    (case a1 => k_is)
    (case l1 => k_is)
    (case c1 => k_is)
    (case k1 => k_is)
    (case a2 => k_is)
    (case l2 => k_is)
    (case c2 => k_is)
    (case k2 => k_is)
    (case a3 => k_is)
    (case l3 => k_is)
    (case c3 => k_is)
    (case k3 => k_is)
    (case a4 => k_is)
    (case l4 => k_is)
    (case c4 => k_is)
    (case k4 => k_is)
    (case a5 => k_is)
    (case l5 => k_is)
    (case c5 => k_is)
    (case k5 => k_is)
    (case a6 => k_is)
    (case l6 => k_is)
    (case c6 => k_is)
    (case k6 => k_is)
    (case a7 => k_is)
    (case l7 => k_is)
    (case c7 => k_is)
    (case k7 => k_is)
    (case a8 => k_is)
    (case l8 => k_is)
    (case c8 => k_is)
    (case k8 => k_is)
    (case a9 => k_is)
    (case l9 => k_is)
    (case c9 => k_is)
    (case k9 => k_is)
    (case a10 => k_is)
    (case l10 => k_is)
    (case c10 => k_is)
    (case k10 => k_is)
    (case a11 => k_is)
    (case l11 => k_is)
    (case c11 => k_is)
    (case k11 => k_is)
    (case a12 => k_is)
    (case l12 => k_is)
    (case c12 => k_is)
    (case k12 => k_is)
    (case a13 => k_is)
    (case l13 => k_is)
    (case c13 => k_is)
    (case k13 => k_is)
    (case a14 => k_is)
    (case l14 => k_is)
    (case c14 => k_is)
    (case k14 => k_is)
    (case a15 => k_is)
    (case l15 => k_is)
    (case c15 => k_is)
    (case k15 => k_is)
    (case a16 => k_is)
    (case l16 => k_is)
    (case c16 => k_is)
    (case k16 => k_is)
    (case a17 => k_is)
    (case l17 => k_is)
    (case c17 => k_is)
    (case k17 => k_is)
    (case a18 => k_is)
    (case l18 => k_is)
    (case c18 => k_is)
    (case k18 => k_is)
    (case a19 => k_is)
    (case l19 => k_is)
    (case c19 => k_is)
    (case k19 => k_is)
    (case a20 => k_is)
    (case l20 => k_is)
    (case c20 => k_is)
    (case k20 => k_is)
    (case a21 => k_is)
    (case l21 => k_is)
    (case c21 => k_is)
    (case k21 => k_is)
    (case a22 => k_is)
    (case l22 => k_is)
    (case c22 => k_is)
    (case k22 => k_is)
    (case a23 => k_is)
    (case l23 => k_is)
    (case c23 => k_is)
    (case k23 => k_is)
    (case a24 => k_is)
    (case l24 => k_is)
    (case c24 => k_is)
    (case k24 => k_is)
    (case a25 => k_is)
    (case l25 => k_is)
    (case c25 => k_is)
    (case k25 => k_is)
    (case a26 => k_is)
    (case l26 => k_is)
    (case c26 => k_is)
    (case k26 => k_is)
    (case a27 => k_is)
    (case l27 => k_is)
    (case c27 => k_is)
    (case k27 => k_is)
    (case a28 => k_is)
    (case l28 => k_is)
    (case c28 => k_is)
    (case k28 => k_is)
    (case a29 => k_is)
    (case l29 => k_is)
    (case c29 => k_is)
    (case k29 => k_is)
    (case a30 => k_is)
    (case l30 => k_is)
    (case c30 => k_is)
    (case k30 => k_is)
    (case a31 => k_is)
    (case l31 => k_is)
    (case c31 => k_is)
    (case k31 => k_is)
    (case n32 => k_is)
    (case n33 => k_is)
    (case a34 => k_is)
    (case i34 => k_is)
    (case l34 => k_is)
    (case c34 => k_is)
    (case k34 => k_is)
    (case a35 => k_is)
    (case i35 => k_is)
    (case l35 => k_is)
    (case c35 => k_is)
    (case k35 => k_is)
    (case a36 => k_is)
    (case i36 => k_is)
    (case l36 => k_is)
    (case c36 => k_is)
    (case k36 => k_is)
    (case a37 => k_is)
    (case i37 => k_is)
    (case l37 => k_is)
    (case c37 => k_is)
    (case k37 => k_is)
    (case a38 => k_is)
    (case i38 => k_is)
    (case l38 => k_is)
    (case c38 => k_is)
    (case k38 => k_is)
    (case a39 => k_is)
    (case i39 => k_is)
    (case l39 => k_is)
    (case c39 => k_is)
    (case k39 => k_is)
    (case a40 => k_is)
    (case i40 => k_is)
    (case l40 => k_is)
    (case c40 => k_is)
    (case k40 => k_is)
    (case a41 => k_is)
    (case i41 => k_is)
    (case l41 => k_is)
    (case c41 => k_is)
    (case k41 => k_is)
    (case a42 => k_is)
    (case i42 => k_is)
    (case l42 => k_is)
    (case c42 => k_is)
    (case k42 => k_is)
    (case a43 => k_is)
    (case i43 => k_is)
    (case l43 => k_is)
    (case c43 => k_is)
    (case k43 => k_is)
    (case a44 => k_is)
    (case i44 => k_is)
    (case l44 => k_is)
    (case c44 => k_is)
    (case k44 => k_is)
    (case a45 => k_is)
    (case i45 => k_is)
    (case l45 => k_is)
    (case c45 => k_is)
    (case k45 => k_is)
    (case a46 => k_is)
    (case i46 => k_is)
    (case l46 => k_is)
    (case c46 => k_is)
    (case k46 => k_is)
    (case a49 => k_is)
    (case l49 => k_is)
    (case c49 => k_is)
    (case k49 => k_is)
    (case z47 => kernel_rfl)
    (case z48 => kernel_rfl)
    (case z50 => kernel_rfl)
    (case z51 => kernel_rfl)
    (case z53 => kernel_rfl)
    (case z54 => kernel_rfl)

