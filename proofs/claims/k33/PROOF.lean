import PyProof.Rows.All
import Wide.All
import OpenK.AllK
import Wide.FinOn
import HandS.ForMost
import HandS.Exc
import HandS.ExcInit
import HandS.TryOnly
import HandS.WordsExc
import HandS.IterVal
import HandS.OwnIter
import HandS.Star
import HandS.TupAny
import HandS.DictComp
import HandS.IsInst
import HandS.Deep
import HandS.Small
import HandS.Style
import HandS.Flow
import HandS.Wide
import HandS.SortRule
import HandS.SetKeys
import HandS.RaiseMore
import KE.SortKeyHeap
import PySem.Challenge.RW_refusedahead_k33_whole_cells_far_out
import KE.KDictSum
import KE.KDictCopyH
import HandS.SortKw
import KE.KDictPairs
import HandS.ReHeld
import KE.SortData
import HandS.TupSets
import HandS.Ends
import HandS.ExcIs
section
set_option Elab.async false
set_option linter.all false
set_option maxRecDepth 100000
set_option maxHeartbeats 4000000
namespace RA
open PySem PySem.Spec PyProof.Rows L2
/-! ## own operators -/
section
variable {X : Cx} {C f g : Addr} {fd : FuncData} {ps : List Str} {sp : Sp} {k : Nat} {CX : CXT} {E : XK}
/-- an instance of the class at C, at the heap of the model -/
theorem insAt {pins : List (Addr × Obj)} {st : L2.St} {H : Hp} {s : Shared} {a dx : Addr} {fs : List (Str × V)} (I : Inv X pins st H s) (e : H a = some (.ins C dx fs)) :
    ∃ ox od, PySem.W.InstAt s.heap a ox C od := by
  obtain ⟨mA, J, _⟩ := ins_get I.hok e
  obtain ⟨od, J', _⟩ := J.look
  exact ⟨_, _, J'⟩
/-- a op b of two instances of one class with its own method -/
def rOwn (C : Addr) (sp : Sp) (E : XK) : R2 := fun x y H Q => ∃ a b dx dy fs gs, x = .ref a ∧ y = .ref b ∧ H a = some (.ins C dx fs) ∧ H b = some (.ins C dy gs) ∧
  sp [.ref a, .ref b] H (fun v H' => ∃ p, v = .ref p ∧ Q v H') E
theorem op_own {op : Operator} (F : FnOk X.prog X.w X.K X.mg X.base CX k f fd ps sp) (hr : Room k X.A) (hb : Binds X.K fd ps []) (hx : Passes CX X E) (hc : PySem.W.selfFirst X.K C = true)
    (hs : PySem.W.findIn X.K (.ref C) (PySem.dunder op.info.2) = some (some (.ref f))) (hf : PySem.W.isFn X.K (.ref f) = true) : OpR X (binaryOp op) (rOwn C sp E) := by
  intro pins s st H x y v u Q I rx ry h
  obtain ⟨a, b, dx, dy, fs, gs, rfl, rfl, ha, hb', q⟩ := h
  obtain rfl : v = Value.ref a := rx
  obtain rfl : u = Value.ref b := ry
  obtain ⟨ox, od, J⟩ := insAt I ha
  obtain ⟨oy, oe, J2⟩ := insAt I hb'
  obtain ⟨m, hF⟩ := I.fr
  refine PySem.W.binop_K hF I.ok.mod.kin J J2.type hc hs hf ?_
  refine thn (run_fn (Q := fun v H' => ∃ p, v = V.ref p ∧ Q v H') F hr hb (dvs := []) (vs := [V.ref a, V.ref b]) .nil hx I (.cons rfl (.cons rfl .nil)) (by simpa using q)) fun w' s' hw => ?_
  obtain ⟨z, H', I', rz, ⟨p, rfl, q'⟩⟩ := hw
  obtain rfl : w' = Value.ref p := rz
  exact ⟨V.ref p, H', I', rfl, q'⟩
/-- op a of an instance -/
def rOwn1 (C : Addr) (sp : Sp) (E : XK) : V → Hp → VK → Prop := fun x H Q => ∃ a dx fs, x = .ref a ∧ H a = some (.ins C dx fs) ∧ sp [.ref a] H Q E
theorem un_ownInv (F : FnOk X.prog X.w X.K X.mg X.base CX k f fd ps sp) (hr : Room k X.A) (hb : Binds X.K fd ps []) (hx : Passes CX X E)
    (hs : PySem.W.findIn X.K (.ref C) "__invert__" = some (some (.ref f))) (hf : PySem.W.isFn X.K (.ref f) = true) : UnR X (unaryOp .Invert) (rOwn1 C sp E) := by
  intro pins s st H x v Q I rx h
  obtain ⟨a, dx, fs, rfl, ha, q⟩ := h
  obtain rfl : v = Value.ref a := rx
  obtain ⟨ox, od, J⟩ := insAt I ha
  obtain ⟨m, hF⟩ := I.fr
  exact PySem.W.ksp_inv hF I.ok.mod.kin J hs hf (run_fn F hr hb (dvs := []) (vs := [V.ref a]) .nil hx I (.cons rfl .nil) (by simpa using q))
/-- x in o, o an instance -/
theorem op_ownIn (F : FnOk X.prog X.w X.K X.mg X.base CX k f fd ps sp) (hr : Room k X.A) (hb : Binds X.K fd ps []) (hx : Passes CX X E)
    (hs : PySem.W.findIn X.K (.ref C) "__contains__" = some (some (.ref f))) (hf : PySem.W.isFn X.K (.ref f) = true) : OpR X (compareOp .In)
      (fun x y H Q => ∃ a dx fs, y = .ref a ∧ H a = some (.ins C dx fs) ∧ sp [.ref a, x] H (fun v H' => ∃ b, v = .bl b ∧ Q v H') E) := by
  intro pins s st H x y v u Q I rx ry h
  obtain ⟨a, dx, fs, rfl, ha, q⟩ := h
  obtain rfl : u = Value.ref a := ry
  obtain ⟨ox, od, J⟩ := insAt I ha
  obtain ⟨m, hF⟩ := I.fr
  refine PySem.W.in_K hF I.ok.mod.kin J hs hf (thn (run_fn (Q := fun v H' => ∃ b, v = V.bl b ∧ Q v H') F hr hb (dvs := []) (vs := [V.ref a, x]) .nil hx I (.cons rfl (.cons rx .nil)) (by simpa using q)) fun r s' hw => ?_)
  obtain ⟨z, H', I', rz, b, rfl, q'⟩ := hw
  obtain rfl : r = Value.bool b := rz
  unfold truthy
  exact wpAny_pure ⟨V.bl b, H', I', rfl, q'⟩
/-- len(o), o an instance -/
def rOwnLen (C : Addr) (sp : Sp) (E : XK) : List V → Hp → VK → Prop := fun xs H Q => ∃ a dx fs, xs = [.ref a] ∧ H a = some (.ins C dx fs) ∧
  sp [.ref a] H (fun v H' => ∃ n : Nat, v = .int n ∧ n < 2 ^ 63 ∧ Q v H') E
theorem call_ownLen (F : FnOk X.prog X.w X.K X.mg X.base CX0 k f fd ps sp) (hr : Room (k + 1) X.A) (hb : Binds X.K fd ps [])
    (hs : PySem.W.findIn X.K (.ref C) "__len__" = some (some (.ref f))) (hf : PySem.W.isFn X.K (.ref f) = true) : CallR X (.builtin "len") (rOwnLen C sp E0) := by
  intro pins s st H xs us Q I rx h
  obtain ⟨a, dx, fs, rfl, ha, q⟩ := h
  obtain rfl := Vals.ref1 rx
  obtain ⟨ox, od, J⟩ := insAt I ha
  obtain ⟨m, hF⟩ := I.fr
  refine PySem.W.len_K hF I.ok.mod.kin J hs hf ?_
  have e0 : Env0 X.prog X.w X.K X.mg X.base X.A.in1 X.stack s H := I.env0.in1
  have r2 : Vals [V.ref a] [Value.ref a] := .cons rfl .nil
  have hl := F.len _ _ _ _ q
  refine wpAny_call (codeAny_mono (F.run X.A.in1 X.stack s H ⟨[.ref a], []⟩ [.ref a] [.ref a] _ E0 hr.in1 e0 (by
    have := hb s [.ref a] I.kIn (by simpa using hl)
    simpa using this) r2 q) fun r s' hq => ?_)
  cases r with
  | error e => exact False.elim hq
  | ok fl =>
    cases fl with
    | ret u =>
      obtain ⟨z, H', I', rz, n, rfl, hn, q'⟩ := I.after hq
      obtain ⟨t, rfl⟩ := rz
      exact ⟨⟨by omega, by omega⟩, V.int n, H', I'.tok _, ⟨_, rfl⟩, q'⟩
    | next => exact False.elim hq
    | brk => exact False.elim hq
    | cont => exact False.elim hq
end
end RA
end

section
set_option Elab.async false
set_option linter.all false
set_option maxRecDepth 100000
set_option maxHeartbeats 4000000
namespace RA
open PySem PySem.Spec PyProof.Rows L2
/-! ## a def whose promise looks at the size of the heap at its entry -/
structure FnAt (P : Program) (w : World) (K : PySem.W.Frag) (mg : Str → Option Value) (base : Heap) (k : Nat) (f : Addr) (fd : FuncData) (ps : List Str) (sp : Around → Nat → List V → Hp → VK → Prop) : Prop where
  len : ∀ A n vs H Q, sp A n vs H Q → vs.length = ps.length
  run : ∀ (A : Around) (outer : List Env) (s : Shared) (H : Hp) (args : Args) (us : List Value) (vs : List V) (Q : VK), Room k A → Env0 P w K mg base A outer s H → BindsTo s fd args (ps.zip us) → Vals vs us →
    sp A s.heap.objs.size vs H Q → codeAny (model P w) A (.call (.ref f) args) (CR CX0 outer P w H s Q E0) s
theorem fnAt_of {P : Program} {w : World} {K : PySem.W.Frag} {mg : Str → Option Value} {base : Heap} {x qual : Str} {st : Stmt} {f : Addr} {fd : FuncData} {N ps : List Str} {k : Nat} {sp : Around → Nat → List V → Hp → VK → Prop}
    (F : Fun K x qual st f fd) (S : FnScope N ps (defScope st)) (len : ∀ A n vs H Q, sp A n vs H Q → vs.length = ps.length)
    (body : ∀ (cdv : Value) (A : Around) (outer : List Env) (s : Shared) (H : Hp) (vs : List V) (Q : VK), Room k (A.deeper (envOfC qual (defScope st) s.heap.objs.size f cdv)) → sp A s.heap.objs.size vs H Q →
      ∃ t, PSs (cxOf CX0 P w K mg base N qual (defScope st) f cdv A outer s H E0).nox (defBody st) t ∧ t { nx := fun _ H' => Q .non H', rt := Q } (start N vs) H) :
    FnAt P w K mg base (k + 1) f fd ps sp := by
  obtain ⟨oc, od, kV, doc, pm, an, cdv, ct, osl, rfl, lk, hcd⟩ := F.ex
  refine ⟨len, fun A outer s H args us vs Q hr e0 hb r hsp => ?_⟩
  have many := len _ _ _ _ _ hsp
  have stays : K.In s.heap := e0.mod.kin.keeps fun b o e => (e0.bs b o e).1
  have limit : s.heap.NoLimit := e0.mod.nolimit.keeps fun b o e => (e0.bs b o e).1
  refine codeAny_call_function hr.depth (stays _ _ lk) rfl S.co S.gen rfl (PySem.W.codeRec_of stays hcd) (hb _ _ _ _ ?_)
  refine wpAny_newFunctionEnv_cells S.kind (fun ⟨n, v⟩ hy => ?_) fun env he s1 made => ?_
  · cases S.par n (List.of_mem_zip hy).1 with
    | inl q => exact Or.inl q
    | inr q => exact Or.inr ⟨q, PySem.W.cellsFrom_some _ _ _ (Or.inl q)⟩
  · subst he
    refine ⟨limit.keeps made.toInCall.keep, codeAny_func ?_⟩
    obtain ⟨t, ht, hq⟩ := body cdv A outer s H vs Q (hr.deeper _) hsp
    have I := inv_start (CX := CX0) (E := E0) S hr.hd e0 many r made
    refine wpAny_mono (ht.nox.run [] s1 _ H _ I hq) (fun fl s' hs => ?_) fun e s' hs => hs
    cases fl with
    | ret u =>
      obtain ⟨v, z, H', J, rv, q⟩ := hs
      exact ⟨v, H', J.os, J.bare, J.base, J.hok, rv, q⟩
    | next =>
      obtain ⟨z, H', J, q⟩ := hs
      exact ⟨V.non, H', J.os, J.bare, J.base, J.hok, rfl, q⟩
    | brk =>
      obtain ⟨_, _, _, q⟩ := hs
      exact q.elim
    | cont =>
      obtain ⟨_, _, _, q⟩ := hs
      exact q.elim
/-- what the own __iter__ promises: a new iterator of the list in the field -/
def spIter (K : PySem.W.Frag) (C : Addr) (fld : Str) : Around → Nat → List V → Hp → VK → Prop := fun _ n vs H Q => ∃ (a dx l : Addr) (fs : List (Str × V)) (xs : List V), vs = [.ref a] ∧ H a = some (.ins C dx fs) ∧ fs.lookup fld = some (.ref l) ∧ SqL K H l xs ∧
  ∀ it, H it = Option.none → n ≤ it → Q (.ref it) (upd H it (ItO l it 0))
/-- for x in o, o an instance whose __iter__ hands out the iterator of its list -/
def iOwn (K : PySem.W.Frag) (C : Addr) (fld : Str) (te : TE) : TI := fun st H R => te st H fun x H1 => ∃ (a dx l : Addr) (fs : List (Str × V)) (xs : List V), x = .ref a ∧ H1 a = some (.ins C dx fs) ∧ fs.lookup fld = some (.ref l) ∧
  SqL K H1 l xs ∧ R (Itl K l) H1
section
variable {X : Cx} {C f : Addr} {fd : FuncData} {ps : List Str} {k : Nat} {tg e : Expr} {te : TE} {fld : Str}
theorem pi_own (he : PE X e te) (F : FnAt X.prog X.w X.K X.mg X.base k f fd ps (spIter X.K C fld)) (hr : Room k X.A) (hb : Binds X.K fd ps [])
    (hs : PySem.W.findIn X.K (.ref C) "__iter__" = some (some (.ref f))) (hf : PySem.W.isFn X.K (.ref f) = true) : PI X tg e (iOwn X.K C fld te) := by
  refine ⟨fun pins s st H R I h => ?_⟩
  refine thn (he.run pins s st H _ I h) fun u s1 hh => ?_
  obtain ⟨x, H1, I1, rx, a, dx, l, fs, xs, rfl, ha, hl, hq, q⟩ := hh
  obtain rfl : u = Value.ref a := rx
  obtain ⟨ox, od, J⟩ := insAt I1 ha
  obtain ⟨m, hF⟩ := I1.fr
  refine PySem.W.owit_iter hF I1.ok.mod.kin J hs hf ?_
  have hsp : spIter X.K C fld X.A s1.heap.objs.size [.ref a] H1 (fun v H' => ∃ it, v = .ref it ∧ H1 it = Option.none ∧ s1.heap.objs.size ≤ it ∧ H' = upd H1 it (ItO l it 0)) :=
    ⟨a, dx, l, fs, xs, rfl, ha, hl, hq, fun it h1 h2 => ⟨it, rfl, h1, h2, rfl⟩⟩
  have r2 : Vals [V.ref a] [Value.ref a] := .cons rfl .nil
  have many := F.len _ _ _ _ _ hsp
  refine wpAny_call (codeAny_mono (F.run X.A X.stack s1 H1 ⟨[.ref a], []⟩ [.ref a] [.ref a] _ hr I1.env0 (by
    have := hb s1 [.ref a] I1.kIn (by simpa using many)
    simpa using this) r2 hsp) fun r s' hq' => ?_)
  cases r with
  | error e => exact False.elim hq'
  | ok fl =>
    cases fl with
    | ret u =>
      obtain ⟨z, H', I', rz, it, rfl, h1, h2, rfl⟩ := I1.after hq'
      obtain rfl : u = Value.ref it := rz
      have hi : upd H1 it (ItO l it 0) it = some (ItO l it 0) := upd_same
      have eo := itO_get I' hi
      have hT : s'.TypeIs (.ref it) "list_iterator" := ⟨_, eo, rfl⟩
      show wpAny _ _ (specialOf (.ref it) "__next__") _ _ s'
      unfold specialOf
      refine wpAny_bind (wpAny_typeOf hT ?_)
      rw [slot_listiter_next.lookup]
      refine wpAny_pure ?_
      have I2 := ItX.inv_drop I' (by unfold ItO at hi; exact hi)
      have e2 : ItX.dropH (upd H1 it (ItO l it 0)) it = H1 := ItX.dropH_upd h1
      have fp := ItX.inv_fp I' hi (Nat.le_trans I1.sz h2)
      rw [e2] at I2 fp
      exact ⟨it, [it], _, _, H1, rfl, I2, turn_list l it, ⟨_, eo, rfl, rfl⟩, fun b hb => by
        have e : b = it := by simpa using hb
        rw [e]; exact fp, q⟩
    | next => exact False.elim hq'
    | brk => exact False.elim hq'
    | cont => exact False.elim hq'
/-- f(e, ..) by such a promise -/
def tCallA (A : Around) (sp : Around → Nat → List V → Hp → VK → Prop) (t : TA) : TE := fun st H Q => t st H fun vs H1 => ∀ n, sp A n vs H1 Q
theorem pe_callA {sp : Around → Nat → List V → Hp → VK → Prop} {x : Str} {es : List Expr} {t : TA} {p pos : Pos} (F : FnAt X.prog X.w X.K X.mg X.base k f fd ps sp) (hr : Room k X.A) (hg : Gl X x) (hm : X.mg x = some (.ref f)) (hk : PySem.W.keepIn X.K (.ref f) = true)
    (hb : Binds X.K fd ps []) (ha : PA X (e :: es) t) (hdb : (x == ("__debug__" : Str)) = false := by decide) (he : starEach (e :: es) X.env = (false, eval e X.env) :: starEach es X.env := by rfl) (hpl : (backTo pos (starEach es X.env)).any (·.1) = false := by rfl) :
    PE X (.Call (.Name x p) (e :: es) [] pos) (tCallA X.A sp t) := by
  refine ⟨fun pins s st H Q I h => ?_⟩
  refine wpAny_Call_Name_kw (ld_glob I hg hm ?_ hdb)
  refine PySem.W.callWith_K (h₀ := X.base) I.ok.mod.kin hk (thn (ha.run pos pins s st H _ I h) fun us s1 hh => ?_) he hpl
  obtain ⟨vs, H1, I1, r1, q1⟩ := hh
  have hsp := q1 s1.heap.objs.size
  have many := F.len _ _ _ _ _ hsp
  refine ⟨I1.kIn, wpAny_call (codeAny_mono (F.run X.A X.stack s1 H1 ⟨us, []⟩ us vs _ hr I1.env0 (by
    have := hb s1 us I1.kIn (by rw [List.append_nil, ← r1.length]; exact many)
    simpa using this) r1 hsp) fun r s' hq' => ?_)⟩
  cases r with
  | error e => exact False.elim hq'
  | ok fl =>
    cases fl with
    | ret u => exact I1.after hq'
    | next => exact False.elim hq'
    | brk => exact False.elim hq'
    | cont => exact False.elim hq'
end
/-! ## repr of data -/
section
variable {X : Cx}
theorem call_reprD (hg : X.A.guards = some []) (hu : X.A.units + 60 < cLine) : CallR X (.builtin "repr") (fun xs H Q => ∃ a d, xs = [.ref a] ∧ Dp X.K H (.ref a) d ∧ d.showable = true ∧ d.hasDict = false ∧ d.depth ≤ 50 ∧ d.shown.length ≤ sizeLine ∧ Q (.str d.shown) H) := by
  intro pins s st H xs us Q I r h
  obtain ⟨a, d, rfl, hd, h1, h2, h3, h4, q⟩ := h
  obtain rfl := Vals.ref1 r
  obtain ⟨as, hr⟩ := Dp.reads I d _ _ hd rfl
  refine repr_of_reads' hr h1 (fun z => by rw [h2] at z; cases z) hg (by omega) (fun _ _ e => e) (fun h' u tk k => ?_) h4
  exact ⟨.str d.shown, H, I.kept k, ⟨_, rfl⟩, q⟩
end
end RA
end

section
set_option Elab.async false
set_option linter.all false
set_option maxRecDepth 100000
set_option maxHeartbeats 4000000
namespace RA
open PySem PySem.W PySem.Calls PyProof.Rows L2
section
variable {prog : Program} {w : World} {A : Around} {s : Shared} {β : Type} {vs : List Value} {bs : List β} {R : Value → β → Prop} {E : Value → Shared → Prop}
/-- the items of x are vs; what is asked of the walk over x -/
def Gathers (prog : Program) (w : World) (A : Around) (s : Shared) (x : Value) (vs : List Value) : Prop := ∀ (Q : List Value → Shared → Prop) (E : Value → Shared → Prop),
  (∀ h' tk, (∀ b o, s.heap.get? b = some o → h'.get? b = some o) → Q vs { s with heap := h', toks := tk }) → wpAny (model prog w) A (collect x) Q E s
theorem sorted_any {x : Value} {f : Addr} {Q : Value → Shared → Prop} (k : β → PyData) (hc : Gathers prog w A.in1 s x vs) (e : EachIs R vs bs) (hal : AllAlike (bs.map k)) (hk : Sortable (bs.map k)) (hL : bs.length ≤ sizeLine)
    (hu : ∀ y, y ∈ bs → A.units + 2 + (k y).depth < cLine)
    (turn : ∀ (v : Value) (y : β), R v y → y ∈ bs → ∀ (h : Heap) (tk : Nat), (∀ b o, s.heap.get? b = some o → h.get? b = some o) →
      wpAny (model prog w) A.in1.in1 (call (.ref f) [v]) (KeyPure (k y) { s with heap := h, toks := tk }) (fun _ _ => False) { s with heap := h, toks := tk })
    (h : ∀ p out c h' tk, (∀ b o, s.heap.get? b = some o → h'.get? b = some o) → s.heap.get? p = Option.none → h'.get? p = some (seqObj "list" (List.toArray out) c) → out.length = bs.length → EachIs R out (bs.mergeSort (dataLe false k)) →
      Q (.ref p) { s with heap := h', toks := tk }) :
    wpAny (model prog w) A (call (.builtin "sorted") [x] [(Str.ofString "key", .ref f)]) Q E s := by
  have hL' : vs.length ≤ sizeLine := by rw [e.length]; exact hL
  refine call_function_entry_kw kind_sorted plain_sorted entry_sorted (ksk_s1 _ _) ?_
  unfold Builtin.«sorted»
  refine wpAny_bind (m := checkCount "sorted" 1 1 _) (wpAny_pure ?_)
  refine wpAny_bind (hc _ _ fun h1 tk1 k1 => ?_)
  refine wpAny_bind (wpAny_newList ?_ hL')
  have at1 : (h1.push (seqObj "list" vs.toArray 0)).get? h1.objs.size = some (seqObj "list" vs.toArray 0) := Heap.get?_push_size _ rfl
  have old : ∀ b o, s.heap.get? b = some o → b ≠ h1.objs.size ∧ (h1.push (seqObj "list" vs.toArray 0)).get? b = some o := fun b o q =>
    ⟨Nat.ne_of_lt (Heap.lt_size (k1 b o q)), Heap.get?_push_of_some _ (k1 b o q)⟩
  have up : ∀ {g : Heap}, KeepsBut h1.objs.size (h1.push (seqObj "list" vs.toArray 0)) g → ∀ b o, s.heap.get? b = some o → g.get? b = some o := fun {g} kp b o q => kp b o (old b o q).1 (old b o q).2
  have big : s.heap.get? h1.objs.size = Option.none := by
    cases q : s.heap.get? h1.objs.size with
    | none => rfl
    | some o => exact absurd (Heap.lt_size (k1 _ _ q)) (Nat.lt_irrefl _)
  refine wpAny_bind (wpAny_holding (wpAny_call_entry_kw slot_list_sort ⟨_, at1, rfl⟩ entry_list_sort ?body (ksk_l1 _ _)))
  case body =>
    show wpAny (model prog w) A.in1.in1 (Builtin.«list.sort» ⟨[.ref h1.objs.size], [(Str.ofString "key", .ref f)]⟩) _ _ _
    rw [ksk_t1]
    refine keyH_tree (kz := bs.map k) (s := { s with heap := h1.push (seqObj "list" vs.toArray 0), toks := tk1 }) at1 (by rw [List.length_map]; exact e.length.symm) hL' hal hk (bound_map (A := A.in1.in1) hu)
      (keyH_turns (s := { s with heap := h1.push (seqObj "list" vs.toArray 0), toks := tk1 }) e fun v y hR hy g tk kp => turn v y hR hy g tk (up kp)) fun h' tk out c kp hD ko => ⟨_, rfl, wpAny_pure ⟨_, rfl, ?_⟩⟩
    exact h h1.objs.size out c h' tk (up kp) big hD ((ko.length (by rw [List.length_map]; exact e.length.symm)).trans e.length) (keyedOut_each k ko e)
end
/-- a new object at a place where nothing stood, everything else kept -/
theorem laidN {X : Cx} {pins : List (Addr × Obj)} {st : L2.St} {H : Hp} {s : Shared} {h' : Heap} {p : Addr} {o : HO} {t' : Nat} (I : Inv X pins st H s) (k : ∀ b u, s.heap.get? b = some u → h'.get? b = some u) (hp : s.heap.get? p = Option.none)
    (new : ObjOk X.prog X.w (upd H p o) h' p o) : H p = Option.none ∧ Inv X pins st (upd H p o) { s with heap := h', toks := t' } := by
  have there : ∀ {b : Addr} {u : HO}, H b = some u → ∃ q, s.heap.get? b = some q := fun {b u} e => by
    have z := I.hok b u e
    cases u <;> simp only [ObjOk] at z
    case lst => obtain ⟨_, _, _, _, q⟩ := z; exact ⟨_, q⟩
    case tup => obtain ⟨_, _, _, q⟩ := z; obtain ⟨q1, q2, _⟩ := q; exact ⟨_, q2⟩
    case dK => obtain ⟨_, _, _, _, o, _, _, ho, _⟩ := z; exact ⟨o, ho⟩
    case dT => obtain ⟨_, _, _, _, o, _, _, ho, _⟩ := z; exact ⟨_, ho⟩
    case set => obtain ⟨o, _, _, _, ho, _⟩ := z; exact ⟨o, ho⟩
    case ins => obtain ⟨_, _, _, q, _⟩ := z; exact ⟨_, q⟩
    case own => exact z
    case xd => obtain ⟨_, ⟨o, _, _, ho, _⟩, _⟩ := z; exact ⟨_, ho⟩
    case met => exact ⟨_, z⟩
    case rng => obtain ⟨_, _, _, q⟩ := z; exact ⟨_, q⟩
    case frz => exact ⟨_, z.1⟩
    case tbl => exact ⟨_, z⟩
    case ext => exact z.2.1
  have free : H p = Option.none := by
    cases e : H p with
    | none => rfl
    | some u =>
      obtain ⟨q, hq⟩ := there e
      rw [hp] at hq
      cases hq
  have ne : ∀ {b : Addr} {u : HO}, H b = some u → b ≠ p := fun {b u} e z => by
    rw [z, free] at e
    cases e
  have ne2 : ∀ {b : Addr} {u : Obj}, s.heap.get? b = some u → b ≠ p := fun {b u} e z => by
    rw [z, hp] at e
    cases e
  have U : Un X.fs [] H (upd H p o) s.heap h' := ⟨fun b q e _ _ _ => k b q e, fun b q e _ _ _ => ⟨q.slots, k b q e⟩, fun b q e n _ => by rw [upd_ne (ne2 e)]; exact n, fun b q e _ => ⟨q, k b q e⟩, fun b xs e => by rw [upd_ne (ne e)]; exact e,
    fun b q u e => by rw [upd_ne (ne e)]; exact e, fun b ps e => ⟨#[], by rw [upd_ne (ne e)]; simpa using e⟩⟩
  refine ⟨free, I.un U fun b u e => ?_⟩
  by_cases hb : b = p
  · subst hb
    rw [upd_same] at e
    obtain rfl := Option.some.inj e
    exact new
  · rw [upd_ne hb] at e
    refine (I.hok b u e).stay (fun c q _ hq => k c q hq) (fun c hc => by rw [upd_ne (ne hc)]; exact hc) fun c xs hc => by rw [upd_ne (ne hc)]; exact hc
end RA
end

section
set_option Elab.async false
set_option linter.all false
set_option maxRecDepth 100000
set_option maxHeartbeats 4000000
namespace RA
open PySem PySem.W PySem.Calls PyProof.Rows L2
/-- f's key of a datum: a call gives kf of it and only makes objects -/
def KeyFn (P : Program) (w : World) (K : Frag) (f : Addr) (dom : PyData → Prop) (kf : PyData → PyData) : Prop :=
  ∀ (A : Around) (s : Shared) (v : Value) (d : PyData) (as : List Addr), Room 1 A → K.In s.heap → s.heap.NoLimit → dom d → Reads s.heap v d as →
    wpAny (model P w) A (call (.ref f) [v]) (KeyPure (kf d) s) (fun _ _ => False) s
/-- the view that d.values() gives -/
def vwO (r d : Addr) : HO := .ext fun h => h.IsValuesView r d
/-- what sorted takes: a list, a tuple, the values of a dict with tuple keys -/
def Src (K : Frag) (H : Hp) (x : V) (ys : List V) : Prop := (∃ a, x = .ref a ∧ SqL K H a ys) ∨ (∃ a, x = .ref a ∧ SqT K H a ys) ∨ ∃ r d kvs, x = .ref r ∧ H r = some (vwO r d) ∧ H d = some (.dT kvs) ∧ ys = kvs.map (·.2)
section
variable {X : Cx} {pins : List (Addr × Obj)} {st : L2.St} {H : Hp} {s : Shared}
theorem dT_raw {d : Addr} {kvs : List (List Key × V)} (I : Inv X pins st H s) (e : H d = some (.dT kvs)) : (d == sysModules) = false ∧ kvs.length ≤ sizeLine ∧ ∃ es ep us, s.heap.DictRaw d es ep ∧ es.toList.map (·.val) = us ∧ Vals (kvs.map (·.2)) us := by
  have z := I.hok d _ e
  obtain ⟨hl, hd, xs, pr, o, es, ep, ho, hx, hdt, he, nodup⟩ := z
  refine ⟨hd, hl, es, ep, _, ⟨o, ho, hx, hdt⟩, rfl, ?_⟩
  rw [he]
  clear he hdt hx ho e hl nodup
  revert xs
  induction kvs with
  | nil =>
    intro xs pr
    cases pr
    exact .nil
  | cons p r ih =>
    intro xs pr
    cases pr with
    | cons h t => exact .cons h.2.2 (ih _ t)
theorem gathers {A : Around} {x : V} {ys : List V} {u : Value} (I : Inv X pins st H s) (hh : A.handled = Option.none) (rx : RelV x u) (h : Src X.K H x ys) : ∃ us, Vals ys us ∧ Gathers X.prog X.w A s u us ∧ ys.length ≤ sizeLine := by
  rcases h with ⟨a, rfl, h⟩ | ⟨a, rfl, h⟩ | ⟨r, d, kvs, rfl, hr, hd, rfl⟩
  · obtain rfl : u = Value.ref a := rx
    obtain ⟨its, rv, ⟨o, n, ho, hc, hdn, hdt⟩, hz⟩ := I.list h
    refine ⟨its, rv, fun Q E hq => ?_, hz⟩
    exact wpAny_collect_seq a (.inl rfl) ho hc hdt (fun h' k => hq h' s.toks k) (by rw [List.size_toArray, ← rv.length]; exact hz)
  · obtain rfl : u = Value.ref a := rx
    obtain ⟨its, rv, ⟨o, ho, hc, n, hdt⟩, hz⟩ := I.tuple h
    refine ⟨its, rv, fun Q E hq => ?_, hz⟩
    exact wpAny_collect_seq a (.inr rfl) ho hc hdt (fun h' k => hq h' s.toks k) (by rw [List.size_toArray, ← rv.length]; exact hz)
  · obtain rfl : u = Value.ref r := rx
    obtain ⟨hd1, hl, es, ep, us, raw, he, rv⟩ := dT_raw I hd
    have hv : s.heap.IsValuesView r d := by
      have z := I.hok r _ hr
      exact z.1
    have hn : es.size = kvs.length := by
      have q := rv.length
      rw [List.length_map, ← he, List.length_map, Array.length_toList] at q
      exact q.symm
    refine ⟨us, rv, fun Q E hq => ?_, by rw [List.length_map]; exact hl⟩
    refine kdu_collect (KdlSrc.rawValues (r := r) (d := d) (es := es) (ep := ep)) hh ⟨hv, raw⟩ (by rw [hn]; exact hl) fun h' tk acc k hi => ?_
    have e : acc.toList = us := by
      rw [← he]
      obtain ⟨hs, hg⟩ := hi
      refine List.ext_getElem? fun i => ?_
      rw [List.getElem?_map]
      by_cases hi : i < es.size
      · have hia : i < acc.size := by omega
        obtain ⟨hi2, hv2⟩ := hg i _ (Array.getElem?_eq_getElem hia)
        rw [Array.getElem?_toList, Array.getElem?_eq_getElem hia, Array.getElem?_toList, Array.getElem?_eq_getElem hi, hv2]
        rfl
      · rw [Array.getElem?_toList, Array.getElem?_eq_none (by omega), Array.getElem?_toList, Array.getElem?_eq_none (by omega)]
        rfl
    rw [e]
    exact hq h' tk k
end
/-- the values sorted by their data's keys -/
def sortedBy (kf : PyData → PyData) (ys : List V) (ds : List PyData) : List (V × PyData) := (ys.zip ds).mergeSort (dataLe false fun q => kf q.2)
def rSortKey (K : Frag) (f : Addr) (dom : PyData → Prop) (kf : PyData → PyData) : List V → List V → Hp → VK → Prop := fun xs zs H Q => ∃ (x : V) (ys : List V) (ds : List PyData), xs = [x] ∧ zs = [.ref f] ∧ Src K H x ys ∧ DpAll K H ys ds ∧
  (∀ d ∈ ds, dom d) ∧ AllAlike (ds.map kf) ∧ Sortable (ds.map kf) ∧ (∀ d ∈ ds, (kf d).depth ≤ 50) ∧ ∀ p, H p = Option.none → Q (.ref p) (upd H p (.lst ((sortedBy kf ys ds).map (·.1))))
theorem each_zip {X : Cx} {pins : List (Addr × Obj)} {st : L2.St} {H : Hp} {s : Shared} (I : Inv X pins st H s) : ∀ {ys : List V} {ds : List PyData} {us : List Value}, DpAll X.K H ys ds → Vals ys us →
    EachIs (fun v (q : V × PyData) => RelV q.1 v ∧ ∃ as, Reads s.heap v q.2 as) us (ys.zip ds)
  | _, _, _, .nil, .nil => .nil
  | _, _, _, .cons h t, .cons r tr => .cons ⟨r, Dp.reads I _ _ _ h r⟩ (each_zip I t tr)
theorem dpAll_len {K : Frag} {H : Hp} : ∀ {ys : List V} {ds : List PyData}, DpAll K H ys ds → ys.length = ds.length
  | _, _, .nil => rfl
  | _, _, .cons _ t => by rw [List.length_cons, List.length_cons, dpAll_len t]
theorem vals_each {R : Value → V × PyData → Prop} (hR : ∀ v q, R v q → RelV q.1 v) : ∀ {us : List Value} {qs : List (V × PyData)}, EachIs R us qs → Vals (qs.map (·.1)) us
  | _, _, .nil => .nil
  | _, _, .cons h t => .cons (hR _ _ h) (vals_each hR t)
theorem map_zip_snd {α β γ : Type} (g : β → γ) : ∀ {xs : List α} {ys : List β}, xs.length = ys.length → (xs.zip ys).map (fun q => g q.2) = ys.map g
  | [], [], _ => rfl
  | x :: xs, y :: ys, h => by
    rw [List.zip_cons_cons, List.map_cons, List.map_cons, map_zip_snd g (by simpa using h)]
section
variable {X : Cx} {f : Addr} {dom : PyData → Prop} {kf : PyData → PyData}
theorem call_sortedKey (hf : KeyFn X.prog X.w X.K f dom kf) (hr : Room 3 X.A) : CallRK X (.builtin "sorted") [Str.ofString "key"] (rSortKey X.K f dom kf) := by
  intro pins s st H xs zs us ws Q I rx rz h
  obtain ⟨x, ys, ds, rfl, rfl, hs, hd, hdom, hal, hsk, hdep, q⟩ := h
  obtain ⟨u, rfl, ru⟩ := vals1 rx
  obtain ⟨v, rfl, rv⟩ := vals1 rz
  obtain rfl : v = Value.ref f := rv
  have r1 : Room 1 X.A.in1.in1 := (hr.in1).in1
  obtain ⟨us, rvs, hg, hz⟩ := gathers (A := X.A.in1) I hr.in1.hd ru hs
  have hl := dpAll_len hd
  have mk : ∀ qs : List (V × PyData), qs = ys.zip ds → qs.map (fun q => kf q.2) = ds.map kf := fun qs e => by rw [e]; exact map_zip_snd kf hl
  show wpAny _ _ (call (.builtin "sorted") [u] [(Str.ofString "key", Value.ref f)]) _ _ _
  refine sorted_any (bs := ys.zip ds) (fun q => kf q.2) hg (each_zip I hd rvs) (by rw [mk _ rfl]; exact hal) (by rw [mk _ rfl]; exact hsk) (by rw [List.length_zip]; omega) (fun y hy => ?_) (fun v y hR hy g tk kp => ?_) fun p out c h' tk kp hp hD hlen ho => ?_
  · have := hdep y.2 (List.of_mem_zip hy).2
    have := hr.units
    omega
  · obtain ⟨_, as, hrd⟩ := hR
    exact hf X.A.in1.in1 _ v y.2 as r1 (I.kIn.keeps kp) (I.nolimit.keeps kp) (hdom _ (List.of_mem_zip hy).2) (PyProof.Rows.Reads.keeps kp hrd)
  · have hv : Vals ((sortedBy kf ys ds).map (·.1)) out := vals_each (fun _ _ z => z.1) ho
    have hzz : ((sortedBy kf ys ds).map (·.1)).length ≤ sizeLine := by
      rw [hv.length, hlen, List.length_zip]
      omega
    obtain ⟨fr, I'⟩ := laidN (o := .lst ((sortedBy kf ys ds).map (·.1))) (t' := tk) I kp hp ⟨hzz, out, c, hv, hD⟩
    exact ⟨.ref p, _, I', rfl, q p fr⟩
/-- d.values() -/
def tValues (td : TE) : TE := fun st H Q => td st H fun x H1 => ∃ d kvs, x = .ref d ∧ H1 d = some (.dT kvs) ∧ ∀ r, H1 r = Option.none → Q (.ref r) (upd H1 r (vwO r d))
theorem pe_values {e : Expr} {td : TE} {apos cpos : Pos} (he : PE X e td) (hbase : attributeBase e "values" X.env (eval e X.env) = eval e X.env := by rfl) (hline : (apos.endLine == cpos.line) = true := by rfl) :
    PE X (.Call (.Attribute e "values" apos) [] [] cpos) (tValues td) := by
  refine ⟨fun pins s st H Q I h => ?_⟩
  refine wpAny_Call_method (T := "dict") (id := "dict.values") hbase rfl hline F.plainAttrs_dict F.slot_dict_values F.type_dict_values (thn (he.run pins s st H _ I h) fun u s1 hh => ?_)
  obtain ⟨x, H1, I1, rx, d, kvs, rfl, hd, q⟩ := hh
  obtain rfl : u = Value.ref d := rx
  obtain ⟨hs, hl, es, ep, us, raw, _, _⟩ := dT_raw I1 hd
  refine ⟨raw.typeIs, fun b hb => ?_, ?_⟩
  · obtain rfl : d = b := Value.ref.inj hb
    obtain ⟨o, ho, hx, _⟩ := raw
    exact ⟨o, ho, hx.2.1⟩
  have new : ObjOk X.prog X.w (upd H1 s1.heap.objs.size (vwO s1.heap.objs.size d)) (s1.heap.push { cls := .type "dict_values", data := .fields #[.ref d] }) s1.heap.objs.size (vwO s1.heap.objs.size d) :=
    ⟨⟨_, Heap.get?_push_size _ rfl, rfl, rfl⟩, ⟨_, Heap.get?_push_size _ rfl⟩, fun h1 h2 z k => by
      obtain ⟨o, ho, hc, hdt⟩ := z
      exact ⟨o, k _ ho, hc, hdt⟩⟩
  have fr : H1 s1.heap.objs.size = Option.none := I1.hok.fresh (Nat.le_refl _)
  have I2 := I1.laid (t' := s1.toks) (fun b o e => Heap.get?_push_of_some _ e) (Nat.le_refl _) new
  have fin : EP X pins st Q (.ref s1.heap.objs.size) { s1 with heap := s1.heap.push { cls := .type "dict_values", data := .fields #[.ref d] } } := ⟨.ref s1.heap.objs.size, _, I2, rfl, q _ fr⟩
  show wpAny _ _ (callWith cpos (.builtin "dict.values") [.ref d] [] []) _ X.xe s1
  exact method_meetsIn F.slot_dict_values F.entry_dict_values rfl (PySem.evalArgs_none ⟨rfl, raw.typeIs, F.args_dict_values_1 _, _, meets_dict_values_raw d hs, ⟨⟨es, ep, raw⟩, fin⟩⟩)
end
end RA
end

section
set_option Elab.async false
set_option linter.all false
set_option maxRecDepth 100000
set_option maxHeartbeats 4000000
namespace RA
open PySem PySem.Spec PyProof.Rows L2 HT
/-! ## // by any divisor that is not 0, of any size met here -/
def CDivA (_ j : Int) : Prop := j ≠ 0 ∧ j.natAbs.log2 < 9000
theorem op_fdivA {X : Cx} : OpR X (binaryOp .FloorDiv) (rI CDivA fun i j => .int (i.fdiv j)) := opI fun i j _ _ _ _ _ hc q => floordiv_int hc.1 q (.inl (PyProof.noPylong_of_log2 hc.2))
/-! ## the slice from behind -/
section
variable {prog : Program} {w : World} {A : Around} {E : Value → Shared → Prop} {s : Shared}
theorem fm_congr {α β : Type} {f g : α → Option β} : ∀ {l : List α}, (∀ x ∈ l, f x = g x) → l.filterMap f = l.filterMap g
  | [], _ => rfl
  | a :: l, h => by
    rw [List.filterMap_cons, List.filterMap_cons, h a List.mem_cons_self, fm_congr fun x hx => h x (List.mem_cons_of_mem _ hx)]
theorem pick_rev (xs : Array Value) : ((List.range xs.size).filterMap fun (m : Nat) => xs[(((xs.size : Int) - 1) + (m : Int) * (-1)).toNat]?).toArray = xs.toList.reverse.toArray := by
  congr 1
  refine List.ext_getElem? fun i => ?_
  have e : ((List.range xs.size).filterMap fun (m : Nat) => xs[(((xs.size : Int) - 1) + (m : Int) * (-1)).toNat]?) = (List.range xs.size).map fun m => xs.toList.reverse.getD m .none := by
    rw [← List.filterMap_eq_map]
    refine fm_congr fun m hm => ?_
    have hm' : m < xs.size := List.mem_range.mp hm
    have q : (((xs.size : Int) - 1) + (m : Int) * (-1)).toNat = xs.size - 1 - m := by omega
    rw [q]
    show xs[xs.size - 1 - m]? = some (xs.toList.reverse.getD m .none)
    rw [List.getD_eq_getElem?_getD, List.getElem?_reverse (by rw [Array.length_toList]; exact hm'), Array.length_toList, Array.getElem?_toList]
    rw [Array.getElem?_eq_getElem (by omega)]
    rfl
  rw [e, List.getElem?_map]
  by_cases hi : i < xs.size
  · rw [List.getElem?_range hi]
    show some (xs.toList.reverse.getD i .none) = _
    rw [List.getD_eq_getElem?_getD, List.getElem?_eq_getElem (by rw [List.length_reverse, Array.length_toList]; exact hi)]
    rfl
  · rw [List.getElem?_eq_none (by rw [List.length_range]; omega), List.getElem?_eq_none (by rw [List.length_reverse, Array.length_toList]; omega)]
    rfl
theorem applied_rev {sl : Addr} {vl vu vs : Value} {n : Nat} {Q : Int × Int × Nat → Shared → Prop} (hs : s.heap.IsSliceOf sl vl vu vs) (pl : IsPart vl Option.none) (pu : IsPart vu Option.none) (ps : IsPart vs (some (-1)))
    (h : Q (((n : Int) - 1), -1, n) s) : wpAny (model prog w) A (Builtin.Slice.sliceApplied (.ref sl) (pure (n : Int))) Q E s := by
  obtain ⟨os, hos, hcs, hds⟩ := id hs
  unfold Builtin.Slice.sliceApplied Builtin.Slice.sliceFields
  refine wpAny_bind (wpAny_bind (wpAny_field hos hds (x := vl) rfl (wpAny_bind (wpAny_field hos hds (x := vu) rfl (wpAny_bind (wpAny_field hos hds (x := vs) rfl (wpAny_pure ?_)))))))
  refine wpAny_bind (HT.slicePart_ ps ?_)
  show wpAny _ _ (if ((-1 : Int) == 0) = true then _ else _) _ _ s
  rw [if_neg (by decide)]
  refine wpAny_bind (HT.slicePart_ pl (wpAny_bind (HT.slicePart_ pu (wpAny_bind (wpAny_pure ?_)))))
  show wpAny _ _ (pure (((n : Int) - 1), (-1 : Int), Builtin.Slice.slicePlaces ((n : Int) - 1) (-1) (-1))) _ _ s
  have e : Builtin.Slice.slicePlaces ((n : Int) - 1) (-1) (-1) = n := by
    unfold Builtin.Slice.slicePlaces
    rw [if_neg (by decide)]
    by_cases hn : n = 0
    · subst hn
      rw [if_neg (by decide)]
      rfl
    · rw [if_pos (by omega)]
      have : ((n : Int) - 1 - -1 - 1) / (- -1) = (n : Int) - 1 := by
        rw [show (- -1 : Int) = 1 by decide, Int.ediv_one]
        omega
      rw [this]
      omega
  rw [e]
  exact wpAny_pure h
theorem getItem_tuple_rev {t sl : Addr} {items : Array Value} {vl vu vs : Value} {Q : Value → Shared → Prop} (ht : IsTup s.heap t items) (hs : s.heap.IsSliceOf sl vl vu vs) (pl : IsPart vl Option.none) (pu : IsPart vu Option.none) (ps : IsPart vs (some (-1)))
    (h : Q (.ref s.heap.objs.size) { s with heap := s.heap.push { cls := .type "tuple", data := .seq items.toList.reverse.toArray } }) (hsz : items.size ≤ sizeLine) : wpAny (model prog w) A (getItem (.ref t) (.ref sl)) Q E s := by
  have hok : sizeOk (.seq items.toList.reverse.toArray) := by
    show items.toList.reverse.toArray.size ≤ sizeLine
    rw [List.size_toArray, List.length_reverse, Array.length_toList]
    exact hsz
  obtain ⟨os, hos, hcs, hds⟩ := id hs
  have hTs : s.TypeIs (.ref sl) "slice" := ⟨os, hos, hcs⟩
  unfold getItem
  refine wpAny_holding ?_
  refine wpAny_bind (wpAny_sequenceKey ht.typeIs (by decide) ?_)
  refine wpAny_bind (wpAny_callSpecial?_slot (name := Str.ofString "__getitem__") ht.typeIs PyProof.Rows.slot_tuple_getitem
    (wpAny_call_entry PyProof.Rows.slot_tuple_getitem ht.typeIs entry_tuple_getitem ?_ (args_tuple_getitem _ _)))
  show wpAny _ _ (Builtin.Tuple.tupleItemsOf (.ref t) >>= _) _ _ s
  refine wpAny_bind (tupleItemsOf_ ht ?_)
  refine wpAny_bind (wpAny_typeOf hTs ?_)
  rw [if_pos (by decide)]
  refine wpAny_bind (applied_rev hs pl pu ps ?_)
  show wpAny _ _ (if ((((items.size : Int) - 1) == 0 && (-1 : Int) == 1 && items.size == items.size)) = true then _ else _) _ _ s
  rw [if_neg (by simp), pick_rev]
  first
    | exact wpAny_bind (m := Builtin.Tuple.tupleExact _) (wpAny_newObj_type (wpAny_pure ⟨_, rfl, wpAny_pure h⟩) hok)
    | exact wpAny_bind (m := Builtin.Tuple.tupleExact _) (wpAny_newObj_type (wpAny_bind (wpAny_pure (wpAny_pure ⟨_, rfl, wpAny_pure h⟩))) hok)
    | exact wpAny_bind (wpAny_bind (m := Builtin.Tuple.tupleExact _) (wpAny_newObj_type (wpAny_pure (wpAny_pure ⟨_, rfl, wpAny_pure h⟩)) hok))
    | exact wpAny_bind (wpAny_bind (m := Builtin.Tuple.tupleExact _) (wpAny_newObj_type (wpAny_pure ⟨_, rfl, wpAny_pure h⟩) hok))
end
/-- t[::-1] of a tuple -/
def tRevT (K : PySem.W.Frag) (te : TE) : TE := fun st H Q => te st H fun x H1 => ∃ a xs, x = .ref a ∧ SqT K H1 a xs ∧ ∀ p, H1 p = Option.none → Q (.ref p) (upd H1 p (.tup xs.reverse))
theorem pe_revT {X : Cx} {e : Expr} {te : TE} {k : Nat} {p1 p2 p3 pos : Pos} (he : PE X e te) : PE X (.Subscript e (.Slice Option.none Option.none (some (.UnaryOp .USub (.Constant (.int 1) k p1) p2)) p3) pos) (tRevT X.K te) := by
  refine ⟨fun pins s st H Q I h => ?_⟩
  refine Subscript_ (thn (he.run pins s st H _ I h) fun v s1 hh => ?_)
  obtain ⟨x, H1, I1, r1, a, xs, rfl, hx, q⟩ := hh
  obtain rfl : v = Value.ref a := r1
  have hst : PO X (some (.UnaryOp .USub (.Constant (.int 1) k p1) p2)) (tPart (tUn (rU fun i => .int (-i)) (tC (.int 1)))) := po_some (pe_un un_neg pe_int)
  refine wpAny_Slice (thn (po_none.run pins s1 st H1 (fun o H2 => o = Option.none ∧ H2 = H1) I1 ⟨rfl, rfl⟩) fun vl s2 hl => ?_)
  obtain ⟨l, H2, I2, pl, rfl, rfl⟩ := hl
  refine thn (po_none.run pins s2 st H2 (fun o H3 => o = Option.none ∧ H3 = H2) I2 ⟨rfl, rfl⟩) fun vu s3 hu => ?_
  obtain ⟨u, H3, I3, pu, rfl, rfl⟩ := hu
  refine thn (hst.run pins s3 st H3 (fun o H4 => o = some (-1) ∧ H4 = H3) I3 ⟨1, rfl, -1, rfl, rfl, rfl⟩) fun vs s4 hs => ?_
  obtain ⟨o, H4, I4, ps, rfl, rfl⟩ := hs
  have I5 : Inv X pins st H4 { s4 with heap := s4.heap.push { cls := .type "slice", data := .fields #[vl, vu, vs] } } := I4.kept (t' := s4.toks) fun b ob q => Heap.get?_push_of_some _ q
  obtain ⟨its, r, ht, hz⟩ := I5.tuple hx
  have hlen := r.length
  show wpAny (model X.prog X.w) X.A (subscriptTail e (.Slice Option.none Option.none (some (.UnaryOp .USub (.Constant (.int 1) k p1) p2)) p3) (.ref a) (.ref s4.heap.objs.size)) (EP X pins st Q) X.xe { s4 with heap := s4.heap.push { cls := .type "slice", data := .fields #[vl, vu, vs] } }
  refine tail_any (ops := [.ref a, .ref s4.heap.objs.size]) ht.typeIs slot_tuple_getitem.lookup ?_ (by with_unfolding_all rfl)
  refine getItem_tuple_rev ht (Heap.IsSliceOf.new _ vl vu vs) pl pu ps ?_ (by rw [List.size_toArray]; omega)
  refine ⟨.ref _, _, I5.laid (t' := s4.toks) (o := .tup xs.reverse) (fun b ob q => Heap.get?_push_of_some _ q) (Nat.le_refl _) ?_, rfl, q _ (I5.hok.fresh (Nat.le_refl _))⟩
  exact ⟨by rw [List.length_reverse]; exact hz, _, r.reverse, ⟨_, Heap.get?_push_size _ rfl, rfl, _, rfl⟩⟩
/-! ## xs.extend(t), t a tuple -/
def rExtT (K : PySem.W.Frag) : V → List V → Hp → VK → Prop := fun x vs H Q => ∃ l b xs zs, x = .ref l ∧ vs = [.ref b] ∧ H l = some (.lst xs) ∧ SqT K H b zs ∧ xs.length + zs.length ≤ sizeLine ∧ Q .non (upd H l (.lst (xs ++ zs)))
theorem mt_extT {X : Cx} : MtR X "list.extend" (rExtT X.K) := by
  intro pins s st H x vs v us Q I rx rv h
  obtain ⟨l, b, xs, zs, rfl, rfl, hl, hb, hz, q⟩ := h
  obtain rfl : v = Value.ref l := rx
  obtain rfl := Vals.ref1 rv
  obtain ⟨_, its, n, r, hl1, e⟩ := I.lstM hl
  obtain ⟨jts, r2, ⟨o, ho, hc, n2, hd⟩, hz2⟩ := I.tuple hb
  have l1 := r.length
  have l2 := r2.length
  refine GQ.call_here F.slot_list_extend ⟨_, e, rfl⟩ F.entry_list_extend (F.args_list_extend_2 _ _) ?_
  show wpAny _ X.A.in1 (Builtin.List.listExtendWith (.ref l) (.ref b) .none) _ _ s
  unfold Builtin.List.listExtendWith
  refine wpAny_bind (wpAny_typeOf ⟨o, ho, hc⟩ ?_)
  rw [if_pos (by simp)]
  refine wpAny_bind ?_
  unfold Builtin.List.listItems
  refine wpAny_bind (wpAny_seqItems ho hd (wpAny_pure ?_))
  refine wpAny_bind ?_
  refine wpAny_bind (wpAny_seqItems e rfl (wpAny_pure ?_))
  rw [if_neg (by rw [notLongL (by rw [List.size_toArray, List.size_toArray]; omega), Bool.and_false]; exact Bool.false_ne_true)]
  show wpAny _ X.A.in1 (updateSeq l (· ++ jts.toArray) >>= fun _ => ret Value.none) _ _ s
  refine wpAny_bind (wpAny_updateSeq e rfl ?_ (by rw [List.size_toArray]; omega) (by rw [Array.size_append, List.size_toArray, List.size_toArray]; omega))
  refine wpAny_pure ?_
  show EP X pins st Q Value.none _
  exact ⟨.non, _, I.lset (its' := its ++ jts) (t' := s.toks) hl e (by simp) (r.append r2) (by rw [List.length_append]; omega), rfl, q⟩
end RA
end

section
set_option Elab.async false
set_option linter.all false
set_option maxRecDepth 100000
set_option maxHeartbeats 4000000
namespace RA
open PySem PySem.Spec PyProof.Rows L2
/-! ## a dict comprehension whose keys are tuples -/
theorem dictSetT {X : Cx} {pins : List (Addr × Obj)} {st : L2.St} {H : Hp} {s : Shared} {E : Value → Shared → Prop} {D b : Addr} {kvs : List (List Key × V)} {k : List Key} {v : V} {r : Value} {Q : Unit → Shared → Prop} (hu : X.A.units < cLine)
    (I : Inv X pins st H s) (hD : H D = some (.dT kvs)) (hz : kvs.length < sizeLine) (hb : H b = some (.tup (k.map kV))) (rv : RelV v r) (h : ∀ s', Inv X pins st (upd H D (.dT (putK kvs k v))) s' → Q () s') :
    wpAny (model X.prog X.w) X.A (dictSet D (.ref b) r) Q E s := by
  obtain ⟨z, hd, xs, rel, dd⟩ := dt_of I.hok hD
  have hzx : xs.length ≤ sizeLine := by rw [← Paired.length rel]; exact z
  have hl : (putK kvs k v).length ≤ sizeLine := by have := length_putK kvs k v; omega
  refine wpAny_dictSet_heap (hsz := hzx) hu (key_of I.hok hb) dd fun h' dd' hs => h _ ?_
  obtain ⟨q, es, ep, hq, h2, h3, h4, _, h5⟩ := dd'
  refine d_write I (by rw [hD]; exact True.intro) hs ⟨q, hq⟩ ⟨hl, hd, _, (rel.put k hb rv).keeps fun c ys ec => ?_, q, es, ep, hq, h2, h3, h4, h5⟩
  rw [upd_ne (ne_of ec hD (fun z => nomatch z))]
  exact ec
section
variable {X : Cx}
/-- {k: v for target in iter if ..}: D the new dict, its keys tuples -/
def tDcT (wi : TI) (g : TG) (tt : TT) (tk tv : TE) (vs : List Nat) : TE := fun st H Q => wi st H fun J H1 => ∀ D, H1 D = Option.none → ∃ W : Nat → Nat → Hp → Prop, (∃ m, W 0 m (upd H1 D (.dT []))) ∧ ∀ i m H, W i m H →
  (J.stop i H ∧ Q (.ref D) H) ∨ (J.go i H ∧ ∃ Nx : Hp → Prop, (∀ H', Nx H' → ∃ m', m' < m ∧ W (i + 1) m' H') ∧ ∀ x H', J.yld i H x H' → g x (wipe st vs) H' fun s2 H2 => wipe s2 vs = wipe st vs ∧ tt s2 H2 fun b H3 =>
    if b = true then tk s2 H3 fun y H4 => tv s2 H4 fun z H5 => ∃ kvs k q, y = .ref q ∧ H5 q = some (.tup (List.map kV k)) ∧ H5 D = some (.dT kvs) ∧ kvs.length < sizeLine ∧ Nx (upd H5 D (.dT (putK kvs k z))) else Nx H3)
/-- the block's loop, over all turns -/
theorem dcT_loop {kx vx tg iter : Expr} {ifs : List Expr} {scope : Scope} {pos : Pos} {g : TG} {tt : TT} {tk tv : TE} {vs : List Nat} {pins : List (Addr × Obj)} {st : L2.St} {H3 : Hp} {s3 s4 : Shared} {ce : Env} {fp : List Addr} {it D : Addr} {J : It} {tn : Nat → Heap → Prop}
    {W : Nat → Nat → Hp → Prop} {Q : VK} {m0 : Nat} {R : Result → Shared → Prop} (hu : X.A.units < cLine) (hc : X.calm = true) (I3 : Inv X pins st H3 s3) (I4 : Inv (X.blk s3 H3 scope ce fp) [] (wipe st vs) H3 s4) (f3 : ∀ b ∈ fp, FpOk X pins H3 b)
    (T : Turn X.prog X.w X.K tg J fp it tn) (st4 : tn 0 s4.heap) (cL : ce.locals = s3.heap.objs.size) (pg : PG (X.blk s3 H3 scope ce fp) tg g) (pt : PTs (X.blk s3 H3 scope ce fp) ifs tt) (pk : PE (X.blk s3 H3 scope ce fp) kx tk) (pv : PE (X.blk s3 H3 scope ce fp) vx tv)
    (w0 : W 0 m0 H3) (turn : ∀ i m H, W i m H → (J.stop i H ∧ Q (.ref D) H) ∨ (J.go i H ∧ ∃ Nx : Hp → Prop, (∀ H', Nx H' → ∃ m', m' < m ∧ W (i + 1) m' H') ∧ ∀ x H', J.yld i H x H' → g x (wipe st vs) H' fun s2 H2 => wipe s2 vs = wipe st vs ∧ tt s2 H2 fun b H3 =>
      if b = true then tk s2 H3 fun y H4 => tv s2 H4 fun z H5 => ∃ kvs k q, y = .ref q ∧ H5 q = some (.tup (List.map kV k)) ∧ H5 D = some (.dT kvs) ∧ kvs.length < sizeLine ∧ Nx (upd H5 D (.dT (putK kvs k z))) else Nx H3))
    (out : ∀ s' m H', Inv X pins st H' s' → Q (.ref D) H' → s'.heap.Ns s3.heap.objs.size m → FpOk X pins H' s3.heap.objs.size → R (.ok .next) s') :
    codeAny (model X.prog X.w) X.A (.compLoop (.DictComp kx vx [⟨tg, iter, ifs, 0⟩] scope pos) 0 (.ref it) (.ref D) ce) R s4 := by
  have foot : ∀ {z : L2.St} {H' : Hp} {s' : Shared}, Inv (X.blk s3 H3 scope ce fp) [] z H' s' → (∀ b ∈ fp, H' b = Option.none) → ∀ b ∈ fp, FpOk (X.blk s3 H3 scope ce fp) [] H' b := fun {z H' s'} I' hn b hb =>
    ⟨hn b hb, (I'.ok.exf b hb).1, I'.ok.exfs b hb, Or.inl hb, fun x c e => (I'.ok.exf b hb).2 x c e, fun p hp => absurd (show p ∈ ([] : List (Addr × Obj)) ++ [] from hp) (by simp)⟩
  refine compLoop_anyD (fun n s' => ∃ i H', Inv (X.blk s3 H3 scope ce fp) [] (wipe st vs) H' s' ∧ tn i s'.heap ∧ (∀ b ∈ fp, H' b = Option.none) ∧ W i n H') ?_ m0 ⟨0, H3, I4, st4, fun b hb => (f3 b hb).1, w0⟩
  rintro n s5 ⟨i, H5, I5, st5, n5, w5⟩
  rcases turn i n H5 w5 with ⟨stop, done⟩ | ⟨go, Nx, hNx, step⟩
  · refine thnF (T.done (X.blk s3 H3 scope ce fp) rfl rfl rfl hc i [] s5 _ H5 (fun _ _ => False) I5 (foot I5 n5) st5 stop) fun r s6 hr => ?_
    obtain ⟨rfl, I6⟩ := hr
    have I7 : Inv X pins st H5 s6 := I3.call' (ch := fp) I6.os I6.base I6.hok I6.bare fun b hb => ⟨(f3 b hb).2.2.2.1, (f3 b hb).2.1, (f3 b hb).2.2.2.2.1, (f3 b hb).2.2.2.2.2⟩
    obtain ⟨m, hn, _⟩ := I6.loc
    have hL : H5 s3.heap.objs.size = Option.none := cL ▸ I6.free
    have hn' : s6.heap.Ns s3.heap.objs.size m := cL ▸ hn
    exact out s6 m H5 I7 done hn' (I3.fpOk (Nat.le_refl _) hL)
  · refine thnF (T.item (X.blk s3 H3 scope ce fp) rfl rfl rfl hc i [] s5 _ H5 (fun _ _ => False) I5 (foot I5 n5) st5 go) fun r s6 hr => ?_
    obtain ⟨u, rfl, h6⟩ := hr
    refine thnF h6 fun _ s7 h7 => ?_
    obtain ⟨x, H7, I7, r7, y7, st7, n7⟩ := h7
    refine thnF (pg.run _ s7 _ H7 x u _ (I7.pinned (foot I7 n7) (T.obj _ _ st7)) r7 (step x H7 y7)) fun _ s8 h8 => ?_
    obtain ⟨z8, H8, I8, hw8, q8⟩ := h8
    refine thnF (pt.run _ s8 z8 H8 _ I8 q8) fun b s9 h9 => ?_
    obtain ⟨H9, I9, q9⟩ := h9
    have next : ∀ {s' : Shared} {H' : Hp}, Inv (X.blk s3 H3 scope ce fp) ([] ++ pinsAt fp s7.heap) z8 H' s' → Nx H' → ∃ m, m < n ∧ ∃ i H', Inv (X.blk s3 H3 scope ce fp) [] (wipe st vs) H' s' ∧ tn i s'.heap ∧ (∀ b ∈ fp, H' b = Option.none) ∧ W i m H' := by
      intro s' H' I' nx
      obtain ⟨m', hm, w'⟩ := hNx H' nx
      have still : ∀ b ∈ fp, ∀ o, s7.heap.get? b = some o → s'.heap.get? b = some o ∧ H' b = Option.none := fun b hb o e =>
        have z := I'.pin (b, o) (List.mem_append_right _ (List.mem_append_right _ (mem_pinsAt hb e)))
        ⟨z.1, z.2.1⟩
      refine ⟨m', hm, i + 1, H', (I'.unpinned (pins := [])).weak (by rw [← hw8, wipe_length]) (fun j v e => ?_), T.keep _ _ _ st7 fun b hb o e => (still b hb o e).1, fun b hb => ?_, w'⟩
      · rw [← hw8] at e
        exact (wipe_some e).1
      · exact (T.obj _ _ st7 b hb).elim fun o e => (still b hb o e.1).2
    cases b with
    | false => exact next I9 q9
    | true =>
      refine thnF (pk.run _ s9 z8 H9 _ I9 q9) fun kv s10 h10 => ?_
      obtain ⟨yk, H10, I10, r10, q10⟩ := h10
      refine thnF (pv.run _ s10 z8 H10 _ I10 q10) fun vv s11 h11 => ?_
      obtain ⟨yv, H11, I11, r11, kvs, k, q, rfl, hq, hD11, hz11, nx⟩ := h11
      obtain rfl : kv = Value.ref q := r10
      exact dictSetT (X := X.blk s3 H3 scope ce fp) hu I11 hD11 hz11 hq r11 fun s12 I12 => next I12 nx
theorem pe_dcT {kx vx tg iter : Expr} {ifs : List Expr} {scope : Scope} {own : List (Str × Nat)} {pos : Pos} {wi : TI} {g : TG} {tt : TT} {tk tv : TE} (hu : X.A.units < cLine) (hc : X.calm = true) (hN : X.N.Nodup) (hi : PI X tg iter wi) (ok : BlkOk X.N X.env.scope scope own)
    (hg : ∀ (s : Shared) (H : Hp) (C : Addr) (cl : List (Str × Addr)) (fp : List Addr), PG (X.blk s H scope (compEnvC scope cl C X.env) fp) tg g) (ht : ∀ (s : Shared) (H : Hp) (C : Addr) (cl : List (Str × Addr)) (fp : List Addr), PTs (X.blk s H scope (compEnvC scope cl C X.env) fp) ifs tt)
    (hk : ∀ (s : Shared) (H : Hp) (C : Addr) (cl : List (Str × Addr)) (fp : List Addr), PE (X.blk s H scope (compEnvC scope cl C X.env) fp) kx tk)
    (he : ∀ (s : Shared) (H : Hp) (C : Addr) (cl : List (Str × Addr)) (fp : List Addr), PE (X.blk s H scope (compEnvC scope cl C X.env) fp) vx tv) (hs : ∀ x, foldedSetIterable iter X.env x = pure x := by intro _; rfl) :
    PE X (.DictComp kx vx [⟨tg, iter, ifs, 0⟩] scope pos) (tDcT wi g tt tk tv (own.map (·.2))) := by
  refine ⟨fun pins s st H Q I h => ?_⟩
  rw [arm_eval_DictComp]
  -- the closure, the walked thing
  have freeCells : ∀ y ∈ scope.names, y.2 = .free → ∃ c, X.env.cells.lookup y.1 = some c := fun y hy e => (ok.free y hy e).elim (fun k => I.ok.has _ (Or.inl k)) (fun k => I.ok.has _ (Or.inr k))
  refine wpAny_comprehension_free rfl hs (closure_ok freeCells) ok.kind (fun y hy e => by rw [ok.uniq y hy, e]) (thn (hi.run pins s st H _ I h) fun xv s1 hx => thn hx fun itv s2 h2 => ?_)
  obtain ⟨it, fp, tn, J, H2, rfl, I2, T, st2, f2, q⟩ := h2
  -- the new dict, the block's frame
  refine wpAny_newObj_type (newEnv_comp ?_)
  have hDn : H2 s2.heap.objs.size = Option.none := I2.hok.fresh (Nat.le_refl _)
  obtain ⟨W, ⟨m0, w0⟩, turn⟩ := q s2.heap.objs.size hDn
  have young : ∀ b ∈ fp, b < s2.heap.objs.size := fun b hb => (T.obj _ _ st2 b hb).elim fun o e => Heap.lt_size e.1
  have I3 : Inv X pins st (upd H2 s2.heap.objs.size (.dT [])) { s2 with heap := s2.heap.push { cls := .type "dict", data := .dict #[] } } :=
    I2.laid (t' := s2.toks) (fun b o e => Heap.get?_push_of_some _ e) (Nat.le_refl _) (dt_empty s2.heap I2.big)
  have f3 : ∀ b ∈ fp, FpOk X pins (upd H2 s2.heap.objs.size (.dT [])) b ∧ b < (s2.heap.push { cls := .type "dict", data := .dict #[] }).objs.size := fun b hb =>
    ⟨⟨by rw [upd_ne (Nat.ne_of_lt (young b hb))]; exact (f2 b hb).1, (f2 b hb).2⟩, by rw [Heap.size_push]; exact Nat.lt_succ_of_lt (young b hb)⟩
  refine codeAny_mono (R := compPost (model X.prog X.w) X.A X.xe Option.none (EP X pins st Q) (.ref s2.heap.objs.size) (s2.heap.push { cls := .type "dict", data := .dict #[] }).objs.size) ?_ fun _ _ z => z
  have I4 := block_start I3 ok hN f3
  have st4 : tn 0 (pushCells ((s2.heap.push { cls := .type "dict", data := .dict #[] }).push { cls := .type "dict", data := .dict #[] }) scope.names) := T.keep _ _ _ st2 fun b _ o e => pushCells_keeps _ _ _ _ (Heap.get?_push_of_some _ (Heap.get?_push_of_some _ e))
  have loop := dcT_loop (kx := kx) (vx := vx) (iter := iter) (ifs := ifs) (pos := pos) (Q := Q) (m0 := m0) (R := compPost (model X.prog X.w) X.A X.xe Option.none (EP X pins st Q) (.ref s2.heap.objs.size) (s2.heap.push { cls := .type "dict", data := .dict #[] }).objs.size) hu hc I3 I4 (fun b hb => (f3 b hb).1) T st4 rfl
    (hg _ _ _ _ _) (ht _ _ _ _ _) (hk _ _ _ _ _) (he _ _ _ _ _) w0 turn fun s' m H' I' q hn f => ⟨m, hn, fun h'' sb => ⟨.ref _, H', I'.turned (t' := s'.toks) (fun b o hb e => (sb.2 b hb).trans e) f.1 f.2.1 f.2.2.2.1 f.2.2.2.2.1 f.2.2.2.2.2, rfl, q⟩⟩
  exact codeAny_compStart_dict loop (T.self X.A 0 _ _ _ st4 loop)
end
end RA
end

section
set_option Elab.async false
set_option linter.all false
set_option maxRecDepth 100000
set_option maxHeartbeats 4000000
namespace RA
open PySem PySem.Spec PyProof.Rows L2
/-! ## dict(t), t a tuple of pairs -/
/-- a tuple whose object is known to have no dict of its own -/
def FTup (H : Hp) (a : Addr) (xs : List V) : Prop := ∃ o : Obj, H a = some (.frz o (.tup xs)) ∧ o.dict = Option.none
section
variable {X : Cx}
theorem call_dictT (hcalm : X.calm = true) : CallR X (.type "dict") (fun xs H Q => ∃ (a : Addr) (ps : List Addr) (kvs : List (Key × V)), xs = [.ref a] ∧ FTup H a (ps.map V.ref) ∧ Paired (fun p kv => SqT X.K H p [kV kv.1, kv.2]) ps kvs ∧
    ∀ p, H p = Option.none → Q (.ref p) (upd H p (.dK (mergeK [] kvs)))) := by
  intro pins s st H xs us Q I r h
  obtain ⟨a, ps, kvs, rfl, ⟨o, ho, hdn⟩, hp, q⟩ := h
  obtain rfl := Vals.ref1 r
  obtain ⟨hget, hz, its, rv, o', ho', hc, n, hdat⟩ := I.hok a _ ho
  obtain rfl : o = o' := Option.some.inj (hget.symm.trans ho')
  have ei := refs_at rv
  subst ei
  rw [List.length_map] at hz
  obtain ⟨prs, rel, hl, hpr⟩ := pairs_of I hp
  have key : ∀ (j : Nat) (q : Key × Value), prs[j]? = some q → ∃ (b : Addr) (u : Value), ps[j]? = some b ∧ IsTup s.heap b #[u, q.2] ∧ keyIs q.1 u = true := hpr
  -- the pairs as values
  let keyOf : Nat → Value := fun j => @dite Value (∃ u, ∃ q, prs[j]? = some q ∧ ∃ b, ps[j]? = some b ∧ IsTup s.heap b #[u, q.2] ∧ keyIs q.1 u = true) (Classical.propDecidable _) (fun h => h.choose) fun _ => .none
  have keyOk : ∀ (j : Nat) (q : Key × Value), prs[j]? = some q → ∃ b, ps[j]? = some b ∧ IsTup s.heap b #[keyOf j, q.2] ∧ keyIs q.1 (keyOf j) = true := by
    intro j q e
    have hx : ∃ u, ∃ q, prs[j]? = some q ∧ ∃ b, ps[j]? = some b ∧ IsTup s.heap b #[u, q.2] ∧ keyIs q.1 u = true := by
      obtain ⟨b, u, h1, h2, h3⟩ := key j q e
      exact ⟨u, q, e, b, h1, h2, h3⟩
    have hk : keyOf j = hx.choose := dif_pos hx
    obtain ⟨q', e', b, h1, h2, h3⟩ := hx.choose_spec
    obtain rfl : q = q' := Option.some.inj (e.symm.trans e')
    rw [hk]
    exact ⟨b, h1, h2, h3⟩
  let vps : List (Value × Value) := (List.range prs.length).map fun j => (keyOf j, (prs.map (·.2)).getD j .none)
  have vat : ∀ j k v, vps[j]? = some (k, v) → ∃ q, prs[j]? = some q ∧ k = keyOf j ∧ v = q.2 := by
    intro j k v e
    have e' : ((List.range prs.length).map fun j => (keyOf j, (prs.map (·.2)).getD j .none))[j]? = some (k, v) := e
    rw [List.getElem?_map] at e'
    by_cases hj : j < prs.length
    · rw [List.getElem?_range hj] at e'
      have e2 := Option.some.inj e'
      have e3 : keyOf j = k := congrArg Prod.fst e2
      have e4 : (prs.map (·.2)).getD j .none = v := congrArg Prod.snd e2
      refine ⟨prs[j], List.getElem?_eq_getElem hj, e3.symm, ?_⟩
      rw [← e4, List.getD_eq_getElem?_getD, List.getElem?_map, List.getElem?_eq_getElem hj]
      rfl
    · rw [List.getElem?_eq_none (by rw [List.length_range]; omega)] at e'
      cases e'
  have vlen : vps.length = ps.length := by
    show ((List.range prs.length).map _).length = _
    rw [List.length_map, List.length_range, hl]
  have items : PairItems s.heap (ps.map Value.ref).toArray (fun j => ps.getD j 0) vps := by
    refine ⟨by rw [List.size_toArray, List.length_map, vlen], fun j k v e => ?_⟩
    obtain ⟨q, e1, rfl, rfl⟩ := vat j k v e
    obtain ⟨b, h1, h2, h3⟩ := keyOk j q e1
    have hb : ps.getD j 0 = b := by rw [List.getD_eq_getElem?_getD, h1]; rfl
    refine ⟨by simp [h1], Or.inl ?_⟩
    show s.heap.IsTuple (ps.getD j 0) _
    rw [hb]
    obtain ⟨o2, g1, g2, n2, g3⟩ := h2
    exact ⟨o2, g1, g2, n2, g3⟩
  have plain : PlainSeq "tuple" s.heap a (ps.map Value.ref).toArray := ⟨o, n, hget, hc, hdn, hdat⟩
  refine PySem.call_dict_pairs (knd := mixKind X.prog X.w) (kvs := prs) (PairArg.tuple a _ (fun j => ps.getD j 0) vps) (I.ok.hd hcalm) ⟨plain, items⟩ ⟨by rw [vlen, hl], fun i key v e => ?_⟩ (by rw [vlen]; exact hz) fun h' tk hd' k => ?_
  · obtain ⟨q, e1, rfl, rfl⟩ := vat i key v e
    obtain ⟨b, h1, h2, h3⟩ := keyOk i q e1
    exact ⟨q.1, e1, h3⟩
  · have hm : (s.heap.objs.size == sysModules) = false := beq_eq_false_iff_ne.mpr (Nat.ne_of_gt I.big)
    have hlen : (mergeK [] kvs).length ≤ sizeLine := by
      refine Nat.le_trans (length_mergeK kvs []) ?_
      rw [List.length_nil, Nat.zero_add, rel.length, hl]
      exact hz
    exact ⟨.ref s.heap.objs.size, upd H s.heap.objs.size (.dK (mergeK [] kvs)), I.laid (t' := tk) (fun b o e => k b o (by simp) e) (Nat.le_refl _) (show ObjOk X.prog X.w _ _ _ (.dK (mergeK [] kvs)) from ⟨hlen, hm, merged [] prs, KV.merge rel .nil, hd'⟩), rfl, q _ (I.hok.fresh (Nat.le_refl _))⟩
/-- tuple(xs) of a list, the new tuple with its object -/
theorem call_tupleF : CallR X (.type "tuple") (fun xs H Q => ∃ p ys, xs = [.ref p] ∧ SqL X.K H p ys ∧ ∀ l o, H l = Option.none → o.dict = Option.none → Q (.ref l) (upd H l (.frz o (.tup ys)))) := by
  intro pins s st H xs us Q I r h
  obtain ⟨p, ys, rfl, hq, q⟩ := h
  obtain rfl := Vals.ref1 r
  obtain ⟨its, r', pl, hz⟩ := I.list hq
  have hlen := r'.length
  refine call_tuple_list pl.isList (fun h' kp => ?_) (by simp only [List.size_toArray] <;> omega)
  have I1 : Inv X pins st H { s with heap := h' } := I.kept (t' := s.toks) kp
  have new : ObjOk X.prog X.w (upd H h'.objs.size (.frz { cls := .type "tuple", data := .seq its.toArray } (.tup ys))) (h'.push { cls := .type "tuple", data := .seq its.toArray }) h'.objs.size (.frz { cls := .type "tuple", data := .seq its.toArray } (.tup ys)) :=
    ⟨Heap.get?_push_size _ rfl, hz, its, r', IsTup.new _ _⟩
  have I2 := I1.laid (t' := s.toks) (fun b o e => Heap.get?_push_of_some _ e) (Nat.le_refl _) new
  exact ⟨.ref h'.objs.size, _, I2, rfl, q _ _ (I1.hok.fresh (Nat.le_refl _)) rfl⟩
end
end RA
end

section
set_option linter.all false
namespace RA
/-! ## mirrors: stretches -/
abbrev Pr := Option Int × Option Int
def vld : Pr → Bool
  | (some a, some b) => decide (a ≤ b)
  | _ => true
def lowLe : Pr → Pr → Bool
  | (none, _), _ => true
  | (some _, _), (none, _) => false
  | (some a, _), (some b, _) => decide (a ≤ b)
def laterEnd : Option Int → Option Int → Option Int
  | some a, some b => some (if b > a then b else a)
  | _, _ => none
def joins : Option Int → Option Int → Bool
  | none, _ => true
  | _, none => true
  | some b, some a => decide (a ≤ b + 1)
def mstep (acc : List Pr) (p : Pr) : List Pr := match acc.getLast? with
  | none => acc ++ [p]
  | some last => if joins last.2 p.1 = true then acc.dropLast ++ [(last.1, laterEnd last.2 p.2)] else acc ++ [p]
def merged (ps : List Pr) : List Pr := (ps.mergeSort lowLe).foldl mstep []
def maxO : Option Int → Option Int → Option Int
  | none, x => x
  | some a, none => some a
  | some a, some b => some (max a b)
def minO : Option Int → Option Int → Option Int
  | none, x => x
  | some a, none => some a
  | some a, some b => some (min a b)
def metP (a b : Pr) : Option Pr := if vld (maxO a.1 b.1, minO a.2 b.2) = true then some (maxO a.1 b.1, minO a.2 b.2) else none
def metAny (ps : List Pr) (one : Pr) : List Pr := ps.filterMap (metP one)
def inter (a b : List Pr) : List Pr := a.flatMap (metAny b)
structure GapSt where
  found : List Pr
  low : Option Int
  op : Bool
def gapStep (g : GapSt) (p : Pr) : GapSt :=
  ⟨match p.1 with | none => g.found | some b => g.found ++ [(g.low, some (b - 1))], p.2.map (· + 1), p.2.isSome⟩
def gapRun (ps : List Pr) : GapSt := ps.foldl gapStep ⟨[], none, true⟩
def gapsIn (ps : List Pr) : List Pr := if (gapRun ps).op = true then (gapRun ps).found ++ [((gapRun ps).low, none)] else (gapRun ps).found
def spU (a b : List Pr) : List Pr := merged (a ++ b)
def spI (a b : List Pr) : List Pr := merged (inter a b)
def spN (a : List Pr) : List Pr := merged (gapsIn a)
def inSp (n : Int) (a : List Pr) : Bool := !(metAny a (some n, some n)).isEmpty
/-! ## mirrors: steps -/
inductive Stp where
  | plus (k : Int) | times (k : Int) | into (d : Int) | over (k : Int) | found (ps : List (Int × Int))
def lookP (ps : List (Int × Int)) (x : Int) : Option Int := (ps.find? fun q => q.1 == x).map (·.2)
def stepOn : Stp → Int → Option Int
  | .plus k, x => some (x + k)
  | .times k, x => some (x * k)
  | .into d, x => some (x.fdiv d)
  | .over k, x => if x = 0 then none else some (k.fdiv x)
  | .found ps, x => lookP ps x
def stepsOn : List Stp → Int → Option Int
  | [], x => some x
  | s :: r, x => match stepOn s x with
    | none => none
    | some y => stepsOn r y
def dot (x : Int) : Pr := (some x, some x)
def erringAt : Stp → List Pr
  | .over _ => merged [dot 0]
  | .found ps => spN (merged (ps.map fun q => dot q.1))
  | _ => merged []
def overUp (n d : Int) : Int := -((-n).fdiv d)
def shiftO (by_ : Int) (e : Option Int) : Option Int := e.map (· + by_)
def beforeTimes (p : Pr) (k : Int) : Option Pr :=
  let q : Pr := if k > 0 then p else (p.2, p.1)
  let f : Pr := (q.1.map (overUp · k), q.2.map (·.fdiv k))
  if vld f = true then some f else none
def intoEnds (p : Pr) (d : Int) : Pr := (p.1.map (· * d), p.2.map fun h => h * d + d - 1)
/-- behind the low end: (low, high), or nothing -/
def overLow (a : Option Int) (k : Int) : Option Pr := match a with
  | none => some (some 1, none)
  | some a => if a = 0 ∧ k < 0 then none else some (some (if a < 0 then max 1 (overUp k a) else 1), if a > 0 then some (k.fdiv a) else none)
def overHigh (q : Pr) (b : Option Int) (k : Int) : Option Pr := match b with
  | none => some q
  | some b => if b + 1 = 0 ∧ k ≥ 0 then none else
      some (if b + 1 > 0 then maxO q.1 (some (k.fdiv (b + 1) + 1)) else q.1, if b + 1 < 0 then minO q.2 (some (overUp k (b + 1) - 1)) else q.2)
def beforeOver (p : Pr) (k : Int) : Option Pr := ((overLow p.1 k).bind fun q => overHigh q p.2 k).bind fun q => if vld q = true then some q else none
def mirroredP (p : Pr) : Pr := (p.2.map (- ·), p.1.map (- ·))
def beforeOne : Stp → List Pr → List Pr
  | .found ps, sp => merged (ps.filterMap fun q => if inSp q.2 sp = true then some (dot q.1) else none)
  | .plus k, sp => merged (sp.map fun p => (shiftO (-k) p.1, shiftO (-k) p.2))
  | .into d, sp => merged (sp.map fun p => intoEnds p d)
  | .times k, sp => merged (sp.filterMap fun p => beforeTimes p k)
  | .over k, sp => merged (sp.flatMap fun p => [beforeOver p k, (beforeOver p (-k)).map mirroredP].filterMap id)
def before (ss : List Stp) (sp : List Pr) : List Pr := ss.foldr beforeOne sp
def erring (ss : List Stp) : List Pr := ss.foldr (fun s f => spU (beforeOne s f) (erringAt s)) (merged [])
/-! ## mirrors: tests -/
inductive Sgn where
  | lt | le | ne | eq | gt | ge
structure Tst where
  steps : List Stp
  sign : Sgn
  n : Int
def holding (s : Sgn) (n : Int) : List Pr :=
  let less := merged [(none, some (n - 1))]
  let same := merged [dot n]
  match s with
  | .lt => less
  | .le => spU less same
  | .eq => same
  | .gt => spN (spU less same)
  | .ge => spN less
  | .ne => spN same
def isSo (x : Int) (s : Sgn) (n : Int) : Bool := match s with
  | .eq => decide (x = n)
  | .ne => !decide (x = n)
  | .le => decide (x ≤ n)
  | .ge => decide (n ≤ x)
  | .lt => decide (x < n)
  | .gt => decide (n < x)
inductive Ans where
  | error | no | unknown | yes
  deriving DecidableEq
def ansAt (t : Tst) (x : Int) : Ans := match stepsOn t.steps x with
  | none => .error
  | some y => if isSo y t.sign t.n = true then .yes else .no
def toldA (t : Tst) : Ans → List Pr
  | .error => erring t.steps
  | .yes => before t.steps (holding t.sign t.n)
  | .no => spN (spU (erring t.steps) (before t.steps (holding t.sign t.n)))
  | .unknown => merged []
/-! ## mirrors: cells -/
structure Col where
  lo : Int
  hi : Int
  empty : Bool
  words : Bool
structure Cell where
  empty : Bool
  words : Bool
  spans : List Pr
  deriving DecidableEq
def answers4 : List Ans := [.error, .no, .unknown, .yes]
abbrev Lot := List Ans × List Pr
def lotStep (found : List Lot) (t : Tst) : List Lot :=
  (found.flatMap fun q => answers4.map fun a => (q.1 ++ [a], spI q.2 (toldA t a))).filter fun q => !q.2.isEmpty
def numberLots (c : Col) (ts : List Tst) : List Lot := ts.foldl lotStep [([], merged [(some c.lo, some c.hi)])]
end RA
end

section
set_option Elab.async false
set_option linter.all false
set_option maxRecDepth 100000
set_option maxHeartbeats 4000000
namespace RA
open PySem PySem.Spec PyProof.Rows L2
/-! ## the text -/
def top (i : Nat) : Stmt := PySem.Challenge.pw_refusedahead_k33_whole_cells_far_out.main.body.getD i (.Pass ⟨0, 0, 0, 0⟩)
/-! ## data in the heap -/
mutual
/-- data keep standing where lists and tuples do -/
theorem Dp.keep {K : PySem.W.Frag} {H H' : Hp} (hl : ∀ a xs, SqL K H a xs → SqL K H' a xs) (ht : ∀ a xs, SqT K H a xs → SqT K H' a xs) : ∀ (d : PyData) (v : V), Dp K H v d → Dp K H' v d
  | .none, _, h => by cases h; exact .non
  | .bool _, _, h => by cases h; exact .bl _
  | .int _, _, h => by cases h; exact .int _
  | .str _, _, h => by cases h; exact .str _
  | .list ds, _, h => by
    cases h with
    | lst h1 h2 => exact .lst (hl _ _ h1) (DpAll.keep hl ht ds _ h2)
  | .tuple ds, _, h => by
    cases h with
    | tup h1 h2 => exact .tup (ht _ _ h1) (DpAll.keep hl ht ds _ h2)
  | .dict _, _, h => by cases h
theorem DpAll.keep {K : PySem.W.Frag} {H H' : Hp} (hl : ∀ a xs, SqL K H a xs → SqL K H' a xs) (ht : ∀ a xs, SqT K H a xs → SqT K H' a xs) : ∀ (ds : List PyData) (vs : List V), DpAll K H vs ds → DpAll K H' vs ds
  | [], _, h => by cases h; exact .nil
  | d :: ds, _, h => by
    cases h with
    | cons h1 h2 => exact .cons (Dp.keep hl ht d _ h1) (DpAll.keep hl ht ds _ h2)
end
mutual
/-- no list in it -/
def tupD : PyData → Bool
  | .none => true
  | .bool _ => true
  | .int _ => true
  | .str _ => true
  | .tuple ds => tupDs ds
  | _ => false
def tupDs : List PyData → Bool
  | [] => true
  | d :: ds => tupD d && tupDs ds
end
mutual
theorem Dp.keepT {K : PySem.W.Frag} {H H' : Hp} (ht : ∀ a xs, SqT K H a xs → SqT K H' a xs) : ∀ (d : PyData) (v : V), tupD d = true → Dp K H v d → Dp K H' v d
  | .none, _, _, h => by cases h; exact .non
  | .bool _, _, _, h => by cases h; exact .bl _
  | .int _, _, _, h => by cases h; exact .int _
  | .str _, _, _, h => by cases h; exact .str _
  | .list ds, _, t, h => by simp [tupD] at t
  | .tuple ds, _, t, h => by
    cases h with
    | tup h1 h2 => exact .tup (ht _ _ h1) (DpAll.keepT ht ds _ (by simpa [tupD] using t) h2)
  | .dict _, _, t, h => by cases h
theorem DpAll.keepT {K : PySem.W.Frag} {H H' : Hp} (ht : ∀ a xs, SqT K H a xs → SqT K H' a xs) : ∀ (ds : List PyData) (vs : List V), tupDs ds = true → DpAll K H vs ds → DpAll K H' vs ds
  | [], _, _, h => by cases h; exact .nil
  | d :: ds, _, t, h => by
    cases h with
    | cons h1 h2 =>
      have t' : tupD d = true ∧ tupDs ds = true := by simpa [tupDs] using t
      exact .cons (Dp.keepT ht d _ t'.1 h1) (DpAll.keepT ht ds _ t'.2 h2)
end
section
variable {K : PySem.W.Frag} {H H' : Hp}
theorem Dp.same {d : PyData} {v : V} (e : Same H H') (h : Dp K H v d) : Dp K H' v d := Dp.keep (fun _ _ z => z.ext e) (fun _ _ z => z.ext e) d v h
theorem DpAll.same {ds : List PyData} {vs : List V} (e : Same H H') (h : DpAll K H vs ds) : DpAll K H' vs ds := DpAll.keep (fun _ _ z => z.ext e) (fun _ _ z => z.ext e) ds vs h
theorem DpAll.get : ∀ {ds : List PyData} {vs : List V} {i : Nat} {v : V}, DpAll K H vs ds → vs[i]? = some v → ∃ d, ds[i]? = some d ∧ Dp K H v d
  | _, _, _, _, .nil, e => by simp at e
  | _, _, 0, _, .cons h _, e => by simp at e; subst e; exact ⟨_, rfl, h⟩
  | _, _, i + 1, _, .cons _ t, e => DpAll.get (i := i) t (by simpa using e)
theorem DpAll.getD : ∀ {ds : List PyData} {vs : List V} {i : Nat} {d : PyData}, DpAll K H vs ds → ds[i]? = some d → ∃ v, vs[i]? = some v ∧ Dp K H v d
  | _, _, _, _, .nil, e => by simp at e
  | _, _, 0, _, .cons h _, e => by simp at e; subst e; exact ⟨_, rfl, h⟩
  | _, _, i + 1, _, .cons _ t, e => DpAll.getD (i := i) t (by simpa using e)
theorem DpAll.app : ∀ {ds es : List PyData} {vs ws : List V}, DpAll K H vs ds → DpAll K H ws es → DpAll K H (vs ++ ws) (ds ++ es)
  | _, _, _, _, .nil, h => h
  | _, _, _, _, .cons h t, h' => .cons h (DpAll.app t h')
theorem DpAll.one {d : PyData} {v : V} (h : Dp K H v d) : DpAll K H [v] [d] := .cons h .nil
theorem DpAll.take : ∀ {ds : List PyData} {vs : List V} (n : Nat), DpAll K H vs ds → DpAll K H (vs.take n) (ds.take n)
  | _, _, 0, _ => by simp; exact .nil
  | _, _, n + 1, .nil => by simp; exact .nil
  | _, _, n + 1, .cons h t => by
    rw [List.take_succ_cons, List.take_succ_cons]
    exact .cons h (DpAll.take n t)
theorem DpAll.drop : ∀ {ds : List PyData} {vs : List V} (n : Nat), DpAll K H vs ds → DpAll K H (vs.drop n) (ds.drop n)
  | _, _, 0, h => h
  | _, _, n + 1, .nil => by simp; exact .nil
  | _, _, n + 1, .cons h t => by
    rw [List.drop_succ_cons, List.drop_succ_cons]
    exact DpAll.drop n t
theorem DpAll.rev : ∀ {ds : List PyData} {vs : List V}, DpAll K H vs ds → DpAll K H vs.reverse ds.reverse
  | _, _, .nil => .nil
  | _, _, .cons h t => by
    rw [List.reverse_cons, List.reverse_cons]
    exact DpAll.app (DpAll.rev t) (DpAll.one h)
theorem DpAll.len {ds : List PyData} {vs : List V} (h : DpAll K H vs ds) : vs.length = ds.length := dpAll_len h
/-- item by item -/
theorem DpAll.of_get : ∀ {ds : List PyData} {vs : List V}, vs.length = ds.length → (∀ (i : Nat) v d, vs[i]? = some v → ds[i]? = some d → Dp K H v d) → DpAll K H vs ds
  | [], [], _, _ => .nil
  | [], _ :: _, h, _ => by simp at h
  | _ :: _, [], h, _ => by simp at h
  | d :: ds, v :: vs, h, g => .cons (g 0 v d rfl rfl) (DpAll.of_get (by simpa using h) fun i v d h1 h2 => g (i + 1) v d (by simpa using h1) (by simpa using h2))
theorem dp_tup {v : V} {ds : List PyData} (h : Dp K H v (.tuple ds)) : ∃ a xs, v = .ref a ∧ SqT K H a xs ∧ DpAll K H xs ds := by
  cases h with
  | tup h1 h2 => exact ⟨_, _, rfl, h1, h2⟩
theorem dp_int {v : V} {i : Int} (h : Dp K H v (.int i)) : v = .int i := by cases h; rfl
theorem dp_bl {v : V} {b : Bool} (h : Dp K H v (.bool b)) : v = .bl b := by cases h; rfl
theorem dp_str {v : V} {x : Str} (h : Dp K H v (.str x)) : v = .str x := by cases h; rfl
theorem dp_non {v : V} (h : Dp K H v .none) : v = .non := by cases h; rfl
theorem dps_nil {vs : List V} (h : DpAll K H vs []) : vs = [] := by cases h; rfl
theorem dps_cons {vs : List V} {d : PyData} {ds : List PyData} (h : DpAll K H vs (d :: ds)) : ∃ v ws, vs = v :: ws ∧ Dp K H v d ∧ DpAll K H ws ds := by
  cases h with
  | cons h1 h2 => exact ⟨_, _, rfl, h1, h2⟩
end
theorem same_upd {H : Hp} {p : Addr} {o : HO} (h : H p = Option.none) : Same H (upd H p o) := fun b x e => by
  rw [upd_ne (ne_of_none e h)]
  exact e
theorem same_new {H H' : Hp} {p : Addr} {o : HO} (e : Same H H') (h : H' p = Option.none) : Same H (upd H' p o) := e.trans (same_upd h)
/-- a new object is written again: what stood before stands -/
theorem same_own {H H' : Hp} {p : Addr} {o : HO} (e : Same H H') (h : H p = Option.none) : Same H (upd H' p o) := fun b x q => by
  rw [upd_ne (ne_of_none q h)]
  exact e b x q
/-! ## stretches as data -/
def encE : Option Int → PyData
  | none => .none
  | some i => .int i
def endV : Option Int → V
  | none => .non
  | some i => .int i
def encP (p : Pr) : PyData := .tuple [encE p.1, encE p.2]
def encPs (ps : List Pr) : List PyData := ps.map encP
section
variable {K : PySem.W.Frag} {H H' : Hp}
theorem dp_end (e : Option Int) : Dp K H (endV e) (encE e) := by cases e <;> constructor
theorem dp_endv {v : V} {e : Option Int} (h : Dp K H v (encE e)) : v = endV e := by
  cases e with
  | none => exact dp_non h
  | some i => exact dp_int h
theorem dp_prv {v : V} {p : Pr} (h : Dp K H v (encP p)) : ∃ a, v = .ref a ∧ SqT K H a [endV p.1, endV p.2] := by
  obtain ⟨a, xs, rfl, ha, hx⟩ := dp_tup h
  obtain ⟨v1, r1, rfl, h1, hx⟩ := dps_cons hx
  obtain ⟨v2, r2, rfl, h2, hx⟩ := dps_cons hx
  cases dps_nil hx
  rw [dp_endv h1, dp_endv h2] at ha
  exact ⟨a, rfl, ha⟩
theorem dp_pr {a : Addr} {p : Pr} (h : SqT K H a [endV p.1, endV p.2]) : Dp K H (.ref a) (encP p) := .tup h (.cons (dp_end _) (.cons (dp_end _) .nil))
theorem dp_pr_new {a : Addr} {p : Pr} (h : H a = some (.tup [endV p.1, endV p.2])) : Dp K H (.ref a) (encP p) := dp_pr (SqT.of h)
/-- a Spans of the class at C: its field, its list -/
def SpAt (K : PySem.W.Frag) (C : Addr) (H : Hp) (a : Addr) (ps : List Pr) : Prop := ∃ dx l xs, H a = some (.ins C dx [("its_pairs", .ref l)]) ∧ H l = some (.lst xs) ∧ DpAll K H xs (encPs ps)
theorem SpAt.same {C a : Addr} {ps : List Pr} (e : Same H H') (h : SpAt K C H a ps) : SpAt K C H' a ps := by
  obtain ⟨dx, l, xs, h1, h2, h3⟩ := h
  exact ⟨dx, l, xs, e _ _ h1, e _ _ h2, DpAll.same e h3⟩
/-- a list or a tuple to be read -/
def Sq (K : PySem.W.Frag) (H : Hp) (a : Addr) (xs : List V) : Prop := SqL K H a xs ∨ SqT K H a xs
end
/-! ## what promises hand back -/
def RetD (K : PySem.W.Frag) (H : Hp) (Q : VK) (d : PyData) : Prop := ∀ v H', Same H H' → Dp K H' v d → Q v H'
def RetS (K : PySem.W.Frag) (C : Addr) (H : Hp) (Q : VK) (ps : List Pr) : Prop := ∀ a H', Same H H' → SpAt K C H' a ps → Q (.ref a) H'
def RetL (K : PySem.W.Frag) (H : Hp) (Q : VK) (ds : List PyData) : Prop := ∀ p xs H', Same H H' → H p = Option.none → H' p = some (.lst xs) → DpAll K H' xs ds → Q (.ref p) H'
/-! ## a def that is called by its name -/
def Fd (P : Program) (w : World) (K : PySem.W.Frag) (mg : Str → Option Value) (base : Heap) (x : Str) (k : Nat) (ps : List Str) (sp : Sp) : Prop :=
  ∃ f fd, mg x = some (.ref f) ∧ PySem.W.keepIn K (.ref f) = true ∧ Binds K fd ps [] ∧ FnOk P w K mg base CX0 k f fd ps sp
theorem pe_f {X : Cx} {x : Str} {k : Nat} {ps : List Str} {sp : Sp} {e : Expr} {es : List Expr} {t : TA} {p pos : Pos} (F : Fd X.prog X.w X.K X.mg X.base x k ps sp) (hr : Room k X.A) (ha : PA X (e :: es) t) (hg : Gl X x := by rfl) (hdb : (x == ("__debug__" : Str)) = false := by decide)
    (he : starEach (e :: es) X.env = (false, eval e X.env) :: starEach es X.env := by rfl) (hpl : (backTo pos (starEach es X.env)).any (·.1) = false := by rfl) : PE X (.Call (.Name x p) (e :: es) [] pos) (tCall sp [] E0 t) := by
  obtain ⟨f, fd, hm, hk, hb, hF⟩ := F
  exact pe_call hF hr hg hm hk hb .nil pass0 ha hdb he hpl
/-! ## loops over lists, tuples -/
/-- the turns of a walk whose i-th item is xs[i]: W from a word of the turn -/
theorem turns_of {J : It} {xs : List V} {H0 : Hp} {Qd : Hp → Prop} {B : V → Hp → (Hp → Prop) → Prop} (Pv : Nat → Hp → Prop) (h0 : Pv 0 H0) (hgo : ∀ i H, i < xs.length → Pv i H → J.go i H) (hst : ∀ H, Pv xs.length H → J.stop xs.length H)
    (hy : ∀ i H x H', Pv i H → J.yld i H x H' → xs[i]? = some x ∧ H' = H) (hs : ∀ i x H, xs[i]? = some x → Pv i H → B x H (Pv (i + 1))) (hd : ∀ H, Pv xs.length H → Qd H) :
    ∃ W : Nat → Nat → Hp → Prop, (∃ m, W 0 m H0) ∧ ∀ i m H, W i m H → (J.stop i H ∧ Qd H) ∨ (J.go i H ∧ ∃ Nx : Hp → Prop, (∀ H', Nx H' → ∃ m', m' < m ∧ W (i + 1) m' H') ∧ ∀ x H', J.yld i H x H' → B x H' Nx) := by
  refine ⟨fun i m H => i + m = xs.length ∧ Pv i H, ⟨xs.length, by omega, h0⟩, fun i m H hW => ?_⟩
  obtain ⟨em, hP⟩ := hW
  by_cases hi : i < xs.length
  · refine Or.inr ⟨hgo i H hi hP, Pv (i + 1), fun H' hP' => ⟨m - 1, by omega, by omega, hP'⟩, fun x H' hyl => ?_⟩
    obtain ⟨h1, rfl⟩ := hy i H x H' hP hyl
    exact hs i x _ h1 hP
  · have e : i = xs.length := by omega
    subst e
    exact Or.inl ⟨hst H hP, hd H hP⟩
theorem turns_list {K : PySem.W.Frag} {a : Addr} {xs : List V} {H0 : Hp} {Qd : Hp → Prop} {B : V → Hp → (Hp → Prop) → Prop} (Pv : Nat → Hp → Prop) (h0 : Pv 0 H0) (hl : ∀ i H, Pv i H → SqL K H a xs) (hs : ∀ i x H, xs[i]? = some x → Pv i H → B x H (Pv (i + 1))) (hd : ∀ H, Pv xs.length H → Qd H) :
    ∃ W : Nat → Nat → Hp → Prop, (∃ m, W 0 m H0) ∧ ∀ i m H, W i m H → ((Itl K a).stop i H ∧ Qd H) ∨ ((Itl K a).go i H ∧ ∃ Nx : Hp → Prop, (∀ H', Nx H' → ∃ m', m' < m ∧ W (i + 1) m' H') ∧ ∀ x H', (Itl K a).yld i H x H' → B x H' Nx) :=
  turns_of Pv h0 (fun i H hi hP => ⟨xs, xs[i], hl i H hP, List.getElem?_eq_getElem hi⟩) (fun H hP => ⟨xs, hl _ H hP, Nat.le_refl _⟩) (fun i H x H' hP hy => ⟨hy.2 xs (hl i H hP), hy.1⟩) hs hd
theorem turns_tup {K : PySem.W.Frag} {a : Addr} {xs : List V} {H0 : Hp} {Qd : Hp → Prop} {B : V → Hp → (Hp → Prop) → Prop} (Pv : Nat → Hp → Prop) (h0 : Pv 0 H0) (hl : ∀ i H, Pv i H → SqT K H a xs) (hs : ∀ i x H, xs[i]? = some x → Pv i H → B x H (Pv (i + 1))) (hd : ∀ H, Pv xs.length H → Qd H) :
    ∃ W : Nat → Nat → Hp → Prop, (∃ m, W 0 m H0) ∧ ∀ i m H, W i m H → ((Itt K a).stop i H ∧ Qd H) ∨ ((Itt K a).go i H ∧ ∃ Nx : Hp → Prop, (∀ H', Nx H' → ∃ m', m' < m ∧ W (i + 1) m' H') ∧ ∀ x H', (Itt K a).yld i H x H' → B x H' Nx) :=
  turns_of Pv h0 (fun i H hi hP => ⟨xs, xs[i], hl i H hP, List.getElem?_eq_getElem hi⟩) (fun H hP => ⟨xs, hl _ H hP, Nat.le_refl _⟩) (fun i H x H' hP hy => ⟨hy.2 xs (hl i H hP), hy.1⟩) hs hd
end RA
end

section
set_option Elab.async false
set_option linter.all false
set_option maxRecDepth 100000
set_option maxHeartbeats 4000000
namespace RA
open PySem PySem.Spec PyProof.Rows L2
/-! ## the names of built-in things -/
structure Bi (mg : Str → Option Value) : Prop where
  isi : mg "isinstance" = Option.none
  int_ : mg "int" = Option.none
  bool_ : mg "bool" = Option.none
  str_ : mg "str" = Option.none
  len_ : mg "len" = Option.none
  tup_ : mg "tuple" = Option.none
  lst_ : mg "list" = Option.none
  all_ : mg "all" = Option.none
  any_ : mg "any" = Option.none
  max_ : mg "max" = Option.none
  min_ : mg "min" = Option.none
  sum_ : mg "sum" = Option.none
  srt_ : mg "sorted" = Option.none
  itr_ : mg "iter" = Option.none
  rng_ : mg "range" = Option.none
  abs_ : mg "abs" = Option.none
  dct_ : mg "dict" = Option.none
  set_ : mg "set" = Option.none
  enu_ : mg "enumerate" = Option.none
  rep_ : mg "repr" = Option.none
theorem bt_isi : bootBuiltins "isinstance" = some (.builtin "isinstance") := by decide +kernel
theorem bt_len : bootBuiltins "len" = some (.builtin "len") := by decide +kernel
theorem bt_all : bootBuiltins "all" = some (.builtin "all") := by decide +kernel
theorem bt_any : bootBuiltins "any" = some (.builtin "any") := by decide +kernel
theorem bt_max : bootBuiltins "max" = some (.builtin "max") := by decide +kernel
theorem bt_min : bootBuiltins "min" = some (.builtin "min") := by decide +kernel
theorem bt_sum : bootBuiltins "sum" = some (.builtin "sum") := by decide +kernel
theorem bt_srt : bootBuiltins "sorted" = some (.builtin "sorted") := by decide +kernel
theorem bt_itr : bootBuiltins "iter" = some (.builtin "iter") := by decide +kernel
theorem bt_abs : bootBuiltins "abs" = some (.builtin "abs") := by decide +kernel
theorem bt_rep : bootBuiltins "repr" = some (.builtin "repr") := by decide +kernel
theorem bt_int : bootBuiltins "int" = some (.type "int") := by decide +kernel
theorem bt_bool : bootBuiltins "bool" = some (.type "bool") := by decide +kernel
theorem bt_str : bootBuiltins "str" = some (.type "str") := by decide +kernel
theorem bt_tup : bootBuiltins "tuple" = some (.type "tuple") := by decide +kernel
theorem bt_lst : bootBuiltins "list" = some (.type "list") := by decide +kernel
theorem bt_dct : bootBuiltins "dict" = some (.type "dict") := by decide +kernel
theorem bt_set : bootBuiltins "set" = some (.type "set") := by decide +kernel
/-- a built-in class as a value -/
theorem pe_ty {X : Cx} {x : Str} {n : String} {pos : Pos} (hm : X.mg x = Option.none) (hv : bootBuiltins x = some (.type n)) (hg : Gl X x := by rfl) (hn : x ≠ "__name__" := by decide) (hd : (x == ("__debug__" : Str)) = false := by decide) : PE X (.Name x pos) (tC (.ty n)) := pe_bltn hg hm hv rfl hn hd
theorem tyx_tup {K : PySem.W.Frag} {H : Hp} {a : Addr} {xs : List V} (h : SqT K H a xs) : TyX K H (.ref a) (.type "tuple") := by
  rcases h with (h | ⟨o, h⟩) | ⟨o, its, n, h, hc, _⟩
  · exact .base (.tup h)
  · exact .fTuple h
  · exact .kTuple h hc
theorem tyx_lst {K : PySem.W.Frag} {H : Hp} {a : Addr} {xs : List V} (h : SqL K H a xs) : TyX K H (.ref a) (.type "list") := by
  rcases h with (h | ⟨o, h⟩) | ⟨o, its, n, h, hc, _⟩
  · exact .base (.lst h)
  · exact .base (.frz h)
  · exact .kList h hc
section
variable {P : Program} {w : World} {K : PySem.W.Frag} {mg : Str → Option Value} {base : Heap}
/-! ## is_integer, is_end, is_pair -/
def intV : V → Bool
  | .int _ => true
  | _ => false
def plainV : V → Prop
  | .int _ => True
  | .non => True
  | .str _ => True
  | _ => False
def spIsInt : Sp := fun vs H Q _ => ∃ v, vs = [v] ∧ plainV v ∧ Q (.bl (intV v)) H
abbrev sIsInt : Stmt := top 8
theorem scIsInt : FnScope ["thing"] ["thing"] (defScope sIsInt) := ⟨rfl, rfl, rfl, by decide +kernel, rfl, by decide +kernel, by decide +kernel⟩
theorem kit_ii : ∀ K, PySem.W.kitOne K (.type "int") (.type "int") = some true := fun _ => kit_ty (by decide +kernel)
theorem kit_ib : ∀ K, PySem.W.kitOne K (.type "int") (.type "bool") = some false := fun _ => kit_ty (by decide +kernel)
theorem kit_ni : ∀ K, PySem.W.kitOne K (.type "NoneType") (.type "int") = some false := fun _ => kit_ty (by decide +kernel)
theorem kit_si : ∀ K, PySem.W.kitOne K (.type "str") (.type "int") = some false := fun _ => kit_ty (by decide +kernel)
theorem kit_tt : ∀ K, PySem.W.kitOne K (.type "tuple") (.type "tuple") = some true := fun _ => kit_ty (by decide +kernel)
theorem kit_tl : ∀ K, PySem.W.kitOne K (.type "tuple") (.type "list") = some false := fun _ => kit_ty (by decide +kernel)
theorem kit_ll : ∀ K, PySem.W.kitOne K (.type "list") (.type "list") = some true := fun _ => kit_ty (by decide +kernel)
theorem kit_ss : ∀ K, PySem.W.kitOne K (.type "str") (.type "str") = some true := fun _ => kit_ty (by decide +kernel)
theorem kit_is : ∀ K, PySem.W.kitOne K (.type "int") (.type "str") = some false := fun _ => kit_ty (by decide +kernel)
theorem ok_isInt {f : Addr} {fd : FuncData} (F : Fun K "is_integer" "is_integer" sIsInt f fd) (B : Bi mg) : FnOk P w K mg base CX0 1 f fd ["thing"] spIsInt := by
  refine F.ok scIsInt (fun vs H Q E h => ?_) (fun cdv A outer s H vs Q E hr h => ?_)
  · obtain ⟨v, rfl, _⟩ := h
    rfl
  · obtain ⟨v, rfl, hv, q⟩ := h
    refine ⟨_, pss_one (ps_ret (pe_and (pe_callB call_isi (by rfl) B.isi bt_isi (pa_cons (pv 0) (pa_cons (pe_ty B.int_ bt_int) pa_nil)))
      (pe_one (pe_not (pe_callB call_isi (by rfl) B.isi bt_isi (pa_cons (pv 0) (pa_cons (pe_ty B.bool_ bt_bool) pa_nil))))))), ?_⟩
    cases v with
    | int i => exact ⟨_, rfl, _, _, _, _, true, rfl, .ty "int", .base (.int i), kit_ii _, true, rfl, _, rfl, _, _, _, _, false, rfl, .ty "bool", .base (.int i), kit_ib _, false, rfl, q⟩
    | non => exact ⟨_, rfl, _, _, _, _, false, rfl, .ty "int", .base .non, kit_ni _, false, rfl, q⟩
    | str x => exact ⟨_, rfl, _, _, _, _, false, rfl, .ty "int", .base (.str x), kit_si _, false, rfl, q⟩
    | _ => exact hv.elim
def spIsEnd : Sp := fun vs H Q _ => ∃ e, vs = [endV e] ∧ Q (.bl true) H
abbrev sIsEnd : Stmt := top 11
theorem scIsEnd : FnScope ["thing"] ["thing"] (defScope sIsEnd) := ⟨rfl, rfl, rfl, by decide +kernel, rfl, by decide +kernel, by decide +kernel⟩
theorem ok_isEnd {f : Addr} {fd : FuncData} (F : Fun K "is_end" "is_end" sIsEnd f fd) (Fi : Fd P w K mg base "is_integer" 1 ["thing"] spIsInt) : FnOk P w K mg base CX0 2 f fd ["thing"] spIsEnd := by
  refine F.ok scIsEnd (fun vs H Q E h => ?_) (fun cdv A outer s H vs Q E hr h => ?_)
  · obtain ⟨v, rfl, _⟩ := h
    rfl
  · obtain ⟨e, rfl, q⟩ := h
    refine ⟨_, pss_one (ps_ret (pe_or (pe_cmpR op_isN (pv 0) pe_non (nomark _)) (pe_one (pe_f Fi hr (pa_cons (pv 0) pa_nil))))), ?_⟩
    cases e with
    | none => exact ⟨_, rfl, rfl, true, rfl, q⟩
    | some i => exact ⟨_, rfl, rfl, false, rfl, _, rfl, _, rfl, True.intro, q⟩
def spIsPair (K : PySem.W.Frag) : Sp := fun vs H Q _ => ∃ v p, vs = [v] ∧ Dp K H v (encP p) ∧ Q (.bl (vld p)) H
abbrev sIsPair : Stmt := top 12
theorem scIsPair : FnScope ["thing"] ["thing"] (defScope sIsPair) := ⟨rfl, rfl, rfl, by decide +kernel, rfl, by decide +kernel, by decide +kernel⟩
theorem at0 {α : Type} {x : α} {xs : List α} : atI (x :: xs) 0 = some x := atI_nat (j := 0) rfl
theorem at1 {α : Type} {x y : α} {xs : List α} : atI (x :: y :: xs) 1 = some y := atI_nat (j := 1) rfl
theorem at2 {α : Type} {x y z : α} {xs : List α} : atI (x :: y :: z :: xs) 2 = some z := atI_nat (j := 2) rfl
theorem at3 {α : Type} {x y z u : α} {xs : List α} : atI (x :: y :: z :: u :: xs) 3 = some u := atI_nat (j := 3) rfl
theorem at4 {α : Type} {x y z u v : α} {xs : List α} : atI (x :: y :: z :: u :: v :: xs) 4 = some v := atI_nat (j := 4) rfl
/-- thing[0], thing[1] of the tuple in a slot -/
theorem ok_isPair {f : Addr} {fd : FuncData} (F : Fun K "is_pair" "is_pair" sIsPair f fd) (B : Bi mg) (Fe : Fd P w K mg base "is_end" 2 ["thing"] spIsEnd) : FnOk P w K mg base CX0 3 f fd ["thing"] (spIsPair K) := by
  refine F.ok scIsPair (fun vs H Q E h => ?_) (fun cdv A outer s H vs Q E hr h => ?_)
  · obtain ⟨v, p, rfl, _⟩ := h
    rfl
  · obtain ⟨v, p, rfl, hv, q⟩ := h
    obtain ⟨a, rfl, ha⟩ := dp_prv hv
    refine ⟨_, pss_cons (ps_if (PW.pt (pw_or (pt_not (pt_val (pe_callB call_isi (by rfl) B.isi bt_isi (pa_cons (pv 0) (pa_cons (pe_ty B.tup_ bt_tup) pa_nil)))))
      (pw_or (pt_cmpR op_ne (pe_callB call_len_seq (by rfl) B.len_ bt_len (pa_cons (pv 0) pa_nil)) pe_int (nomark _))
      (pw_or (pt_not (pt_val (pe_f Fe hr (pa_cons (pe_ix ix_tup (pv 0) pe_int (fun _ _ => rfl)) pa_nil))))
      (pw_or1 (pt_not (pt_val (pe_f Fe hr (pa_cons (pe_ix ix_tup (pv 0) pe_int (fun _ _ => rfl)) pa_nil)))))))))
      (pss_one (ps_ret pe_bl)) pss_nil)
      (pss_one (ps_ret (pe_or (pe_cmpR op_isN (pe_ix ix_tup (pv 0) pe_int (fun _ _ => rfl)) pe_non (nomark _))
        (pe_or (pe_cmpR op_isN (pe_ix ix_tup (pv 0) pe_int (fun _ _ => rfl)) pe_non (nomark _))
        (pe_one (pe_cmpR op_le (pe_ix ix_tup (pv 0) pe_int (fun _ _ => rfl)) (pe_ix ix_tup (pv 0) pe_int (fun _ _ => rfl)) (nomark _))))))), ?_⟩
    refine ⟨_, rfl, _, _, _, _, true, rfl, .ty "tuple", tyx_tup ha, kit_tt _, true, rfl, ?_⟩
    refine iteF ⟨_, rfl, a, _, rfl, Or.inr ha, rfl, false, rfl, iteF ?_⟩
    refine ⟨_, rfl, a, _, 0, _, rfl, rfl, ha, at0, p.1, rfl, true, rfl, iteF ?_⟩
    refine ⟨_, rfl, a, _, 1, _, rfl, rfl, ha, at1, p.2, rfl, true, rfl, iteF ?_⟩
    obtain ⟨p1, p2⟩ := p
    refine ⟨_, rfl, a, _, 0, _, rfl, rfl, ha, at0, rfl, _, rfl, ?_⟩
    cases p1 with
    | none => exact q
    | some i =>
      refine ⟨_, rfl, a, _, 1, _, rfl, rfl, ha, at1, rfl, _, rfl, ?_⟩
      cases p2 with
      | none => exact q
      | some j => exact ⟨_, rfl, a, _, 0, _, rfl, rfl, ha, at0, _, rfl, a, _, 1, _, rfl, rfl, ha, at1, i, j, rfl, rfl, q⟩
end
end RA
end

section
set_option Elab.async false
set_option linter.all false
set_option maxRecDepth 100000
set_option maxHeartbeats 4000000
namespace RA
open PySem PySem.Spec PyProof.Rows L2
/-! ## shapes of data -/
/-- can be laid, not deeper than n -/
def Shp (n : Nat) (d : PyData) : Prop := d.canLay0 = true ∧ d.depth ≤ n
theorem shp_all {n : Nat} : ∀ {ds : List PyData}, (∀ d ∈ ds, Shp n d) → PyData.canLayAll0 ds = true ∧ PyData.depthAll ds ≤ n
  | [], _ => ⟨by simp [PyData.canLayAll0], by simp [PyData.depthAll]⟩
  | d :: ds, h => by
    obtain ⟨h1, h2⟩ := h d (by simp)
    obtain ⟨h3, h4⟩ := shp_all (ds := ds) fun e he => h e (by simp [he])
    refine ⟨by simp [PyData.canLayAll0, h1, h3], ?_⟩
    rw [PyData.depthAll]
    exact Nat.max_le.mpr ⟨h2, h4⟩
theorem shp_tup {n : Nat} {ds : List PyData} (h : ∀ d ∈ ds, Shp n d) : Shp (n + 1) (.tuple ds) := by
  obtain ⟨h1, h2⟩ := shp_all h
  refine ⟨by rw [PyData.canLay0]; exact h1, ?_⟩
  rw [PyData.depth]
  omega
theorem shp_lst {n : Nat} {ds : List PyData} (h : ∀ d ∈ ds, Shp n d) : Shp (n + 1) (.list ds) := by
  obtain ⟨h1, h2⟩ := shp_all h
  refine ⟨by rw [PyData.canLay0]; exact h1, ?_⟩
  rw [PyData.depth]
  omega
theorem shp_int {n : Nat} (i : Int) : Shp n (.int i) := ⟨by simp [PyData.canLay0], by simp [PyData.depth]⟩
theorem shp_bool {n : Nat} (i : Bool) : Shp n (.bool i) := ⟨by simp [PyData.canLay0], by simp [PyData.depth]⟩
theorem shp_none {n : Nat} : Shp n .none := ⟨by simp [PyData.canLay0], by simp [PyData.depth]⟩
theorem shp_str {n : Nat} {x : Str} (h : PyData.strOk x = true) : Shp n (.str x) := ⟨by simp [PyData.canLay0, h], by simp [PyData.depth]⟩
theorem Shp.up {n m : Nat} {d : PyData} (h : Shp n d) (hm : n ≤ m) : Shp m d := ⟨h.1, by have := h.2; omega⟩
theorem Shp.shaped {n : Nat} {d : PyData} (h : Shp n d) (hn : n ≤ 64 := by decide) : SeqAt.shaped d = true := by
  unfold SeqAt.shaped
  rw [h.1]
  have := h.2
  simp
  omega
theorem shp_end {n : Nat} (e : Option Int) : Shp n (encE e) := by cases e with
  | none => exact shp_none
  | some i => exact shp_int i
theorem shp_pr {n : Nat} (p : Pr) : Shp (n + 1) (encP p) := shp_tup (by
  intro d hd
  simp at hd
  rcases hd with rfl | rfl <;> exact shp_end _)
theorem shp_prs {n : Nat} (ps : List Pr) : ∀ d ∈ encPs ps, Shp (n + 1) d := by
  intro d hd
  obtain ⟨p, _, rfl⟩ := List.mem_map.mp hd
  exact shp_pr p
/-! ## what == says of data -/
theorem beq_dec {α : Type} [BEq α] [LawfulBEq α] [DecidableEq α] (a b : α) : (a == b) = decide (a = b) := by
  rw [Bool.eq_iff_iff, beq_iff_eq, decide_eq_true_eq]
theorem eqv_end (a b : Option Int) : PyData.eqv (encE a) (encE b) = decide (a = b) := by
  cases a <;> cases b <;> simp [encE, PyData.eqv]
  exact beq_dec _ _
theorem eqv_pr (p q : Pr) : PyData.eqv (encP p) (encP q) = decide (p = q) := by
  simp only [encP, PyData.eqv, PyData.eqvAll, eqv_end, Bool.and_true]
  rw [← Bool.decide_and]
  exact decide_eq_decide.mpr ⟨fun e => Prod.ext e.1 e.2, fun e => by rw [e]; exact ⟨rfl, rfl⟩⟩
theorem eqvAll_map {α : Type} [DecidableEq α] {f : α → PyData} (h : ∀ a b, PyData.eqv (f a) (f b) = decide (a = b)) : ∀ xs ys : List α, PyData.eqvAll (xs.map f) (ys.map f) = decide (xs = ys)
  | [], [] => by simp only [List.map_nil, PyData.eqvAll, decide_true]
  | [], _ :: _ => by simp [PyData.eqvAll]
  | _ :: _, [] => by simp [PyData.eqvAll]
  | x :: xs, y :: ys => by
    rw [List.map_cons, List.map_cons, PyData.eqvAll, h x y, eqvAll_map h xs ys, ← Bool.decide_and]
    exact decide_eq_decide.mpr (by rw [List.cons.injEq])
theorem eqvAll_prs (xs ys : List Pr) : PyData.eqvAll (encPs xs) (encPs ys) = decide (xs = ys) := eqvAll_map eqv_pr xs ys
/-- a list that is compared with the empty one -/
theorem eqv_lnil (ds : List PyData) : PyData.eqv (.list ds) (.list []) = ds.isEmpty := by cases ds <;> simp [PyData.eqv, PyData.eqvAll]
theorem eqv_tnil (ds : List PyData) : PyData.eqv (.tuple ds) (.tuple []) = ds.isEmpty := by cases ds <;> simp [PyData.eqv, PyData.eqvAll]
/-! ## cells as data -/
def encC (c : Cell) : PyData := .tuple [.bool c.empty, .bool c.words, .tuple (encPs c.spans)]
theorem shp_c (c : Cell) : Shp 3 (encC c) := shp_tup (by
  intro d hd
  simp at hd
  rcases hd with rfl | rfl | rfl
  · exact shp_bool _
  · exact shp_bool _
  · exact shp_tup (shp_prs (n := 0) _))
theorem eqv_c (c d : Cell) : PyData.eqv (encC c) (encC d) = decide (c = d) := by
  obtain ⟨a1, a2, a3⟩ := c
  obtain ⟨b1, b2, b3⟩ := d
  simp only [encC, PyData.eqv, PyData.eqvAll, Bool.and_true]
  rw [eqvAll_prs, beq_dec, beq_dec, ← Bool.decide_and, ← Bool.decide_and]
  exact decide_eq_decide.mpr (by rw [Cell.mk.injEq])
/-! ## answers as data -/
def strA : Ans → Str
  | .error => "error"
  | .no => "no"
  | .unknown => "unknown"
  | .yes => "yes"
def encA (a : Ans) : PyData := .str (strA a)
theorem strA_inj {a b : Ans} (h : strA a = strA b) : a = b := by
  cases a <;> cases b <;> first | rfl | (exact absurd h (by decide))
theorem eqv_a (a b : Ans) : PyData.eqv (encA a) (encA b) = decide (a = b) := by
  simp only [encA, PyData.eqv]
  rw [beq_dec]
  exact decide_eq_decide.mpr ⟨strA_inj, fun e => by rw [e]⟩
theorem shp_a {n : Nat} (a : Ans) : Shp n (encA a) := shp_str (by cases a <;> decide +kernel)
def encAs (as : List Ans) : PyData := .tuple (as.map encA)
theorem shp_as (as : List Ans) : Shp 1 (encAs as) := shp_tup (by
  intro d hd
  obtain ⟨p, _, rfl⟩ := List.mem_map.mp hd
  exact shp_a p)
theorem eqv_as (a b : List Ans) : PyData.eqv (encAs a) (encAs b) = decide (a = b) := by
  simp only [encAs, PyData.eqv]
  exact eqvAll_map eqv_a a b
end RA
end

section
set_option Elab.async false
set_option linter.all false
set_option maxRecDepth 100000
set_option maxHeartbeats 4000000
namespace RA
open PySem PySem.W PySem.Calls PyProof.Rows PySem.HandSPX L2
/-! ## small evaluations that only make objects -/
section
variable {P : Program} {w : World} {A : Around} {env : Env} {E : Value → Shared → Prop}
/-- t gives a value u with R u, only objects and tokens are new -/
def Ev (P : Program) (w : World) (A : Around) (t : Sem Value) (s : Shared) (R : Value → Heap → Prop) : Prop := ∀ (Q : Value → Shared → Prop) (E : Value → Shared → Prop),
  (∀ u h' tk, (∀ b o, s.heap.get? b = some o → h'.get? b = some o) → R u h' → Q u { s with heap := h', toks := tk }) → wpAny (model P w) A t Q E s
theorem ev_int {s : Shared} {i : Int} {k pos} : Ev P w A (eval (.Constant (.int i) k pos) env) s fun u _ => ∃ t, u = .int i t := fun Q E h =>
  wpAny_Constant_int (h _ s.heap _ (fun _ _ e => e) ⟨_, rfl⟩)
theorem ev_name {s : Shared} {m : Str → Option Value} {x : Str} {u : Value} {pos : Pos} {R : Value → Heap → Prop} (hk : env.scope.kind = .function) (hl : env.kindOf x = some .local) (hn : s.heap.Ns env.locals m) (hv : m x = some u) (hd : (x == ("__debug__" : Str)) = false) (hR : R u s.heap) :
    Ev P w A (eval (.Name x pos) env) s R := fun Q E h => wpAny_Name (wpAny_loadName_local hk hl hn hv (h _ s.heap s.toks (fun _ _ e => e) hR)) hd
/-- e[i] of a tuple, i a written number from 0 on -/
theorem ev_item {s : Shared} {e : Expr} {i : Nat} {k : Nat} {p1 p2 : Pos} {R : Value → Heap → Prop} {a : Addr} {x : Value} (he : Ev P w A (eval e env) s fun u h => ∃ its : Array Value, u = .ref a ∧ IsTup h a its ∧ its[i]? = some x ∧ i < 2 ^ 62 ∧ ∀ h', (∀ b o, h.get? b = some o → h'.get? b = some o) → R x h') :
    Ev P w A (eval (.Subscript e (.Constant (.int i) k p1) p2) env) s R := fun Q E h => by
  refine Subscript_ (he _ _ fun u h1 tk k1 hh => ?_)
  obtain ⟨its, rfl, ht, hx, hsz, hR⟩ := hh
  refine wpAny_Constant_int ?_
  have hi : i < its.size := (Array.getElem?_eq_some_iff.mp hx).1
  refine subscriptTail_builtinR (x := x) ht.typeIs slot_tuple_getitem.lookup (getItem_tuple (j := i) (x := x) ht (by omega) (by omega) ?_ hx ⟨rfl, h x h1 _ k1 (hR h1 fun _ _ e => e)⟩)
  refine (ixN_seq (n := its.size) (i := (i : Int)) ?_).1
  unfold ixN
  rw [if_pos (by omega), if_pos (by omega)]
  rfl
/-- a tuple of two -/
theorem ev_pair {s : Shared} {a b : Expr} {x1 pos} {R : Value → Heap → Prop} {Ra Rb : Value → Heap → Prop} (ha : Ev P w A (eval a env) s Ra) (hb : ∀ h' tk, (∀ b o, s.heap.get? b = some o → h'.get? b = some o) → Ev P w A (eval b env) { s with heap := h', toks := tk } Rb)
    (hR : ∀ u v h1 h2 h3 p, Ra u h1 → (∀ b o, h1.get? b = some o → h2.get? b = some o) → Rb v h2 → (∀ b o, h2.get? b = some o → h3.get? b = some o) → h3.get? p = some { cls := .type "tuple", data := .seq #[u, v] } → R (.ref p) h3)
    (hs : starEach [a, b] env = (false, eval a env) :: starEach [b] env := by rfl) (hs2 : starEach [b] env = (false, eval b env) :: starEach [] env := by rfl) : Ev P w A (eval (.Tuple [a, b] x1 pos) env) s R := fun Q E h => by
  refine wpAny_Tuple_spliced (args_cons (ha _ _ fun u h1 tk1 k1 r1 => args_cons (hb h1 tk1 k1 _ _ fun v h2 tk2 k2 r2 => args_nil ⟨by show 2 ≤ sizeLine; decide, ?_⟩) hs2) hs)
  have k3 : ∀ b o, h2.get? b = some o → (h2.push { cls := .type "tuple", data := .seq [u, v].toArray }).get? b = some o := fun b o e => Heap.get?_push_of_some _ e
  exact h _ _ _ (fun b o e => k3 b o (k2 b o (k1 b o e))) (hR u v h1 h2 _ _ r1 k2 r2 k3 (Heap.get?_push_size _ rfl))
end
/-! ## the call of a def with one parameter, its locals alone -/
theorem key_call {P : Program} {w : World} {K : Frag} {f : Addr} {x q : Str} {st : Stmt} {fd : FuncData} {p : Str} {dom : PyData → Prop} {kf : PyData → PyData} (F : Fun K x q st f fd) (hb : Binds K fd [p] []) (hk : (defScope st).kind = .function) (hco : (defScope st).isCoroutine = false)
    (hgen : (defScope st).isGenerator = false) (hl : (defScope st).names.lookup p = some .local)
    (body : ∀ (A : Around) (s : Shared) (v : Value) (d : PyData) (as : List Addr) (env : Env) (m : Str → Option Value), env.scope = defScope st → s.heap.Ns env.locals m → m p = some v → dom d → Reads s.heap v d as → A.units + 100 < cLine → A.handled = Option.none →
      ∀ (Q : Flow → Shared → Prop) (E : Value → Shared → Prop), (∀ u h' tk, (∀ b o, s.heap.get? b = some o → h'.get? b = some o) → Reads h' u (kf d) [] → Q (.ret u) { s with heap := h', toks := tk }) → wpAny (model P w) A (execs (defBody st) env) Q E s) :
    KeyFn P w K f dom kf := by
  intro A s v d as hr hK hlim hd hrd
  have hb' := hb s [v] hK rfl
  obtain ⟨oc, od, kV, doc, pm, an, cdv, ct, osl, rfl, lk, hcd⟩ := F.ex
  refine wpAny_call (Att.call_fn (binds := [(p, v)]) hK hlim lk hcd hr.depth (by simpa using hb') (by simp [hl]) (fun s₁ IC => ?_) hco hgen hk)
  obtain ⟨h₁, tk₁, rfl⟩ := IC.toInCall.same
  have k1 := IC.toInCall.keep
  have hun := hr.un
  refine body (A.deeper (envOfC q (defScope st) s.heap.objs.size f cdv)) _ v d as (envOfC q (defScope st) s.heap.objs.size f cdv) _ rfl IC.toInCall.ns ?_ hd (PyProof.Rows.Reads.keeps k1 hrd) (by show A.units + 3 + 100 < cLine; omega) hr.hd _ _ fun u h' tk k2 hu => ⟨h', tk, rfl, fun b o e => k2 b o (k1 b o e), hu⟩
  have e : bindL (envOfC q (defScope st) s.heap.objs.size f cdv).kindOf ([p].zip [v]) (fun _ => Option.none) p = some v := bindL_get (i := 0) (by simp) rfl rfl hl
  exact e
theorem reads_tup2 {h : Heap} {u v : Value} {d e : PyData} {p : Addr} (hu : Reads h u d []) (hv : Reads h v e []) (hp : h.get? p = some { cls := .type "tuple", data := .seq #[u, v] }) : Reads h (.ref p) (.tuple [d, e]) [] :=
  .tuple hp rfl rfl (show ReadsAll h [u, v] [d, e] ([] ++ ([] ++ [])) from .cons hu (.cons hv .nil))
theorem reads_pr {h : Heap} {v : Value} {p : Pr} {as : List Addr} (r : Reads h v (encP p) as) : ∃ a o its n u1 u2 a1 a2, v = .ref a ∧ h.get? a = some o ∧ o.cls = .type "tuple" ∧ o.data = .seq its n ∧ its.toList = [u1, u2] ∧ Reads h u1 (encE p.1) a1 ∧ Reads h u2 (encE p.2) a2 := by
  unfold encP at r
  cases r with
  | tuple h1 h2 h3 h4 =>
    rename_i a o vs n
    obtain ⟨l, hl⟩ : ∃ l, l = vs.toList := ⟨_, rfl⟩
    rw [← hl] at h4
    cases h4 with
    | cons r1 t1 =>
      cases t1 with
      | cons r2 t2 =>
        cases t2
        exact ⟨_, _, _, _, _, _, _, _, rfl, h1, h2, h3, hl.symm, r1, r2⟩
/-! ## low_key -/
def keyLow (p : Pr) : PyData := .tuple [.bool p.1.isSome, .int (p.1.getD 0)]
/-- the key, from a pair's datum -/
def kfLow : PyData → PyData
  | .tuple [.none, _] => .tuple [.bool false, .int 0]
  | .tuple [.int i, _] => .tuple [.bool true, .int i]
  | d => d
theorem kfLow_enc (p : Pr) : kfLow (encP p) = keyLow p := by
  obtain ⟨a, b⟩ := p
  cases a <;> cases b <;> rfl
def domPr (d : PyData) : Prop := ∃ p : Pr, d = encP p
abbrev sLow : Stmt := top 13
theorem key_low {P : Program} {w : World} {K : Frag} {f : Addr} {fd : FuncData} (F : Fun K "low_key" "low_key" sLow f fd) (hb : Binds K fd ["pair"] []) : KeyFn P w K f domPr kfLow := by
  refine key_call (p := "pair") F hb rfl rfl rfl (by decide +kernel) fun A s v d as env m hsc hn hm hd hrd hu hh Q E hq => ?_
  obtain ⟨p, rfl⟩ := hd
  obtain ⟨a, o, its, n, u1, u2, a1, a2, rfl, ho, hc, hdat, hits, r1, r2⟩ := reads_pr hrd
  have hk : env.scope.kind = .function := by rw [hsc]; rfl
  have hl : env.kindOf "pair" = some .local := by
    show env.scope.names.lookup ("pair" : Str) = _
    rw [hsc]
    decide +kernel
  have e0 : its[0]? = some u1 := by rw [← Array.getElem?_toList, hits]; rfl
  have esz : 0 < 2 ^ 62 := by decide
  have item : ∀ (h' : Heap) (tk : Nat) (k : Nat) (q1 q2 q3 : Pos), (∀ b o, s.heap.get? b = some o → h'.get? b = some o) → Ev P w A (eval (.Subscript (.Name "pair" q1) (.Constant (.int (0 : Nat)) k q2) q3) env) { s with heap := h', toks := tk } fun u h2 => u = u1 ∧ ∀ b o, s.heap.get? b = some o → h2.get? b = some o :=
    fun h' tk k q1 q2 q3 kp => ev_item (a := a) (x := u1) (ev_name (m := m) (u := .ref a) hk hl (hn.keeps kp) hm (by decide) ⟨its, rfl, ⟨o, kp _ _ ho, hc, n, hdat⟩, e0, esz, fun h2 k2 => ⟨rfl, fun b o e => k2 b o (kp b o e)⟩⟩)
  have env1 : ∃ g : Heap, g = s.heap := ⟨_, rfl⟩
  rw [kfLow_enc] at hq
  show wpAny (model P w) A (execs [_] env) Q E s
  refine wpAny_execs_cons (wpAny_Return_some ?_)
  refine ev_pair (Ra := fun u h => u = .bool p.1.isSome) (Rb := fun v h => Reads h v (.int (p.1.getD 0)) []) (R := fun u h => Reads h u (keyLow p) []) ?_ (fun h1 tk1 k1 => ?_) (fun u v h1 h2 h3 pp ru k12 rv k23 hp => ?_) rfl rfl _ _ fun u h' tk kp hu' => hq u h' tk kp hu'
  · intro Q E h
    refine wpAny_Compare1 (item s.heap s.toks _ _ _ _ (fun _ _ e => e) _ _ fun u h' tk kp hu' => ?_)
    obtain ⟨rfl, _⟩ := hu'
    refine Constant_none (isnot_none_gen ?_)
    have e : (!(u == Value.none)) = p.1.isSome := by
      cases hp1 : p.1 with
      | none => rw [hp1] at r1; cases r1; rfl
      | some i => rw [hp1] at r1; cases r1; rfl
    rw [e]
    exact h _ h' tk kp rfl
  · intro Q E h
    refine BoolOp_or (item h1 tk1 _ _ _ _ k1 _ _ fun u h' tk kp hu' => ?_)
    obtain ⟨rfl, _⟩ := hu'
    cases hp1 : p.1 with
    | none =>
      rw [hp1] at r1
      cases r1
      refine truthy_none ?_
      show wpAny _ _ (eval (.BoolOp .Or [_] _) env) Q E _
      refine BoolOp_one (wpAny_Constant_int (h _ h' _ kp ?_))
      rw [hp1]
      exact .int 0 _
    | some i =>
      rw [hp1] at r1
      cases r1
      refine PySem.P.truthy_int ?_
      by_cases hi : i = 0
      · subst hi
        show wpAny _ _ (eval (.BoolOp .Or [_] _) env) Q E _
        refine BoolOp_one (wpAny_Constant_int (h _ h' _ kp ?_))
        rw [hp1]
        exact .int 0 _
      · have e : (i != 0) = true := by simpa using hi
        rw [e]
        refine h _ h' _ kp ?_
        rw [hp1]
        exact .int i _
  · subst ru
    exact reads_tup2 (.bool _) (PyProof.Rows.Reads.keeps k23 rv) hp
/-! ## cell_rank -/
/-- the first stretch, if there is one, has a low end -/
def lowOk (c : Cell) : Prop := c.spans = [] ∨ ∃ a b r, c.spans = (some a, b) :: r
def kfRank : PyData → PyData
  | .tuple [.bool true, _, _] => .tuple [.int 0, .int 0]
  | .tuple [.bool false, _, .tuple (.tuple [.int a, _] :: _)] => .tuple [.int 1, .int a]
  | .tuple [.bool false, _, .tuple []] => .tuple [.int 2, .int 0]
  | d => d
def rank (c : Cell) : Int × Int := if c.empty = true then (0, 0) else match c.spans with
  | (some a, _) :: _ => (1, a)
  | _ => (2, 0)
theorem kfRank_enc {c : Cell} (h : lowOk c) : kfRank (encC c) = .tuple [.int (rank c).1, .int (rank c).2] := by
  obtain ⟨e, w, sp⟩ := c
  cases e with
  | true => rfl
  | false =>
    rcases h with h | ⟨a, b, r, h⟩
    · have h : sp = [] := h
      subst h
      rfl
    · have h : sp = (some a, b) :: r := h
      subst h
      rfl
def domC (d : PyData) : Prop := ∃ c : Cell, d = encC c ∧ lowOk c
theorem reads_item {h : Heap} : ∀ {ds : List PyData} {us : List Value} {as : List Addr} {i : Nat} {d : PyData}, ReadsAll h us ds as → ds[i]? = some d → ∃ u a, us[i]? = some u ∧ Reads h u d a
  | _, _, _, _, _, .nil, e => by simp at e
  | _, _, _, 0, _, .cons r _, e => by simp at e; subst e; exact ⟨_, _, rfl, r⟩
  | _, _, _, i + 1, _, .cons _ t, e => by
    obtain ⟨u, a, h1, h2⟩ := reads_item (i := i) t (by simpa using e)
    exact ⟨u, a, by simpa using h1, h2⟩
theorem reads_tup {h : Heap} {v : Value} {ds : List PyData} {as : List Addr} (r : Reads h v (.tuple ds) as) : ∃ a its, v = .ref a ∧ IsTup h a its ∧ ∀ (i : Nat) (d : PyData), ds[i]? = some d → ∃ u b, its[i]? = some u ∧ Reads h u d b := by
  cases r with
  | tuple h1 h2 h3 h4 =>
    refine ⟨_, _, rfl, ⟨_, h1, h2, _, h3⟩, fun i d e => ?_⟩
    obtain ⟨u, b, q1, q2⟩ := reads_item h4 e
    exact ⟨u, b, by rw [← Array.getElem?_toList]; exact q1, q2⟩
abbrev sRank : Stmt := top 46
theorem key_rank {P : Program} {w : World} {K : Frag} {f : Addr} {fd : FuncData} (F : Fun K "cell_rank" "cell_rank" sRank f fd) (hb : Binds K fd ["cell"] []) : KeyFn P w K f domC kfRank := by
  refine key_call (p := "cell") F hb rfl rfl rfl (by decide +kernel) fun A s v d as env m hsc hn hm hd hrd hu hh Q E hq => ?_
  obtain ⟨c, rfl, hlow⟩ := hd
  obtain ⟨a, its, rfl, ht, hit⟩ := reads_tup hrd
  obtain ⟨u0, b0, e0, r0⟩ := hit 0 _ rfl
  obtain ⟨u2, b2, e2, r2⟩ := hit 2 _ rfl
  obtain ⟨q, jts, rfl, ht2, hit2⟩ := reads_tup r2
  cases r0
  have hk : env.scope.kind = .function := by rw [hsc]; rfl
  have hl : env.kindOf "cell" = some .local := by
    show env.scope.names.lookup ("cell" : Str) = _
    rw [hsc]
    decide +kernel
  have name : ∀ (h' : Heap) (tk : Nat) (pos : Pos) (R : Value → Heap → Prop), (∀ b o, s.heap.get? b = some o → h'.get? b = some o) → R (.ref a) h' → Ev P w A (eval (.Name "cell" pos) env) { s with heap := h', toks := tk } R :=
    fun h' tk pos R kp hR => ev_name (m := m) hk hl (hn.keeps kp) hm (by decide) hR
  have item0 : ∀ (h' : Heap) (tk : Nat) (k : Nat) (q1 q2 q3 : Pos), (∀ b o, s.heap.get? b = some o → h'.get? b = some o) → Ev P w A (eval (.Subscript (.Name "cell" q1) (.Constant (.int (0 : Nat)) k q2) q3) env) { s with heap := h', toks := tk } fun u h2 => u = .bool c.empty :=
    fun h' tk k q1 q2 q3 kp => ev_item (a := a) (x := .bool c.empty) (name h' tk _ _ kp ⟨its, rfl, ht.keeps kp, e0, by decide, fun h2 k2 => rfl⟩)
  have item2 : ∀ (h' : Heap) (tk : Nat) (k : Nat) (q1 q2 q3 : Pos) (R : Value → Heap → Prop), (∀ b o, s.heap.get? b = some o → h'.get? b = some o) → (∀ h2, (∀ b o, h'.get? b = some o → h2.get? b = some o) → R (.ref q) h2) → Ev P w A (eval (.Subscript (.Name "cell" q1) (.Constant (.int (2 : Nat)) k q2) q3) env) { s with heap := h', toks := tk } R :=
    fun h' tk k q1 q2 q3 R kp hR => ev_item (a := a) (x := .ref q) (name h' tk _ _ kp ⟨its, rfl, ht.keeps kp, e2, by decide, hR⟩)
  rw [kfRank_enc hlow] at hq
  have two : ∀ (i j : Int) (h' : Heap) (tk : Nat) (k1 k2 x1 : Nat) (p1 p2 p3 : Pos) (Q' : Value → Shared → Prop) (E' : Value → Shared → Prop), (∀ b o, s.heap.get? b = some o → h'.get? b = some o) → (∀ u h2 tk2, (∀ b o, s.heap.get? b = some o → h2.get? b = some o) → Reads h2 u (.tuple [.int i, .int j]) [] → Q' u { s with heap := h2, toks := tk2 }) →
      wpAny (model P w) A (eval (.Tuple [.Constant (.int i) k1 p1, .Constant (.int j) k2 p2] x1 p3) env) Q' E' { s with heap := h', toks := tk } := fun i j h' tk k1 k2 x1 p1 p2 p3 Q' E' kp hQ =>
    ev_pair (R := fun u h => Reads h u (.tuple [.int i, .int j]) []) ev_int (fun _ _ _ => ev_int) (fun u v h1 h2 h3 pp ru k12 rv k23 hp => by
      obtain ⟨t1, rfl⟩ := ru
      obtain ⟨t2, rfl⟩ := rv
      exact reads_tup2 (.int _ _) (.int _ _) hp) rfl rfl _ _ fun u h2 tk2 k2 hu' => hQ u h2 tk2 (fun b o e => k2 b o (kp b o e)) hu'
  show wpAny (model P w) A (execs [_, _] env) Q E s
  refine wpAny_execs_cons (wpAny_If (isTrue_plain (item0 s.heap s.toks _ _ _ _ (fun _ _ e => e) _ _ fun u h1 tk1 k1 hu' => ?_)))
  subst hu'
  refine wpAny_truthy_bool ?_
  cases hce : c.empty with
  | true =>
    refine wpAny_execs_cons (wpAny_Return_some (two 0 0 h1 tk1 _ _ _ _ _ _ _ _ k1 fun u h2 tk2 k2 hu' => hq u h2 tk2 k2 ?_))
    have e : rank c = (0, 0) := by unfold rank; rw [if_pos hce]
    rw [e]
    exact hu'
  | false =>
    refine wpAny_execs_nil ?_
    refine wpAny_execs_cons (wpAny_Return_some (wpAny_IfExp (wpAny_isTrue_Compare1 (item2 h1 tk1 _ _ _ _ (fun u _ => u = .ref q) k1 (fun _ _ => rfl) _ _ fun u h2 tk2 k2 hu2 => ?_) (by rfl))))
    subst hu2
    refine wpAny_Tuple_spliced (args_nil ⟨Nat.zero_le _, ?_⟩)
    have kp2 : ∀ b o, s.heap.get? b = some o → (h2.push { cls := .type "tuple", data := .seq ([] : List Value).toArray }).get? b = some o := fun b o e => Heap.get?_push_of_some _ (k2 b o (k1 b o e))
    have rq : Reads (h2.push { cls := .type "tuple", data := .seq ([] : List Value).toArray }) (.ref q) (.tuple (encPs c.spans)) b2 := PyProof.Rows.Reads.keeps kp2 r2
    have re : Reads (h2.push { cls := .type "tuple", data := .seq ([] : List Value).toArray }) (.ref h2.objs.size) (.tuple []) [] := .tuple (Heap.get?_push_size _ rfl) rfl rfl .nil
    refine SeqAt.compareNe_shaped rq re ?_ rfl (by omega) (wpAny_truthy_bool ?_)
    · exact (shp_tup (shp_prs (n := 0) _)).shaped
    rcases hlow with hlow | ⟨lo, hi, rest, hlow⟩
    · have e : rank c = (2, 0) := by unfold rank; rw [if_neg (by rw [hce]; decide), hlow]
      rw [hlow]
      refine two 2 0 _ tk2 _ _ _ _ _ _ _ _ kp2 fun u h3 tk3 k3 hu3 => hq u h3 tk3 k3 ?_
      rw [e]
      exact hu3
    · have e : rank c = (1, lo) := by unfold rank; rw [if_neg (by rw [hce]; decide), hlow]
      obtain ⟨u20, b20, e20, r20⟩ := hit2 0 (encP (some lo, hi)) (by rw [hlow]; rfl)
      obtain ⟨q2, kts, rfl, ht3, hit3⟩ := reads_tup r20
      obtain ⟨u200, b200, e200, r200⟩ := hit3 0 _ rfl
      have r200 : Reads s.heap u200 (.int lo) b200 := r200
      cases r200
      rw [hlow]
      refine ev_pair (R := fun u h => Reads h u (.tuple [.int 1, .int lo]) []) ev_int (Rb := fun v _ => ∃ t, v = .int lo t) (fun h3 tk3 k3 => ?_) (fun u v h1 h2 h3 pp ru k12 rv k23 hp => by
        obtain ⟨t1, rfl⟩ := ru
        obtain ⟨t2, rfl⟩ := rv
        exact reads_tup2 (.int _ _) (.int _ _) hp) rfl rfl _ _ fun u h4 tk4 k4 hu4 => hq u h4 tk4 (fun b o z => k4 b o (kp2 b o z)) (by rw [e]; exact hu4)
      have k3' : ∀ b o, s.heap.get? b = some o → h3.get? b = some o := fun b o z => k3 b o (kp2 b o z)
      refine ev_item (i := 0) (ev_item (i := 0) (item2 h3 tk3 _ _ _ _ _ k3' fun h4 k4 => ⟨jts, rfl, ht2.keeps fun b o z => k4 b o (k3' b o z), e20, by decide, fun h5 k5 => ⟨kts, rfl, ht3.keeps fun b o z => k5 b o (k4 b o (k3' b o z)), e200, by decide, fun h6 k6 => ⟨_, rfl⟩⟩⟩))
end RA
end

section
set_option Elab.async false
set_option linter.all false
set_option autoImplicit false
set_option maxRecDepth 100000
set_option maxHeartbeats 4000000
namespace RA
open PySem PySem.Spec PyProof.Rows L2
open PySem.W (keyToks keyToksAll dataLe)
/-! ## the order that sorted goes by -/
theorem lt_inl (a b : Int) : PyProof.Rows.itemLt (.inl a) (.inl b) = decide (a < b) := rfl
theorem dataLe_two {β : Type} (k : β → PyData) (x y : β) {a b c d : Int} (hx : keyToks (k x) = [.inl 1, .inl a, .inl 1, .inl b, .inl 0]) (hy : keyToks (k y) = [.inl 1, .inl c, .inl 1, .inl d, .inl 0]) : dataLe false k x y = (decide (a < c) || (decide (a = c) && decide (b ≤ d))) := by
  show (!PyProof.Rows.lexLt PyProof.Rows.itemOrd (keyToks (k y)) (keyToks (k x))) = _
  rw [hx, hy]
  simp only [PyProof.Rows.lexLt, lt_inl]
  by_cases h1 : a < c
  · have : ¬ c < a := by omega
    simp [h1, this]
  · by_cases h2 : c < a
    · have : ¬ a = c := by omega
      simp [h1, h2, this]
    · have h3 : a = c := by omega
      subst h3
      by_cases h4 : d < b
      · have : ¬ b ≤ d := by omega
        simp [h4, this]
      · have : b ≤ d := by omega
        simp [h4, this]
def b2n (b : Bool) : Int := if b = true then 1 else 0
theorem toks_bi (b : Bool) (i : Int) : keyToks (.tuple [.bool b, .int i]) = [.inl 1, .inl (b2n b), .inl 1, .inl i, .inl 0] := by
  simp [keyToks, keyToksAll, b2n]
theorem toks_ii (b : Int) (i : Int) : keyToks (.tuple [.int b, .int i]) = [.inl 1, .inl b, .inl 1, .inl i, .inl 0] := by
  simp [keyToks, keyToksAll]
theorem le_low {x y : V × PyData} {p q : Pr} (hx : x.2 = encP p) (hy : y.2 = encP q) : dataLe false (fun q : V × PyData => kfLow q.2) x y = lowLe p q := by
  rw [dataLe_two (a := b2n p.1.isSome) (b := p.1.getD 0) (c := b2n q.1.isSome) (d := q.1.getD 0) _ _ _ (by show keyToks (kfLow x.2) = _; rw [hx, kfLow_enc]; exact toks_bi _ _) (by show keyToks (kfLow y.2) = _; rw [hy, kfLow_enc]; exact toks_bi _ _)]
  obtain ⟨a, b⟩ := p
  obtain ⟨c, d⟩ := q
  cases a <;> cases c <;> simp [lowLe, b2n]
/-- the items sorted by a key: values and data go together -/
theorem sortedBy_of {α : Type} {K : PySem.W.Frag} {H : Hp} {kf : PyData → PyData} {f : α → PyData} {le : α → α → Bool} {ys : List V} {as : List α} (hd : DpAll K H ys (as.map f)) (hle : ∀ (x y : V × PyData) (a b : α), x.2 = f a → y.2 = f b → dataLe false (fun q : V × PyData => kf q.2) x y = le a b) :
    DpAll K H ((sortedBy kf ys (as.map f)).map (·.1)) ((as.mergeSort le).map f) := by
  have hlen : ys.length = as.length := by rw [DpAll.len hd, List.length_map]
  have hz : ys.zip (as.map f) = (ys.zip as).map fun q => (q.1, f q.2) := by
    rw [List.zip_map_right]
    rfl
  have e1 : sortedBy kf ys (as.map f) = ((ys.zip as).mergeSort fun a b => le a.2 b.2).map fun q => (q.1, f q.2) := by
    unfold sortedBy
    rw [hz]
    exact (List.map_mergeSort (r := fun a b : V × α => le a.2 b.2) (s := dataLe false fun q : V × PyData => kf q.2) (f := fun q => (q.1, f q.2)) (fun a _ b _ => (hle _ _ _ _ rfl rfl).symm)).symm
  have e2 : as.mergeSort le = ((ys.zip as).mergeSort fun a b => le a.2 b.2).map (·.2) := by
    rw [List.map_mergeSort (r := fun a b : V × α => le a.2 b.2) (s := le) (f := fun q : V × α => q.2) (fun a _ b _ => rfl)]
    congr 1
    exact (List.map_snd_zip (by omega)).symm
  rw [e1, e2, List.map_map, List.map_map]
  refine DpAll.of_get (by simp) fun i v d h1 h2 => ?_
  rw [List.getElem?_map] at h1 h2
  cases hq : ((ys.zip as).mergeSort fun a b => le a.2 b.2)[i]? with
  | none => rw [hq] at h1; cases h1
  | some q =>
    rw [hq] at h1 h2
    cases h1
    cases h2
    have hm : q ∈ ys.zip as := (List.mergeSort_perm _ _).subset (List.mem_of_getElem? hq)
    obtain ⟨j, hj⟩ := List.getElem?_of_mem hm
    have hj' := List.getElem?_zip_eq_some.mp hj
    obtain ⟨d, hd1, hd2⟩ := DpAll.get hd hj'.1
    rw [List.getElem?_map, hj'.2] at hd1
    cases hd1
    exact hd2
section
variable {P : Program} {w : World} {K : PySem.W.Frag} {mg : Str → Option Value} {base : Heap}
theorem hu1 {k : Nat} {A : Around} (hr : Room k A) : A.units + 64 < cLine := by
  have := hr.un
  omega
theorem hu2 {k : Nat} {A : Around} (hr : Room k A) : A.units < cLine := by
  have := hr.un
  omega
/-! ## later_end -/
def spLater : Sp := fun vs H Q _ => ∃ a b, vs = [endV a, endV b] ∧ Q (endV (laterEnd a b)) H
abbrev sLater : Stmt := top 14
theorem scLater : FnScope ["one", "other"] ["one", "other"] (defScope sLater) := ⟨rfl, rfl, rfl, by decide +kernel, rfl, by decide +kernel, by decide +kernel⟩
theorem ok_later {f : Addr} {fd : FuncData} (F : Fun K "later_end" "later_end" sLater f fd) (B : Bi mg) : FnOk P w K mg base CX0 1 f fd ["one", "other"] spLater := by
  refine F.ok scLater (fun vs H Q E h => ?_) (fun cdv A outer s H vs Q E hr h => ?_)
  · obtain ⟨a, b, rfl, _⟩ := h
    rfl
  · obtain ⟨a, b, rfl, q⟩ := h
    refine ⟨_, pss_one (ps_ret (pe_ifExp (PW.pt (pw_or (pt_cmpR op_isN (pv 0) pe_non (nomark _)) (pw_or1 (pt_cmpR op_isN (pv 1) pe_non (nomark _))))) pe_non
      (pe_callB (call_max2 rfl) (by rfl) B.max_ bt_max (pa_cons (pv 0) (pa_cons (pv 1) pa_nil))))), ?_⟩
    cases a with
    | none => exact ⟨_, rfl, rfl, true, rfl, q⟩
    | some i =>
      refine ⟨_, rfl, rfl, false, rfl, _, rfl, rfl, ?_⟩
      cases b with
      | none => exact ⟨true, rfl, q⟩
      | some j => exact ⟨false, rfl, _, rfl, _, rfl, i, j, rfl, q⟩
/-! ## merged -/
section
variable {H : Hp} {F a : Addr} {fs xs ys : List V}
theorem sqt_updL (hF : H F = some (.lst fs)) (h : SqT K H a xs) : SqT K (upd H F (.lst ys)) a xs := by
  rcases h with (h | ⟨o, h⟩) | h
  · refine .inl (.inl ?_)
    rw [upd_ne (by rintro rfl; rw [hF] at h; cases h)]
    exact h
  · refine .inl (.inr ⟨o, ?_⟩)
    rw [upd_ne (by rintro rfl; rw [hF] at h; cases h)]
    exact h
  · exact .inr h
theorem dps_updL {ds : List PyData} {vs : List V} (hF : H F = some (.lst fs)) (ht : tupDs ds = true) (h : DpAll K H vs ds) : DpAll K (upd H F (.lst ys)) vs ds := DpAll.keepT (fun _ _ z => sqt_updL hF z) _ _ ht h
theorem dp_updL {d : PyData} {v : V} (hF : H F = some (.lst fs)) (ht : tupD d = true) (h : Dp K H v d) : Dp K (upd H F (.lst ys)) v d := Dp.keepT (fun _ _ z => sqt_updL hF z) _ _ ht h
end
theorem dps_snoc {H : Hp} : ∀ {ds : List PyData} {d : PyData} {vs : List V}, DpAll K H vs (ds ++ [d]) → ∃ ws v, vs = ws ++ [v] ∧ DpAll K H ws ds ∧ Dp K H v d
  | [], d, vs, h => by
    obtain ⟨v, r, rfl, h1, h2⟩ := dps_cons h
    cases dps_nil h2
    exact ⟨[], v, rfl, .nil, h1⟩
  | e :: ds, d, vs, h => by
    obtain ⟨v, r, rfl, h1, h2⟩ := dps_cons h
    obtain ⟨ws, u, rfl, h3, h4⟩ := dps_snoc h2
    exact ⟨v :: ws, u, rfl, .cons h1 h3, h4⟩
theorem two_sz : 2 ≤ sizeLine := by decide
theorem ixN_last (n : Nat) : ixN (n + 1) (-1) = some n := by
  unfold ixN
  rw [if_neg (by decide), if_pos (by omega)]
  congr 1
  omega
theorem tyV_lst {H : Hp} {p : Addr} {xs : List V} (h : H p = some (.lst xs)) : tyV K "list" (.ref p) H := Or.inl ⟨rfl, _, SqL.of h⟩
theorem tupD_end (e : Option Int) : tupD (encE e) = true := by cases e <;> simp [encE, tupD]
theorem tupD_pr (p : Pr) : tupD (encP p) = true := by simp [encP, tupD, tupDs, tupD_end]
theorem tupDs_map {α : Type} {f : α → PyData} (hf : ∀ x, tupD (f x) = true) : ∀ xs : List α, tupDs (xs.map f) = true
  | [] => by simp [tupDs]
  | x :: xs => by simp [tupDs, hf, tupDs_map hf xs]
theorem tupDs_prs (ps : List Pr) : tupDs (encPs ps) = true := tupDs_map tupD_pr ps
theorem szl {n : Nat} (h : n ≤ 10000000) : n < sizeLine := by
  have : (10000000 : Nat) < sizeLine := by decide
  omega
theorem mstep_len (acc : List Pr) (p : Pr) : (mstep acc p).length ≤ acc.length + 1 := by
  unfold mstep
  split
  · simp
  · split <;> simp <;> omega
theorem low_alike (ps : List Pr) : PySem.W.AllAlike ((encPs ps).map kfLow) := by
  intro d hd e he
  simp only [encPs, List.map_map, List.mem_map, Function.comp] at hd he
  obtain ⟨p, _, rfl⟩ := hd
  obtain ⟨q, _, rfl⟩ := he
  rw [kfLow_enc, kfLow_enc]
  simp [keyLow, PySem.W.alike, PySem.W.alikeAll]
theorem low_sortable (ps : List Pr) : PySem.W.Sortable ((encPs ps).map kfLow) := by
  refine .inl fun d hd => ?_
  simp only [encPs, List.map_map, List.mem_map, Function.comp] at hd
  obtain ⟨p, _, rfl⟩ := hd
  rw [kfLow_enc]
  exact ⟨_, _, rfl⟩
theorem low_depth (ps : List Pr) : ∀ d ∈ encPs ps, (kfLow d).depth ≤ 50 := by
  intro d hd
  obtain ⟨p, _, rfl⟩ := List.mem_map.mp hd
  rw [kfLow_enc]
  simp [keyLow, PyData.depth, PyData.depthAll]
theorem low_dom (ps : List Pr) : ∀ d ∈ encPs ps, domPr d := by
  intro d hd
  obtain ⟨p, _, rfl⟩ := List.mem_map.mp hd
  exact ⟨p, rfl⟩
theorem foldl_take {α β : Type} (f : β → α → β) (b : β) (xs : List α) (i : Nat) (x : α) (h : xs[i]? = some x) : (xs.take (i + 1)).foldl f b = f ((xs.take i).foldl f b) x := by
  rw [List.take_add_one, h]
  simp
/-- the name of a def as a value -/
theorem pe_fname {X : Cx} {x : Str} {f : Addr} {pos : Pos} (hm : X.mg x = some (.ref f)) (hg : Gl X x := by rfl) (hd : (x == ("__debug__" : Str)) = false := by decide) : PE X (.Name x pos) (tC (.ref f)) := pe_glob hg hm rfl hd
/-- xs[-1] -/
theorem pe_last {X : Cx} {e : Expr} {te : TE} {k : Nat} {p1 p2 pos : Pos} (he : PE X e te) : PE X (.Subscript e (.UnaryOp .USub (.Constant (.int 1) k p1) p2) pos) (tOp (rIxL X.K) te (tUn (rU fun i => .int (-i)) (tC (.int 1)))) := pe_ix ix_list he (pe_un un_neg pe_int) (fun _ _ => rfl)
theorem pe_appendL {X : Cx} {o e : Expr} {to te : TE} {apos cpos : Pos} (ho : PE X o to) (he : PE X e te) (hbase : attributeBase o "append" X.env (eval o X.env) = eval o X.env := by rfl) (hline : (apos.endLine == cpos.line) = true := by rfl)
    (hst : starEach [e] X.env = (false, eval e X.env) :: starEach [] X.env := by rfl) :
    PE X (.Call (.Attribute o "append" apos) [e] [] cpos) (tBM X.K "list" rAppend to (tCons te tNil)) :=
  pe_bm PySem.F.plainAttrs_list PySem.F.slot_list_append PySem.F.type_list_append mt_append ho (pa_cons he pa_nil hst) hbase (by rw [hst]; rfl) hline hst (by rfl)
def spMerged (K : PySem.W.Frag) : Sp := fun vs H Q _ => ∃ a xs ps, vs = [.ref a] ∧ Sq K H a xs ∧ DpAll K H xs (encPs ps) ∧ ps.length ≤ 1000000 ∧ RetL K H Q (encPs (merged ps))
abbrev sMerged : Stmt := top 15
abbrev nMerged : List Str := ["pairs", "found", "low", "high", "last"]
theorem scMerged : FnScope nMerged ["pairs"] (defScope sMerged) := ⟨rfl, rfl, rfl, by decide +kernel, rfl, by decide +kernel, by decide +kernel⟩
theorem ok_merged {f fl : Addr} {fd : FuncData} (F : Fun K "merged" "merged" sMerged f fd) (B : Bi mg) (hl : mg "low_key" = some (.ref fl)) (hk : KeyFn P w K fl domPr kfLow) (Fe : Fd P w K mg base "later_end" 1 ["one", "other"] spLater) : FnOk P w K mg base CX0 4 f fd ["pairs"] (spMerged K) := by
  refine F.ok scMerged (fun vs H Q E h => ?_) (fun cdv A outer s H vs Q E hr h => ?_)
  · obtain ⟨a, xs, ps, rfl, _⟩ := h
    rfl
  · obtain ⟨a, xs, ps, rfl, ha, hx, hlen, q⟩ := h
    have nd := scMerged.nd
    have hr3 : Room 3 _ := hr
    have hu := hu1 hr
    refine ⟨_, pss_cons (ps_set nd (i := 1) rfl (Or.inl rfl) (pe_lst pa_nil)) (pss_cons
      (ps_for PassesOwn.never rfl (pi_list (pe_callBK (call_sortedKey hk hr3) rfl B.srt_ bt_srt (pa_cons (pv 0) pa_nil) (pk_cons (pe_fname hl) pk_nil)))
        (pg_tup rfl (pgs_cons (pg_name (i := 2) nd rfl (Or.inl rfl)) (pgs_cons (pg_name (i := 3) nd rfl (Or.inl rfl)) pgs_nil)))
        (pss_cons (ps_set nd (i := 4) rfl (Or.inl rfl) (pe_ifExp (pt_cmpR (op_neD hu) (pv 1) (pe_lst pa_nil) (nomark _)) (pe_last (pv 1)) pe_non))
        (pss_one (ps_if (PW.pt (pw_and (pt_cmpR op_notN (pv 4) pe_non (nomark _)) (pw_and1 (PW.pt (pw_or (pt_cmpR op_isN (pe_ix ix_tup (pv 4) pe_int (fun _ _ => rfl)) pe_non (nomark _))
            (pw_or (pt_cmpR op_isN (pv 2) pe_non (nomark _)) (pw_or1 (pt_cmpR op_le (pv 2) (pe_op op_add (pe_ix ix_tup (pv 4) pe_int (fun _ _ => rfl)) pe_int) (nomark _)))))))))
          (pss_one (ps_asg (pe_tup (pa_cons (pe_ix ix_tup (pv 4) pe_int (fun _ _ => rfl)) (pa_cons (pe_f Fe (hr.mono (by decide)) (pa_cons (pe_ix ix_tup (pv 4) pe_int (fun _ _ => rfl)) (pa_cons (pv 3) pa_nil))) pa_nil)))
            (pg_sub (pv 1) (pe_un un_neg pe_int) set_list)))
          (pss_one (ps_expr (pe_appendL (pv 1) (pe_tup (pa_cons (pv 2) (pa_cons (pv 3) pa_nil))))))))))
      (pss_one (ps_ret (pv 1)))), ?_⟩
    refine ⟨Nat.zero_le _, fun F hF => ?_⟩
    have hsrc : Src K (upd H F (.lst [])) (.ref a) xs := by
      rcases ha with ha | ha
      · exact .inl ⟨a, rfl, ha.ext (same_upd hF)⟩
      · exact .inr (.inl ⟨a, rfl, ha.ext (same_upd hF)⟩)
    have hx1 : DpAll K (upd H F (.lst [])) xs (encPs ps) := DpAll.same (same_upd hF) hx
    refine ⟨_, rfl, .ref a, xs, encPs ps, rfl, rfl, hsrc, hx1, low_dom ps, low_alike ps, low_sortable ps, low_depth ps, fun L hL => ?_⟩
    have hsd : DpAll K (upd H F (.lst [])) ((sortedBy kfLow xs (encPs ps)).map (·.1)) (encPs (ps.mergeSort lowLe)) := sortedBy_of hx1 fun x y p q e1 e2 => le_low e1 e2
    obtain ⟨ys, hys⟩ : ∃ ys, ys = (sortedBy kfLow xs (encPs ps)).map (·.1) := ⟨_, rfl⟩
    obtain ⟨srt, hsrt⟩ : ∃ srt, srt = ps.mergeSort lowLe := ⟨_, rfl⟩
    rw [← hys, ← hsrt] at hsd
    rw [← hys]
    have hFL : F ≠ L := by
      rintro rfl
      rw [upd_same] at hL
      cases hL
    have hsl : srt.length = ps.length := by rw [hsrt, List.length_mergeSort]
    have hyl : ys.length = srt.length := by rw [DpAll.len hsd, encPs, List.length_map]
    refine ⟨L, rfl, ⟨ys, SqL.of upd_same⟩, for_list (xs := ys) (fun i σ H' => ∃ lo hi la fs, σ = [some (.ref a), some (.ref F), lo, hi, la] ∧ Same H H' ∧ H' F = some (.lst fs) ∧ H' L = some (.lst ys) ∧ DpAll K H' ys (encPs srt) ∧
      DpAll K H' fs (encPs ((srt.take i).foldl mstep [])) ∧ fs.length ≤ i) ?_ ?_ ?_ ?_⟩
    · exact ⟨_, _, _, [], rfl, same_new (same_upd hF) hL, by rw [upd_ne hFL, upd_same], upd_same, DpAll.same (same_upd hL) hsd, .nil, Nat.le_refl _⟩
    · rintro i σ H' _ ⟨lo, hi, la, fs, rfl, _, _, h4, _⟩
      exact SqL.of h4
    · rintro i x σ H' hxi ⟨lo, hi, la, fs, rfl, h2, h3, h4, h5, h6, h7⟩
      obtain ⟨d, hd1, hd2⟩ := DpAll.get h5 hxi
      rw [encPs, List.getElem?_map] at hd1
      cases hp : srt[i]? with
      | none => rw [hp] at hd1; cases hd1
      | some p =>
        rw [hp] at hd1
        cases hd1
        have hil : i < ys.length := (List.getElem?_eq_some_iff.mp hxi).1
        rw [foldl_take _ _ _ _ _ hp]
        obtain ⟨b, rfl, hb⟩ := dp_prv hd2
        obtain ⟨acc, hacc⟩ : ∃ acc, acc = (srt.take i).foldl mstep [] := ⟨_, rfl⟩
        rw [← hacc] at h6 ⊢
        have hal : fs.length = acc.length := by rw [DpAll.len h6, encPs, List.length_map]
        refine ⟨b, _, rfl, hb, rfl, _, _, rfl, _, _, rfl, rfl, _, rfl, Nat.zero_le _, fun Z hZ => ?_⟩
        have s1 : Same H' (upd H' Z (.lst [])) := same_upd hZ
        have hFZ : F ≠ Z := ne_of_none h3 hZ
        have hLZ : L ≠ Z := ne_of_none h4 hZ
        have h3' : upd H' Z (.lst []) F = some (.lst fs) := s1 _ _ h3
        have h4' : upd H' Z (.lst []) L = some (.lst ys) := s1 _ _ h4
        have h6' := DpAll.same s1 h6
        have h5' := DpAll.same s1 h5
        have hb' : SqT K (upd H' Z (.lst [])) b [endV p.1, endV p.2] := hb.ext s1
        have sH : Same H (upd H' Z (.lst [])) := h2.trans s1
        have hpu : ∀ (T : Addr) (xs : List V), SqT K (upd H' Z (.lst [])) T xs → True := fun _ _ _ => trivial
        refine ⟨.list (encPs acc), .list [], .lst (SqL.of h3') h6', .lst (SqL.of upd_same) .nil, (shp_lst (shp_prs (n := 0) acc)).shaped, (shp_lst (n := 0) (by intro d hd; cases hd)).shaped, _, rfl, ?_⟩
        rw [eqv_lnil]
        generalize hK1 : upd H' Z (.lst []) = K1 at *
        rcases List.eq_nil_or_concat acc with rfl | ⟨pre, last, rfl⟩
        · have ef : fs = [] := List.length_eq_zero_iff.mp (by simpa using hal)
          subst ef
          refine iteF ⟨_, rfl, rfl, _, rfl, ?_⟩
          show if false = true then _ else _
          refine iteF ?_
          show if false = true then _ else _
          refine iteF ⟨_, rfl, tyV_lst h3', _, rfl, _, rfl, two_sz, fun T hT => ?_⟩
          have hFT : F ≠ T := ne_of_none h3' hT
          refine ⟨F, [], _, rfl, rfl, by rw [upd_ne hFT]; exact h3', by decide, ?_⟩
          have h3t : upd K1 T (.tup [endV p.1, endV p.2]) F = some (.lst []) := by rw [upd_ne hFT]; exact h3'
          refine ⟨_, _, _, _, rfl, same_own (same_new sH hT) hF, upd_same, ?_, ?_, ?_, ?_⟩
          · rw [upd_ne hFL.symm, upd_ne (ne_of_none h4' hT)]
            exact h4'
          · exact dps_updL h3t (tupDs_prs _) (DpAll.same (same_upd hT) h5')
          · refine .cons ?_ .nil
            exact dp_pr_new (p := p) (by rw [upd_ne hFT.symm]; exact upd_same)
          · simp
        · obtain ⟨ws, lv, rfl, hw1, hw2⟩ := dps_snoc (by simpa [encPs] using h6')
          obtain ⟨lb, rfl, hlb⟩ := dp_prv hw2
          have e0 : (encPs (pre.concat last)).isEmpty = false := by simp [encPs]
          have em : mstep (pre.concat last) p = if joins last.2 p.1 = true then pre ++ [(last.1, laterEnd last.2 p.2)] else pre.concat last ++ [p] := by
            unfold mstep
            simp
          rw [e0]
          refine iteT ⟨_, rfl, _, rfl, F, ws ++ [.ref lb], -1, .ref lb, rfl, rfl, SqL.of h3', atI_last _ _, ?_⟩
          refine ⟨_, rfl, rfl, _, rfl, ?_⟩
          show if true = true then _ else _
          refine iteT ?_
          have hjoin : joins last.2 p.1 = true → ∀ {k : Prop}, k → k := fun _ _ z => z
          -- the two ways on
          have wayJ : joins last.2 p.1 = true → ∀ (T : Addr), K1 T = Option.none → ∃ lo hi la fs, [some (V.ref a), some (.ref F), some (endV p.1), some (endV p.2), some (.ref lb)] = [some (.ref a), some (.ref F), lo, hi, la] ∧
              Same H (upd (upd K1 T (.tup [endV last.1, endV (laterEnd last.2 p.2)])) F (.lst (ws ++ [.ref T]))) ∧ upd (upd K1 T (.tup [endV last.1, endV (laterEnd last.2 p.2)])) F (.lst (ws ++ [.ref T])) F = some (.lst fs) ∧
              upd (upd K1 T (.tup [endV last.1, endV (laterEnd last.2 p.2)])) F (.lst (ws ++ [.ref T])) L = some (.lst ys) ∧ DpAll K (upd (upd K1 T (.tup [endV last.1, endV (laterEnd last.2 p.2)])) F (.lst (ws ++ [.ref T]))) ys (encPs srt) ∧
              DpAll K (upd (upd K1 T (.tup [endV last.1, endV (laterEnd last.2 p.2)])) F (.lst (ws ++ [.ref T]))) fs (encPs (pre ++ [(last.1, laterEnd last.2 p.2)])) ∧ fs.length ≤ i + 1 := by
            intro _ T hT
            have hFT : F ≠ T := ne_of_none h3' hT
            have h3t : upd K1 T (.tup [endV last.1, endV (laterEnd last.2 p.2)]) F = some (.lst (ws ++ [.ref lb])) := by rw [upd_ne hFT]; exact h3'
            refine ⟨_, _, _, _, rfl, same_own (same_new sH hT) hF, upd_same, ?_, ?_, ?_, ?_⟩
            · rw [upd_ne hFL.symm, upd_ne (ne_of_none h4' hT)]
              exact h4'
            · exact dps_updL h3t (tupDs_prs _) (DpAll.same (same_upd hT) h5')
            · rw [show encPs (pre ++ [(last.1, laterEnd last.2 p.2)]) = encPs pre ++ [encP (last.1, laterEnd last.2 p.2)] by simp [encPs]]
              refine DpAll.app ?_ (DpAll.one (dp_pr_new (p := (last.1, laterEnd last.2 p.2)) (by rw [upd_ne hFT.symm]; exact upd_same)))
              exact dps_updL h3t (tupDs_prs _) (DpAll.same (same_upd hT) hw1)
            · simp at h7 ⊢
              omega
          have wayN : ∀ (T : Addr), K1 T = Option.none → ∃ lo hi la fs, [some (V.ref a), some (.ref F), some (endV p.1), some (endV p.2), some (.ref lb)] = [some (.ref a), some (.ref F), lo, hi, la] ∧
              Same H (upd (upd K1 T (.tup [endV p.1, endV p.2])) F (.lst (ws ++ [.ref lb] ++ [.ref T]))) ∧ upd (upd K1 T (.tup [endV p.1, endV p.2])) F (.lst (ws ++ [.ref lb] ++ [.ref T])) F = some (.lst fs) ∧
              upd (upd K1 T (.tup [endV p.1, endV p.2])) F (.lst (ws ++ [.ref lb] ++ [.ref T])) L = some (.lst ys) ∧ DpAll K (upd (upd K1 T (.tup [endV p.1, endV p.2])) F (.lst (ws ++ [.ref lb] ++ [.ref T]))) ys (encPs srt) ∧
              DpAll K (upd (upd K1 T (.tup [endV p.1, endV p.2])) F (.lst (ws ++ [.ref lb] ++ [.ref T]))) fs (encPs (pre.concat last ++ [p])) ∧ fs.length ≤ i + 1 := by
            intro T hT
            have hFT : F ≠ T := ne_of_none h3' hT
            have h3t : upd K1 T (.tup [endV p.1, endV p.2]) F = some (.lst (ws ++ [.ref lb])) := by rw [upd_ne hFT]; exact h3'
            refine ⟨_, _, _, _, rfl, same_own (same_new sH hT) hF, upd_same, ?_, ?_, ?_, ?_⟩
            · rw [upd_ne hFL.symm, upd_ne (ne_of_none h4' hT)]
              exact h4'
            · exact dps_updL h3t (tupDs_prs _) (DpAll.same (same_upd hT) h5')
            · rw [show encPs (pre.concat last ++ [p]) = encPs (pre.concat last) ++ [encP p] by simp [encPs]]
              refine DpAll.app ?_ (DpAll.one (dp_pr_new (p := p) (by rw [upd_ne hFT.symm]; exact upd_same)))
              exact dps_updL h3t (tupDs_prs _) (DpAll.same (same_upd hT) h6')
            · simp at h7 ⊢
              omega
          obtain ⟨l1, l2⟩ := last
          obtain ⟨p1, p2⟩ := p
          refine ⟨_, rfl, lb, _, 1, _, rfl, rfl, hlb, at1, rfl, _, rfl, ?_⟩
          cases l2 with
          | none =>
            refine iteT ?_
            refine iteT ⟨_, rfl, lb, _, 0, _, rfl, rfl, hlb, at0, _, rfl, lb, _, 1, _, rfl, rfl, hlb, at1, _, rfl, none, p2, rfl, two_sz, fun T hT => ?_⟩
            refine ⟨_, rfl, _, rfl, F, ws ++ [.ref lb], -1, ws.length, rfl, rfl, by rw [upd_ne (ne_of_none h3' hT)]; exact h3', by rw [List.length_append]; exact ixN_last _, ?_⟩
            have es : (ws ++ [V.ref lb]).set ws.length (.ref T) = ws ++ [.ref T] := by simp
            rw [es, em.trans (if_pos rfl)]
            exact wayJ rfl T hT
          | some m =>
            refine iteF ⟨_, rfl, rfl, _, rfl, ?_⟩
            cases p1 with
            | none =>
              refine iteT ?_
              refine iteT ⟨_, rfl, lb, _, 0, _, rfl, rfl, hlb, at0, _, rfl, lb, _, 1, _, rfl, rfl, hlb, at1, _, rfl, some m, p2, rfl, two_sz, fun T hT => ?_⟩
              refine ⟨_, rfl, _, rfl, F, ws ++ [.ref lb], -1, ws.length, rfl, rfl, by rw [upd_ne (ne_of_none h3' hT)]; exact h3', by rw [List.length_append]; exact ixN_last _, ?_⟩
              have es : (ws ++ [V.ref lb]).set ws.length (.ref T) = ws ++ [.ref T] := by simp
              rw [es, em.trans (if_pos rfl)]
              exact wayJ rfl T hT
            | some l =>
              refine iteF ⟨_, rfl, _, rfl, lb, _, 1, _, rfl, rfl, hlb, at1, _, _, rfl, rfl, _, _, rfl, rfl, _, rfl, ?_⟩
              by_cases hj : l ≤ m + 1
              · have hj' : joins (some m) (some l) = true := decide_eq_true hj
                rw [decide_eq_true hj]
                refine iteT ⟨_, rfl, lb, _, 0, _, rfl, rfl, hlb, at0, _, rfl, lb, _, 1, _, rfl, rfl, hlb, at1, _, rfl, some m, p2, rfl, two_sz, fun T hT => ?_⟩
                refine ⟨_, rfl, _, rfl, F, ws ++ [.ref lb], -1, ws.length, rfl, rfl, by rw [upd_ne (ne_of_none h3' hT)]; exact h3', by rw [List.length_append]; exact ixN_last _, ?_⟩
                have es : (ws ++ [V.ref lb]).set ws.length (.ref T) = ws ++ [.ref T] := by simp
                rw [es, em.trans (if_pos hj')]
                exact wayJ hj' T hT
              · have hj' : joins (some m) (some l) = false := decide_eq_false hj
                rw [decide_eq_false hj]
                refine iteF ⟨_, rfl, tyV_lst h3', _, rfl, _, rfl, two_sz, fun T hT => ?_⟩
                have hT : K1 T = Option.none := hT
                refine ⟨F, ws ++ [.ref lb], _, rfl, rfl, by rw [upd_ne (ne_of_none h3' hT)]; exact h3', ?_, ?_⟩
                · exact szl (by rw [hal]; have := (List.getElem?_eq_some_iff.mp hp).1; omega)
                · rw [em.trans (if_neg (by rw [hj']; decide))]
                  exact wayN T hT
    · rintro σ H' ⟨lo, hi, la, fs, rfl, h2, h3, h4, h5, h6, h7⟩
      refine ⟨_, rfl, q F fs H' h2 hF h3 ?_⟩
      have e : (srt.take ys.length).foldl mstep [] = merged ps := by
        rw [hyl, List.take_length, hsrt]
        rfl
      rw [← e]
      exact h6
end
end RA
end

section
set_option Elab.async false
set_option linter.all false
set_option autoImplicit false
set_option maxRecDepth 100000
set_option maxHeartbeats 4000000
namespace RA
open PySem PySem.Spec PyProof.Rows L2
section
variable {α β : Type} {K : PySem.W.Frag} {a D : Addr} {xs : List V} {g : TG} {tt : TT} {te : TE} {vs : List Nat} {σ : L2.St} {H1 : Hp} {Q : Hp → Prop} {f : α → Option β} {es : α → PyData} {er : β → PyData} {src : List α}
/-- what one turn of a comprehension over data asks -/
def LcTurn (K : PySem.W.Frag) (H1 : Hp) (g : TG) (tt : TT) (te : TE) (vs : List Nat) (σ : L2.St) (f : α → Option β) (es : α → PyData) (er : β → PyData) (src : List α) : Prop :=
  ∀ (x : V) (p : α) (H : Hp) (Y : V → Hp → Prop) (N : Hp → Prop), p ∈ src → Same H1 H → Dp K H x (es p) → (∀ y b H4, f p = some b → Same H H4 → Dp K H4 y (er b) → Y y H4) → (∀ H3, f p = Option.none → Same H H3 → N H3) →
    g x (wipe σ vs) H fun σ2 H2 => wipe σ2 vs = wipe σ vs ∧ tt σ2 H2 fun b H3 => if b = true then te σ2 H3 fun y H4 => Y y H4 else N H3
/-- the word of the turns -/
def LcPv (K : PySem.W.Frag) (H1 : Hp) (D : Addr) (xs : List V) (f : α → Option β) (es : α → PyData) (er : β → PyData) (src : List α) (i : Nat) (H : Hp) : Prop :=
  Same H1 H ∧ DpAll K H xs (src.map es) ∧ ∃ acc, H D = some (.lst acc) ∧ acc.length ≤ i ∧ DpAll K H acc (((src.take i).filterMap f).map er)
theorem lcPv_step {i : Nat} {x : V} {H : Hp} (hr : ∀ b, tupD (er b) = true) (hs : ∀ b, tupD (es b) = true) (hD : H1 D = Option.none) (hlen : src.length ≤ 1000000) (T : LcTurn K H1 g tt te vs σ f es er src) (hx : xs[i]? = some x) (h : LcPv K H1 D xs f es er src i H) :
    g x (wipe σ vs) H fun σ2 H2 => wipe σ2 vs = wipe σ vs ∧ tt σ2 H2 fun b H3 =>
      if b = true then te σ2 H3 fun y H4 => ∃ acc, H4 D = some (.lst acc) ∧ acc.length < sizeLine ∧ LcPv K H1 D xs f es er src (i + 1) (upd H4 D (.lst (acc ++ [y]))) else LcPv K H1 D xs f es er src (i + 1) H3 := by
  obtain ⟨h1, h2, acc, h3, h4, h5⟩ := h
  obtain ⟨d, hd1, hd2⟩ := DpAll.get h2 hx
  rw [List.getElem?_map] at hd1
  cases hp : src[i]? with
  | none => rw [hp] at hd1; cases hd1
  | some p =>
    rw [hp] at hd1
    cases hd1
    have hil : i < src.length := (List.getElem?_eq_some_iff.mp hp).1
    have ht : src.take (i + 1) = src.take i ++ [p] := by
      rw [List.take_add_one, hp]
      rfl
    refine T x p H _ _ (List.mem_of_getElem? hp) h1 hd2 (fun y b H4 e s4 hy => ?_) (fun H3 e s3 => ?_)
    · refine ⟨acc, s4 _ _ h3, szl (by omega), same_own (h1.trans s4) hD, ?_, acc ++ [y], upd_same, by simp; omega, ?_⟩
      · exact dps_updL (s4 _ _ h3) (tupDs_map hs _) (DpAll.same s4 h2)
      · rw [ht, List.filterMap_append, List.map_append]
        have e2 : List.filterMap f [p] = [b] := by simp [e]
        rw [e2]
        exact dps_updL (s4 _ _ h3) (by rw [← List.map_append]; exact tupDs_map hr _) (DpAll.app (DpAll.same s4 h5) (DpAll.one hy))
    · refine ⟨h1.trans s3, DpAll.same s3 h2, acc, s3 _ _ h3, by omega, ?_⟩
      rw [ht, List.filterMap_append, List.map_append]
      have e2 : List.filterMap f [p] = [] := by simp [e]
      rw [e2]
      simp
      exact DpAll.same s3 (by simpa using h5)
theorem lcPv_end {Q : Hp → Prop} (he : ∀ H' acc, Same H1 H' → H' D = some (.lst acc) → DpAll K H' acc ((src.filterMap f).map er) → Q H') (hx : xs.length = src.length) : ∀ H, LcPv K H1 D xs f es er src xs.length H → Q H := by
  rintro H ⟨h1, h2, acc, h3, h4, h5⟩
  rw [hx, List.take_length] at h5
  exact he H acc h1 h3 h5
theorem lcPv_start (hD : H1 D = Option.none) (hx : DpAll K H1 xs (src.map es)) : LcPv K H1 D xs f es er src 0 (upd H1 D (.lst [])) := ⟨same_upd hD, DpAll.same (same_upd hD) hx, [], upd_same, Nat.le_refl _, .nil⟩
/-- a comprehension over a list of data -/
theorem lcD_list (f : α → Option β) (es : α → PyData) (er : β → PyData) (src : List α) (hs : ∀ b, tupD (es b) = true) (hr : ∀ b, tupD (er b) = true) (hD : H1 D = Option.none) (ha : SqL K H1 a xs) (hx : DpAll K H1 xs (src.map es)) (hlen : src.length ≤ 1000000) (T : LcTurn K H1 g tt te vs σ f es er src)
    (he : ∀ H' acc, Same H1 H' → H' D = some (.lst acc) → DpAll K H' acc ((src.filterMap f).map er) → Q H') :
    ∃ W : Nat → Nat → Hp → Prop, (∃ m, W 0 m (upd H1 D (.lst []))) ∧ ∀ i m H, W i m H →
      ((Itl K a).stop i H ∧ Q H) ∨ ((Itl K a).go i H ∧ ∃ Nx : Hp → Prop, (∀ H', Nx H' → ∃ m', m' < m ∧ W (i + 1) m' H') ∧ ∀ x H', (Itl K a).yld i H x H' → g x (wipe σ vs) H' fun σ2 H2 => wipe σ2 vs = wipe σ vs ∧ tt σ2 H2 fun b H3 =>
        if b = true then te σ2 H3 fun y H4 => ∃ acc, H4 D = some (.lst acc) ∧ acc.length < sizeLine ∧ Nx (upd H4 D (.lst (acc ++ [y]))) else Nx H3) :=
  lc_list (LcPv K H1 D xs f es er src) (lcPv_start hD hx) (fun i H _ h => ha.ext h.1) (fun i x H hxi h => lcPv_step hr hs hD hlen T hxi h) (lcPv_end he (by rw [DpAll.len hx, List.length_map]))
/-- .. over a tuple -/
theorem lcD_tup (f : α → Option β) (es : α → PyData) (er : β → PyData) (src : List α) (hs : ∀ b, tupD (es b) = true) (hr : ∀ b, tupD (er b) = true) (hD : H1 D = Option.none) (ha : SqT K H1 a xs) (hx : DpAll K H1 xs (src.map es)) (hlen : src.length ≤ 1000000) (T : LcTurn K H1 g tt te vs σ f es er src)
    (he : ∀ H' acc, Same H1 H' → H' D = some (.lst acc) → DpAll K H' acc ((src.filterMap f).map er) → Q H') :
    ∃ W : Nat → Nat → Hp → Prop, (∃ m, W 0 m (upd H1 D (.lst []))) ∧ ∀ i m H, W i m H →
      ((Itt K a).stop i H ∧ Q H) ∨ ((Itt K a).go i H ∧ ∃ Nx : Hp → Prop, (∀ H', Nx H' → ∃ m', m' < m ∧ W (i + 1) m' H') ∧ ∀ x H', (Itt K a).yld i H x H' → g x (wipe σ vs) H' fun σ2 H2 => wipe σ2 vs = wipe σ vs ∧ tt σ2 H2 fun b H3 =>
        if b = true then te σ2 H3 fun y H4 => ∃ acc, H4 D = some (.lst acc) ∧ acc.length < sizeLine ∧ Nx (upd H4 D (.lst (acc ++ [y]))) else Nx H3) :=
  lc_tup (LcPv K H1 D xs f es er src) (lcPv_start hD hx) (fun i H _ h => ha.ext h.1) (fun i x H hxi h => lcPv_step hr hs hD hlen T hxi h) (lcPv_end he (by rw [DpAll.len hx, List.length_map]))
end
end RA
end

section
set_option Elab.async false
set_option linter.all false
set_option autoImplicit false
set_option maxRecDepth 100000
set_option maxHeartbeats 4000000
namespace RA
open PySem PySem.Spec PyProof.Rows L2
section
variable {P : Program} {w : World} {K : PySem.W.Frag} {mg : Str → Option Value} {base : Heap}
theorem dps_ints {H : Hp} : ∀ {ns : List Int} {vs : List V}, DpAll K H vs (ns.map .int) → vs = ns.map V.int
  | [], vs, h => dps_nil h
  | n :: ns, vs, h => by
    obtain ⟨v, r, rfl, h1, h2⟩ := dps_cons h
    rw [dp_int h1, dps_ints h2]
    rfl
theorem dps_bls {H : Hp} : ∀ {ns : List Bool} {vs : List V}, DpAll K H vs (ns.map .bool) → vs = ns.map V.bl
  | [], vs, h => dps_nil h
  | n :: ns, vs, h => by
    obtain ⟨v, r, rfl, h1, h2⟩ := dps_cons h
    rw [dp_bl h1, dps_bls h2]
    rfl
theorem maxO_of {a b : Option Int} {m : Int} (h : m ∈ [a, b].filterMap id) (hm : ∀ y, y ∈ [a, b].filterMap id → y ≤ m) : maxO a b = some m := by
  cases a <;> cases b <;> simp [maxO] at * <;> omega
theorem minO_of {a b : Option Int} {m : Int} (h : m ∈ [a, b].filterMap id) (hm : ∀ y, y ∈ [a, b].filterMap id → m ≤ y) : minO a b = some m := by
  cases a <;> cases b <;> simp [minO] at * <;> omega
theorem maxO_nil {a b : Option Int} (h : [a, b].filterMap id = []) : maxO a b = none := by
  cases a <;> cases b <;> simp [maxO] at *
theorem minO_nil {a b : Option Int} (h : [a, b].filterMap id = []) : minO a b = none := by
  cases a <;> cases b <;> simp [minO] at *
theorem tupD_int (i : Int) : tupD (.int i) = true := by simp [tupD]
theorem shp_ints (ns : List Int) : ∀ d ∈ ns.map PyData.int, Shp 0 d := by
  intro d hd
  obtain ⟨i, _, rfl⟩ := List.mem_map.mp hd
  exact shp_int i
/-- max(xs) if xs != [] else None -/
theorem rd_maxl {σ : L2.St} {i : Nat} {D : Addr} {ns : List Int} {H : Hp} {k : VK} (hσ : σ[i]? = some (some (.ref D))) (hD : H D = some (.lst (ns.map V.int))) (hd : DpAll K H (ns.map V.int) (ns.map .int))
    (h : ∀ H' v, Same H H' → (ns = [] → v = .non) → (ns ≠ [] → ∃ m, v = .int m ∧ m ∈ ns ∧ ∀ y ∈ ns, y ≤ m) → k v H') :
    tIf (tTest (tOp (rNeD K) (tVar i) (tLst tNil))) (tCB (rMax K) (tCons (tVar i) tNil)) (tC .non) σ H k := by
  refine ⟨_, hσ, Nat.zero_le _, fun Z hZ => ?_⟩
  refine ⟨.list (ns.map .int), .list [], .lst (SqL.of (same_upd hZ _ _ hD)) (DpAll.same (same_upd hZ) hd), .lst (SqL.of upd_same) .nil, (shp_lst (shp_ints _)).shaped, (shp_lst (n := 0) (by intro d hd; cases hd)).shaped, _, rfl, ?_⟩
  rw [eqv_lnil]
  cases ns with
  | nil => exact iteF (h _ _ (same_upd hZ) (fun _ => rfl) (fun z => absurd rfl z))
  | cons n r => exact iteT ⟨_, hσ, D, n :: r, rfl, SqL.of (same_upd hZ _ _ hD), Nat.succ_pos _, fun m hm hle => h _ _ (same_upd hZ) (fun z => by cases z) fun _ => ⟨m, rfl, hm, hle⟩⟩
theorem rd_minl {σ : L2.St} {i : Nat} {D : Addr} {ns : List Int} {H : Hp} {k : VK} (hσ : σ[i]? = some (some (.ref D))) (hD : H D = some (.lst (ns.map V.int))) (hd : DpAll K H (ns.map V.int) (ns.map .int))
    (h : ∀ H' v, Same H H' → (ns = [] → v = .non) → (ns ≠ [] → ∃ m, v = .int m ∧ m ∈ ns ∧ ∀ y ∈ ns, m ≤ y) → k v H') :
    tIf (tTest (tOp (rNeD K) (tVar i) (tLst tNil))) (tCB (rMin K) (tCons (tVar i) tNil)) (tC .non) σ H k := by
  refine ⟨_, hσ, Nat.zero_le _, fun Z hZ => ?_⟩
  refine ⟨.list (ns.map .int), .list [], .lst (SqL.of (same_upd hZ _ _ hD)) (DpAll.same (same_upd hZ) hd), .lst (SqL.of upd_same) .nil, (shp_lst (shp_ints _)).shaped, (shp_lst (n := 0) (by intro d hd; cases hd)).shaped, _, rfl, ?_⟩
  rw [eqv_lnil]
  cases ns with
  | nil => exact iteF (h _ _ (same_upd hZ) (fun _ => rfl) (fun z => absurd rfl z))
  | cons n r => exact iteT ⟨_, hσ, D, n :: r, rfl, SqL.of (same_upd hZ _ _ hD), Nat.succ_pos _, fun m hm hle => h _ _ (same_upd hZ) (fun z => by cases z) fun _ => ⟨m, rfl, hm, hle⟩⟩
/-! ## met of two stretches -/
def rNN : R2 := fun x y H Q => y = .non ∧ Q (.bl (!decide (x = .non))) H
def rIN : R2 := fun x y H Q => y = .non ∧ Q (.bl (decide (x = .non))) H
theorem op_nn {X : Cx} : OpR X (compareOp .IsNot) rNN := op_notN
theorem op_in {X : Cx} : OpR X (compareOp .Is) rIN := op_isN
/-- slot i, its item n -/
abbrev tIx (K : PySem.W.Frag) (i : Nat) (n : Int) : TE := tOp (rIxT K) (tVar i) (tC (.int n))
def spMet (K : PySem.W.Frag) : Sp := fun vs H Q _ => ∃ x y p q, vs = [x, y] ∧ Dp K H x (encP p) ∧ Dp K H y (encP q) ∧ (∀ v H', Same H H' → (match metP p q with | none => v = .non | some r => Dp K H' v (encP r)) → Q v H')
abbrev sMet : Stmt := top 16
abbrev nMet : List Str := ["one", "other", "lows", "highs", "found", "pair"]
theorem scMet : FnScope nMet ["one", "other"] (defScope sMet) := ⟨rfl, rfl, rfl, by decide +kernel, rfl, by decide +kernel, by decide +kernel⟩
theorem ok_met {f : Addr} {fd : FuncData} (F : Fun K "met" "met" sMet f fd) (B : Bi mg) (Fp : Fd P w K mg base "is_pair" 3 ["thing"] (spIsPair K)) : FnOk P w K mg base CX0 4 f fd ["one", "other"] (spMet K) := by
  refine F.ok scMet (fun vs H Q E h => ?_) (fun cdv A outer s H vs Q E hr h => ?_)
  · obtain ⟨x, y, p, q, rfl, _⟩ := h
    rfl
  · obtain ⟨x, y, p, q, rfl, hx, hy, qq⟩ := h
    have nd := scMet.nd
    have hu := hu1 hr
    refine ⟨_, pss_cons (ps_setLc (i := 2) (own := [("pair", 5)]) (g := gName 5) (tt := tTest (tOp rNN (tIx K 5 0) (tC .non))) (te := tIx K 5 0) rfl nd rfl rfl (sw_true rfl rfl rfl (by decide +kernel)) (pi_tup (pe_tup (pa_cons (pv 0) (pa_cons (pv 1) pa_nil)))) (blkOk_by (N := nMet) (sc := defScope sMet) (by decide +kernel))
        (fun _ _ _ _ _ => pg_name (i := 5) nd rfl (Or.inl rfl)) (fun _ _ _ _ _ => pts_one (pt_cmpR op_nn (pe_ix ix_tup (pv 5) pe_int (fun _ _ => rfl)) pe_non (nomark _))) (fun _ _ _ _ _ => pe_ix ix_tup (pv 5) pe_int (fun _ _ => rfl)))
      (pss_cons (ps_setLc (i := 3) (own := [("pair", 5)]) (g := gName 5) (tt := tTest (tOp rNN (tIx K 5 1) (tC .non))) (te := tIx K 5 1) rfl nd rfl rfl (sw_true rfl rfl rfl (by decide +kernel)) (pi_tup (pe_tup (pa_cons (pv 0) (pa_cons (pv 1) pa_nil)))) (blkOk_by (N := nMet) (sc := defScope sMet) (by decide +kernel))
        (fun _ _ _ _ _ => pg_name (i := 5) nd rfl (Or.inl rfl)) (fun _ _ _ _ _ => pts_one (pt_cmpR op_nn (pe_ix ix_tup (pv 5) pe_int (fun _ _ => rfl)) pe_non (nomark _))) (fun _ _ _ _ _ => pe_ix ix_tup (pv 5) pe_int (fun _ _ => rfl)))
      (pss_cons (ps_set nd (i := 4) rfl (Or.inl rfl) (pe_tup (pa_cons (pe_ifExp (pt_cmpR (op_neD hu) (pv 2) (pe_lst pa_nil) (nomark _)) (pe_callB (cr_max rfl) (by rfl) B.max_ bt_max (pa_cons (pv 2) pa_nil)) pe_non)
          (pa_cons (pe_ifExp (pt_cmpR (op_neD hu) (pv 3) (pe_lst pa_nil) (nomark _)) (pe_callB (cr_min rfl) (by rfl) B.min_ bt_min (pa_cons (pv 3) pa_nil)) pe_non) pa_nil))))
      (pss_one (ps_ret (pe_ifExp (pt_val (pe_f Fp hr (pa_cons (pv 4) pa_nil))) (pv 4) pe_non))))), ?_⟩
    refine ⟨_, rfl, _, rfl, two_sz, fun T hT => ?_⟩
    have s1 : Same H (upd H T (.tup [x, y])) := same_upd hT
    refine ⟨T, rfl, ⟨_, SqT.of upd_same⟩, fun D hD => lcD_tup (fun p : Pr => p.1) encP PyData.int [p, q] tupD_pr tupD_int hD (SqT.of upd_same) (.cons (Dp.same s1 hx) (.cons (Dp.same s1 hy) .nil)) (by simp) ?_ ?_⟩
    · intro x p H Y N hp hS hx hY hN
      obtain ⟨a, rfl, ha⟩ := dp_prv hx
      obtain ⟨p1, p2⟩ := p
      refine ⟨rfl, _, rfl, a, _, 0, _, rfl, rfl, ha, at0, rfl, _, rfl, ?_⟩
      cases p1 with
      | none => exact iteF (hN _ rfl (Same.refl _))
      | some i => exact iteT ⟨_, rfl, a, _, 0, _, rfl, rfl, ha, at0, hY _ i _ rfl (Same.refl _) (.int i)⟩
    · intro H2 lows s2 hl2 hd2
      have es : ([p, q].filterMap fun p : Pr => p.1) = [p.1, q.1].filterMap id := by simp [List.filterMap_cons]
      rw [es] at hd2
      have sA := s1.trans s2
      refine ⟨_, rfl, _, rfl, two_sz, fun T2 hT2 => ?_⟩
      have s3 : Same H2 (upd H2 T2 (.tup [x, y])) := same_upd hT2
      have sB := sA.trans s3
      refine ⟨T2, rfl, ⟨_, SqT.of upd_same⟩, fun D2 hD2 => lcD_tup (fun p : Pr => p.2) encP PyData.int [p, q] tupD_pr tupD_int hD2 (SqT.of upd_same) (.cons (Dp.same sB hx) (.cons (Dp.same sB hy) .nil)) (by simp) ?_ ?_⟩
      · intro x p H Y N hp hS hx hY hN
        obtain ⟨a, rfl, ha⟩ := dp_prv hx
        obtain ⟨p1, p2⟩ := p
        refine ⟨rfl, _, rfl, a, _, 1, _, rfl, rfl, ha, at1, rfl, _, rfl, ?_⟩
        cases p2 with
        | none => exact iteF (hN _ rfl (Same.refl _))
        | some i => exact iteT ⟨_, rfl, a, _, 1, _, rfl, rfl, ha, at1, hY _ i _ rfl (Same.refl _) (.int i)⟩
      · intro H3 highs s4 hl3 hd3
        have es : ([p, q].filterMap fun p : Pr => p.2) = [p.2, q.2].filterMap id := by simp [List.filterMap_cons]
        rw [es] at hd3
        have hl2' : H3 D = some (.lst lows) := s4 _ _ (s3 _ _ hl2)
        have hd2' := DpAll.same s4 (DpAll.same s3 hd2)
        have e2 := dps_ints hd2'
        have e3 := dps_ints hd3
        have sC := sB.trans s4
        subst e2 e3
        refine rd_maxl (i := 2) rfl hl2' hd2' fun H4 v s5 hv0 hv1 => ?_
        have ev : v = endV (maxO p.1 q.1) := by
          by_cases e : [p.1, q.1].filterMap id = []
          · rw [hv0 e, maxO_nil e]
            rfl
          · obtain ⟨m, rfl, h1, h2⟩ := hv1 e
            rw [maxO_of h1 h2]
            rfl
        refine rd_minl (i := 3) rfl (s5 _ _ hl3) (DpAll.same s5 hd3) fun H5 u s6 hu0 hu1 => ?_
        have eu : u = endV (minO p.2 q.2) := by
          by_cases e : [p.2, q.2].filterMap id = []
          · rw [hu0 e, minO_nil e]
            rfl
          · obtain ⟨m, rfl, h1, h2⟩ := hu1 e
            rw [minO_of h1 h2]
            rfl
        subst ev eu
        refine ⟨two_sz, fun U hU => ?_⟩
        have s7 : Same H (upd H5 U (.tup [endV (maxO p.1 q.1), endV (minO p.2 q.2)])) := same_new ((sC.trans s5).trans s6) hU
        have hdU : Dp K (upd H5 U (.tup [endV (maxO p.1 q.1), endV (minO p.2 q.2)])) (.ref U) (encP (maxO p.1 q.1, minO p.2 q.2)) := dp_pr_new (p := (maxO p.1 q.1, minO p.2 q.2)) upd_same
        refine ⟨_, rfl, _, (maxO p.1 q.1, minO p.2 q.2), rfl, hdU, _, rfl, ?_⟩
        unfold metP at qq
        cases hv : vld (maxO p.1 q.1, minO p.2 q.2) with
        | true =>
          rw [hv] at qq
          exact iteT ⟨_, rfl, qq _ _ s7 hdU⟩
        | false =>
          rw [hv] at qq
          exact iteF (qq _ _ s7 rfl)
end
end RA
end

section
set_option Elab.async false
set_option linter.all false
set_option autoImplicit false
set_option maxRecDepth 100000
set_option maxHeartbeats 4000000
namespace RA
open PySem PySem.Spec PyProof.Rows L2
section
variable {P : Program} {w : World} {K : PySem.W.Frag} {mg : Str → Option Value} {base : Heap}
theorem none_back {H H' : Hp} {p : Addr} (s : Same H H') (h : H' p = Option.none) : H p = Option.none := by
  cases e : H p with
  | none => rfl
  | some o => rw [s _ _ e] at h; cases h
/-! ## met_any -/
def encO : Option Pr → PyData
  | none => .none
  | some p => encP p
theorem tupD_o (p : Option Pr) : tupD (encO p) = true := by
  cases p with
  | none => simp [encO, tupD]
  | some p => exact tupD_pr p
theorem dp_o {H : Hp} {v : V} {p : Option Pr} (h : match p with | none => v = .non | some r => Dp K H v (encP r)) : Dp K H v (encO p) := by
  cases p with
  | none => cases h; exact .non
  | some p => exact h
def spMetAny (K : PySem.W.Frag) : Sp := fun vs H Q _ => ∃ a xs y ps one, vs = [.ref a, y] ∧ SqL K H a xs ∧ DpAll K H xs (encPs ps) ∧ ps.length ≤ 1000000 ∧ Dp K H y (encP one) ∧ RetL K H Q (encPs (metAny ps one))
abbrev sMetAny : Stmt := top 19
abbrev nMetAny : List Str := ["pairs", "one", "found", "pair"]
theorem scMetAny : FnScope nMetAny ["pairs", "one"] (defScope sMetAny) := ⟨rfl, rfl, rfl, by decide +kernel, rfl, by decide +kernel, by decide +kernel⟩
theorem ok_metAny {f : Addr} {fd : FuncData} (F : Fun K "met_any" "met_any" sMetAny f fd) (Fm : Fd P w K mg base "met_spans" 4 ["one", "other"] (spMet K)) : FnOk P w K mg base CX0 5 f fd ["pairs", "one"] (spMetAny K) := by
  refine F.ok scMetAny (fun vs H Q E h => ?_) (fun cdv A outer s H vs Q E hr h => ?_)
  · obtain ⟨a, xs, y, ps, one, rfl, _⟩ := h
    rfl
  · obtain ⟨a, xs, y, ps, one, rfl, ha, hx, hlen, hy, q⟩ := h
    have nd := scMetAny.nd
    refine ⟨_, pss_cons (ps_setLc (i := 2) (own := [("pair", 3)]) (g := gName 3) (tt := tYes) (te := tCall (spMet K) [] E0 (tCons (tVar 1) (tCons (tVar 3) tNil))) rfl nd rfl rfl (sw_true rfl rfl rfl (by decide +kernel)) (pi_list (pv 0)) (blkOk_by (N := nMetAny) (sc := defScope sMetAny) (by decide +kernel))
        (fun _ _ _ _ _ => pg_name (i := 3) nd rfl (Or.inl rfl)) (fun _ _ _ _ _ => pts_nil) (fun _ _ _ _ _ => pe_f Fm hr (pa_cons (pv 1) (pa_cons (pv 3) pa_nil))))
      (pss_one (ps_ret (pe_lc (own := [("pair", 3)]) (g := gName 3) (tt := tTest (tOp rNN (tVar 3) (tC .non))) (te := tVar 3) rfl nd (pi_list (pv 2)) (blkOk_by (N := nMetAny) (sc := defScope sMetAny) (by decide +kernel))
        (fun _ _ _ _ _ => pg_name (i := 3) nd rfl (Or.inl rfl)) (fun _ _ _ _ _ => pts_one (pt_cmpR op_nn (pv 3) pe_non (nomark _))) (fun _ _ _ _ _ => pv 3)))), ?_⟩
    refine ⟨_, rfl, a, rfl, ⟨_, ha⟩, fun D hD => lcD_list (fun p : Pr => some (metP one p)) encP encO ps tupD_pr tupD_o hD ha hx hlen ?_ ?_⟩
    · intro x p H1 Y N hp hS hx hY hN
      refine ⟨rfl, ?_⟩
      show if true = true then _ else N H1
      exact iteT ⟨_, rfl, _, rfl, _, _, one, p, rfl, Dp.same hS hy, hx, fun v H' s' hv => hY _ _ _ rfl s' (dp_o hv)⟩
    · intro H2 fs s2 hD2 hd2
      refine ⟨_, rfl, D, rfl, ⟨_, SqL.of hD2⟩, fun D2 hDn => lcD_list (fun p : Option Pr => p) encO encP (ps.filterMap fun p => some (metP one p)) tupD_o tupD_pr hDn (SqL.of hD2) hd2 (by simpa using hlen) ?_ ?_⟩
      · intro x p H1 Y N hp hS hx hY hN
        refine ⟨rfl, _, rfl, rfl, _, rfl, ?_⟩
        cases p with
        | none =>
          cases dp_non hx
          exact iteF (hN _ rfl (Same.refl _))
        | some p =>
          obtain ⟨b, rfl, hb⟩ := dp_prv hx
          exact iteT ⟨_, rfl, hY _ p _ rfl (Same.refl _) hx⟩
      · intro H3 gs s3 hD3 hd3
        refine q D2 gs H3 (s2.trans s3) (none_back s2 hDn) hD3 ?_
        have e : ((ps.filterMap fun p => some (metP one p)).filterMap fun p => p) = metAny ps one := by
          rw [List.filterMap_filterMap]
          rfl
        rw [e] at hd3
        exact hd3
/-! ## gaps_in -/
def spGaps (K : PySem.W.Frag) : Sp := fun vs H Q _ => ∃ a xs ps, vs = [.ref a] ∧ SqL K H a xs ∧ DpAll K H xs (encPs ps) ∧ ps.length ≤ 1000000 ∧ RetL K H Q (encPs (gapsIn ps))
abbrev sGaps : Stmt := top 20
abbrev nGaps : List Str := ["pairs", "found", "low", "is_open", "begin", "end"]
theorem scGaps : FnScope nGaps ["pairs"] (defScope sGaps) := ⟨rfl, rfl, rfl, by decide +kernel, rfl, by decide +kernel, by decide +kernel⟩
theorem gapRun_snoc (ps : List Pr) (p : Pr) : gapRun (ps ++ [p]) = gapStep (gapRun ps) p := by simp [gapRun, List.foldl_append]
theorem ok_gaps {f : Addr} {fd : FuncData} (F : Fun K "gaps_in" "gaps_in" sGaps f fd) : FnOk P w K mg base CX0 1 f fd ["pairs"] (spGaps K) := by
  refine F.ok scGaps (fun vs H Q E h => ?_) (fun cdv A outer s H vs Q E hr h => ?_)
  · obtain ⟨a, xs, ps, rfl, _⟩ := h
    rfl
  · obtain ⟨a, xs, ps, rfl, ha, hx, hlen, q⟩ := h
    have nd := scGaps.nd
    refine ⟨_, pss_cons (ps_set nd (i := 1) rfl (Or.inl rfl) (pe_lst pa_nil))
      (pss_cons (ps_asg (pe_tup (pa_cons pe_non (pa_cons pe_bl pa_nil))) (pg_tup rfl (pgs_cons (pg_name (i := 2) nd rfl (Or.inl rfl)) (pgs_cons (pg_name (i := 3) nd rfl (Or.inl rfl)) pgs_nil))))
      (pss_cons (ps_for PassesOwn.never rfl (pi_list (pv 0)) (pg_tup rfl (pgs_cons (pg_name (i := 4) nd rfl (Or.inl rfl)) (pgs_cons (pg_name (i := 5) nd rfl (Or.inl rfl)) pgs_nil)))
        (pss_cons (ps_if (pt_cmpR op_notN (pv 4) pe_non (nomark _)) (pss_one (ps_expr (pe_appendL (pv 1) (pe_tup (pa_cons (pv 2) (pa_cons (pe_op op_sub (pv 4) pe_int) pa_nil)))))) pss_nil)
        (pss_cons (ps_set nd (i := 3) rfl (Or.inl rfl) (pe_cmpR op_notN (pv 5) pe_non (nomark _)))
        (pss_one (ps_set nd (i := 2) rfl (Or.inl rfl) (pe_ifExp (pt_val (pv 3)) (pe_op op_add (pv 5) pe_int) pe_non))))))
      (pss_one (ps_ret (pe_ifExp (pt_val (pv 3)) (pe_lst (StX.pa_star (pv 1) (pa_cons (pe_tup (pa_cons (pv 2) (pa_cons pe_non pa_nil))) pa_nil))) (pv 1)))))), ?_⟩
    refine ⟨Nat.zero_le _, fun F hF => ?_⟩
    have s0 : Same H (upd H F (.lst [])) := same_upd hF
    refine ⟨two_sz, fun T0 hT0 => ⟨T0, _, rfl, SqT.of upd_same, rfl, _, _, rfl, _, _, rfl, rfl, ?_⟩⟩
    have s1 : Same H (upd (upd H F (.lst [])) T0 (.tup [.non, .bl true])) := same_new s0 hT0
    have hF1 : upd (upd H F (.lst [])) T0 (.tup [.non, .bl true]) F = some (.lst []) := by rw [upd_ne (ne_of_none upd_same hT0)]; exact upd_same
    refine ⟨_, rfl, a, rfl, ⟨xs, ha.ext s1⟩, for_list (xs := xs) (fun i σ H' => ∃ b e fs, σ = [some (.ref a), some (.ref F), some (endV (gapRun (ps.take i)).low), some (.bl (gapRun (ps.take i)).op), b, e] ∧ Same H H' ∧ H' F = some (.lst fs) ∧
      DpAll K H' xs (encPs ps) ∧ DpAll K H' fs (encPs (gapRun (ps.take i)).found) ∧ fs.length ≤ i) ?_ ?_ ?_ ?_⟩
    · exact ⟨_, _, [], rfl, s1, hF1, DpAll.same s1 hx, .nil, Nat.le_refl _⟩
    · rintro i σ H' _ ⟨b, e, fs, rfl, h2, _⟩
      exact ha.ext h2
    · rintro i x σ H' hxi ⟨b, e, fs, rfl, h2, h3, h5, h6, h7⟩
      obtain ⟨d, hd1, hd2⟩ := DpAll.get h5 hxi
      rw [encPs, List.getElem?_map] at hd1
      cases hp : ps[i]? with
      | none => rw [hp] at hd1; cases hd1
      | some p =>
        rw [hp] at hd1
        cases hd1
        have hil : i < ps.length := (List.getElem?_eq_some_iff.mp hp).1
        have et : ps.take (i + 1) = ps.take i ++ [p] := by
          rw [List.take_add_one, hp]
          rfl
        obtain ⟨c, rfl, hc⟩ := dp_prv hd2
        obtain ⟨g, hg⟩ : ∃ g, g = gapRun (ps.take i) := ⟨_, rfl⟩
        rw [et, gapRun_snoc, ← hg]
        rw [← hg] at h6
        obtain ⟨p1, p2⟩ := p
        refine ⟨c, _, rfl, hc, rfl, _, _, rfl, _, _, rfl, rfl, _, rfl, rfl, _, rfl, ?_⟩
        cases p1 with
        | none =>
          refine iteF ?_
          cases p2 with
          | none => exact ⟨_, rfl, rfl, _, rfl, _, rfl, iteF ⟨_, _, _, rfl, h2, h3, h5, h6, by omega⟩⟩
          | some j => exact ⟨_, rfl, rfl, _, rfl, _, rfl, iteT ⟨_, rfl, _, _, rfl, rfl, _, _, _, rfl, h2, h3, h5, h6, by omega⟩⟩
        | some l =>
          refine iteT ⟨_, rfl, tyV_lst h3, _, rfl, _, rfl, _, _, rfl, rfl, two_sz, fun T hT => ?_⟩
          have hFT : F ≠ T := ne_of_none h3 hT
          have h3t : upd H' T (.tup [endV g.low, .int (l - 1)]) F = some (.lst fs) := by rw [upd_ne hFT]; exact h3
          have h6t : DpAll K (upd (upd H' T (.tup [endV g.low, .int (l - 1)])) F (.lst (fs ++ [.ref T]))) (fs ++ [.ref T]) (encPs (g.found ++ [(g.low, some (l - 1))])) := by
            rw [show encPs (g.found ++ [(g.low, some (l - 1))]) = encPs g.found ++ [encP (g.low, some (l - 1))] by simp [encPs]]
            exact DpAll.app (dps_updL h3t (tupDs_prs _) (DpAll.same (same_upd hT) h6)) (DpAll.one (dp_pr_new (p := (g.low, some (l - 1))) (by rw [upd_ne hFT.symm]; exact upd_same)))
          have h5t := dps_updL (ys := fs ++ [.ref T]) h3t (tupDs_prs ps) (DpAll.same (same_upd hT) h5)
          have h2t : Same H (upd (upd H' T (.tup [endV g.low, .int (l - 1)])) F (.lst (fs ++ [.ref T]))) := same_own (same_new h2 hT) hF
          refine ⟨F, fs, _, rfl, rfl, h3t, szl (by omega), ?_⟩
          cases p2 with
          | none => exact ⟨_, rfl, rfl, _, rfl, _, rfl, iteF ⟨_, _, _, rfl, h2t, upd_same, h5t, h6t, by simp; omega⟩⟩
          | some j => exact ⟨_, rfl, rfl, _, rfl, _, rfl, iteT ⟨_, rfl, _, _, rfl, rfl, _, _, _, rfl, h2t, upd_same, h5t, h6t, by simp; omega⟩⟩
    · rintro σ H' ⟨b, e, fs, rfl, h2, h3, h5, h6, h7⟩
      have exl : xs.length = ps.length := by rw [DpAll.len hx, encPs, List.length_map]
      rw [exl, List.take_length] at h6 ⊢
      obtain ⟨g, hg⟩ : ∃ g, g = gapRun ps := ⟨_, rfl⟩
      rw [← hg] at h6 ⊢
      refine ⟨_, rfl, _, rfl, ?_⟩
      unfold gapsIn at q
      rw [← hg] at q
      cases ho : g.op with
      | true =>
        rw [ho] at q
        refine iteT ⟨_, rfl, F, fs, rfl, .inr (SqL.of h3), _, rfl, two_sz, fun T hT => ?_⟩
        refine ⟨?_, fun D hD => q D _ _ (same_new (h2.trans (same_upd hT)) hD) (none_back (h2.trans (same_upd hT)) hD) upd_same ?_⟩
        · simp
          have := szl (n := fs.length + 1) (by omega)
          omega
        · rw [if_pos rfl, show encPs (g.found ++ [(g.low, none)]) = encPs g.found ++ [encP (g.low, none)] by simp [encPs]]
          refine DpAll.app (DpAll.same (same_upd hD) (DpAll.same (same_upd hT) h6)) (DpAll.one ?_)
          exact dp_pr_new (p := (g.low, none)) (by rw [upd_ne (ne_of_none upd_same hD)]; exact upd_same)
      | false =>
        rw [ho] at q
        exact iteF ⟨_, rfl, q F fs H' h2 hF h3 h6⟩
end
end RA
end

section
set_option Elab.async false
set_option linter.all false
set_option autoImplicit false
set_option maxRecDepth 100000
set_option maxHeartbeats 4000000
namespace RA
open PySem PySem.Spec PyProof.Rows L2
section
variable {P : Program} {w : World} {K : PySem.W.Frag} {mg : Str → Option Value} {base : Heap} {C : Addr}
theorem sqt_updI {H : Hp} {F a C dx : Addr} {fs gs : List (Str × V)} {xs : List V} (hF : H F = some (.ins C dx fs)) (h : SqT K H a xs) : SqT K (upd H F (.ins C dx gs)) a xs := by
  rcases h with (h | ⟨o, h⟩) | h
  · refine .inl (.inl ?_)
    rw [upd_ne (by rintro rfl; rw [hF] at h; cases h)]
    exact h
  · refine .inl (.inr ⟨o, ?_⟩)
    rw [upd_ne (by rintro rfl; rw [hF] at h; cases h)]
    exact h
  · exact .inr h
theorem tupD_bool (i : Bool) : tupD (.bool i) = true := by simp [tupD]
/-! ## Spans.__init__ -/
def spInit (K : PySem.W.Frag) (C : Addr) : Sp := fun vs H Q _ => ∃ x a dx xs ps, vs = [.ref x, .ref a] ∧ H x = some (.ins C dx []) ∧ Sq K H a xs ∧ DpAll K H xs (encPs ps) ∧ (∀ p ∈ ps, vld p = true) ∧ ps.length ≤ 1000000 ∧
  ∀ H' l ys, (∀ b o, b ≠ x → H b = some o → H' b = some o) → H' x = some (.ins C dx [("its_pairs", .ref l)]) → H' l = some (.lst ys) → DpAll K H' ys (encPs (merged ps)) → H l = Option.none → Q .non H'
abbrev sInit : Stmt := inClass (top 18) 0
abbrev nInit : List Str := ["self", "pairs", "pair"]
theorem scInit : FnScope nInit ["self", "pairs"] (defScope sInit) := ⟨rfl, rfl, rfl, by decide +kernel, rfl, by decide +kernel, by decide +kernel⟩
theorem ok_init {f : Addr} {fd : FuncData} (F : Fun K "__init__" "Spans.__init__" sInit f fd) (B : Bi mg) (cl : Cls K C) (nF : NoAttr K C "its_pairs") (Fp : Fd P w K mg base "is_pair" 3 ["thing"] (spIsPair K)) (Fm : Fd P w K mg base "merged" 4 ["pairs"] (spMerged K)) :
    FnOk P w K mg base CX0 5 f fd ["self", "pairs"] (spInit K C) := by
  refine F.ok scInit (fun vs H Q E h => ?_) (fun cdv A outer s H vs Q E hr h => ?_)
  · obtain ⟨x, a, dx, xs, ps, rfl, _⟩ := h
    rfl
  · obtain ⟨x, a, dx, xs, ps, rfl, hx0, ha, hx, hv, hlen, q⟩ := h
    have nd := scInit.nd
    rcases ha with ha | ha
    · refine ⟨_, pss_cons (ps_if (PW.pt (pw_or (pt_not (pt_val (pe_callB call_isiT (by rfl) B.isi bt_isi (pa_cons (pv 1) (pa_cons (pe_tup (pa_cons (pe_ty B.lst_ bt_lst) (pa_cons (pe_ty B.tup_ bt_tup) pa_nil))) pa_nil)))))
          (pw_or1 (pt_not (pt_val (pe_callB (cr_all rfl) (by rfl) B.all_ bt_all (pa_cons (pe_lc (own := [("pair", 2)]) (g := gName 2) (tt := tYes) (te := tCall (spIsPair K) [] E0 (tCons (tVar 2) tNil)) rfl nd (pi_list (pv 1)) (blkOk_by (N := nInit) (sc := defScope sInit) (by decide +kernel))
            (fun _ _ _ _ _ => pg_name (i := 2) nd rfl (Or.inl rfl)) (fun _ _ _ _ _ => pts_nil) (fun _ _ _ _ _ => pe_f Fp (hr.mono (by decide)) (pa_cons (pv 2) pa_nil))) pa_nil)))))))
          pss_never pss_nil)
        (pss_one (ps_fld (pv 0) (pe_f Fm hr (pa_cons (pv 1) pa_nil)) rfl)), ?_⟩
      refine ⟨_, rfl, two_sz, fun T hT => ?_⟩
      have s1 : Same H (upd H T (.tup [.ty "list", .ty "tuple"])) := same_upd hT
      refine ⟨.ref a, T, [.ty "list", .ty "tuple"], _, [.type "list", .type "tuple"], true, rfl, upd_same, .cons (.ty _) (.cons (.ty _) .nil), tyx_lst (ha.ext s1), kitAny_cons (kit_ll K) (fun z => by cases z) (fun _ => rfl), true, rfl, ?_⟩
      refine iteF ⟨_, rfl, a, rfl, ⟨xs, ha.ext s1⟩, fun D hD => lcD_list (fun p : Pr => some true) encP PyData.bool ps tupD_pr tupD_bool hD (ha.ext s1) (DpAll.same s1 hx) hlen ?_ ?_⟩
      · intro y p H1 Y N hp hS hy hY hN
        refine ⟨rfl, ?_⟩
        show if true = true then _ else N H1
        exact iteT ⟨_, rfl, y, p, rfl, hy, by rw [hv p hp]; exact hY _ true _ rfl (Same.refl _) (.bl true)⟩
      · intro H2 bs s2 hD2 hd2
        have eb := dps_bls hd2
        subst eb
        refine ⟨D, _, rfl, SqL.of hD2, true, by rw [show ((ps.filterMap fun p : Pr => some true).all id) = true by simp], ?_⟩
        refine iteF ?_
        have s3 := s1.trans s2
        refine ⟨_, rfl, a, xs, ps, rfl, Or.inl (ha.ext s3), DpAll.same s3 hx, hlen, fun l ys H3 s4 hl0 hl hd => ?_⟩
        have hx3 : H3 x = some (.ins C dx []) := s4 _ _ (s3 _ _ hx0)
        refine ⟨_, rfl, x, C, dx, [], rfl, hx3, cl, nF, by decide, ?_⟩
        have hxl : x ≠ l := ne_of_none (s3 _ _ hx0) hl0
        refine q _ l ys (fun b o hb e => by rw [upd_ne hb]; exact s4 _ _ (s3 _ _ e)) upd_same (by rw [upd_ne hxl.symm]; exact hl) (DpAll.keepT (fun _ _ z => sqt_updI hx3 z) _ _ (tupDs_prs _) hd) (none_back s3 hl0)
    · refine ⟨_, pss_cons (ps_if (PW.pt (pw_or (pt_not (pt_val (pe_callB call_isiT (by rfl) B.isi bt_isi (pa_cons (pv 1) (pa_cons (pe_tup (pa_cons (pe_ty B.lst_ bt_lst) (pa_cons (pe_ty B.tup_ bt_tup) pa_nil))) pa_nil)))))
          (pw_or1 (pt_not (pt_val (pe_callB (cr_all rfl) (by rfl) B.all_ bt_all (pa_cons (pe_lc (own := [("pair", 2)]) (g := gName 2) (tt := tYes) (te := tCall (spIsPair K) [] E0 (tCons (tVar 2) tNil)) rfl nd (pi_tup (pv 1)) (blkOk_by (N := nInit) (sc := defScope sInit) (by decide +kernel))
            (fun _ _ _ _ _ => pg_name (i := 2) nd rfl (Or.inl rfl)) (fun _ _ _ _ _ => pts_nil) (fun _ _ _ _ _ => pe_f Fp (hr.mono (by decide)) (pa_cons (pv 2) pa_nil))) pa_nil)))))))
          pss_never pss_nil)
        (pss_one (ps_fld (pv 0) (pe_f Fm hr (pa_cons (pv 1) pa_nil)) rfl)), ?_⟩
      refine ⟨_, rfl, two_sz, fun T hT => ?_⟩
      have s1 : Same H (upd H T (.tup [.ty "list", .ty "tuple"])) := same_upd hT
      refine ⟨.ref a, T, [.ty "list", .ty "tuple"], _, [.type "list", .type "tuple"], true, rfl, upd_same, .cons (.ty _) (.cons (.ty _) .nil), tyx_tup (ha.ext s1), kitAny_cons (kit_tl K) (fun _ => kitAny_cons (kit_tt K) (fun z => by cases z) (fun _ => rfl)) (fun z => by cases z), true, rfl, ?_⟩
      refine iteF ⟨_, rfl, a, rfl, ⟨xs, ha.ext s1⟩, fun D hD => lcD_tup (fun p : Pr => some true) encP PyData.bool ps tupD_pr tupD_bool hD (ha.ext s1) (DpAll.same s1 hx) hlen ?_ ?_⟩
      · intro y p H1 Y N hp hS hy hY hN
        refine ⟨rfl, ?_⟩
        show if true = true then _ else N H1
        exact iteT ⟨_, rfl, y, p, rfl, hy, by rw [hv p hp]; exact hY _ true _ rfl (Same.refl _) (.bl true)⟩
      · intro H2 bs s2 hD2 hd2
        have eb := dps_bls hd2
        subst eb
        refine ⟨D, _, rfl, SqL.of hD2, true, by rw [show ((ps.filterMap fun p : Pr => some true).all id) = true by simp], ?_⟩
        refine iteF ?_
        have s3 := s1.trans s2
        refine ⟨_, rfl, a, xs, ps, rfl, Or.inr (ha.ext s3), DpAll.same s3 hx, hlen, fun l ys H3 s4 hl0 hl hd => ?_⟩
        have hx3 : H3 x = some (.ins C dx []) := s4 _ _ (s3 _ _ hx0)
        refine ⟨_, rfl, x, C, dx, [], rfl, hx3, cl, nF, by decide, ?_⟩
        have hxl : x ≠ l := ne_of_none (s3 _ _ hx0) hl0
        refine q _ l ys (fun b o hb e => by rw [upd_ne hb]; exact s4 _ _ (s3 _ _ e)) upd_same (by rw [upd_ne hxl.symm]; exact hl) (DpAll.keepT (fun _ _ z => sqt_updI hx3 z) _ _ (tupDs_prs _) hd) (none_back s3 hl0)
/-! ## Spans(e) -/
/-- the class, ready to be called -/
def SpMk (P : Program) (w : World) (K : PySem.W.Frag) (mg : Str → Option Value) (base : Heap) (C : Addr) : Prop :=
  mg "Spans" = some (.ref C) ∧ Cls K C ∧ NoAttr K C "its_pairs" ∧ ∃ fI fd, Mk K C fI ∧ Binds K fd ["self", "pairs"] [] ∧ FnOk P w K mg base CX0 5 fI fd ["self", "pairs"] (spInit K C)
theorem pe_weak {X : Cx} {e : Expr} {t u : TE} (h : PE X e t) (hw : ∀ σ H Q, u σ H Q → t σ H Q) : PE X e u := ⟨fun pins s σ H Q I q => h.run pins s σ H Q I (hw _ _ _ q)⟩
def tSpans (K : PySem.W.Frag) (C : Addr) (te : TE) : TE := fun σ H Q => te σ H fun x H1 => ∃ a xs ps, x = .ref a ∧ Sq K H1 a xs ∧ DpAll K H1 xs (encPs ps) ∧ (∀ p ∈ ps, vld p = true) ∧ ps.length ≤ 1000000 ∧ RetS K C H1 Q (merged ps)
/-- a Spans whose list is new -/
def SpNw (K : PySem.W.Frag) (C : Addr) (H0 H : Hp) (a : Addr) (ps : List Pr) : Prop := ∃ dx l xs, H a = some (.ins C dx [("its_pairs", .ref l)]) ∧ H l = some (.lst xs) ∧ DpAll K H xs (encPs ps) ∧ H0 l = Option.none
def RetN (K : PySem.W.Frag) (C : Addr) (H : Hp) (Q : VK) (ps : List Pr) : Prop := ∀ a H', Same H H' → SpNw K C H H' a ps → Q (.ref a) H'
theorem SpNw.at {H0 H : Hp} {a : Addr} {ps : List Pr} (h : SpNw K C H0 H a ps) : SpAt K C H a ps := by
  obtain ⟨dx, l, xs, h1, h2, h3, _⟩ := h
  exact ⟨dx, l, xs, h1, h2, h3⟩
theorem SpNw.back {H0 H1 H : Hp} {a : Addr} {ps : List Pr} (s : Same H0 H1) (h : SpNw K C H1 H a ps) : SpNw K C H0 H a ps := by
  obtain ⟨dx, l, xs, h1, h2, h3, h4⟩ := h
  exact ⟨dx, l, xs, h1, h2, h3, none_back s h4⟩
def tSpansN (K : PySem.W.Frag) (C : Addr) (te : TE) : TE := fun σ H Q => te σ H fun x H1 => ∃ a xs ps, x = .ref a ∧ Sq K H1 a xs ∧ DpAll K H1 xs (encPs ps) ∧ (∀ p ∈ ps, vld p = true) ∧ ps.length ≤ 1000000 ∧ RetN K C H1 Q (merged ps)
theorem pe_spansN {X : Cx} {e : Expr} {te : TE} {p pos : Pos} (S : SpMk X.prog X.w X.K X.mg X.base C) (hr : Room 6 X.A) (he : PE X e te) (hg : Gl X "Spans" := by rfl)
    (hst : starEach [e] X.env = (false, eval e X.env) :: starEach [] X.env := by rfl) (hpl : (backTo pos (starEach [] X.env)).any (·.1) = false := by rfl) : PE X (.Call (.Name "Spans" p) [e] [] pos) (tSpansN X.K C te) := by
  obtain ⟨hm, cl, nF, fI, fd, M, hb, hF⟩ := S
  refine pe_weak (pe_make M hF hr hg hm hb .nil pass0 (pa_cons (pe_mono he) pa_nil hst) (by decide) hst hpl) fun σ H Q h => ?_
  refine ⟨_, h, fun v H1 hq => ?_⟩
  obtain ⟨a, xs, ps, rfl, ha, hx, hv, hlen, q⟩ := hq
  intro x dx hx0 hdx hne
  have s1 : Same H1 (upd (upd H1 dx (.own x)) x (.ins C dx [])) := same_new (same_upd hdx) (by rw [upd_ne hne.symm]; exact hx0)
  refine ⟨x, a, dx, xs, ps, rfl, upd_same, ha.imp (fun z => z.ext s1) (fun z => z.ext s1), DpAll.same s1 hx, hv, hlen, fun H' l ys hk hx' hl' hd' hl0 => ⟨rfl, q x H' (fun b o e => ?_) ⟨dx, l, ys, hx', hl', hd', none_back s1 hl0⟩⟩⟩
  have hbx : b ≠ x := ne_of_none e hx0
  exact hk b o hbx (s1 _ _ e)
theorem pe_spans {X : Cx} {e : Expr} {te : TE} {p pos : Pos} (S : SpMk X.prog X.w X.K X.mg X.base C) (hr : Room 6 X.A) (he : PE X e te) (hg : Gl X "Spans" := by rfl)
    (hst : starEach [e] X.env = (false, eval e X.env) :: starEach [] X.env := by rfl) (hpl : (backTo pos (starEach [] X.env)).any (·.1) = false := by rfl) : PE X (.Call (.Name "Spans" p) [e] [] pos) (tSpans X.K C te) := by
  refine pe_weak (pe_spansN S hr (pe_mono he) hg hst hpl) fun σ H Q h => ⟨_, h, fun v H1 hq => ?_⟩
  obtain ⟨a, xs, ps, rfl, ha, hx, hv, hlen, q⟩ := hq
  exact ⟨a, xs, ps, rfl, ha, hx, hv, hlen, fun b H' s' hs => q b H' s' hs.at⟩
/-! ## the short methods -/
def spLen (K : PySem.W.Frag) (C : Addr) : Sp := fun vs H Q _ => ∃ a ps, vs = [.ref a] ∧ SpAt K C H a ps ∧ Q (.int ps.length) H
abbrev sLen : Stmt := inClass (top 18) 7
theorem scLen : FnScope ["self"] ["self"] (defScope sLen) := ⟨rfl, rfl, rfl, by decide +kernel, rfl, by decide +kernel, by decide +kernel⟩
theorem ok_len {f : Addr} {fd : FuncData} (F : Fun K "__len__" "Spans.__len__" sLen f fd) (B : Bi mg) (cl : Cls K C) (nF : NoAttr K C "its_pairs") : FnOk P w K mg base CX0 1 f fd ["self"] (spLen K C) := by
  refine F.ok scLen (fun vs H Q E h => ?_) (fun cdv A outer s H vs Q E hr h => ?_)
  · obtain ⟨a, ps, rfl, _⟩ := h
    rfl
  · obtain ⟨a, ps, rfl, ⟨dx, l, xs, h1, h2, h3⟩, q⟩ := h
    refine ⟨_, pss_one (ps_ret (pe_callB call_len_seq (by rfl) B.len_ bt_len (pa_cons (pe_fld (pv 0) rfl) pa_nil))), ?_⟩
    refine ⟨_, rfl, a, C, dx, _, _, rfl, h1, cl, nF, rfl, l, xs, rfl, .inl (SqL.of h2), ?_⟩
    rw [DpAll.len h3, encPs, List.length_map]
    exact q
def spPairs (K : PySem.W.Frag) (C : Addr) : Sp := fun vs H Q _ => ∃ a ps, vs = [.ref a] ∧ SpAt K C H a ps ∧ RetL K H Q (encPs ps)
abbrev sPairs : Stmt := inClass (top 18) 1
theorem scPairs : FnScope ["self"] ["self"] (defScope sPairs) := ⟨rfl, rfl, rfl, by decide +kernel, rfl, by decide +kernel, by decide +kernel⟩
theorem ok_pairs {f : Addr} {fd : FuncData} (F : Fun K "pairs" "Spans.pairs" sPairs f fd) (B : Bi mg) (cl : Cls K C) (nF : NoAttr K C "its_pairs") : FnOk P w K mg base CX0 1 f fd ["self"] (spPairs K C) := by
  refine F.ok scPairs (fun vs H Q E h => ?_) (fun cdv A outer s H vs Q E hr h => ?_)
  · obtain ⟨a, ps, rfl, _⟩ := h
    rfl
  · obtain ⟨a, ps, rfl, ⟨dx, l, xs, h1, h2, h3⟩, q⟩ := h
    refine ⟨_, pss_one (ps_ret (pe_callTy call_list_of (by rfl) B.lst_ bt_lst (pa_cons (pe_fld (pv 0) rfl) pa_nil))), ?_⟩
    exact ⟨_, rfl, a, C, dx, _, _, rfl, h1, cl, nF, rfl, l, xs, rfl, .inl (SqL.of h2), fun p hp => q p xs _ (same_upd hp) hp upd_same (DpAll.same (same_upd hp) h3)⟩
abbrev sIter : Stmt := inClass (top 18) 6
theorem scIter : FnScope ["self"] ["self"] (defScope sIter) := ⟨rfl, rfl, rfl, by decide +kernel, rfl, by decide +kernel, by decide +kernel⟩
theorem ok_iter {f : Addr} {fd : FuncData} (F : Fun K "__iter__" "Spans.__iter__" sIter f fd) (B : Bi mg) (cl : Cls K C) (nF : NoAttr K C "its_pairs") : FnAt P w K mg base 1 f fd ["self"] (spIter K C "its_pairs") := by
  refine fnAt_of F scIter (fun A n vs H Q h => ?_) (fun cdv A outer s H vs Q hr h => ?_)
  · obtain ⟨a, dx, l, fs, xs, rfl, _⟩ := h
    rfl
  · obtain ⟨a, dx, l, fs, xs, rfl, h1, h2, h3, q⟩ := h
    refine ⟨_, pss_one (ps_ret (pe_callB ItX.call_iterN (by rfl) B.itr_ bt_itr (pa_cons (pe_fld (pv 0) rfl) pa_nil))), ?_⟩
    refine ⟨_, rfl, a, C, dx, _, _, rfl, h1, cl, nF, h2, l, xs, rfl, h3, q⟩
def spIn (K : PySem.W.Frag) (C : Addr) : Sp := fun vs H Q _ => ∃ a ps n, vs = [.ref a, .int n] ∧ SpAt K C H a ps ∧ ps.length ≤ 1000000 ∧ (∀ H', Same H H' → Q (.bl (inSp n ps)) H')
abbrev sIn : Stmt := inClass (top 18) 8
theorem scIn : FnScope ["self", "number"] ["self", "number"] (defScope sIn) := ⟨rfl, rfl, rfl, by decide +kernel, rfl, by decide +kernel, by decide +kernel⟩
theorem ok_in {f : Addr} {fd : FuncData} (F : Fun K "__contains__" "Spans.__contains__" sIn f fd) (cl : Cls K C) (nF : NoAttr K C "its_pairs") (Fa : Fd P w K mg base "met_any" 5 ["pairs", "one"] (spMetAny K)) : FnOk P w K mg base CX0 6 f fd ["self", "number"] (spIn K C) := by
  refine F.ok scIn (fun vs H Q E h => ?_) (fun cdv A outer s H vs Q E hr h => ?_)
  · obtain ⟨a, ps, n, rfl, _⟩ := h
    rfl
  · obtain ⟨a, ps, n, rfl, ⟨dx, l, xs, h1, h2, h3⟩, hlen, q⟩ := h
    have hu := hu1 hr
    refine ⟨_, pss_one (ps_ret (pe_cmpR (op_neD hu) (pe_f Fa hr (pa_cons (pe_fld (pv 0) rfl) (pa_cons (pe_tup (pa_cons (pv 1) (pa_cons (pv 1) pa_nil))) pa_nil))) (pe_lst pa_nil) (nomark _))), ?_⟩
    refine ⟨_, rfl, a, C, dx, _, _, rfl, h1, cl, nF, rfl, _, rfl, _, rfl, two_sz, fun T hT => ?_⟩
    have s1 : Same H (upd H T (.tup [.int n, .int n])) := same_upd hT
    refine ⟨l, xs, _, ps, dot n, rfl, SqL.of (s1 _ _ h2), DpAll.same s1 h3, hlen, dp_pr_new (p := dot n) upd_same, fun p ys H' s2 hp0 hp hd => ⟨Nat.zero_le _, fun Z hZ => ?_⟩⟩
    refine ⟨.list (encPs (metAny ps (dot n))), .list [], .lst (SqL.of (same_upd hZ _ _ hp)) (DpAll.same (same_upd hZ) hd), .lst (SqL.of upd_same) .nil, (shp_lst (shp_prs (n := 0) _)).shaped, (shp_lst (n := 0) (by intro d hd; cases hd)).shaped, ?_⟩
    rw [eqv_lnil, show (encPs (metAny ps (dot n))).isEmpty = (metAny ps (dot n)).isEmpty by cases metAny ps (dot n) <;> rfl]
    exact q _ (same_new (s1.trans s2) hZ)
def spBin (K : PySem.W.Frag) (C : Addr) (g : List Pr → List Pr → List Pr) : Sp := fun vs H Q _ => ∃ a b ps qs, vs = [.ref a, .ref b] ∧ SpAt K C H a ps ∧ SpAt K C H b qs ∧ (∀ p ∈ ps, vld p = true) ∧ (∀ p ∈ qs, vld p = true) ∧ ps.length ≤ 1000 ∧ qs.length ≤ 1000 ∧ RetS K C H Q (g ps qs)
abbrev sOr : Stmt := inClass (top 18) 9
theorem scOr : FnScope ["self", "other"] ["self", "other"] (defScope sOr) := ⟨rfl, rfl, rfl, by decide +kernel, rfl, by decide +kernel, by decide +kernel⟩
theorem ok_or {f : Addr} {fd : FuncData} (F : Fun K "__or__" "Spans.__or__" sOr f fd) (S : SpMk P w K mg base C) : FnOk P w K mg base CX0 7 f fd ["self", "other"] (spBin K C spU) := by
  refine F.ok scOr (fun vs H Q E h => ?_) (fun cdv A outer s H vs Q E hr h => ?_)
  · obtain ⟨a, b, ps, qs, rfl, _⟩ := h
    rfl
  · obtain ⟨a, b, ps, qs, rfl, ⟨dx, l, xs, h1, h2, h3⟩, ⟨dy, m, ys, g1, g2, g3⟩, hv, hw, hlen, hlen2, q⟩ := h
    have cl := S.2.1
    have nF := S.2.2.1
    refine ⟨_, pss_one (ps_ret (pe_spans S hr (pe_op op_cat (pe_fld (pv 0) rfl) (pe_fld (pv 1) rfl)))), ?_⟩
    refine ⟨_, rfl, a, C, dx, _, _, rfl, h1, cl, nF, rfl, _, rfl, b, C, dy, _, _, rfl, g1, cl, nF, rfl, ?_⟩
    refine ⟨l, m, xs, ys, rfl, rfl, h2, g2, ?_, fun p hp => ?_⟩
    · rw [DpAll.len h3, DpAll.len g3, encPs, encPs, List.length_map, List.length_map]
      exact Nat.le_of_lt (szl (by omega))
    · refine ⟨p, xs ++ ys, ps ++ qs, rfl, .inl (SqL.of upd_same), ?_, ?_, by rw [List.length_append]; omega, fun a H' s' hs => q a H' ((same_upd hp).trans s') hs⟩
      · rw [show encPs (ps ++ qs) = encPs ps ++ encPs qs by simp [encPs]]
        exact DpAll.same (same_upd hp) (DpAll.app h3 g3)
      · intro r hr
        rcases List.mem_append.mp hr with hr | hr
        · exact hv _ hr
        · exact hw _ hr
theorem vld_metAny (ps : List Pr) (one : Pr) : ∀ p ∈ metAny ps one, vld p = true := by
  intro p hp
  obtain ⟨q, _, hq⟩ := List.mem_filterMap.mp hp
  unfold metP at hq
  split at hq
  · next h => cases hq; exact h
  · cases hq
theorem vld_inter (a b : List Pr) : ∀ p ∈ inter a b, vld p = true := by
  intro p hp
  obtain ⟨q, _, hq⟩ := List.mem_flatMap.mp hp
  exact vld_metAny _ _ p hq
theorem inter_len (a b : List Pr) : (inter a b).length ≤ a.length * b.length := by
  induction a with
  | nil => simp [inter]
  | cons x a ih =>
    have h1 : (metAny b x).length ≤ b.length := List.length_filterMap_le _ _
    have h2 : (inter (x :: a) b).length = (metAny b x).length + (inter a b).length := by simp [inter]
    rw [h2, List.length_cons, Nat.add_mul]
    omega
abbrev sInv : Stmt := inClass (top 18) 11
theorem scInv : FnScope ["self"] ["self"] (defScope sInv) := ⟨rfl, rfl, rfl, by decide +kernel, rfl, by decide +kernel, by decide +kernel⟩
def spInv (K : PySem.W.Frag) (C : Addr) : Sp := fun vs H Q _ => ∃ a ps, vs = [.ref a] ∧ SpAt K C H a ps ∧ (∀ p ∈ gapsIn ps, vld p = true) ∧ ps.length ≤ 100000 ∧ RetS K C H Q (spN ps)
theorem gapRun_len : ∀ (ps : List Pr) (g : GapSt), (ps.foldl gapStep g).found.length ≤ g.found.length + ps.length
  | [], g => by simp
  | p :: ps, g => by
    have := gapRun_len ps (gapStep g p)
    rw [List.foldl_cons, List.length_cons]
    have h2 : (gapStep g p).found.length ≤ g.found.length + 1 := by
      unfold gapStep
      cases p.1 <;> simp
    omega
theorem gaps_len (ps : List Pr) : (gapsIn ps).length ≤ ps.length + 1 := by
  have h := gapRun_len ps ⟨[], none, true⟩
  have h' : (gapRun ps).found.length ≤ ps.length := by simpa [gapRun] using h
  unfold gapsIn
  split
  · simp; exact h'
  · omega
theorem ok_inv {f : Addr} {fd : FuncData} (F : Fun K "__invert__" "Spans.__invert__" sInv f fd) (S : SpMk P w K mg base C) (Fg : Fd P w K mg base "gaps_in" 1 ["pairs"] (spGaps K)) : FnOk P w K mg base CX0 7 f fd ["self"] (spInv K C) := by
  refine F.ok scInv (fun vs H Q E h => ?_) (fun cdv A outer s H vs Q E hr h => ?_)
  · obtain ⟨a, ps, rfl, _⟩ := h
    rfl
  · obtain ⟨a, ps, rfl, ⟨dx, l, xs, h1, h2, h3⟩, hv, hlen, q⟩ := h
    have cl := S.2.1
    have nF := S.2.2.1
    refine ⟨_, pss_one (ps_ret (pe_spans S hr (pe_f Fg (hr.mono (by decide)) (pa_cons (pe_fld (pv 0) rfl) pa_nil)))), ?_⟩
    exact ⟨_, rfl, a, C, dx, _, _, rfl, h1, cl, nF, rfl, l, xs, ps, rfl, SqL.of h2, h3, by omega, fun p ys H' s' hp0 hp hd => ⟨p, ys, gapsIn ps, rfl, .inl (SqL.of hp), hd, hv, by have := gaps_len ps; omega, fun b H2 s2 hs => q b H2 (s'.trans s2) hs⟩⟩
def spAndN (K : PySem.W.Frag) (C : Addr) : Sp := fun vs H Q _ => ∃ a b ps qs, vs = [.ref a, .ref b] ∧ SpAt K C H a ps ∧ SpAt K C H b qs ∧ (∀ p ∈ ps, vld p = true) ∧ (∀ p ∈ qs, vld p = true) ∧ ps.length ≤ 1000 ∧ qs.length ≤ 1000 ∧ RetN K C H Q (spI ps qs)
abbrev sAnd : Stmt := inClass (top 18) 10
abbrev nAnd : List Str := ["self", "other", "one", "pair"]
theorem scAnd : FnScope nAnd ["self", "other"] (defScope sAnd) := ⟨rfl, rfl, rfl, by decide +kernel, rfl, by decide +kernel, by decide +kernel⟩
theorem ok_and {f : Addr} {fd : FuncData} (F : Fun K "__and__" "Spans.__and__" sAnd f fd) (S : SpMk P w K mg base C) (Fa : Fd P w K mg base "met_any" 5 ["pairs", "one"] (spMetAny K)) : FnOk P w K mg base CX0 7 f fd ["self", "other"] (spAndN K C) := by
  refine F.ok scAnd (fun vs H Q E h => ?_) (fun cdv A outer s H vs Q E hr h => ?_)
  · obtain ⟨a, b, ps, qs, rfl, _⟩ := h
    rfl
  · obtain ⟨a, b, ps, qs, rfl, ⟨dx, l, xs, h1, h2, h3⟩, ⟨dy, m, ys, g1, g2, g3⟩, hv, hw, hlen, hlen2, q⟩ := h
    have cl := S.2.1
    have nF := S.2.2.1
    have nd := scAnd.nd
    refine ⟨_, pss_one (ps_ret (pe_spansN S hr (pe_lc2 (own := [("one", 2), ("pair", 3)]) (vs1 := [3]) (g := gName 2) (tt := tYes) (wi1 := iList K (tCall (spMetAny K) [] E0 (tCons (tFld K (tVar 1) "its_pairs") (tCons (tVar 2) tNil)))) (g1 := gName 3) (tt1 := tYes) (te := tVar 3) rfl nd (pi_list (pe_fld (pv 0) rfl)) (blkOk_by (N := nAnd) (sc := defScope sAnd) (by decide +kernel)) (by decide)
        (fun _ _ _ _ _ => pg_name (i := 2) nd rfl (Or.inl rfl)) (fun _ _ _ _ _ => pts_nil) (fun _ _ _ _ _ => pi_list (pe_f Fa (hr.mono (by decide)) (pa_cons (pe_fld (pv 1) rfl) (pa_cons (pv 2) pa_nil)))) (fun _ _ _ _ _ => pg_name (i := 3) nd rfl (Or.inl rfl)) (fun _ _ _ _ _ => pts_nil) (fun _ _ _ _ _ => pv 3)))), ?_⟩
    have exl : xs.length = ps.length := by rw [DpAll.len h3, encPs, List.length_map]
    refine ⟨_, rfl, a, C, dx, _, _, rfl, h1, cl, nF, rfl, l, rfl, ⟨xs, SqL.of h2⟩, fun D hD => ?_⟩
    refine turns_list (xs := xs) (fun i H' => Same H H' ∧ ∃ acc, H' D = some (.lst acc) ∧ acc.length ≤ i * 1000 ∧ DpAll K H' acc (encPs (inter (ps.take i) qs))) ?_ ?_ ?_ ?_
    · exact ⟨same_upd hD, [], upd_same, Nat.le_refl _, .nil⟩
    · rintro i H' ⟨s1, _⟩
      exact SqL.of (s1 _ _ h2)
    · rintro i x H' hxi ⟨s1, acc, ha1, ha2, ha3⟩
      obtain ⟨d, hd1, hd2⟩ := DpAll.get h3 hxi
      rw [encPs, List.getElem?_map] at hd1
      cases hp : ps[i]? with
      | none => rw [hp] at hd1; cases hd1
      | some p =>
        rw [hp] at hd1
        cases hd1
        have hil : i < ps.length := (List.getElem?_eq_some_iff.mp hp).1
        have et : inter (ps.take (i + 1)) qs = inter (ps.take i) qs ++ metAny qs p := by
          rw [List.take_add_one, hp]
          simp [inter]
        have hml : (metAny qs p).length ≤ 1000 := Nat.le_trans (List.length_filterMap_le _ _) hlen2
        refine ⟨rfl, ?_⟩
        refine ⟨_, rfl, b, C, dy, _, _, rfl, s1 _ _ g1, cl, nF, rfl, _, rfl, m, ys, x, qs, p, rfl, SqL.of (s1 _ _ g2), DpAll.same s1 g3, by omega, Dp.same s1 hd2, fun r zs H2 s2 hr0 hr1 hr2 => ?_⟩
        have hzl : zs.length = (metAny qs p).length := by rw [DpAll.len hr2, encPs, List.length_map]
        have hDr : D ≠ r := ne_of_none ha1 hr0
        refine ⟨r, rfl, ⟨zs, SqL.of hr1⟩, turns_list (xs := zs) (fun j H3 => Same H H3 ∧ H3 r = some (.lst zs) ∧ DpAll K H3 zs (encPs (metAny qs p)) ∧ ∃ bcc, H3 D = some (.lst bcc) ∧ bcc.length ≤ i * 1000 + j ∧ DpAll K H3 bcc (encPs (inter (ps.take i) qs ++ (metAny qs p).take j))) ?_ ?_ ?_ ?_⟩
        · exact ⟨s1.trans s2, hr1, hr2, acc, s2 _ _ ha1, by omega, by simpa using DpAll.same s2 ha3⟩
        · rintro j H3 ⟨_, k2, _⟩
          exact SqL.of k2
        · rintro j z H3 hzj ⟨k1, k2, k3, bcc, k4, k5, k6⟩
          obtain ⟨e, he1, he2⟩ := DpAll.get k3 hzj
          rw [encPs, List.getElem?_map] at he1
          cases hq : (metAny qs p)[j]? with
          | none => rw [hq] at he1; cases he1
          | some t =>
            rw [hq] at he1
            cases he1
            have hjl : j < (metAny qs p).length := (List.getElem?_eq_some_iff.mp hq).1
            have hps : i * 1000 + j ≤ 9999999 := by
              have : i * 1000 ≤ 999 * 1000 := Nat.mul_le_mul_right _ (by omega)
              omega
            refine ⟨rfl, ?_⟩
            refine ⟨_, rfl, bcc, k4, szl (by omega), same_own k1 hD, by rw [upd_ne hDr.symm]; exact k2, dps_updL k4 (tupDs_prs _) k3, _, upd_same, by simp; omega, ?_⟩
            rw [List.take_add_one, hq, ← List.append_assoc, show encPs (inter (ps.take i) qs ++ (metAny qs p).take j ++ (some t).toList) = encPs (inter (ps.take i) qs ++ (metAny qs p).take j) ++ [encP t] by simp [encPs]]
            exact dps_updL k4 (by rw [show encPs (inter (ps.take i) qs ++ (metAny qs p).take j) ++ [encP t] = encPs (inter (ps.take i) qs ++ (metAny qs p).take j ++ [t]) by simp [encPs]]; exact tupDs_prs _) (DpAll.app k6 (DpAll.one he2))
        · rintro H3 ⟨k1, k2, k3, bcc, k4, k5, k6⟩
          refine ⟨k1, bcc, k4, by rw [Nat.add_mul]; omega, ?_⟩
          rw [hzl, List.take_length, ← et] at k6
          exact k6
    · rintro H' ⟨s1, acc, ha1, ha2, ha3⟩
      rw [exl, List.take_length] at ha3
      refine ⟨D, acc, inter ps qs, rfl, .inl (SqL.of ha1), ha3, vld_inter _ _, ?_, fun c H2 s2 hs => q c H2 (s1.trans s2) (hs.back s1)⟩
      have h5 := inter_len ps qs
      have h6 : ps.length * qs.length ≤ 1000 * 1000 := Nat.mul_le_mul hlen hlen2
      omega
end
end RA
end

section
set_option linter.all false
set_option autoImplicit false
namespace RA
/-! ## what a stretch holds -/
def inP (p : Pr) (x : Int) : Prop := (∀ a, p.1 = some a → a ≤ x) ∧ (∀ b, p.2 = some b → x ≤ b)
def MemL (x : Int) (ps : List Pr) : Prop := ∃ p ∈ ps, inP p x
def sep (p q : Pr) : Prop := ∃ b a, p.2 = some b ∧ q.1 = some a ∧ b + 1 < a
def Nf (ps : List Pr) : Prop := (∀ p ∈ ps, vld p = true) ∧ ps.Pairwise sep
def bdO (B : Nat) (e : Option Int) : Prop := ∀ a, e = some a → a.natAbs ≤ B
def bdP (B : Nat) (p : Pr) : Prop := bdO B p.1 ∧ bdO B p.2
def bd (B : Nat) (ps : List Pr) : Prop := ∀ p ∈ ps, bdP B p
theorem memL_nil {x : Int} : ¬ MemL x [] := by rintro ⟨p, h, _⟩; cases h
theorem memL_cons {x : Int} {p : Pr} {ps : List Pr} : MemL x (p :: ps) ↔ inP p x ∨ MemL x ps := by
  constructor
  · rintro ⟨q, hq, h⟩
    rcases List.mem_cons.mp hq with rfl | hq
    · exact .inl h
    · exact .inr ⟨q, hq, h⟩
  · rintro (h | ⟨q, hq, h⟩)
    · exact ⟨p, by simp, h⟩
    · exact ⟨q, by simp [hq], h⟩
theorem memL_app {x : Int} {ps qs : List Pr} : MemL x (ps ++ qs) ↔ MemL x ps ∨ MemL x qs := by
  constructor
  · rintro ⟨q, hq, h⟩
    rcases List.mem_append.mp hq with hq | hq
    · exact .inl ⟨q, hq, h⟩
    · exact .inr ⟨q, hq, h⟩
  · rintro (⟨q, hq, h⟩ | ⟨q, hq, h⟩)
    · exact ⟨q, by simp [hq], h⟩
    · exact ⟨q, by simp [hq], h⟩
theorem memL_one {x : Int} {p : Pr} : MemL x [p] ↔ inP p x := by
  rw [memL_cons]
  exact ⟨fun h => h.elim id fun z => absurd z memL_nil, .inl⟩
theorem inP_dot {x n : Int} : inP (dot n) x ↔ x = n := by
  constructor
  · rintro ⟨h1, h2⟩
    have a := h1 n rfl
    have b := h2 n rfl
    omega
  · rintro rfl
    exact ⟨fun a h => by cases h; omega, fun a h => by cases h; omega⟩
theorem vld_some {a b : Int} : vld (some a, some b) = true ↔ a ≤ b := by simp [vld]
/-- a valid stretch holds something -/
theorem vld_mem {p : Pr} (h : vld p = true) : ∃ x, inP p x := by
  obtain ⟨a, b⟩ := p
  cases a with
  | none =>
    cases b with
    | none => exact ⟨0, fun _ h => (nomatch h), fun _ h => (nomatch h)⟩
    | some b => exact ⟨b, fun _ h => (nomatch h), fun _ h => by cases h; omega⟩
  | some a =>
    cases b with
    | none => exact ⟨a, fun _ h => by cases h; omega, fun _ h => (nomatch h)⟩
    | some b =>
      have := vld_some.mp h
      exact ⟨a, fun _ h => by cases h; omega, fun _ h => by cases h; omega⟩
/-! ## merged -/
/-- the accumulator's word: it is normal, its last one begins not behind what comes -/
def lowOf (p : Pr) (q : Pr) : Prop := lowLe p q = true
theorem lowLe_iff {p q : Pr} : lowLe p q = true ↔ ∀ a, p.1 = some a → ∃ b, q.1 = some b ∧ a ≤ b := by
  obtain ⟨a, a'⟩ := p
  obtain ⟨b, b'⟩ := q
  cases a <;> cases b <;> simp [lowLe]
theorem lowLe_trans {p q r : Pr} (h1 : lowLe p q = true) (h2 : lowLe q r = true) : lowLe p r = true := by
  rw [lowLe_iff] at *
  intro a ha
  obtain ⟨b, hb, h⟩ := h1 a ha
  obtain ⟨c, hc, h'⟩ := h2 b hb
  exact ⟨c, hc, by omega⟩
theorem lowLe_total (p q : Pr) : (lowLe p q || lowLe q p) = true := by
  obtain ⟨a, a'⟩ := p
  obtain ⟨b, b'⟩ := q
  cases a <;> cases b <;> simp [lowLe]
  omega
theorem mstep_nil (p : Pr) : mstep [] p = [p] := rfl
theorem mstep_snoc (acc : List Pr) (l p : Pr) : mstep (acc ++ [l]) p = if joins l.2 p.1 = true then acc ++ [(l.1, laterEnd l.2 p.2)] else acc ++ [l] ++ [p] := by
  unfold mstep
  simp
/-- one joined stretch holds what the two hold -/
theorem join_mem {l p : Pr} {x : Int} (hv : vld l = true) (hp : vld p = true) (hl : lowLe l p = true) (hj : joins l.2 p.1 = true) : inP (l.1, laterEnd l.2 p.2) x ↔ inP l x ∨ inP p x := by
  obtain ⟨l1, l2⟩ := l
  obtain ⟨p1, p2⟩ := p
  cases l1 <;> cases l2 <;> cases p1 <;> cases p2 <;> simp_all [inP, joins, laterEnd, lowLe, vld] <;> (try split) <;> omega
theorem join_vld {l p : Pr} (hv : vld l = true) (hp : vld p = true) : vld (l.1, laterEnd l.2 p.2) = true := by
  obtain ⟨l1, l2⟩ := l
  obtain ⟨p1, p2⟩ := p
  cases l1 <;> cases l2 <;> cases p1 <;> cases p2 <;> simp_all [vld, laterEnd] <;> (try split) <;> omega
theorem merge_run : ∀ (ps acc : List Pr), (∀ p ∈ ps, vld p = true) → ps.Pairwise (fun p q => lowLe p q = true) → Nf acc → (∀ l ∈ acc.getLast?, ∀ p ∈ ps, lowLe l p = true) →
    Nf (ps.foldl mstep acc) ∧ (∀ x, MemL x (ps.foldl mstep acc) ↔ MemL x acc ∨ MemL x ps) ∧ (ps.foldl mstep acc).length ≤ acc.length + ps.length
  | [], acc, _, _, hn, _ => ⟨hn, fun x => ⟨.inl, fun h => h.elim id fun z => absurd z memL_nil⟩, by simp⟩
  | p :: ps, acc, hv, hs, hn, hl => by
    have hs' := List.pairwise_cons.mp hs
    have hvp := hv p (by simp)
    have hvps : ∀ q ∈ ps, vld q = true := fun q hq => hv q (by simp [hq])
    rw [List.foldl_cons]
    rcases List.eq_nil_or_concat acc with rfl | ⟨pre, l, rfl⟩
    · rw [mstep_nil]
      obtain ⟨h1, h2, h3⟩ := merge_run ps [p] hvps hs'.2 ⟨by simpa using hvp, by simp⟩ (by simpa using hs'.1)
      refine ⟨h1, fun x => ?_, by simp at h3 ⊢; omega⟩
      rw [h2, memL_one, memL_cons]
      simp [memL_nil]
    · have hll : lowLe l p = true := hl l (by simp) p (by simp)
      have hvl : vld l = true := hn.1 l (by simp)
      have hpl : ∀ q ∈ ps, lowLe l q = true := fun q hq => hl l (by simp) q (by simp [hq])
      have hn2 := hn.2
      rw [List.concat_eq_append] at hn2 hn ⊢
      rw [mstep_snoc]
      have hpre : pre.Pairwise sep ∧ ∀ q ∈ pre, sep q l := by
        rw [List.pairwise_append] at hn2
        exact ⟨hn2.1, fun q hq => hn2.2.2 q hq l (by simp)⟩
      cases hj : joins l.2 p.1 with
      | true =>
        rw [if_pos rfl]
        have hA : Nf (pre ++ [(l.1, laterEnd l.2 p.2)]) := by
          refine ⟨?_, ?_⟩
          · intro q hq
            rcases List.mem_append.mp hq with hq | hq
            · exact hn.1 q (by simp [hq])
            · rw [List.mem_singleton.mp hq]
              exact join_vld hvl hvp
          · rw [List.pairwise_append]
            refine ⟨hpre.1, by simp, fun q hq r hr => ?_⟩
            rw [List.mem_singleton.mp hr]
            exact hpre.2 q hq
        have hB : ∀ k ∈ (pre ++ [(l.1, laterEnd l.2 p.2)]).getLast?, ∀ q ∈ ps, lowLe k q = true := by
          intro k hk q hq
          have : k = (l.1, laterEnd l.2 p.2) := by simpa using hk.symm
          subst this
          have := hpl q hq
          rw [lowLe_iff] at this ⊢
          exact this
        obtain ⟨h1, h2, h3⟩ := merge_run ps _ hvps hs'.2 hA hB
        refine ⟨h1, fun x => ?_, by simp at h3 ⊢; omega⟩
        rw [h2, memL_app, memL_one, join_mem hvl hvp hll hj, memL_app, memL_one, memL_cons]
        simp only [or_assoc]
      | false =>
        rw [if_neg (by decide)]
        have hlp : sep l p := by
          obtain ⟨l1, l2⟩ := l
          obtain ⟨p1, p2⟩ := p
          cases l2 <;> cases p1 <;> simp [joins] at hj
          exact ⟨_, _, rfl, rfl, hj⟩
        have hA : Nf (pre ++ [l] ++ [p]) := by
          refine ⟨?_, ?_⟩
          · intro q hq
            rcases List.mem_append.mp hq with hq | hq
            · exact hn.1 q hq
            · rw [List.mem_singleton.mp hq]
              exact hvp
          · rw [List.pairwise_append]
            refine ⟨hn2, by simp, fun q hq r hr => ?_⟩
            rw [List.mem_singleton.mp hr]
            rcases List.mem_append.mp hq with hq | hq
            · obtain ⟨b, a, e1, e2, h⟩ := hpre.2 q hq
              obtain ⟨c, hc, hac⟩ := lowLe_iff.mp hll a e2
              exact ⟨b, c, e1, hc, by omega⟩
            · rw [List.mem_singleton.mp hq]
              exact hlp
        have hB : ∀ k ∈ (pre ++ [l] ++ [p]).getLast?, ∀ q ∈ ps, lowLe k q = true := by
          intro k hk q hq
          have : k = p := by simpa using hk.symm
          subst this
          exact hs'.1 q hq
        obtain ⟨h1, h2, h3⟩ := merge_run ps _ hvps hs'.2 hA hB
        refine ⟨h1, fun x => ?_, by simp at h3 ⊢; omega⟩
        rw [h2, memL_app (qs := [p]), memL_one, memL_cons]
        simp only [or_assoc]
theorem merged_all (ps : List Pr) (hv : ∀ p ∈ ps, vld p = true) : Nf (merged ps) ∧ (∀ x, MemL x (merged ps) ↔ MemL x ps) ∧ (merged ps).length ≤ ps.length := by
  have hp : (ps.mergeSort lowLe).Perm ps := List.mergeSort_perm _ _
  have hs : (ps.mergeSort lowLe).Pairwise (fun p q => lowLe p q = true) := List.pairwise_mergeSort (le := lowLe) (fun a b c h1 h2 => lowLe_trans h1 h2) (fun a b => lowLe_total a b) ps
  obtain ⟨h1, h2, h3⟩ := merge_run (ps.mergeSort lowLe) [] (fun p h => hv p (hp.subset h)) hs ⟨by simp, by simp⟩ (by simp)
  refine ⟨h1, fun x => ?_, by simp at h3; exact h3⟩
  refine (h2 x).trans ⟨?_, ?_⟩
  · rintro (h | ⟨p, hm, h⟩)
    · exact absurd h memL_nil
    · exact ⟨p, hp.subset hm, h⟩
  · rintro ⟨p, hm, h⟩
    exact .inr ⟨p, hp.symm.subset hm, h⟩
theorem merged_nf {ps : List Pr} (hv : ∀ p ∈ ps, vld p = true) : Nf (merged ps) := (merged_all ps hv).1
theorem merged_mem {ps : List Pr} (hv : ∀ p ∈ ps, vld p = true) {x : Int} : MemL x (merged ps) ↔ MemL x ps := (merged_all ps hv).2.1 x
theorem merged_len {ps : List Pr} (hv : ∀ p ∈ ps, vld p = true) : (merged ps).length ≤ ps.length := (merged_all ps hv).2.2
/-! ## a normal list stays -/
theorem sep_low {p q : Pr} (hp : vld p = true) (h : sep p q) : lowLe p q = true := by
  obtain ⟨b, a, h1, h2, h3⟩ := h
  rw [lowLe_iff]
  intro c hc
  obtain ⟨p1, p2⟩ := p
  cases h1
  cases hc
  have := vld_some.mp hp
  exact ⟨a, h2, by omega⟩
theorem merge_stay : ∀ (ps acc : List Pr), Nf (acc ++ ps) → ps.foldl mstep acc = acc ++ ps
  | [], acc, _ => by simp
  | p :: ps, acc, h => by
    have e : mstep acc p = acc ++ [p] := by
      rcases List.eq_nil_or_concat acc with rfl | ⟨pre, l, rfl⟩
      · rfl
      · rw [List.concat_eq_append] at h ⊢
        rw [mstep_snoc]
        have hs : sep l p := by
          have h2 := h.2
          rw [List.pairwise_append] at h2
          exact h2.2.2 l (by simp) p (by simp)
        obtain ⟨b, a, h1, h2, h3⟩ := hs
        rw [h1, h2]
        rw [if_neg]
        simp [joins]
        omega
    rw [List.foldl_cons, e, merge_stay ps (acc ++ [p]) (by simpa using h)]
    simp
theorem merged_id {ps : List Pr} (h : Nf ps) : merged ps = ps := by
  unfold merged
  have hs : ps.Pairwise (fun p q => lowLe p q = true) := by
    have h2 := h.2
    refine List.Pairwise.imp_of_mem ?_ h2
    intro a b ha hb hs
    exact sep_low (h.1 a ha) hs
  rw [List.mergeSort_of_pairwise hs]
  exact merge_stay ps [] (by simpa using h)
/-! ## gaps -/
def gapFin (g : GapSt) : List Pr := if g.op = true then g.found ++ [(g.low, none)] else g.found
theorem gaps_run : ∀ (qs : List Pr) (g : GapSt), Nf qs → (∀ q ∈ qs, g.op = true ∧ ∀ l, g.low = some l → ∃ a, q.1 = some a ∧ l < a) → (∀ p ∈ g.found, vld p = true) →
    (∀ p ∈ gapFin (qs.foldl gapStep g), vld p = true) ∧ ∀ x, MemL x (gapFin (qs.foldl gapStep g)) ↔ MemL x g.found ∨ (g.op = true ∧ (∀ l, g.low = some l → l ≤ x) ∧ ¬ MemL x qs)
  | [], g, _, _, hv => by
    simp only [List.foldl_nil]
    unfold gapFin
    constructor
    · intro p hp
      split at hp
      · rcases List.mem_append.mp hp with h | h
        · exact hv p h
        · rw [List.mem_singleton.mp h]
          cases g.low <;> rfl
      · exact hv p hp
    · intro x
      split
      · next h =>
        rw [memL_app, memL_one]
        constructor
        · rintro (h1 | h1)
          · exact .inl h1
          · exact .inr ⟨h, h1.1, memL_nil⟩
        · rintro (h1 | ⟨_, h1, _⟩)
          · exact .inl h1
          · exact .inr ⟨h1, fun b hb => (nomatch hb)⟩
      · next h =>
        constructor
        · exact .inl
        · rintro (h1 | ⟨h1, _⟩)
          · exact h1
          · exact absurd h1 h
  | q :: qs, g, hn, hc, hv => by
    have hn2 := List.pairwise_cons.mp hn.2
    have hvq := hn.1 q (by simp)
    obtain ⟨hop, hlow⟩ := hc q (by simp)
    rw [List.foldl_cons]
    have hA : ∀ r ∈ qs, (gapStep g q).op = true ∧ ∀ l, (gapStep g q).low = some l → ∃ a, r.1 = some a ∧ l < a := by
      intro r hr
      obtain ⟨b, a, e1, e2, h3⟩ := hn2.1 r hr
      obtain ⟨q1, q2⟩ := q
      cases e1
      refine ⟨rfl, fun l hl => ⟨a, e2, ?_⟩⟩
      cases hl
      exact h3
    have hB : ∀ p ∈ (gapStep g q).found, vld p = true := by
      intro p hp
      obtain ⟨q1, q2⟩ := q
      cases q1 with
      | none => exact hv p hp
      | some a =>
        rcases List.mem_append.mp hp with h | h
        · exact hv p h
        · rw [List.mem_singleton.mp h]
          cases hg : g.low with
          | none => rfl
          | some l =>
            obtain ⟨a', h3, h4⟩ := hlow l hg
            cases h3
            exact vld_some.mpr (by omega)
    obtain ⟨h1, h2⟩ := gaps_run qs (gapStep g q) ⟨fun p hp => hn.1 p (by simp [hp]), hn2.2⟩ hA hB
    refine ⟨h1, fun x => ?_⟩
    rw [h2, memL_cons]
    have hright : MemL x qs → ∃ b, q.2 = some b ∧ b + 1 < x := by
      rintro ⟨r, hr, hx⟩
      obtain ⟨b, a, e1, e2, h3⟩ := hn2.1 r hr
      have := hx.1 a e2
      exact ⟨b, e1, by omega⟩
    obtain ⟨q1, q2⟩ := q
    cases q1 with
    | none =>
      have e : (gapStep g (none, q2)).found = g.found := rfl
      rw [e]
      have hl0 : g.low = none := by
        cases hg : g.low with
        | none => rfl
        | some l => obtain ⟨a, h3, _⟩ := hlow l hg; cases h3
      constructor
      · rintro (h3 | ⟨h3, h4, h5⟩)
        · exact .inl h3
        · refine .inr ⟨hop, fun l hl => (by rw [hl0] at hl; cases hl), ?_⟩
          rintro (h6 | h6)
          · cases q2 with
            | none => cases h3
            | some b =>
              have := h4 (b + 1) rfl
              have := h6.2 b rfl
              omega
          · exact h5 h6
      · rintro (h3 | ⟨h3, h4, h5⟩)
        · exact .inl h3
        · right
          cases q2 with
          | none => exact absurd (.inl ⟨fun _ h => (nomatch h), fun _ h => (nomatch h)⟩) h5
          | some b =>
            refine ⟨rfl, fun l hl => ?_, fun h6 => h5 (.inr h6)⟩
            cases hl
            show b + 1 ≤ x
            have : ¬ x ≤ b := fun h7 => h5 (.inl ⟨fun _ h => (nomatch h), fun c h => by cases h; exact h7⟩)
            omega
    | some a =>
      have e : (gapStep g (some a, q2)).found = g.found ++ [(g.low, some (a - 1))] := rfl
      rw [e, memL_app, memL_one]
      constructor
      · rintro ((h3 | h3) | ⟨h3, h4, h5⟩)
        · exact .inl h3
        · have hxa := h3.2 _ rfl
          refine .inr ⟨hop, h3.1, ?_⟩
          rintro (h6 | h6)
          · have := h6.1 a rfl
            omega
          · obtain ⟨b, hb, hbx⟩ := hright h6
            have hb : q2 = some b := hb
            subst hb
            have := vld_some.mp hvq
            omega
        · refine .inr ⟨hop, fun l hl => ?_, ?_⟩
          · obtain ⟨a', h7, h8⟩ := hlow l hl
            cases h7
            cases q2 with
            | none => cases h3
            | some b =>
              have := h4 (b + 1) rfl
              have := vld_some.mp hvq
              omega
          · rintro (h6 | h6)
            · cases q2 with
              | none => cases h3
              | some b =>
                have := h4 (b + 1) rfl
                have := h6.2 b rfl
                omega
            · exact h5 h6
      · rintro (h3 | ⟨h3, h4, h5⟩)
        · exact .inl (.inl h3)
        · by_cases hx : x < a
          · exact .inl (.inr ⟨h4, fun b hb => by cases hb; omega⟩)
          · right
            cases q2 with
            | none => exact absurd (.inl ⟨fun c h => by cases h; omega, fun _ h => (nomatch h)⟩) h5
            | some b =>
              refine ⟨rfl, fun l hl => ?_, fun h6 => h5 (.inr h6)⟩
              cases hl
              show b + 1 ≤ x
              have : ¬ x ≤ b := fun h7 => h5 (.inl ⟨fun c h => by cases h; omega, fun c h => by cases h; exact h7⟩)
              omega
theorem gaps_vld {ps : List Pr} (h : Nf ps) : ∀ p ∈ gapsIn ps, vld p = true :=
  (gaps_run ps ⟨[], none, true⟩ h (fun q _ => ⟨rfl, fun l hl => (nomatch hl)⟩) (by simp)).1
theorem gaps_mem {ps : List Pr} (h : Nf ps) {x : Int} : MemL x (gapsIn ps) ↔ ¬ MemL x ps := by
  refine ((gaps_run ps ⟨[], none, true⟩ h (fun q _ => ⟨rfl, fun l hl => (nomatch hl)⟩) (by simp)).2 x).trans ?_
  constructor
  · rintro (h1 | ⟨_, _, h1⟩)
    · exact absurd h1 memL_nil
    · exact h1
  · intro h1
    exact .inr ⟨rfl, fun l hl => (nomatch hl), h1⟩
/-! ## what two have in common -/
theorem met_in {p q : Pr} {x : Int} : inP (maxO p.1 q.1, minO p.2 q.2) x ↔ inP p x ∧ inP q x := by
  obtain ⟨p1, p2⟩ := p
  obtain ⟨q1, q2⟩ := q
  cases p1 <;> cases p2 <;> cases q1 <;> cases q2 <;> simp [inP, maxO, minO] <;> omega
theorem metP_mem {p q : Pr} {x : Int} : (∃ r, metP p q = some r ∧ inP r x) ↔ inP p x ∧ inP q x := by
  rw [← met_in]
  unfold metP
  constructor
  · rintro ⟨r, h, hx⟩
    split at h
    · cases h; exact hx
    · cases h
  · intro h
    have : vld (maxO p.1 q.1, minO p.2 q.2) = true := by
      obtain ⟨h1, h2⟩ := h
      generalize maxO p.1 q.1 = a at *
      generalize minO p.2 q.2 = b at *
      cases a <;> cases b <;> simp [vld]
      have := h1 _ rfl
      have := h2 _ rfl
      omega
    rw [if_pos this]
    exact ⟨_, rfl, h⟩
theorem metAny_mem {ps : List Pr} {p : Pr} {x : Int} : MemL x (metAny ps p) ↔ inP p x ∧ MemL x ps := by
  constructor
  · rintro ⟨r, hr, hx⟩
    obtain ⟨q, hq, h⟩ := List.mem_filterMap.mp hr
    have := metP_mem.mp ⟨r, h, hx⟩
    exact ⟨this.1, q, hq, this.2⟩
  · rintro ⟨h1, q, hq, h2⟩
    obtain ⟨r, h, hx⟩ := metP_mem.mpr ⟨h1, h2⟩
    exact ⟨r, List.mem_filterMap.mpr ⟨q, hq, h⟩, hx⟩
theorem inter_mem {a b : List Pr} {x : Int} : MemL x (inter a b) ↔ MemL x a ∧ MemL x b := by
  constructor
  · rintro ⟨r, hr, hx⟩
    obtain ⟨p, hp, hr⟩ := List.mem_flatMap.mp hr
    have := metAny_mem.mp ⟨r, hr, hx⟩
    exact ⟨⟨p, hp, this.1⟩, this.2⟩
  · rintro ⟨⟨p, hp, h1⟩, h2⟩
    obtain ⟨r, hr, hx⟩ := metAny_mem.mpr ⟨h1, h2⟩
    exact ⟨r, List.mem_flatMap.mpr ⟨p, hp, hr⟩, hx⟩
theorem inSp_iff {ps : List Pr} {n : Int} : inSp n ps = true ↔ MemL n ps := by
  have h : MemL n ps ↔ MemL n (metAny ps (dot n)) := by
    rw [metAny_mem, inP_dot]
    simp
  rw [h]
  unfold inSp
  show (!(metAny ps (dot n)).isEmpty) = true ↔ _
  constructor
  · intro h1
    cases hm : metAny ps (dot n) with
    | nil => rw [hm] at h1; cases h1
    | cons r rs =>
      have hr : r ∈ metAny ps (dot n) := by rw [hm]; simp
      obtain ⟨q, hq, h2⟩ := List.mem_filterMap.mp hr
      have hv : vld r = true := by
        unfold metP at h2
        split at h2
        · next h => cases h2; exact h
        · cases h2
      obtain ⟨x, hx⟩ := vld_mem hv
      have := metP_mem.mp ⟨r, h2, hx⟩
      have := inP_dot.mp this.1
      subst this
      exact ⟨r, by simp, hx⟩
  · rintro ⟨r, hr, _⟩
    cases hm : metAny ps (dot n) with
    | nil => rw [hm] at hr; cases hr
    | cons _ _ => rfl
theorem metP_vld {p q r : Pr} (h : metP p q = some r) : vld r = true := by
  unfold metP at h
  split at h
  · next h' => cases h; exact h'
  · cases h
theorem inter_vld {a b : List Pr} : ∀ p ∈ inter a b, vld p = true := by
  intro p hp
  obtain ⟨q, _, hq⟩ := List.mem_flatMap.mp hp
  obtain ⟨q', _, hq'⟩ := List.mem_filterMap.mp hq
  exact metP_vld hq'
theorem metP_ends {p q r : Pr} (h : metP p q = some r) : r = (maxO p.1 q.1, minO p.2 q.2) := by
  unfold metP at h
  split at h
  · cases h; rfl
  · cases h
theorem sep_met_right {p q q' r r' : Pr} (h : sep q q') (h1 : metP p q = some r) (h2 : metP p q' = some r') : sep r r' := by
  obtain ⟨b, a, e1, e2, h3⟩ := h
  rw [metP_ends h1, metP_ends h2]
  obtain ⟨p1, p2⟩ := p
  obtain ⟨q1, q2⟩ := q
  obtain ⟨q1', q2'⟩ := q'
  cases e1
  cases e2
  cases p1 <;> cases p2 <;> simp [sep, maxO, minO] <;> omega
theorem sep_met_left {p p' q q' r r' : Pr} (h : sep p p') (h1 : metP p q = some r) (h2 : metP p' q' = some r') : sep r r' := by
  obtain ⟨b, a, e1, e2, h3⟩ := h
  rw [metP_ends h1, metP_ends h2]
  obtain ⟨p1, p2⟩ := p
  obtain ⟨p1', p2'⟩ := p'
  obtain ⟨q1, q2⟩ := q
  obtain ⟨q1', q2'⟩ := q'
  cases e1
  cases e2
  cases q2 <;> cases q1' <;> simp [sep, maxO, minO] <;> omega
theorem inter_nf {a b : List Pr} (ha : Nf a) (hb : Nf b) : Nf (inter a b) := by
  refine ⟨inter_vld, ?_⟩
  unfold inter
  rw [List.pairwise_flatMap]
  refine ⟨fun p hp => ?_, ?_⟩
  · unfold metAny
    rw [List.pairwise_filterMap]
    refine List.Pairwise.imp ?_ hb.2
    intro q q' h r h1 r' h2
    exact sep_met_right h h1 h2
  · refine List.Pairwise.imp ?_ ha.2
    intro p p' h r hr r' hr'
    obtain ⟨q, _, h1⟩ := List.mem_filterMap.mp hr
    obtain ⟨q', _, h2⟩ := List.mem_filterMap.mp hr'
    exact sep_met_left h h1 h2
end RA
end

section
set_option linter.all false
set_option autoImplicit false
namespace RA
/-! ## floor division -/
theorem fdiv_pos {n d : Int} (h : 0 < d) : n.fdiv d = n / d := Int.fdiv_eq_ediv_of_nonneg _ (by omega)
theorem fdiv_negd {n d : Int} (h : d < 0) : n.fdiv d = (-n) / (-d) := by
  rw [← Int.neg_fdiv_neg, fdiv_pos (by omega)]
theorem natAbs_fdiv (n d : Int) : (n.fdiv d).natAbs ≤ n.natAbs := by
  rcases Int.lt_trichotomy d 0 with h | h | h
  · rw [fdiv_negd h]
    have := Int.natAbs_ediv_le_natAbs (-n) (-d)
    omega
  · subst h
    simp
  · rw [fdiv_pos h]
    exact Int.natAbs_ediv_le_natAbs _ _
theorem natAbs_overUp (n d : Int) : (overUp n d).natAbs ≤ n.natAbs := by
  have := natAbs_fdiv (-n) d
  unfold overUp
  omega
theorem le_fdiv {a n d : Int} (h : 0 < d) : a ≤ n.fdiv d ↔ a * d ≤ n := by
  rw [fdiv_pos h]
  exact Int.le_ediv_iff_mul_le h
theorem fdiv_le {b n d : Int} (h : 0 < d) : n.fdiv d ≤ b ↔ n < (b + 1) * d := by
  rw [fdiv_pos h, ← Int.ediv_lt_iff_lt_mul h]
  omega
theorem overUp_le {a n d : Int} (h : 0 < d) : overUp n d ≤ a ↔ n ≤ a * d := by
  unfold overUp
  have := le_fdiv (a := -a) (n := -n) h
  have e : -a * d = -(a * d) := Int.neg_mul a d
  rw [e] at this
  omega
theorem le_fdiv_neg {a n d : Int} (h : d < 0) : a ≤ n.fdiv d ↔ n ≤ a * d := by
  rw [← Int.neg_fdiv_neg, le_fdiv (by omega), Int.mul_neg]
  omega
theorem overUp_le_neg {a n d : Int} (h : d < 0) : overUp n d ≤ a ↔ a * d ≤ n := by
  unfold overUp
  have := le_fdiv_neg (a := -a) (n := -n) h
  have e : -a * d = -(a * d) := Int.neg_mul a d
  rw [e] at this
  omega
/-! ## steps that may be drawn -/
def okS : Stp → Prop
  | .times k => k ≠ 0
  | .into d => 1 ≤ d
  | .found ps => (ps.map (·.1)).Nodup
  | _ => True
theorem shift_in {p : Pr} {k x : Int} : inP (shiftO (-k) p.1, shiftO (-k) p.2) x ↔ inP p (x + k) := by
  obtain ⟨a, b⟩ := p
  cases a <;> cases b <;> simp [inP, shiftO] <;> omega
theorem into_in {p : Pr} {d x : Int} (hd : 1 ≤ d) : inP (intoEnds p d) x ↔ inP p (x.fdiv d) := by
  obtain ⟨a, b⟩ := p
  have h0 : 0 < d := by omega
  have h1 : ∀ a : Int, a * d ≤ x ↔ a ≤ x.fdiv d := fun a => (le_fdiv h0).symm
  have h2 : ∀ b : Int, x ≤ b * d + d - 1 ↔ x.fdiv d ≤ b := fun b => by
    rw [fdiv_le h0, Int.add_mul]
    omega
  cases a <;> cases b <;> simp [inP, intoEnds, h1, h2]
theorem times_in {p : Pr} {k x : Int} (hk : k ≠ 0) : (∃ r, beforeTimes p k = some r ∧ inP r x) ↔ inP p (x * k) := by
  have key : ∀ (q : Pr), q = (if k > 0 then p else (p.2, p.1)) → (inP (q.1.map (overUp · k), q.2.map (·.fdiv k)) x ↔ inP p (x * k)) := by
    rintro q rfl
    obtain ⟨a, b⟩ := p
    by_cases h : k > 0
    · rw [if_pos h]
      cases a <;> cases b <;> simp [inP, overUp_le h, le_fdiv h]
    · rw [if_neg h]
      have h' : k < 0 := by omega
      cases a <;> cases b <;> simp [inP, overUp_le_neg h', le_fdiv_neg h', and_comm]
  rw [← key _ rfl]
  unfold beforeTimes
  generalize (if k > 0 then p else (p.2, p.1)) = q
  dsimp only
  generalize (q.1.map (overUp · k), q.2.map (·.fdiv k)) = f
  constructor
  · rintro ⟨r, h, hx⟩
    split at h
    · cases h; exact hx
    · cases h
  · intro h
    have hv : vld f = true := by
      obtain ⟨a, b⟩ := f
      cases a <;> cases b <;> simp [vld]
      have := h.1 _ rfl
      have := h.2 _ rfl
      omega
    rw [if_pos hv]
    exact ⟨_, rfl, h⟩
theorem over_low {a : Option Int} {k x : Int} (hx : 1 ≤ x) : (∃ q, overLow a k = some q ∧ inP q x) ↔ ∀ c, a = some c → c ≤ k.fdiv x := by
  have h0 : 0 < x := by omega
  cases a with
  | none =>
    constructor
    · intro _ c h; cases h
    · intro _
      exact ⟨_, rfl, fun c h => by cases h; exact hx, fun c h => (nomatch h)⟩
  | some a =>
    have hi : (∀ c, some a = some c → c ≤ k.fdiv x) ↔ a * x ≤ k := by
      rw [← le_fdiv h0]
      exact ⟨fun h => h a rfl, fun h c e => by cases e; exact h⟩
    rw [hi]
    unfold overLow
    dsimp only
    rcases Int.lt_trichotomy a 0 with h | h | h
    · rw [if_neg (by omega), if_pos h, if_neg (by omega)]
      have e : overUp k a ≤ x ↔ a * x ≤ k := by rw [overUp_le_neg h, Int.mul_comm]
      constructor
      · rintro ⟨q, hq, h1, h2⟩
        cases hq
        have := h1 _ rfl
        exact e.mp (by omega)
      · intro h3
        have := e.mpr h3
        exact ⟨_, rfl, fun c hc => by cases hc; omega, fun c hc => (nomatch hc)⟩
    · subst h
      by_cases hk : k < 0
      · rw [if_pos ⟨rfl, hk⟩]
        constructor
        · rintro ⟨q, hq, _⟩; cases hq
        · intro h3; omega
      · rw [if_neg (by omega), if_neg (by omega), if_neg (by omega)]
        constructor
        · intro _; omega
        · intro _
          exact ⟨_, rfl, fun c hc => by cases hc; exact hx, fun c hc => (nomatch hc)⟩
    · rw [if_neg (by omega), if_neg (by omega), if_pos h]
      have e : x ≤ k.fdiv a ↔ a * x ≤ k := by rw [le_fdiv h, Int.mul_comm]
      constructor
      · rintro ⟨q, hq, h1, h2⟩
        cases hq
        exact e.mp (h2 _ rfl)
      · intro h3
        exact ⟨_, rfl, fun c hc => by cases hc; exact hx, fun c hc => by cases hc; exact e.mpr h3⟩
theorem maxO_in {a : Option Int} {c x : Int} : (∀ z, maxO a (some c) = some z → z ≤ x) ↔ (∀ z, a = some z → z ≤ x) ∧ c ≤ x := by
  cases a <;> simp [maxO] <;> omega
theorem minO_in {a : Option Int} {c x : Int} : (∀ z, minO a (some c) = some z → x ≤ z) ↔ (∀ z, a = some z → x ≤ z) ∧ x ≤ c := by
  cases a <;> simp [minO] <;> omega
theorem over_high {q : Pr} {b : Option Int} {k x : Int} (hx : 1 ≤ x) : (∃ r, overHigh q b k = some r ∧ inP r x) ↔ inP q x ∧ ∀ c, b = some c → k.fdiv x ≤ c := by
  have h0 : 0 < x := by omega
  cases b with
  | none =>
    constructor
    · rintro ⟨r, h, hr⟩
      cases h
      exact ⟨hr, fun c h => (nomatch h)⟩
    · rintro ⟨h, _⟩
      exact ⟨_, rfl, h⟩
  | some b =>
    have hi : (∀ c, some b = some c → k.fdiv x ≤ c) ↔ k < (b + 1) * x := by
      rw [← fdiv_le h0]
      exact ⟨fun h => h b rfl, fun h c e => by cases e; exact h⟩
    rw [hi]
    unfold overHigh
    dsimp only
    generalize b + 1 = d
    rcases Int.lt_trichotomy d 0 with h | h | h
    · rw [if_neg (by omega), if_neg (by omega), if_pos h]
      have e : x ≤ overUp k d - 1 ↔ k < d * x := by
        have := overUp_le_neg (a := x) (n := k) h
        rw [Int.mul_comm] at this
        omega
      constructor
      · rintro ⟨r, hr, h1, h2⟩
        cases hr
        have := minO_in.mp h2
        exact ⟨⟨h1, this.1⟩, e.mp this.2⟩
      · rintro ⟨⟨h1, h2⟩, h3⟩
        exact ⟨_, rfl, h1, minO_in.mpr ⟨h2, e.mpr h3⟩⟩
    · subst h
      by_cases hk : k ≥ 0
      · rw [if_pos ⟨rfl, hk⟩]
        constructor
        · rintro ⟨r, hr, _⟩; cases hr
        · rintro ⟨_, h3⟩; omega
      · rw [if_neg (by omega), if_neg (by omega), if_neg (by omega)]
        constructor
        · rintro ⟨r, hr, hx⟩
          cases hr
          exact ⟨hx, by omega⟩
        · rintro ⟨h, _⟩
          exact ⟨_, rfl, h⟩
    · rw [if_neg (by omega), if_pos h, if_neg (by omega)]
      have e : k.fdiv d + 1 ≤ x ↔ k < d * x := by
        have := le_fdiv (a := x) (n := k) h
        rw [Int.mul_comm] at this
        omega
      constructor
      · rintro ⟨r, hr, h1, h2⟩
        cases hr
        have := maxO_in.mp h1
        exact ⟨⟨this.1, h2⟩, e.mp this.2⟩
      · rintro ⟨⟨h1, h2⟩, h3⟩
        exact ⟨_, rfl, maxO_in.mpr ⟨h1, e.mpr h3⟩, h2⟩
theorem overLow_ge {a : Option Int} {k : Int} {q : Pr} (h : overLow a k = some q) : ∃ c, q.1 = some c ∧ 1 ≤ c := by
  unfold overLow at h
  cases a with
  | none => cases h; exact ⟨1, rfl, by omega⟩
  | some a =>
    dsimp only at h
    split at h
    · cases h
    · cases h
      refine ⟨_, rfl, ?_⟩
      split <;> omega
theorem over_ge {p : Pr} {k x : Int} {r : Pr} (h : beforeOver p k = some r) (hx : inP r x) : 1 ≤ x := by
  unfold beforeOver at h
  obtain ⟨q', h1, h2⟩ := Option.bind_eq_some_iff.mp h
  obtain ⟨q, h3, h4⟩ := Option.bind_eq_some_iff.mp h1
  split at h2
  · cases h2
    obtain ⟨c, e1, e2⟩ := overLow_ge h3
    have : ∃ d, r.1 = some d ∧ c ≤ d := by
      unfold overHigh at h4
      cases hb : p.2 with
      | none => rw [hb] at h4; cases h4; exact ⟨c, e1, by omega⟩
      | some b =>
        rw [hb] at h4
        dsimp only at h4
        split at h4
        · cases h4
        · cases h4
          dsimp only
          rw [e1]
          split
          · exact ⟨_, rfl, by omega⟩
          · exact ⟨_, rfl, by omega⟩
    obtain ⟨d, e3, e4⟩ := this
    have := hx.1 d e3
    omega
  · cases h2
theorem over_in {p : Pr} {k x : Int} : (∃ r, beforeOver p k = some r ∧ inP r x) ↔ 1 ≤ x ∧ inP p (k.fdiv x) := by
  by_cases hx : 1 ≤ x
  · have e1 := over_low (a := p.1) (k := k) hx
    constructor
    · rintro ⟨r, h, hr⟩
      refine ⟨hx, ?_⟩
      unfold beforeOver at h
      obtain ⟨q', h1, h2⟩ := Option.bind_eq_some_iff.mp h
      obtain ⟨q, h3, h4⟩ := Option.bind_eq_some_iff.mp h1
      split at h2
      · cases h2
        have := (over_high hx).mp ⟨r, h4, hr⟩
        exact ⟨e1.mp ⟨q, h3, this.1⟩, this.2⟩
      · cases h2
    · rintro ⟨_, h1, h2⟩
      obtain ⟨q, h3, h4⟩ := e1.mpr h1
      obtain ⟨r, h5, h6⟩ := (over_high (q := q) (b := p.2) (k := k) hx).mpr ⟨h4, h2⟩
      refine ⟨r, ?_, h6⟩
      unfold beforeOver
      rw [h3, Option.bind_some, h5, Option.bind_some, if_pos]
      obtain ⟨a, b⟩ := r
      cases a <;> cases b <;> simp [vld]
      have := h6.1 _ rfl
      have := h6.2 _ rfl
      omega
  · constructor
    · rintro ⟨r, h, hr⟩
      exact absurd (over_ge h hr) hx
    · rintro ⟨h, _⟩
      exact absurd h hx
theorem mirror_in {p : Pr} {x : Int} : inP (mirroredP p) x ↔ inP p (-x) := by
  obtain ⟨a, b⟩ := p
  cases a <;> cases b <;> simp [inP, mirroredP] <;> omega
theorem mirror_vld {p : Pr} : vld (mirroredP p) = vld p := by
  obtain ⟨a, b⟩ := p
  cases a <;> cases b <;> simp [vld, mirroredP]
theorem over_vld {p r : Pr} {k : Int} (h : beforeOver p k = some r) : vld r = true := by
  unfold beforeOver at h
  obtain ⟨q', h1, h2⟩ := Option.bind_eq_some_iff.mp h
  split at h2
  · next h => cases h2; exact h
  · cases h2
theorem times_vld {p r : Pr} {k : Int} (h : beforeTimes p k = some r) : vld r = true := by
  unfold beforeTimes at h
  generalize (if k > 0 then p else (p.2, p.1)) = q at h
  dsimp only at h
  generalize (q.1.map (overUp · k), q.2.map (·.fdiv k)) = f at h
  split at h
  · next h' => cases h; exact h'
  · cases h
/-! ## one step backwards -/
/-- what merged is handed -/
def beforeList : Stp → List Pr → List Pr
  | .found ps, sp => ps.filterMap fun q => if inSp q.2 sp = true then some (dot q.1) else none
  | .plus k, sp => sp.map fun p => (shiftO (-k) p.1, shiftO (-k) p.2)
  | .into d, sp => sp.map fun p => intoEnds p d
  | .times k, sp => sp.filterMap fun p => beforeTimes p k
  | .over k, sp => sp.flatMap fun p => [beforeOver p k, (beforeOver p (-k)).map mirroredP].filterMap id
theorem beforeOne_eq (s : Stp) (sp : List Pr) : beforeOne s sp = merged (beforeList s sp) := by cases s <;> rfl
theorem lookP_iff {x y : Int} : ∀ {ps : List (Int × Int)}, (ps.map (·.1)).Nodup → (lookP ps x = some y ↔ (x, y) ∈ ps)
  | [], _ => by simp [lookP]
  | (a, b) :: ps, h => by
    have h' := List.nodup_cons.mp h
    have ih := lookP_iff (x := x) (y := y) h'.2
    unfold lookP at ih ⊢
    by_cases e : a = x
    · subst e
      simp
      constructor
      · intro e; exact .inl e.symm
      · rintro (e | e)
        · exact e.symm
        · exact absurd (List.mem_map.mpr ⟨_, e, rfl⟩) h'.1
    · have e2 : (a == x) = false := by simpa using e
      rw [List.find?_cons_of_neg (by simpa using e), ih]
      constructor
      · intro h; exact List.mem_cons_of_mem _ h
      · intro h
        rcases List.mem_cons.mp h with h | h
        · cases h; exact absurd rfl e
        · exact h
theorem lookP_none {x : Int} {ps : List (Int × Int)} : lookP ps x = none ↔ ∀ q ∈ ps, q.1 ≠ x := by
  unfold lookP
  simp
theorem beforeList_vld {s : Stp} {sp : List Pr} (h : Nf sp) (ho : okS s) : ∀ p ∈ beforeList s sp, vld p = true := by
  intro r hr
  cases s with
  | plus k =>
    obtain ⟨p, hp, rfl⟩ := List.mem_map.mp hr
    have := h.1 p hp
    obtain ⟨a, b⟩ := p
    cases a <;> cases b <;> simp [vld, shiftO] at *
    omega
  | into d =>
    obtain ⟨p, hp, rfl⟩ := List.mem_map.mp hr
    have := h.1 p hp
    have hd : 1 ≤ d := ho
    obtain ⟨a, b⟩ := p
    cases a <;> cases b <;> simp [vld, intoEnds] at *
    next a b =>
      have := Int.mul_le_mul_of_nonneg_right this (show 0 ≤ d by omega)
      omega
  | times k =>
    obtain ⟨p, hp, hq⟩ := List.mem_filterMap.mp hr
    exact times_vld hq
  | over k =>
    obtain ⟨p, hp, hq⟩ := List.mem_flatMap.mp hr
    obtain ⟨o, ho, rfl⟩ := List.mem_filterMap.mp hq
    simp at ho
    rcases ho with ho | ho
    · exact over_vld ho.symm
    · obtain ⟨q, h1, h2⟩ := Option.map_eq_some_iff.mp ho.symm
      rw [← h2, mirror_vld]
      exact over_vld h1
  | found ps =>
    obtain ⟨q, hq, h⟩ := List.mem_filterMap.mp hr
    split at h
    · cases h; simp [dot, vld]
    · cases h
theorem before_one_mem {s : Stp} {sp : List Pr} {x : Int} (h : Nf sp) (ho : okS s) : MemL x (beforeOne s sp) ↔ ∃ y, stepOn s x = some y ∧ MemL y sp := by
  rw [beforeOne_eq, merged_mem (beforeList_vld h ho)]
  cases s with
  | plus k =>
    constructor
    · rintro ⟨r, hr, hx⟩
      obtain ⟨p, hp, rfl⟩ := List.mem_map.mp hr
      exact ⟨_, rfl, p, hp, shift_in.mp hx⟩
    · rintro ⟨y, hy, p, hp, hx⟩
      cases hy
      exact ⟨_, List.mem_map.mpr ⟨p, hp, rfl⟩, shift_in.mpr hx⟩
  | into d =>
    have hd : 1 ≤ d := ho
    constructor
    · rintro ⟨r, hr, hx⟩
      obtain ⟨p, hp, rfl⟩ := List.mem_map.mp hr
      exact ⟨_, rfl, p, hp, (into_in hd).mp hx⟩
    · rintro ⟨y, hy, p, hp, hx⟩
      cases hy
      exact ⟨_, List.mem_map.mpr ⟨p, hp, rfl⟩, (into_in hd).mpr hx⟩
  | times k =>
    have hk : k ≠ 0 := ho
    constructor
    · rintro ⟨r, hr, hx⟩
      obtain ⟨p, hp, hq⟩ := List.mem_filterMap.mp hr
      exact ⟨_, rfl, p, hp, (times_in hk).mp ⟨r, hq, hx⟩⟩
    · rintro ⟨y, hy, p, hp, hx⟩
      cases hy
      obtain ⟨r, h1, h2⟩ := (times_in hk).mpr hx
      exact ⟨r, List.mem_filterMap.mpr ⟨p, hp, h1⟩, h2⟩
  | over k =>
    constructor
    · rintro ⟨r, hr, hx⟩
      obtain ⟨p, hp, hq⟩ := List.mem_flatMap.mp hr
      obtain ⟨o, ho, rfl⟩ := List.mem_filterMap.mp hq
      simp at ho
      rcases ho with ho | ho
      · obtain ⟨h1, h2⟩ := over_in.mp ⟨r, ho.symm, hx⟩
        refine ⟨k.fdiv x, ?_, p, hp, h2⟩
        show (if x = 0 then none else some (k.fdiv x)) = _
        rw [if_neg (by omega)]
      · obtain ⟨q, h1, h2⟩ := Option.map_eq_some_iff.mp ho.symm
        rw [← h2, mirror_in] at hx
        obtain ⟨h3, h4⟩ := over_in.mp ⟨q, h1, hx⟩
        rw [Int.neg_fdiv_neg] at h4
        refine ⟨k.fdiv x, ?_, p, hp, h4⟩
        show (if x = 0 then none else some (k.fdiv x)) = _
        rw [if_neg (by omega)]
    · rintro ⟨y, hy, p, hp, hx⟩
      have hy : (if x = 0 then none else some (k.fdiv x)) = some y := hy
      split at hy
      · cases hy
      · next hx0 =>
        cases hy
        by_cases hpos : 1 ≤ x
        · obtain ⟨r, h1, h2⟩ := over_in.mpr ⟨hpos, hx⟩
          exact ⟨r, List.mem_flatMap.mpr ⟨p, hp, by simp [h1]⟩, h2⟩
        · obtain ⟨r, h1, h2⟩ := (over_in (p := p) (k := -k) (x := -x)).mpr ⟨by omega, by rw [Int.neg_fdiv_neg]; exact hx⟩
          exact ⟨mirroredP r, List.mem_flatMap.mpr ⟨p, hp, by simp [h1]⟩, mirror_in.mpr h2⟩
  | found ps =>
    have hn : (ps.map (·.1)).Nodup := ho
    constructor
    · rintro ⟨r, hr, hx⟩
      obtain ⟨q, hq, hr⟩ := List.mem_filterMap.mp hr
      split at hr
      · next hs =>
        cases hr
        have := inP_dot.mp hx
        subst this
        exact ⟨q.2, (lookP_iff hn).mpr hq, inSp_iff.mp hs⟩
      · cases hr
    · rintro ⟨y, hy, hm⟩
      have := (lookP_iff hn).mp hy
      exact ⟨dot x, List.mem_filterMap.mpr ⟨(x, y), this, by rw [if_pos (inSp_iff.mpr hm)]⟩, inP_dot.mpr rfl⟩
theorem nf_nil : Nf [] := ⟨by simp, by simp⟩
theorem merged_nil : merged [] = [] := merged_id nf_nil
theorem nf_one {p : Pr} (h : vld p = true) : Nf [p] := ⟨by simpa using h, by simp⟩
theorem vld_dot (n : Int) : vld (dot n) = true := by simp [vld, dot]
theorem before_one_nf {s : Stp} {sp : List Pr} (h : Nf sp) (ho : okS s) : Nf (beforeOne s sp) := by
  rw [beforeOne_eq]
  exact merged_nf (beforeList_vld h ho)
theorem spU_nf {a b : List Pr} (ha : Nf a) (hb : Nf b) : Nf (spU a b) := merged_nf fun p hp => (List.mem_append.mp hp).elim (ha.1 p) (hb.1 p)
theorem spU_mem {a b : List Pr} (ha : Nf a) (hb : Nf b) {x : Int} : MemL x (spU a b) ↔ MemL x a ∨ MemL x b := by
  unfold spU
  rw [merged_mem fun p hp => (List.mem_append.mp hp).elim (ha.1 p) (hb.1 p), memL_app]
theorem spN_nf {a : List Pr} (ha : Nf a) : Nf (spN a) := merged_nf (gaps_vld ha)
theorem spN_mem {a : List Pr} (ha : Nf a) {x : Int} : MemL x (spN a) ↔ ¬ MemL x a := by
  unfold spN
  rw [merged_mem (gaps_vld ha), gaps_mem ha]
theorem spI_eq {a b : List Pr} (ha : Nf a) (hb : Nf b) : spI a b = inter a b := merged_id (inter_nf ha hb)
theorem spI_nf {a b : List Pr} (ha : Nf a) (hb : Nf b) : Nf (spI a b) := by rw [spI_eq ha hb]; exact inter_nf ha hb
theorem spI_mem {a b : List Pr} (ha : Nf a) (hb : Nf b) {x : Int} : MemL x (spI a b) ↔ MemL x a ∧ MemL x b := by rw [spI_eq ha hb, inter_mem]
theorem dots_vld (ps : List (Int × Int)) : ∀ p ∈ ps.map (fun q => dot q.1), vld p = true := by
  intro p hp
  obtain ⟨q, _, rfl⟩ := List.mem_map.mp hp
  exact vld_dot _
theorem erringAt_nf (s : Stp) : Nf (erringAt s) := by
  cases s with
  | over k => exact merged_nf (by intro p hp; rw [List.mem_singleton.mp hp]; rfl)
  | found ps => exact spN_nf (merged_nf (dots_vld ps))
  | _ => exact merged_nf (by simp)
theorem erringAt_mem {s : Stp} {x : Int} : MemL x (erringAt s) ↔ stepOn s x = none := by
  cases s with
  | over k =>
    show MemL x (merged [dot 0]) ↔ _
    rw [merged_mem (by intro p hp; rw [List.mem_singleton.mp hp]; rfl), memL_one, inP_dot]
    show _ ↔ (if x = 0 then none else some (k.fdiv x)) = none
    constructor
    · intro h; rw [if_pos h]
    · intro h
      split at h
      · assumption
      · cases h
  | found ps =>
    show MemL x (spN (merged (ps.map fun q => dot q.1))) ↔ _
    rw [spN_mem (merged_nf (dots_vld ps)), merged_mem (dots_vld ps)]
    show _ ↔ lookP ps x = none
    rw [lookP_none]
    constructor
    · intro h q hq e
      exact h ⟨dot q.1, List.mem_map.mpr ⟨q, hq, rfl⟩, inP_dot.mpr e.symm⟩
    · rintro h ⟨p, hp, hx⟩
      obtain ⟨q, hq, rfl⟩ := List.mem_map.mp hp
      exact h q hq (inP_dot.mp hx).symm
  | plus k => show MemL x (merged []) ↔ _; rw [merged_nil]; simp [stepOn, memL_nil]
  | times k => show MemL x (merged []) ↔ _; rw [merged_nil]; simp [stepOn, memL_nil]
  | into k => show MemL x (merged []) ↔ _; rw [merged_nil]; simp [stepOn, memL_nil]
theorem before_nf : ∀ {ss : List Stp} {sp : List Pr}, (∀ s ∈ ss, okS s) → Nf sp → Nf (before ss sp)
  | [], _, _, h => h
  | s :: ss, sp, ho, h => before_one_nf (before_nf (fun t ht => ho t (by simp [ht])) h) (ho s (by simp))
theorem before_mem : ∀ {ss : List Stp} {sp : List Pr} {x : Int}, (∀ s ∈ ss, okS s) → Nf sp → (MemL x (before ss sp) ↔ ∃ y, stepsOn ss x = some y ∧ MemL y sp)
  | [], sp, x, _, h => by
    show MemL x sp ↔ _
    simp [stepsOn]
  | s :: ss, sp, x, ho, h => by
    have ho' : ∀ t ∈ ss, okS t := fun t ht => ho t (by simp [ht])
    show MemL x (beforeOne s (before ss sp)) ↔ _
    rw [before_one_mem (before_nf ho' h) (ho s (by simp))]
    simp only [before_mem ho' h]
    constructor
    · rintro ⟨y, h1, z, h2, h3⟩
      exact ⟨z, by simp [stepsOn, h1, h2], h3⟩
    · rintro ⟨z, h2, h3⟩
      unfold stepsOn at h2
      cases h1 : stepOn s x with
      | none => rw [h1] at h2; cases h2
      | some y => rw [h1] at h2; exact ⟨y, rfl, z, h2, h3⟩
theorem erring_nf : ∀ {ss : List Stp}, (∀ s ∈ ss, okS s) → Nf (erring ss)
  | [], _ => by show Nf (merged []); rw [merged_nil]; exact nf_nil
  | s :: ss, ho => spU_nf (before_one_nf (erring_nf fun t ht => ho t (by simp [ht])) (ho s (by simp))) (erringAt_nf s)
theorem erring_mem : ∀ {ss : List Stp} {x : Int}, (∀ s ∈ ss, okS s) → (MemL x (erring ss) ↔ stepsOn ss x = none)
  | [], x, _ => by show MemL x (merged []) ↔ _; rw [merged_nil]; simp [stepsOn, memL_nil]
  | s :: ss, x, ho => by
    have ho' : ∀ t ∈ ss, okS t := fun t ht => ho t (by simp [ht])
    show MemL x (spU (beforeOne s (erring ss)) (erringAt s)) ↔ _
    rw [spU_mem (before_one_nf (erring_nf ho') (ho s (by simp))) (erringAt_nf s), before_one_mem (erring_nf ho') (ho s (by simp)), erringAt_mem]
    simp only [erring_mem ho']
    rw [show stepsOn (s :: ss) x = (match stepOn s x with | none => none | some y => stepsOn ss y) from rfl]
    cases h1 : stepOn s x with
    | none => simp
    | some y => simp
/-! ## tests -/
theorem holding_all (s : Sgn) (n : Int) : Nf (holding s n) ∧ ∀ x, MemL x (holding s n) ↔ isSo x s n = true := by
  have hl : Nf (merged [((none, some (n - 1)) : Pr)]) := merged_nf (by intro p hp; rw [List.mem_singleton.mp hp]; rfl)
  have ml : ∀ x, MemL x (merged [((none, some (n - 1)) : Pr)]) ↔ x < n := fun x => by
    rw [merged_mem (by intro p hp; rw [List.mem_singleton.mp hp]; rfl), memL_one]
    simp [inP]
    omega
  have hs : Nf (merged [dot n]) := merged_nf (by intro p hp; rw [List.mem_singleton.mp hp]; exact vld_dot n)
  have ms : ∀ x, MemL x (merged [dot n]) ↔ x = n := fun x => by
    rw [merged_mem (by intro p hp; rw [List.mem_singleton.mp hp]; exact vld_dot n), memL_one, inP_dot]
  cases s with
  | lt => exact ⟨hl, fun x => by rw [show holding .lt n = merged [((none, some (n - 1)) : Pr)] from rfl, ml]; simp [isSo]⟩
  | eq => exact ⟨hs, fun x => by rw [show holding .eq n = merged [dot n] from rfl, ms]; simp [isSo]⟩
  | le => exact ⟨spU_nf hl hs, fun x => by rw [show holding .le n = spU (merged [((none, some (n - 1)) : Pr)]) (merged [dot n]) from rfl, spU_mem hl hs, ml, ms]; simp [isSo]; omega⟩
  | gt => exact ⟨spN_nf (spU_nf hl hs), fun x => by rw [show holding .gt n = spN (spU (merged [((none, some (n - 1)) : Pr)]) (merged [dot n])) from rfl, spN_mem (spU_nf hl hs), spU_mem hl hs, ml, ms]; simp [isSo]; omega⟩
  | ge => exact ⟨spN_nf hl, fun x => by rw [show holding .ge n = spN (merged [((none, some (n - 1)) : Pr)]) from rfl, spN_mem hl, ml]; simp [isSo]⟩
  | ne => exact ⟨spN_nf hs, fun x => by rw [show holding .ne n = spN (merged [dot n]) from rfl, spN_mem hs, ms]; simp [isSo]⟩
theorem told_all {t : Tst} (ho : ∀ s ∈ t.steps, okS s) (a : Ans) : Nf (toldA t a) ∧ ∀ x, MemL x (toldA t a) ↔ ansAt t x = a := by
  obtain ⟨h1, h2⟩ := holding_all t.sign t.n
  have he := erring_nf ho
  have me : ∀ x, MemL x (erring t.steps) ↔ stepsOn t.steps x = none := fun x => erring_mem ho
  have hb := before_nf ho h1
  have mb : ∀ x, MemL x (before t.steps (holding t.sign t.n)) ↔ ∃ y, stepsOn t.steps x = some y ∧ isSo y t.sign t.n = true := fun x => by
    rw [before_mem ho h1]
    simp only [h2]
  have key : ∀ x, ansAt t x = match stepsOn t.steps x with
    | none => .error
    | some y => if isSo y t.sign t.n = true then .yes else .no := fun x => rfl
  cases a with
  | error =>
    refine ⟨he, fun x => ?_⟩
    show MemL x (erring t.steps) ↔ _
    rw [me, key]
    cases stepsOn t.steps x with
    | none => simp
    | some y => simp; split <;> simp
  | yes =>
    refine ⟨hb, fun x => ?_⟩
    show MemL x (before t.steps (holding t.sign t.n)) ↔ _
    rw [mb, key]
    cases stepsOn t.steps x with
    | none => simp
    | some y => simp
  | no =>
    refine ⟨spN_nf (spU_nf he hb), fun x => ?_⟩
    show MemL x (spN (spU (erring t.steps) (before t.steps (holding t.sign t.n)))) ↔ _
    rw [spN_mem (spU_nf he hb), spU_mem he hb, me, mb, key]
    cases stepsOn t.steps x with
    | none => simp
    | some y => simp
  | unknown =>
    refine ⟨by show Nf (merged []); rw [merged_nil]; exact nf_nil, fun x => ?_⟩
    show MemL x (merged []) ↔ _
    rw [merged_nil, key]
    cases stepsOn t.steps x with
    | none => simp [memL_nil]
    | some y => simp [memL_nil]; split <;> simp
end RA
end

section
set_option linter.all false
set_option autoImplicit false
namespace RA
/-! ## bounds -/
def bdS : Stp → Prop
  | .plus k => k.natAbs ≤ 2 ^ 44
  | .times k => k.natAbs ≤ 2 ^ 44
  | .into k => k.natAbs ≤ 2 ^ 44
  | .over k => k.natAbs ≤ 2 ^ 44
  | .found ps => (∀ q ∈ ps, q.1.natAbs ≤ 2 ^ 44 ∧ q.2.natAbs ≤ 2 ^ 44) ∧ ps.length ≤ 6
theorem two_pow_add (n : Nat) : 2 ^ n * 2 ^ 50 = 2 ^ (n + 50) := (Nat.pow_add 2 n 50).symm
theorem stepOn_bd {s : Stp} {x y : Int} {n : Nat} (hb : bdS s) (hx : x.natAbs < 2 ^ n) (h : stepOn s x = some y) : y.natAbs < 2 ^ (n + 50) := by
  have h1 : 2 ^ n * 2 ^ 50 = 2 ^ (n + 50) := two_pow_add n
  have h2 : 1 ≤ 2 ^ n := Nat.one_le_two_pow
  have h3 : (2 : Nat) ^ 44 * 64 = 2 ^ 50 := by decide
  have h4 : 2 ^ 50 ≤ 2 ^ n * 2 ^ 50 := Nat.le_mul_of_pos_left _ h2
  have h5 : 2 ^ n * 64 ≤ 2 ^ n * 2 ^ 50 := Nat.mul_le_mul_left _ (by decide)
  cases s with
  | plus k =>
    cases h
    have hk : k.natAbs ≤ 2 ^ 44 := hb
    have := Int.natAbs_add_le x k
    omega
  | times k =>
    cases h
    have hk : k.natAbs ≤ 2 ^ 44 := hb
    rw [Int.natAbs_mul]
    have h6 : x.natAbs * k.natAbs ≤ x.natAbs * 2 ^ 50 := Nat.mul_le_mul_left _ (by omega)
    have h7 : x.natAbs * 2 ^ 50 < 2 ^ n * 2 ^ 50 := Nat.mul_lt_mul_of_pos_right hx (by decide)
    omega
  | into k =>
    cases h
    have := natAbs_fdiv x k
    omega
  | over k =>
    have h : (if x = 0 then none else some (k.fdiv x)) = some y := h
    split at h
    · cases h
    · cases h
      have hk : k.natAbs ≤ 2 ^ 44 := hb
      have := natAbs_fdiv k x
      omega
  | found ps =>
    have h : lookP ps x = some y := h
    unfold lookP at h
    obtain ⟨q, h6, rfl⟩ := Option.map_eq_some_iff.mp h
    have := hb.1 q (List.mem_of_find?_eq_some h6)
    omega
end RA
end

section
set_option Elab.async false
set_option linter.all false
set_option autoImplicit false
set_option maxRecDepth 100000
set_option maxHeartbeats 4000000
namespace RA
open PySem PySem.Spec PyProof.Rows L2
/-! ## steps as data -/
def wordS : Stp → Str
  | .plus _ => "plus"
  | .times _ => "times"
  | .into _ => "into"
  | .over _ => "over"
  | .found _ => "found"
def encQ (q : Int × Int) : PyData := .tuple [.int q.1, .int q.2]
def argS : Stp → PyData
  | .plus k => .int k
  | .times k => .int k
  | .into k => .int k
  | .over k => .int k
  | .found ps => .tuple (ps.map encQ)
def encS (s : Stp) : PyData := .tuple [.str (wordS s), argS s]
theorem tupD_q (q : Int × Int) : tupD (encQ q) = true := by simp [encQ, tupD, tupDs]
theorem tupD_s (s : Stp) : tupD (encS s) = true := by
  cases s <;> simp [encS, argS, tupD, tupDs]
  exact tupDs_map tupD_q _
section
variable {P : Program} {w : World} {K : PySem.W.Frag} {mg : Str → Option Value} {base : Heap} {CE : Addr}
theorem dp_s {H : Hp} {v : V} {s : Stp} (h : Dp K H v (encS s)) : ∃ a u, v = .ref a ∧ SqT K H a [.str (wordS s), u] ∧ Dp K H u (argS s) := by
  obtain ⟨a, xs, rfl, ha, hx⟩ := dp_tup h
  obtain ⟨v1, r1, rfl, h1, hx⟩ := dps_cons hx
  obtain ⟨v2, r2, rfl, h2, hx⟩ := dps_cons hx
  cases dps_nil hx
  rw [dp_str h1] at ha
  exact ⟨a, v2, rfl, ha, h2⟩
theorem dp_q {H : Hp} {v : V} {q : Int × Int} (h : Dp K H v (encQ q)) : ∃ a, v = .ref a ∧ SqT K H a [.int q.1, .int q.2] := by
  obtain ⟨a, xs, rfl, ha, hx⟩ := dp_tup h
  obtain ⟨v1, r1, rfl, h1, hx⟩ := dps_cons hx
  obtain ⟨v2, r2, rfl, h2, hx⟩ := dps_cons hx
  cases dps_nil hx
  rw [dp_int h1, dp_int h2] at ha
  exact ⟨a, rfl, ha⟩
/-! ## Errs -/
def spErrI (K : PySem.W.Frag) (C : Addr) : Sp := fun vs H Q _ => ∃ a y, vs = [.ref a, y] ∧ H a = some (exo a C Option.none) ∧ OexC K C ∧ PySem.W.findIn K (.ref C) "number" = some Option.none ∧
  ∀ dx, H dx = Option.none → dx ≠ a → Q .non (upd (upd H dx (exd dx [("number", y)])) a (exo a C (some dx)))
abbrev sErrI : Stmt := inClass (top 4) 0
theorem scErrI : FnScope ["self", "number"] ["self", "number"] (defScope sErrI) := ⟨rfl, rfl, rfl, by decide +kernel, rfl, by decide +kernel, by decide +kernel⟩
theorem ok_errI {f : Addr} {fd : FuncData} (F : Fun K "__init__" "Errs.__init__" sErrI f fd) : FnOk P w K mg base CX0 1 f fd ["self", "number"] (spErrI K CE) := by
  refine F.ok scErrI (fun vs H Q E h => ?_) (fun cdv A outer s H vs Q E hr h => ?_)
  · obtain ⟨a, y, rfl, _⟩ := h
    rfl
  · obtain ⟨a, y, rfl, h1, h2, h3, q⟩ := h
    exact ⟨_, pss_one (ps_ost (pv 0) (pv 1)), _, rfl, _, rfl, a, CE, rfl, h2, h3, .inl ⟨h1, fun dx hd hn => q dx hd hn⟩⟩
/-- Errs, ready to be raised -/
def ErMk (P : Program) (w : World) (K : PySem.W.Frag) (mg : Str → Option Value) (base : Heap) (C : Addr) : Prop :=
  mg "Errs" = some (.ref C) ∧ OexC K C ∧ PySem.W.findIn K (.ref C) "number" = some Option.none ∧ PySem.W.exmOne K (.ref C) (.ref C) = some true ∧
  ∃ fI fd, PySem.W.findIn K (.ref C) "__init__" = some (some (.ref fI)) ∧ PySem.W.typeIn K (.ref fI) = some (.type "function") ∧ Binds K fd ["self", "number"] [] ∧ FnOk P w K mg base CX0 1 fI fd ["self", "number"] (spErrI K C)
/-- raise Errs(e) -/
def tErr (W : WX) (C : Addr) (te : TE) : TS := fun _ σ H => te σ H fun _ H1 => ∀ d H', Same H1 H' → W (.ref C) d σ H'
theorem ps_err {X : Cx} {W : WX} {e : Expr} {te : TE} {p pos pos2 : Pos} (S : ErMk X.prog X.w X.K X.mg X.base CE) (hr : Room 2 X.A) (tk : L2.Takes X W) (he : PE X e te) (hc : X.calm = true := by rfl) (hg : Gl X "Errs" := by rfl)
    (hst : starEach [e] X.env = (false, eval e X.env) :: starEach [] X.env := by rfl) (hpl : (backTo pos (starEach [] X.env)).any (·.1) = false := by rfl) : PS X (.Raise (some (.Call (.Name "Errs" p) [e] [] pos)) Option.none pos2) (tErr W CE te) := by
  obtain ⟨hm, T, nN, _, fI, fd, iC, tI, hb, hF⟩ := S
  have h := ps_raise (pos := pos2) hc tk (pmk_oex (p := p) T iC tI hF hr hb .nil pass0 hg hm (pa_cons (pe_mono he) pa_nil hst) (by decide) hst hpl)
  refine ⟨fun pins s σ H D I q => h.run pins s σ H D I ?_⟩
  refine ⟨_, q, fun v H1 hq => ?_⟩
  refine ⟨(by show 1 ≤ 1000; decide), fun a ha => ⟨a, v, rfl, upd_same, T, nN, fun dx hd hne => ⟨rfl, dx, [(("number" : Str), v)], upd_same, ?_, ?_, hq _ _ ?_⟩⟩⟩
  · rw [upd_ne hne, upd_same]
  · rw [upd_ne hne] at hd
    exact hd
  · intro b o e
    have h1 : b ≠ a := ne_of_none e ha
    have h2 : b ≠ dx := by
      rintro rfl
      rw [upd_ne h1] at hd
      rw [e] at hd
      cases hd
    rw [upd_ne h2, del_ne h1, upd_ne h1, upd_ne h2, upd_ne h1]
    exact e
/-! ## step_on -/
theorem takesE {X : Cx} {CX : CXT} {E : XK} : True := trivial
def spStepOn (K : PySem.W.Frag) (CE : Addr) : Sp := fun vs H Q E => ∃ v s x, vs = [v, .int x] ∧ Dp K H v (encS s) ∧ okS s ∧ bdS s ∧ x.natAbs < 2 ^ 500 ∧ (∀ y, stepOn s x = some y → Q (.int y) H) ∧ (stepOn s x = none → ∀ d H', Same H H' → E (.ref CE) d H')
abbrev sStepOn : Stmt := top 22
abbrev nStepOn : List Str := ["step", "number", "word", "k", "key", "found"]
theorem scStepOn : FnScope nStepOn ["step", "number"] (defScope sStepOn) := ⟨rfl, rfl, rfl, by decide +kernel, rfl, by decide +kernel, by decide +kernel⟩
theorem log_of {k : Int} {n : Nat} (h : k.natAbs < 2 ^ n) (hn : n ≤ 8999) : k.natAbs.log2 < 9000 := by
  by_cases h0 : k.natAbs = 0
  · rw [h0]; decide
  · have := (Nat.log2_lt h0).mpr h
    omega
theorem str_ne {a b : Str} (h : a ≠ b) : decide (V.str a = V.str b) = false := decide_eq_false fun e => h (by cases e; rfl)
theorem str_eq {a : Str} : decide (V.str a = V.str a) = true := decide_eq_true rfl
theorem ok_stepOn {f : Addr} {fd : FuncData} (F : Fun K "step_on" "step_on" sStepOn f fd) (S : ErMk P w K mg base CE) : FnOk P w K mg base (L2.CX P w) 3 f fd ["step", "number"] (spStepOn K CE) := by
  refine F.okX scStepOn (fun vs H Q E h => ?_) (fun cdv A outer s H vs Q E hr h => ?_)
  · obtain ⟨v, s, x, rfl, _⟩ := h
    rfl
  · obtain ⟨v, st, x, rfl, hv, hok, hbd, hx, q, qe⟩ := h
    obtain ⟨a, u, rfl, ha, hu⟩ := dp_s hv
    have nd := scStepOn.nd
    refine ⟨_, pss_cons (ps_asg (pv 0) (pg_tup rfl (pgs_cons (pg_name (i := 2) nd rfl (Or.inl rfl)) (pgs_cons (pg_name (i := 3) nd rfl (Or.inl rfl)) pgs_nil))))
      (pss_cons (ps_if (pt_cmpR op_eq (pv 2) pe_str (nomark _)) (pss_one (ps_ret (pe_op op_add (pv 1) (pv 3)))) pss_nil)
      (pss_cons (ps_if (pt_cmpR op_eq (pv 2) pe_str (nomark _)) (pss_one (ps_ret (pe_op op_mulW (pv 1) (pv 3)))) pss_nil)
      (pss_cons (ps_if (pt_cmpR op_eq (pv 2) pe_str (nomark _)) (pss_one (ps_ret (pe_op op_fdivA (pv 1) (pv 3)))) pss_nil)
      (pss_cons (ps_if (pt_cmpR op_eq (pv 2) pe_str (nomark _)) (pss_cons (ps_if (pt_cmpR op_eq (pv 1) pe_int (nomark _)) (pss_one (ps_err S hr (L2.takes_of rfl rfl rfl rfl) (pv 1))) pss_nil) (pss_one (ps_ret (pe_op op_fdivA (pv 3) (pv 1))))) pss_nil)
      (pss_cons (ps_for (passes_of rfl) rfl (pi_tup (pv 3)) (pg_tup rfl (pgs_cons (pg_name (i := 4) nd rfl (Or.inl rfl)) (pgs_cons (pg_name (i := 5) nd rfl (Or.inl rfl)) pgs_nil)))
          (pss_one (ps_if (pt_cmpR op_eq (pv 4) (pv 1) (nomark _)) (pss_one (ps_ret (pv 5))) pss_nil)))
        (pss_one (ps_err S hr (L2.takes_of rfl rfl rfl rfl) (pv 1)))))))), ?_⟩
    refine ⟨_, rfl, a, _, rfl, ha, rfl, _, _, rfl, _, _, rfl, rfl, ?_⟩
    cases st with
    | plus k =>
      cases dp_int hu
      exact ⟨_, rfl, rfl, _, rfl, iteT ⟨_, rfl, _, rfl, _, _, rfl, rfl, q _ rfl⟩⟩
    | times k =>
      cases dp_int hu
      have hk : k.natAbs ≤ 2 ^ 44 := hbd
      exact ⟨_, rfl, rfl, _, rfl, iteF ⟨_, rfl, rfl, _, rfl, iteT ⟨_, rfl, _, rfl, _, _, rfl, rfl, wide_mul hx (Nat.lt_of_le_of_lt hk (Nat.pow_lt_pow_right (a := 2) (m := 44) (n := 45) (by decide) (by decide))) (by decide) (by decide) (by decide), q _ rfl⟩⟩⟩
    | into k =>
      cases dp_int hu
      have hk : k.natAbs ≤ 2 ^ 44 := hbd
      have hk1 : 1 ≤ k := hok
      exact ⟨_, rfl, rfl, _, rfl, iteF ⟨_, rfl, rfl, _, rfl, iteF ⟨_, rfl, rfl, _, rfl, iteT ⟨_, rfl, _, rfl, _, _, rfl, rfl, ⟨by omega, log_of (n := 45) (by omega) (by decide)⟩, q _ rfl⟩⟩⟩⟩
    | over k =>
      cases dp_int hu
      have hk : k.natAbs ≤ 2 ^ 44 := hbd
      refine ⟨_, rfl, rfl, _, rfl, iteF ⟨_, rfl, rfl, _, rfl, iteF ⟨_, rfl, rfl, _, rfl, iteF ⟨_, rfl, rfl, _, rfl, iteT ⟨_, rfl, rfl, _, rfl, ?_⟩⟩⟩⟩⟩
      by_cases h0 : x = 0
      · subst h0
        exact iteT ⟨_, rfl, fun d H' s' => qe rfl d H' s'⟩
      · have e : stepOn (.over k) x = some (k.fdiv x) := by
          show (if x = 0 then none else some (k.fdiv x)) = _
          rw [if_neg h0]
        rw [show decide (V.int x = V.int 0) = false from decide_eq_false fun e => h0 (by cases e; rfl)]
        exact iteF ⟨_, rfl, _, rfl, _, _, rfl, rfl, ⟨h0, log_of hx (by decide)⟩, q _ e⟩
    | found ps =>
      obtain ⟨b, ys, rfl, hb, hy⟩ := dp_tup hu
      have eyl : ys.length = ps.length := by rw [DpAll.len hy, List.length_map]
      refine ⟨_, rfl, rfl, _, rfl, iteF ⟨_, rfl, rfl, _, rfl, iteF ⟨_, rfl, rfl, _, rfl, iteF ⟨_, rfl, rfl, _, rfl, iteF ⟨_, rfl, b, rfl, ⟨ys, hb⟩, for_tup (xs := ys) (fun i σ H' => (∃ c d, σ = [some (.ref a), some (.int x), some (.str "found"), some (.ref b), c, d]) ∧ H' = H ∧ ∀ q ∈ ps.take i, q.1 ≠ x) ?_ ?_ ?_ ?_⟩⟩⟩⟩⟩
      · exact ⟨⟨_, _, rfl⟩, rfl, by simp⟩
      · rintro i σ H' _ ⟨_, rfl, _⟩
        exact hb
      · rintro i z σ H' hzi ⟨⟨c, d, rfl⟩, rfl, hno⟩
        obtain ⟨e, he1, he2⟩ := DpAll.get hy hzi
        rw [List.getElem?_map] at he1
        cases hp : ps[i]? with
        | none => rw [hp] at he1; cases he1
        | some p =>
          rw [hp] at he1
          cases he1
          obtain ⟨t, rfl, ht⟩ := dp_q he2
          refine ⟨t, _, rfl, ht, rfl, _, _, rfl, _, _, rfl, rfl, _, rfl, _, rfl, rfl, _, rfl, ?_⟩
          have et : ps.take (i + 1) = ps.take i ++ [p] := by
            rw [List.take_add_one, hp]
            rfl
          by_cases hpx : p.1 = x
          · rw [show decide (V.int p.1 = V.int x) = true from decide_eq_true (by rw [hpx])]
            have es : ps = ps.take i ++ p :: ps.drop (i + 1) := by
              have := List.take_append_drop (i + 1) ps
              rw [et] at this
              simpa using this.symm
            have el : stepOn (.found ps) x = some p.2 := by
              show lookP ps x = _
              unfold lookP
              rw [es, List.find?_append]
              have : (ps.take i).find? (fun q => q.1 == x) = none := by
                simp
                intro a b hab e
                exact hno (a, b) hab e
              rw [this]
              simp [hpx]
            exact iteT ⟨_, rfl, q _ el⟩
          · rw [show decide (V.int p.1 = V.int x) = false from decide_eq_false fun e => hpx (by cases e; rfl)]
            refine iteF ⟨⟨_, _, rfl⟩, rfl, fun q hq => ?_⟩
            rw [et] at hq
            rcases List.mem_append.mp hq with hq | hq
            · exact hno q hq
            · rw [List.mem_singleton.mp hq]
              exact hpx
      · rintro σ H' ⟨⟨c, d, rfl⟩, rfl, hno⟩
        refine ⟨_, rfl, fun d H' s' => qe ?_ d H' s'⟩
        rw [eyl, List.take_length] at hno
        exact lookP_none.mpr hno
end
end RA
end

section
set_option Elab.async false
set_option linter.all false
set_option autoImplicit false
set_option maxRecDepth 100000
set_option maxHeartbeats 4000000
namespace RA
open PySem PySem.Spec PyProof.Rows L2
section
variable {P : Program} {w : World} {K : PySem.W.Frag} {mg : Str → Option Value} {base : Heap} {CE : Addr}
/-! ## steps_on -/
def FdX (P : Program) (w : World) (K : PySem.W.Frag) (mg : Str → Option Value) (base : Heap) (x : Str) (k : Nat) (ps : List Str) (sp : Sp) : Prop :=
  ∃ f fd, mg x = some (.ref f) ∧ PySem.W.keepIn K (.ref f) = true ∧ Binds K fd ps [] ∧ FnOk P w K mg base (L2.CX P w) k f fd ps sp
def spStepsOn (K : PySem.W.Frag) (CE : Addr) : Sp := fun vs H Q E => ∃ a xs ss x, vs = [.ref a, .int x] ∧ SqT K H a xs ∧ DpAll K H xs (ss.map encS) ∧ (∀ s ∈ ss, okS s ∧ bdS s) ∧ ss.length ≤ 8 ∧ x.natAbs < 2 ^ 50 ∧
  (∀ y, stepsOn ss x = some y → Q (.int y) H) ∧ (stepsOn ss x = none → ∀ d H', Same H H' → E (.ref CE) d H')
abbrev sStepsOn : Stmt := top 23
abbrev nStepsOn : List Str := ["steps", "number", "step"]
theorem scStepsOn : FnScope nStepsOn ["steps", "number"] (defScope sStepsOn) := ⟨rfl, rfl, rfl, by decide +kernel, rfl, by decide +kernel, by decide +kernel⟩
theorem ok_stepsOn {f : Addr} {fd : FuncData} (F : Fun K "steps_on" "steps_on" sStepsOn f fd) (Fs : FdX P w K mg base "step_on" 3 ["step", "number"] (spStepOn K CE)) : FnOk P w K mg base (L2.CX P w) 4 f fd ["steps", "number"] (spStepsOn K CE) := by
  refine F.okX scStepsOn (fun vs H Q E h => ?_) (fun cdv A outer s H vs Q E hr h => ?_)
  · obtain ⟨a, xs, ss, x, rfl, _⟩ := h
    rfl
  · obtain ⟨a, xs, ss, x, rfl, ha, hx, hok, hlen, hx0, q, qe⟩ := h
    obtain ⟨g, gd, hm, hk, hb, hF⟩ := Fs
    have nd := scStepsOn.nd
    refine ⟨_, pss_cons (ps_for (passes_of rfl) rfl (pi_tup (pv 0)) (pg_name (i := 2) nd rfl (Or.inl rfl)) (pss_one (ps_set nd (i := 1) rfl (Or.inl rfl) (pe_call hF hr (by rfl) hm hk hb .nil (passes_call (L2.takes_of rfl rfl rfl rfl) (fun cls d σ H h => h)) (pa_cons (pv 2) (pa_cons (pv 1) pa_nil))))))
      (pss_one (ps_ret (pv 1))), ?_⟩
    have exl : xs.length = ss.length := by rw [DpAll.len hx, List.length_map]
    refine ⟨_, rfl, a, rfl, ⟨xs, ha⟩, for_tup (xs := xs) (fun i σ H' => ∃ n c, σ = [some (.ref a), some (.int n), c] ∧ H' = H ∧ n.natAbs < 2 ^ (50 + 50 * i) ∧ stepsOn ss x = stepsOn (ss.drop i) n) ?_ ?_ ?_ ?_⟩
    · exact ⟨x, _, rfl, rfl, hx0, rfl⟩
    · rintro i σ H' _ ⟨n, c, rfl, rfl, _⟩
      exact ha
    · rintro i z σ H' hzi ⟨n, c, rfl, rfl, hn, he⟩
      obtain ⟨d, hd1, hd2⟩ := DpAll.get hx hzi
      rw [List.getElem?_map] at hd1
      cases hp : ss[i]? with
      | none => rw [hp] at hd1; cases hd1
      | some p =>
        rw [hp] at hd1
        cases hd1
        obtain ⟨hil, hpe⟩ := List.getElem?_eq_some_iff.mp hp
        have hpm : p ∈ ss := List.mem_of_getElem? hp
        have hn5 : n.natAbs < 2 ^ 500 := Nat.lt_of_lt_of_le hn (Nat.pow_le_pow_right (by decide) (by omega))
        have ed : ss.drop i = p :: ss.drop (i + 1) := by rw [List.drop_eq_getElem_cons hil, hpe]
        refine ⟨_, rfl, _, rfl, _, p, n, rfl, hd2, (hok p hpm).1, (hok p hpm).2, hn5, fun y hy => ?_, fun hy => qe ?_⟩
        · refine ⟨y, _, rfl, rfl, ?_, ?_⟩
          · have := stepOn_bd (hok p hpm).2 hn hy
            rw [show 50 + 50 * (i + 1) = 50 + 50 * i + 50 by omega]
            exact this
          · rw [he, ed]
            unfold stepsOn
            rw [hy]
            cases ss.drop (i + 1) <;> rfl
        · rw [he, ed]
          unfold stepsOn
          rw [hy]
    · rintro σ H' ⟨n, c, rfl, rfl, hn, he⟩
      refine ⟨_, rfl, q n ?_⟩
      rw [he, exl, List.drop_length]
      rfl
/-! ## the small ones -/
def spRaised : Sp := fun vs H Q _ => ∃ e k, vs = [endV e, .int k] ∧ Q (endV (shiftO k e)) H
abbrev sRaised : Stmt := top 26
theorem scRaised : FnScope ["number", "by"] ["number", "by"] (defScope sRaised) := ⟨rfl, rfl, rfl, by decide +kernel, rfl, by decide +kernel, by decide +kernel⟩
theorem ok_raised {f : Addr} {fd : FuncData} (F : Fun K "raised" "raised" sRaised f fd) : FnOk P w K mg base CX0 1 f fd ["number", "by"] spRaised := by
  refine F.ok scRaised (fun vs H Q E h => ?_) (fun cdv A outer s H vs Q E hr h => ?_)
  · obtain ⟨e, k, rfl, _⟩ := h
    rfl
  · obtain ⟨e, k, rfl, q⟩ := h
    refine ⟨_, pss_one (ps_ret (pe_ifExp (pt_cmpR op_isN (pv 0) pe_non (nomark _)) pe_non (pe_op op_add (pv 0) (pv 1)))), ?_⟩
    cases e with
    | none => exact ⟨_, rfl, rfl, _, rfl, iteT q⟩
    | some i => exact ⟨_, rfl, rfl, _, rfl, iteF ⟨_, rfl, _, rfl, _, _, rfl, rfl, q⟩⟩
def spOverUp : Sp := fun vs H Q _ => ∃ n d, vs = [.int n, .int d] ∧ d ≠ 0 ∧ d.natAbs < 2 ^ 8000 ∧ Q (.int (overUp n d)) H
abbrev sOverUp : Stmt := top 27
theorem scOverUp : FnScope ["number", "divisor"] ["number", "divisor"] (defScope sOverUp) := ⟨rfl, rfl, rfl, by decide +kernel, rfl, by decide +kernel, by decide +kernel⟩
theorem ok_overUp {f : Addr} {fd : FuncData} (F : Fun K "over_up" "over_up" sOverUp f fd) : FnOk P w K mg base CX0 1 f fd ["number", "divisor"] spOverUp := by
  refine F.ok scOverUp (fun vs H Q E h => ?_) (fun cdv A outer s H vs Q E hr h => ?_)
  · obtain ⟨n, d, rfl, _⟩ := h
    rfl
  · obtain ⟨n, d, rfl, h0, hd, q⟩ := h
    exact ⟨_, pss_one (ps_ret (pe_un un_neg (pe_op op_fdivA (pe_un un_neg (pv 0)) (pv 1)))), _, rfl, _, rfl, _, rfl, _, _, rfl, rfl, ⟨h0, log_of hd (by decide)⟩, _, rfl, q⟩
/-- a stretch comes, a stretch or None goes -/
def spPair (K : PySem.W.Frag) (ok : Pr → Int → Prop) (g : Pr → Int → Option Pr) : Sp := fun vs H Q _ => ∃ v p k, vs = [v, .int k] ∧ Dp K H v (encP p) ∧ ok p k ∧ ∀ v' H', Same H H' → Dp K H' v' (encO (g p k)) → Q v' H'
abbrev sMirr : Stmt := top 31
def spMirr (K : PySem.W.Frag) : Sp := fun vs H Q _ => ∃ v p, vs = [v] ∧ Dp K H v (encP p) ∧ RetD K H Q (encP (mirroredP p))
theorem scMirr : FnScope ["pair", "low", "high"] ["pair"] (defScope sMirr) := ⟨rfl, rfl, rfl, by decide +kernel, rfl, by decide +kernel, by decide +kernel⟩
theorem ok_mirr {f : Addr} {fd : FuncData} (F : Fun K "mirrored" "mirrored" sMirr f fd) : FnOk P w K mg base CX0 1 f fd ["pair"] (spMirr K) := by
  refine F.ok scMirr (fun vs H Q E h => ?_) (fun cdv A outer s H vs Q E hr h => ?_)
  · obtain ⟨v, p, rfl, _⟩ := h
    rfl
  · obtain ⟨v, p, rfl, hv, q⟩ := h
    obtain ⟨a, rfl, ha⟩ := dp_prv hv
    obtain ⟨p1, p2⟩ := p
    have nd := scMirr.nd
    refine ⟨_, pss_cons (ps_asg (pv 0) (pg_tup rfl (pgs_cons (pg_name (i := 1) nd rfl (Or.inl rfl)) (pgs_cons (pg_name (i := 2) nd rfl (Or.inl rfl)) pgs_nil))))
      (pss_one (ps_ret (pe_tup (pa_cons (pe_ifExp (pt_cmpR op_isN (pv 2) pe_non (nomark _)) pe_non (pe_un un_neg (pv 2))) (pa_cons (pe_ifExp (pt_cmpR op_isN (pv 1) pe_non (nomark _)) pe_non (pe_un un_neg (pv 1))) pa_nil))))), ?_⟩
    refine ⟨_, rfl, a, _, rfl, ha, rfl, _, _, rfl, _, _, rfl, rfl, ?_⟩
    cases p1 <;> cases p2
    · exact ⟨_, rfl, rfl, _, rfl, iteT ⟨_, rfl, rfl, _, rfl, iteT ⟨two_sz, fun T hT => q _ _ (same_upd hT) (dp_pr_new (p := (Option.none, Option.none)) upd_same)⟩⟩⟩
    · exact ⟨_, rfl, rfl, _, rfl, iteF ⟨_, rfl, _, rfl, _, rfl, rfl, _, rfl, iteT ⟨two_sz, fun T hT => q _ _ (same_upd hT) (dp_pr_new (p := (some _, Option.none)) upd_same)⟩⟩⟩
    · exact ⟨_, rfl, rfl, _, rfl, iteT ⟨_, rfl, rfl, _, rfl, iteF ⟨_, rfl, _, rfl, two_sz, fun T hT => q _ _ (same_upd hT) (dp_pr_new (p := (Option.none, some _)) upd_same)⟩⟩⟩
    · exact ⟨_, rfl, rfl, _, rfl, iteF ⟨_, rfl, _, rfl, _, rfl, rfl, _, rfl, iteF ⟨_, rfl, _, rfl, two_sz, fun T hT => q _ _ (same_upd hT) (dp_pr_new (p := (some _, some _)) upd_same)⟩⟩⟩
def bdE (n : Nat) (e : Option Int) : Prop := ∀ a, e = some a → a.natAbs < 2 ^ n
def spInto (K : PySem.W.Frag) : Sp := fun vs H Q _ => ∃ v p d, vs = [v, .int d] ∧ Dp K H v (encP p) ∧ bdE 500 p.1 ∧ bdE 500 p.2 ∧ d.natAbs < 2 ^ 50 ∧ RetD K H Q (encP (intoEnds p d))
abbrev sInto : Stmt := top 29
theorem scInto : FnScope ["pair", "d", "low", "high"] ["pair", "d"] (defScope sInto) := ⟨rfl, rfl, rfl, by decide +kernel, rfl, by decide +kernel, by decide +kernel⟩
theorem ok_into {f : Addr} {fd : FuncData} (F : Fun K "into_ends" "into_ends" sInto f fd) : FnOk P w K mg base CX0 1 f fd ["pair", "d"] (spInto K) := by
  refine F.ok scInto (fun vs H Q E h => ?_) (fun cdv A outer s H vs Q E hr h => ?_)
  · obtain ⟨v, p, d, rfl, _⟩ := h
    rfl
  · obtain ⟨v, p, d, rfl, hv, h1, h2, hd, q⟩ := h
    obtain ⟨a, rfl, ha⟩ := dp_prv hv
    obtain ⟨p1, p2⟩ := p
    have nd := scInto.nd
    refine ⟨_, pss_cons (ps_asg (pv 0) (pg_tup rfl (pgs_cons (pg_name (i := 2) nd rfl (Or.inl rfl)) (pgs_cons (pg_name (i := 3) nd rfl (Or.inl rfl)) pgs_nil))))
      (pss_one (ps_ret (pe_tup (pa_cons (pe_ifExp (pt_cmpR op_isN (pv 2) pe_non (nomark _)) pe_non (pe_op op_mulW (pv 2) (pv 1))) (pa_cons (pe_ifExp (pt_cmpR op_isN (pv 3) pe_non (nomark _)) pe_non (pe_op op_sub (pe_op op_add (pe_op op_mulW (pv 3) (pv 1)) (pv 1)) pe_int)) pa_nil))))), ?_⟩
    refine ⟨_, rfl, a, _, rfl, ha, rfl, _, _, rfl, _, _, rfl, rfl, ?_⟩
    have m : ∀ x : Int, x.natAbs < 2 ^ 500 → CMulW x d := fun x hx => wide_mul hx hd (by decide) (by decide) (by decide)
    cases p1 <;> cases p2
    · exact ⟨_, rfl, rfl, _, rfl, iteT ⟨_, rfl, rfl, _, rfl, iteT ⟨two_sz, fun T hT => q _ _ (same_upd hT) (dp_pr_new (p := (Option.none, Option.none)) upd_same)⟩⟩⟩
    · exact ⟨_, rfl, rfl, _, rfl, iteT ⟨_, rfl, rfl, _, rfl, iteF ⟨_, rfl, _, rfl, _, _, rfl, rfl, m _ (h2 _ rfl), _, rfl, _, _, rfl, rfl, _, _, rfl, rfl, two_sz, fun T hT => q _ _ (same_upd hT) (dp_pr_new (p := (Option.none, some _)) upd_same)⟩⟩⟩
    · exact ⟨_, rfl, rfl, _, rfl, iteF ⟨_, rfl, _, rfl, _, _, rfl, rfl, m _ (h1 _ rfl), _, rfl, rfl, _, rfl, iteT ⟨two_sz, fun T hT => q _ _ (same_upd hT) (dp_pr_new (p := (some _, Option.none)) upd_same)⟩⟩⟩
    · exact ⟨_, rfl, rfl, _, rfl, iteF ⟨_, rfl, _, rfl, _, _, rfl, rfl, m _ (h1 _ rfl), _, rfl, rfl, _, rfl, iteF ⟨_, rfl, _, rfl, _, _, rfl, rfl, m _ (h2 _ rfl), _, rfl, _, _, rfl, rfl, _, _, rfl, rfl, two_sz, fun T hT => q _ _ (same_upd hT) (dp_pr_new (p := (some _, some _)) upd_same)⟩⟩⟩
end
end RA
end

section
set_option Elab.async false
set_option linter.all false
set_option autoImplicit false
set_option maxRecDepth 100000
set_option maxHeartbeats 4000000
set_option exponentiation.threshold 10000
namespace RA
open PySem PySem.Spec PyProof.Rows L2
section
variable {P : Program} {w : World} {K : PySem.W.Frag} {mg : Str → Option Value} {base : Heap} {CE : Addr}
theorem max_is (i j : Int) : (if j > i then j else i) = max i j := by
  rw [Int.max_def]
  split <;> split <;> omega
theorem min_is (i j : Int) : (if j < i then j else i) = min i j := by
  rw [Int.min_def]
  split <;> split <;> omega
/-! ## before_times -/
def spTimes (K : PySem.W.Frag) : Sp := fun vs H Q _ => ∃ v p k, vs = [v, .int k] ∧ Dp K H v (encP p) ∧ k ≠ 0 ∧ k.natAbs < 2 ^ 50 ∧ RetD K H Q (encO (beforeTimes p k))
abbrev sTimes : Stmt := top 28
theorem scTimes : FnScope ["pair", "k", "low", "high", "found"] ["pair", "k"] (defScope sTimes) := ⟨rfl, rfl, rfl, by decide +kernel, rfl, by decide +kernel, by decide +kernel⟩
theorem pow_lt {n a b : Nat} (h : n < 2 ^ a) (hab : a ≤ b) : n < 2 ^ b := Nat.lt_of_lt_of_le h (Nat.pow_le_pow_right (by decide) hab)
theorem ok_times {f : Addr} {fd : FuncData} (F : Fun K "before_times" "before_times" sTimes f fd) (Fo : Fd P w K mg base "over_up" 1 ["number", "divisor"] spOverUp) : FnOk P w K mg base CX0 2 f fd ["pair", "k"] (spTimes K) := by
  refine F.ok scTimes (fun vs H Q E h => ?_) (fun cdv A outer s H vs Q E hr h => ?_)
  · obtain ⟨v, p, k, rfl, _⟩ := h
    rfl
  · obtain ⟨v, p, k, rfl, hv, hk0, hkb, q⟩ := h
    obtain ⟨a, rfl, ha⟩ := dp_prv hv
    have nd := scTimes.nd
    have hB : ∃ t, PSs (cxOf CX0 P w K mg base ["pair", "k", "low", "high", "found"] "before_times" (defScope sTimes) f cdv A outer s H E).nox ((defBody sTimes).drop 1) t ∧ ∀ (b c : Option Int) (H' : Hp) (e : Option V), Same H H' →
        RetD K H' Q (encO (if vld (b.map (overUp · k), c.map (·.fdiv k)) = true then some (b.map (overUp · k), c.map (·.fdiv k)) else none)) → t { nx := fun _ H' => Q .non H', rt := Q } [some (.ref a), some (.int k), some (endV b), some (endV c), e] H' := by
      refine ⟨_, pss_cons (ps_set nd (i := 4) rfl (Or.inl rfl) (pe_tup (pa_cons (pe_ifExp (pt_cmpR op_isN (pv 2) pe_non (nomark _)) pe_non (pe_f Fo hr (pa_cons (pv 2) (pa_cons (pv 1) pa_nil)))) (pa_cons (pe_ifExp (pt_cmpR op_isN (pv 3) pe_non (nomark _)) pe_non (pe_op op_fdivA (pv 3) (pv 1))) pa_nil))))
        (pss_one (ps_ret (pe_ifExp (PW.pt (pw_or (pt_cmpR op_in_seq pe_non (pv 4) (by rfl)) (pw_or1 (pt_cmpR op_le (pe_ix ix_tup (pv 4) pe_int (fun _ _ => rfl)) (pe_ix ix_tup (pv 4) pe_int (fun _ _ => rfl)) (nomark _))))) (pv 4) pe_non))), ?_⟩
      intro b c H' e hs q
      cases b with
      | none =>
        refine ⟨_, rfl, rfl, _, rfl, iteT ?_⟩
        cases c with
        | none => exact ⟨_, rfl, rfl, _, rfl, iteT ⟨two_sz, fun T hT => ⟨_, rfl, T, _, rfl, .inr (SqT.of upd_same), rfl, rfl, true, rfl, iteT ⟨_, rfl, q _ _ (same_upd hT) (dp_pr_new (p := (Option.none, Option.none)) upd_same)⟩⟩⟩⟩
        | some c => exact ⟨_, rfl, rfl, _, rfl, iteF ⟨_, rfl, _, rfl, _, _, rfl, rfl, ⟨hk0, log_of hkb (by decide)⟩, two_sz, fun T hT => ⟨_, rfl, T, _, rfl, .inr (SqT.of upd_same), rfl, rfl, true, rfl, iteT ⟨_, rfl, q _ _ (same_upd hT) (dp_pr_new (p := (Option.none, some _)) upd_same)⟩⟩⟩⟩
      | some b =>
        refine ⟨_, rfl, rfl, _, rfl, iteF ⟨_, rfl, _, rfl, _, _, rfl, hk0, pow_lt hkb (by decide), ?_⟩⟩
        cases c with
        | none => exact ⟨_, rfl, rfl, _, rfl, iteT ⟨two_sz, fun T hT => ⟨_, rfl, T, _, rfl, .inr (SqT.of upd_same), rfl, rfl, true, rfl, iteT ⟨_, rfl, q _ _ (same_upd hT) (dp_pr_new (p := (some _, Option.none)) upd_same)⟩⟩⟩⟩
        | some c =>
          refine ⟨_, rfl, rfl, _, rfl, iteF ⟨_, rfl, _, rfl, _, _, rfl, rfl, ⟨hk0, log_of hkb (by decide)⟩, two_sz, fun T hT => ⟨_, rfl, T, _, rfl, .inr (SqT.of upd_same), rfl, rfl, false, rfl, iteF ⟨_, rfl, T, _, 0, _, rfl, rfl, SqT.of upd_same, at0, _, rfl, T, _, 1, _, rfl, rfl, SqT.of upd_same, at1, _, _, rfl, rfl, _, rfl, ?_⟩⟩⟩⟩
          have ev : vld (Option.map (overUp · k) (some b), Option.map (·.fdiv k) (some c)) = decide (overUp b k ≤ c.fdiv k) := rfl
          rw [ev] at q
          by_cases hle : overUp b k ≤ c.fdiv k
          · rw [decide_eq_true hle, if_pos rfl] at q
            rw [decide_eq_true hle]
            exact iteT ⟨_, rfl, q _ _ (same_upd hT) (dp_pr_new (p := (some _, some _)) upd_same)⟩
          · rw [decide_eq_false hle, if_neg (by decide)] at q
            rw [decide_eq_false hle]
            exact iteF (q _ _ (same_upd hT) .non)
    obtain ⟨t, ht, hrd⟩ := hB
    refine ⟨_, pss_cons (ps_asg (pe_ifExp (pt_cmpR op_gt (pv 1) pe_int (nomark _)) (pv 0) (pe_tup (pa_cons (pe_ix ix_tup (pv 0) pe_int (fun _ _ => rfl)) (pa_cons (pe_ix ix_tup (pv 0) pe_int (fun _ _ => rfl)) pa_nil))))
      (pg_tup rfl (pgs_cons (pg_name (i := 2) nd rfl (Or.inl rfl)) (pgs_cons (pg_name (i := 3) nd rfl (Or.inl rfl)) pgs_nil)))) ht, ?_⟩
    obtain ⟨p1, p2⟩ := p
    refine ⟨_, rfl, _, _, rfl, rfl, _, rfl, ?_⟩
    have eb : beforeTimes (p1, p2) k = (let q : Pr := if k > 0 then (p1, p2) else (p2, p1); if vld (q.1.map (overUp · k), q.2.map (·.fdiv k)) = true then some (q.1.map (overUp · k), q.2.map (·.fdiv k)) else none) := rfl
    by_cases hk : 0 < k
    · rw [decide_eq_true hk]
      refine iteT ⟨_, rfl, a, _, rfl, ha, rfl, _, _, rfl, _, _, rfl, rfl, hrd _ _ _ _ (Same.refl _) ?_⟩
      rw [eb] at q
      dsimp only at q
      rw [if_pos hk] at q
      exact q
    · rw [decide_eq_false hk]
      refine iteF ⟨_, rfl, a, _, 1, _, rfl, rfl, ha, at1, _, rfl, a, _, 0, _, rfl, rfl, ha, at0, two_sz, fun T hT => ⟨T, _, rfl, SqT.of upd_same, rfl, _, _, rfl, _, _, rfl, rfl, hrd _ _ _ _ (same_upd hT) ?_⟩⟩
      rw [eb] at q
      dsimp only at q
      rw [if_neg hk] at q
      exact fun v H' s' hd => q v H' ((same_upd hT).trans s') hd
/-! ## before_over -/
def spOver (K : PySem.W.Frag) : Sp := fun vs H Q _ => ∃ v p k, vs = [v, .int k] ∧ Dp K H v (encP p) ∧ bdE 500 p.1 ∧ bdE 500 p.2 ∧ RetD K H Q (encO (beforeOver p k))
abbrev sOver : Stmt := top 30
abbrev nOver : List Str := ["pair", "k", "low", "high", "end", "most"]
theorem scOver : FnScope nOver ["pair", "k"] (defScope sOver) := ⟨rfl, rfl, rfl, by decide +kernel, rfl, by decide +kernel, by decide +kernel⟩
theorem ok_over {f : Addr} {fd : FuncData} (F : Fun K "before_over" "before_over" sOver f fd) (B : Bi mg) (Fo : Fd P w K mg base "over_up" 1 ["number", "divisor"] spOverUp) : FnOk P w K mg base CX0 2 f fd ["pair", "k"] (spOver K) := by
  refine F.ok scOver (fun vs H Q E h => ?_) (fun cdv A outer s H vs Q E hr h => ?_)
  · obtain ⟨v, p, k, rfl, _⟩ := h
    rfl
  · obtain ⟨v, p, k, rfl, hv, hb1, hb2, q⟩ := h
    obtain ⟨a, rfl, ha⟩ := dp_prv hv
    have nd := scOver.nd
    obtain ⟨p1, p2⟩ := p
    -- the last line
    have hC : ∃ t, PSs (cxOf CX0 P w K mg base nOver "before_over" (defScope sOver) f cdv A outer s H E).nox ((defBody sOver).drop 3) t ∧ ∀ (l : Int) (h : Option Int) (H' : Hp) (e m : Option V),
        RetD K H' Q (encO (if vld (some l, h) = true then some (some l, h) else none)) → t { nx := fun _ H' => Q .non H', rt := Q } [some (.ref a), some (.int k), some (.int l), some (endV h), e, m] H' := by
      refine ⟨_, pss_one (ps_ret (pe_ifExp (PW.pt (pw_or (pt_cmpR op_isN (pv 3) pe_non (nomark _)) (pw_or1 (pt_cmpR op_le (pv 2) (pv 3) (nomark _))))) (pe_tup (pa_cons (pv 2) (pa_cons (pv 3) pa_nil))) pe_non)), ?_⟩
      intro l h H' e m q
      cases h with
      | none => exact ⟨_, rfl, rfl, _, rfl, iteT ⟨_, rfl, _, rfl, two_sz, fun T hT => q _ _ (same_upd hT) (dp_pr_new (p := (some _, Option.none)) upd_same)⟩⟩
      | some h =>
        refine ⟨_, rfl, rfl, _, rfl, iteF ⟨_, rfl, _, rfl, _, _, rfl, rfl, _, rfl, ?_⟩⟩
        by_cases hle : l ≤ h
        · rw [if_pos (vld_some.mpr hle)] at q
          rw [decide_eq_true hle]
          exact iteT ⟨_, rfl, _, rfl, two_sz, fun T hT => q _ _ (same_upd hT) (dp_pr_new (p := (some _, some _)) upd_same)⟩
        · rw [if_neg (fun z => hle (vld_some.mp z))] at q
          rw [decide_eq_false hle]
          exact iteF (q _ _ (Same.refl _) .non)
    obtain ⟨tC, hC1, hC2⟩ := hC
    -- the second half
    have hB : ∃ t, PSs (cxOf CX0 P w K mg base nOver "before_over" (defScope sOver) f cdv A outer s H E).nox ((defBody sOver).drop 2) t ∧ ∀ (l : Int) (h : Option Int) (H' : Hp) (e m : Option V), SqT K H' a [endV p1, endV p2] →
        RetD K H' Q (encO ((overHigh (some l, h) p2 k).bind fun q => if vld q = true then some q else none)) → t { nx := fun _ H' => Q .non H', rt := Q } [some (.ref a), some (.int k), some (.int l), some (endV h), e, m] H' := by
      refine ⟨_, pss_cons (ps_if (pt_cmpR op_notN (pe_ix ix_tup (pv 0) pe_int (fun _ _ => rfl)) pe_non (nomark _))
        (pss_cons (ps_set nd (i := 4) rfl (Or.inl rfl) (pe_op op_add (pe_ix ix_tup (pv 0) pe_int (fun _ _ => rfl)) pe_int))
        (pss_cons (ps_if (PW.pt (pw_and (pt_cmpR op_eq (pv 4) pe_int (nomark _)) (pw_and1 (pt_cmpR op_ge (pv 1) pe_int (nomark _))))) (pss_one (ps_ret pe_non)) pss_nil)
        (pss_cons (ps_if (pt_cmpR op_gt (pv 4) pe_int (nomark _)) (pss_one (ps_set nd (i := 2) rfl (Or.inl rfl) (pe_callB (call_max2 rfl) (by rfl) B.max_ bt_max (pa_cons (pv 2) (pa_cons (pe_op op_add (pe_op op_fdivA (pv 1) (pv 4)) pe_int) pa_nil))))) pss_nil)
        (pss_one (ps_if (pt_cmpR op_lt (pv 4) pe_int (nomark _)) (pss_cons (ps_set nd (i := 5) rfl (Or.inl rfl) (pe_op op_sub (pe_f Fo hr (pa_cons (pv 1) (pa_cons (pv 4) pa_nil))) pe_int))
          (pss_one (ps_set nd (i := 3) rfl (Or.inl rfl) (pe_ifExp (pt_cmpR op_isN (pv 3) pe_non (nomark _)) (pv 5) (pe_callB (call_min2 rfl) (by rfl) B.min_ bt_min (pa_cons (pv 3) (pa_cons (pv 5) pa_nil))))))) pss_nil))))) pss_nil) hC1, ?_⟩
      intro l h H' e m hs q
      refine ⟨_, rfl, a, _, 1, _, rfl, rfl, hs, at1, rfl, _, rfl, ?_⟩
      cases p2 with
      | none => exact iteF (hC2 _ _ _ _ _ q)
      | some b =>
        refine iteT ⟨_, rfl, a, _, 1, _, rfl, rfl, hs, at1, _, _, rfl, rfl, _, rfl, rfl, _, rfl, ?_⟩
        have hbb : b.natAbs < 2 ^ 500 := hb2 b rfl
        have h1 : ∀ d : Int, d = b + 1 → d ≠ 0 → CDivA k d := fun d hd h0 => ⟨h0, log_of (n := 501) (by have : (2 : Nat) ^ 501 = 2 ^ 500 * 2 := Nat.pow_succ _ _; omega) (by decide)⟩
        have h2 : ∀ d : Int, d = b + 1 → d.natAbs < 2 ^ 8000 := fun d hd => pow_lt (a := 501) (by have : (2 : Nat) ^ 501 = 2 ^ 500 * 2 := Nat.pow_succ _ _; omega) (by decide)
        have eo : overHigh (some l, h) (some b) k = if b + 1 = 0 ∧ k ≥ 0 then none else some (if b + 1 > 0 then maxO (some l) (some (k.fdiv (b + 1) + 1)) else some l, if b + 1 < 0 then minO h (some (overUp k (b + 1) - 1)) else h) := rfl
        rw [eo] at q
        have h1' := h1 (b + 1) rfl
        have h2' := h2 (b + 1) rfl
        rcases Int.lt_trichotomy (b + 1) 0 with hz | hz | hz
        · rw [if_neg (by omega), if_neg (by omega), if_pos hz] at q
          rw [show decide (V.int (b + 1) = V.int 0) = false from decide_eq_false fun e => by injection e; omega]
          refine iteF (iteF ⟨_, rfl, _, _, rfl, rfl, _, rfl, ?_⟩)
          rw [show decide (0 < b + 1) = false from decide_eq_false (by omega)]
          refine iteF ⟨_, rfl, _, _, rfl, rfl, _, rfl, ?_⟩
          rw [show decide (b + 1 < 0) = true from decide_eq_true hz]
          refine iteT ⟨_, rfl, _, rfl, _, _, rfl, by omega, h2', _, _, rfl, rfl, _, rfl, rfl, _, rfl, ?_⟩
          cases h with
          | none => exact iteT ⟨_, rfl, hC2 l (some _) _ _ _ q⟩
          | some h =>
            refine iteF ⟨_, rfl, _, rfl, _, _, rfl, ?_⟩
            refine hC2 l (some _) _ _ _ ?_
            rw [min_is]
            exact q
        · rw [show decide (V.int (b + 1) = V.int 0) = true from decide_eq_true (by rw [hz])]
          refine iteT ⟨_, rfl, _, _, rfl, rfl, _, rfl, ?_⟩
          by_cases hk : 0 ≤ k
          · rw [if_pos ⟨hz, hk⟩] at q
            rw [decide_eq_true hk]
            exact iteT (q _ _ (Same.refl _) .non)
          · rw [if_neg (by omega), if_neg (by omega), if_neg (by omega)] at q
            rw [decide_eq_false hk]
            refine iteF ⟨_, rfl, _, _, rfl, rfl, _, rfl, ?_⟩
            rw [show decide (0 < b + 1) = false from decide_eq_false (by omega)]
            refine iteF ⟨_, rfl, _, _, rfl, rfl, _, rfl, ?_⟩
            rw [show decide (b + 1 < 0) = false from decide_eq_false (by omega)]
            exact iteF (hC2 _ _ _ _ _ q)
        · rw [if_neg (by omega), if_pos hz, if_neg (by omega)] at q
          rw [show decide (V.int (b + 1) = V.int 0) = false from decide_eq_false fun e => by injection e; omega]
          refine iteF (iteF ⟨_, rfl, _, _, rfl, rfl, _, rfl, ?_⟩)
          rw [show decide (0 < b + 1) = true from decide_eq_true hz]
          refine iteT ⟨_, rfl, _, rfl, _, rfl, _, _, rfl, rfl, h1' (by omega), _, _, rfl, rfl, _, _, rfl, ?_⟩
          refine ⟨_, rfl, _, _, rfl, rfl, _, rfl, ?_⟩
          rw [show decide (b + 1 < 0) = false from decide_eq_false (by omega)]
          refine iteF (hC2 _ _ _ _ _ ?_)
          rw [max_is]
          exact q
    obtain ⟨tB, hB1, hB2⟩ := hB
    refine ⟨_, pss_cons (ps_asg (pe_tup (pa_cons pe_int (pa_cons pe_non pa_nil))) (pg_tup rfl (pgs_cons (pg_name (i := 2) nd rfl (Or.inl rfl)) (pgs_cons (pg_name (i := 3) nd rfl (Or.inl rfl)) pgs_nil))))
      (pss_cons (ps_if (pt_cmpR op_notN (pe_ix ix_tup (pv 0) pe_int (fun _ _ => rfl)) pe_non (nomark _))
        (pss_cons (ps_if (PW.pt (pw_and (pt_cmpR op_eq (pe_ix ix_tup (pv 0) pe_int (fun _ _ => rfl)) pe_int (nomark _)) (pw_and1 (pt_cmpR op_lt (pv 1) pe_int (nomark _))))) (pss_one (ps_ret pe_non)) pss_nil)
        (pss_cons (ps_if (pt_cmpR op_gt (pe_ix ix_tup (pv 0) pe_int (fun _ _ => rfl)) pe_int (nomark _)) (pss_one (ps_set nd (i := 3) rfl (Or.inl rfl) (pe_op op_fdivA (pv 1) (pe_ix ix_tup (pv 0) pe_int (fun _ _ => rfl))))) pss_nil)
        (pss_one (ps_if (pt_cmpR op_lt (pe_ix ix_tup (pv 0) pe_int (fun _ _ => rfl)) pe_int (nomark _)) (pss_one (ps_set nd (i := 2) rfl (Or.inl rfl) (pe_callB (call_max2 rfl) (by rfl) B.max_ bt_max (pa_cons (pv 2) (pa_cons (pe_f Fo hr (pa_cons (pv 1) (pa_cons (pe_ix ix_tup (pv 0) pe_int (fun _ _ => rfl)) pa_nil))) pa_nil))))) pss_nil)))) pss_nil) hB1), ?_⟩
    refine ⟨two_sz, fun T hT => ⟨T, _, rfl, SqT.of upd_same, rfl, _, _, rfl, _, _, rfl, rfl, ?_⟩⟩
    have s1 : Same H (upd H T (.tup [.int 1, .non])) := same_upd hT
    have ha1 := ha.ext s1
    have q1 : RetD K (upd H T (.tup [.int 1, .non])) Q (encO (beforeOver (p1, p2) k)) := fun v H' s' hd => q v H' (s1.trans s') hd
    have eo : beforeOver (p1, p2) k = (overLow p1 k).bind fun q => (overHigh q p2 k).bind fun q => if vld q = true then some q else none := by
      unfold beforeOver
      rw [Option.bind_assoc]
    rw [eo] at q1
    refine ⟨_, rfl, a, _, 0, _, rfl, rfl, ha1, at0, rfl, _, rfl, ?_⟩
    cases p1 with
    | none => exact iteF (hB2 1 Option.none _ _ _ ha1 q1)
    | some b =>
      have hbb : b.natAbs < 2 ^ 500 := hb1 b rfl
      have ha1 : SqT K (upd H T (.tup [.int 1, .non])) a [V.int b, endV p2] := ha1
      have el : overLow (some b) k = if b = 0 ∧ k < 0 then none else some (some (if b < 0 then max 1 (overUp k b) else 1), if b > 0 then some (k.fdiv b) else none) := rfl
      rw [el] at q1
      refine iteT ⟨_, rfl, a, _, 0, _, rfl, rfl, ha1, at0, rfl, _, rfl, ?_⟩
      rcases Int.lt_trichotomy b 0 with hz | hz | hz
      · rw [if_neg (by omega), if_pos hz, if_neg (by omega)] at q1
        rw [show decide (V.int b = V.int 0) = false from decide_eq_false fun e => by injection e; omega]
        refine iteF (iteF ⟨_, rfl, a, _, 0, _, rfl, rfl, ha1, at0, _, _, rfl, rfl, _, rfl, ?_⟩)
        rw [show decide (0 < b) = false from decide_eq_false (by omega)]
        refine iteF ⟨_, rfl, a, _, 0, _, rfl, rfl, ha1, at0, _, _, rfl, rfl, _, rfl, ?_⟩
        rw [show decide (b < 0) = true from decide_eq_true hz]
        refine iteT ⟨_, rfl, _, rfl, _, rfl, a, _, 0, _, rfl, rfl, ha1, at0, _, _, rfl, by omega, pow_lt hbb (by decide), _, _, rfl, ?_⟩
        refine hB2 _ Option.none _ _ _ ha1 ?_
        rw [max_is]
        exact q1
      · subst hz
        rw [show decide (V.int 0 = V.int 0) = true from rfl]
        refine iteT ⟨_, rfl, _, _, rfl, rfl, _, rfl, ?_⟩
        by_cases hk : k < 0
        · rw [if_pos ⟨rfl, hk⟩] at q1
          rw [decide_eq_true hk]
          exact iteT (q1 _ _ (Same.refl _) .non)
        · rw [if_neg (by omega), if_neg (by omega), if_neg (by omega)] at q1
          rw [decide_eq_false hk]
          exact iteF ⟨_, rfl, a, _, 0, _, rfl, rfl, ha1, at0, _, _, rfl, rfl, _, rfl, iteF ⟨_, rfl, a, _, 0, _, rfl, rfl, ha1, at0, _, _, rfl, rfl, _, rfl, iteF (hB2 1 Option.none _ _ _ ha1 q1)⟩⟩
      · rw [if_neg (by omega), if_neg (by omega), if_pos hz] at q1
        rw [show decide (V.int b = V.int 0) = false from decide_eq_false fun e => by injection e; omega]
        refine iteF (iteF ⟨_, rfl, a, _, 0, _, rfl, rfl, ha1, at0, _, _, rfl, rfl, _, rfl, ?_⟩)
        rw [show decide (0 < b) = true from decide_eq_true hz]
        refine iteT ⟨_, rfl, _, rfl, a, _, 0, _, rfl, rfl, ha1, at0, _, _, rfl, rfl, ⟨by omega, log_of hbb (by decide)⟩, _, rfl, a, _, 0, _, rfl, rfl, ha1, at0, _, _, rfl, rfl, _, rfl, ?_⟩
        rw [show decide (b < 0) = false from decide_eq_false (by omega)]
        exact iteF (hB2 1 (some _) _ _ _ ha1 q1)
end
end RA
end

section
set_option Elab.async false
set_option linter.all false
set_option autoImplicit false
set_option maxRecDepth 100000
set_option maxHeartbeats 4000000
set_option exponentiation.threshold 10000
namespace RA
open PySem PySem.Spec PyProof.Rows L2
section
variable {P : Program} {w : World} {K : PySem.W.Frag} {mg : Str → Option Value} {base : Heap} {C : Addr}
/-- the class Spans with all its methods -/
structure SpMs (P : Program) (w : World) (K : PySem.W.Frag) (mg : Str → Option Value) (base : Heap) (C : Addr) : Prop where
  mkc : SpMk P w K mg base C
  it : ∃ f fd, FnAt P w K mg base 1 f fd ["self"] (spIter K C "its_pairs") ∧ Binds K fd ["self"] [] ∧ PySem.W.findIn K (.ref C) "__iter__" = some (some (.ref f)) ∧ PySem.W.isFn K (.ref f) = true
  in_ : ∃ f fd, FnOk P w K mg base CX0 6 f fd ["self", "number"] (spIn K C) ∧ Binds K fd ["self", "number"] [] ∧ PySem.W.findIn K (.ref C) "__contains__" = some (some (.ref f)) ∧ PySem.W.isFn K (.ref f) = true
  len : ∃ f fd, FnOk P w K mg base CX0 1 f fd ["self"] (spLen K C) ∧ Binds K fd ["self"] [] ∧ PySem.W.findIn K (.ref C) "__len__" = some (some (.ref f)) ∧ PySem.W.isFn K (.ref f) = true
  or_ : ∃ f fd, FnOk P w K mg base CX0 7 f fd ["self", "other"] (spBin K C spU) ∧ Binds K fd ["self", "other"] [] ∧ PySem.W.findIn K (.ref C) "__or__" = some (some (.ref f)) ∧ PySem.W.isFn K (.ref f) = true
  and_ : ∃ f fd, FnOk P w K mg base CX0 7 f fd ["self", "other"] (spAndN K C) ∧ Binds K fd ["self", "other"] [] ∧ PySem.W.findIn K (.ref C) "__and__" = some (some (.ref f)) ∧ PySem.W.isFn K (.ref f) = true
  inv : ∃ f fd, FnOk P w K mg base CX0 7 f fd ["self"] (spInv K C) ∧ Binds K fd ["self"] [] ∧ PySem.W.findIn K (.ref C) "__invert__" = some (some (.ref f)) ∧ PySem.W.isFn K (.ref f) = true
  prs : ∃ f fd, FnOk P w K mg base CX0 1 f fd ["self"] (spPairs K C) ∧ Binds K fd ["self"] [] ∧ Meth K C "pairs" f
  sf : PySem.W.selfFirst K C = true
/-- x in spans -/
def rSpIn (K : PySem.W.Frag) (C : Addr) : R2 := fun x y H Q => ∃ a ps n, y = .ref a ∧ x = .int n ∧ SpAt K C H a ps ∧ ps.length ≤ 1000000 ∧ ∀ H', Same H H' → Q (.bl (inSp n ps)) H'
theorem opR_weak {X : Cx} {f : Value → Value → Sem Value} {r r' : R2} (h : OpR X f r) (hw : ∀ x y H Q, r' x y H Q → r x y H Q) : OpR X f r' := fun pins s σ H x y v u Q I r1 r2 q => h pins s σ H x y v u Q I r1 r2 (hw _ _ _ _ q)
theorem op_spIn {X : Cx} (S : SpMs X.prog X.w X.K X.mg X.base C) (hr : Room 6 X.A) : OpR X (compareOp .In) (rSpIn X.K C) := by
  obtain ⟨f, fd, hF, hb, hs, hf⟩ := S.in_
  refine opR_weak (op_ownIn hF hr hb pass0 hs hf) fun x y H Q h => ?_
  obtain ⟨a, ps, n, rfl, rfl, hsp, hlen, q⟩ := h
  have hsp' := hsp
  obtain ⟨dx, l, xs, h1, h2, h3⟩ := hsp
  exact ⟨a, dx, _, rfl, h1, a, ps, n, rfl, hsp', hlen, fun H' s' => ⟨_, rfl, q H' s'⟩⟩
/-- for p in spans -/
def iSp (K : PySem.W.Frag) (C : Addr) (te : TE) : TI := fun σ H R => te σ H fun x H1 => ∃ a dx l xs ps, x = .ref a ∧ H1 a = some (.ins C dx [("its_pairs", .ref l)]) ∧ H1 l = some (.lst xs) ∧ DpAll K H1 xs (encPs ps) ∧ R (Itl K l) H1
theorem pi_weak {X : Cx} {tg e : Expr} {wi wi' : TI} (h : PI X tg e wi) (hw : ∀ σ H R, wi' σ H R → wi σ H R) : PI X tg e wi' := ⟨fun pins s σ H R I q => h.run pins s σ H R I (hw _ _ _ q)⟩
theorem pi_sp {X : Cx} {tg e : Expr} {te : TE} (S : SpMs X.prog X.w X.K X.mg X.base C) (hr : Room 1 X.A) (he : PE X e te) : PI X tg e (iSp X.K C te) := by
  obtain ⟨f, fd, hF, hb, hs, hf⟩ := S.it
  refine pi_weak (pi_own (pe_mono he) hF hr hb hs hf) fun σ H R h => ?_
  refine ⟨_, h, fun x H1 h => ?_⟩
  obtain ⟨a, dx, l, xs, ps, rfl, h1, h2, h3, q⟩ := h
  exact ⟨a, dx, l, _, xs, rfl, h1, rfl, SqL.of h2, q⟩
/-- spans | spans, spans & spans -/
def rSpBin (K : PySem.W.Frag) (C : Addr) (g : List Pr → List Pr → List Pr) : R2 := fun x y H Q => ∃ a b ps qs, x = .ref a ∧ y = .ref b ∧ SpAt K C H a ps ∧ SpAt K C H b qs ∧ (∀ p ∈ ps, vld p = true) ∧ (∀ p ∈ qs, vld p = true) ∧ ps.length ≤ 1000 ∧ qs.length ≤ 1000 ∧ RetS K C H Q (g ps qs)
theorem op_spOr {X : Cx} (S : SpMs X.prog X.w X.K X.mg X.base C) (hr : Room 7 X.A) : OpR X (binaryOp .BitOr) (rSpBin X.K C spU) := by
  obtain ⟨f, fd, hF, hb, hs, hf⟩ := S.or_
  refine opR_weak (op_own hF hr hb pass0 S.sf hs hf) fun x y H Q h => ?_
  obtain ⟨a, b, ps, qs, rfl, rfl, h1, h2, v1, v2, l1, l2, q⟩ := h
  have g1 := h1
  have g2 := h2
  obtain ⟨dx, l, xs, e1, _⟩ := h1
  obtain ⟨dy, m, ys, e2, _⟩ := h2
  exact ⟨a, b, dx, dy, _, _, rfl, rfl, e1, e2, a, b, ps, qs, rfl, g1, g2, v1, v2, l1, l2, fun c H' s' hs => ⟨c, rfl, q c H' s' hs⟩⟩
/-- spans & spans -/
def rSpAnd (K : PySem.W.Frag) (C : Addr) : R2 := fun x y H Q => ∃ a b ps qs, x = .ref a ∧ y = .ref b ∧ SpAt K C H a ps ∧ SpAt K C H b qs ∧ (∀ p ∈ ps, vld p = true) ∧ (∀ p ∈ qs, vld p = true) ∧ ps.length ≤ 1000 ∧ qs.length ≤ 1000 ∧ RetN K C H Q (spI ps qs)
theorem op_spAnd {X : Cx} (S : SpMs X.prog X.w X.K X.mg X.base C) (hr : Room 7 X.A) : OpR X (binaryOp .BitAnd) (rSpAnd X.K C) := by
  obtain ⟨f, fd, hF, hb, hs, hf⟩ := S.and_
  refine opR_weak (op_own hF hr hb pass0 S.sf hs hf) fun x y H Q h => ?_
  obtain ⟨a, b, ps, qs, rfl, rfl, h1, h2, v1, v2, l1, l2, q⟩ := h
  have g1 := h1
  have g2 := h2
  obtain ⟨dx, l, xs, e1, _⟩ := h1
  obtain ⟨dy, m, ys, e2, _⟩ := h2
  exact ⟨a, b, dx, dy, _, _, rfl, rfl, e1, e2, a, b, ps, qs, rfl, g1, g2, v1, v2, l1, l2, fun c H' s' hs => ⟨c, rfl, q c H' s' hs⟩⟩
def rSpInv (K : PySem.W.Frag) (C : Addr) : V → Hp → VK → Prop := fun x H Q => ∃ a ps, x = .ref a ∧ SpAt K C H a ps ∧ Nf ps ∧ ps.length ≤ 100000 ∧ RetS K C H Q (spN ps)
theorem unR_weak {X : Cx} {f : Value → Sem Value} {r r' : V → Hp → VK → Prop} (h : UnR X f r) (hw : ∀ x H Q, r' x H Q → r x H Q) : UnR X f r' := fun pins s σ H x v Q I r1 q => h pins s σ H x v Q I r1 (hw _ _ _ q)
theorem un_spInv {X : Cx} (S : SpMs X.prog X.w X.K X.mg X.base C) (hr : Room 7 X.A) : UnR X (unaryOp .Invert) (rSpInv X.K C) := by
  obtain ⟨f, fd, hF, hb, hs, hf⟩ := S.inv
  refine unR_weak (un_ownInv hF hr hb pass0 hs hf) fun x H Q h => ?_
  obtain ⟨a, ps, rfl, h1, hn, hl, q⟩ := h
  have g1 := h1
  obtain ⟨dx, l, xs, e1, _⟩ := h1
  exact ⟨a, dx, _, rfl, e1, a, ps, rfl, g1, gaps_vld hn, hl, q⟩
theorem pe_extendL {X : Cx} {o e : Expr} {to te : TE} {apos cpos : Pos} (ho : PE X o to) (he : PE X e te) (hbase : attributeBase o "extend" X.env (eval o X.env) = eval o X.env := by rfl) (hline : (apos.endLine == cpos.line) = true := by rfl)
    (hst : starEach [e] X.env = (false, eval e X.env) :: starEach [] X.env := by rfl) :
    PE X (.Call (.Attribute o "extend" apos) [e] [] cpos) (tBM X.K "list" rExtend to (tCons te tNil)) :=
  pe_bm PySem.F.plainAttrs_list PySem.F.slot_list_extend PySem.F.type_list_extend mt_extend ho (pa_cons he pa_nil hst) hbase (by rw [hst]; rfl) hline hst (by rfl)
/-! ## before_one -/
def bdL (n : Nat) (ps : List Pr) : Prop := ∀ p ∈ ps, bdE n p.1 ∧ bdE n p.2
def rawS : Stp → Pr → List (Option Pr)
  | .plus k, p => [some (shiftO (-k) p.1, shiftO (-k) p.2)]
  | .into d, p => [some (intoEnds p d)]
  | .times k, p => [beforeTimes p k]
  | .over k, p => [beforeOver p k, (beforeOver p (-k)).map mirroredP]
  | .found _, _ => []
theorem rawS_len (s : Stp) (p : Pr) : (rawS s p).length ≤ 2 := by cases s <;> simp [rawS]
theorem raw_len (s : Stp) (ps : List Pr) : (ps.flatMap (rawS s)).length ≤ 2 * ps.length := by
  induction ps with
  | nil => simp
  | cons p ps ih =>
    have := rawS_len s p
    rw [List.flatMap_cons, List.length_append, List.length_cons]
    omega
theorem raw_list {s : Stp} (h : ∀ ps, s ≠ .found ps) (ps : List Pr) : (ps.flatMap (rawS s)).filterMap id = beforeList s ps := by
  induction ps with
  | nil => cases s <;> first | rfl | exact absurd rfl (h _)
  | cons p ps ih =>
    rw [List.flatMap_cons, List.filterMap_append, ih]
    cases s with
    | plus k => rfl
    | into k => rfl
    | times k => simp only [rawS, beforeList, List.filterMap_cons, List.filterMap_nil]; cases beforeTimes p k <;> rfl
    | over k => simp only [rawS, beforeList, List.flatMap_cons]
    | found k => exact absurd rfl (h _)
theorem beforeList_len (s : Stp) (ps : List Pr) (hb : bdS s) : (beforeList s ps).length ≤ 2 * ps.length + 6 := by
  by_cases h : ∃ qs, s = .found qs
  · obtain ⟨qs, rfl⟩ := h
    have h1 : (beforeList (.found qs) ps).length ≤ qs.length := List.length_filterMap_le _ _
    have h2 : qs.length ≤ 6 := hb.2
    omega
  · rw [← raw_list (fun qs e => h ⟨qs, e⟩)]
    have h1 := List.length_filterMap_le (id : Option Pr → Option Pr) (ps.flatMap (rawS s))
    have h2 := raw_len s ps
    omega
def spBeforeOne (K : PySem.W.Frag) (C : Addr) : Sp := fun vs H Q _ => ∃ v b s ps, vs = [v, .ref b] ∧ Dp K H v (encS s) ∧ SpAt K C H b ps ∧ okS s ∧ bdS s ∧ Nf ps ∧ ps.length ≤ 5000 ∧ bdL 450 ps ∧ RetS K C H Q (beforeOne s ps)
abbrev sBOne : Stmt := top 32
abbrev nBOne : List Str := ["step", "spans", "word", "k", "found", "pair", "behind", "key", "number"]
theorem scBOne : FnScope nBOne ["step", "spans"] (defScope sBOne) := ⟨rfl, rfl, rfl, by decide +kernel, rfl, by decide +kernel, by decide +kernel⟩
theorem ok_bOne {f : Addr} {fd : FuncData} (F : Fun K "before_one" "before_one" sBOne f fd) (S : SpMs P w K mg base C) (Fr : Fd P w K mg base "raised" 1 ["number", "by"] spRaised) (Fi : Fd P w K mg base "into_ends" 1 ["pair", "d"] (spInto K))
    (Ft : Fd P w K mg base "before_times" 2 ["pair", "k"] (spTimes K)) (Fo : Fd P w K mg base "before_over" 2 ["pair", "k"] (spOver K)) (Fm : Fd P w K mg base "mirrored" 1 ["pair"] (spMirr K)) : FnOk P w K mg base CX0 8 f fd ["step", "spans"] (spBeforeOne K C) := by
  refine F.ok scBOne (fun vs H Q E h => ?_) (fun cdv A outer s H vs Q E hr h => ?_)
  · obtain ⟨v, b, st, ps, rfl, _⟩ := h
    rfl
  · obtain ⟨v, b, st, ps, rfl, hv, hsp, hok, hbd, hnf, hlen, hbl, q⟩ := h
    obtain ⟨a, u, rfl, ha, hu⟩ := dp_s hv
    have nd := scBOne.nd
    have hu0 := hu1 hr
    have hr6 : Room 6 _ := hr.mono (j := 6) (by decide)
    have hr2 : Room 2 _ := hr.mono (j := 2) (by decide)
    have hr1 : Room 1 _ := hr.mono (j := 1) (by decide)
    refine ⟨_, pss_cons (ps_asg (pv 0) (pg_tup rfl (pgs_cons (pg_name (i := 2) nd rfl (Or.inl rfl)) (pgs_cons (pg_name (i := 3) nd rfl (Or.inl rfl)) pgs_nil))))
      (pss_cons (ps_if (pt_cmpR op_eq (pv 2) pe_str (nomark _)) (pss_one (ps_ret (pe_spans S.mkc hr6 (pe_lc (own := [("key", 7), ("number", 8)]) (g := gTup K 2 (gCons (gName 7) (gCons (gName 8) gNil))) (tt := tTest (tOp (rSpIn K C) (tVar 8) (tVar 1))) (te := tTup (tCons (tVar 7) (tCons (tVar 7) tNil))) rfl nd (pi_tup (pv 3)) (blkOk_by (N := nBOne) (sc := defScope sBOne) (by decide +kernel))
          (fun _ _ _ _ _ => pg_tup rfl (pgs_cons (pg_name (i := 7) nd rfl (Or.inl rfl)) (pgs_cons (pg_name (i := 8) nd rfl (Or.inl rfl)) pgs_nil))) (fun _ _ _ _ _ => pts_one (pt_cmpR (op_spIn S hr6) (pv 8) (pv 1) (by rfl))) (fun _ _ _ _ _ => pe_tup (pa_cons (pv 7) (pa_cons (pv 7) pa_nil))))))) pss_nil)
      (pss_cons (ps_set nd (i := 4) rfl (Or.inl rfl) (pe_lst pa_nil))
      (pss_cons (ps_for PassesOwn.never rfl (pi_sp S hr1 (pv 1)) (pg_name (i := 5) nd rfl (Or.inl rfl))
        (pss_one (ps_if (pt_cmpR op_eq (pv 2) pe_str (nomark _)) (pss_one (ps_expr (pe_appendL (pv 4) (pe_tup (pa_cons (pe_f Fr hr1 (pa_cons (pe_ix ix_tup (pv 5) pe_int (fun _ _ => rfl)) (pa_cons (pe_un un_neg (pv 3)) pa_nil))) (pa_cons (pe_f Fr hr1 (pa_cons (pe_ix ix_tup (pv 5) pe_int (fun _ _ => rfl)) (pa_cons (pe_un un_neg (pv 3)) pa_nil))) pa_nil))))))
          (pss_one (ps_if (pt_cmpR op_eq (pv 2) pe_str (nomark _)) (pss_one (ps_expr (pe_appendL (pv 4) (pe_f Fi hr1 (pa_cons (pv 5) (pa_cons (pv 3) pa_nil))))))
          (pss_one (ps_if (pt_cmpR op_eq (pv 2) pe_str (nomark _)) (pss_one (ps_expr (pe_appendL (pv 4) (pe_f Ft hr2 (pa_cons (pv 5) (pa_cons (pv 3) pa_nil))))))
          (pss_cons (ps_set nd (i := 6) rfl (Or.inl rfl) (pe_f Fo hr2 (pa_cons (pv 5) (pa_cons (pe_un un_neg (pv 3)) pa_nil))))
            (pss_one (ps_expr (pe_extendL (pv 4) (pe_lst (pa_cons (pe_f Fo hr2 (pa_cons (pv 5) (pa_cons (pv 3) pa_nil))) (pa_cons (pe_ifExp (pt_cmpR op_isN (pv 6) pe_non (nomark _)) pe_non (pe_f Fm hr1 (pa_cons (pv 6) pa_nil))) pa_nil))))))))))))))
      (pss_one (ps_ret (pe_spans S.mkc hr6 (pe_lc (own := [("pair", 5)]) (g := gName 5) (tt := tTest (tOp rNN (tVar 5) (tC .non))) (te := tVar 5) rfl nd (pi_list (pv 4)) (blkOk_by (N := nBOne) (sc := defScope sBOne) (by decide +kernel))
        (fun _ _ _ _ _ => pg_name (i := 5) nd rfl (Or.inl rfl)) (fun _ _ _ _ _ => pts_one (pt_cmpR op_nn (pv 5) pe_non (nomark _))) (fun _ _ _ _ _ => pv 5)))))))), ?_⟩
    have hsp' := hsp
    obtain ⟨dx, l, xs, h1, h2, h3⟩ := hsp'
    have exl : xs.length = ps.length := by rw [DpAll.len h3, encPs, List.length_map]
    refine ⟨_, rfl, a, _, rfl, ha, rfl, _, _, rfl, _, _, rfl, rfl, _, rfl, rfl, _, rfl, ?_⟩
    by_cases hf : ∃ qs, st = .found qs
    · obtain ⟨qs, rfl⟩ := hf
      obtain ⟨k, ys, rfl, hkt, hky⟩ := dp_tup hu
      refine iteT ⟨_, rfl, k, rfl, ⟨_, hkt⟩, fun D hD => lcD_tup (fun q : Int × Int => if inSp q.2 ps = true then some (dot q.1) else none) encQ encP qs tupD_q tupD_pr hD hkt hky (by have h2 : qs.length ≤ 6 := hbd.2; omega) ?_ ?_⟩
      · intro x q' H1 Y N hp hS hx hY hN
        obtain ⟨t, rfl, ht⟩ := dp_q hx
        refine ⟨t, _, rfl, ht, rfl, _, _, rfl, _, _, rfl, rfl, rfl, _, rfl, _, rfl, b, ps, q'.2, rfl, rfl, hsp.same hS, by omega, fun H' s' => ⟨_, rfl, ?_⟩⟩
        cases hin : inSp q'.2 ps with
        | true => exact iteT ⟨_, rfl, _, rfl, two_sz, fun T hT => hY _ (dot q'.1) _ (if_pos hin) (s'.trans (same_upd hT)) (dp_pr_new (p := dot q'.1) upd_same)⟩
        | false => exact iteF (hN _ (if_neg (by rw [hin]; decide)) s')
      · intro H2 acc s2 hD2 hd2
        refine ⟨D, acc, beforeList (.found qs) ps, rfl, .inl (SqL.of hD2), hd2, beforeList_vld hnf hok, by have := beforeList_len (.found qs) ps hbd; omega, fun c H' s' hs => q c H' (s2.trans s') hs⟩
    · have hne : ∀ qs, st ≠ .found qs := fun qs e => hf ⟨qs, e⟩
      have hw : decide (V.str (wordS st) = V.str "found") = false := by
        cases st <;> first | exact absurd rfl (hne _) | (show decide (V.str _ = V.str _) = false; exact str_ne (by simp only [wordS]; decide))
      rw [hw]
      refine iteF ⟨Nat.zero_le _, fun F hF => ?_⟩
      have s0 : Same H (upd H F (.lst [])) := same_upd hF
      refine ⟨_, rfl, b, dx, l, xs, ps, rfl, s0 _ _ h1, s0 _ _ h2, DpAll.same s0 h3, for_list (xs := xs) (fun i σ H' => ∃ p5 p6 fs, σ = [some (.ref a), some (.ref b), some (.str (wordS st)), some u, some (.ref F), p5, p6, Option.none, Option.none] ∧
        Same H H' ∧ H' F = some (.lst fs) ∧ DpAll K H' fs (((ps.take i).flatMap (rawS st)).map encO) ∧ fs.length ≤ 2 * i) ?_ ?_ ?_ ?_⟩
      · exact ⟨_, _, [], rfl, s0, upd_same, .nil, Nat.le_refl _⟩
      · rintro i σ H' _ ⟨p5, p6, fs, rfl, s1, _⟩
        exact SqL.of (s1 _ _ h2)
      · rintro i x σ H' hxi ⟨p5, p6, fs, rfl, s1, g1, g2, g3⟩
        obtain ⟨d, hd1, hd2⟩ := DpAll.get h3 hxi
        rw [encPs, List.getElem?_map] at hd1
        cases hp : ps[i]? with
        | none => rw [hp] at hd1; cases hd1
        | some p =>
          rw [hp] at hd1
          cases hd1
          have hil : i < ps.length := (List.getElem?_eq_some_iff.mp hp).1
          have hpm : p ∈ ps := List.mem_of_getElem? hp
          have hxp : Dp K H' x (encP p) := Dp.same s1 hd2
          obtain ⟨c, rfl, hc⟩ := dp_prv hxp
          have et : (ps.take (i + 1)).flatMap (rawS st) = (ps.take i).flatMap (rawS st) ++ rawS st p := by
            rw [List.take_add_one, hp]
            simp
          rw [et]
          have stepA : ∀ (H2 : Hp) (y : V) (o : Option Pr), Same H' H2 → Dp K H2 y (encO o) → rawS st p = [o] → Same H (upd H2 F (.lst (fs ++ [y]))) ∧ upd H2 F (.lst (fs ++ [y])) F = some (.lst (fs ++ [y])) ∧
              DpAll K (upd H2 F (.lst (fs ++ [y]))) (fs ++ [y]) (((ps.take i).flatMap (rawS st) ++ rawS st p).map encO) ∧ (fs ++ [y]).length ≤ 2 * (i + 1) := by
            intro H2 y o s2 hy hr
            refine ⟨same_own (s1.trans s2) hF, upd_same, ?_, by simp; omega⟩
            rw [hr, List.map_append]
            refine dps_updL (s2 _ _ g1) ?_ (DpAll.app (DpAll.same s2 g2) (DpAll.one hy))
            rw [← List.map_append]
            exact tupDs_map tupD_o _
          have hbp := hbl p hpm
          have e5 : ∀ e, bdE 450 e → bdE 500 e := fun e h a ha => pow_lt (h a ha) (by decide)
          have fit : fs.length < sizeLine := szl (by omega)
          refine ⟨_, rfl, rfl, _, rfl, ?_⟩
          cases st with
          | found qs => exact absurd rfl (hne qs)
          | plus k =>
            cases dp_int hu
            refine iteT ⟨_, rfl, tyV_lst g1, _, rfl, c, _, 0, _, rfl, rfl, hc, at0, _, rfl, _, rfl, p.1, -k, rfl, _, rfl, c, _, 1, _, rfl, rfl, hc, at1, _, rfl, _, rfl, p.2, -k, rfl, two_sz, fun T hT => ⟨F, fs, _, rfl, rfl, same_upd hT _ _ g1, fit, ?_⟩⟩
            exact ⟨_, _, _, rfl, stepA _ _ (some (shiftO (-k) p.1, shiftO (-k) p.2)) (same_upd hT) (dp_pr_new (p := (shiftO (-k) p.1, shiftO (-k) p.2)) upd_same) rfl⟩
          | into k =>
            cases dp_int hu
            have hk : k.natAbs ≤ 2 ^ 44 := hbd
            refine iteF ⟨_, rfl, rfl, _, rfl, iteT ⟨_, rfl, tyV_lst g1, _, rfl, _, rfl, _, p, k, rfl, hxp, e5 _ hbp.1, e5 _ hbp.2, by omega, fun v H2 s2 hv => ⟨F, fs, _, rfl, rfl, s2 _ _ g1, fit, ?_⟩⟩⟩
            exact ⟨_, _, _, rfl, stepA _ _ (some (intoEnds p k)) s2 hv rfl⟩
          | times k =>
            cases dp_int hu
            have hk : k.natAbs ≤ 2 ^ 44 := hbd
            refine iteF ⟨_, rfl, rfl, _, rfl, iteF ⟨_, rfl, rfl, _, rfl, iteT ⟨_, rfl, tyV_lst g1, _, rfl, _, rfl, _, p, k, rfl, hxp, hok, by omega, fun v H2 s2 hv => ⟨F, fs, _, rfl, rfl, s2 _ _ g1, fit, ?_⟩⟩⟩⟩
            exact ⟨_, _, _, rfl, stepA _ _ (beforeTimes p k) s2 hv rfl⟩
          | over k =>
            cases dp_int hu
            refine iteF ⟨_, rfl, rfl, _, rfl, iteF ⟨_, rfl, rfl, _, rfl, iteF ⟨_, rfl, _, rfl, _, rfl, _, p, -k, rfl, hxp, e5 _ hbp.1, e5 _ hbp.2, fun v H2 s2 hv => ?_⟩⟩⟩
            refine ⟨_, rfl, tyV_lst (s2 _ _ g1), _, rfl, _, rfl, _, p, k, rfl, Dp.same s2 hxp, e5 _ hbp.1, e5 _ hbp.2, fun v3 H3 s3 hv3 => ?_⟩
            have fin : ∀ (H4 : Hp) (y : V), Same H3 H4 → Dp K H4 y (encO ((beforeOver p (-k)).map mirroredP)) → ∀ (Z : Addr), H4 Z = Option.none → ∃ p5 p6 fs', [some (V.ref a), some (.ref b), some (.str (wordS (.over k))), some (.int k), some (.ref F), some (.ref c), some v, Option.none, Option.none] = [some (V.ref a), some (.ref b), some (.str (wordS (.over k))), some (.int k), some (.ref F), p5, p6, Option.none, Option.none] ∧
                Same H (upd (upd H4 Z (.lst [v3, y])) F (.lst (fs ++ [v3, y]))) ∧ upd (upd H4 Z (.lst [v3, y])) F (.lst (fs ++ [v3, y])) F = some (.lst fs') ∧ DpAll K (upd (upd H4 Z (.lst [v3, y])) F (.lst (fs ++ [v3, y]))) fs' (((ps.take i).flatMap (rawS (.over k)) ++ rawS (.over k) p).map encO) ∧ fs'.length ≤ 2 * (i + 1) := by
              intro H4 y s4 hy Z hZ
              have s5 := (s2.trans s3).trans s4
              have gF : upd H4 Z (.lst [v3, y]) F = some (.lst fs) := same_upd hZ _ _ (s5 _ _ g1)
              refine ⟨_, _, fs ++ [v3, y], rfl, same_own (same_new (s1.trans s5) hZ) hF, upd_same, ?_, by simp; omega⟩
              rw [List.map_append]
              refine dps_updL gF ?_ (DpAll.app (DpAll.same (same_upd hZ) (DpAll.same s5 g2)) (.cons (Dp.same (same_upd hZ) (Dp.same s4 hv3)) (DpAll.one (Dp.same (same_upd hZ) hy))))
              rw [← List.map_append]
              exact tupDs_map tupD_o _
            have lenE : fs.length + 2 ≤ sizeLine := Nat.le_of_lt (szl (n := fs.length + 2) (by omega))
            refine ⟨_, rfl, rfl, _, rfl, ?_⟩
            have hv' := Dp.same s3 hv
            cases hbo : beforeOver p (-k) with
            | none =>
              rw [hbo] at hv' fin
              cases dp_non hv'
              refine iteT ⟨two_sz, fun Z hZ => ⟨F, Z, fs, _, rfl, rfl, same_upd hZ _ _ (s3 _ _ (s2 _ _ g1)), upd_same, lenE, fin H3 _ (Same.refl _) .non Z hZ⟩⟩
            | some r =>
              rw [hbo] at hv' fin
              obtain ⟨e, rfl, he⟩ := dp_prv hv'
              refine iteF ⟨_, rfl, _, r, rfl, hv', fun v4 H4 s4 hv4 => ⟨two_sz, fun Z hZ => ⟨F, Z, fs, _, rfl, rfl, same_upd hZ _ _ (s4 _ _ (s3 _ _ (s2 _ _ g1))), upd_same, lenE, fin H4 _ s4 hv4 Z hZ⟩⟩⟩
      · rintro σ H' ⟨p5, p6, fs, rfl, s1, g1, g2, g3⟩
        rw [exl, List.take_length] at g2
        refine ⟨_, rfl, F, rfl, ⟨_, SqL.of g1⟩, fun D hD => lcD_list (fun o : Option Pr => o) encO encP (ps.flatMap (rawS st)) tupD_o tupD_pr hD (SqL.of g1) g2 (by have := raw_len st ps; omega) ?_ ?_⟩
        · intro x p H1 Y N hp hS hx hY hN
          refine ⟨rfl, _, rfl, rfl, _, rfl, ?_⟩
          cases p with
          | none =>
            cases dp_non hx
            exact iteF (hN _ rfl (Same.refl _))
          | some p =>
            obtain ⟨b, rfl, hb⟩ := dp_prv hx
            exact iteT ⟨_, rfl, hY _ p _ rfl (Same.refl _) hx⟩
        · intro H2 acc s2 hD2 hd2
          rw [show ((ps.flatMap (rawS st)).filterMap fun o => o) = beforeList st ps from raw_list hne ps] at hd2
          refine ⟨D, acc, beforeList st ps, rfl, .inl (SqL.of hD2), hd2, beforeList_vld hnf hok, by have := beforeList_len st ps hbd; omega, fun c H3 s3 hs => q c H3 ((s1.trans s2).trans s3) ?_⟩
          rw [beforeOne_eq]
          exact hs
end
end RA
end

section
set_option linter.all false
set_option autoImplicit false
set_option exponentiation.threshold 10000
namespace RA
theorem bdE_up {n m : Nat} {e : Option Int} (h : bdE n e) (hm : n ≤ m) : bdE m e := fun a ha => pow_lt (h a ha) hm
theorem bdL_up {n m : Nat} {ps : List Pr} (h : bdL n ps) (hm : n ≤ m) : bdL m ps := fun p hp => ⟨bdE_up (h p hp).1 hm, bdE_up (h p hp).2 hm⟩
theorem bdE_none (n : Nat) : bdE n none := fun _ h => (nomatch h)
theorem bdE_some {n : Nat} {a : Int} (h : a.natAbs < 2 ^ n) : bdE n (some a) := fun b e => by cases e; exact h
theorem later_bd {n : Nat} {a b : Option Int} (ha : bdE n a) (hb : bdE n b) : bdE n (laterEnd a b) := by
  cases a with
  | none => exact bdE_none n
  | some a =>
    cases b with
    | none => exact bdE_none n
    | some b =>
      intro c hc
      simp only [laterEnd] at hc
      cases hc
      split
      · exact hb _ rfl
      · exact ha _ rfl
theorem mstep_bd {n : Nat} {acc : List Pr} {p : Pr} (ha : bdL n acc) (hp : bdE n p.1 ∧ bdE n p.2) : bdL n (mstep acc p) := by
  rcases List.eq_nil_or_concat acc with rfl | ⟨pre, l, rfl⟩
  · intro q hq
    rw [mstep_nil] at hq
    rw [List.mem_singleton.mp hq]
    exact hp
  · rw [List.concat_eq_append] at ha ⊢
    rw [mstep_snoc]
    have hl := ha l (by simp)
    split
    · intro q hq
      rcases List.mem_append.mp hq with hq | hq
      · exact ha q (by simp [hq])
      · rw [List.mem_singleton.mp hq]
        exact ⟨hl.1, later_bd hl.2 hp.2⟩
    · intro q hq
      rcases List.mem_append.mp hq with hq | hq
      · exact ha q hq
      · rw [List.mem_singleton.mp hq]
        exact hp
theorem fold_bd {n : Nat} : ∀ {ps acc : List Pr}, bdL n acc → bdL n ps → bdL n (ps.foldl mstep acc)
  | [], _, h, _ => h
  | p :: ps, acc, h, hp => fold_bd (ps := ps) (mstep_bd h (hp p (by simp))) fun q hq => hp q (by simp [hq])
theorem merged_bd {n : Nat} {ps : List Pr} (h : bdL n ps) : bdL n (merged ps) :=
  fold_bd (fun _ h => (nomatch h)) fun p hp => h p ((List.mergeSort_perm ps lowLe).subset hp)
theorem max_bd {n : Nat} {a b : Option Int} (ha : bdE n a) (hb : bdE n b) : bdE n (maxO a b) := by
  cases a with
  | none => exact hb
  | some a =>
    cases b with
    | none => exact ha
    | some b =>
      refine bdE_some ?_
      rcases Int.le_total a b with h | h
      · rw [Int.max_eq_right h]; exact hb _ rfl
      · rw [Int.max_eq_left h]; exact ha _ rfl
theorem min_bd {n : Nat} {a b : Option Int} (ha : bdE n a) (hb : bdE n b) : bdE n (minO a b) := by
  cases a with
  | none => exact hb
  | some a =>
    cases b with
    | none => exact ha
    | some b =>
      refine bdE_some ?_
      rcases Int.le_total a b with h | h
      · rw [Int.min_eq_left h]; exact ha _ rfl
      · rw [Int.min_eq_right h]; exact hb _ rfl
theorem inter_bd {n : Nat} {a b : List Pr} (ha : bdL n a) (hb : bdL n b) : bdL n (inter a b) := by
  intro r hr
  obtain ⟨p, hp, hr⟩ := List.mem_flatMap.mp hr
  obtain ⟨q, hq, hr⟩ := List.mem_filterMap.mp hr
  rw [metP_ends hr]
  exact ⟨max_bd (ha p hp).1 (hb q hq).1, min_bd (ha p hp).2 (hb q hq).2⟩
theorem pow_s (n : Nat) : 2 ^ (n + 1) = 2 ^ n * 2 := Nat.pow_succ 2 n
theorem one_le (n : Nat) : 1 ≤ 2 ^ n := Nat.one_le_two_pow
theorem bdE_map {n m : Nat} {e : Option Int} {f : Int → Int} (h : bdE n e) (hf : ∀ a : Int, a.natAbs < 2 ^ n → (f a).natAbs < 2 ^ m) : bdE m (e.map f) := by
  cases e with
  | none => exact bdE_none m
  | some a => exact bdE_some (hf a (h a rfl))
theorem gaps_bd_run {n : Nat} : ∀ {ps : List Pr} {g : GapSt}, bdL n ps → bdL (n + 1) g.found → bdE (n + 1) g.low → bdL (n + 1) (ps.foldl gapStep g).found ∧ bdE (n + 1) (ps.foldl gapStep g).low
  | [], _, _, h1, h2 => ⟨h1, h2⟩
  | p :: ps, g, h, h1, h2 => by
    have hp := h p (by simp)
    have e1 := one_le n
    have e2 := pow_s n
    refine gaps_bd_run (ps := ps) (fun q hq => h q (by simp [hq])) ?_ ?_
    · unfold gapStep
      cases e : p.1 with
      | none => exact h1
      | some b =>
        have hb := hp.1 b e
        intro q hq
        rcases List.mem_append.mp hq with hq | hq
        · exact h1 q hq
        · rw [List.mem_singleton.mp hq]
          exact ⟨h2, bdE_some (by omega)⟩
    · exact bdE_map hp.2 fun a ha => by omega
theorem gaps_bd {n : Nat} {ps : List Pr} (h : bdL n ps) : bdL (n + 1) (gapsIn ps) := by
  obtain ⟨h1, h2⟩ := gaps_bd_run (g := ⟨[], none, true⟩) h (fun _ h => (nomatch h)) (bdE_none _)
  unfold gapsIn
  split
  · intro q hq
    rcases List.mem_append.mp hq with hq | hq
    · exact h1 q hq
    · rw [List.mem_singleton.mp hq]
      exact ⟨h2, bdE_none _⟩
  · exact h1
theorem p44 : (2 : Nat) ^ 44 = 17592186044416 := by decide
theorem p45 : (2 : Nat) ^ 45 = 35184372088832 := by decide
theorem p50 : (2 : Nat) ^ 50 = 1125899906842624 := by decide
theorem max1 {x : Int} (h : x.natAbs < 2 ^ 46) : (max 1 x).natAbs < 2 ^ 46 := by
  rcases Int.le_total 1 x with h1 | h1
  · rw [Int.max_eq_right h1]; exact h
  · rw [Int.max_eq_left h1]; decide
theorem over_bd {p r : Pr} {k : Int} (hk : k.natAbs ≤ 2 ^ 44) (h : beforeOver p k = some r) : bdE 46 r.1 ∧ bdE 46 r.2 := by
  have q1 := p44
  have q2 : (2 : Nat) ^ 46 = 70368744177664 := by decide
  unfold beforeOver at h
  obtain ⟨q', h1, h2⟩ := Option.bind_eq_some_iff.mp h
  obtain ⟨q, h3, h4⟩ := Option.bind_eq_some_iff.mp h1
  have hf : ∀ d : Int, (k.fdiv d).natAbs < 2 ^ 45 := fun d => by have := natAbs_fdiv k d; have := p45; omega
  have hu : ∀ d : Int, (overUp k d).natAbs < 2 ^ 45 := fun d => by have := natAbs_overUp k d; have := p45; omega
  have q3 := p45
  have hq : bdE 46 q.1 ∧ bdE 46 q.2 := by
    unfold overLow at h3
    cases ha : p.1 with
    | none => rw [ha] at h3; cases h3; exact ⟨bdE_some (by decide), bdE_none _⟩
    | some a =>
      rw [ha] at h3
      dsimp only at h3
      split at h3
      · cases h3
      · cases h3
        have := hf a
        have := hu a
        constructor
        · dsimp only
          split
          · exact bdE_some (max1 (by omega))
          · exact bdE_some (by decide)
        · dsimp only
          split
          · exact bdE_some (by omega)
          · exact bdE_none _
  have hr : bdE 46 q'.1 ∧ bdE 46 q'.2 := by
    unfold overHigh at h4
    cases hb : p.2 with
    | none => rw [hb] at h4; cases h4; exact hq
    | some b =>
      rw [hb] at h4
      dsimp only at h4
      split at h4
      · cases h4
      · cases h4
        have := hf (b + 1)
        have := hu (b + 1)
        constructor
        · dsimp only
          split
          · exact max_bd hq.1 (bdE_some (by omega))
          · exact hq.1
        · dsimp only
          split
          · exact min_bd hq.2 (bdE_some (by omega))
          · exact hq.2
  split at h2
  · cases h2; exact hr
  · cases h2
theorem beforeList_bd {n : Nat} {s : Stp} {sp : List Pr} (hn : 45 ≤ n) (h : bdL n sp) (hb : bdS s) : bdL (n + 50) (beforeList s sp) := by
  have e0 : 2 ^ 45 ≤ 2 ^ n := Nat.pow_le_pow_right (by decide) hn
  have e1 := two_pow_add n
  have e2 : 2 ^ n * 64 ≤ 2 ^ n * 2 ^ 50 := Nat.mul_le_mul_left _ (by decide)
  have e3 := one_le n
  have q1 := p44
  have q2 := p45
  have q3 := p50
  intro r hr
  cases s with
  | plus k =>
    obtain ⟨p, hp, rfl⟩ := List.mem_map.mp hr
    have hk : k.natAbs ≤ 2 ^ 44 := hb
    exact ⟨bdE_map (h p hp).1 fun a ha => by omega, bdE_map (h p hp).2 fun a ha => by omega⟩
  | into d =>
    obtain ⟨p, hp, rfl⟩ := List.mem_map.mp hr
    have hk : d.natAbs ≤ 2 ^ 44 := hb
    have m : ∀ a : Int, a.natAbs < 2 ^ n → (a * d).natAbs ≤ 2 ^ n * 2 ^ 44 := fun a ha => by
      rw [Int.natAbs_mul]
      exact Nat.mul_le_mul (Nat.le_of_lt ha) hk
    have e4 : 2 ^ n * 2 ^ 44 * 64 = 2 ^ n * 2 ^ 50 := by rw [Nat.mul_assoc]
    refine ⟨bdE_map (h p hp).1 fun a ha => ?_, bdE_map (h p hp).2 fun a ha => ?_⟩
    · have := m a ha
      have : 1 ≤ 2 ^ n * 2 ^ 44 := Nat.le_trans e3 (Nat.le_mul_of_pos_right _ (by decide))
      omega
    · have h1 := m a ha
      have h2 : 2 ^ 44 ≤ 2 ^ n * 2 ^ 44 := Nat.le_mul_of_pos_left _ e3
      have h3 : (a * d + d - 1).natAbs ≤ (a * d).natAbs + d.natAbs + 1 := by omega
      show (a * d + d - 1).natAbs < _
      omega
  | times k =>
    obtain ⟨p, hp, hq⟩ := List.mem_filterMap.mp hr
    have hg : ∀ q : Pr, bdE n q.1 ∧ bdE n q.2 → bdE (n + 50) (q.1.map (overUp · k)) ∧ bdE (n + 50) (q.2.map (·.fdiv k)) := fun q hq =>
      ⟨bdE_map hq.1 fun a ha => by have := natAbs_overUp a k; omega, bdE_map hq.2 fun a ha => by have := natAbs_fdiv a k; omega⟩
    have hq' : bdE n (if k > 0 then p else (p.2, p.1) : Pr).1 ∧ bdE n (if k > 0 then p else (p.2, p.1) : Pr).2 := by
      split
      · exact h p hp
      · exact ⟨(h p hp).2, (h p hp).1⟩
    unfold beforeTimes at hq
    generalize (if k > 0 then p else (p.2, p.1)) = q at hq hq'
    have hgq := hg q hq'
    dsimp only at hq
    split at hq
    · cases hq
      exact hgq
    · cases hq
  | over k =>
    have hk : k.natAbs ≤ 2 ^ 44 := hb
    obtain ⟨p, hp, hq⟩ := List.mem_flatMap.mp hr
    obtain ⟨o, ho, rfl⟩ := List.mem_filterMap.mp hq
    simp at ho
    rcases ho with ho | ho
    · have := over_bd hk ho.symm
      exact ⟨bdE_up this.1 (by omega), bdE_up this.2 (by omega)⟩
    · obtain ⟨q, h1, h2⟩ := Option.map_eq_some_iff.mp ho.symm
      have := over_bd (k := -k) (by omega) h1
      rw [← h2]
      exact ⟨bdE_map this.2 fun a ha => by have := pow_lt (b := n + 50) ha (by omega); omega, bdE_map this.1 fun a ha => by have := pow_lt (b := n + 50) ha (by omega); omega⟩
  | found ps =>
    obtain ⟨q, hq, h⟩ := List.mem_filterMap.mp hr
    split at h
    · cases h
      have := (hb.1 q hq).1
      exact ⟨bdE_some (by omega), bdE_some (by omega)⟩
    · cases h
/-! ## all of it together -/
structure Good (L n : Nat) (ps : List Pr) : Prop where
  nf : Nf ps
  len : ps.length ≤ L
  bd : bdL n ps
theorem Good.up {L M n m : Nat} {ps : List Pr} (h : Good L n ps) (h1 : L ≤ M) (h2 : n ≤ m) : Good M m ps := ⟨h.nf, Nat.le_trans h.len h1, bdL_up h.bd h2⟩
theorem beforeList_len2 (s : Stp) (ps : List Pr) (hb : bdS s) : (beforeList s ps).length ≤ max (2 * ps.length) 6 := by
  by_cases h : ∃ qs, s = .found qs
  · obtain ⟨qs, rfl⟩ := h
    have h1 : (beforeList (.found qs) ps).length ≤ qs.length := List.length_filterMap_le _ _
    have h2 : qs.length ≤ 6 := hb.2
    omega
  · rw [← raw_list (fun qs e => h ⟨qs, e⟩)]
    have h1 := List.length_filterMap_le (id : Option Pr → Option Pr) (ps.flatMap (rawS s))
    have h2 := raw_len s ps
    omega
theorem good_one {L n : Nat} {s : Stp} {sp : List Pr} (h : Good L n sp) (hn : 45 ≤ n) (ho : okS s) (hb : bdS s) : Good (max (2 * L) 6) (n + 50) (beforeOne s sp) := by
  rw [beforeOne_eq]
  have hv := beforeList_vld h.nf ho
  refine ⟨merged_nf hv, ?_, merged_bd (beforeList_bd hn h.bd hb)⟩
  have h1 := merged_len hv
  have h2 := beforeList_len2 s sp hb
  have h3 := h.len
  omega
theorem good_U {L M n : Nat} {a b : List Pr} (ha : Good L n a) (hb : Good M n b) : Good (L + M) n (spU a b) := by
  have hv : ∀ p ∈ a ++ b, vld p = true := fun p hp => (List.mem_append.mp hp).elim (ha.nf.1 p) (hb.nf.1 p)
  refine ⟨spU_nf ha.nf hb.nf, ?_, merged_bd fun p hp => (List.mem_append.mp hp).elim (ha.bd p) (hb.bd p)⟩
  have h1 := merged_len hv
  have h2 := ha.len
  have h3 := hb.len
  rw [List.length_append] at h1
  exact Nat.le_trans h1 (by omega)
theorem good_N {L n : Nat} {a : List Pr} (ha : Good L n a) : Good (L + 1) (n + 1) (spN a) := by
  refine ⟨spN_nf ha.nf, ?_, merged_bd (gaps_bd ha.bd)⟩
  have h1 := merged_len (gaps_vld ha.nf)
  have h2 := gaps_len a
  have h3 := ha.len
  exact Nat.le_trans h1 (by omega)
theorem good_nil {L n : Nat} : Good L n (merged []) := by
  rw [merged_nil]
  exact ⟨nf_nil, by simp, fun _ h => (nomatch h)⟩
theorem good_single {n : Nat} {p : Pr} (hv : vld p = true) (h : bdE n p.1 ∧ bdE n p.2) : Good 1 n (merged [p]) := by
  rw [merged_id (nf_one hv)]
  refine ⟨nf_one hv, by simp, fun q hq => ?_⟩
  rw [List.mem_singleton.mp hq]
  exact h
theorem good_at {s : Stp} (hb : bdS s) : Good 7 46 (erringAt s) := by
  cases s with
  | over k => exact (good_single (p := dot 0) rfl ⟨bdE_some (by decide), bdE_some (by decide)⟩).up (by decide) (Nat.le_refl _)
  | found ps =>
    have hg : Good 6 45 (merged (ps.map fun q => dot q.1)) := by
      refine ⟨merged_nf (dots_vld ps), ?_, merged_bd ?_⟩
      · have h1 := merged_len (dots_vld ps)
        have h2 : ps.length ≤ 6 := hb.2
        rw [List.length_map] at h1
        omega
      · intro p hp
        obtain ⟨q, hq, rfl⟩ := List.mem_map.mp hp
        have := (hb.1 q hq).1
        have q1 := p44
        have q2 := p45
        exact ⟨bdE_some (by omega), bdE_some (by omega)⟩
    exact good_N hg
  | _ => exact good_nil
theorem at_len {s : Stp} {L : Nat} {sp : List Pr} (h : Nf sp) (hl : sp.length ≤ L) (ho : okS s) (hb : bdS s) : (beforeOne s sp).length + (erringAt s).length ≤ max (2 * L + 1) 13 := by
  have hv := beforeList_vld h ho
  have h1 := merged_len hv
  rw [← beforeOne_eq] at h1
  have h2 := beforeList_len2 s sp hb
  cases s with
  | found ps =>
    have h3 := (good_at hb).len
    have h4 : (beforeList (.found ps) sp).length ≤ ps.length := List.length_filterMap_le _ _
    have h5 : ps.length ≤ 6 := hb.2
    omega
  | over k =>
    have h6 := raw_len (.over k) sp
    have h7 := List.length_filterMap_le (id : Option Pr → Option Pr) (sp.flatMap (rawS (.over k)))
    rw [raw_list (fun _ e => by cases e)] at h7
    have h8 := (good_single (n := 46) (p := dot 0) rfl ⟨bdE_some (by decide), bdE_some (by decide)⟩).len
    have h9 : (erringAt (.over k)).length = (merged [dot 0]).length := rfl
    omega
  | plus k =>
    have h6 := raw_len (.plus k) sp
    have h7 := List.length_filterMap_le (id : Option Pr → Option Pr) (sp.flatMap (rawS (.plus k)))
    rw [raw_list (fun _ e => by cases e)] at h7
    have h9 : (erringAt (.plus k)).length = 0 := by show (merged []).length = 0; rw [merged_nil]; rfl
    omega
  | into k =>
    have h6 := raw_len (.into k) sp
    have h7 := List.length_filterMap_le (id : Option Pr → Option Pr) (sp.flatMap (rawS (.into k)))
    rw [raw_list (fun _ e => by cases e)] at h7
    have h9 : (erringAt (.into k)).length = 0 := by show (merged []).length = 0; rw [merged_nil]; rfl
    omega
  | times k =>
    have h6 := raw_len (.times k) sp
    have h7 := List.length_filterMap_le (id : Option Pr → Option Pr) (sp.flatMap (rawS (.times k)))
    rw [raw_list (fun _ e => by cases e)] at h7
    have h9 : (erringAt (.times k)).length = 0 := by show (merged []).length = 0; rw [merged_nil]; rfl
    omega
theorem good_err {L n : Nat} {s : Stp} {sp : List Pr} (h : Good L n sp) (hn : 45 ≤ n) (ho : okS s) (hb : bdS s) : Good (max (2 * L + 1) 13) (n + 50) (spU (beforeOne s sp) (erringAt s)) := by
  have g1 := good_one h hn ho hb
  have g2 := (good_at hb).up (Nat.le_refl _) (show 46 ≤ n + 50 by omega)
  have g3 := good_U g1 g2
  refine ⟨g3.nf, ?_, g3.bd⟩
  have hv : ∀ p ∈ beforeOne s sp ++ erringAt s, vld p = true := fun p hp => (List.mem_append.mp hp).elim (g1.nf.1 p) (g2.nf.1 p)
  have h1 := merged_len hv
  have h2 := at_len h.nf h.len ho hb
  rw [List.length_append] at h1
  exact Nat.le_trans h1 h2
/-- behind k steps -/
theorem good_before : ∀ {ss : List Stp} {sp : List Pr}, (∀ s ∈ ss, okS s ∧ bdS s) → Good 3 50 sp → Good (3 * 2 ^ ss.length) (50 + 50 * ss.length) (before ss sp)
  | [], sp, _, h => h
  | s :: ss, sp, ho, h => by
    have g := good_before (ss := ss) (fun t ht => ho t (by simp [ht])) h
    have hs := ho s (by simp)
    have g2 := good_one g (by omega) hs.1 hs.2
    refine Good.up g2 ?_ ?_
    · rw [List.length_cons, pow_s]
      have := one_le ss.length
      omega
    · rw [List.length_cons]
      omega
theorem good_erring : ∀ {ss : List Stp}, (∀ s ∈ ss, okS s ∧ bdS s) → Good (7 * 2 ^ ss.length - 1) (50 + 50 * ss.length) (erring ss)
  | [], _ => good_nil
  | s :: ss, ho => by
    have g := good_erring (ss := ss) (fun t ht => ho t (by simp [ht]))
    have hs := ho s (by simp)
    have g2 := good_err g (by omega) hs.1 hs.2
    refine Good.up g2 ?_ ?_
    · rw [List.length_cons, pow_s]
      have := one_le ss.length
      omega
    · rw [List.length_cons]
      omega
end RA
end

section
set_option Elab.async false
set_option linter.all false
set_option autoImplicit false
set_option maxRecDepth 100000
set_option maxHeartbeats 4000000
set_option exponentiation.threshold 10000
namespace RA
open PySem PySem.Spec PyProof.Rows L2
section
variable {P : Program} {w : World} {K : PySem.W.Frag} {mg : Str → Option Value} {base : Heap} {C : Addr}
/-! ## Spans([..]) written -/
theorem rd_empty {te : TE} {σ : L2.St} {H : Hp} {Q : VK} (h : RetS K C H Q (merged [])) : tSpans K C (tLst tNil) σ H Q :=
  ⟨Nat.zero_le _, fun p hp => ⟨p, [], [], rfl, .inl (SqL.of upd_same), .nil, by simp, by simp, fun a H' s' hs => h a H' ((same_upd hp).trans s') hs⟩⟩
/-! ## erring_at -/
def spEat (K : PySem.W.Frag) (C : Addr) : Sp := fun vs H Q _ => ∃ v s, vs = [v] ∧ Dp K H v (encS s) ∧ bdS s ∧ RetS K C H Q (erringAt s)
abbrev sEat : Stmt := top 24
abbrev nEat : List Str := ["step", "key", "found"]
theorem scEat : FnScope nEat ["step"] (defScope sEat) := ⟨rfl, rfl, rfl, by decide +kernel, rfl, by decide +kernel, by decide +kernel⟩
theorem one_sz : 1 ≤ sizeLine := by decide
theorem ok_eat {f : Addr} {fd : FuncData} (F : Fun K "erring_at" "erring_at" sEat f fd) (S : SpMs P w K mg base C) : FnOk P w K mg base CX0 8 f fd ["step"] (spEat K C) := by
  refine F.ok scEat (fun vs H Q E h => ?_) (fun cdv A outer s H vs Q E hr h => ?_)
  · obtain ⟨v, st, rfl, _⟩ := h
    rfl
  · obtain ⟨v, st, rfl, hv, hbd, q⟩ := h
    obtain ⟨a, u, rfl, ha, hu⟩ := dp_s hv
    have nd := scEat.nd
    have hr6 : Room 6 _ := hr.mono (j := 6) (by decide)
    refine ⟨_, pss_cons (ps_if (pt_cmpR op_eq (pe_ix ix_tup (pv 0) pe_int (fun _ _ => rfl)) pe_str (nomark _)) (pss_one (ps_ret (pe_spans S.mkc hr6 (pe_lst (pa_cons (pe_tup (pa_cons pe_int (pa_cons pe_int pa_nil))) pa_nil))))) pss_nil)
      (pss_cons (ps_if (pt_cmpR op_eq (pe_ix ix_tup (pv 0) pe_int (fun _ _ => rfl)) pe_str (nomark _)) (pss_one (ps_ret (pe_un (un_spInv S hr) (pe_spans S.mkc hr6 (pe_lc (own := [("key", 1), ("found", 2)]) (g := gTup K 2 (gCons (gName 1) (gCons (gName 2) gNil))) (tt := tYes) (te := tTup (tCons (tVar 1) (tCons (tVar 1) tNil))) rfl nd (pi_tup (pe_ix ix_tup (pv 0) pe_int (fun _ _ => rfl))) (blkOk_by (N := nEat) (sc := defScope sEat) (by decide +kernel))
          (fun _ _ _ _ _ => pg_tup rfl (pgs_cons (pg_name (i := 1) nd rfl (Or.inl rfl)) (pgs_cons (pg_name (i := 2) nd rfl (Or.inl rfl)) pgs_nil))) (fun _ _ _ _ _ => pts_nil) (fun _ _ _ _ _ => pe_tup (pa_cons (pv 1) (pa_cons (pv 1) pa_nil)))))))) pss_nil)
      (pss_one (ps_ret (pe_spans S.mkc hr6 (pe_lst pa_nil))))), ?_⟩
    refine ⟨_, rfl, a, _, 0, _, rfl, rfl, ha, at0, rfl, _, rfl, ?_⟩
    cases st with
    | over k =>
      refine iteT ⟨two_sz, fun T hT => ⟨one_sz, fun L hL => ?_⟩⟩
      have s1 : Same H (upd (upd H T (.tup [.int 0, .int 0])) L (.lst [.ref T])) := same_new (same_upd hT) hL
      refine ⟨L, _, [dot 0], rfl, .inl (SqL.of upd_same), .cons (Dp.same (same_upd hL) (dp_pr_new (p := dot 0) upd_same)) .nil, by simp [vld_dot], by simp, fun c H' s' hs => q c H' (s1.trans s') hs⟩
    | found ps =>
      obtain ⟨k, ys, rfl, hkt, hky⟩ := dp_tup hu
      refine iteF ⟨_, rfl, a, _, 0, _, rfl, rfl, ha, at0, rfl, _, rfl, iteT ⟨_, rfl, a, _, 1, _, rfl, rfl, ha, at1, k, rfl, ⟨_, hkt⟩, fun D hD => lcD_tup (fun q : Int × Int => some (dot q.1)) encQ encP ps tupD_q tupD_pr hD hkt hky (by have h2 : ps.length ≤ 6 := hbd.2; omega) ?_ ?_⟩⟩
      · intro x q' H1 Y N hp hS hx hY hN
        obtain ⟨t, rfl, ht⟩ := dp_q hx
        exact ⟨t, _, rfl, ht, rfl, _, _, rfl, _, _, rfl, rfl, rfl, _, rfl, _, rfl, two_sz, fun T hT => hY _ (dot q'.1) _ rfl (same_upd hT) (dp_pr_new (p := dot q'.1) upd_same)⟩
      · intro H2 acc s2 hD2 hd2
        have e : (ps.filterMap fun q : Int × Int => some (dot q.1)) = ps.map fun q => dot q.1 := by simp
        rw [e] at hd2
        have hl : ps.length ≤ 6 := hbd.2
        refine ⟨D, acc, _, rfl, .inl (SqL.of hD2), hd2, dots_vld ps, by rw [List.length_map]; omega, fun c H3 s3 hs => ?_⟩
        refine ⟨c, _, rfl, hs, merged_nf (dots_vld ps), ?_, fun e H4 s4 hs4 => q e H4 ((s2.trans s3).trans s4) hs4⟩
        have := merged_len (dots_vld ps)
        rw [List.length_map] at this
        omega
    | plus k => exact iteF ⟨_, rfl, a, _, 0, _, rfl, rfl, ha, at0, rfl, _, rfl, iteF (rd_empty (te := tC .non) (σ := []) q)⟩
    | times k => exact iteF ⟨_, rfl, a, _, 0, _, rfl, rfl, ha, at0, rfl, _, rfl, iteF (rd_empty (te := tC .non) (σ := []) q)⟩
    | into k => exact iteF ⟨_, rfl, a, _, 0, _, rfl, rfl, ha, at0, rfl, _, rfl, iteF (rd_empty (te := tC .non) (σ := []) q)⟩
/-! ## before -/
def spBefore (K : PySem.W.Frag) (C : Addr) : Sp := fun vs H Q _ => ∃ a xs b ss ps, vs = [.ref a, .ref b] ∧ SqT K H a xs ∧ DpAll K H xs (ss.map encS) ∧ SpAt K C H b ps ∧ (∀ s ∈ ss, okS s ∧ bdS s) ∧ ss.length ≤ 4 ∧
  (∀ i ≤ ss.length, Good 5000 450 (before (ss.drop i) ps)) ∧ RetS K C H Q (before ss ps)
abbrev sBefore : Stmt := top 33
abbrev nBefore : List Str := ["steps", "spans", "step"]
theorem scBefore : FnScope nBefore ["steps", "spans"] (defScope sBefore) := ⟨rfl, rfl, rfl, by decide +kernel, rfl, by decide +kernel, by decide +kernel⟩
theorem rev_get {α : Type} {xs : List α} {i : Nat} {x : α} (h : xs.reverse[i]? = some x) : i < xs.length ∧ xs[xs.length - 1 - i]? = some x := by
  have hi : i < xs.reverse.length := (List.getElem?_eq_some_iff.mp h).1
  rw [List.length_reverse] at hi
  refine ⟨hi, ?_⟩
  rw [List.getElem?_reverse hi] at h
  exact h
theorem drop_at {α : Type} {xs : List α} {j : Nat} {x : α} (h : xs[j]? = some x) : xs.drop j = x :: xs.drop (j + 1) := by
  obtain ⟨hj, e⟩ := List.getElem?_eq_some_iff.mp h
  rw [List.drop_eq_getElem_cons hj, e]
theorem ok_before {f : Addr} {fd : FuncData} (F : Fun K "before" "before" sBefore f fd) (Fb : Fd P w K mg base "before_one" 8 ["step", "spans"] (spBeforeOne K C)) : FnOk P w K mg base CX0 9 f fd ["steps", "spans"] (spBefore K C) := by
  refine F.ok scBefore (fun vs H Q E h => ?_) (fun cdv A outer s H vs Q E hr h => ?_)
  · obtain ⟨a, xs, b, ss, ps, rfl, _⟩ := h
    rfl
  · obtain ⟨a, xs, b, ss, ps, rfl, ha, hx, hsp, hok, hlen, hg, q⟩ := h
    have nd := scBefore.nd
    refine ⟨_, pss_cons (ps_for PassesOwn.never rfl (pi_tup (pe_revT (pv 0))) (pg_name (i := 2) nd rfl (Or.inl rfl)) (pss_one (ps_set nd (i := 1) rfl (Or.inl rfl) (pe_f Fb hr (pa_cons (pv 2) (pa_cons (pv 1) pa_nil))))))
      (pss_one (ps_ret (pv 1))), ?_⟩
    have exl : xs.length = ss.length := by rw [DpAll.len hx, List.length_map]
    refine ⟨_, rfl, a, xs, rfl, ha, fun R hR => ?_⟩
    have s0 : Same H (upd H R (.tup xs.reverse)) := same_upd hR
    refine ⟨R, rfl, ⟨_, SqT.of upd_same⟩, for_tup (xs := xs.reverse) (fun i σ H' => ∃ c d, σ = [some (.ref a), some (.ref c), d] ∧ Same (upd H R (.tup xs.reverse)) H' ∧ SpAt K C H' c (before (ss.drop (ss.length - i)) ps)) ?_ ?_ ?_ ?_⟩
    · refine ⟨b, _, rfl, Same.refl _, ?_⟩
      rw [Nat.sub_zero, List.drop_length]
      exact hsp.same s0
    · rintro i σ H' _ ⟨c, d, rfl, s1, _⟩
      exact (SqT.of upd_same).ext s1
    · rintro i z σ H' hzi ⟨c, d, rfl, s1, hc⟩
      obtain ⟨hil, hz⟩ := rev_get hzi
      obtain ⟨e, he1, he2⟩ := DpAll.get hx hz
      rw [exl] at he1 hil
      rw [List.getElem?_map] at he1
      cases hp : ss[ss.length - 1 - i]? with
      | none => rw [hp] at he1; cases he1
      | some p =>
        rw [hp] at he1
        cases he1
        have hpm : p ∈ ss := List.mem_of_getElem? hp
        have g := hg (ss.length - i) (by omega)
        have ed : ss.drop (ss.length - (i + 1)) = p :: ss.drop (ss.length - i) := by
          rw [show ss.length - (i + 1) = ss.length - 1 - i by omega, drop_at hp, show ss.length - 1 - i + 1 = ss.length - i by omega]
        refine ⟨_, rfl, _, rfl, _, c, p, _, rfl, Dp.same (s0.trans s1) he2, hc, (hok p hpm).1, (hok p hpm).2, g.nf, g.len, g.bd, fun c' H2 s2 hs => ⟨c', _, rfl, s1.trans s2, ?_⟩⟩
        rw [ed]
        exact hs
    · rintro σ H' ⟨c, d, rfl, s1, hc⟩
      rw [List.length_reverse, exl, Nat.sub_self, List.drop_zero] at hc
      exact ⟨_, rfl, q c H' (s0.trans s1) hc⟩
/-! ## erring -/
def spErring (K : PySem.W.Frag) (C : Addr) : Sp := fun vs H Q _ => ∃ a xs ss, vs = [.ref a] ∧ SqT K H a xs ∧ DpAll K H xs (ss.map encS) ∧ (∀ s ∈ ss, okS s ∧ bdS s) ∧ ss.length ≤ 4 ∧ RetS K C H Q (erring ss)
abbrev sErring : Stmt := top 25
abbrev nErring : List Str := ["steps", "found", "step"]
theorem scErring : FnScope nErring ["steps"] (defScope sErring) := ⟨rfl, rfl, rfl, by decide +kernel, rfl, by decide +kernel, by decide +kernel⟩
theorem ok_erring {f : Addr} {fd : FuncData} (F : Fun K "erring" "erring" sErring f fd) (S : SpMs P w K mg base C) (Fb : Fd P w K mg base "before" 9 ["steps", "spans"] (spBefore K C)) (Fe : Fd P w K mg base "erring_at" 8 ["step"] (spEat K C)) : FnOk P w K mg base CX0 10 f fd ["steps"] (spErring K C) := by
  refine F.ok scErring (fun vs H Q E h => ?_) (fun cdv A outer s H vs Q E hr h => ?_)
  · obtain ⟨a, xs, ss, rfl, _⟩ := h
    rfl
  · obtain ⟨a, xs, ss, rfl, ha, hx, hok, hlen, q⟩ := h
    have nd := scErring.nd
    have hr6 : Room 6 _ := hr.mono (j := 6) (by decide)
    have hr7 : Room 7 _ := hr.mono (j := 7) (by decide)
    have hr8 : Room 8 _ := hr.mono (j := 8) (by decide)
    refine ⟨_, pss_cons (ps_set nd (i := 1) rfl (Or.inl rfl) (pe_spans S.mkc hr6 (pe_lst pa_nil)))
      (pss_cons (ps_for PassesOwn.never rfl (pi_tup (pe_revT (pv 0))) (pg_name (i := 2) nd rfl (Or.inl rfl)) (pss_one (ps_set nd (i := 1) rfl (Or.inl rfl) (pe_op (op_spOr S hr7) (pe_f Fb hr (pa_cons (pe_tup (pa_cons (pv 2) pa_nil)) (pa_cons (pv 1) pa_nil))) (pe_f Fe hr8 (pa_cons (pv 2) pa_nil))))))
      (pss_one (ps_ret (pv 1)))), ?_⟩
    have exl : xs.length = ss.length := by rw [DpAll.len hx, List.length_map]
    refine rd_empty (te := tC .non) (σ := []) fun b H0 s00 hb => ?_
    refine ⟨_, rfl, a, xs, rfl, ha.ext s00, fun R hR => ?_⟩
    have s0 : Same H (upd H0 R (.tup xs.reverse)) := same_new s00 hR
    refine ⟨R, rfl, ⟨_, SqT.of upd_same⟩, for_tup (xs := xs.reverse) (fun i σ H' => ∃ c d, σ = [some (.ref a), some (.ref c), d] ∧ Same (upd H0 R (.tup xs.reverse)) H' ∧ SpAt K C H' c (erring (ss.drop (ss.length - i)))) ?_ ?_ ?_ ?_⟩
    · refine ⟨b, _, rfl, Same.refl _, ?_⟩
      rw [Nat.sub_zero, List.drop_length]
      exact hb.same (same_upd hR)
    · rintro i σ H' _ ⟨c, d, rfl, s1, _⟩
      exact (SqT.of upd_same).ext s1
    · rintro i z σ H' hzi ⟨c, d, rfl, s1, hc⟩
      obtain ⟨hil, hz⟩ := rev_get hzi
      obtain ⟨e, he1, he2⟩ := DpAll.get hx hz
      rw [exl] at he1 hil
      rw [List.getElem?_map] at he1
      cases hp : ss[ss.length - 1 - i]? with
      | none => rw [hp] at he1; cases he1
      | some p =>
        rw [hp] at he1
        cases he1
        have hpm : p ∈ ss := List.mem_of_getElem? hp
        have ed : ss.drop (ss.length - (i + 1)) = p :: ss.drop (ss.length - i) := by
          rw [show ss.length - (i + 1) = ss.length - 1 - i by omega, drop_at hp, show ss.length - 1 - i + 1 = ss.length - i by omega]
        have hdl : (ss.drop (ss.length - i)).length ≤ 4 := by rw [List.length_drop]; omega
        have g0 := good_erring (ss := ss.drop (ss.length - i)) (fun t ht => hok t (List.mem_of_mem_drop ht))
        have hL : 7 * 2 ^ (ss.drop (ss.length - i)).length - 1 ≤ 111 := by
          have : 2 ^ (ss.drop (ss.length - i)).length ≤ 2 ^ 4 := Nat.pow_le_pow_right (by decide) hdl
          omega
        have g : Good 111 250 (erring (ss.drop (ss.length - i))) := g0.up hL (by omega)
        have gp := good_one g (by omega) (hok p hpm).1 (hok p hpm).2
        have ga := good_at (hok p hpm).2
        have hzd : Dp K H' z (encS p) := Dp.same (s0.trans s1) he2
        refine ⟨_, rfl, one_sz, fun T hT => ⟨_, rfl, T, [z], c, [p], _, rfl, SqT.of upd_same, .cons (Dp.same (same_upd hT) hzd) .nil, hc.same (same_upd hT), ?_, by simp, ?_, fun c1 H2 s2 hs2 => ?_⟩⟩
        · intro t ht
          rw [List.mem_singleton.mp ht]
          exact hok p hpm
        · intro j hj
          rcases Nat.eq_zero_or_pos j with h0 | h0
          · subst h0
            exact gp.up (by decide) (by omega)
          · have : j = 1 := by simp at hj; omega
            subst this
            exact g.up (by decide) (by omega)
        · have hzd2 := Dp.same (s2) (Dp.same (same_upd hT) hzd)
          refine ⟨_, rfl, _, p, rfl, hzd2, (hok p hpm).2, fun c2 H3 s3 hs3 => ?_⟩
          refine ⟨c1, c2, _, _, rfl, rfl, hs2.same s3, hs3, gp.nf.1, ga.nf.1, Nat.le_trans gp.len (by decide), Nat.le_trans ga.len (by decide), fun c3 H4 s4 hs4 => ⟨c3, _, rfl, ((((s1.trans (same_upd hT)).trans s2).trans s3).trans s4), ?_⟩⟩
          rw [ed]
          exact hs4
    · rintro σ H' ⟨c, d, rfl, s1, hc⟩
      rw [List.length_reverse, exl, Nat.sub_self, List.drop_zero] at hc
      exact ⟨_, rfl, q c H' (s0.trans s1) hc⟩
end
end RA
end

section
set_option Elab.async false
set_option linter.all false
set_option autoImplicit false
set_option maxRecDepth 100000
set_option maxHeartbeats 4000000
set_option exponentiation.threshold 10000
namespace RA
open PySem PySem.Spec PyProof.Rows L2
/-! ## tests as data -/
def signS : Sgn → Str
  | .lt => "<"
  | .le => "<="
  | .ne => "<>"
  | .eq => "="
  | .gt => ">"
  | .ge => ">="
def encT (t : Tst) : PyData := .tuple [.str "asks", .str "n", .tuple (t.steps.map encS), .str (signS t.sign), .int t.n]
def okT (t : Tst) : Prop := (∀ s ∈ t.steps, okS s ∧ bdS s) ∧ t.steps.length ≤ 4 ∧ t.n.natAbs ≤ 2 ^ 44
theorem tupD_t (t : Tst) : tupD (encT t) = true := by
  simp [encT, tupD, tupDs]
  exact tupDs_map tupD_s _
/-- what is no tuple -/
def notTup (o : HO) : Prop := (∀ xs, o ≠ .tup xs) ∧ ∀ q u, o ≠ .frz q u
section
variable {P : Program} {w : World} {K : PySem.W.Frag} {mg : Str → Option Value} {base : Heap} {C CE : Addr}
theorem sqt_updO {H : Hp} {F a : Addr} {o o' : HO} {xs : List V} (hF : H F = some o) (hn : notTup o) (h : SqT K H a xs) : SqT K (upd H F o') a xs := by
  rcases h with (h | ⟨q, h⟩) | h
  · refine .inl (.inl ?_)
    rw [upd_ne (by rintro rfl; rw [hF] at h; cases h; exact hn.1 _ rfl)]
    exact h
  · refine .inl (.inr ⟨q, ?_⟩)
    rw [upd_ne (by rintro rfl; rw [hF] at h; cases h; exact hn.2 _ _ rfl)]
    exact h
  · exact .inr h
theorem notTup_dK (kvs : List (Key × V)) : notTup (.dK kvs) := ⟨fun _ h => (nomatch h), fun _ _ h => (nomatch h)⟩
theorem notTup_dT (kvs : List (List Key × V)) : notTup (.dT kvs) := ⟨fun _ h => (nomatch h), fun _ _ h => (nomatch h)⟩
theorem notTup_lst (xs : List V) : notTup (.lst xs) := ⟨fun _ h => (nomatch h), fun _ _ h => (nomatch h)⟩
theorem dps_updO {H : Hp} {F : Addr} {o o' : HO} {ds : List PyData} {vs : List V} (hF : H F = some o) (hn : notTup o) (ht : tupDs ds = true) (h : DpAll K H vs ds) : DpAll K (upd H F o') vs ds := DpAll.keepT (fun _ _ z => sqt_updO hF hn z) _ _ ht h
theorem dp_updO {H : Hp} {F : Addr} {o o' : HO} {d : PyData} {v : V} (hF : H F = some o) (hn : notTup o) (ht : tupD d = true) (h : Dp K H v d) : Dp K (upd H F o') v d := Dp.keepT (fun _ _ z => sqt_updO hF hn z) _ _ ht h
theorem sp_updD {H : Hp} {D r : Addr} {kvs : List (Key × V)} {o' : HO} {ps : List Pr} (hD : H D = some (.dK kvs)) (h : SpAt K C H r ps) : SpAt K C (upd H D o') r ps := by
  obtain ⟨dx, l, xs, h1, h2, h3⟩ := h
  exact ⟨dx, l, xs, by rw [upd_ne (by rintro rfl; rw [hD] at h1; cases h1)]; exact h1, by rw [upd_ne (by rintro rfl; rw [hD] at h2; cases h2)]; exact h2, dps_updO hD (notTup_dK _) (tupDs_prs _) h3⟩
theorem sp_updT {H : Hp} {D r : Addr} {kvs : List (List Key × V)} {o' : HO} {ps : List Pr} (hD : H D = some (.dT kvs)) (h : SpAt K C H r ps) : SpAt K C (upd H D o') r ps := by
  obtain ⟨dx, l, xs, h1, h2, h3⟩ := h
  exact ⟨dx, l, xs, by rw [upd_ne (by rintro rfl; rw [hD] at h1; cases h1)]; exact h1, by rw [upd_ne (by rintro rfl; rw [hD] at h2; cases h2)]; exact h2, dps_updO hD (notTup_dT _) (tupDs_prs _) h3⟩
/-! ## holding -/
def spHold (K : PySem.W.Frag) (C : Addr) : Sp := fun vs H Q _ => ∃ s n, vs = [.str (signS s), .int n] ∧ RetS K C H Q (holding s n)
abbrev sHold : Stmt := top 35
abbrev nHold : List Str := ["sign", "n", "less", "same", "found"]
theorem scHold : FnScope nHold ["sign", "n"] (defScope sHold) := ⟨rfl, rfl, rfl, by decide +kernel, rfl, by decide +kernel, by decide +kernel⟩
theorem nf_less (n : Int) : Nf (merged [((none, some (n - 1)) : Pr)]) := merged_nf (by intro p hp; rw [List.mem_singleton.mp hp]; rfl)
theorem nf_same (n : Int) : Nf (merged [dot n]) := merged_nf (by intro p hp; rw [List.mem_singleton.mp hp]; exact vld_dot n)
theorem len_one {p : Pr} (h : vld p = true) : (merged [p]).length = 1 := by rw [merged_id (nf_one h)]; rfl
theorem ok_hold {f : Addr} {fd : FuncData} (F : Fun K "holding" "holding" sHold f fd) (S : SpMs P w K mg base C) : FnOk P w K mg base CX0 8 f fd ["sign", "n"] (spHold K C) := by
  refine F.ok scHold (fun vs H Q E h => ?_) (fun cdv A outer s H vs Q E hr h => ?_)
  · obtain ⟨sg, n, rfl, _⟩ := h
    rfl
  · obtain ⟨sg, n, rfl, q⟩ := h
    have nd := scHold.nd
    have hr6 : Room 6 _ := hr.mono (j := 6) (by decide)
    have hu := hu2 hr
    have hu1' : (A.deeper (envOfC "holding" (defScope sHold) s.heap.objs.size f cdv)).units + 1 < cLine := by have := hu1 hr; omega
    refine ⟨_, pss_cons (ps_par (i := 2) (j := 3) rfl nd rfl rfl (by decide) rfl rfl (pa_cons (pe_spans S.mkc hr6 (pe_lst (pa_cons (pe_tup (pa_cons pe_non (pa_cons (pe_op op_sub (pv 1) pe_int) pa_nil))) pa_nil))) (pa_cons (pe_spans S.mkc hr6 (pe_lst (pa_cons (pe_tup (pa_cons (pv 1) (pa_cons (pv 1) pa_nil))) pa_nil))) pa_nil)) (by rfl))
      (pss_cons (ps_set nd (i := 4) rfl (Or.inl rfl) (pe_disp (pps_cons pe_str (pv 2) (pps_cons pe_str (pe_op (op_spOr S hr) (pv 2) (pv 3)) (pps_cons pe_str (pv 3) (pps_cons pe_str (pe_un (un_spInv S hr) (pe_op (op_spOr S hr) (pv 2) (pv 3))) (pps_cons pe_str (pe_un (un_spInv S hr) (pv 2)) pps_nil))))) (by rfl) (by rfl) (fun z => by cases z) (by decide)))
      (pss_one (ps_ret (pe_dget2 hu1' (pv 4) (pv 0) (pe_un (un_spInv S hr) (pv 3)) ⟨rfl, rfl, rfl, rfl⟩)))), ?_⟩
    have l1 : (merged [((none, some (n - 1)) : Pr)]).length = 1 := len_one rfl
    have l2 : (merged [dot n]).length = 1 := len_one (vld_dot n)
    have nfU := spU_nf (nf_less n) (nf_same n)
    have lU : (spU (merged [((none, some (n - 1)) : Pr)]) (merged [dot n])).length ≤ 2 := by
      have := merged_len (ps := merged [((none, some (n - 1)) : Pr)] ++ merged [dot n]) fun p hp => (List.mem_append.mp hp).elim ((nf_less n).1 p) ((nf_same n).1 p)
      rw [List.length_append] at this
      exact Nat.le_trans this (by omega)
    refine ⟨_, rfl, _, _, rfl, rfl, two_sz, fun T hT => ⟨one_sz, fun L hL => ⟨L, _, [(none, some (n - 1))], rfl, .inl (SqL.of upd_same), .cons (Dp.same (same_upd hL) (dp_pr_new (p := (none, some (n - 1))) upd_same)) .nil, by simp [vld], by simp, fun c1 H1 s1 g1 => ?_⟩⟩⟩
    have sA : Same H H1 := (same_new (same_upd hT) hL).trans s1
    refine ⟨_, rfl, _, rfl, two_sz, fun T2 hT2 => ⟨one_sz, fun L2 hL2 => ⟨L2, _, [dot n], rfl, .inl (SqL.of upd_same), .cons (Dp.same (same_upd hL2) (dp_pr_new (p := dot n) upd_same)) .nil, by simp [vld_dot], by simp, fun c2 H2 s2 g2 => ?_⟩⟩⟩
    have sB : Same H1 H2 := (same_new (same_upd hT2) hL2).trans s2
    refine ⟨_, _, rfl, fun p hp => ?_⟩
    have s3 : Same H2 (upd H2 p (.dK [])) := same_upd hp
    have g1' := (g1.same sB).same s3
    have g2' := g2.same s3
    refine ⟨_, rfl, _, rfl, _, rfl, c1, c2, _, _, rfl, rfl, g1', g2', (nf_less n).1, (nf_same n).1, by omega, by omega, fun c3 H3 s4 g3 => ?_⟩
    refine ⟨_, rfl, _, rfl, _, rfl, c1, c2, _, _, rfl, rfl, g1'.same s4, g2'.same s4, (nf_less n).1, (nf_same n).1, by omega, by omega, fun c4 H4 s5 g4 => ?_⟩
    refine ⟨c4, _, rfl, g4, nfU, by omega, fun c5 H5 s6 g5 => ?_⟩
    refine ⟨_, rfl, c1, _, rfl, ((g1'.same s4).same s5).same s6, nf_less n, by omega, fun c6 H6 s7 g6 => ?_⟩
    have s37 : Same (upd H2 p (.dK [])) H6 := ((s4.trans s5).trans s6).trans s7
    have hp6 : H6 p = some (.dK []) := s37 _ _ upd_same
    refine ⟨hp6, [(.inr "<", .ref c1), (.inr "<=", .ref c3), (.inr "=", .ref c2), (.inr ">", .ref c5), (.inr ">=", .ref c6)], rfl, (by show 5 ≤ 15; decide), ?_⟩
    obtain ⟨kvs, hkv⟩ : ∃ kvs, kvs = mergeK [] [((.inr "<" : Key), V.ref c1), (.inr "<=", .ref c3), (.inr "=", .ref c2), (.inr ">", .ref c5), (.inr ">=", .ref c6)] := ⟨_, rfl⟩
    have w1 : valV kvs (.inr "<") = some (.ref c1) := by rw [hkv]; rfl
    have w2 : valV kvs (.inr "<=") = some (.ref c3) := by rw [hkv]; rfl
    have w3 : valV kvs (.inr "=") = some (.ref c2) := by rw [hkv]; rfl
    have w4 : valV kvs (.inr ">") = some (.ref c5) := by rw [hkv]; rfl
    have w5 : valV kvs (.inr ">=") = some (.ref c6) := by rw [hkv]; rfl
    have w6 : valV kvs (.inr "<>") = Option.none := by rw [hkv]; rfl
    rw [← hkv]
    have up : ∀ {r ps}, SpAt K C H6 r ps → SpAt K C (upd H6 p (.dK kvs)) r ps := fun h => sp_updD hp6 h
    have sN : Same H (upd H6 p (.dK kvs)) := same_own (((sA.trans sB).trans s3).trans s37) (none_back (sA.trans sB) hp)
    refine ⟨_, rfl, p, rfl, .inl ⟨kvs, .inl upd_same⟩, _, rfl, _, rfl, c2, _, rfl, up (g2'.same s37), nf_same n, by omega, fun c7 H7 s8 g7 => ?_⟩
    have hp7 : H7 p = some (.dK kvs) := s8 _ _ upd_same
    refine ⟨_, DGet.k (k := .inr (signS sg)) hp7, ?_⟩
    have sF : Same H H7 := sN.trans s8
    cases sg with
    | lt => rw [show valV kvs (.inr (signS .lt)) = _ from w1]; exact q c1 H7 sF ((up (g1'.same s37)).same s8)
    | le => rw [show valV kvs (.inr (signS .le)) = _ from w2]; exact q c3 H7 sF ((up (g3.same ((s5.trans s6).trans s7))).same s8)
    | ne => rw [show valV kvs (.inr (signS .ne)) = _ from w6]; exact q c7 H7 sF g7
    | eq => rw [show valV kvs (.inr (signS .eq)) = _ from w3]; exact q c2 H7 sF ((up (g2'.same s37)).same s8)
    | gt => rw [show valV kvs (.inr (signS .gt)) = _ from w4]; exact q c5 H7 sF ((up (g5.same s7)).same s8)
    | ge => rw [show valV kvs (.inr (signS .ge)) = _ from w5]; exact q c6 H7 sF ((up g6).same s8)
end
end RA
end

section
set_option Elab.async false
set_option linter.all false
set_option autoImplicit false
set_option maxRecDepth 100000
set_option maxHeartbeats 4000000
set_option exponentiation.threshold 10000
namespace RA
open PySem PySem.Spec PyProof.Rows L2
section
variable {P : Program} {w : World} {K : PySem.W.Frag} {mg : Str → Option Value} {base : Heap} {C CE : Addr}
/-! ## is_so -/
def spIsSo : Sp := fun vs H Q _ => ∃ x s n, vs = [.int x, .str (signS s), .int n] ∧ ∀ H', Same H H' → Q (.bl (isSo x s n)) H'
abbrev sIsSo : Stmt := top 36
theorem scIsSo : FnScope ["number", "sign", "n"] ["number", "sign", "n"] (defScope sIsSo) := ⟨rfl, rfl, rfl, by decide +kernel, rfl, by decide +kernel, by decide +kernel⟩
theorem int_eq {x n : Int} : decide (V.int x = V.int n) = decide (x = n) := decide_eq_decide.mpr ⟨fun e => by injection e, fun e => by rw [e]⟩
theorem bl_eq {a b : Bool} : decide (V.bl a = V.bl b) = (a == b) := by cases a <;> cases b <;> rfl
theorem ok_isSo {f : Addr} {fd : FuncData} (F : Fun K "is_so" "is_so" sIsSo f fd) : FnOk P w K mg base CX0 1 f fd ["number", "sign", "n"] spIsSo := by
  refine F.ok scIsSo (fun vs H Q E h => ?_) (fun cdv A outer s H vs Q E hr h => ?_)
  · obtain ⟨x, sg, n, rfl, _⟩ := h
    rfl
  · obtain ⟨x, sg, n, rfl, q⟩ := h
    refine ⟨_, pss_cons (ps_if (pt_cmpR op_in_seq (pv 1) (pe_tup (pa_cons pe_str (pa_cons pe_str pa_nil))) (by rfl)) (pss_one (ps_ret (pe_cmpR op_eq (pe_cmpR op_eq (pv 0) (pv 2) (nomark _)) (pe_cmpR op_eq (pv 1) pe_str (nomark _)) (nomark _)))) pss_nil)
      (pss_cons (ps_if (pt_cmpR op_eq (pv 0) (pv 2) (nomark _)) (pss_one (ps_ret (pe_cmpR op_in_seq (pv 1) (pe_tup (pa_cons pe_str (pa_cons pe_str pa_nil))) (by rfl)))) pss_nil)
      (pss_one (ps_ret (pe_cmpR op_eq (pe_cmpR op_lt (pv 0) (pv 2) (nomark _)) (pe_cmpR op_in_seq (pv 1) (pe_tup (pa_cons pe_str (pa_cons pe_str pa_nil))) (by rfl)) (nomark _))))), ?_⟩
    refine ⟨_, rfl, two_sz, fun T hT => ⟨T, _, rfl, .inr (SqT.of upd_same), rfl, rfl, ?_⟩⟩
    have s1 : Same H (upd H T (.tup [.str "=", .str "<>"])) := same_upd hT
    have rest : ∀ (b1 b2 : Bool) (T2 : Addr) (H2 : Hp), True := fun _ _ _ _ => trivial
    cases sg with
    | eq =>
      refine ⟨true, rfl, iteT ⟨_, rfl, _, rfl, rfl, _, rfl, rfl, rfl, ?_⟩⟩
      rw [bl_eq, int_eq, show decide (V.str (signS .eq) = V.str "=") = true from rfl]
      have := q _ s1
      rw [show isSo x .eq n = (decide (x = n) == true) by simp [isSo]] at this
      exact this
    | ne =>
      refine ⟨true, rfl, iteT ⟨_, rfl, _, rfl, rfl, _, rfl, rfl, rfl, ?_⟩⟩
      rw [bl_eq, int_eq, show decide (V.str (signS .ne) = V.str "=") = false from str_ne (by decide)]
      have := q _ s1
      rw [show isSo x .ne n = (decide (x = n) == false) by simp [isSo]] at this
      exact this
    | lt =>
      refine ⟨false, rfl, iteF ⟨_, rfl, _, rfl, rfl, _, rfl, ?_⟩⟩
      rw [int_eq]
      by_cases hx : x = n
      · rw [decide_eq_true hx]
        refine iteT ⟨_, rfl, two_sz, fun T2 hT2 => ⟨T2, _, rfl, .inr (SqT.of upd_same), rfl, rfl, ?_⟩⟩
        have := q _ (s1.trans (same_upd (o := .tup [.str "<=", .str ">="]) hT2))
        rw [show isSo x .lt n = false by simp [isSo]; omega] at this
        exact this
      · rw [decide_eq_false hx]
        refine iteF ⟨_, rfl, _, rfl, _, _, rfl, rfl, _, rfl, two_sz, fun T2 hT2 => ⟨T2, _, rfl, .inr (SqT.of upd_same), rfl, rfl, rfl, ?_⟩⟩
        rw [bl_eq]
        have := q _ (s1.trans (same_upd (o := .tup [.str "<", .str "<="]) hT2))
        rw [show isSo x .lt n = (decide (x < n) == true) by simp [isSo]] at this
        exact this
    | le =>
      refine ⟨false, rfl, iteF ⟨_, rfl, _, rfl, rfl, _, rfl, ?_⟩⟩
      rw [int_eq]
      by_cases hx : x = n
      · rw [decide_eq_true hx]
        refine iteT ⟨_, rfl, two_sz, fun T2 hT2 => ⟨T2, _, rfl, .inr (SqT.of upd_same), rfl, rfl, ?_⟩⟩
        have := q _ (s1.trans (same_upd (o := .tup [.str "<=", .str ">="]) hT2))
        rw [show isSo x .le n = true by simp [isSo]; omega] at this
        exact this
      · rw [decide_eq_false hx]
        refine iteF ⟨_, rfl, _, rfl, _, _, rfl, rfl, _, rfl, two_sz, fun T2 hT2 => ⟨T2, _, rfl, .inr (SqT.of upd_same), rfl, rfl, rfl, ?_⟩⟩
        rw [bl_eq]
        have := q _ (s1.trans (same_upd (o := .tup [.str "<", .str "<="]) hT2))
        rw [show isSo x .le n = (decide (x < n) == true) by rw [Bool.eq_iff_iff]; simp [isSo]; omega] at this
        exact this
    | gt =>
      refine ⟨false, rfl, iteF ⟨_, rfl, _, rfl, rfl, _, rfl, ?_⟩⟩
      rw [int_eq]
      by_cases hx : x = n
      · rw [decide_eq_true hx]
        refine iteT ⟨_, rfl, two_sz, fun T2 hT2 => ⟨T2, _, rfl, .inr (SqT.of upd_same), rfl, rfl, ?_⟩⟩
        have := q _ (s1.trans (same_upd (o := .tup [.str "<=", .str ">="]) hT2))
        rw [show isSo x .gt n = false by simp [isSo]; omega] at this
        exact this
      · rw [decide_eq_false hx]
        refine iteF ⟨_, rfl, _, rfl, _, _, rfl, rfl, _, rfl, two_sz, fun T2 hT2 => ⟨T2, _, rfl, .inr (SqT.of upd_same), rfl, rfl, rfl, ?_⟩⟩
        rw [bl_eq]
        have := q _ (s1.trans (same_upd (o := .tup [.str "<", .str "<="]) hT2))
        rw [show isSo x .gt n = (decide (x < n) == false) by rw [Bool.eq_iff_iff]; simp [isSo]; omega] at this
        exact this
    | ge =>
      refine ⟨false, rfl, iteF ⟨_, rfl, _, rfl, rfl, _, rfl, ?_⟩⟩
      rw [int_eq]
      by_cases hx : x = n
      · rw [decide_eq_true hx]
        refine iteT ⟨_, rfl, two_sz, fun T2 hT2 => ⟨T2, _, rfl, .inr (SqT.of upd_same), rfl, rfl, ?_⟩⟩
        have := q _ (s1.trans (same_upd (o := .tup [.str "<=", .str ">="]) hT2))
        rw [show isSo x .ge n = true by simp [isSo]; omega] at this
        exact this
      · rw [decide_eq_false hx]
        refine iteF ⟨_, rfl, _, rfl, _, _, rfl, rfl, _, rfl, two_sz, fun T2 hT2 => ⟨T2, _, rfl, .inr (SqT.of upd_same), rfl, rfl, rfl, ?_⟩⟩
        rw [bl_eq]
        have := q _ (s1.trans (same_upd (o := .tup [.str "<", .str "<="]) hT2))
        rw [show isSo x .ge n = (decide (x < n) == false) by rw [Bool.eq_iff_iff]; simp [isSo]] at this
        exact this
/-! ## number_answer -/
theorem dp_t {H : Hp} {v : V} {t : Tst} (h : Dp K H v (encT t)) : ∃ a b xs, v = .ref a ∧ SqT K H a [.str "asks", .str "n", .ref b, .str (signS t.sign), .int t.n] ∧ SqT K H b xs ∧ DpAll K H xs (t.steps.map encS) := by
  obtain ⟨a, xs, rfl, ha, hx⟩ := dp_tup h
  obtain ⟨v1, r1, rfl, h1, hx⟩ := dps_cons hx
  obtain ⟨v2, r2, rfl, h2, hx⟩ := dps_cons hx
  obtain ⟨v3, r3, rfl, h3, hx⟩ := dps_cons hx
  obtain ⟨v4, r4, rfl, h4, hx⟩ := dps_cons hx
  obtain ⟨v5, r5, rfl, h5, hx⟩ := dps_cons hx
  cases dps_nil hx
  obtain ⟨b, ys, rfl, hb, hy⟩ := dp_tup h3
  rw [dp_str h1, dp_str h2, dp_str h4, dp_int h5] at ha
  exact ⟨a, b, ys, rfl, ha, hb, hy⟩
def spNumAns (K : PySem.W.Frag) : Sp := fun vs H Q _ => ∃ v t x, vs = [v, .int x] ∧ Dp K H v (encT t) ∧ okT t ∧ x.natAbs < 2 ^ 50 ∧ ∀ H', Same H H' → Q (.str (strA (ansAt t x))) H'
abbrev sNumAns : Stmt := top 37
abbrev nNumAns : List Str := ["test", "number", "word", "name", "steps", "sign", "n", "found"]
theorem scNumAns : FnScope nNumAns ["test", "number"] (defScope sNumAns) := ⟨rfl, rfl, rfl, by decide +kernel, rfl, by decide +kernel, by decide +kernel⟩
theorem ok_numAns {f : Addr} {fd : FuncData} (F : Fun K "number_answer" "number_answer" sNumAns f fd) (S : ErMk P w K mg base CE) (Fs : FdX P w K mg base "steps_on" 4 ["steps", "number"] (spStepsOn K CE)) (Fi : Fd P w K mg base "is_so" 1 ["number", "sign", "n"] spIsSo) : FnOk P w K mg base CX0 5 f fd ["test", "number"] (spNumAns K) := by
  refine F.ok scNumAns (fun vs H Q E h => ?_) (fun cdv A outer s H vs Q E hr h => ?_)
  · obtain ⟨v, t, x, rfl, _⟩ := h
    rfl
  · obtain ⟨v, t, x, rfl, hv, hok, hx, q⟩ := h
    obtain ⟨a, b, xs, rfl, ha, hb, hbs⟩ := dp_t hv
    obtain ⟨g, gd, hm, hk, hbn, hF⟩ := Fs
    have nd := scNumAns.nd
    have hr1 : Room 1 _ := hr.mono (j := 1) (by decide)
    refine ⟨_, pss_cons (ps_asg (pv 0) (pg_tup rfl (pgs_cons (pg_name (i := 2) nd rfl (Or.inl rfl)) (pgs_cons (pg_name (i := 3) nd rfl (Or.inl rfl)) (pgs_cons (pg_name (i := 4) nd rfl (Or.inl rfl)) (pgs_cons (pg_name (i := 5) nd rfl (Or.inl rfl)) (pgs_cons (pg_name (i := 6) nd rfl (Or.inl rfl)) pgs_nil)))))))
      (pss_cons (ps_try_only rfl rfl ⟨rfl, by decide, .inl S.1⟩ takes0 (fun W pn xe tk _ => pss_one (ps_set nd (i := 7) rfl (Or.inl rfl) (pe_callS hF hr (by rfl) hm hk hbn (fun σ => passAt tk σ) (pa_cons (pv 4) (pa_cons (pv 1) pa_nil))))) (fun a oe cls d pn _ _ => pss_one (ps_ret pe_str)))
      (pss_one (ps_ret (pe_ifExp (pt_val (pe_f Fi hr1 (pa_cons (pv 7) (pa_cons (pv 5) (pa_cons (pv 6) pa_nil))))) pe_str pe_str)))), ?_⟩
    refine ⟨_, rfl, a, _, rfl, ha, rfl, _, _, rfl, _, _, rfl, _, _, rfl, _, _, rfl, _, _, rfl, rfl, ?_⟩
    refine ⟨_, rfl, _, rfl, b, xs, t.steps, x, rfl, hb, hbs, hok.1, by have := hok.2.1; omega, hx, fun y hy => ?_, fun hy d H' s' => ?_⟩
    · refine ⟨_, rfl, _, rfl, _, rfl, y, t.sign, t.n, rfl, fun H' s' => ⟨_, rfl, ?_⟩⟩
      have := q H' s'
      have e : ansAt t x = if isSo y t.sign t.n = true then .yes else .no := by
        unfold ansAt
        rw [hy]
      rw [e] at this
      cases hso : isSo y t.sign t.n with
      | true => rw [hso] at this; exact iteT this
      | false => rw [hso] at this; exact iteF this
    · refine ⟨true, S.2.2.2.1, fun _ a0 _ => ?_, fun z => Bool.noConfusion z⟩
      have := q H' s'
      have e : ansAt t x = .error := by
        unfold ansAt
        rw [hy]
      rw [e] at this
      exact this
/-! ## test_answer -/
/-- what a test is asked about -/
inductive Val3 where
  | non | txt (s : Str) | num (x : Int)
def v3 : Val3 → V
  | .non => .non
  | .txt s => .str s
  | .num x => .int x
def ansOf (t : Tst) : Val3 → Ans
  | .non => .unknown
  | .txt _ => .error
  | .num x => ansAt t x
def bd3 : Val3 → Prop
  | .num x => x.natAbs < 2 ^ 50
  | _ => True
def spTestAns (K : PySem.W.Frag) : Sp := fun vs H Q _ => ∃ v t z, vs = [v, v3 z] ∧ Dp K H v (encT t) ∧ okT t ∧ bd3 z ∧ ∀ H', Same H H' → Q (.str (strA (ansOf t z))) H'
abbrev sTestAns : Stmt := top 38
theorem scTestAns : FnScope ["test", "value"] ["test", "value"] (defScope sTestAns) := ⟨rfl, rfl, rfl, by decide +kernel, rfl, by decide +kernel, by decide +kernel⟩
theorem ok_testAns {f : Addr} {fd : FuncData} (F : Fun K "test_answer" "test_answer" sTestAns f fd) (Fi : Fd P w K mg base "is_integer" 1 ["thing"] spIsInt) (Fn : Fd P w K mg base "number_answer" 5 ["test", "number"] (spNumAns K)) : FnOk P w K mg base CX0 6 f fd ["test", "value"] (spTestAns K) := by
  refine F.ok scTestAns (fun vs H Q E h => ?_) (fun cdv A outer s H vs Q E hr h => ?_)
  · obtain ⟨v, t, z, rfl, _⟩ := h
    rfl
  · obtain ⟨v, t, z, rfl, hv, hok, hz, q⟩ := h
    have hv0 := hv
    obtain ⟨a, b, xs, rfl, ha, hb, hbs⟩ := dp_t hv
    have hr1 : Room 1 _ := hr.mono (j := 1) (by decide)
    refine ⟨_, pss_cons (ps_if (pt_cmpR op_eq (pe_ix ix_tup (pv 0) pe_int (fun _ _ => rfl)) pe_str (nomark _)) pss_never pss_nil)
      (pss_cons (ps_if (pt_cmpR op_isN (pv 1) pe_non (nomark _)) (pss_one (ps_ret pe_str)) pss_nil)
      (pss_cons (ps_if (pt_cmpR op_eq (pe_ix ix_tup (pv 0) pe_int (fun _ _ => rfl)) pe_str (nomark _)) pss_never pss_nil)
      (pss_one (ps_ret (pe_ifExp (pt_val (pe_f Fi hr1 (pa_cons (pv 1) pa_nil))) (pe_f Fn hr (pa_cons (pv 0) (pa_cons (pv 1) pa_nil))) pe_str))))), ?_⟩
    refine ⟨_, rfl, a, _, 0, _, rfl, rfl, ha, at0, rfl, _, rfl, iteF ⟨_, rfl, rfl, _, rfl, ?_⟩⟩
    cases z with
    | non => exact iteT (q _ (Same.refl _))
    | txt s => exact iteF ⟨_, rfl, a, _, 0, _, rfl, rfl, ha, at0, rfl, _, rfl, iteF ⟨_, rfl, _, rfl, True.intro, false, rfl, iteF (q _ (Same.refl _))⟩⟩
    | num x => exact iteF ⟨_, rfl, a, _, 0, _, rfl, rfl, ha, at0, rfl, _, rfl, iteF ⟨_, rfl, _, rfl, True.intro, true, rfl, iteT ⟨_, rfl, _, rfl, _, t, x, rfl, hv0, hok, hz, q⟩⟩⟩
/-! ## answers_at -/
def ansL (ts : List Tst) (z : Val3) : List Ans := ts.map fun t => ansOf t z
/-- the answers as a tracked tuple -/
def keyA (as : List Ans) : List Key := as.map fun a => .inr (strA a)
theorem keyA_v (as : List Ans) : (keyA as).map kV = as.map fun a => V.str (strA a) := by simp [keyA, kV]
theorem dps_as {H : Hp} : ∀ {as : List Ans} {vs : List V}, DpAll K H vs (as.map encA) → vs = as.map fun a => V.str (strA a)
  | [], vs, h => dps_nil h
  | n :: ns, vs, h => by
    obtain ⟨v, r, rfl, h1, h2⟩ := dps_cons h
    rw [dp_str h1, dps_as h2]
    rfl
theorem tupD_a (a : Ans) : tupD (encA a) = true := by simp [encA, tupD]
def spAnsAt (K : PySem.W.Frag) : Sp := fun vs H Q _ => ∃ a xs ts z, vs = [.ref a, v3 z] ∧ SqL K H a xs ∧ DpAll K H xs (ts.map encT) ∧ (∀ t ∈ ts, okT t) ∧ ts.length ≤ 1000000 ∧ bd3 z ∧ ∀ p H', Same H H' → H p = Option.none → H' p = some (.tup ((keyA (ansL ts z)).map kV)) → Q (.ref p) H'
abbrev sAnsAt : Stmt := top 44
abbrev nAnsAt : List Str := ["tests", "value", "test"]
theorem scAnsAt : FnScope nAnsAt ["tests", "value"] (defScope sAnsAt) := ⟨rfl, rfl, rfl, by decide +kernel, rfl, by decide +kernel, by decide +kernel⟩
theorem ok_ansAt {f : Addr} {fd : FuncData} (F : Fun K "answers_at" "answers_at" sAnsAt f fd) (B : Bi mg) (Ft : Fd P w K mg base "test_answer" 6 ["test", "value"] (spTestAns K)) : FnOk P w K mg base CX0 7 f fd ["tests", "value"] (spAnsAt K) := by
  refine F.ok scAnsAt (fun vs H Q E h => ?_) (fun cdv A outer s H vs Q E hr h => ?_)
  · obtain ⟨a, xs, ts, z, rfl, _⟩ := h
    rfl
  · obtain ⟨a, xs, ts, z, rfl, ha, hx, hok, hlen, hz, q⟩ := h
    have nd := scAnsAt.nd
    refine ⟨_, pss_one (ps_ret (pe_callTy call_tuple_of (by rfl) B.tup_ bt_tup (pa_cons (pe_lc (own := [("test", 2)]) (g := gName 2) (tt := tYes) (te := tCall (spTestAns K) [] E0 (tCons (tVar 2) (tCons (tVar 1) tNil))) rfl nd (pi_list (pv 0)) (blkOk_by (N := nAnsAt) (sc := defScope sAnsAt) (by decide +kernel))
      (fun _ _ _ _ _ => pg_name (i := 2) nd rfl (Or.inl rfl)) (fun _ _ _ _ _ => pts_nil) (fun _ _ _ _ _ => pe_f Ft hr (pa_cons (pv 2) (pa_cons (pv 1) pa_nil)))) pa_nil))), ?_⟩
    refine ⟨_, rfl, a, rfl, ⟨_, ha⟩, fun D hD => lcD_list (fun t : Tst => some (ansOf t z)) encT encA ts tupD_t tupD_a hD ha hx hlen ?_ ?_⟩
    · intro x t H1 Y N hp hS hx hY hN
      refine ⟨rfl, ?_⟩
      show if true = true then _ else N H1
      exact iteT ⟨_, rfl, _, rfl, _, t, z, rfl, hx, hok t hp, hz, fun H' s' => hY _ _ _ rfl s' (.str _)⟩
    · intro H2 acc s2 hD2 hd2
      refine ⟨D, acc, rfl, .inl ⟨SqL.of hD2, fun l hl => q l _ (s2.trans (same_upd hl)) (none_back s2 hl) ?_⟩⟩
      rw [show (ts.filterMap fun t : Tst => some (ansOf t z)) = ansL ts z by simp [ansL]] at hd2
      rw [upd_same, keyA_v, dps_as hd2]
end
end RA
end

section
set_option Elab.async false
set_option linter.all false
set_option maxRecDepth 100000
set_option maxHeartbeats 4000000
namespace RA
open PySem PySem.Spec PyProof.Rows L2
section
variable {X : Cx}
/-! ## name = {k: v for ..} on one line, the name a local -/
theorem sw_trueD {kx vx : Expr} {gs : List Comprehension} {scope : Scope} {pos py : Pos} {y : Str} {l : Nat} {env : Env} (hk : env.scope.kind = .function) (hy : env.scope.names.lookup y = some .local) (hl : (py.line == pos.line) = true)
    (ha : (scope.names.any fun (n, k) => n == y && (k == .local || k == .cell)) = false) : swapsWith (.DictComp kx vx gs scope pos) (some (.Name y py)) l env = pure true := by
  have ky : env.kindOf y = some .local := hy
  have hb : env.blockKind = .function := by unfold Env.blockKind; rw [hk]; rfl
  unfold swapsWith
  simp only [hb, ky, ha, Expr.pos, hl]
  rfl
theorem dcT_core {pins : List (Addr × Obj)} {s : Shared} {st : L2.St} {H : Hp} {Q : VK} {pos' : Pos} {use : Option (Value → Sem Unit)} {Qf : Value → Shared → Prop} {kx vx tg iter : Expr} {ifs : List Expr} {scope : Scope} {own : List (Str × Nat)} {pos : Pos} {wi : TI} {g : TG} {tt : TT} {tk tv : TE} (hu : X.A.units < cLine) (hc : X.calm = true) (hN : X.N.Nodup) (I : Inv X pins st H s) (hi : PI X tg iter wi) (ok : BlkOk X.N X.env.scope scope own)
    (hg : ∀ (s : Shared) (H : Hp) (C : Addr) (cl : List (Str × Addr)) (fp : List Addr), PG (X.blk s H scope (compEnvC scope cl C X.env) fp) tg g) (ht : ∀ (s : Shared) (H : Hp) (C : Addr) (cl : List (Str × Addr)) (fp : List Addr), PTs (X.blk s H scope (compEnvC scope cl C X.env) fp) ifs tt)
    (hk : ∀ (s : Shared) (H : Hp) (C : Addr) (cl : List (Str × Addr)) (fp : List Addr), PE (X.blk s H scope (compEnvC scope cl C X.env) fp) kx tk)
    (he : ∀ (s : Shared) (H : Hp) (C : Addr) (cl : List (Str × Addr)) (fp : List Addr), PE (X.blk s H scope (compEnvC scope cl C X.env) fp) vx tv) (hs : ∀ x, foldedSetIterable iter X.env x = pure x)
    (h : tDcT wi g tt tk tv (own.map (·.2)) st H Q)
    (hRR : ∀ D C s' m H', Inv X pins st H' s' → Q (.ref D) H' → s'.heap.Ns C m → FpOk X pins H' C → compPost (model X.prog X.w) X.A X.xe use Qf (.ref D) C (.ok .next) s') :
    wpAny (model X.prog X.w) X.A (comprehension (.DictComp kx vx [⟨tg, iter, ifs, 0⟩] scope pos) scope X.env pos' newDict false (eval iter X.env) use) Qf X.xe s := by
  -- the closure, the walked thing
  have freeCells : ∀ y ∈ scope.names, y.2 = .free → ∃ c, X.env.cells.lookup y.1 = some c := fun y hy e => (ok.free y hy e).elim (fun k => I.ok.has _ (Or.inl k)) (fun k => I.ok.has _ (Or.inr k))
  refine wpAny_comprehension_free (use := use) rfl hs (closure_ok freeCells) ok.kind (fun y hy e => by rw [ok.uniq y hy, e]) (thn (hi.run pins s st H _ I h) fun xv s1 hx => thn hx fun itv s2 h2 => ?_)
  obtain ⟨it, fp, tn, J, H2, rfl, I2, T, st2, f2, q⟩ := h2
  -- the new dict, the block's frame
  refine wpAny_newObj_type (newEnv_comp ?_)
  have hDn : H2 s2.heap.objs.size = Option.none := I2.hok.fresh (Nat.le_refl _)
  obtain ⟨W, ⟨m0, w0⟩, turn⟩ := q s2.heap.objs.size hDn
  have young : ∀ b ∈ fp, b < s2.heap.objs.size := fun b hb => (T.obj _ _ st2 b hb).elim fun o e => Heap.lt_size e.1
  have I3 : Inv X pins st (upd H2 s2.heap.objs.size (.dT [])) { s2 with heap := s2.heap.push { cls := .type "dict", data := .dict #[] } } :=
    I2.laid (t' := s2.toks) (fun b o e => Heap.get?_push_of_some _ e) (Nat.le_refl _) (dt_empty s2.heap I2.big)
  have f3 : ∀ b ∈ fp, FpOk X pins (upd H2 s2.heap.objs.size (.dT [])) b ∧ b < (s2.heap.push { cls := .type "dict", data := .dict #[] }).objs.size := fun b hb =>
    ⟨⟨by rw [upd_ne (Nat.ne_of_lt (young b hb))]; exact (f2 b hb).1, (f2 b hb).2⟩, by rw [Heap.size_push]; exact Nat.lt_succ_of_lt (young b hb)⟩
  refine codeAny_mono (R := compPost (model X.prog X.w) X.A X.xe use Qf (.ref s2.heap.objs.size) (s2.heap.push { cls := .type "dict", data := .dict #[] }).objs.size) ?_ fun _ _ z => z
  have I4 := block_start I3 ok hN f3
  have st4 : tn 0 (pushCells ((s2.heap.push { cls := .type "dict", data := .dict #[] }).push { cls := .type "dict", data := .dict #[] }) scope.names) := T.keep _ _ _ st2 fun b _ o e => pushCells_keeps _ _ _ _ (Heap.get?_push_of_some _ (Heap.get?_push_of_some _ e))
  have loop := dcT_loop (kx := kx) (vx := vx) (iter := iter) (ifs := ifs) (pos := pos) (Q := Q) (m0 := m0) (R := compPost (model X.prog X.w) X.A X.xe use Qf (.ref s2.heap.objs.size) (s2.heap.push { cls := .type "dict", data := .dict #[] }).objs.size) hu hc I3 I4 (fun b hb => (f3 b hb).1) T st4 rfl
    (hg _ _ _ _ _) (ht _ _ _ _ _) (hk _ _ _ _ _) (he _ _ _ _ _) w0 turn fun s' m H' I' q hn f => hRR _ _ s' m H' I' q hn f
  exact codeAny_compStart_dict loop (T.self X.A 0 _ _ _ st4 loop)
/-- the store behind a comprehension that is used -/
theorem used_store {pins : List (Addr × Obj)} {st : L2.St} {i : Nat} {y : Str} {py : Pos} {D : Ends} {H' : Hp} {L C : Addr} {s' : Shared} {m : Str → Option Value} (hN : X.N.Nodup) (hy : X.N[i]? = some y) (hyl : X.env.scope.names.lookup y = some .local)
    (I' : Inv X pins st H' s') (q : gName i (.ref L) st H' D.nx) (hn : s'.heap.Ns C m) (f : FpOk X pins H' C) : compPost (model X.prog X.w) X.A X.xe (some (assign (.Name y py) X.env)) (fun _ s' => SP X pins D .next s') (.ref L) C (.ok .next) s' := by
  show wpAny _ _ (assign (.Name y py) X.env (.ref L)) _ _ _
  refine wpAny_assign_Name (store_ok2 (v := V.ref L) I' hN hy (.inl hyl) rfl (fun s2 I2 ⟨a, sb, ha⟩ => ?_) (.inr hyl))
  obtain ⟨f0, f1, f2, f3, f4, f5⟩ := f
  have haC : C ≠ a := by
    rcases ha with z | z
    · rw [z]; exact f1
    · exact fun e => f4 y a z e.symm
  refine ⟨m, hn.sameBut sb haC, fun h3 sb3 => ?_⟩
  exact ⟨_, H', I2.turned (t' := s2.toks) (fun b o hb e => (sb3.2 b hb).trans e) f0 f1 f3 f4 f5, q⟩
theorem ps_setDc {i : Nat} {y : Str} {py : Pos} {kx vx tg iter : Expr} {ifs : List Expr} {scope : Scope} {own : List (Str × Nat)} {pos spos : Pos} {wi : TI} {g : TG} {tt : TT} {tk tv : TE} (hc : X.calm = true) (hN : X.N.Nodup) (hy : X.N[i]? = some y) (hyl : X.env.scope.names.lookup y = some .local)
    (hsw : swapsWith (.DictComp kx vx [⟨tg, iter, ifs, 0⟩] scope pos) (some (.Name y py)) spos.line X.env = pure true) (hi : PI X tg iter wi) (ok : BlkOk X.N X.env.scope scope own)
    (hg : ∀ (s : Shared) (H : Hp) (C : Addr) (cl : List (Str × Addr)) (fp : List Addr), PG (X.blk s H scope (compEnvC scope cl C X.env) fp) tg g) (ht : ∀ (s : Shared) (H : Hp) (C : Addr) (cl : List (Str × Addr)) (fp : List Addr), PTs (X.blk s H scope (compEnvC scope cl C X.env) fp) ifs tt)
    (hk : ∀ (s : Shared) (H : Hp) (C : Addr) (cl : List (Str × Addr)) (fp : List Addr), PE (X.blk s H scope (compEnvC scope cl C X.env) fp) kx tk)
    (he : ∀ (s : Shared) (H : Hp) (C : Addr) (cl : List (Str × Addr)) (fp : List Addr), PE (X.blk s H scope (compEnvC scope cl C X.env) fp) vx tv) (hs : ∀ x, foldedSetIterable iter X.env x = pure x := by intro _; rfl) :
    PS X (.Assign [.Name y py] (.DictComp kx vx [⟨tg, iter, ifs, 0⟩] scope pos) spos) (tAsg (tDc wi g tt tk tv (own.map (·.2))) (gName i)) := by
  refine ⟨fun pins s st H D I h => ?_⟩
  rw [exec_Assign_Name_used _ _ _ _ hsw]
  refine wpAny_bind (wpAny_standAt (wpAny_bind ?_))
  show wpAny _ X.A (do let _ ← comprehension (.DictComp kx vx [⟨tg, iter, ifs, 0⟩] scope pos) scope X.env (firstIterPos [⟨tg, iter, ifs, 0⟩] pos) newDict false (eval iter X.env) (some (assign (.Name y py) X.env))) _ _ s
  have h : tDc wi g tt tk tv (own.map (·.2)) st H (fun x H1 => gName i x st H1 D.nx) := h
  refine wpAny_bind (thn (dc_core (Qf := fun _ s' => SP X pins D .next s') hc hN I hi ok hg ht hk he hs h fun L C s' m H' I' q hn f => used_store hN hy hyl I' q hn f) fun _ s' hq => wpAny_pure (wpAny_pure hq))
theorem ps_setDcT {i : Nat} {y : Str} {py : Pos} {kx vx tg iter : Expr} {ifs : List Expr} {scope : Scope} {own : List (Str × Nat)} {pos spos : Pos} {wi : TI} {g : TG} {tt : TT} {tk tv : TE} (hu : X.A.units < cLine) (hc : X.calm = true) (hN : X.N.Nodup) (hy : X.N[i]? = some y) (hyl : X.env.scope.names.lookup y = some .local)
    (hsw : swapsWith (.DictComp kx vx [⟨tg, iter, ifs, 0⟩] scope pos) (some (.Name y py)) spos.line X.env = pure true) (hi : PI X tg iter wi) (ok : BlkOk X.N X.env.scope scope own)
    (hg : ∀ (s : Shared) (H : Hp) (C : Addr) (cl : List (Str × Addr)) (fp : List Addr), PG (X.blk s H scope (compEnvC scope cl C X.env) fp) tg g) (ht : ∀ (s : Shared) (H : Hp) (C : Addr) (cl : List (Str × Addr)) (fp : List Addr), PTs (X.blk s H scope (compEnvC scope cl C X.env) fp) ifs tt)
    (hk : ∀ (s : Shared) (H : Hp) (C : Addr) (cl : List (Str × Addr)) (fp : List Addr), PE (X.blk s H scope (compEnvC scope cl C X.env) fp) kx tk)
    (he : ∀ (s : Shared) (H : Hp) (C : Addr) (cl : List (Str × Addr)) (fp : List Addr), PE (X.blk s H scope (compEnvC scope cl C X.env) fp) vx tv) (hs : ∀ x, foldedSetIterable iter X.env x = pure x := by intro _; rfl) :
    PS X (.Assign [.Name y py] (.DictComp kx vx [⟨tg, iter, ifs, 0⟩] scope pos) spos) (tAsg (tDcT wi g tt tk tv (own.map (·.2))) (gName i)) := by
  refine ⟨fun pins s st H D I h => ?_⟩
  rw [exec_Assign_Name_used _ _ _ _ hsw]
  refine wpAny_bind (wpAny_standAt (wpAny_bind ?_))
  show wpAny _ X.A (do let _ ← comprehension (.DictComp kx vx [⟨tg, iter, ifs, 0⟩] scope pos) scope X.env (firstIterPos [⟨tg, iter, ifs, 0⟩] pos) newDict false (eval iter X.env) (some (assign (.Name y py) X.env))) _ _ s
  have h : tDcT wi g tt tk tv (own.map (·.2)) st H (fun x H1 => gName i x st H1 D.nx) := h
  refine wpAny_bind (thn (dcT_core (Qf := fun _ s' => SP X pins D .next s') hu hc hN I hi ok hg ht hk he hs h fun L C s' m H' I' q hn f => used_store hN hy hyl I' q hn f) fun _ s' hq => wpAny_pure (wpAny_pure hq))
end
end RA
end

section
set_option Elab.async false
set_option linter.all false
set_option autoImplicit false
set_option maxRecDepth 100000
set_option maxHeartbeats 4000000
set_option exponentiation.threshold 10000
namespace RA
open PySem PySem.Spec PyProof.Rows L2
section
variable {P : Program} {w : World} {K : PySem.W.Frag} {mg : Str → Option Value} {base : Heap} {C CE : Addr}
/-! ## told -/
/-- a dict that has stretches for each answer -/
def TdF (K : PySem.W.Frag) (C : Addr) (H : Hp) (d : Addr) (n : Nat) (f : Ans → List Pr) : Prop := ∃ kvs, H d = some (.dK kvs) ∧ kvs.length ≤ n ∧ ∀ a, ∃ r, valV kvs (.inr (strA a)) = some (.ref r) ∧ SpAt K C H r (f a)
theorem TdF.same {H H' : Hp} {d : Addr} {n : Nat} {f : Ans → List Pr} (s : Same H H') (h : TdF K C H d n f) : TdF K C H' d n f := by
  obtain ⟨kvs, h1, h2, h3⟩ := h
  exact ⟨kvs, s _ _ h1, h2, fun a => by obtain ⟨r, e1, e2⟩ := h3 a; exact ⟨r, e1, e2.same s⟩⟩
theorem key_ne {a b : Ans} (h : b ≠ a) : (.inr (strA b) : Key) ≠ .inr (strA a) := fun e => h (strA_inj (Sum.inr.inj e))
theorem td_put {H : Hp} {d c : Addr} {n : Nat} {f : Ans → List Pr} {ps : List Pr} (a : Ans) (h : TdF K C H d n f) (hn : n ≤ 1000) (hc : SpAt K C H c ps) :
    ∃ H', DPut H d (.str (strA a)) (.ref c) H' ∧ TdF K C H' d (n + 1) (fun b => if b = a then ps else f b) ∧ ∀ b o, b ≠ d → H b = some o → H' b = some o := by
  obtain ⟨kvs, h1, h2, h3⟩ := h
  refine ⟨_, DPut.k (k := .inr (strA a)) h1 (szl (by omega)), ⟨_, upd_same, Nat.le_trans (length_putK _ _ _) (by omega), fun b => ?_⟩, fun b o hb e => by rw [upd_ne hb]; exact e⟩
  show ∃ r, valV (putK kvs (.inr (strA a)) (.ref c)) (.inr (strA b)) = some (.ref r) ∧ SpAt K C (upd H d (.dK (putK kvs (.inr (strA a)) (.ref c)))) r (if b = a then ps else f b)
  rw [valV_put]
  by_cases hb : b = a
  · subst hb
    rw [if_pos rfl, if_pos rfl]
    exact ⟨c, rfl, sp_updD h1 hc⟩
  · rw [if_neg (key_ne hb), if_neg hb]
    obtain ⟨r, e1, e2⟩ := h3 b
    exact ⟨r, e1, sp_updD h1 e2⟩
def spTold (K : PySem.W.Frag) (C : Addr) : Sp := fun vs H Q _ => ∃ v t, vs = [v] ∧ Dp K H v (encT t) ∧ okT t ∧ ∀ d H', Same H H' → H d = Option.none → TdF K C H' d 100 (toldA t) → Q (.ref d) H'
abbrev sTold : Stmt := top 39
abbrev nTold : List Str := ["test", "found", "word"]
theorem scTold : FnScope nTold ["test"] (defScope sTold) := ⟨rfl, rfl, rfl, by decide +kernel, rfl, by decide +kernel, by decide +kernel⟩
theorem good_hold (s : Sgn) (n : Int) (hn : n.natAbs ≤ 2 ^ 44) : Good 3 50 (holding s n) := by
  have q1 := p44
  have q2 := p45
  have gl : Good 1 45 (merged [((none, some (n - 1)) : Pr)]) := good_single rfl ⟨bdE_none _, bdE_some (by omega)⟩
  have gs : Good 1 45 (merged [dot n]) := good_single (vld_dot n) ⟨bdE_some (by omega), bdE_some (by omega)⟩
  cases s with
  | lt => exact gl.up (by decide) (by decide)
  | le => exact (good_U gl gs).up (by decide) (by decide)
  | ne => exact (good_N gs).up (by decide) (by decide)
  | eq => exact gs.up (by decide) (by decide)
  | gt => exact (good_N (good_U gl gs)).up (by decide) (by decide)
  | ge => exact (good_N gl).up (by decide) (by decide)
theorem good_b {t : Tst} (h : okT t) : Good 48 250 (before t.steps (holding t.sign t.n)) := by
  have g := good_before h.1 (good_hold t.sign t.n h.2.2)
  have h1 : 2 ^ t.steps.length ≤ 2 ^ 4 := Nat.pow_le_pow_right (by decide) h.2.1
  exact g.up (by omega) (by have := h.2.1; omega)
theorem good_e {t : Tst} (h : okT t) : Good 111 250 (erring t.steps) := by
  have g := good_erring h.1
  have h1 : 2 ^ t.steps.length ≤ 2 ^ 4 := Nat.pow_le_pow_right (by decide) h.2.1
  exact g.up (by omega) (by have := h.2.1; omega)
theorem good_told {t : Tst} (h : okT t) (a : Ans) : Good 160 251 (toldA t a) := by
  cases a with
  | error => exact (good_e h).up (by decide) (by decide)
  | yes => exact (good_b h).up (by decide) (by decide)
  | no => exact good_N (good_U (good_e h) (good_b h))
  | unknown => exact good_nil
abbrev words4 : List V := [.str "error", .str "no", .str "unknown", .str "yes"]
theorem four_sz : 4 ≤ sizeLine := by decide
theorem ok_told {f : Addr} {fd : FuncData} (F : Fun K "told" "told" sTold f fd) (S : SpMs P w K mg base C) (Fe : Fd P w K mg base "erring" 10 ["steps"] (spErring K C)) (Fb : Fd P w K mg base "before" 9 ["steps", "spans"] (spBefore K C)) (Fh : Fd P w K mg base "holding" 8 ["sign", "n"] (spHold K C)) :
    FnOk P w K mg base CX0 11 f fd ["test"] (spTold K C) := by
  refine F.ok scTold (fun vs H Q E h => ?_) (fun cdv A outer s H vs Q E hr h => ?_)
  · obtain ⟨v, t, rfl, _⟩ := h
    rfl
  · obtain ⟨v, t, rfl, hv, hok, q⟩ := h
    obtain ⟨a, b, xs, rfl, ha, hb, hbs⟩ := dp_t hv
    have nd := scTold.nd
    have hr6 : Room 6 _ := hr.mono (j := 6) (by decide)
    have hr7 : Room 7 _ := hr.mono (j := 7) (by decide)
    have hr8 : Room 8 _ := hr.mono (j := 8) (by decide)
    have hr9 : Room 9 _ := hr.mono (j := 9) (by decide)
    have hu : (A.deeper (envOfC "told" (defScope sTold) s.heap.objs.size f cdv)).units + 1 < cLine := by have := hu1 hr; omega
    refine ⟨_, pss_cons (ps_setDc (i := 1) (own := [("word", 2)]) (g := gName 2) (tt := tYes) (tk := tVar 2) (tv := tSpans K C (tLst tNil)) rfl nd rfl rfl (sw_trueD rfl rfl rfl (by decide +kernel)) (pi_tup (pe_tup (pa_cons pe_str (pa_cons pe_str (pa_cons pe_str (pa_cons pe_str pa_nil)))))) (blkOk_by (N := nTold) (sc := defScope sTold) (by decide +kernel))
        (fun _ _ _ _ _ => pg_name (i := 2) nd rfl (Or.inl rfl)) (fun _ _ _ _ _ => pts_nil) (fun _ _ _ _ _ => pv 2) (fun _ _ _ _ _ => pe_spans S.mkc hr6 (pe_lst pa_nil)))
      (pss_cons (ps_if (pt_cmpR op_eq (pe_ix ix_tup (pv 0) pe_int (fun _ _ => rfl)) pe_str (nomark _))
        (pss_cons (ps_dput hu (pv 1) pe_str (pe_f Fe hr (pa_cons (pe_ix ix_tup (pv 0) pe_int (fun _ _ => rfl)) pa_nil)) rfl)
        (pss_cons (ps_dput hu (pv 1) pe_str (pe_f Fb hr9 (pa_cons (pe_ix ix_tup (pv 0) pe_int (fun _ _ => rfl)) (pa_cons (pe_f Fh hr8 (pa_cons (pe_ix ix_tup (pv 0) pe_int (fun _ _ => rfl)) (pa_cons (pe_ix ix_tup (pv 0) pe_int (fun _ _ => rfl)) pa_nil))) pa_nil))) rfl)
        (pss_one (ps_dput hu (pv 1) pe_str (pe_un (un_spInv S hr7) (pe_op (op_spOr S hr7) (pe_dget hu (pv 1) pe_str (fun _ _ => rfl)) (pe_dget hu (pv 1) pe_str (fun _ _ => rfl)))) rfl)))) pss_never)
      (pss_one (ps_ret (pv 1)))), ?_⟩
    have gb := good_b hok
    have ge := good_e hok
    refine ⟨four_sz, fun T hT => ⟨T, rfl, ⟨_, SqT.of upd_same⟩, fun D hD => ?_⟩⟩
    have hD0 : H D = Option.none := none_back (same_upd hT) hD
    refine dc_tup (xs := words4) (fun i H' => Same (upd H T (.tup words4)) H' ∧ ∃ kvs, H' D = some (.dK kvs) ∧ kvs.length ≤ i ∧ ∀ a ∈ answers4.take i, ∃ r, valV kvs (.inr (strA a)) = some (.ref r) ∧ SpAt K C H' r (merged [])) ?_ ?_ ?_ ?_
    · exact ⟨same_upd hD, [], upd_same, Nat.le_refl _, by simp⟩
    · rintro i H' _ ⟨s1, _⟩
      exact (SqT.of upd_same).ext s1
    · rintro i x H' hxi ⟨s1, kvs, h1, h2, h3⟩
      have hw : ∃ c : Ans, answers4[i]? = some c ∧ x = .str (strA c) := by
        rcases i with _ | _ | _ | _ | i
        · exact ⟨.error, rfl, by injection hxi with e; exact e.symm⟩
        · exact ⟨.no, rfl, by injection hxi with e; exact e.symm⟩
        · exact ⟨.unknown, rfl, by injection hxi with e; exact e.symm⟩
        · exact ⟨.yes, rfl, by injection hxi with e; exact e.symm⟩
        · simp at hxi
      obtain ⟨c, hc, rfl⟩ := hw
      have hi4 : i < 4 := (List.getElem?_eq_some_iff.mp hxi).1
      refine ⟨rfl, ?_⟩
      refine ⟨_, rfl, rd_empty (te := tC .non) (σ := []) fun r H2 s2 hr2 => ?_⟩
      have hD2 := s2 _ _ h1
      refine ⟨kvs, .inr (strA c), rfl, hD2, szl (by omega), same_own (s1.trans s2) hD, _, upd_same, Nat.le_trans (length_putK _ _ _) (by omega), fun a ha => ?_⟩
      rw [valV_put]
      by_cases hac : a = c
      · subst hac
        rw [if_pos rfl]
        exact ⟨r, rfl, sp_updD hD2 hr2⟩
      · rw [if_neg (key_ne hac)]
        rw [List.take_add_one, hc] at ha
        have ha' : a ∈ answers4.take i := by
          rcases List.mem_append.mp ha with h | h
          · exact h
          · exact absurd (by simpa using h) hac
        obtain ⟨r', e1, e2⟩ := h3 a ha'
        exact ⟨r', e1, sp_updD hD2 (e2.same s2)⟩
    · rintro H' ⟨s1, kvs, h1, h2, h3⟩
      have sH : Same H H' := (same_upd hT).trans s1
      have t0 : TdF K C H' D 4 (fun _ => merged []) := ⟨kvs, h1, h2, fun a => h3 a (by cases a <;> decide)⟩
      have ha' := ha.ext sH
      refine ⟨_, rfl, a, _, 0, _, rfl, rfl, ha', at0, rfl, _, rfl, iteT ⟨_, rfl, a, _, 2, _, rfl, rfl, ha', at2, b, xs, t.steps, rfl, hb.ext sH, DpAll.same sH hbs, hok.1, hok.2.1, fun c1 H1 s2 g1 => ?_⟩⟩
      obtain ⟨H2, hp1, t1, k1⟩ := td_put .error (t0.same s2) (by decide) g1
      have s12 : Same H H2 := fun b o e => k1 b o (ne_of_none e hD0) ((sH.trans s2) b o e)
      refine ⟨_, rfl, D, H2, rfl, hp1, ?_⟩
      have hb2 := hb.ext s12
      have ha2 := ha.ext s12
      refine ⟨_, rfl, a, _, 2, _, rfl, rfl, ha2, at2, _, rfl, a, _, 3, _, rfl, rfl, ha2, at3, _, rfl, a, _, 4, _, rfl, rfl, ha2, at4, t.sign, t.n, rfl, fun c2 H3 s3 g2 => ?_⟩
      refine ⟨b, xs, c2, t.steps, _, rfl, hb2.ext s3, DpAll.same (s12.trans s3) hbs, g2, hok.1, hok.2.1, fun i hi => ?_, fun c3 H4 s4 g3 => ?_⟩
      · have := good_before (ss := t.steps.drop i) (fun s hs => hok.1 s (List.mem_of_mem_drop hs)) (good_hold t.sign t.n hok.2.2)
        have hl : (t.steps.drop i).length ≤ 4 := by rw [List.length_drop]; have := hok.2.1; omega
        have h1 : 2 ^ (t.steps.drop i).length ≤ 2 ^ 4 := Nat.pow_le_pow_right (by decide) hl
        exact this.up (by omega) (by omega)
      · obtain ⟨H5, hp2, t2, k2⟩ := td_put .yes ((t1.same s3).same s4) (by decide) g3
        have s15 : Same H H5 := fun b o e => k2 b o (ne_of_none e hD0) (((s12.trans s3).trans s4) b o e)
        refine ⟨_, rfl, D, H5, rfl, hp2, ?_⟩
        obtain ⟨kv2, u1, u2, u3⟩ := t2
        obtain ⟨r1, e1, f1⟩ := u3 .error
        obtain ⟨r2, e2, f2⟩ := u3 .yes
        refine ⟨_, rfl, D, _, rfl, by have := DGet.k (k := .inr (strA .error)) u1; rw [e1] at this; exact this, ?_⟩
        refine ⟨_, rfl, D, _, rfl, by have := DGet.k (k := .inr (strA .yes)) u1; rw [e2] at this; exact this, ?_⟩
        refine ⟨r1, r2, erring t.steps, before t.steps (holding t.sign t.n), rfl, rfl, f1, f2, ge.nf.1, gb.nf.1, Nat.le_trans ge.len (by decide), Nat.le_trans gb.len (by decide), fun c4 H6 s6 g4 => ?_⟩
        have gu := good_U ge gb
        refine ⟨c4, _, rfl, g4, gu.nf, Nat.le_trans gu.len (by decide), fun c5 H7 s7 g5 => ?_⟩
        have t2' : TdF K C H7 D 6 _ := TdF.same (s6.trans s7) ⟨kv2, u1, u2, u3⟩
        obtain ⟨H8, hp3, t3, k3⟩ := td_put .no t2' (by decide) g5
        have s18 : Same H H8 := fun b o e => k3 b o (ne_of_none e hD0) ((s15.trans (s6.trans s7)) b o e)
        refine ⟨_, rfl, D, H8, rfl, hp3, _, rfl, q D H8 s18 hD0 ?_⟩
        obtain ⟨kv3, w1, w2, w3⟩ := t3
        refine ⟨kv3, w1, by omega, fun a => ?_⟩
        have := w3 a
        cases a <;> exact this
end
end RA
end

section
set_option linter.all false
set_option autoImplicit false
namespace RA
theorem nodup_len {α : Type} [DecidableEq α] : ∀ (l m : List α), l.Nodup → (∀ x ∈ l, x ∈ m) → l.length ≤ m.length
  | [], _, _, _ => Nat.zero_le _
  | x :: l, m, h, hs => by
    have h' := List.nodup_cons.mp h
    have hx : x ∈ m := hs x (by simp)
    have ih := nodup_len l (m.erase x) h'.2 fun y hy => (List.mem_erase_of_ne (fun e => h'.1 (by rw [← e]; exact hy))).mpr (hs y (by simp [hy]))
    have hl := List.length_erase_of_mem hx
    have hp : 0 < m.length := List.length_pos_of_mem hx
    rw [List.length_cons]
    omega
theorem low_ne {p q : Pr} (hp : vld p = true) (h : sep p q) : p.1 ≠ q.1 := by
  obtain ⟨b, a, h1, h2, h3⟩ := h
  obtain ⟨p1, p2⟩ := p
  cases h1
  rw [h2]
  intro e
  cases e
  have := vld_some.mp hp
  omega
theorem nf_lows {ps : List Pr} (h : Nf ps) : (ps.map (·.1)).Nodup := by
  unfold List.Nodup
  rw [List.pairwise_map]
  exact List.Pairwise.imp_of_mem (fun ha hb hs => low_ne (h.1 _ ha) hs) h.2
theorem maxO_or (a b : Option Int) : maxO a b = a ∨ maxO a b = b := by
  cases a <;> cases b <;> simp [maxO] <;> omega
theorem inter_len2 {a b : List Pr} (ha : Nf a) (hb : Nf b) : (inter a b).length ≤ a.length + b.length := by
  have h1 := nf_lows (inter_nf ha hb)
  have h2 := nodup_len _ (a.map (·.1) ++ b.map (·.1)) h1 ?_
  · simpa using h2
  · intro x hx
    obtain ⟨r, hr, rfl⟩ := List.mem_map.mp hx
    obtain ⟨p, hp, hr⟩ := List.mem_flatMap.mp hr
    obtain ⟨q, hq, hr⟩ := List.mem_filterMap.mp hr
    rw [metP_ends hr]
    rcases maxO_or p.1 q.1 with e | e
    · show maxO p.1 q.1 ∈ _
      rw [e]
      exact List.mem_append_left _ (List.mem_map.mpr ⟨p, hp, rfl⟩)
    · show maxO p.1 q.1 ∈ _
      rw [e]
      exact List.mem_append_right _ (List.mem_map.mpr ⟨q, hq, rfl⟩)
theorem spI_len {a b : List Pr} (ha : Nf a) (hb : Nf b) : (spI a b).length ≤ a.length + b.length := by
  rw [spI_eq ha hb]
  exact inter_len2 ha hb
/-! ## the lots -/
def ansN (ts : List Tst) (x : Int) : List Ans := ts.map fun t => ansAt t x
theorem ansL_num (ts : List Tst) (x : Int) : ansL ts (.num x) = ansN ts x := rfl
theorem mem_ne {ps : List Pr} (h : Nf ps) (hn : ps ≠ []) : ∃ x, MemL x ps := by
  cases ps with
  | nil => exact absurd rfl hn
  | cons p ps =>
    obtain ⟨x, hx⟩ := vld_mem (h.1 p (by simp))
    exact ⟨x, p, by simp, hx⟩
structure LotsInv (c : Col) (ts : List Tst) (lots : List Lot) : Prop where
  nf : ∀ l ∈ lots, Nf l.2
  ne : ∀ l ∈ lots, l.2 ≠ []
  len : ∀ l ∈ lots, l.2.length ≤ 1 + 160 * ts.length
  nd : (lots.map (·.1)).Nodup
  mem : ∀ l ∈ lots, ∀ x, MemL x l.2 ↔ (c.lo ≤ x ∧ x ≤ c.hi) ∧ ansN ts x = l.1
  all : ∀ x, c.lo ≤ x → x ≤ c.hi → ∃ l ∈ lots, l.1 = ansN ts x
  big : lots.length ≤ 4 ^ ts.length
theorem lots_start {c : Col} (h : c.lo ≤ c.hi) : LotsInv c [] [([], merged [(some c.lo, some c.hi)])] := by
  have hv : vld (some c.lo, some c.hi) = true := vld_some.mpr h
  have hm : merged [((some c.lo, some c.hi) : Pr)] = [(some c.lo, some c.hi)] := merged_id (nf_one hv)
  rw [hm]
  refine ⟨?_, ?_, ?_, ?_, ?_, ?_, ?_⟩
  · intro l hl
    rw [List.mem_singleton.mp hl]
    exact nf_one hv
  · intro l hl
    rw [List.mem_singleton.mp hl]
    simp
  · intro l hl
    rw [List.mem_singleton.mp hl]
    simp
  · simp
  · intro l hl x
    rw [List.mem_singleton.mp hl]
    show MemL x [_] ↔ _
    rw [memL_one]
    simp [inP, ansN]
  · intro x _ _
    exact ⟨_, List.mem_singleton.mpr rfl, rfl⟩
  · simp
theorem ansN_snoc (ts : List Tst) (t : Tst) (x : Int) : ansN (ts ++ [t]) x = ansN ts x ++ [ansAt t x] := by simp [ansN]
theorem ans4_mem (a : Ans) : a ∈ answers4 := by cases a <;> decide
theorem snoc_inj {α : Type} {a b : List α} {x y : α} (h : a ++ [x] = b ++ [y]) : a = b ∧ x = y := by
  have := List.append_inj' h rfl
  exact ⟨this.1, by simpa using this.2⟩
theorem lots_step {c : Col} {ts : List Tst} {lots : List Lot} {t : Tst} (ht : okT t) (h : LotsInv c ts lots) : LotsInv c (ts ++ [t]) (lotStep lots t) := by
  have ta := fun a => told_all (t := t) (fun s hs => (ht.1 s hs).1) a
  have hmem : ∀ l, l ∈ lotStep lots t ↔ ∃ q ∈ lots, ∃ a, l = (q.1 ++ [a], spI q.2 (toldA t a)) ∧ spI q.2 (toldA t a) ≠ [] := by
    intro l
    unfold lotStep
    rw [List.mem_filter, List.mem_flatMap]
    constructor
    · rintro ⟨⟨q, hq, hl⟩, hne⟩
      obtain ⟨a, _, rfl⟩ := List.mem_map.mp hl
      refine ⟨q, hq, a, rfl, fun e => ?_⟩
      rw [e] at hne
      simp at hne
    · rintro ⟨q, hq, a, rfl, hne⟩
      refine ⟨⟨q, hq, List.mem_map.mpr ⟨a, ans4_mem a, rfl⟩⟩, ?_⟩
      cases e : spI q.2 (toldA t a) with
      | nil => exact absurd e hne
      | cons _ _ => simp
  refine ⟨?_, ?_, ?_, ?_, ?_, ?_, ?_⟩
  · intro l hl
    obtain ⟨q, hq, a, rfl, _⟩ := (hmem l).mp hl
    exact spI_nf (h.nf q hq) (ta a).1
  · intro l hl
    obtain ⟨q, hq, a, rfl, hne⟩ := (hmem l).mp hl
    exact hne
  · intro l hl
    obtain ⟨q, hq, a, rfl, _⟩ := (hmem l).mp hl
    have h1 := spI_len (h.nf q hq) (ta a).1
    have h2 := h.len q hq
    have h3 := (good_told ht a).len
    rw [List.length_append, List.length_singleton]
    show (spI q.2 (toldA t a)).length ≤ _
    omega
  · have hsub : ((lotStep lots t).map (·.1)).Sublist ((lots.flatMap fun q => answers4.map fun a => (q.1 ++ [a], spI q.2 (toldA t a))).map (·.1)) := List.Sublist.map _ List.filter_sublist
    refine List.Nodup.sublist hsub ?_
    rw [List.map_flatMap]
    unfold List.Nodup
    rw [List.pairwise_flatMap]
    constructor
    · intro q hq
      rw [List.map_map, List.pairwise_map]
      refine List.Pairwise.imp ?_ (show answers4.Pairwise (· ≠ ·) by decide)
      intro a b hab e
      exact hab (snoc_inj e).2
    · have h1 : lots.Pairwise fun a b => a.1 ≠ b.1 := by
        have := h.nd
        unfold List.Nodup at this
        rwa [List.pairwise_map] at this
      refine List.Pairwise.imp ?_ h1
      intro q r hqr x hx y hy e
      rw [List.map_map] at hx hy
      obtain ⟨a, _, rfl⟩ := List.mem_map.mp hx
      obtain ⟨b, _, rfl⟩ := List.mem_map.mp hy
      exact hqr (snoc_inj e).1
  · intro l hl x
    obtain ⟨q, hq, a, rfl, _⟩ := (hmem l).mp hl
    show MemL x (spI q.2 (toldA t a)) ↔ _
    rw [spI_mem (h.nf q hq) (ta a).1, h.mem q hq, (ta a).2, ansN_snoc]
    constructor
    · rintro ⟨⟨h1, h2⟩, h3⟩
      exact ⟨h1, by rw [h2, h3]⟩
    · rintro ⟨h1, h2⟩
      obtain ⟨h3, h4⟩ := snoc_inj h2
      exact ⟨⟨h1, h3⟩, h4⟩
  · intro x h1 h2
    obtain ⟨q, hq, hqa⟩ := h.all x h1 h2
    have hm : MemL x (spI q.2 (toldA t (ansAt t x))) := by
      rw [spI_mem (h.nf q hq) (ta _).1]
      exact ⟨(h.mem q hq x).mpr ⟨⟨h1, h2⟩, hqa.symm⟩, ((ta _).2 x).mpr rfl⟩
    refine ⟨(q.1 ++ [ansAt t x], spI q.2 (toldA t (ansAt t x))), (hmem _).mpr ⟨q, hq, _, rfl, fun e => ?_⟩, ?_⟩
    · rw [e] at hm
      exact memL_nil hm
    · rw [ansN_snoc, hqa]
  · have h1 : (lotStep lots t).length ≤ (lots.flatMap fun q => answers4.map fun a => (q.1 ++ [a], spI q.2 (toldA t a))).length := List.length_filter_le _ _
    have h2 : ∀ ls : List Lot, (ls.flatMap fun q => answers4.map fun a => (q.1 ++ [a], spI q.2 (toldA t a))).length = 4 * ls.length := by
      intro ls
      induction ls with
      | nil => rfl
      | cons q ls ih =>
        rw [List.flatMap_cons, List.length_append, ih, List.length_map, List.length_cons]
        show 4 + _ = _
        omega
    rw [h2] at h1
    rw [List.length_append, List.length_singleton, Nat.pow_succ]
    have := h.big
    omega
theorem lots_run {c : Col} : ∀ (us ts : List Tst) (lots : List Lot), (∀ t ∈ us, okT t) → LotsInv c ts lots → LotsInv c (ts ++ us) (us.foldl lotStep lots)
  | [], ts, lots, _, h => by simpa using h
  | t :: us, ts, lots, ho, h => by
    have := lots_run us (ts ++ [t]) (lotStep lots t) (fun u hu => ho u (by simp [hu])) (lots_step (ho t (by simp)) h)
    simpa using this
theorem lots_inv {c : Col} {ts : List Tst} (h : c.lo ≤ c.hi) (ho : ∀ t ∈ ts, okT t) : LotsInv c ts (numberLots c ts) := by
  have := lots_run ts [] _ ho (lots_start h)
  simpa [numberLots] using this
end RA
end

section
set_option Elab.async false
set_option linter.all false
set_option autoImplicit false
set_option maxRecDepth 100000
set_option maxHeartbeats 4000000
set_option exponentiation.threshold 10000
namespace RA
open PySem PySem.Spec PyProof.Rows L2
/-! ## item by item -/
def AllR {β : Type} (R : V → β → Prop) (vs : List V) (bs : List β) : Prop := vs.length = bs.length ∧ ∀ (i : Nat) v b, vs[i]? = some v → bs[i]? = some b → R v b
section
variable {β : Type} {R S : V → β → Prop}
theorem AllR.nil : AllR R [] [] := ⟨rfl, fun i v b h => by simp at h⟩
theorem AllR.snoc {vs : List V} {bs : List β} {v : V} {b : β} (h : AllR R vs bs) (hv : R v b) : AllR R (vs ++ [v]) (bs ++ [b]) := by
  refine ⟨by simp [h.1], fun i u c h1 h2 => ?_⟩
  by_cases hi : i < vs.length
  · rw [List.getElem?_append_left hi] at h1
    rw [List.getElem?_append_left (by rw [← h.1]; exact hi)] at h2
    exact h.2 i u c h1 h2
  · rw [List.getElem?_append_right (by omega)] at h1
    rw [List.getElem?_append_right (by rw [← h.1]; omega)] at h2
    rw [h.1] at h1
    cases e : i - bs.length with
    | zero => rw [e] at h1 h2; simp at h1 h2; rw [← h1, ← h2]; exact hv
    | succ n => rw [e] at h1; simp at h1
theorem AllR.imp {vs : List V} {bs : List β} (h : AllR R vs bs) (hi : ∀ v b, R v b → S v b) : AllR S vs bs := ⟨h.1, fun i v b h1 h2 => hi v b (h.2 i v b h1 h2)⟩
theorem AllR.get {vs : List V} {bs : List β} {i : Nat} {v : V} (h : AllR R vs bs) (e : vs[i]? = some v) : ∃ b, bs[i]? = some b ∧ R v b := by
  have hi : i < bs.length := by rw [← h.1]; exact (List.getElem?_eq_some_iff.mp e).1
  exact ⟨bs[i], List.getElem?_eq_getElem hi, h.2 i v _ e (List.getElem?_eq_getElem hi)⟩
theorem AllR.getR {vs : List V} {bs : List β} {i : Nat} {b : β} (h : AllR R vs bs) (e : bs[i]? = some b) : ∃ v, vs[i]? = some v ∧ R v b := by
  have hi : i < vs.length := by rw [h.1]; exact (List.getElem?_eq_some_iff.mp e).1
  exact ⟨vs[i], List.getElem?_eq_getElem hi, h.2 i _ b (List.getElem?_eq_getElem hi) e⟩
theorem dps_allR {K : PySem.W.Frag} {H : Hp} {f : β → PyData} {vs : List V} {bs : List β} (h : DpAll K H vs (bs.map f)) : AllR (fun v b => Dp K H v (f b)) vs bs := by
  refine ⟨by rw [DpAll.len h, List.length_map], fun i v b h1 h2 => ?_⟩
  obtain ⟨d, e1, e2⟩ := DpAll.get h h1
  rw [List.getElem?_map, h2] at e1
  cases e1
  exact e2
end
section
variable {α β : Type} {K : PySem.W.Frag} {a D : Addr} {xs : List V} {g : TG} {tt : TT} {te : TE} {vs : List Nat} {σ : L2.St} {H1 : Hp} {Q : Hp → Prop} {f : α → Option β} {Rs : Hp → V → α → Prop} {Rr : Hp → V → β → Prop} {src : List α}
/-- what one turn of a comprehension asks, by relations -/
def LrTurn (H1 : Hp) (D : Addr) (g : TG) (tt : TT) (te : TE) (vs : List Nat) (σ : L2.St) (f : α → Option β) (Rs : Hp → V → α → Prop) (Rr : Hp → V → β → Prop) (src : List α) : Prop :=
  ∀ (x : V) (p : α) (H : Hp) (Y : V → Hp → Prop) (N : Hp → Prop), p ∈ src → Same H1 H → H D ≠ Option.none → Rs H1 x p → (∀ y b H4, f p = some b → Same H H4 → Rr H4 y b → Y y H4) → (∀ H3, f p = Option.none → Same H H3 → N H3) →
    g x (wipe σ vs) H fun σ2 H2 => wipe σ2 vs = wipe σ vs ∧ tt σ2 H2 fun b H3 => if b = true then te σ2 H3 fun y H4 => Y y H4 else N H3
def LrPv (H1 : Hp) (D : Addr) (f : α → Option β) (Rr : Hp → V → β → Prop) (src : List α) (i : Nat) (H : Hp) : Prop :=
  Same H1 H ∧ ∃ acc, H D = some (.lst acc) ∧ acc.length ≤ i ∧ AllR (Rr H) acc ((src.take i).filterMap f)
theorem lrPv_step {i : Nat} {x : V} {H : Hp} (hS : ∀ H H' v b, Same H H' → Rr H v b → Rr H' v b) (hU : ∀ H v b acc acc', H D = some (.lst acc) → Rr H v b → Rr (upd H D (.lst acc')) v b) (hD : H1 D = Option.none) (hx0 : AllR (Rs H1) xs src) (hlen : src.length ≤ 1000000) (T : LrTurn H1 D g tt te vs σ f Rs Rr src) (hx : xs[i]? = some x) (h : LrPv H1 D f Rr src i H) :
    g x (wipe σ vs) H fun σ2 H2 => wipe σ2 vs = wipe σ vs ∧ tt σ2 H2 fun b H3 =>
      if b = true then te σ2 H3 fun y H4 => ∃ acc, H4 D = some (.lst acc) ∧ acc.length < sizeLine ∧ LrPv H1 D f Rr src (i + 1) (upd H4 D (.lst (acc ++ [y]))) else LrPv H1 D f Rr src (i + 1) H3 := by
  obtain ⟨h1, acc, h3, h4, h5⟩ := h
  obtain ⟨p, hp, hr⟩ := hx0.get hx
  have hil : i < src.length := (List.getElem?_eq_some_iff.mp hp).1
  have ht : src.take (i + 1) = src.take i ++ [p] := by
    rw [List.take_add_one, hp]
    rfl
  refine T x p H _ _ (List.mem_of_getElem? hp) h1 (by rw [h3]; simp) hr (fun y b H4 e s4 hy => ?_) (fun H3 e s3 => ?_)
  · refine ⟨acc, s4 _ _ h3, szl (by omega), same_own (h1.trans s4) hD, acc ++ [y], upd_same, by simp; omega, ?_⟩
    rw [ht, List.filterMap_append]
    have e2 : List.filterMap f [p] = [b] := by simp [e]
    rw [e2]
    exact AllR.imp (AllR.snoc (AllR.imp h5 fun v c z => hS _ _ _ _ s4 z) hy) fun v c z => hU _ _ _ _ _ (s4 _ _ h3) z
  · refine ⟨h1.trans s3, acc, s3 _ _ h3, by omega, ?_⟩
    rw [ht, List.filterMap_append]
    have e2 : List.filterMap f [p] = [] := by simp [e]
    rw [e2, List.append_nil]
    exact AllR.imp h5 fun v c z => hS _ _ _ _ s3 z
/-- a comprehension over a list, by relations -/
theorem lcR_list (f : α → Option β) (Rs : Hp → V → α → Prop) (Rr : Hp → V → β → Prop) (src : List α) (hS : ∀ H H' v b, Same H H' → Rr H v b → Rr H' v b) (hU : ∀ H v b acc acc', H D = some (.lst acc) → Rr H v b → Rr (upd H D (.lst acc')) v b) (hD : H1 D = Option.none) (ha : SqL K H1 a xs)
    (hx : AllR (Rs H1) xs src) (hlen : src.length ≤ 1000000) (T : LrTurn H1 D g tt te vs σ f Rs Rr src) (he : ∀ H' acc, Same H1 H' → H' D = some (.lst acc) → AllR (Rr H') acc (src.filterMap f) → Q H') :
    ∃ W : Nat → Nat → Hp → Prop, (∃ m, W 0 m (upd H1 D (.lst []))) ∧ ∀ i m H, W i m H →
      ((Itl K a).stop i H ∧ Q H) ∨ ((Itl K a).go i H ∧ ∃ Nx : Hp → Prop, (∀ H', Nx H' → ∃ m', m' < m ∧ W (i + 1) m' H') ∧ ∀ x H', (Itl K a).yld i H x H' → g x (wipe σ vs) H' fun σ2 H2 => wipe σ2 vs = wipe σ vs ∧ tt σ2 H2 fun b H3 =>
        if b = true then te σ2 H3 fun y H4 => ∃ acc, H4 D = some (.lst acc) ∧ acc.length < sizeLine ∧ Nx (upd H4 D (.lst (acc ++ [y]))) else Nx H3) :=
  lc_list (LrPv H1 D f Rr src) ⟨same_upd hD, [], upd_same, Nat.le_refl _, AllR.nil⟩ (fun i H _ h => ha.ext h.1) (fun i x H hxi h => lrPv_step hS hU hD hx hlen T hxi h) (by
    rintro H ⟨h1, acc, h3, h4, h5⟩
    rw [hx.1, List.take_length] at h5
    exact he H acc h1 h3 h5)
end
section
variable {P : Program} {w : World} {K : PySem.W.Frag} {mg : Str → Option Value} {base : Heap} {C CE : Addr}
/-! ## lots -/
/-- a lot: (answers, some); its list is none of those in ok -/
def LotA (K : PySem.W.Frag) (C : Addr) (ok : Addr → Prop) (H : Hp) (v : V) (l : Lot) : Prop := ∃ p q r dx m xs, v = .ref p ∧ SqT K H p [.ref q, .ref r] ∧ H q = some (.tup ((keyA l.1).map kV)) ∧ H r = some (.ins C dx [("its_pairs", .ref m)]) ∧ H m = some (.lst xs) ∧ DpAll K H xs (encPs l.2) ∧ ok m
abbrev LotAt (K : PySem.W.Frag) (C : Addr) : Hp → V → Lot → Prop := LotA K C fun _ => True
theorem LotA.same {ok : Addr → Prop} {H H' : Hp} {v : V} {l : Lot} (s : Same H H') (h : LotA K C ok H v l) : LotA K C ok H' v l := by
  obtain ⟨p, q, r, dx, m, xs, rfl, h1, h2, h3, h4, h5, h6⟩ := h
  exact ⟨p, q, r, dx, m, xs, rfl, h1.ext s, s _ _ h2, s _ _ h3, s _ _ h4, DpAll.same s h5, h6⟩
theorem LotA.updL {D : Addr} {H : Hp} {v : V} {l : Lot} {acc acc' : List V} (hD : H D = some (.lst acc)) (h : LotA K C (· ≠ D) H v l) : LotA K C (· ≠ D) (upd H D (.lst acc')) v l := by
  obtain ⟨p, q, r, dx, m, xs, rfl, h1, h2, h3, h4, h5, h6⟩ := h
  refine ⟨p, q, r, dx, m, xs, rfl, sqt_updL hD h1, ?_, ?_, ?_, dps_updL hD (tupDs_prs _) h5, h6⟩
  · rw [upd_ne (by rintro rfl; rw [hD] at h2; cases h2)]; exact h2
  · rw [upd_ne (by rintro rfl; rw [hD] at h3; cases h3)]; exact h3
  · rw [upd_ne h6]; exact h4
theorem LotA.any {ok : Addr → Prop} {H : Hp} {v : V} {l : Lot} (h : LotA K C ok H v l) : LotAt K C H v l := by
  obtain ⟨p, q, r, dx, m, xs, rfl, h1, h2, h3, h4, h5, h6⟩ := h
  exact ⟨p, q, r, dx, m, xs, rfl, h1, h2, h3, h4, h5, True.intro⟩
theorem LotA.fresh {ok : Addr → Prop} {D : Addr} {H : Hp} {v : V} {l : Lot} (hD : H D = Option.none) (h : LotA K C ok H v l) : LotA K C (· ≠ D) H v l := by
  obtain ⟨p, q, r, dx, m, xs, rfl, h1, h2, h3, h4, h5, h6⟩ := h
  exact ⟨p, q, r, dx, m, xs, rfl, h1, h2, h3, h4, h5, ne_of_none h4 hD⟩
theorem filterMap_not {α : Type} (p : α → Bool) : ∀ ls : List α, ls.filterMap (fun l => if p l = true then none else some l) = ls.filter fun l => !p l
  | [] => rfl
  | l :: ls => by
    have ih := filterMap_not p ls
    cases h : p l with
    | true => rw [List.filterMap_cons_none (by rw [h]; rfl), List.filter_cons_of_neg (by rw [h]; decide), ih]
    | false => rw [List.filterMap_cons_some (b := l) (by rw [h]; rfl), List.filter_cons_of_pos (by rw [h]; rfl), ih]
/-- the stretches of the told dict, the list that the lots' comprehension fills -/
def encCol (c : Col) : PyData := .tuple [.str "n", .int c.lo, .int c.hi, .bool c.empty, .bool c.words]
theorem dp_col {H : Hp} {v : V} {c : Col} (h : Dp K H v (encCol c)) : ∃ a, v = .ref a ∧ SqT K H a [.str "n", .int c.lo, .int c.hi, .bl c.empty, .bl c.words] := by
  obtain ⟨a, xs, rfl, ha, hx⟩ := dp_tup h
  obtain ⟨v1, r1, rfl, h1, hx⟩ := dps_cons hx
  obtain ⟨v2, r2, rfl, h2, hx⟩ := dps_cons hx
  obtain ⟨v3, r3, rfl, h3, hx⟩ := dps_cons hx
  obtain ⟨v4, r4, rfl, h4, hx⟩ := dps_cons hx
  obtain ⟨v5, r5, rfl, h5, hx⟩ := dps_cons hx
  cases dps_nil hx
  rw [dp_str h1, dp_int h2, dp_int h3, dp_bl h4, dp_bl h5] at ha
  exact ⟨a, rfl, ha⟩
def spLots (K : PySem.W.Frag) (C : Addr) : Sp := fun vs H Q _ => ∃ v a xs c ts, vs = [v, .ref a] ∧ Dp K H v (encCol c) ∧ SqL K H a xs ∧ DpAll K H xs (ts.map encT) ∧ (∀ t ∈ ts, okT t) ∧ ts.length ≤ 3 ∧ c.lo ≤ c.hi ∧
  ∀ p ys H', Same H H' → H p = Option.none → H' p = some (.lst ys) → AllR (LotAt K C H') ys (numberLots c ts) → Q (.ref p) H'
abbrev sLots : Stmt := top 43
abbrev nLots : List Str := ["column", "tests", "found", "test", "sets", "answers", "some", "word"]
theorem scLots : FnScope nLots ["column", "tests"] (defScope sLots) := ⟨rfl, rfl, rfl, by decide +kernel, rfl, by decide +kernel, by decide +kernel⟩
/-- len(spans) -/
def rSpLen (K : PySem.W.Frag) (C : Addr) : List V → Hp → VK → Prop := fun xs H Q => ∃ a ps, xs = [.ref a] ∧ SpAt K C H a ps ∧ ps.length ≤ 1000000 ∧ Q (.int ps.length) H
theorem callR_weak {X : Cx} {f : Value} {r r' : List V → Hp → VK → Prop} (h : CallR X f r) (hw : ∀ xs H Q, r' xs H Q → r xs H Q) : CallR X f r' := fun pins s σ H xs us Q I r1 q => h pins s σ H xs us Q I r1 (hw _ _ _ q)
theorem call_spLen {X : Cx} (S : SpMs X.prog X.w X.K X.mg X.base C) (hr : Room 2 X.A) : CallR X (.builtin "len") (rSpLen X.K C) := by
  obtain ⟨f, fd, hF, hb, hs, hf⟩ := S.len
  refine callR_weak (call_ownLen hF hr hb hs hf) fun xs H Q h => ?_
  obtain ⟨a, ps, rfl, h1, hl, q⟩ := h
  have g1 := h1
  obtain ⟨dx, l, ys, e1, _⟩ := h1
  exact ⟨a, dx, _, rfl, e1, a, ps, rfl, g1, ps.length, rfl, by omega, q⟩
theorem ok_lots {f tA : Addr} {fd : FuncData} (F : Fun K "number_lots" "number_lots" sLots f fd) (B : Bi mg) (S : SpMs P w K mg base C) (Ft : Fd P w K mg base "told" 11 ["test"] (spTold K C)) (hA : mg "ANSWERS" = some (.ref tA)) (hW : ∀ H : Hp, SqT K H tA words4) :
    FnOk P w K mg base CX0 12 f fd ["column", "tests"] (spLots K C) := by
  refine F.ok scLots (fun vs H Q E h => ?_) (fun cdv A outer s H vs Q E hr h => ?_)
  · obtain ⟨v, a, xs, c, ts, rfl, _⟩ := h
    rfl
  · obtain ⟨v, a, xs, c, ts, rfl, hv, ha, hx, hok, hl3, hle, q⟩ := h
    obtain ⟨cl, rfl, hcl⟩ := dp_col hv
    have nd := scLots.nd
    have hr2 : Room 2 _ := hr.mono (j := 2) (by decide)
    have hr6 : Room 6 _ := hr.mono (j := 6) (by decide)
    have hr7 : Room 7 _ := hr.mono (j := 7) (by decide)
    have hu : (A.deeper (envOfC "number_lots" (defScope sLots) s.heap.objs.size f cdv)).units + 1 < cLine := by have := hu1 hr; omega
    refine ⟨_, pss_cons (ps_set nd (i := 2) rfl (Or.inl rfl) (pe_lst (pa_cons (pe_tup (pa_cons (pe_tup pa_nil) (pa_cons (pe_spansN S.mkc hr6 (pe_lst (pa_cons (pe_tup (pa_cons (pe_ix ix_tup (pv 0) pe_int (fun _ _ => rfl)) (pa_cons (pe_ix ix_tup (pv 0) pe_int (fun _ _ => rfl)) pa_nil))) pa_nil))) pa_nil))) pa_nil)))
      (pss_cons (ps_for PassesOwn.never rfl (pi_list (pv 1)) (pg_name (i := 3) nd rfl (Or.inl rfl))
        (pss_cons (ps_set nd (i := 4) rfl (Or.inr rfl) (pe_f Ft hr (pa_cons (pv 3) pa_nil)))
        (pss_cons (ps_setLc2 (i := 2) (own := [("answers", 5), ("some", 6), ("word", 7)]) (vs1 := [7]) (g := gTup K 2 (gCons (gName 5) (gCons (gName 6) gNil))) (tt := tYes) (wi1 := iTup K (tC (.ref tA))) (g1 := gName 7) (tt1 := tYes)
            (te := tTup (tCons (tTup (StX.tStar K (tVar 5) (tCons (tVar 7) tNil))) (tCons (tOp (rSpAnd K C) (tVar 6) (tDGet (tVar 4) (tVar 7))) tNil))) rfl nd rfl rfl (by rfl) (pi_list (pv 2)) (blkOk_by (N := nLots) (sc := defScope sLots) (by decide +kernel)) (by decide)
            (fun _ _ _ _ _ => pg_tup rfl (pgs_cons (pg_name (i := 5) nd rfl (Or.inl rfl)) (pgs_cons (pg_name (i := 6) nd rfl (Or.inl rfl)) pgs_nil))) (fun _ _ _ _ _ => pts_nil) (fun _ _ _ _ _ => pi_tup (pe_fname hA)) (fun _ _ _ _ _ => pg_name (i := 7) nd rfl (Or.inl rfl)) (fun _ _ _ _ _ => pts_nil)
            (fun _ _ _ _ _ => pe_tup (pa_cons (pe_tup (StX.pa_star (pv 5) (pa_cons (pv 7) pa_nil))) (pa_cons (pe_op (op_spAnd S hr7) (pv 6) (pe_dget hu (pv 4) (pv 7) (fun _ _ => rfl))) pa_nil))))
        (pss_one (ps_setLc (i := 2) (own := [("answers", 5), ("some", 6)]) (g := gTup K 2 (gCons (gName 5) (gCons (gName 6) gNil))) (tt := tTest (tOp (rI0 fun i j => .bl (decide (j < i))) (tCB (rSpLen K C) (tCons (tVar 6) tNil)) (tC (.int 0)))) (te := tTup (tCons (tVar 5) (tCons (tVar 6) tNil))) rfl nd rfl rfl (sw_true rfl rfl rfl (by decide +kernel)) (pi_list (pv 2)) (blkOk_by (N := nLots) (sc := defScope sLots) (by decide +kernel))
            (fun _ _ _ _ _ => pg_tup rfl (pgs_cons (pg_name (i := 5) nd rfl (Or.inl rfl)) (pgs_cons (pg_name (i := 6) nd rfl (Or.inl rfl)) pgs_nil))) (fun _ _ _ _ _ => pts_one (pt_cmpR op_gt (pe_callB (call_spLen S hr2) (by rfl) B.len_ bt_len (pa_cons (pv 6) pa_nil)) pe_int (nomark _))) (fun _ _ _ _ _ => pe_tup (pa_cons (pv 5) (pa_cons (pv 6) pa_nil))))))))
      (pss_one (ps_ret (pv 2)))), ?_⟩
    have exl : xs.length = ts.length := by rw [DpAll.len hx, List.length_map]
    have hv0 : vld ((some c.lo, some c.hi) : Pr) = true := vld_some.mpr hle
    refine ⟨Nat.zero_le _, fun A0 hA0 => ?_⟩
    have k1 : Same H (upd H A0 (.tup [])) := same_upd hA0
    refine ⟨_, rfl, cl, _, 1, _, rfl, rfl, hcl.ext k1, at1, _, rfl, cl, _, 2, _, rfl, rfl, hcl.ext k1, at2, two_sz, fun T hT => ⟨one_sz, fun L hL => ⟨L, _, [(some c.lo, some c.hi)], rfl, .inl (SqL.of upd_same), .cons (Dp.same (same_upd hL) (dp_pr_new (p := (some c.lo, some c.hi)) upd_same)) .nil, by simp [hv0], by simp, fun c1 H1 s1 g1 => ?_⟩⟩⟩
    have k2 : Same (upd H A0 (.tup [])) H1 := (same_new (same_upd hT) hL).trans s1
    refine ⟨two_sz, fun U hU => ⟨one_sz, fun F hF => ?_⟩⟩
    have k3 : Same H1 (upd (upd H1 U (.tup [.ref A0, .ref c1])) F (.lst [.ref U])) := same_new (same_upd hU) hF
    have kH : Same H (upd (upd H1 U (.tup [.ref A0, .ref c1])) F (.lst [.ref U])) := (k1.trans k2).trans k3
    have hF0 : H F = Option.none := none_back ((k1.trans k2).trans (same_upd hU)) hF
    refine ⟨_, rfl, a, rfl, ⟨xs, ha.ext kH⟩, for_list (xs := xs) (fun i σ H' => ∃ F ys p3 p4, σ = [some (.ref cl), some (.ref a), some (.ref F), p3, p4, Option.none, Option.none, Option.none] ∧ Same H H' ∧ H F = Option.none ∧ H' F = some (.lst ys) ∧
      AllR (LotAt K C H') ys ((ts.take i).foldl lotStep [([], merged [(some c.lo, some c.hi)])])) ?_ ?_ ?_ ?_⟩
    · refine ⟨F, _, _, _, rfl, kH, hF0, upd_same, ?_⟩
      obtain ⟨dx, m, ys, e1, e2, e3, _⟩ := g1
      have : LotAt K C (upd (upd H1 U (.tup [.ref A0, .ref c1])) F (.lst [.ref U])) (.ref U) ([], merged [(some c.lo, some c.hi)]) :=
        ⟨U, A0, c1, dx, m, ys, rfl, (SqT.of upd_same).ext (same_upd hF), k3 _ _ (k2 _ _ upd_same), k3 _ _ e1, k3 _ _ e2, DpAll.same k3 e3, True.intro⟩
      exact AllR.snoc AllR.nil this
    · rintro i σ H' _ ⟨F, ys, p3, p4, rfl, s1, _⟩
      exact ha.ext s1
    · rintro i x σ H' hxi ⟨F, ys, p3, p4, rfl, s1, hF0, hFy, hal⟩
      obtain ⟨dd, hd1, hd2⟩ := DpAll.get hx hxi
      rw [List.getElem?_map] at hd1
      cases hp : ts[i]? with
      | none => rw [hp] at hd1; cases hd1
      | some t =>
        rw [hp] at hd1
        cases hd1
        have hil : i < ts.length := (List.getElem?_eq_some_iff.mp hp).1
        have htm : t ∈ ts := List.mem_of_getElem? hp
        have htk := hok t htm
        have et : ts.take (i + 1) = ts.take i ++ [t] := by
          rw [List.take_add_one, hp]
          rfl
        have inv : LotsInv c (ts.take i) ((ts.take i).foldl lotStep [([], merged [(some c.lo, some c.hi)])]) := lots_inv (c := c) (ts := ts.take i) hle fun u hu => hok u (List.mem_of_mem_take hu)
        obtain ⟨lots, hlots⟩ : ∃ lots, lots = (ts.take i).foldl lotStep [([], merged [(some c.lo, some c.hi)])] := ⟨_, rfl⟩
        rw [et, List.foldl_append, ← hlots]
        rw [← hlots] at hal inv
        have htl : (ts.take i).length ≤ 2 := by rw [List.length_take]; omega
        have hbig : lots.length ≤ 16 := Nat.le_trans inv.big (Nat.pow_le_pow_right (by decide) htl)
        refine ⟨_, rfl, x, t, rfl, Dp.same s1 hd2, htk, fun d H2 s2 hd0 hd => ?_⟩
        have hF2 := s2 _ _ hFy
        have eyl : ys.length = lots.length := hal.1
        refine ⟨_, rfl, F, rfl, ⟨ys, SqL.of hF2⟩, fun D hD => ?_⟩
        refine turns_list (xs := ys) (fun j H3 => Same H2 H3 ∧ ∃ acc, H3 D = some (.lst acc) ∧ acc.length ≤ 4 * j ∧ AllR (LotA K C (· ≠ D) H3) acc ((lots.take j).flatMap fun q => answers4.map fun a => (q.1 ++ [a], spI q.2 (toldA t a)))) ?_ ?_ ?_ ?_
        · exact ⟨same_upd hD, [], upd_same, Nat.le_refl _, AllR.nil⟩
        · rintro j H3 ⟨s3, _⟩
          exact SqL.of (s3 _ _ hF2)
        · rintro j z H3 hzj ⟨s3, acc, hac, hal3, har⟩
          obtain ⟨lt, hlt, hzl⟩ := hal.get hzj
          have hltm : lt ∈ lots := List.mem_of_getElem? hlt
          have hjl : j < lots.length := (List.getElem?_eq_some_iff.mp hlt).1
          obtain ⟨p0, q0, r0, dx, m, ms, rfl, f1, f2, f3, f4, f5, _⟩ := LotA.same s2 hzl
          have etj : (lots.take (j + 1)).flatMap (fun q : Lot => answers4.map fun a => (q.1 ++ [a], spI q.2 (toldA t a))) = (lots.take j).flatMap (fun q : Lot => answers4.map fun a => (q.1 ++ [a], spI q.2 (toldA t a))) ++ answers4.map fun a => (lt.1 ++ [a], spI lt.2 (toldA t a)) := by
            rw [List.take_add_one, hlt]
            simp
          rw [etj]
          refine ⟨p0, _, rfl, f1.ext s3, rfl, _, _, rfl, _, _, rfl, rfl, rfl, ?_⟩
          refine ⟨tA, rfl, ⟨words4, hW _⟩, turns_tup (xs := words4) (fun k H4 => Same H2 H4 ∧ ∃ bcc, H4 D = some (.lst bcc) ∧ bcc.length ≤ 4 * j + k ∧ AllR (LotA K C (· ≠ D) H4) bcc ((lots.take j).flatMap (fun q : Lot => answers4.map fun a => (q.1 ++ [a], spI q.2 (toldA t a))) ++ (answers4.take k).map fun a => (lt.1 ++ [a], spI lt.2 (toldA t a)))) ?_ ?_ ?_ ?_⟩
          · exact ⟨s3, acc, hac, by omega, by simpa using har⟩
          · rintro k H4 _
            exact hW _
          · rintro k wv H4 hwk ⟨s4, bcc, hbc, hbl, hbr⟩
            have hw : ∃ cc : Ans, answers4[k]? = some cc ∧ wv = .str (strA cc) := by
              rcases k with _ | _ | _ | _ | k
              · exact ⟨.error, rfl, by injection hwk with e; exact e.symm⟩
              · exact ⟨.no, rfl, by injection hwk with e; exact e.symm⟩
              · exact ⟨.unknown, rfl, by injection hwk with e; exact e.symm⟩
              · exact ⟨.yes, rfl, by injection hwk with e; exact e.symm⟩
              · simp at hwk
            obtain ⟨cc, hcc, rfl⟩ := hw
            have hk4 : k < 4 := (List.getElem?_eq_some_iff.mp hwk).1
            have hkl : (keyA lt.1).length ≤ 2 := by
              obtain ⟨x0, hx0⟩ := mem_ne (inv.nf lt hltm) (inv.ne lt hltm)
              have := ((inv.mem lt hltm x0).mp hx0).2
              have e : lt.1.length = (ts.take i).length := by rw [← this]; simp [ansN]
              simp [keyA]
              omega
            refine ⟨rfl, ?_⟩
            refine ⟨_, rfl, q0, _, rfl, .inl (SqT.of (s4 _ _ f2)), _, rfl, ?_, fun T hT => ?_⟩
            · refine Nat.le_of_lt (szl ?_)
              rw [List.length_append, List.length_map]
              show (keyA lt.1).length + 1 ≤ _
              omega
            · have s5 : Same H4 (upd H4 T (.tup ((keyA lt.1).map kV ++ [V.str (strA cc)]))) := same_upd hT
              obtain ⟨kvs, u1, u2, u3⟩ := TdF.same (s4.trans s5) hd
              obtain ⟨rr, e1, e2⟩ := u3 cc
              refine ⟨_, rfl, _, rfl, _, rfl, d, _, rfl, by have := DGet.k (k := .inr (strA cc)) u1; rw [e1] at this; exact this, ?_⟩
              have gt := good_told htk cc
              refine ⟨r0, rr, lt.2, toldA t cc, rfl, rfl, ⟨dx, m, ms, s5 _ _ (s4 _ _ f3), s5 _ _ (s4 _ _ f4), DpAll.same (s4.trans s5) f5⟩, e2, (inv.nf lt hltm).1, gt.nf.1, by have := inv.len lt hltm; omega, Nat.le_trans gt.len (by decide), fun e H5 s6 g6 => ?_⟩
              obtain ⟨dx2, m2, ms2, w1, w2, w3, w4⟩ := g6
              have hm2 : m2 ≠ D := by
                rintro rfl
                rw [s5 _ _ hbc] at w4
                cases w4
              refine ⟨two_sz, fun U hU => ?_⟩
              have s7 : Same H4 (upd H5 U (.tup [.ref T, .ref e])) := same_new (s5.trans s6) hU
              have hb7 := s7 _ _ hbc
              refine ⟨bcc, hb7, szl (by omega), same_own (s4.trans s7) hD, bcc ++ [.ref U], upd_same, by simp; omega, ?_⟩
              · have hnew : LotA K C (· ≠ D) (upd H5 U (.tup [.ref T, .ref e])) (.ref U) (lt.1 ++ [cc], spI lt.2 (toldA t cc)) := by
                  refine ⟨U, T, e, dx2, m2, ms2, rfl, SqT.of upd_same, ?_, same_upd hU _ _ w1, same_upd hU _ _ w2, DpAll.same (same_upd hU) w3, hm2⟩
                  rw [same_upd hU _ _ (s6 _ _ upd_same)]
                  simp [keyA, kV]
                rw [List.take_add_one, hcc, List.map_append, ← List.append_assoc]
                exact AllR.snoc (AllR.imp hbr fun v l h => (h.same s7).updL hb7) (hnew.updL hb7)
          · rintro H4 ⟨s4, bcc, hbc, hbl, hbr⟩
            exact ⟨s4, bcc, hbc, by simp at hbl; omega, hbr⟩
        · rintro H3 ⟨s3, acc, hac, hal3, har⟩
          rw [eyl, List.take_length] at har
          have hbig2 : (lots.flatMap fun q : Lot => answers4.map fun a => (q.1 ++ [a], spI q.2 (toldA t a))).length ≤ 1000 := by
            rw [← har.1]
            omega
          refine ⟨_, rfl, D, rfl, ⟨acc, SqL.of hac⟩, fun D2 hD2 => lcR_list (fun l : Lot => if l.2.isEmpty = true then none else some l) (LotA K C (· ≠ D2)) (LotA K C (· ≠ D2)) (lots.flatMap fun q : Lot => answers4.map fun a => (q.1 ++ [a], spI q.2 (toldA t a)))
            (fun _ _ _ _ s h => h.same s) (fun _ _ _ _ _ e h => h.updL e) hD2 (SqL.of hac) (AllR.imp har fun v l h => h.fresh hD2) (by omega) ?_ ?_⟩
          · intro y l H4 Y N hl s4 hDn hy hY hN
            obtain ⟨p0, q0, r0, dx, m, ms, rfl, f1, f2, f3, f4, f5, hm⟩ := LotA.same s4 hy
            have hlm : l.2.length ≤ 1000000 := by
              obtain ⟨q, hq, hl'⟩ := List.mem_flatMap.mp hl
              obtain ⟨a', _, rfl⟩ := List.mem_map.mp hl'
              have h1 := spI_len (inv.nf q hq) (good_told htk a').nf
              have h2 := inv.len q hq
              have h3 := (good_told htk a').len
              show (spI q.2 (toldA t a')).length ≤ _
              omega
            refine ⟨p0, _, rfl, f1, rfl, _, _, rfl, _, _, rfl, rfl, rfl, _, rfl, r0, l.2, rfl, ⟨dx, m, ms, f3, f4, f5⟩, hlm, _, _, rfl, rfl, _, rfl, ?_⟩
            cases hem : l.2.isEmpty with
            | true =>
              have e0 : l.2 = [] := by simpa using hem
              rw [show decide ((0 : Int) < (l.2.length : Int)) = false by rw [e0]; rfl]
              exact iteF (hN _ (if_pos hem) (Same.refl _))
            | false =>
              have e0 : 0 < l.2.length := by
                rcases hl2 : l.2 with _ | ⟨x, r⟩
                · rw [hl2] at hem; cases hem
                · simp
              rw [show decide ((0 : Int) < (l.2.length : Int)) = true from decide_eq_true (by omega)]
              refine iteT ⟨_, rfl, _, rfl, two_sz, fun U hU => hY _ l _ (if_neg (by rw [hem]; decide)) (same_upd hU) ?_⟩
              exact ⟨U, q0, r0, dx, m, ms, rfl, SqT.of upd_same, same_upd hU _ _ f2, same_upd hU _ _ f3, same_upd hU _ _ f4, DpAll.same (same_upd hU) f5, hm⟩
          · intro H4 acc2 s4 hD4 har4
            refine ⟨D2, acc2, _, _, rfl, (s1.trans s2).trans (s3.trans s4), none_back ((s1.trans s2).trans s3) hD2, hD4, ?_⟩
            have e : (lots.flatMap fun q : Lot => answers4.map fun a => (q.1 ++ [a], spI q.2 (toldA t a))).filterMap (fun l : Lot => if l.2.isEmpty = true then none else some l) = [t].foldl lotStep lots := by
              show _ = lotStep lots t
              exact filterMap_not _ _
            rw [e] at har4
            exact AllR.imp har4 fun v l h => h.any
    · rintro σ H' ⟨F, ys, p3, p4, rfl, s1, hF0, hFy, hal⟩
      rw [exl, List.take_length] at hal
      exact ⟨_, rfl, q F ys H' s1 hF0 hFy hal⟩
end
end RA
end

section
set_option Elab.async false
set_option linter.all false
set_option autoImplicit false
set_option maxRecDepth 100000
set_option maxHeartbeats 4000000
set_option exponentiation.threshold 10000
namespace RA
open PySem PySem.Spec PyProof.Rows L2
/-! ## the dict of cells -/
abbrev Cd := List (List Ans × Cell)
def putC (m : Cd) (k : List Ans) (c : Cell) : Cd := if (m.any fun e => decide (e.1 = k)) = true then m.map (fun e => if e.1 = k then (e.1, c) else e) else m ++ [(k, c)]
def findC (m : Cd) (k : List Ans) : Option Cell := (m.find? fun e => decide (e.1 = k)).map (·.2)
def cell0 : Cell := ⟨false, false, []⟩
def getC (m : Cd) (k : List Ans) : Cell := (findC m k).getD cell0
def lots0 (lots : List Lot) : Cd := lots.foldl (fun m l => putC m l.1 ⟨false, false, l.2⟩) []
def cd0 (c : Col) (ts : List Tst) : Cd := lots0 (numberLots c ts)
def cd1 (c : Col) (ts : List Tst) : Cd := if c.empty = true then putC (cd0 c ts) (ansL ts .non) ⟨true, false, (getC (cd0 c ts) (ansL ts .non)).spans⟩ else cd0 c ts
def cd2 (c : Col) (ts : List Tst) : Cd := if c.words = true then putC (cd1 c ts) (ansL ts (.txt "a")) ⟨(getC (cd1 c ts) (ansL ts (.txt "a"))).empty, true, (getC (cd1 c ts) (ansL ts (.txt "a"))).spans⟩ else cd1 c ts
theorem keyA_inj {a b : List Ans} (h : keyA a = keyA b) : a = b := by
  induction a generalizing b with
  | nil => cases b with
    | nil => rfl
    | cons _ _ => simp [keyA] at h
  | cons x a ih => cases b with
    | nil => simp [keyA] at h
    | cons y b =>
      simp [keyA] at h
      rw [strA_inj h.1, ih (by simpa [keyA] using h.2)]
theorem keyA_dec (a b : List Ans) : decide (keyA a = keyA b) = decide (a = b) := decide_eq_decide.mpr ⟨keyA_inj, fun e => by rw [e]⟩
theorem tupD_c (c : Cell) : tupD (encC c) = true := by
  simp [encC, tupD, tupDs]
  exact tupDs_prs _
section
variable {P : Program} {w : World} {K : PySem.W.Frag} {mg : Str → Option Value} {base : Heap} {C CE : Addr}
def CdR (K : PySem.W.Frag) (H : Hp) : List (List Key × V) → Cd → Prop
  | [], [] => True
  | (k, v) :: r, (a, c) :: s => k = keyA a ∧ Dp K H v (encC c) ∧ CdR K H r s
  | _, _ => False
theorem CdR.mono {H H' : Hp} (hd : ∀ v c, Dp K H v (encC c) → Dp K H' v (encC c)) : ∀ {kvs : List (List Key × V)} {m : Cd}, CdR K H kvs m → CdR K H' kvs m
  | [], [], _ => True.intro
  | (_, _) :: _, (_, _) :: _, ⟨h1, h2, h3⟩ => ⟨h1, hd _ _ h2, CdR.mono hd h3⟩
  | [], _ :: _, h => h.elim
  | _ :: _, [], h => h.elim
theorem CdR.any {H : Hp} {a : List Ans} : ∀ {kvs : List (List Key × V)} {m : Cd}, CdR K H kvs m → (kvs.any fun kv => decide (kv.1 = keyA a)) = m.any fun e => decide (e.1 = a)
  | [], [], _ => rfl
  | (k, v) :: r, (b, c) :: s, ⟨h1, h2, h3⟩ => by
    have ih := CdR.any (a := a) h3
    subst h1
    rw [List.any_cons, List.any_cons, ih, keyA_dec]
  | [], _ :: _, h => h.elim
  | _ :: _, [], h => h.elim
theorem CdR.map {H : Hp} {a : List Ans} {v : V} {c : Cell} (hv : Dp K H v (encC c)) : ∀ {kvs : List (List Key × V)} {m : Cd}, CdR K H kvs m → CdR K H (kvs.map fun kv => if kv.1 = keyA a then (kv.1, v) else kv) (m.map fun e => if e.1 = a then (e.1, c) else e)
  | [], [], _ => True.intro
  | (k, u) :: r, (b, d) :: s, ⟨h1, h2, h3⟩ => by
    have ih := CdR.map (a := a) hv h3
    subst h1
    by_cases e : b = a
    · subst e
      rw [List.map_cons, List.map_cons, if_pos rfl, if_pos rfl]
      exact ⟨rfl, hv, ih⟩
    · rw [List.map_cons, List.map_cons, if_neg (fun z => e (keyA_inj z)), if_neg e]
      exact ⟨rfl, h2, ih⟩
  | [], _ :: _, h => h.elim
  | _ :: _, [], h => h.elim
theorem CdR.snoc {H : Hp} {a : List Ans} {v : V} {c : Cell} (hv : Dp K H v (encC c)) : ∀ {kvs : List (List Key × V)} {m : Cd}, CdR K H kvs m → CdR K H (kvs ++ [(keyA a, v)]) (m ++ [(a, c)])
  | [], [], _ => ⟨rfl, hv, True.intro⟩
  | (_, _) :: _, (_, _) :: _, ⟨h1, h2, h3⟩ => ⟨h1, h2, CdR.snoc hv h3⟩
  | [], _ :: _, h => h.elim
  | _ :: _, [], h => h.elim
theorem CdR.put {H : Hp} {a : List Ans} {v : V} {c : Cell} {kvs : List (List Key × V)} {m : Cd} (h : CdR K H kvs m) (hv : Dp K H v (encC c)) : CdR K H (putK kvs (keyA a) v) (putC m a c) := by
  unfold putK putC
  rw [h.any]
  split
  · exact h.map hv
  · exact h.snoc hv
theorem CdR.find {H : Hp} {a : List Ans} : ∀ {kvs : List (List Key × V)} {m : Cd}, CdR K H kvs m → (∀ c, findC m a = some c → ∃ v, valV kvs (keyA a) = some v ∧ Dp K H v (encC c)) ∧ (findC m a = none → valV kvs (keyA a) = none)
  | [], [], _ => ⟨fun c h => by simp [findC] at h, fun _ => rfl⟩
  | (k, u) :: r, (b, d) :: s, ⟨h1, h2, h3⟩ => by
    have ih := CdR.find (a := a) h3
    subst h1
    unfold findC valV at ih ⊢
    by_cases e : b = a
    · subst e
      simp
      exact h2
    · rw [List.find?_cons_of_neg (by simpa using e), List.find?_cons_of_neg (by simpa using fun z => e (keyA_inj z))]
      exact ih
  | [], _ :: _, h => h.elim
  | _ :: _, [], h => h.elim
theorem CdR.vals {H : Hp} : ∀ {kvs : List (List Key × V)} {m : Cd}, CdR K H kvs m → DpAll K H (kvs.map (·.2)) ((m.map (·.2)).map encC)
  | [], [], _ => .nil
  | (k, u) :: r, (b, d) :: s, ⟨h1, h2, h3⟩ => .cons h2 (CdR.vals h3)
  | [], _ :: _, h => h.elim
  | _ :: _, [], h => h.elim
theorem CdR.len {H : Hp} : ∀ {kvs : List (List Key × V)} {m : Cd}, CdR K H kvs m → kvs.length = m.length
  | [], [], _ => rfl
  | (k, u) :: r, (b, d) :: s, ⟨h1, h2, h3⟩ => by rw [List.length_cons, List.length_cons, CdR.len h3]
  | [], _ :: _, h => h.elim
  | _ :: _, [], h => h.elim
def CdAt (K : PySem.W.Frag) (H : Hp) (d : Addr) (m : Cd) : Prop := ∃ kvs, H d = some (.dT kvs) ∧ CdR K H kvs m
theorem CdAt.same {H H' : Hp} {d : Addr} {m : Cd} (s : Same H H') (h : CdAt K H d m) : CdAt K H' d m := by
  obtain ⟨kvs, h1, h2⟩ := h
  exact ⟨kvs, s _ _ h1, h2.mono fun _ _ z => Dp.same s z⟩
theorem putC_len (m : Cd) (k : List Ans) (c : Cell) : (putC m k c).length ≤ m.length + 1 := by
  unfold putC
  split <;> simp
theorem cd_put {H : Hp} {d b : Addr} {m : Cd} {a : List Ans} {v : V} {c : Cell} (h : CdAt K H d m) (hb : H b = some (.tup ((keyA a).map kV))) (hv : Dp K H v (encC c)) (hl : m.length ≤ 1000000) :
    ∃ H', DPut H d (.ref b) v H' ∧ CdAt K H' d (putC m a c) ∧ ∀ x o, x ≠ d → H x = some o → H' x = some o := by
  obtain ⟨kvs, h1, h2⟩ := h
  refine ⟨_, DPut.t (k := keyA a) h1 hb (szl (by rw [h2.len]; omega)), ⟨_, upd_same, CdR.mono (fun _ c z => dp_updO h1 (notTup_dT _) (tupD_c c) z) (h2.put hv)⟩, fun x o hx e => by rw [upd_ne hx]; exact e⟩
/-! ## lots_by_answers -/
def tPrs (K : PySem.W.Frag) (C : Addr) (to : TE) : TE := fun σ H Q => to σ H fun x H1 => ∃ a ps, x = .ref a ∧ SpAt K C H1 a ps ∧ RetL K H1 Q (encPs ps)
theorem pe_prs {X : Cx} {o : Expr} {to : TE} {apos pos : Pos} {pl : Sem Bool} (S : SpMs X.prog X.w X.K X.mg X.base C) (hr : Room 1 X.A) (ho : PE X o to)
    (ht : eval (.Call (.Attribute o "pairs" apos) [] [] pos) X.env = (do
      let ov ← eval o X.env
      standAt apos.atName
      let (f, first) ← PySem.holding [ov] (getMethod ov "pairs" pl)
      callWith pos f first (backTo pos (starEach [] X.env)) (backToKw pos (keywordEach [] X.env))) := by rfl) : PE X (.Call (.Attribute o "pairs" apos) [] [] pos) (tPrs X.K C to) := by
  obtain ⟨f, fd, hF, hb, hm⟩ := S.prs
  refine pe_weak (pe_meth0 (pe_mono ho) S.mkc.2.1 hm hF hr hb .nil pass0 ht) fun σ H Q h => ⟨_, h, fun x H1 hq => ?_⟩
  obtain ⟨a, ps, rfl, h1, q⟩ := hq
  have g1 := h1
  obtain ⟨dx, l, xs, e1, _⟩ := h1
  exact ⟨a, dx, _, rfl, e1, rfl, a, ps, rfl, g1, q⟩
def rTupOf (K : PySem.W.Frag) : List V → Hp → VK → Prop := fun xs H Q => ∃ p ys, xs = [.ref p] ∧ ((SqL K H p ys ∧ ∀ l, H l = Option.none → Q (.ref l) (upd H l (.tup ys))) ∨ (SqT K H p ys ∧ Q (.ref p) H))
theorem call_tupOf {X : Cx} : CallR X (.type "tuple") (rTupOf X.K) := call_tuple_of
theorem three_sz : 3 ≤ sizeLine := by decide
def okTs (c : Col) (ts : List Tst) : Prop := (∀ t ∈ ts, okT t) ∧ ts.length ≤ 3 ∧ c.lo ≤ c.hi
def spLotsBy (K : PySem.W.Frag) : Sp := fun vs H Q _ => ∃ v a xs c ts, vs = [v, .ref a] ∧ Dp K H v (encCol c) ∧ SqL K H a xs ∧ DpAll K H xs (ts.map encT) ∧ okTs c ts ∧
  ∀ d H', Same H H' → H d = Option.none → CdAt K H' d (cd2 c ts) → Q (.ref d) H'
abbrev sLotsBy : Stmt := top 45
abbrev nLotsBy : List Str := ["column", "tests", "answers", "found", "old", "some"]
theorem scLotsBy : FnScope nLotsBy ["column", "tests"] (defScope sLotsBy) := ⟨rfl, rfl, rfl, by decide +kernel, rfl, by decide +kernel, by decide +kernel⟩
theorem dp_cell {H : Hp} {T L : Addr} {e w : Bool} {ps : List Pr} (h : SqT K H T [.bl e, .bl w, .ref L]) (hl : Dp K H (.ref L) (.tuple (encPs ps))) : Dp K H (.ref T) (encC ⟨e, w, ps⟩) := .tup h (.cons (.bl _) (.cons (.bl _) (.cons hl .nil)))
theorem dp_cellv {H : Hp} {v : V} {c : Cell} (h : Dp K H v (encC c)) : ∃ a L xs, v = .ref a ∧ SqT K H a [.bl c.empty, .bl c.words, .ref L] ∧ SqT K H L xs ∧ DpAll K H xs (encPs c.spans) := by
  obtain ⟨a, xs, rfl, ha, hx⟩ := dp_tup h
  obtain ⟨v1, r1, rfl, h1, hx⟩ := dps_cons hx
  obtain ⟨v2, r2, rfl, h2, hx⟩ := dps_cons hx
  obtain ⟨v3, r3, rfl, h3, hx⟩ := dps_cons hx
  cases dps_nil hx
  obtain ⟨L, ys, rfl, hL, hy⟩ := dp_tup h3
  rw [dp_bl h1, dp_bl h2] at ha
  exact ⟨a, L, ys, rfl, ha, hL, hy⟩
theorem lots0_snoc (ls : List Lot) (l : Lot) : lots0 (ls ++ [l]) = putC (lots0 ls) l.1 ⟨false, false, l.2⟩ := by simp [lots0, List.foldl_append]
theorem lots0_run : ∀ (ls : List Lot) (m : Cd), (ls.foldl (fun m l => putC m l.1 ⟨false, false, l.2⟩) m).length ≤ m.length + ls.length
  | [], m => by simp
  | l :: ls, m => by
    have h1 := lots0_run ls (putC m l.1 ⟨false, false, l.2⟩)
    have h2 := putC_len m l.1 ⟨false, false, l.2⟩
    rw [List.foldl_cons, List.length_cons]
    omega
theorem lots0_len (ls : List Lot) : (lots0 ls).length ≤ ls.length := by
  have := lots0_run ls []
  simpa [lots0] using this
theorem ok_lotsBy {f : Addr} {fd : FuncData} {tW : Tok} (F : Fun K "lots_by_answers" "lots_by_answers" sLotsBy f fd) (B : Bi mg) (S : SpMs P w K mg base C) (Fl : Fd P w K mg base "number_lots" 12 ["column", "tests"] (spLots K C)) (Fa : Fd P w K mg base "answers_at" 7 ["tests", "value"] (spAnsAt K))
    (hWd : mg "WORD" = some (.str "a" tW)) : FnOk P w K mg base CX0 13 f fd ["column", "tests"] (spLotsBy K) := by
  refine F.ok scLotsBy (fun vs H Q E h => ?_) (fun cdv A outer s H vs Q E hr h => ?_)
  · obtain ⟨v, a, xs, c, ts, rfl, _⟩ := h
    rfl
  · obtain ⟨v, a, xs, c, ts, rfl, hv, ha, hx, ⟨hok, hl3, hle⟩, q⟩ := h
    have hv0 := hv
    obtain ⟨cl, rfl, hcl⟩ := dp_col hv
    have nd := scLotsBy.nd
    have hr1 : Room 1 _ := hr.mono (j := 1) (by decide)
    have hr7 : Room 7 _ := hr.mono (j := 7) (by decide)
    have hu0 := hu2 hr
    have hu : (A.deeper (envOfC "lots_by_answers" (defScope sLotsBy) s.heap.objs.size f cdv)).units + 1 < cLine := by have := hu1 hr; omega
    have inv := lots_inv hle hok
    have hbig : (numberLots c ts).length ≤ 64 := Nat.le_trans inv.big (Nat.pow_le_pow_right (by decide) hl3)
    -- the last if
    have hC : ∃ t, PSs (cxOf CX0 P w K mg base nLotsBy "lots_by_answers" (defScope sLotsBy) f cdv A outer s H E).nox ((defBody sLotsBy).drop 2) t ∧ ∀ (H' : Hp) (an : Option V) (d : Addr), Same H H' → H d = Option.none → CdAt K H' d (cd1 c ts) → (cd1 c ts).length ≤ 70 →
        t { nx := fun _ H' => Q .non H', rt := Q } [some (.ref cl), some (.ref a), an, some (.ref d), Option.none, Option.none] H' := by
      refine ⟨_, pss_cons (ps_if (pt_val (pe_ix ix_tup (pv 0) pe_int (fun _ _ => rfl)))
          (pss_cons (ps_set nd (i := 2) rfl (Or.inl rfl) (pe_f Fa hr7 (pa_cons (pv 1) (pa_cons (pe_glob (v := .str "a") rfl hWd ⟨_, rfl⟩) pa_nil))))
          (pss_cons (ps_set nd (i := 4) rfl (Or.inl rfl) (pe_dget2 hu (pv 3) (pv 2) (pe_tup (pa_cons pe_bl (pa_cons pe_bl (pa_cons (pe_tup pa_nil) pa_nil)))) ⟨rfl, rfl, rfl, rfl⟩))
          (pss_one (ps_dput hu (pv 3) (pv 2) (pe_tup (pa_cons (pe_ix ix_tup (pv 4) pe_int (fun _ _ => rfl)) (pa_cons pe_bl (pa_cons (pe_ix ix_tup (pv 4) pe_int (fun _ _ => rfl)) pa_nil)))) rfl)))) pss_nil)
        (pss_one (ps_ret (pv 3))), ?_⟩
      intro H' an d s1 hd0 hcd hlen
      refine ⟨_, rfl, cl, _, 4, _, rfl, rfl, hcl.ext s1, at4, _, rfl, ?_⟩
      cases hw : c.words with
      | false =>
        refine iteF ⟨_, rfl, q d H' s1 hd0 ?_⟩
        unfold cd2
        rw [hw]
        exact hcd
      | true =>
        refine iteT ⟨_, rfl, a, xs, ts, .txt "a", rfl, ha.ext s1, DpAll.same s1 hx, hok, by omega, True.intro, fun p H2 s2 hp0 hp => ?_⟩
        obtain ⟨kvs, u1, u2⟩ := hcd.same s2
        refine ⟨_, rfl, d, rfl, .inr ⟨kvs, .inl u1⟩, _, rfl, Nat.zero_le _, fun T1 hT1 => ⟨three_sz, fun T2 hT2 => ?_⟩⟩
        have s3 : Same H2 (upd (upd H2 T1 (.tup [])) T2 (.tup [.bl false, .bl false, .ref T1])) := same_new (same_upd hT1) hT2
        refine ⟨_, DGet.t (k := keyA (ansL ts (.txt "a"))) (s3 _ _ u1) (s3 _ _ hp), ?_⟩
        have hold : Dp K (upd (upd H2 T1 (.tup [])) T2 (.tup [.bl false, .bl false, .ref T1])) ((valV kvs (keyA (ansL ts (.txt "a")))).getD (.ref T2)) (encC (getC (cd1 c ts) (ansL ts (.txt "a")))) := by
          unfold getC
          cases hf : findC (cd1 c ts) (ansL ts (.txt "a")) with
          | none =>
            rw [u2.find.2 hf]
            exact dp_cell (SqT.of upd_same) (.tup ((SqT.of upd_same).ext (same_upd hT2)) .nil)
          | some oc =>
            obtain ⟨v, e1, e2⟩ := u2.find.1 oc hf
            rw [e1]
            exact Dp.same s3 e2
        obtain ⟨oa, oL, ozs, eo, f1, f2, f3⟩ := dp_cellv hold
        rw [eo]
        refine ⟨_, rfl, oa, _, 0, _, rfl, rfl, f1, at0, _, rfl, oa, _, 2, _, rfl, rfl, f1, at2, three_sz, fun T3 hT3 => ?_⟩
        have s4 := same_upd (o := .tup [.bl (getC (cd1 c ts) (ansL ts (.txt "a"))).empty, .bl true, .ref oL]) hT3
        obtain ⟨H5, hput, hcd5, hk5⟩ := cd_put (a := ansL ts (.txt "a")) ((CdAt.same (s3.trans s4) ⟨kvs, u1, u2⟩)) (s4 _ _ (s3 _ _ hp)) (dp_cell (SqT.of upd_same) (Dp.same s4 (.tup f2 f3))) (by omega)
        have s5 : Same H H5 := fun b o e => hk5 b o (ne_of_none e hd0) ((((s1.trans s2).trans s3).trans s4) b o e)
        refine ⟨_, rfl, _, rfl, d, H5, rfl, hput, _, rfl, q d H5 s5 hd0 ?_⟩
        unfold cd2
        rw [hw]
        exact hcd5
    obtain ⟨tC', hC1, hC2⟩ := hC
    refine ⟨_, pss_cons (ps_setDcT (i := 3) (own := [("answers", 2), ("some", 5)]) (g := gTup K 2 (gCons (gName 2) (gCons (gName 5) gNil))) (tt := tYes) (tk := tVar 2) (tv := tTup (tCons (tC (.bl false)) (tCons (tC (.bl false)) (tCons (tCB (rTupOf K) (tCons (tPrs K C (tVar 5)) tNil)) tNil)))) hu0 rfl nd rfl rfl (sw_trueD rfl rfl rfl (by decide +kernel))
          (pi_list (pe_f Fl hr (pa_cons (pv 0) (pa_cons (pv 1) pa_nil)))) (blkOk_by (N := nLotsBy) (sc := defScope sLotsBy) (by decide +kernel))
          (fun _ _ _ _ _ => pg_tup rfl (pgs_cons (pg_name (i := 2) nd rfl (Or.inl rfl)) (pgs_cons (pg_name (i := 5) nd rfl (Or.inl rfl)) pgs_nil))) (fun _ _ _ _ _ => pts_nil) (fun _ _ _ _ _ => pv 2)
          (fun _ _ _ _ _ => pe_tup (pa_cons pe_bl (pa_cons pe_bl (pa_cons (pe_callTy call_tupOf (by rfl) B.tup_ bt_tup (pa_cons (pe_prs S hr1 (pv 5)) pa_nil)) pa_nil)))))
      (pss_cons (ps_if (pt_val (pe_ix ix_tup (pv 0) pe_int (fun _ _ => rfl)))
          (pss_cons (ps_set nd (i := 2) rfl (Or.inl rfl) (pe_f Fa hr7 (pa_cons (pv 1) (pa_cons pe_non pa_nil))))
          (pss_one (ps_dput hu (pv 3) (pv 2) (pe_tup (pa_cons pe_bl (pa_cons pe_bl (pa_cons (pe_ix ix_tup (pe_dget2 hu (pv 3) (pv 2) (pe_tup (pa_cons pe_bl (pa_cons pe_bl (pa_cons (pe_tup pa_nil) pa_nil)))) ⟨rfl, rfl, rfl, rfl⟩) pe_int (fun _ _ => rfl)) pa_nil)))) rfl))) pss_nil) hC1), ?_⟩
    refine ⟨_, rfl, _, rfl, _, a, xs, c, ts, rfl, hv0, ha, hx, hok, hl3, hle, fun p ys H1 s1 hp0 hp har => ⟨p, rfl, ⟨ys, SqL.of hp⟩, fun D hD => ?_⟩⟩
    have eyl : ys.length = (numberLots c ts).length := har.1
    have hD0 : H D = Option.none := none_back s1 hD
    refine turns_list (xs := ys) (fun i H' => Same H1 H' ∧ CdAt K H' D (lots0 ((numberLots c ts).take i))) ?_ ?_ ?_ ?_
    · exact ⟨same_upd hD, [], upd_same, True.intro⟩
    · rintro i H' ⟨s2, _⟩
      exact SqL.of (s2 _ _ hp)
    · rintro i z H' hzi ⟨s2, hcd⟩
      obtain ⟨l, hl, hz⟩ := har.get hzi
      obtain ⟨p0, q0, r0, dx, m, ms, rfl, f1, f2, f3, f4, f5, _⟩ := LotA.same s2 hz
      have hil : i < (numberLots c ts).length := (List.getElem?_eq_some_iff.mp hl).1
      refine ⟨p0, _, rfl, f1, rfl, _, _, rfl, _, _, rfl, rfl, rfl, ?_⟩
      refine ⟨_, rfl, _, rfl, r0, l.2, rfl, ⟨dx, m, ms, f3, f4, f5⟩, fun b bs H3 s3 hb0 hb hbd => ⟨b, bs, rfl, .inl ⟨SqL.of hb, fun L hL => ⟨three_sz, fun T hT => ?_⟩⟩⟩⟩
      have s4 : Same H3 (upd (upd H3 L (.tup bs)) T (.tup [.bl false, .bl false, .ref L])) := same_new (same_upd hL) hT
      obtain ⟨kvs, u1, u2⟩ := hcd.same (s3.trans s4)
      have e : (numberLots c ts).take (i + 1) = (numberLots c ts).take i ++ [l] := by
        rw [List.take_add_one, hl]
        rfl
      have hlen : kvs.length ≤ 64 := by
        rw [u2.len]
        have := lots0_len ((numberLots c ts).take i)
        rw [List.length_take] at this
        omega
      refine ⟨kvs, keyA l.1, q0, rfl, (s3.trans s4) _ _ f2, u1, szl (by omega), same_own (s2.trans (s3.trans s4)) hD, _, upd_same, ?_⟩
      rw [e, lots0_snoc]
      refine CdR.mono (fun _ c z => dp_updO u1 (notTup_dT _) (tupD_c c) z) (u2.put ?_)
      exact dp_cell (SqT.of upd_same) (.tup ((SqT.of upd_same).ext (same_upd hT)) (DpAll.same s4 hbd))
    · rintro H' ⟨s2, hcd⟩
      rw [eyl, List.take_length] at hcd
      have hcd : CdAt K H' D (cd0 c ts) := hcd
      have hl0 : (cd0 c ts).length ≤ 64 := Nat.le_trans (lots0_len _) hbig
      have sH := s1.trans s2
      refine ⟨_, rfl, cl, _, 3, _, rfl, rfl, hcl.ext sH, at3, _, rfl, ?_⟩
      cases hw : c.empty with
      | false =>
        refine iteF (hC2 H' _ D sH hD0 ?_ ?_)
        · unfold cd1; rw [hw]; exact hcd
        · unfold cd1; rw [hw]; exact Nat.le_trans hl0 (by decide)
      | true =>
        refine iteT ⟨_, rfl, a, xs, ts, .non, rfl, ha.ext sH, DpAll.same sH hx, hok, by omega, True.intro, fun p2 H2 s3 hp20 hp2 => ?_⟩
        obtain ⟨kvs, u1, u2⟩ := hcd.same s3
        refine ⟨_, rfl, D, rfl, .inr ⟨kvs, .inl u1⟩, _, rfl, Nat.zero_le _, fun T1 hT1 => ⟨three_sz, fun T2 hT2 => ?_⟩⟩
        have s4 : Same H2 (upd (upd H2 T1 (.tup [])) T2 (.tup [.bl false, .bl false, .ref T1])) := same_new (same_upd hT1) hT2
        refine ⟨_, DGet.t (k := keyA (ansL ts .non)) (s4 _ _ u1) (s4 _ _ hp2), ?_⟩
        have hold : Dp K (upd (upd H2 T1 (.tup [])) T2 (.tup [.bl false, .bl false, .ref T1])) ((valV kvs (keyA (ansL ts .non))).getD (.ref T2)) (encC (getC (cd0 c ts) (ansL ts .non))) := by
          unfold getC
          cases hf : findC (cd0 c ts) (ansL ts .non) with
          | none =>
            rw [u2.find.2 hf]
            exact dp_cell (SqT.of upd_same) (.tup ((SqT.of upd_same).ext (same_upd hT2)) .nil)
          | some oc =>
            obtain ⟨v, e1, e2⟩ := u2.find.1 oc hf
            rw [e1]
            exact Dp.same s4 e2
        obtain ⟨oa, oL, ozs, eo, f1, f2, f3⟩ := dp_cellv hold
        rw [eo]
        refine ⟨oa, _, 2, _, rfl, rfl, f1, at2, three_sz, fun T3 hT3 => ?_⟩
        have s5 := same_upd (o := .tup [.bl true, .bl false, .ref oL]) hT3
        obtain ⟨H5, hput, hcd5, hk5⟩ := cd_put (a := ansL ts .non) ((CdAt.same (s4.trans s5) ⟨kvs, u1, u2⟩)) (s5 _ _ (s4 _ _ hp2)) (dp_cell (SqT.of upd_same) (Dp.same s5 (.tup f2 f3))) (by omega)
        have s6 : Same H H5 := fun b o e => hk5 b o (ne_of_none e hD0) ((((sH.trans s3).trans s4).trans s5) b o e)
        refine ⟨_, rfl, _, rfl, D, H5, rfl, hput, hC2 H5 _ D s6 hD0 ?_ ?_⟩
        · unfold cd1; rw [hw]; exact hcd5
        · unfold cd1
          rw [hw, if_pos rfl]
          have := putC_len (cd0 c ts) (ansL ts .non) ⟨true, false, (getC (cd0 c ts) (ansL ts .non)).spans⟩
          omega
end
end RA
end

section
set_option Elab.async false
set_option linter.all false
set_option autoImplicit false
set_option maxRecDepth 100000
set_option maxHeartbeats 4000000
set_option exponentiation.threshold 10000
namespace RA
open PySem PySem.Spec PyProof.Rows L2
open PySem.W (dataLe)
open PySem.W (sortLe)
section
variable {P : Program} {w : World} {K : PySem.W.Frag} {mg : Str → Option Value} {base : Heap} {C CE : Addr}
/-! ## cells_of, cell_of -/
def rankLe (a b : Cell) : Bool := dataLe false (fun c : Cell => kfRank (encC c)) a b
def cellsOf (c : Col) (ts : List Tst) : List Cell := ((cd2 c ts).map (·.2)).mergeSort rankLe
theorem rank_alike (cs : List Cell) (h : ∀ c ∈ cs, lowOk c) : PySem.W.AllAlike ((cs.map encC).map kfRank) := by
  intro d hd e he
  simp only [List.map_map, List.mem_map, Function.comp] at hd he
  obtain ⟨p, hp, rfl⟩ := hd
  obtain ⟨q, hq, rfl⟩ := he
  rw [kfRank_enc (h p hp), kfRank_enc (h q hq)]
  simp [PySem.W.alike, PySem.W.alikeAll]
theorem rank_sortable (cs : List Cell) (h : ∀ c ∈ cs, lowOk c) : PySem.W.Sortable ((cs.map encC).map kfRank) := by
  refine .inl fun d hd => ?_
  simp only [List.map_map, List.mem_map, Function.comp] at hd
  obtain ⟨p, hp, rfl⟩ := hd
  rw [kfRank_enc (h p hp)]
  exact ⟨_, _, rfl⟩
theorem rank_depth (cs : List Cell) (h : ∀ c ∈ cs, lowOk c) : ∀ d ∈ cs.map encC, (kfRank d).depth ≤ 50 := by
  intro d hd
  obtain ⟨p, hp, rfl⟩ := List.mem_map.mp hd
  rw [kfRank_enc (h p hp)]
  simp [PyData.depth, PyData.depthAll]
theorem rank_dom (cs : List Cell) (h : ∀ c ∈ cs, lowOk c) : ∀ d ∈ cs.map encC, domC d := by
  intro d hd
  obtain ⟨p, hp, rfl⟩ := List.mem_map.mp hd
  exact ⟨p, rfl, h p hp⟩
def spCells (K : PySem.W.Frag) : Sp := fun vs H Q _ => ∃ v a xs c ts, vs = [v, .ref a] ∧ Dp K H v (encCol c) ∧ SqL K H a xs ∧ DpAll K H xs (ts.map encT) ∧ okTs c ts ∧ (∀ e ∈ cd2 c ts, lowOk e.2) ∧ RetL K H Q ((cellsOf c ts).map encC)
abbrev sCells : Stmt := top 47
theorem scCells : FnScope ["column", "tests"] ["column", "tests"] (defScope sCells) := ⟨rfl, rfl, rfl, by decide +kernel, rfl, by decide +kernel, by decide +kernel⟩
theorem ok_cells {f fr : Addr} {fd : FuncData} (F : Fun K "cells_of" "cells_of" sCells f fd) (B : Bi mg) (hrk : mg "cell_rank" = some (.ref fr)) (hk : KeyFn P w K fr domC kfRank) (Fl : Fd P w K mg base "lots_by_answers" 13 ["column", "tests"] (spLotsBy K)) : FnOk P w K mg base CX0 14 f fd ["column", "tests"] (spCells K) := by
  refine F.ok scCells (fun vs H Q E h => ?_) (fun cdv A outer s H vs Q E hr h => ?_)
  · obtain ⟨v, a, xs, c, ts, rfl, _⟩ := h
    rfl
  · obtain ⟨v, a, xs, c, ts, rfl, hv, ha, hx, hok, hlow, q⟩ := h
    have hr3 : Room 3 _ := hr.mono (j := 3) (by decide)
    refine ⟨_, pss_one (ps_ret (pe_callBK (call_sortedKey hk hr3) rfl B.srt_ bt_srt (pa_cons (pe_values (pe_f Fl hr (pa_cons (pv 0) (pa_cons (pv 1) pa_nil)))) pa_nil) (pk_cons (pe_fname hrk) pk_nil))), ?_⟩
    refine ⟨_, rfl, _, rfl, v, a, xs, c, ts, rfl, hv, ha, hx, hok, fun d H1 s1 hd0 hcd => ?_⟩
    obtain ⟨kvs, u1, u2⟩ := hcd
    refine ⟨d, kvs, rfl, u1, fun r hr0 => ?_⟩
    have s2 : Same H1 (upd H1 r (vwO r d)) := same_upd hr0
    have hcs : ∀ cc ∈ (cd2 c ts).map (·.2), lowOk cc := by
      intro cc hcc
      obtain ⟨e, he, rfl⟩ := List.mem_map.mp hcc
      exact hlow e he
    have hdp : DpAll K (upd H1 r (vwO r d)) (kvs.map (·.2)) (((cd2 c ts).map (·.2)).map encC) := DpAll.same s2 u2.vals
    refine ⟨.ref r, kvs.map (fun e : List Key × V => e.2), ((cd2 c ts).map (fun e : List Ans × Cell => e.2)).map encC, rfl, rfl, .inr (.inr ⟨r, d, kvs, rfl, upd_same, s2 _ _ u1, rfl⟩), hdp, rank_dom _ hcs, rank_alike _ hcs, rank_sortable _ hcs, rank_depth _ hcs, fun p hp => ?_⟩
    refine q p _ _ (s1.trans (s2.trans (same_upd hp))) (none_back (s1.trans s2) hp) upd_same ?_
    refine DpAll.same (same_upd hp) (sortedBy_of hdp fun x y a b e1 e2 => ?_)
    show dataLe false (fun q : V × PyData => kfRank q.2) x y = dataLe false (fun c : Cell => kfRank (encC c)) a b
    unfold dataLe sortLe
    simp only [e1, e2]
def spCellOf (K : PySem.W.Frag) : Sp := fun vs H Q _ => ∃ v a xs c ts z cc, vs = [v, .ref a, v3 z] ∧ Dp K H v (encCol c) ∧ SqL K H a xs ∧ DpAll K H xs (ts.map encT) ∧ okTs c ts ∧ bd3 z ∧ findC (cd2 c ts) (ansL ts z) = some cc ∧ RetD K H Q (encC cc)
abbrev sCellOf : Stmt := top 48
theorem scCellOf : FnScope ["column", "tests", "value"] ["column", "tests", "value"] (defScope sCellOf) := ⟨rfl, rfl, rfl, by decide +kernel, rfl, by decide +kernel, by decide +kernel⟩
theorem ok_cellOf {f : Addr} {fd : FuncData} (F : Fun K "cell_of" "cell_of" sCellOf f fd) (Fl : Fd P w K mg base "lots_by_answers" 13 ["column", "tests"] (spLotsBy K)) (Fa : Fd P w K mg base "answers_at" 7 ["tests", "value"] (spAnsAt K)) : FnOk P w K mg base CX0 14 f fd ["column", "tests", "value"] (spCellOf K) := by
  refine F.ok scCellOf (fun vs H Q E h => ?_) (fun cdv A outer s H vs Q E hr h => ?_)
  · obtain ⟨v, a, xs, c, ts, z, cc, rfl, _⟩ := h
    rfl
  · obtain ⟨v, a, xs, c, ts, z, cc, rfl, hv, ha, hx, hok, hz, hf, q⟩ := h
    have hr7 : Room 7 _ := hr.mono (j := 7) (by decide)
    have hu : (A.deeper (envOfC "cell_of" (defScope sCellOf) s.heap.objs.size f cdv)).units + 1 < cLine := by have := hu1 hr; omega
    refine ⟨_, pss_one (ps_ret (pe_dget hu (pe_f Fl hr (pa_cons (pv 0) (pa_cons (pv 1) pa_nil))) (pe_f Fa hr7 (pa_cons (pv 1) (pa_cons (pv 2) pa_nil))) (fun _ _ => rfl))), ?_⟩
    refine ⟨_, rfl, _, rfl, v, a, xs, c, ts, rfl, hv, ha, hx, hok, fun d H1 s1 hd0 hcd => ?_⟩
    refine ⟨_, rfl, _, rfl, a, xs, ts, z, rfl, ha.ext s1, DpAll.same s1 hx, hok.1, by have := hok.2.1; omega, hz, fun p H2 s2 hp0 hp => ?_⟩
    obtain ⟨kvs, u1, u2⟩ := hcd.same s2
    obtain ⟨r, e1, e2⟩ := u2.find.1 cc hf
    exact ⟨d, r, rfl, by rw [← e1]; exact DGet.t (k := keyA (ansL ts z)) u1 hp, q r H2 (s1.trans s2) e2⟩
/-! ## is_in, value_for, many_in -/
def FinS (ps : List Pr) : Prop := ∀ p ∈ ps, ∃ a b, p = (some a, some b)
def inF (x : Int) (p : Pr) : Bool := decide (p.1.getD 0 ≤ x) && decide (x ≤ p.2.getD 0)
def spIsIn (K : PySem.W.Frag) : Sp := fun vs H Q _ => ∃ v c x, vs = [v, .int x] ∧ Dp K H v (encC c) ∧ FinS c.spans ∧ c.spans.length ≤ 1000000 ∧ ∀ H', Same H H' → Q (.bl (c.spans.any (inF x))) H'
abbrev sIsIn : Stmt := top 49
abbrev nIsIn : List Str := ["cell", "thing", "low", "high"]
theorem scIsIn : FnScope nIsIn ["cell", "thing"] (defScope sIsIn) := ⟨rfl, rfl, rfl, by decide +kernel, rfl, by decide +kernel, by decide +kernel⟩
def rLe : R2 := rI0 fun i j => .bl (decide (i ≤ j))
theorem ok_isIn {f : Addr} {fd : FuncData} (F : Fun K "is_in" "is_in" sIsIn f fd) (B : Bi mg) (Fi : Fd P w K mg base "is_integer" 1 ["thing"] spIsInt) : FnOk P w K mg base CX0 2 f fd ["cell", "thing"] (spIsIn K) := by
  refine F.ok scIsIn (fun vs H Q E h => ?_) (fun cdv A outer s H vs Q E hr h => ?_)
  · obtain ⟨v, c, x, rfl, _⟩ := h
    rfl
  · obtain ⟨v, c, x, rfl, hv, hfin, hlen, q⟩ := h
    obtain ⟨a, L, xs, rfl, ha, hL, hx⟩ := dp_cellv hv
    have nd := scIsIn.nd
    refine ⟨_, pss_cons (ps_if (pt_cmpR op_isN (pv 1) pe_non (nomark _)) pss_never pss_nil)
      (pss_cons (ps_if (pt_val (pe_f Fi hr (pa_cons (pv 1) pa_nil))) (pss_one (ps_ret (pe_callB (cr_any rfl) (by rfl) B.any_ bt_any (pa_cons (pe_lc (own := [("low", 2), ("high", 3)]) (g := gTup K 2 (gCons (gName 2) (gCons (gName 3) gNil))) (tt := tYes) (te := tChain rLe rLe (tVar 2) (tVar 1) (tVar 3)) rfl nd (pi_tup (pe_ix ix_tup (pv 0) pe_int (fun _ _ => rfl))) (blkOk_by (N := nIsIn) (sc := defScope sIsIn) (by decide +kernel))
          (fun _ _ _ _ _ => pg_tup rfl (pgs_cons (pg_name (i := 2) nd rfl (Or.inl rfl)) (pgs_cons (pg_name (i := 3) nd rfl (Or.inl rfl)) pgs_nil))) (fun _ _ _ _ _ => pts_nil) (fun _ _ _ _ _ => pe_chain op_le op_le (pv 2) (pv 1) (pv 3))) pa_nil)))) pss_nil)
      pss_never), ?_⟩
    refine ⟨_, rfl, rfl, _, rfl, iteF ⟨_, rfl, _, rfl, True.intro, true, rfl, iteT ⟨_, rfl, a, _, 2, _, rfl, rfl, ha, at2, L, rfl, ⟨_, hL⟩, fun D hD => lcD_tup (fun p : Pr => some (inF x p)) encP PyData.bool c.spans tupD_pr tupD_bool hD hL hx hlen ?_ ?_⟩⟩⟩
    · intro y p H1 Y N hp hS hy hY hN
      obtain ⟨b, rfl, hb⟩ := dp_prv hy
      obtain ⟨lo, hi, rfl⟩ := hfin p hp
      refine ⟨b, _, rfl, hb, rfl, _, _, rfl, _, _, rfl, rfl, rfl, ?_⟩
      refine ⟨_, rfl, _, rfl, _, _, rfl, rfl, _, rfl, ?_⟩
      by_cases h1 : lo ≤ x
      · rw [decide_eq_true h1]
        exact iteT ⟨_, rfl, _, _, rfl, rfl, hY _ (decide (x ≤ hi)) _ (by show some (decide (lo ≤ x) && decide (x ≤ hi)) = _; rw [decide_eq_true h1, Bool.true_and]) (Same.refl _) (.bl _)⟩
      · rw [decide_eq_false h1]
        exact iteF (hY _ false _ (by show some (decide (lo ≤ x) && decide (x ≤ hi)) = _; rw [decide_eq_false h1, Bool.false_and]) (Same.refl _) (.bl _))
    · intro H2 bs s2 hD2 hd2
      have eb := dps_bls hd2
      subst eb
      refine ⟨D, _, rfl, SqL.of hD2, ?_⟩
      have := q H2 s2
      rw [show ((c.spans.filterMap fun p : Pr => some (inF x p)).any id) = c.spans.any (inF x) by simp [List.any_map]] 
      exact this
def valueFor (c : Cell) : Val3 := if c.empty = true then .non else match c.spans with
  | (some a, _) :: _ => .num a
  | _ => .txt "a"
def spValue (K : PySem.W.Frag) : Sp := fun vs H Q _ => ∃ v c, vs = [v] ∧ Dp K H v (encC c) ∧ FinS c.spans ∧ ∀ H', Same H H' → Q (v3 (valueFor c)) H'
abbrev sValue : Stmt := top 50
theorem scValue : FnScope ["cell"] ["cell"] (defScope sValue) := ⟨rfl, rfl, rfl, by decide +kernel, rfl, by decide +kernel, by decide +kernel⟩
theorem ok_value {f : Addr} {fd : FuncData} {tW : Tok} (F : Fun K "value_for" "value_for" sValue f fd) (hWd : mg "WORD" = some (.str "a" tW)) : FnOk P w K mg base CX0 1 f fd ["cell"] (spValue K) := by
  refine F.ok scValue (fun vs H Q E h => ?_) (fun cdv A outer s H vs Q E hr h => ?_)
  · obtain ⟨v, c, rfl, _⟩ := h
    rfl
  · obtain ⟨v, c, rfl, hv, hfin, q⟩ := h
    obtain ⟨a, L, xs, rfl, ha, hL, hx⟩ := dp_cellv hv
    have hu := hu1 hr
    refine ⟨_, pss_cons (ps_if (pt_val (pe_ix ix_tup (pv 0) pe_int (fun _ _ => rfl))) (pss_one (ps_ret pe_non)) pss_nil)
      (pss_one (ps_ret (pe_ifExp (pt_cmpR (op_neD hu) (pe_ix ix_tup (pv 0) pe_int (fun _ _ => rfl)) (pe_tup pa_nil) (nomark _)) (pe_ix ix_tup (pe_ix ix_tup (pe_ix ix_tup (pv 0) pe_int (fun _ _ => rfl)) pe_int (fun _ _ => rfl)) pe_int (fun _ _ => rfl)) (pe_glob (v := .str "a") rfl hWd ⟨_, rfl⟩)))), ?_⟩
    refine ⟨_, rfl, a, _, 0, _, rfl, rfl, ha, at0, _, rfl, ?_⟩
    unfold valueFor at q
    cases hce : c.empty with
    | true =>
      rw [hce, if_pos rfl] at q
      exact iteT (q _ (Same.refl _))
    | false =>
      rw [hce, if_neg (by decide)] at q
      refine iteF ⟨_, rfl, a, _, 2, _, rfl, rfl, ha, at2, Nat.zero_le _, fun T hT => ?_⟩
      have s1 : Same H (upd H T (.tup [])) := same_upd hT
      refine ⟨.tuple (encPs c.spans), .tuple [], .tup (hL.ext s1) (DpAll.same s1 hx), .tup (SqT.of upd_same) .nil, (shp_tup (shp_prs (n := 0) _)).shaped, (shp_tup (n := 0) (by intro d hd; cases hd)).shaped, _, rfl, ?_⟩
      rw [eqv_tnil]
      have q1 := q _ s1
      rcases hsp : c.spans with _ | ⟨p, r⟩
      · rw [hsp] at q1
        exact iteF q1
      · obtain ⟨lo, hi, rfl⟩ := hfin p (by rw [hsp]; simp)
        rw [hsp] at q1 hx
        obtain ⟨y, ys, rfl, hy, _⟩ := dps_cons hx
        obtain ⟨b, rfl, hb⟩ := dp_prv hy
        exact iteT ⟨_, rfl, a, _, 2, _, rfl, rfl, ha.ext s1, at2, L, _, 0, _, rfl, rfl, hL.ext s1, at0, b, _, 0, _, rfl, rfl, hb.ext s1, at0, q1⟩
def manyIn (c : Cell) : Int := (c.spans.map fun p => p.2.getD 0 - p.1.getD 0 + 1).sum
def spMany (K : PySem.W.Frag) : Sp := fun vs H Q _ => ∃ v c, vs = [v] ∧ Dp K H v (encC c) ∧ FinS c.spans ∧ c.spans.length ≤ 1000000 ∧ ∀ H', Same H H' → Q (.int (manyIn c)) H'
abbrev sMany : Stmt := top 51
abbrev nMany : List Str := ["cell", "low", "high"]
theorem scMany : FnScope nMany ["cell"] (defScope sMany) := ⟨rfl, rfl, rfl, by decide +kernel, rfl, by decide +kernel, by decide +kernel⟩
theorem ok_many {f : Addr} {fd : FuncData} (F : Fun K "many_in" "many_in" sMany f fd) (B : Bi mg) : FnOk P w K mg base CX0 1 f fd ["cell"] (spMany K) := by
  refine F.ok scMany (fun vs H Q E h => ?_) (fun cdv A outer s H vs Q E hr h => ?_)
  · obtain ⟨v, c, rfl, _⟩ := h
    rfl
  · obtain ⟨v, c, rfl, hv, hfin, hlen, q⟩ := h
    obtain ⟨a, L, xs, rfl, ha, hL, hx⟩ := dp_cellv hv
    have nd := scMany.nd
    refine ⟨_, pss_one (ps_ret (pe_callB (cr_sum rfl) (by rfl) B.sum_ bt_sum (pa_cons (pe_lc (own := [("low", 1), ("high", 2)]) (g := gTup K 2 (gCons (gName 1) (gCons (gName 2) gNil))) (tt := tYes) (te := tOp (rI0 fun i j => .int (i + j)) (tOp (rI0 fun i j => .int (i - j)) (tVar 2) (tVar 1)) (tC (.int 1))) rfl nd (pi_tup (pe_ix ix_tup (pv 0) pe_int (fun _ _ => rfl))) (blkOk_by (N := nMany) (sc := defScope sMany) (by decide +kernel))
          (fun _ _ _ _ _ => pg_tup rfl (pgs_cons (pg_name (i := 1) nd rfl (Or.inl rfl)) (pgs_cons (pg_name (i := 2) nd rfl (Or.inl rfl)) pgs_nil))) (fun _ _ _ _ _ => pts_nil) (fun _ _ _ _ _ => pe_op op_add (pe_op op_sub (pv 2) (pv 1)) pe_int)) pa_nil))), ?_⟩
    refine ⟨_, rfl, a, _, 2, _, rfl, rfl, ha, at2, L, rfl, ⟨_, hL⟩, fun D hD => lcD_tup (fun p : Pr => some (p.2.getD 0 - p.1.getD 0 + 1)) encP PyData.int c.spans tupD_pr tupD_int hD hL hx hlen ?_ ?_⟩
    · intro y p H1 Y N hp hS hy hY hN
      obtain ⟨b, rfl, hb⟩ := dp_prv hy
      obtain ⟨lo, hi, rfl⟩ := hfin p hp
      exact ⟨b, _, rfl, hb, rfl, _, _, rfl, _, _, rfl, rfl, rfl, _, rfl, _, rfl, _, _, rfl, rfl, _, _, rfl, rfl, hY _ _ _ rfl (Same.refl _) (.int _)⟩
    · intro H2 bs s2 hD2 hd2
      have eb := dps_ints hd2
      subst eb
      refine ⟨D, _, rfl, SqL.of hD2, ?_⟩
      rw [show (c.spans.filterMap fun p : Pr => some (p.2.getD 0 - p.1.getD 0 + 1)) = c.spans.map fun p => p.2.getD 0 - p.1.getD 0 + 1 by simp]
      exact q H2 s2
/-! ## met of two cells -/
def metC (a b : Cell) : Cell := ⟨a.empty && b.empty, a.words && b.words, spI a.spans b.spans⟩
def spMetC (K : PySem.W.Frag) : Sp := fun vs H Q _ => ∃ x y a b, vs = [x, y] ∧ Dp K H x (encC a) ∧ Dp K H y (encC b) ∧ Nf a.spans ∧ Nf b.spans ∧ a.spans.length ≤ 1000 ∧ b.spans.length ≤ 1000 ∧ RetD K H Q (encC (metC a b))
abbrev sMetC : Stmt := top 52
theorem scMetC : FnScope ["one", "other", "spans"] ["one", "other"] (defScope sMetC) := ⟨rfl, rfl, rfl, by decide +kernel, rfl, by decide +kernel, by decide +kernel⟩
theorem ok_metC {f : Addr} {fd : FuncData} (F : Fun K "met" "met" sMetC f fd) (B : Bi mg) (S : SpMs P w K mg base C) : FnOk P w K mg base CX0 8 f fd ["one", "other"] (spMetC K) := by
  refine F.ok scMetC (fun vs H Q E h => ?_) (fun cdv A outer s H vs Q E hr h => ?_)
  · obtain ⟨x, y, a, b, rfl, _⟩ := h
    rfl
  · obtain ⟨x, y, a, b, rfl, hx, hy, na, nb, la, lb, q⟩ := h
    obtain ⟨ax, L, xs, rfl, ha, hL, hxs⟩ := dp_cellv hx
    obtain ⟨bx, M, ys, rfl, hb, hM, hys⟩ := dp_cellv hy
    have nd := scMetC.nd
    have hr6 : Room 6 _ := hr.mono (j := 6) (by decide)
    have hr1 : Room 1 _ := hr.mono (j := 1) (by decide)
    refine ⟨_, pss_cons (ps_set nd (i := 2) rfl (Or.inl rfl) (pe_op (op_spAnd S hr) (pe_spans S.mkc hr6 (pe_ix ix_tup (pv 0) pe_int (fun _ _ => rfl))) (pe_spans S.mkc hr6 (pe_ix ix_tup (pv 1) pe_int (fun _ _ => rfl)))))
      (pss_one (ps_ret (pe_tup (pa_cons (pe_and (pe_ix ix_tup (pv 0) pe_int (fun _ _ => rfl)) (pe_one (pe_ix ix_tup (pv 1) pe_int (fun _ _ => rfl)))) (pa_cons (pe_and (pe_ix ix_tup (pv 0) pe_int (fun _ _ => rfl)) (pe_one (pe_ix ix_tup (pv 1) pe_int (fun _ _ => rfl))))
        (pa_cons (pe_callTy call_tupOf (by rfl) B.tup_ bt_tup (pa_cons (pe_prs S hr1 (pv 2)) pa_nil)) pa_nil)))))), ?_⟩
    refine ⟨_, rfl, ax, _, 2, _, rfl, rfl, ha, at2, L, xs, a.spans, rfl, .inr hL, hxs, na.1, by omega, fun c1 H1 s1 g1 => ?_⟩
    rw [merged_id na] at g1
    refine ⟨_, rfl, bx, _, 2, _, rfl, rfl, hb.ext s1, at2, M, ys, b.spans, rfl, .inr (hM.ext s1), DpAll.same s1 hys, nb.1, by omega, fun c2 H2 s2 g2 => ?_⟩
    rw [merged_id nb] at g2
    refine ⟨c1, c2, a.spans, b.spans, rfl, rfl, g1.same s2, g2, na.1, nb.1, la, lb, fun c3 H3 s3 g3 => ?_⟩
    have sH := (s1.trans s2).trans s3
    have fin : ∀ (e1 e2 : Bool), e1 = (a.empty && b.empty) → e2 = (a.words && b.words) → tCB (rTupOf K) (tCons (tPrs K C (tVar 2)) tNil) [some (.ref ax), some (.ref bx), some (.ref c3)] H3 fun v H' => ([V.bl e1, .bl e2, v] : List V).length ≤ sizeLine ∧ ∀ p, H' p = Option.none → Q (.ref p) (upd H' p (.tup [.bl e1, .bl e2, v])) := by
      rintro e1 e2 rfl rfl
      refine ⟨_, rfl, c3, spI a.spans b.spans, rfl, g3.at, fun p zs H4 s4 hp0 hp hz => ⟨p, zs, rfl, .inl ⟨SqL.of hp, fun l hl => ⟨three_sz, fun t ht => ?_⟩⟩⟩⟩
      exact q _ _ (((sH.trans s4).trans (same_upd hl)).trans (same_upd ht)) (dp_cell (SqT.of upd_same) (.tup ((SqT.of upd_same).ext (same_upd ht)) (DpAll.same ((same_upd hl).trans (same_upd ht)) hz)))
    refine ⟨_, rfl, ax, _, 0, _, rfl, rfl, ha.ext sH, at0, _, rfl, ?_⟩
    have tail : ∀ (e1 : Bool), e1 = (a.empty && b.empty) → tAndV (tOp (rIxT K) (tVar 0) (tC (.int 1))) (tOp (rIxT K) (tVar 1) (tC (.int 1))) [some (.ref ax), some (.ref bx), some (.ref c3)] H3 fun v2 H' => tCB (rTupOf K) (tCons (tPrs K C (tVar 2)) tNil) [some (.ref ax), some (.ref bx), some (.ref c3)] H' fun v H' => ([V.bl e1, v2, v] : List V).length ≤ sizeLine ∧ ∀ p, H' p = Option.none → Q (.ref p) (upd H' p (.tup [.bl e1, v2, v])) := by
      intro e1 he1
      refine ⟨_, rfl, ax, _, 1, _, rfl, rfl, ha.ext sH, at1, _, rfl, ?_⟩
      cases hw : a.words with
      | true => exact iteT ⟨_, rfl, bx, _, 1, _, rfl, rfl, hb.ext sH, at1, fin e1 b.words he1 (by rw [hw]; rfl)⟩
      | false => exact iteF (fin e1 false he1 (by rw [hw]; rfl))
    cases he : a.empty with
    | true => exact iteT ⟨_, rfl, bx, _, 0, _, rfl, rfl, hb.ext sH, at0, tail b.empty (by rw [he]; rfl)⟩
    | false => exact iteF (tail false (by rw [he]; rfl))
end
end RA
end

section
set_option Elab.async false
set_option linter.all false
set_option autoImplicit false
set_option maxRecDepth 100000
set_option maxHeartbeats 4000000
set_option exponentiation.threshold 10000
namespace RA
open PySem PySem.Spec PyProof.Rows L2
/-! ## the bag -/
/-- all but what stands at b stays -/
def SameB (b : Addr) (H H' : Hp) : Prop := ∀ a o, a ≠ b → H a = some o → H' a = some o
theorem SameB.refl (b : Addr) (H : Hp) : SameB b H H := fun _ _ _ e => e
theorem SameB.trans {b : Addr} {H1 H2 H3 : Hp} (h : SameB b H1 H2) (g : SameB b H2 H3) : SameB b H1 H3 := fun a o n e => g a o n (h a o n e)
theorem Same.b {b : Addr} {H H' : Hp} (h : Same H H') : SameB b H H' := fun a o _ e => h a o e
def Bag (I : Addr) (H : Hp) (b : Addr) : Prop := ∃ (z m i : Int) (ns : List Int), H b = some (.lst [.int z, .int m, .int i, .ref I]) ∧ H I = some (.lst (ns.map V.int)) ∧ I ≠ b ∧ 0 ≤ z ∧ 0 ≤ m ∧ m < 2147483647 ∧ 0 ≤ i ∧ ∀ n ∈ ns, (0 : Int) ≤ n
theorem Bag.same {I : Addr} {H H' : Hp} {b : Addr} (s : Same H H') (h : Bag I H b) : Bag I H' b := by
  obtain ⟨z, m, i, ns, h1, h2, h3⟩ := h
  exact ⟨z, m, i, ns, s _ _ h1, s _ _ h2, h3⟩
theorem Bag.lst {I : Addr} {H : Hp} {b : Addr} (h : Bag I H b) : ∃ xs, H b = some (.lst xs) := by
  obtain ⟨z, m, i, ns, h1, _⟩ := h
  exact ⟨_, h1⟩
section
variable {P : Program} {w : World} {K : PySem.W.Frag} {mg : Str → Option Value} {base : Heap}
/-- what is no list stays where the bag alone changes -/
theorem sqt_b {H H' : Hp} {b a : Addr} {xs : List V} (hb : ∃ ys, H b = some (.lst ys)) (s : SameB b H H') (h : SqT K H a xs) : SqT K H' a xs := by
  obtain ⟨ys, hb⟩ := hb
  rcases h with (h | ⟨q, h⟩) | h
  · exact .inl (.inl (s _ _ (by rintro rfl; rw [hb] at h; cases h) h))
  · exact .inl (.inr ⟨q, s _ _ (by rintro rfl; rw [hb] at h; cases h) h⟩)
  · exact .inr h
theorem dps_b {H H' : Hp} {b : Addr} {ds : List PyData} {vs : List V} (hb : ∃ ys, H b = some (.lst ys)) (s : SameB b H H') (ht : tupDs ds = true) (h : DpAll K H vs ds) : DpAll K H' vs ds := DpAll.keepT (fun _ _ z => sqt_b hb s z) _ _ ht h
theorem dp_b {H H' : Hp} {b : Addr} {d : PyData} {v : V} (hb : ∃ ys, H b = some (.lst ys)) (s : SameB b H H') (ht : tupD d = true) (h : Dp K H v d) : Dp K H' v d := Dp.keepT (fun _ _ z => sqt_b hb s z) _ _ ht h
/-! ## _law_bag -/
def spBag (K : PySem.W.Frag) : Sp := fun vs H Q _ => ∃ a ns, vs = [.ref a] ∧ SqL K H a ((ns : List Int).map V.int) ∧ ∀ b I H', Same H H' → H b = Option.none → Bag I H' b → Q (.ref b) H'
abbrev sBag : Stmt := top 55
abbrev nBag : List Str := ["_law_script", "_law_cell"]
theorem scBag : FnScope nBag ["_law_script"] (defScope sBag) := ⟨rfl, rfl, rfl, by decide +kernel, rfl, by decide +kernel, by decide +kernel⟩
theorem cut_ints (ns : List Int) (lo hi : Option Int) : ∃ ms : List Int, cutV (ns.map V.int) lo hi = ms.map V.int ∧ ms.length ≤ ns.length := by
  refine ⟨(ns.drop (HT.sIx ns.length 0 lo)).take (HT.sIx ns.length ns.length hi - HT.sIx ns.length 0 lo), ?_, ?_⟩
  · unfold cutV
    rw [List.length_map, List.map_take, List.map_drop]
  · rw [List.length_take, List.length_drop]
    omega
theorem cut63 (xs : List V) : (cutV xs Option.none (some 63)).length ≤ 63 := by
  unfold cutV
  rw [show HT.sIx xs.length xs.length (some 63) = min 63 xs.length from HT.sIx_nat _ _ 63, HT.sIx_none, List.length_take]
  omega
theorem dps_of_ints {H : Hp} : ∀ ns : List Int, DpAll K H (ns.map V.int) (ns.map .int)
  | [] => .nil
  | n :: ns => .cons (.int n) (dps_of_ints ns)
theorem ok_bag {f : Addr} {fd : FuncData} (F : Fun K "_law_bag" "_law_bag" sBag f fd) (B : Bi mg) : FnOk P w K mg base CX0 1 f fd ["_law_script"] (spBag K) := by
  refine F.ok scBag (fun vs H Q E h => ?_) (fun cdv A outer s H vs Q E hr h => ?_)
  · obtain ⟨a, ns, rfl, _⟩ := h
    rfl
  · obtain ⟨a, ns, rfl, ha, q⟩ := h
    have nd := scBag.nd
    refine ⟨_, pss_one (ps_ret (pe_lst (pa_cons pe_int (pa_cons pe_int (pa_cons pe_int (pa_cons (pe_lc (own := [("_law_cell", 1)]) (g := gName 1) (tt := tYes) (te := tCB (fun xs H Q => ∃ i, xs = [.int i] ∧ Q (.int (if i < 0 then -i else i)) H) (tCons (tVar 1) tNil)) rfl nd (pi_list (pe_slice sl_list (pv 0) po_none (po_some pe_int))) (blkOk_by (N := nBag) (sc := defScope sBag) (by decide +kernel))
      (fun _ _ _ _ _ => pg_name (i := 1) nd rfl (Or.inl rfl)) (fun _ _ _ _ _ => pts_nil) (fun _ _ _ _ _ => pe_callB call_abs (by rfl) B.abs_ bt_abs (pa_cons (pv 1) pa_nil))) pa_nil)))))), ?_⟩
    obtain ⟨ms, hms, hml⟩ := cut_ints ns Option.none (some 63)
    have h63 := cut63 (ns.map V.int)
    rw [hms, List.length_map] at h63
    refine ⟨_, rfl, _, rfl, a, _, rfl, ha, fun p hp => ⟨p, rfl, ⟨_, SqL.of upd_same⟩, fun D hD => ?_⟩⟩
    rw [hms] at hD ⊢
    refine lcD_list (fun i : Int => some (if i < 0 then -i else i)) PyData.int PyData.int ms tupD_int tupD_int hD (SqL.of upd_same) (dps_of_ints ms) (by omega) ?_ ?_
    · intro x i H1 Y N hp hS hx hY hN
      cases dp_int hx
      refine ⟨rfl, ?_⟩
      show if true = true then _ else N H1
      exact iteT ⟨_, rfl, i, rfl, hY _ _ _ rfl (Same.refl _) (.int _)⟩
    · intro H2 acc s2 hD2 hd2
      have ea := dps_ints hd2
      refine ⟨four_sz, fun b hb => q b D _ (((same_upd hp).trans s2).trans (same_upd hb)) (none_back ((same_upd hp).trans s2) hb) ⟨0, 1234567891, 0, _, upd_same, by rw [upd_ne (ne_of_none hD2 hb), hD2, ea], ne_of_none hD2 hb, by decide, by decide, by decide, by decide, ?_⟩⟩
      intro n hn
      obtain ⟨i, _, hi⟩ := List.mem_filterMap.mp hn
      cases hi
      split <;> omega
/-! ## _law_take -/
theorem get_listN {X : Cx} : PGet X (fun x y H Q => ∃ (p : Addr) (xs : List V) (i : Nat) (v : V), x = .ref p ∧ y = .int i ∧ SqL X.K H p xs ∧ xs[i]? = some v ∧ Q v H) := by
  intro pins s σ H x y v u Q I rx ry h
  obtain ⟨p, xs, i, z, rfl, rfl, hq, he, q⟩ := h
  cases rx
  obtain ⟨t, rfl⟩ := ry
  obtain ⟨its, r, pl, hz⟩ := I.list hq
  obtain ⟨w, ew, rw'⟩ := r.get he
  have fin : EP X pins σ Q w s := ⟨z, H, I, rw', q⟩
  have hl := r.length
  have hn := line63
  have hi : i < xs.length := (List.getElem?_eq_some_iff.mp he).1
  exact wpAny_getItem_list pl.isList (by omega) (by omega) (by rw [List.getElem?_toArray]; simpa using ew) fin
def spTake : Sp := fun vs H Q _ => ∃ b I n, vs = [.ref b, .int n] ∧ 1 ≤ n ∧ n ≤ 1000000 ∧ Bag I H b ∧ ∀ x H', 0 ≤ x → x < n → SameB b H H' → Bag I H' b → Q (.int x) H'
abbrev sTake : Stmt := top 56
abbrev nTake : List Str := ["_law_bag_here", "_law_many", "_law_cell", "_law_mixed", "_law_drawn", "_law_begin", "_law_second"]
theorem scTake : FnScope nTake ["_law_bag_here", "_law_many"] (defScope sTake) := ⟨rfl, rfl, rfl, by decide +kernel, rfl, by decide +kernel, by decide +kernel⟩
theorem ok_take {f : Addr} {fd : FuncData} (F : Fun K "_law_take" "_law_take" sTake f fd) (B : Bi mg) : FnOk P w K mg base CX0 1 f fd ["_law_bag_here", "_law_many"] spTake := by
  refine F.ok scTake (fun vs H Q E h => ?_) (fun cdv A outer s H vs Q E hr h => ?_)
  · obtain ⟨b, I, n, rfl, _⟩ := h
    rfl
  · obtain ⟨b, I, n, rfl, hn1, hn2, hbag, q⟩ := h
    have nd := scTake.nd
    have hC : ∃ t, PSs (cxOf CX0 P w K mg base nTake "_law_take" (defScope sTake) f cdv A outer s H E).nox ((defBody sTake).drop 1) t ∧ ∀ (H' : Hp) (c m : Option V), SameB b H H' → Bag I H' b → t { nx := fun _ H' => Q .non H', rt := Q } [some (.ref b), some (.int n), c, m, Option.none, Option.none, Option.none] H' := by
      refine ⟨_, pss_cons (ps_if (pt_cmpR op_gt (pe_ix ix_list (pv 0) pe_int (fun _ _ => rfl)) pe_int (nomark _))
          (pss_cons (ps_set nd (i := 4) rfl (Or.inl rfl) (pe_op op_mod (pe_callTy call_int1 (by rfl) B.int_ bt_int (pa_cons (pe_ix ix_list (pv 0) pe_int (fun _ _ => rfl)) pa_nil)) (pv 1)))
          (pss_cons (ps_asg (pe_op op_fdiv (pe_ix ix_list (pv 0) pe_int (fun _ _ => rfl)) (pv 1)) (pg_sub (pv 0) pe_int set_list))
          (pss_one (ps_ret (pv 4))))) pss_nil)
        (pss_cons (ps_set nd (i := 5) rfl (Or.inl rfl) (pe_op op_mod (pe_callTy call_int1 (by rfl) B.int_ bt_int (pa_cons (pe_op op_mul (pe_op op_add (pe_ix ix_list (pv 0) pe_int (fun _ _ => rfl)) pe_int) pe_int) pa_nil)) pe_int))
        (pss_cons (ps_set nd (i := 6) rfl (Or.inl rfl) (pe_op op_mod (pe_callTy call_int1 (by rfl) B.int_ bt_int (pa_cons (pe_op op_mul (pe_op op_mod (pe_callTy call_int1 (by rfl) B.int_ bt_int (pa_cons (pe_op op_mul (pv 5) (pv 5)) pa_nil)) pe_int) pe_int) pa_nil)) pe_int))
        (pss_one (ps_ret (pe_op op_mod (pe_callTy call_int1 (by rfl) B.int_ bt_int (pa_cons (pe_op op_fdiv (pv 6) pe_int) pa_nil)) (pv 1)))))), ?_⟩
      intro H' c m s1 hb
      have hb0 := hb
      obtain ⟨z, mm, i, ns, h1, h2, hI, hz, hm0, hm1, hi, hns⟩ := hb
      refine ⟨_, rfl, b, _, 0, _, rfl, rfl, SqL.of h1, at0, _, _, rfl, rfl, _, rfl, ?_⟩
      by_cases hz0 : 0 < z
      · rw [decide_eq_true hz0]
        refine iteT ⟨_, rfl, b, _, 0, _, rfl, rfl, SqL.of h1, at0, .inl ⟨z, rfl, _, rfl, _, _, rfl, rfl, by omega, _, rfl, b, _, 0, _, rfl, rfl, SqL.of h1, at0, _, rfl, _, _, rfl, rfl, ⟨by omega, by omega⟩, _, rfl, b, _, 0, 0, rfl, rfl, h1, rfl, _, rfl, ?_⟩⟩
        refine q _ _ (Int.emod_nonneg _ (by omega)) (Int.emod_lt_of_pos _ (by omega)) (s1.trans fun a o ha e => by rw [upd_ne ha]; exact e) ?_
        exact ⟨z / n, mm, i, ns, upd_same, by rw [upd_ne hI]; exact h2, hI, Int.ediv_nonneg hz (by omega), hm0, hm1, hi, hns⟩
      · rw [decide_eq_false hz0]
        refine iteF ⟨_, rfl, b, _, 1, _, rfl, rfl, SqL.of h1, at1, _, _, rfl, rfl, _, _, rfl, rfl, .inr (by decide), .inl ⟨_, rfl, _, _, rfl, rfl, (show (0 : Int) < 1000000007 by decide), ?_⟩⟩
        have e1 : 0 ≤ (mm + 1) * 39373 % 1000000007 := Int.emod_nonneg _ (by decide)
        have e2 : (mm + 1) * 39373 % 1000000007 < 1000000007 := Int.emod_lt_of_pos _ (by decide)
        refine ⟨_, rfl, _, rfl, _, _, rfl, rfl, .inl ⟨by omega, by omega⟩, .inl ⟨_, rfl, _, _, rfl, rfl, (show (0 : Int) < 998244353 by decide), _, _, rfl, rfl, .inr (by decide), .inl ⟨_, rfl, _, _, rfl, rfl, (show (0 : Int) < 998244353 by decide), ?_⟩⟩⟩
        refine ⟨_, rfl, _, _, rfl, rfl, ⟨by decide, by decide⟩, .inl ⟨_, rfl, _, rfl, _, _, rfl, rfl, by omega, ?_⟩⟩
        exact q _ _ (Int.emod_nonneg _ (by omega)) (Int.emod_lt_of_pos _ (by omega)) s1 hb0
    obtain ⟨tC', hC1, hC2⟩ := hC
    refine ⟨_, pss_cons (ps_if (pt_cmpR op_eq (pe_ix ix_list (pv 0) pe_int (fun _ _ => rfl)) pe_int (nomark _))
      (pss_cons (ps_set nd (i := 2) rfl (Or.inl rfl) pe_int)
      (pss_cons (ps_if (pt_cmpR op_lt (pe_ix ix_list (pv 0) pe_int (fun _ _ => rfl)) (pe_callB call_len_seq (by rfl) B.len_ bt_len (pa_cons (pe_ix ix_list (pv 0) pe_int (fun _ _ => rfl)) pa_nil)) (nomark _)) (pss_one (ps_set nd (i := 2) rfl (Or.inl rfl) (pe_ix ix_list (pe_ix ix_list (pv 0) pe_int (fun _ _ => rfl)) (pe_ix ix_list (pv 0) pe_int (fun _ _ => rfl)) (fun _ _ => rfl)))) pss_nil)
      (pss_cons (ps_augS (pv 0) pe_int get_listN pe_int ip_add set_list)
      (pss_cons (ps_if (pt_cmpR op_ge (pv 2) (pe_op op_pow pe_int pe_int) (nomark _)) (pss_one (ps_asg (pv 2) (pg_sub (pv 0) pe_int set_list))) pss_nil)
      (pss_cons (ps_set nd (i := 3) rfl (Or.inl rfl) (pe_op op_add (pe_op op_add (pe_op op_mul (pe_ix ix_list (pv 0) pe_int (fun _ _ => rfl)) pe_int) (pe_op op_mod (pe_callTy call_int1 (by rfl) B.int_ bt_int (pa_cons (pv 2) pa_nil)) pe_int)) (pe_op op_mul pe_int (pe_ix ix_list (pv 0) pe_int (fun _ _ => rfl)))))
      (pss_one (ps_asg (pe_op op_mod (pe_callTy call_int1 (by rfl) B.int_ bt_int (pa_cons (pv 3) pa_nil)) pe_int) (pg_sub (pv 0) pe_int set_list)))))))) pss_nil) hC1, ?_⟩
    have hbag0 := hbag
    obtain ⟨z, mm, i, ns, h1, h2, hI, hz, hm0, hm1, hi, hns⟩ := hbag
    refine ⟨_, rfl, b, _, 0, _, rfl, rfl, SqL.of h1, at0, rfl, _, rfl, ?_⟩
    rw [int_eq]
    by_cases hz0 : z = 0
    · rw [decide_eq_true hz0]
      refine iteT ?_
      -- the cell that is drawn
      have r1 : ∃ v : Int, 0 ≤ v ∧ ∀ D : Ends, D.nx [some (.ref b), some (.int n), some (.int v), Option.none, Option.none, Option.none, Option.none] H →
          tIfS (tTest (tOp (rI0 fun i j => .bl (decide (i < j))) (tOp (rIxL K) (tVar 0) (tC (.int 2))) (tCB (fun xs H Q => ∃ p ys, xs = [.ref p] ∧ (SqL K H p ys ∨ SqT K H p ys) ∧ Q (.int ys.length) H) (tCons (tOp (rIxL K) (tVar 0) (tC (.int 3))) tNil))))
            (tAsg (tOp (rIxL K) (tOp (rIxL K) (tVar 0) (tC (.int 3))) (tOp (rIxL K) (tVar 0) (tC (.int 2)))) (gName 2)) tNext D [some (.ref b), some (.int n), some (.int 0), Option.none, Option.none, Option.none, Option.none] H := by
        by_cases hlt : i < (ns.length : Int)
        · have hget : ns[i.toNat]? = some (ns[i.toNat]'(by omega)) := List.getElem?_eq_getElem _
          refine ⟨ns[i.toNat]'(by omega), hns _ (List.getElem_mem _), fun D q => ?_⟩
          refine ⟨_, rfl, b, _, 2, _, rfl, rfl, SqL.of h1, at2, _, rfl, b, _, 3, _, rfl, rfl, SqL.of h1, at3, I, _, rfl, .inl (SqL.of h2), _, _, rfl, rfl, _, rfl, ?_⟩
          rw [List.length_map, decide_eq_true hlt]
          refine iteT ⟨_, rfl, b, _, 3, _, rfl, rfl, SqL.of h1, at3, _, rfl, b, _, 2, _, rfl, rfl, SqL.of h1, at2, I, _, i, _, rfl, rfl, SqL.of h2, ?_, q⟩
          have := atI_nat (xs := ns.map V.int) (j := i.toNat) (v := .int (ns[i.toNat]'(by omega))) (by rw [List.getElem?_map, hget]; rfl)
          rw [show ((i.toNat : Nat) : Int) = i by omega] at this
          exact this
        · refine ⟨0, Int.le_refl _, fun D q => ?_⟩
          refine ⟨_, rfl, b, _, 2, _, rfl, rfl, SqL.of h1, at2, _, rfl, b, _, 3, _, rfl, rfl, SqL.of h1, at3, I, _, rfl, .inl (SqL.of h2), _, _, rfl, rfl, _, rfl, ?_⟩
          rw [List.length_map, decide_eq_false hlt]
          exact iteF q
      obtain ⟨v, hv, r1⟩ := r1
      refine r1 _ ?_
      refine ⟨_, rfl, b, _, 2, _, rfl, rfl, SqL.of h1, rfl, _, _, rfl, rfl, b, _, 2, 2, rfl, rfl, h1, rfl, ?_⟩
      have g1 : upd H b (.lst ([V.int z, .int mm, .int i, .ref I].set 2 (.int (i + 1)))) b = some (.lst [.int z, .int mm, .int (i + 1), .ref I]) := upd_same
      have g2 : upd H b (.lst ([V.int z, .int mm, .int i, .ref I].set 2 (.int (i + 1)))) I = some (.lst (ns.map V.int)) := by rw [upd_ne hI]; exact h2
      have gs : SameB b H (upd H b (.lst ([V.int z, .int mm, .int i, .ref I].set 2 (.int (i + 1))))) := fun a o ha e => by rw [upd_ne ha]; exact e
      generalize upd H b (.lst ([V.int z, .int mm, .int i, .ref I].set 2 (.int (i + 1)))) = H1 at g1 g2 gs ⊢
      have r2 : ∃ (z2 : Int) (H2 : Hp), 0 ≤ z2 ∧ H2 b = some (.lst [.int z2, .int mm, .int (i + 1), .ref I]) ∧ H2 I = some (.lst (ns.map V.int)) ∧ SameB b H H2 ∧ ∀ D : Ends, D.nx [some (.ref b), some (.int n), some (.int v), Option.none, Option.none, Option.none, Option.none] H2 →
          tIfS (tTest (tOp (rI0 fun i j => .bl (decide (j ≤ i))) (tVar 2) (tOp (rI CPow fun i j => .int (i ^ j.toNat)) (tC (.int 10)) (tC (.int 18)))))
            (tAsg (tVar 2) (gSub (tVar 0) (tC (.int 0)) rSetL)) tNext D [some (.ref b), some (.int n), some (.int v), Option.none, Option.none, Option.none, Option.none] H1 := by
        by_cases hge : (10 : Int) ^ (18 : Int).toNat ≤ v
        · refine ⟨v, upd H1 b (.lst ([V.int z, .int mm, .int (i + 1), .ref I].set 0 (.int v))), hv, upd_same, by rw [upd_ne hI]; exact g2, gs.trans fun a o ha e => by rw [upd_ne ha]; exact e, fun D q => ?_⟩
          refine ⟨_, rfl, _, _, rfl, rfl, ⟨by decide, by decide, by decide⟩, _, _, rfl, rfl, _, rfl, ?_⟩
          rw [decide_eq_true hge]
          exact iteT ⟨_, rfl, _, rfl, b, _, 0, 0, rfl, rfl, g1, rfl, q⟩
        · refine ⟨z, H1, hz, g1, g2, gs, fun D q => ?_⟩
          refine ⟨_, rfl, _, _, rfl, rfl, ⟨by decide, by decide, by decide⟩, _, _, rfl, rfl, _, rfl, ?_⟩
          rw [decide_eq_false hge]
          exact iteF q
      obtain ⟨z2, H2, hz2, k1, k2, ks, r2⟩ := r2
      refine r2 _ ?_
      refine ⟨_, rfl, b, _, 1, _, rfl, rfl, SqL.of k1, at1, _, _, rfl, rfl, .inr (by decide), _, rfl, .inl ⟨_, rfl, _, _, rfl, rfl, (show (0 : Int) < 2147483647 by decide), _, _, rfl, rfl, _, rfl, b, _, 2, _, rfl, rfl, SqL.of k1, at2, _, _, rfl, rfl, .inl (by decide), _, _, rfl, rfl, ?_⟩⟩
      refine ⟨_, rfl, .inl ⟨_, rfl, _, _, rfl, rfl, (show (0 : Int) < 2147483647 by decide), _, rfl, b, _, 1, 1, rfl, rfl, k1, rfl, ?_⟩⟩
      refine hC2 _ _ _ (ks.trans fun a o ha e => by rw [upd_ne ha]; exact e) ⟨z2, _, i + 1, ns, upd_same, by rw [upd_ne hI]; exact k2, hI, hz2, Int.emod_nonneg _ (by decide), Int.emod_lt_of_pos _ (by decide), by omega, hns⟩
    · rw [decide_eq_false hz0]
      exact iteF (hC2 _ _ _ (SameB.refl _ _) hbag0)
end
end RA
end

section
set_option Elab.async false
set_option linter.all false
set_option autoImplicit false
set_option maxRecDepth 100000
set_option maxHeartbeats 4000000
set_option exponentiation.threshold 10000
namespace RA
open PySem PySem.Spec PyProof.Rows L2
section
variable {P : Program} {w : World} {K : PySem.W.Frag} {mg : Str → Option Value} {base : Heap}
theorem sql_b {H H' : Hp} {b a : Addr} {xs : List V} (ha : a ≠ b) (s : SameB b H H') (h : SqL K H a xs) : SqL K H' a xs := by
  rcases h with (h | ⟨q, h⟩) | h
  · exact .inl (.inl (s _ _ ha h))
  · exact .inl (.inr ⟨q, s _ _ ha h⟩)
  · exact .inr h
theorem none_b {b : Addr} {H H' : Hp} {p : Addr} (hb : p ≠ b) (s : SameB b H H') (h : H' p = Option.none) : H p = Option.none := by
  cases e : H p with
  | none => rfl
  | some o => rw [s _ _ hb e] at h; cases h
theorem Bag.ne {I : Addr} {H : Hp} {b p : Addr} (h : Bag I H b) (hp : H p = Option.none) : p ≠ b := by
  obtain ⟨xs, e⟩ := h.lst
  exact (ne_of_none e hp).symm
/-- a new object: the bag stays -/
theorem Bag.new {I : Addr} {H : Hp} {b p : Addr} {o : HO} (h : Bag I H b) (hp : H p = Option.none) : Bag I (upd H p o) b := h.same (same_upd hp)
/-- another object is written -/
theorem Bag.own {I : Addr} {H : Hp} {b p : Addr} {o : HO} (h : Bag I H b) (hp : p ≠ b) (hI : p ≠ I) : Bag I (upd H p o) b := by
  obtain ⟨z, m, i, ns, h1, h2, h3⟩ := h
  exact ⟨z, m, i, ns, by rw [upd_ne hp.symm]; exact h1, by rw [upd_ne hI.symm]; exact h2, h3⟩
theorem Bag.neI {I : Addr} {H : Hp} {b p : Addr} (h : Bag I H b) (hp : H p = Option.none) : p ≠ I := by
  obtain ⟨z, m, i, ns, h1, h2, h3⟩ := h
  exact (ne_of_none h2 hp).symm
/-! ## _law_one -/
def spOne (K : PySem.W.Frag) : Sp := fun vs H Q _ => ∃ b I a xs, vs = [.ref b, .ref a] ∧ Bag I H b ∧ SqL K H a xs ∧ a ≠ b ∧ 1 ≤ xs.length ∧ xs.length ≤ 1000 ∧ ∀ x H', x ∈ xs → SameB b H H' → Bag I H' b → Q x H'
abbrev sOne : Stmt := top 58
theorem scOne : FnScope ["_law_bag_here", "_law_things"] ["_law_bag_here", "_law_things"] (defScope sOne) := ⟨rfl, rfl, rfl, by decide +kernel, rfl, by decide +kernel, by decide +kernel⟩
theorem ok_one {f : Addr} {fd : FuncData} (F : Fun K "_law_one" "_law_one" sOne f fd) (B : Bi mg) (Ft : Fd P w K mg base "_law_take" 1 ["_law_bag_here", "_law_many"] spTake) : FnOk P w K mg base CX0 2 f fd ["_law_bag_here", "_law_things"] (spOne K) := by
  refine F.ok scOne (fun vs H Q E h => ?_) (fun cdv A outer s H vs Q E hr h => ?_)
  · obtain ⟨b, I, a, xs, rfl, _⟩ := h
    rfl
  · obtain ⟨b, I, a, xs, rfl, hb, ha, hab, h1, h2, q⟩ := h
    refine ⟨_, pss_one (ps_ret (pe_ix ix_list (pv 1) (pe_f Ft hr (pa_cons (pv 0) (pa_cons (pe_callB call_len_seq (by rfl) B.len_ bt_len (pa_cons (pv 1) pa_nil)) pa_nil))) (fun _ _ => rfl))), ?_⟩
    refine ⟨_, rfl, _, rfl, _, rfl, a, xs, rfl, .inl ha, b, I, xs.length, rfl, by omega, by omega, hb, fun x H' x0 x1 s1 hb1 => ?_⟩
    have hx : x.toNat < xs.length := by omega
    refine ⟨a, xs, x, xs[x.toNat], rfl, rfl, sql_b hab s1 ha, ?_, q _ _ (List.getElem_mem _) s1 hb1⟩
    have := atI_nat (xs := xs) (j := x.toNat) (List.getElem?_eq_getElem hx)
    rw [show ((x.toNat : Nat) : Int) = x by omega] at this
    exact this
/-! ## _law_number -/
def spNumber : Sp := fun vs H Q _ => ∃ b I, vs = [.ref b] ∧ Bag I H b ∧ ∀ x H', x.natAbs ≤ 10 ^ 12 → SameB b H H' → Bag I H' b → Q (.int x) H'
abbrev sNumber : Stmt := top 59
theorem scNumber : FnScope ["_law_bag_here", "_law_way"] ["_law_bag_here"] (defScope sNumber) := ⟨rfl, rfl, rfl, by decide +kernel, rfl, by decide +kernel, by decide +kernel⟩
theorem p1012 : (10 : Int) ^ (12 : Int).toNat = 1000000000000 := by decide
theorem ok_number {f : Addr} {fd : FuncData} (F : Fun K "_law_number" "_law_number" sNumber f fd) (Ft : Fd P w K mg base "_law_take" 1 ["_law_bag_here", "_law_many"] spTake) : FnOk P w K mg base CX0 2 f fd ["_law_bag_here"] spNumber := by
  refine F.ok scNumber (fun vs H Q E h => ?_) (fun cdv A outer s H vs Q E hr h => ?_)
  · obtain ⟨b, I, rfl, _⟩ := h
    rfl
  · obtain ⟨b, I, rfl, hb, q⟩ := h
    have nd := scNumber.nd
    refine ⟨_, pss_cons (ps_set nd (i := 1) rfl (Or.inl rfl) (pe_f Ft hr (pa_cons (pv 0) (pa_cons pe_int pa_nil))))
      (pss_cons (ps_if (pt_cmpR op_gt (pv 1) pe_int (nomark _)) (pss_one (ps_ret (pe_op op_sub (pe_f Ft hr (pa_cons (pv 0) (pa_cons pe_int pa_nil))) pe_int))) pss_nil)
      (pss_one (ps_ret (pe_op op_mul (pe_ix ix_list (pe_lst (pa_cons (pe_op op_sub (pe_op op_pow pe_int pe_int) (pe_f Ft hr (pa_cons (pv 0) (pa_cons pe_int pa_nil)))) (pa_cons (pe_f Ft hr (pa_cons (pv 0) (pa_cons pe_int pa_nil))) pa_nil))) (pv 1) (fun _ _ => rfl))
        (pe_ix ix_list (pe_lst (pa_cons pe_int (pa_cons (pe_un un_neg pe_int) pa_nil))) (pe_f Ft hr (pa_cons (pv 0) (pa_cons pe_int pa_nil))) (fun _ _ => rfl)))))), ?_⟩
    refine ⟨_, rfl, b, I, 12, rfl, by decide, by decide, hb, fun x H1 x0 x1 s1 hb1 => ?_⟩
    refine ⟨_, rfl, _, _, rfl, rfl, _, rfl, ?_⟩
    by_cases hx : 1 < x
    · rw [decide_eq_true hx]
      exact iteT ⟨_, rfl, b, I, 13, rfl, by decide, by decide, hb1, fun y H2 y0 y1 s2 hb2 => ⟨_, _, rfl, rfl, q _ _ (by omega) (s1.trans s2) hb2⟩⟩
    · rw [decide_eq_false hx]
      refine iteF ⟨_, _, rfl, rfl, ⟨by decide, by decide, by decide⟩, _, rfl, b, I, 3, rfl, by decide, by decide, hb1, fun y H2 y0 y1 s2 hb2 => ⟨_, _, rfl, rfl, _, rfl, b, I, 2000, rfl, by decide, by decide, hb2, fun z H3 z0 z1 s3 hb3 => ⟨two_sz, fun L hL => ?_⟩⟩⟩
      have hLb : L ≠ b := hb3.ne hL
      have hb4 := hb3.new (o := .lst [.int ((10 : Int) ^ (12 : Int).toNat - y), .int z]) hL
      have hn : ∃ u : Int, atI [V.int ((10 : Int) ^ (12 : Int).toNat - y), .int z] x = some (.int u) ∧ u.natAbs ≤ 10 ^ 12 := by
        rcases (show x = 0 ∨ x = 1 by omega) with rfl | rfl
        · exact ⟨_, at0, by rw [p1012]; omega⟩
        · exact ⟨_, at1, by omega⟩
      obtain ⟨u, hu1, hu2⟩ := hn
      refine ⟨_, rfl, L, _, x, _, rfl, rfl, SqL.of upd_same, hu1, ?_⟩
      refine ⟨_, rfl, two_sz, fun M hM => ⟨_, rfl, b, I, 2, rfl, by decide, by decide, hb4.new hM, fun t H5 t0 t1 s5 hb5 => ?_⟩⟩
      have hMb : M ≠ b := hb4.ne hM
      have hn2 : ∃ e : Int, atI [V.int 1, .int (-1)] t = some (.int e) ∧ (e = 1 ∨ e = -1) := by
        rcases (show t = 0 ∨ t = 1 by omega) with rfl | rfl
        · exact ⟨_, at0, .inl rfl⟩
        · exact ⟨_, at1, .inr rfl⟩
      obtain ⟨e, he1, he2⟩ := hn2
      refine ⟨M, _, t, _, rfl, rfl, SqL.of (s5 _ _ hMb upd_same), he1, u, e, rfl, rfl, .inr (by omega), q _ _ ?_ ((((s1.trans s2).trans s3).trans ((Same.b (same_upd hL)).trans (Same.b (same_upd hM)))).trans s5) hb5⟩
      rcases he2 with rfl | rfl
      · omega
      · omega
end
end RA
end

section
set_option Elab.async false
set_option linter.all false
set_option autoImplicit false
set_option maxRecDepth 100000
set_option maxHeartbeats 4000000
set_option exponentiation.threshold 10000
namespace RA
open PySem PySem.Spec PyProof.Rows L2
/-! ## a comprehension that draws -/
inductive LbOut {α β : Type} (rel : α → β → Prop) (skip : α → Prop) : List α → List β → Prop
  | nil : LbOut rel skip [] []
  | yes {as : List α} {bs : List β} {a : α} {b : β} : LbOut rel skip as bs → rel a b → LbOut rel skip (as ++ [a]) (bs ++ [b])
  | no {as : List α} {bs : List β} {a : α} : LbOut rel skip as bs → skip a → LbOut rel skip (as ++ [a]) bs
theorem turns_of2 {J : It} {xs : List V} {H0 : Hp} {Qd : Hp → Prop} {B : V → Hp → (Hp → Prop) → Prop} (Pv : Nat → Hp → Prop) (h0 : Pv 0 H0) (hgo : ∀ i H, i < xs.length → Pv i H → J.go i H) (hst : ∀ H, Pv xs.length H → J.stop xs.length H)
    (hy : ∀ i H x H', i < xs.length → Pv i H → J.yld i H x H' → xs[i]? = some x ∧ H' = H) (hs : ∀ i x H, xs[i]? = some x → Pv i H → B x H (Pv (i + 1))) (hd : ∀ H, Pv xs.length H → Qd H) :
    ∃ W : Nat → Nat → Hp → Prop, (∃ m, W 0 m H0) ∧ ∀ i m H, W i m H → (J.stop i H ∧ Qd H) ∨ (J.go i H ∧ ∃ Nx : Hp → Prop, (∀ H', Nx H' → ∃ m', m' < m ∧ W (i + 1) m' H') ∧ ∀ x H', J.yld i H x H' → B x H' Nx) := by
  refine ⟨fun i m H => i + m = xs.length ∧ Pv i H, ⟨xs.length, by omega, h0⟩, fun i m H hW => ?_⟩
  obtain ⟨em, hP⟩ := hW
  by_cases hi : i < xs.length
  · refine Or.inr ⟨hgo i H hi hP, Pv (i + 1), fun H' hP' => ⟨m - 1, by omega, by omega, hP'⟩, fun x H' hyl => ?_⟩
    obtain ⟨h1, rfl⟩ := hy i H x H' hi hP hyl
    exact hs i x _ h1 hP
  · have e : i = xs.length := by omega
    subst e
    exact Or.inl ⟨hst H hP, hd H hP⟩
section
variable {α β : Type} {K : PySem.W.Frag} {b I D : Addr} {J : It} {xs : List V} {g : TG} {tt : TT} {te : TE} {vs : List Nat} {σ : L2.St} {H1 : Hp} {Q : Hp → Prop} {rel : α → β → Prop} {skip : α → Prop} {Rs : V → α → Prop} {Rr : Hp → V → β → Prop} {src : List α}
def LbTurn (b I D : Addr) (H1 : Hp) (g : TG) (tt : TT) (te : TE) (vs : List Nat) (σ : L2.St) (rel : α → β → Prop) (skip : α → Prop) (Rs : V → α → Prop) (Rr : Hp → V → β → Prop) (src : List α) : Prop :=
  ∀ (x : V) (p : α) (H : Hp) (Y : V → Hp → Prop) (N : Hp → Prop), p ∈ src → Rs x p → SameB b H1 H → Bag I H b → (∀ y c H4, rel p c → SameB b H H4 → Bag I H4 b → Rr H4 y c → Y y H4) → (∀ H3, skip p → SameB b H H3 → Bag I H3 b → N H3) →
    g x (wipe σ vs) H fun σ2 H2 => wipe σ2 vs = wipe σ vs ∧ tt σ2 H2 fun b H3 => if b = true then te σ2 H3 fun y H4 => Y y H4 else N H3
theorem lcB (rel : α → β → Prop) (skip : α → Prop) (Rs : V → α → Prop) (Rr : Hp → V → β → Prop) (src : List α) (hS : ∀ H H' v c, Bag I H b → SameB b H H' → Rr H v c → Rr H' v c) (hU : ∀ H v c acc acc', H D = some (.lst acc) → Rr H v c → Rr (upd H D (.lst acc')) v c)
    (hB : Bag I H1 b) (hD : H1 D = Option.none) (hx : AllR Rs xs src) (hlen : src.length ≤ 1000000) (hgo : ∀ i H, i < xs.length → SameB b H1 H → J.go i H) (hst : ∀ H, SameB b H1 H → J.stop xs.length H) (hy : ∀ i H x H', i < xs.length → SameB b H1 H → J.yld i H x H' → xs[i]? = some x ∧ H' = H)
    (T : LbTurn b I D H1 g tt te vs σ rel skip Rs Rr src) (he : ∀ H' acc out, SameB b H1 H' → Bag I H' b → H' D = some (.lst acc) → AllR (Rr H') acc out → LbOut rel skip src out → Q H') :
    ∃ W : Nat → Nat → Hp → Prop, (∃ m, W 0 m (upd H1 D (.lst []))) ∧ ∀ i m H, W i m H →
      (J.stop i H ∧ Q H) ∨ (J.go i H ∧ ∃ Nx : Hp → Prop, (∀ H', Nx H' → ∃ m', m' < m ∧ W (i + 1) m' H') ∧ ∀ x H', J.yld i H x H' → g x (wipe σ vs) H' fun σ2 H2 => wipe σ2 vs = wipe σ vs ∧ tt σ2 H2 fun b H3 =>
        if b = true then te σ2 H3 fun y H4 => ∃ acc, H4 D = some (.lst acc) ∧ acc.length < sizeLine ∧ Nx (upd H4 D (.lst (acc ++ [y]))) else Nx H3) := by
  have hDb : D ≠ b := hB.ne hD
  have hDI : D ≠ I := hB.neI hD
  refine turns_of2 (xs := xs) (fun i H => SameB b H1 H ∧ Bag I H b ∧ ∃ acc out, H D = some (.lst acc) ∧ acc.length ≤ i ∧ AllR (Rr H) acc out ∧ LbOut rel skip (src.take i) out) ?_ ?_ ?_ ?_ ?_ ?_
  · exact ⟨Same.b (same_upd hD), hB.new hD, [], [], upd_same, Nat.le_refl _, AllR.nil, .nil⟩
  · rintro i H hi ⟨s1, _⟩
    exact hgo i H hi s1
  · rintro H ⟨s1, _⟩
    exact hst H s1
  · rintro i H x H' hi ⟨s1, _⟩ hyl
    exact hy i H x H' hi s1 hyl
  · rintro i x H hxi ⟨s1, hb1, acc, out, ha, hl, hr, ho⟩
    obtain ⟨p, hp, hrs⟩ := hx.get hxi
    have hil : i < src.length := (List.getElem?_eq_some_iff.mp hp).1
    have et : src.take (i + 1) = src.take i ++ [p] := by
      rw [List.take_add_one, hp]
      rfl
    refine T x p H _ _ (List.mem_of_getElem? hp) hrs s1 hb1 (fun y c H4 hc s4 hb4 hy4 => ?_) (fun H3 hs s3 hb3 => ?_)
    · have ha4 := s4 _ _ hDb ha
      refine ⟨acc, ha4, szl (by omega), fun a o hab e => ?_, hb4.own hDb hDI, acc ++ [y], out ++ [c], upd_same, by simp; omega, ?_, ?_⟩
      · rw [upd_ne (ne_of_none e hD)]
        exact s4 _ _ hab (s1 _ _ hab e)
      · exact AllR.imp (AllR.snoc (AllR.imp hr fun v d z => hS _ _ _ _ hb1 s4 z) hy4) fun v d z => hU _ _ _ _ _ ha4 z
      · rw [et]
        exact .yes ho hc
    · refine ⟨s1.trans s3, hb3, acc, out, s3 _ _ hDb ha, by omega, AllR.imp hr fun v d z => hS _ _ _ _ hb1 s3 z, ?_⟩
      rw [et]
      exact .no ho hs
  · rintro H ⟨s1, hb1, acc, out, ha, hl, hr, ho⟩
    rw [hx.1, List.take_length] at ho
    exact he H acc out s1 hb1 ha hr ho
/-- .. over a range -/
def rgI (lo : Int) (n : Nat) : List Int := (List.range n).map fun (i : Nat) => lo + (i : Int)
theorem rg_len (lo : Int) (n : Nat) : (rgI lo n).length = n := by simp [rgI]
theorem rg_all (lo : Int) (n : Nat) : AllR (fun v i => v = V.int i) ((rgI lo n).map V.int) (rgI lo n) := by
  refine ⟨by simp, fun i v c h1 h2 => ?_⟩
  rw [List.getElem?_map, h2] at h1
  cases h1
  rfl
theorem rg_yld {lo : Int} {n : Nat} {i : Nat} {H H' : Hp} {x : V} (hi : i < n) (h : (Itr lo n).yld i H x H') : ((rgI lo n).map V.int)[i]? = some x ∧ H' = H := by
  obtain ⟨h1, rfl⟩ := h
  refine ⟨?_, h1⟩
  simp [rgI, hi]
end
end RA
end

section
set_option Elab.async false
set_option linter.all false
set_option autoImplicit false
set_option maxRecDepth 100000
set_option maxHeartbeats 4000000
set_option exponentiation.threshold 10000
namespace RA
open PySem PySem.Spec PyProof.Rows L2
section
variable {P : Program} {w : World} {K : PySem.W.Frag} {mg : Str → Option Value} {base : Heap}
/-- the pairs of a found step stand as a bare tuple -/
def FtS (K : PySem.W.Frag) (H : Hp) (v : V) (s : Stp) : Prop := ∀ ps, s = .found ps → ∃ a q ys, v = .ref a ∧ SqT K H a [.str "found", .ref q] ∧ FTup H q ys ∧ DpAll K H ys (ps.map encQ)
theorem lb_sub {y : Int} {skip : Int → Prop} {src out : List Int} (h : LbOut (fun k c => c = k * y) skip src out) : out.Sublist (src.map (· * y)) := by
  induction h with
  | nil => simp
  | yes h e ih =>
    subst e
    rw [List.map_append]
    exact List.Sublist.append ih (List.Sublist.refl _)
  | no h _ ih =>
    rw [List.map_append]
    exact ih.trans (List.sublist_append_left _ _)
theorem lb_map {α β γ : Type} {f : β → γ} {g : α → γ} {rel : α → β → Prop} (hr : ∀ a b, rel a b → f b = g a) {src : List α} {out : List β} (h : LbOut rel (fun _ => False) src out) : out.map f = src.map g := by
  induction h with
  | nil => rfl
  | yes h e ih => rw [List.map_append, List.map_append, ih]; simp [hr _ _ e]
  | no h e ih => exact e.elim
theorem lb_all {α β : Type} {p : β → Prop} {rel : α → β → Prop} {skip : α → Prop} (hr : ∀ a b, rel a b → p b) {src : List α} {out : List β} (h : LbOut rel skip src out) : ∀ b ∈ out, p b := by
  induction h with
  | nil => simp
  | yes h e ih =>
    intro b hb
    rcases List.mem_append.mp hb with hb | hb
    · exact ih b hb
    · rw [List.mem_singleton.mp hb]; exact hr _ _ e
  | no h e ih => exact ih
theorem lb_len {α β : Type} {rel : α → β → Prop} {skip : α → Prop} {src : List α} {out : List β} (h : LbOut rel skip src out) : out.length ≤ src.length := by
  induction h with
  | nil => simp
  | yes h e ih => simp; exact ih
  | no h e ih => simp; omega
theorem allR_ints {acc : List V} {out : List Int} (h : AllR (fun v c => v = V.int c) acc out) : acc = out.map V.int := by
  refine List.ext_getElem (by simp [h.1]) fun i h1 h2 => ?_
  have := h.2 i acc[i] (out[i]'(by rw [← h.1]; exact h1)) (List.getElem?_eq_getElem h1) (List.getElem?_eq_getElem _)
  rw [this]
  simp
theorem allR_dps {H : Hp} {f : (β : Type) → β → PyData} {γ : Type} {e : γ → PyData} {acc : List V} {out : List γ} (h : AllR (fun v c => Dp K H v (e c)) acc out) : DpAll K H acc (out.map e) := by
  refine DpAll.of_get (by simp [h.1]) fun i v d h1 h2 => ?_
  rw [List.getElem?_map] at h2
  cases hc : out[i]? with
  | none => rw [hc] at h2; cases h2
  | some c =>
    rw [hc] at h2
    cases h2
    exact h.2 i v c h1 hc
theorem cut_take (ns : List Int) (k : Nat) : cutV (ns.map V.int) Option.none (some (k : Int)) = (ns.take k).map V.int := by
  unfold cutV
  rw [HT.sIx_nat, HT.sIx_none, List.drop_zero, Nat.sub_zero, List.length_map, List.map_take]
  by_cases h : k ≤ ns.length
  · rw [Nat.min_eq_left h]
  · rw [Nat.min_eq_right (by omega), List.take_of_length_le (by simp), List.take_of_length_le (by simp; omega)]
def spStep (K : PySem.W.Frag) : Sp := fun vs H Q _ => ∃ b I, vs = [.ref b] ∧ Bag I H b ∧ ∀ v s H', Dp K H' v (encS s) → FtS K H' v s → okS s → bdS s → SameB b H H' → Bag I H' b → Q v H'
abbrev sStep : Stmt := top 60
abbrev nStep : List Str := ["_law_bag_here", "_law_word", "_law_by", "_law_keys", "_law_number_here", "_law_key"]
theorem scStep : FnScope nStep ["_law_bag_here"] (defScope sStep) := ⟨rfl, rfl, rfl, by decide +kernel, rfl, by decide +kernel, by decide +kernel⟩
theorem five_sz : 5 ≤ sizeLine := by decide
theorem p1011 : (10 : Int) ^ (11 : Int).toNat = 100000000000 := by decide
theorem n1012 : (10 : Nat) ^ 12 = 1000000000000 := by decide
theorem ftS_not {H : Hp} {v : V} {s : Stp} (h : ∀ ps, s ≠ .found ps) : FtS K H v s := fun ps e => absurd e (h ps)
theorem ok_step {f : Addr} {fd : FuncData} (F : Fun K "_law_step" "_law_step" sStep f fd) (B : Bi mg) (Fo : Fd P w K mg base "_law_one" 2 ["_law_bag_here", "_law_things"] (spOne K)) (Ft : Fd P w K mg base "_law_take" 1 ["_law_bag_here", "_law_many"] spTake) (Fn : Fd P w K mg base "_law_number" 2 ["_law_bag_here"] spNumber) :
    FnOk P w K mg base CX0 3 f fd ["_law_bag_here"] (spStep K) := by
  refine F.ok scStep (fun vs H Q E h => ?_) (fun cdv A outer s H vs Q E hr h => ?_)
  · obtain ⟨b, I, rfl, _⟩ := h
    rfl
  · obtain ⟨b, I, rfl, hb, q⟩ := h
    have nd := scStep.nd
    have hr1 : Room 1 _ := hr.mono (j := 1) (by decide)
    refine ⟨_, pss_cons (ps_set nd (i := 1) rfl (Or.inl rfl) (pe_f Fo hr (pa_cons (pv 0) (pa_cons (pe_lst (pa_cons pe_str (pa_cons pe_str (pa_cons pe_str (pa_cons pe_str (pa_cons pe_str pa_nil)))))) pa_nil))))
      (pss_cons (ps_if (pt_cmpR op_eq (pv 1) pe_str (nomark _))
        (pss_cons (ps_set nd (i := 2) rfl (Or.inr rfl) (pe_ix ix_list (pe_lst (pa_cons pe_int (pa_cons pe_int (pa_cons pe_int (pa_cons (pe_op op_add (pe_op op_pow pe_int pe_int) pe_int) pa_nil))))) (pe_f Ft hr1 (pa_cons (pv 0) (pa_cons pe_int pa_nil))) (fun _ _ => rfl)))
        (pss_cons (ps_set nd (i := 3) rfl (Or.inl rfl) (pe_slice sl_list (pe_lc (own := [("_law_key", 5)]) (g := gName 5) (tt := tTest (tOp rEq (tCall spTake [] E0 (tCons (tVar 0) (tCons (tC (.int 2)) tNil))) (tC (.int 0)))) (te := tOp (rI CMul fun i j => .int (i * j)) (tVar 5) (tVar 2)) rfl nd (pi_range2 (by rfl) B.rng_ (pa_cons (pe_un un_neg pe_int) (pa_cons pe_int pa_nil))) (blkOk_by (N := nStep) (sc := defScope sStep) (by decide +kernel))
            (fun _ _ _ _ _ => pg_name (i := 5) nd rfl (Or.inl rfl)) (fun _ _ _ _ _ => pts_one (pt_cmpR op_eq (pe_f Ft hr1 (pa_cons (pv 0) (pa_cons pe_int pa_nil))) pe_int (nomark _))) (fun _ _ _ _ _ => pe_op op_mul (pv 5) (pv 2))) po_none (po_some pe_int)))
        (pss_one (ps_ret (pe_tup (pa_cons pe_str (pa_cons (pe_callTy call_tupleF (by rfl) B.tup_ bt_tup (pa_cons (pe_lc (own := [("_law_key", 5)]) (g := gName 5) (tt := tYes) (te := tTup (tCons (tVar 5) (tCons (tCall spNumber [] E0 (tCons (tVar 0) tNil)) tNil))) rfl nd (pi_list (pv 3)) (blkOk_by (N := nStep) (sc := defScope sStep) (by decide +kernel))
            (fun _ _ _ _ _ => pg_name (i := 5) nd rfl (Or.inl rfl)) (fun _ _ _ _ _ => pts_nil) (fun _ _ _ _ _ => pe_tup (pa_cons (pv 5) (pa_cons (pe_f Fn hr (pa_cons (pv 0) pa_nil)) pa_nil)))) pa_nil)) pa_nil))))))) pss_nil)
      (pss_cons (ps_set nd (i := 4) rfl (Or.inl rfl) (pe_f Fn hr (pa_cons (pv 0) pa_nil)))
      (pss_cons (ps_if (pt_cmpR op_eq (pv 1) pe_str (nomark _)) (pss_one (ps_ret (pe_tup (pa_cons pe_str (pa_cons (pe_callB (call_max2 rfl) (by rfl) B.max_ bt_max (pa_cons pe_int (pa_cons (pe_callB call_abs (by rfl) B.abs_ bt_abs (pa_cons (pv 4) pa_nil)) pa_nil))) pa_nil))))) pss_nil)
      (pss_one (ps_ret (pe_tup (pa_cons (pv 1) (pa_cons (pe_ifExp (PW.pt (pw_or (pt_cmpR op_ne (pv 4) pe_int (nomark _)) (pw_or1 (pt_cmpR op_ne (pv 1) pe_str (nomark _))))) (pv 4) pe_int) pa_nil)))))))), ?_⟩
    refine ⟨_, rfl, five_sz, fun L hL => ⟨b, I, L, _, rfl, hb.new hL, SqL.of upd_same, hb.ne hL, by decide, by decide, fun x H1 hx s1 hb1 => ?_⟩⟩
    have sA : SameB b H H1 := (Same.b (same_upd hL)).trans s1
    refine ⟨_, rfl, ?_⟩
    have hw : ∃ wd : Str, x = .str wd ∧ (wd = "found" ∨ wd = "plus" ∨ wd = "times" ∨ wd = "into" ∨ wd = "over") := by
      simp at hx
      rcases hx with rfl | rfl | rfl | rfl | rfl <;> exact ⟨_, rfl, by simp⟩
    obtain ⟨wd, rfl, hwd⟩ := hw
    by_cases hfo : wd = "found"
    · subst hfo
      refine ⟨rfl, _, rfl, iteT ?_⟩
      refine ⟨_, _, rfl, rfl, ⟨by decide, by decide, by decide⟩, _, _, rfl, rfl, four_sz, fun M hM => ⟨_, rfl, b, I, 4, rfl, by decide, by decide, hb1.new hM, fun t H2 t0 t1 s2 hb2 => ?_⟩⟩
      have hMb : M ≠ b := hb1.ne hM
      have hn : ∃ y : Int, atI [V.int 1, .int 1, .int 1, .int ((10 : Int) ^ (11 : Int).toNat + 7)] t = some (.int y) ∧ (y = 1 ∨ y = 100000000007) := by
        rcases (show t = 0 ∨ t = 1 ∨ t = 2 ∨ t = 3 by omega) with rfl | rfl | rfl | rfl
        · exact ⟨_, at0, .inl rfl⟩
        · exact ⟨_, at1, .inl rfl⟩
        · exact ⟨_, at2, .inl rfl⟩
        · exact ⟨_, at3, .inr (by rw [p1011]; rfl)⟩
      obtain ⟨y, hy1, hy2⟩ := hn
      refine ⟨M, _, t, _, rfl, rfl, SqL.of (s2 _ _ hMb upd_same), hy1, ?_⟩
      have sB : SameB b H H2 := (sA.trans (Same.b (same_upd hM))).trans s2
      refine ⟨_, rfl, _, _, rfl, ⟨by decide, by decide, by decide, by decide⟩, fun D hD => ?_⟩
      have hDb : D ≠ b := hb2.ne hD
      refine lcB (J := Itr (-3) 7) (xs := (rgI (-3) 7).map V.int) (fun k c => c = k * y) (fun _ => True) (fun v i => v = V.int i) (fun _ v c => v = V.int c) (rgI (-3) 7) (fun _ _ _ _ _ _ h => h) (fun _ _ _ _ _ _ h => h) hb2 hD (rg_all _ _) (by rw [rg_len]; decide)
        (fun i H hi _ => by show i < 7; simpa [rg_len] using hi) (fun H _ => by show 7 ≤ _; simp [rg_len]) (fun i H z H' hi _ hyl => rg_yld (by simpa [rg_len] using hi) hyl) ?_ ?_
      · rintro z k H3 Y N hk rfl s3 hb3 hY hN
        refine ⟨rfl, _, rfl, b, I, 2, rfl, by decide, by decide, hb3, fun u H4 u0 u1 s4 hb4 => ⟨rfl, _, rfl, ?_⟩⟩
        rw [int_eq]
        by_cases hu : u = 0
        · rw [decide_eq_true hu]
          exact iteT ⟨_, rfl, _, rfl, _, _, rfl, rfl, .inr (by omega), hY _ (k * y) _ rfl s4 hb4 rfl⟩
        · rw [decide_eq_false hu]
          exact iteF (hN _ True.intro s4 hb4)
      · intro H3 acc out s3 hb3 hD3 hr3 ho3
        have ea := allR_ints hr3
        subst ea
        have hsub := lb_sub ho3
        refine ⟨_, rfl, D, _, rfl, SqL.of hD3, fun p hp => ?_⟩
        rw [show cutV (out.map V.int) Option.none (some 6) = (out.take 6).map V.int from cut_take out 6]
        have hpb : p ≠ b := hb3.ne hp
        have sC : SameB b H H3 := sB.trans s3
        have hb4 := hb3.new (o := .lst ((out.take 6).map V.int)) hp
        refine ⟨_, rfl, p, rfl, ⟨_, SqL.of upd_same⟩, fun D2 hD2 => ?_⟩
        have hsq : SqL K (upd H3 p (.lst ((out.take 6).map V.int))) p ((out.take 6).map V.int) := SqL.of upd_same
        refine lcB (J := Itl K p) (xs := (out.take 6).map V.int) (fun (k : Int) (c : Int × Int) => c.1 = k ∧ c.2.natAbs ≤ 10 ^ 12) (fun _ => False) (fun v i => v = V.int i) (fun H v c => Dp K H v (encQ c)) (out.take 6) (fun _ _ _ c hb s h => dp_b hb.lst s (tupD_q c) h) (fun _ _ c _ _ e h => dp_updL e (tupD_q c) h) hb4 hD2
          ⟨by simp, fun i v c h1 h2 => by rw [List.getElem?_map, h2] at h1; cases h1; rfl⟩ (by rw [List.length_take]; omega) (fun i H hi s => ⟨_, _, sql_b hpb s hsq, List.getElem?_eq_getElem hi⟩) (fun H s => ⟨_, sql_b hpb s hsq, Nat.le_refl _⟩) (fun i H z H' hi s hyl => ⟨hyl.2 _ (sql_b hpb s hsq), hyl.1⟩) ?_ ?_
        · rintro z k H5 Y N hk rfl s5 hb5 hY hN
          refine ⟨rfl, ?_⟩
          refine ⟨_, rfl, _, rfl, b, I, rfl, hb5, fun u H6 hu s6 hb6 => ⟨two_sz, fun T hT => ?_⟩⟩
          exact hY _ (k, u) _ ⟨rfl, hu⟩ (s6.trans (Same.b (same_upd hT))) (hb6.new hT) (.tup (SqT.of upd_same) (.cons (.int _) (.cons (.int _) .nil)))
        · intro H5 acc qs s5 hb5 hD5 hr5 ho5
          have hqs : DpAll K H5 acc (qs.map encQ) := allR_dps (f := fun _ _ => .none) hr5
          have hmap : qs.map (·.1) = out.take 6 := by
            have := lb_map (f := fun c : Int × Int => c.1) (g := fun k : Int => k) (fun a b h => h.1) ho5
            simpa using this
          have hval := lb_all (p := fun c : Int × Int => c.2.natAbs ≤ 10 ^ 12) (fun a b h => h.2) ho5
          refine ⟨D2, acc, rfl, SqL.of hD5, fun t2 o ht2 ho2 => ⟨two_sz, fun T hT => ?_⟩⟩
          have sD : SameB b H H5 := (sC.trans (Same.b (same_upd hp))).trans s5
          have k1 : Same H5 (upd H5 t2 (.frz o (.tup acc))) := same_upd ht2
          have k2 := same_upd (o := .tup [V.str "found", .ref t2]) hT
          have kf : FTup (upd (upd H5 t2 (.frz o (.tup acc))) T (.tup [V.str "found", .ref t2])) t2 acc := ⟨o, k2 _ _ upd_same, ho2⟩
          have kd : DpAll K (upd (upd H5 t2 (.frz o (.tup acc))) T (.tup [V.str "found", .ref t2])) acc (qs.map encQ) := DpAll.same k2 (DpAll.same k1 hqs)
          have keys : ∀ c ∈ qs, ∃ k ∈ rgI (-3) 7, c.1 = k * y := by
            intro c hc
            have h1 : c.1 ∈ out.take 6 := by rw [← hmap]; exact List.mem_map.mpr ⟨c, hc, rfl⟩
            have h2 := hsub.subset (List.mem_of_mem_take h1)
            obtain ⟨k, hk, e⟩ := List.mem_map.mp h2
            exact ⟨k, hk, e.symm⟩
          refine q (.ref T) (.found qs) _ (.tup (SqT.of upd_same) (.cons (.str _) (.cons (.tup (.inl (.inr ⟨o, k2 _ _ upd_same⟩)) kd) .nil))) ?_ ?_ ?_ (sD.trans (Same.b (k1.trans k2))) ((hb5.new ht2).new hT)
          · intro ps e
            cases e
            exact ⟨T, t2, acc, rfl, SqT.of upd_same, kf, kd⟩
          · show (qs.map (·.1)).Nodup
            rw [hmap]
            have hnd : ((rgI (-3) 7).map (· * y)).Nodup := by
              rcases hy2 with rfl | rfl <;> decide
            exact ((hnd.sublist hsub).sublist (List.take_sublist _ _))
          · refine ⟨fun c hc => ⟨?_, ?_⟩, ?_⟩
            · obtain ⟨k, hk, e⟩ := keys c hc
              have hk7 : -3 ≤ k ∧ k ≤ 3 := by
                have : k ∈ ([-3, -2, -1, 0, 1, 2, 3] : List Int) := hk
                simp at this
                omega
              rw [e, p44]
              rcases hy2 with rfl | rfl <;> omega
            · have := hval c hc
              have e12 := n1012
              rw [p44]
              omega
            · have := lb_len ho5
              rw [List.length_take] at this
              omega
    · refine ⟨rfl, _, rfl, ?_⟩
      rw [str_ne hfo]
      refine iteF ⟨_, rfl, b, I, rfl, hb1, fun n H2 hn s2 hb2 => ?_⟩
      have sB : SameB b H H2 := sA.trans s2
      have e12 := n1012
      refine ⟨_, rfl, rfl, _, rfl, ?_⟩
      by_cases hin : wd = "into"
      · subst hin
        refine iteT ⟨_, rfl, n, rfl, 1, _, rfl, two_sz, fun T hT => ?_⟩
        generalize hd : (if (if n < 0 then -n else n) > 1 then (if n < 0 then -n else n) else 1) = d
        have hd1 : 1 ≤ d ∧ d.natAbs ≤ 10 ^ 12 + 1 := by
          rw [← hd]
          split <;> split <;> omega
        refine q (.ref T) (.into d) _ (.tup (SqT.of upd_same) (.cons (.str _) (.cons (.int _) .nil))) (ftS_not fun _ e => by cases e) hd1.1 ?_ (sB.trans (Same.b (same_upd hT))) (hb2.new hT)
        show d.natAbs ≤ 2 ^ 44
        rw [p44]
        omega
      · rw [str_ne hin]
        have fin : ∀ m : Int, (wd = "times" → m ≠ 0) → m.natAbs ≤ 10 ^ 12 → ∀ T, H2 T = Option.none → Q (.ref T) (upd H2 T (.tup [.str wd, .int m])) := by
          intro m hm hmb T hT
          have hm44 : m.natAbs ≤ 2 ^ 44 := by rw [p44]; omega
          rcases hwd with h | h | h | h | h
          · exact absurd h hfo
          · subst h
            exact q (.ref T) (.plus m) _ (.tup (SqT.of upd_same) (.cons (.str _) (.cons (.int _) .nil))) (ftS_not fun _ e => by cases e) True.intro hm44 (sB.trans (Same.b (same_upd hT))) (hb2.new hT)
          · subst h
            exact q (.ref T) (.times m) _ (.tup (SqT.of upd_same) (.cons (.str _) (.cons (.int _) .nil))) (ftS_not fun _ e => by cases e) (hm rfl) hm44 (sB.trans (Same.b (same_upd hT))) (hb2.new hT)
          · exact absurd h hin
          · subst h
            exact q (.ref T) (.over m) _ (.tup (SqT.of upd_same) (.cons (.str _) (.cons (.int _) .nil))) (ftS_not fun _ e => by cases e) True.intro hm44 (sB.trans (Same.b (same_upd hT))) (hb2.new hT)
        refine iteF ⟨_, rfl, _, rfl, rfl, _, rfl, ?_⟩
        rw [int_eq]
        by_cases hn0 : n = 0
        · rw [decide_eq_true hn0]
          refine iteF ⟨_, rfl, rfl, _, rfl, ?_⟩
          by_cases ht : wd = "times"
          · rw [show decide (V.str wd = V.str "times") = true from decide_eq_true (by rw [ht])]
            exact iteF ⟨two_sz, fun T hT => fin 2 (fun _ => by decide) (by decide) T hT⟩
          · rw [str_ne ht]
            exact iteT ⟨_, rfl, two_sz, fun T hT => fin n (fun e => absurd e ht) hn T hT⟩
        · rw [decide_eq_false hn0]
          exact iteT ⟨_, rfl, two_sz, fun T hT => fin n (fun _ => hn0) hn T hT⟩
end
end RA
end

section
set_option Elab.async false
set_option linter.all false
set_option maxRecDepth 100000
set_option maxHeartbeats 4000000
namespace RA
open PySem PySem.W PySem.Calls PyProof.Rows L2
/-- sorted(xs) of data that can be compared -/
def rSortDat (K : Frag) : List V → Hp → VK → Prop := fun xs H Q => ∃ (a : Addr) (ys : List V) (ds : List PyData), xs = [.ref a] ∧ SqL K H a ys ∧ DpAll K H ys ds ∧ AllAlike ds ∧ Sortable ds ∧ (∀ d ∈ ds, d.depth ≤ 50) ∧
  ∀ p, H p = Option.none → Q (.ref p) (upd H p (.lst ((sortedBy (fun d => d) ys ds).map (·.1))))
theorem call_sortedDat {X : Cx} (hr : Room 1 X.A) : CallR X (.builtin "sorted") (rSortDat X.K) := by
  intro pins s st H xs us Q I rx h
  obtain ⟨a, ys, ds, rfl, hs, hd, hal, hsk, hdep, q⟩ := h
  obtain ⟨u, rfl, ru⟩ := vals1 rx
  obtain rfl : u = Value.ref a := ru
  obtain ⟨its, rv, hl, hz⟩ := I.list hs
  have hlen := dpAll_len hd
  have mk : ∀ qs : List (V × PyData), qs = ys.zip ds → qs.map (fun q => q.2) = ds := fun qs e => by rw [e]; exact List.map_snd_zip (by omega)
  refine sorted_data (vs := its) (bs := ys.zip ds) (enc := fun q => q.2) (R := fun v (q : V × PyData) => RelV q.1 v ∧ ∃ as, Reads s.heap v q.2 as) hl.isList (each_zip I hd rv) ((each_zip I hd rv).mono fun _ _ z => z.2) (by rw [mk _ rfl]; exact hal) (by rw [mk _ rfl]; exact hsk) (by rw [List.length_zip]; omega)
    (fun y hy => by have := hdep y.2 (List.of_mem_zip hy).2; have := hr.un; omega) fun out hol ho => ?_
  have hv : Vals ((sortedBy (fun d => d) ys ds).map (·.1)) out := vals_each (fun _ _ z => z.1) ho
  have hzz : ((sortedBy (fun d => d) ys ds).map (·.1)).length ≤ sizeLine := by
    rw [hv.length, hol, List.length_zip]
    omega
  have fr0 : s.heap.get? (s.heap.objs.size + 1) = Option.none := by
    cases e : s.heap.get? (s.heap.objs.size + 1) with
    | none => rfl
    | some o => exact absurd (Heap.lt_size e) (Nat.not_lt.mpr (Nat.le_succ _))
  obtain ⟨c, hc⟩ := sortedAll_at s.heap its (List.toArray out)
  obtain ⟨fr, I'⟩ := laidN (o := .lst ((sortedBy (fun d => d) ys ds).map (·.1))) (t' := s.toks) (h' := sortedAll s.heap its (List.toArray out)) I (fun b o e => sortedAll_old e) fr0 ⟨hzz, out, c, hv, hc⟩
  exact ⟨.ref _, _, I', rfl, q _ fr⟩
end RA
end

section
set_option Elab.async false
set_option linter.all false
set_option autoImplicit false
set_option maxRecDepth 100000
set_option maxHeartbeats 4000000
set_option exponentiation.threshold 10000
namespace RA
open PySem PySem.Spec PyProof.Rows L2
section
variable {P : Program} {w : World} {K : PySem.W.Frag} {mg : Str → Option Value} {base : Heap}
/-! ## _law_far_column -/
def okCol (c : Col) : Prop := c.lo ≤ c.hi ∧ -(1000000000000 : Int) ≤ c.lo ∧ c.hi ≤ 1000000000000
def spFarCol (K : PySem.W.Frag) : Sp := fun vs H Q _ => ∃ b I, vs = [.ref b] ∧ Bag I H b ∧ ∀ v c H', Dp K H' v (encCol c) → okCol c → SameB b H H' → Bag I H' b → Q v H'
abbrev sFarCol : Stmt := top 64
abbrev nFarCol : List Str := ["_law_bag_here", "_law_ends", "_law_end"]
theorem scFarCol : FnScope nFarCol ["_law_bag_here"] (defScope sFarCol) := ⟨rfl, rfl, rfl, by decide +kernel, rfl, by decide +kernel, by decide +kernel⟩
def clip (i : Int) : Int := max (-1000000000000) (min 1000000000000 i)
theorem clip_mono {i j : Int} (h : i ≤ j) : clip i ≤ clip j := by unfold clip; omega
theorem clip_lo (i : Int) : -1000000000000 ≤ clip i := by unfold clip; omega
theorem clip_hi (i : Int) : clip i ≤ 1000000000000 := by unfold clip; omega
abbrev rMax2 : List V → Hp → VK → Prop := fun xs H Q => ∃ i j, xs = [V.int i, .int j] ∧ Q (.int (if j > i then j else i)) H
abbrev rMin2 : List V → Hp → VK → Prop := fun xs H Q => ∃ i j, xs = [V.int i, .int j] ∧ Q (.int (if j < i then j else i)) H
theorem ok_farCol {f : Addr} {fd : FuncData} (F : Fun K "_law_far_column" "_law_far_column" sFarCol f fd) (B : Bi mg) (Ft : Fd P w K mg base "_law_take" 1 ["_law_bag_here", "_law_many"] spTake) (Fn : Fd P w K mg base "_law_number" 2 ["_law_bag_here"] spNumber) :
    FnOk P w K mg base CX0 3 f fd ["_law_bag_here"] (spFarCol K) := by
  refine F.ok scFarCol (fun vs H Q E h => ?_) (fun cdv A outer s H vs Q E hr h => ?_)
  · obtain ⟨b, I, rfl, _⟩ := h
    rfl
  · obtain ⟨b, I, rfl, hb, q⟩ := h
    have nd := scFarCol.nd
    have hr1 : Room 1 _ := hr.mono (j := 1) (by decide)
    have hC : ∃ t, PSs (cxOf CX0 P w K mg base nFarCol "_law_far_column" (defScope sFarCol) f cdv A outer s H E).nox ((defBody sFarCol).drop 2) t ∧ ∀ (H1 : Hp) (p : Addr) (lo hi : Int), SameB b H H1 → Bag I H1 b → p ≠ b → H1 p = some (.lst [.int lo, .int hi]) → lo ≤ hi → -1000000000000 ≤ lo → hi ≤ 1000000000000 →
        t { nx := fun _ H' => Q .non H', rt := Q } [some (.ref b), some (.ref p), Option.none] H1 := by
      refine ⟨_, pss_cons (ps_if (pt_cmpR op_eq (pe_f Ft hr1 (pa_cons (pv 0) (pa_cons pe_int pa_nil))) pe_int (nomark _)) (pss_one (ps_set nd (i := 1) rfl (Or.inl rfl) (pe_lst (pa_cons (pe_un un_neg (pe_op op_pow pe_int pe_int)) (pa_cons (pe_op op_pow pe_int pe_int) pa_nil))))) pss_nil)
        (pss_one (ps_ret (pe_tup (pa_cons pe_str (pa_cons (pe_ix ix_list (pv 1) pe_int (fun _ _ => rfl)) (pa_cons (pe_ix ix_list (pv 1) pe_int (fun _ _ => rfl)) (pa_cons (pe_cmpR op_eq (pe_f Ft hr1 (pa_cons (pv 0) (pa_cons pe_int pa_nil))) pe_int (nomark _)) (pa_cons (pe_cmpR op_eq (pe_f Ft hr1 (pa_cons (pv 0) (pa_cons pe_int pa_nil))) pe_int (nomark _)) pa_nil)))))))), ?_⟩
      intro H1 p lo hi s1 hb1 hpb hp hle h1 h2
      have fin : ∀ (H2 : Hp) (p : Addr) (lo hi : Int), SameB b H H2 → Bag I H2 b → p ≠ b → H2 p = some (.lst [.int lo, .int hi]) → lo ≤ hi → -1000000000000 ≤ lo → hi ≤ 1000000000000 →
          tTup (tCons (tC (.str "n")) (tCons (tOp (rIxL K) (tVar 1) (tC (.int 0))) (tCons (tOp (rIxL K) (tVar 1) (tC (.int 1))) (tCons (tOp rEq (tCall spTake [] E0 (tCons (tVar 0) (tCons (tC (.int 2)) tNil))) (tC (.int 0))) (tCons (tOp rEq (tCall spTake [] E0 (tCons (tVar 0) (tCons (tC (.int 2)) tNil))) (tC (.int 0))) tNil))))) [some (.ref b), some (.ref p), Option.none] H2 Q := by
        intro H2 p lo hi s2 hb2 hpb hp hle h1 h2
        refine ⟨_, rfl, p, _, 0, _, rfl, rfl, SqL.of hp, at0, _, rfl, p, _, 1, _, rfl, rfl, SqL.of hp, at1, _, rfl, b, I, 2, rfl, by decide, by decide, hb2, fun x H3 _ _ s3 hb3 => ⟨rfl, _, rfl, b, I, 2, rfl, by decide, by decide, hb3, fun y H4 _ _ s4 hb4 => ⟨rfl, five_sz, fun T hT => ?_⟩⟩⟩
        exact q (.ref T) ⟨lo, hi, _, _⟩ _ (.tup (SqT.of upd_same) (.cons (.str _) (.cons (.int _) (.cons (.int _) (.cons (.bl _) (.cons (.bl _) .nil)))))) ⟨hle, h1, h2⟩ (((s2.trans s3).trans s4).trans (Same.b (same_upd hT))) (hb4.new hT)
      refine ⟨_, rfl, b, I, 3, rfl, by decide, by decide, hb1, fun x H2 x0 x1 s2 hb2 => ⟨rfl, _, rfl, ?_⟩⟩
      rw [int_eq]
      by_cases hx : x = 0
      · rw [decide_eq_true hx]
        refine iteT ⟨_, _, rfl, rfl, ⟨by decide, by decide, by decide⟩, _, rfl, _, _, rfl, rfl, ⟨by decide, by decide, by decide⟩, two_sz, fun L hL => ?_⟩
        refine fin _ L _ _ ((s1.trans s2).trans (Same.b (same_upd hL))) (hb2.new hL) (hb2.ne hL) upd_same ?_ ?_ ?_ <;> (rw [p1012]; decide)
      · rw [decide_eq_false hx]
        exact iteF (fin _ p lo hi (s1.trans s2) hb2 hpb (s2 _ _ hpb hp) hle h1 h2)
    obtain ⟨tC', hC1, hC2⟩ := hC
    refine ⟨_, pss_cons (ps_set nd (i := 1) rfl (Or.inl rfl) (pe_callB cr_sorted (by rfl) B.srt_ bt_srt (pa_cons (pe_lst (pa_cons (pe_op op_mul (pe_f Fn hr (pa_cons (pv 0) pa_nil)) (pe_ix ix_list (pe_lst (pa_cons pe_int (pa_cons (pe_op op_pow pe_int pe_int) pa_nil))) (pe_f Ft hr1 (pa_cons (pv 0) (pa_cons pe_int pa_nil))) (fun _ _ => rfl))) (pa_cons (pe_f Fn hr (pa_cons (pv 0) pa_nil)) pa_nil))) pa_nil)))
      (pss_cons (ps_setLc (i := 1) (own := [("_law_end", 2)]) (g := gName 2) (tt := tYes) (te := tCB rMax2 (tCons (tUn (rU fun i => .int (-i)) (tOp (rI CPow fun i j => .int (i ^ j.toNat)) (tC (.int 10)) (tC (.int 12)))) (tCons (tCB rMin2 (tCons (tOp (rI CPow fun i j => .int (i ^ j.toNat)) (tC (.int 10)) (tC (.int 12))) (tCons (tVar 2) tNil))) tNil))) rfl nd rfl rfl (sw_true rfl rfl rfl (by decide +kernel)) (pi_list (pe_callB cr_sorted (by rfl) B.srt_ bt_srt (pa_cons (pv 1) pa_nil))) (blkOk_by (N := nFarCol) (sc := defScope sFarCol) (by decide +kernel))
        (fun _ _ _ _ _ => pg_name (i := 2) nd rfl (Or.inl rfl)) (fun _ _ _ _ _ => pts_nil) (fun _ _ _ _ _ => pe_callB (call_max2 rfl) (by rfl) B.max_ bt_max (pa_cons (pe_un un_neg (pe_op op_pow pe_int pe_int)) (pa_cons (pe_callB (call_min2 rfl) (by rfl) B.min_ bt_min (pa_cons (pe_op op_pow pe_int pe_int) (pa_cons (pv 2) pa_nil))) pa_nil)))) hC1), ?_⟩
    refine ⟨_, rfl, b, I, rfl, hb, fun n1 H1 hn1 s1 hb1 => ⟨_, _, rfl, rfl, ⟨by decide, by decide, by decide⟩, two_sz, fun L hL => ⟨_, rfl, b, I, 2, rfl, by decide, by decide, hb1.new hL, fun t H2 t0 t1 s2 hb2 => ?_⟩⟩⟩
    have hLb : L ≠ b := hb1.ne hL
    have e12 := n1012
    have hm : ∃ e : Int, atI [V.int 1, .int ((10 : Int) ^ (6 : Int).toNat)] t = some (.int e) ∧ e.natAbs ≤ 1000000 := by
      rcases (show t = 0 ∨ t = 1 by omega) with rfl | rfl
      · exact ⟨_, at0, by decide⟩
      · exact ⟨_, at1, by decide⟩
    obtain ⟨e, he1, he2⟩ := hm
    refine ⟨L, _, t, _, rfl, rfl, SqL.of (s2 _ _ hLb upd_same), he1, n1, e, rfl, rfl, .inr (by omega), _, rfl, b, I, rfl, hb2, fun n2 H3 hn2 s3 hb3 => ⟨two_sz, fun M hM => ?_⟩⟩
    have hMb : M ≠ b := hb3.ne hM
    have hb4 := hb3.new (o := .lst [.int (n1 * e), .int n2]) hM
    have sA : SameB b H (upd H3 M (.lst [.int (n1 * e), .int n2])) := ((((s1.trans (Same.b (same_upd hL))).trans s2).trans s3).trans (Same.b (same_upd hM)))
    refine ⟨M, [n1 * e, n2], rfl, SqL.of upd_same, (by show 2 < 64; decide), fun ns p hperm hsort hp => ?_⟩
    have hb5 := hb4.new (o := .lst (ns.map V.int)) hp
    refine ⟨_, rfl, p, ns, rfl, SqL.of upd_same, (by rw [hperm.length_eq]; show 2 < 64; decide), fun ms p2 hperm2 hsort2 hp2 => ?_⟩
    have hlen : ms.length = 2 := by rw [hperm2.length_eq, hperm.length_eq]; rfl
    have hb6 := hb5.new (o := .lst (ms.map V.int)) hp2
    have sB := (sA.trans (Same.b (same_upd (o := .lst (ns.map V.int)) hp))).trans (Same.b (same_upd (o := .lst (ms.map V.int)) hp2))
    refine ⟨p2, rfl, ⟨_, SqL.of upd_same⟩, fun D hD => lcD_list (fun i : Int => some (clip i)) PyData.int PyData.int ms tupD_int tupD_int hD (SqL.of upd_same) (dps_of_ints ms) (by omega) ?_ ?_⟩
    · intro x i H5 Y N hp' hS hx hY hN
      cases dp_int hx
      refine ⟨rfl, ?_⟩
      show if true = true then _ else N H5
      refine iteT ⟨_, _, rfl, rfl, ⟨by decide, by decide, by decide⟩, _, rfl, _, _, rfl, rfl, ⟨by decide, by decide, by decide⟩, _, rfl, _, _, rfl, _, _, rfl, ?_⟩
      refine hY _ (clip i) _ rfl (Same.refl _) ?_
      rw [max_is, min_is, p1012]
      exact .int _
    · intro H5 acc s5 hD5 hd5
      have ea := dps_ints hd5
      rw [show (ms.filterMap fun i : Int => some (clip i)) = ms.map clip by simp] at ea
      obtain ⟨i, j, rfl⟩ : ∃ i j, ms = [i, j] := by
        rcases ms with _ | ⟨i, _ | ⟨j, _ | ⟨k, r⟩⟩⟩ <;> simp at hlen
        exact ⟨i, j, rfl⟩
      have hij : i ≤ j := by simpa using hsort2
      subst ea
      exact hC2 H5 D (clip i) (clip j) (sB.trans (Same.b s5)) (hb6.same s5) ((hb6.ne hD)) hD5 (clip_mono hij) (clip_lo i) (clip_hi j)
/-! ## tests in the heap -/
def TsA (K : PySem.W.Frag) (H : Hp) (v : V) (t : Tst) : Prop := okT t ∧ ∃ a b xs, v = .ref a ∧ SqT K H a [.str "asks", .str "n", .ref b, .str (signS t.sign), .int t.n] ∧ SqT K H b xs ∧ AllR (fun u s => Dp K H u (encS s) ∧ FtS K H u s) xs t.steps
theorem allR_dps2 {γ : Type} {H : Hp} {e : γ → PyData} {acc : List V} {out : List γ} (h : AllR (fun v c => Dp K H v (e c)) acc out) : DpAll K H acc (out.map e) := allR_dps (f := fun _ _ => .none) h
theorem TsA.dp {H : Hp} {v : V} {t : Tst} (h : TsA K H v t) : Dp K H v (encT t) := by
  obtain ⟨_, a, b, xs, rfl, h1, h2, h3⟩ := h
  exact .tup h1 (.cons (.str _) (.cons (.str _) (.cons (.tup h2 (allR_dps2 (h3.imp fun _ _ z => z.1))) (.cons (.str _) (.cons (.int _) .nil)))))
theorem FtS.mono {H H' : Hp} {v : V} {s : Stp} (ht : ∀ a xs, SqT K H a xs → SqT K H' a xs) (hf : ∀ a xs, FTup H a xs → FTup H' a xs) (h : FtS K H v s) : FtS K H' v s := by
  intro ps e
  obtain ⟨a, q, ys, rfl, h1, h2, h3⟩ := h ps e
  exact ⟨a, q, ys, rfl, ht _ _ h1, hf _ _ h2, DpAll.keepT ht _ _ (tupDs_map tupD_q _) h3⟩
theorem TsA.mono {H H' : Hp} {v : V} {t : Tst} (ht : ∀ a xs, SqT K H a xs → SqT K H' a xs) (hf : ∀ a xs, FTup H a xs → FTup H' a xs) (h : TsA K H v t) : TsA K H' v t := by
  obtain ⟨h0, a, b, xs, rfl, h1, h2, h3⟩ := h
  exact ⟨h0, a, b, xs, rfl, ht _ _ h1, ht _ _ h2, h3.imp fun u s z => ⟨Dp.keepT ht _ _ (tupD_s s) z.1, z.2.mono ht hf⟩⟩
theorem ftup_same {H H' : Hp} {a : Addr} {xs : List V} (s : Same H H') (h : FTup H a xs) : FTup H' a xs := by
  obtain ⟨o, h1, h2⟩ := h
  exact ⟨o, s _ _ h1, h2⟩
theorem ftup_b {H H' : Hp} {b a : Addr} {xs : List V} (hb : ∃ ys, H b = some (.lst ys)) (s : SameB b H H') (h : FTup H a xs) : FTup H' a xs := by
  obtain ⟨o, h1, h2⟩ := h
  obtain ⟨ys, hb⟩ := hb
  exact ⟨o, s _ _ (by rintro rfl; rw [hb] at h1; cases h1) h1, h2⟩
theorem ftup_updL {H : Hp} {D a : Addr} {fs fs' xs : List V} (hD : H D = some (.lst fs)) (h : FTup H a xs) : FTup (upd H D (.lst fs')) a xs := by
  obtain ⟨o, h1, h2⟩ := h
  exact ⟨o, by rw [upd_ne (by rintro rfl; rw [hD] at h1; cases h1)]; exact h1, h2⟩
theorem TsA.same {H H' : Hp} {v : V} {t : Tst} (s : Same H H') (h : TsA K H v t) : TsA K H' v t := h.mono (fun _ _ z => z.ext s) (fun _ _ z => ftup_same s z)
theorem TsA.b {H H' : Hp} {v : V} {t : Tst} {b : Addr} (hb : ∃ ys, H b = some (.lst ys)) (s : SameB b H H') (h : TsA K H v t) : TsA K H' v t := h.mono (fun _ _ z => sqt_b hb s z) (fun _ _ z => ftup_b hb s z)
theorem TsA.updL {H : Hp} {v : V} {t : Tst} {D : Addr} {fs fs' : List V} (hD : H D = some (.lst fs)) (h : TsA K H v t) : TsA K (upd H D (.lst fs')) v t := h.mono (fun _ _ z => sqt_updL hD z) (fun _ _ z => ftup_updL hD z)
/-! ## _law_far_test -/
def spFarTest (K : PySem.W.Frag) : Sp := fun vs H Q _ => ∃ b I, vs = [.ref b] ∧ Bag I H b ∧ ∀ v t H', TsA K H' v t → SameB b H H' → Bag I H' b → Q v H'
abbrev sFarTest : Stmt := top 65
abbrev nFarTest : List Str := ["_law_bag_here", "_law_steps", "_law_k"]
theorem scFarTest : FnScope nFarTest ["_law_bag_here"] (defScope sFarTest) := ⟨rfl, rfl, rfl, by decide +kernel, rfl, by decide +kernel, by decide +kernel⟩
theorem six_sz : 6 ≤ sizeLine := by decide
theorem ok_farTest {f : Addr} {fd : FuncData} (F : Fun K "_law_far_test" "_law_far_test" sFarTest f fd) (B : Bi mg) (Ft : Fd P w K mg base "_law_take" 1 ["_law_bag_here", "_law_many"] spTake) (Fn : Fd P w K mg base "_law_number" 2 ["_law_bag_here"] spNumber)
    (Fo : Fd P w K mg base "_law_one" 2 ["_law_bag_here", "_law_things"] (spOne K)) (Fs : Fd P w K mg base "_law_step" 3 ["_law_bag_here"] (spStep K)) : FnOk P w K mg base CX0 4 f fd ["_law_bag_here"] (spFarTest K) := by
  refine F.ok scFarTest (fun vs H Q E h => ?_) (fun cdv A outer s H vs Q E hr h => ?_)
  · obtain ⟨b, I, rfl, _⟩ := h
    rfl
  · obtain ⟨b, I, rfl, hb, q⟩ := h
    have nd := scFarTest.nd
    have hr1 : Room 1 _ := hr.mono (j := 1) (by decide)
    have hr2 : Room 2 _ := hr.mono (j := 2) (by decide)
    refine ⟨_, pss_cons (ps_set nd (i := 1) rfl (Or.inl rfl) (pe_callTy call_tupOf (by rfl) B.tup_ bt_tup (pa_cons (pe_lc (own := [("_law_k", 2)]) (g := gName 2) (tt := tYes) (te := tCall (spStep K) [] E0 (tCons (tVar 0) tNil)) rfl nd (pi_range1 (by rfl) B.rng_ (pa_cons (pe_f Ft hr1 (pa_cons (pv 0) (pa_cons pe_int pa_nil))) pa_nil)) (blkOk_by (N := nFarTest) (sc := defScope sFarTest) (by decide +kernel))
        (fun _ _ _ _ _ => pg_name (i := 2) nd rfl (Or.inl rfl)) (fun _ _ _ _ _ => pts_nil) (fun _ _ _ _ _ => pe_f Fs hr (pa_cons (pv 0) pa_nil))) pa_nil)))
      (pss_one (ps_ret (pe_tup (pa_cons pe_str (pa_cons pe_str (pa_cons (pv 1) (pa_cons (pe_f Fo hr2 (pa_cons (pv 0) (pa_cons (pe_lst (pa_cons pe_str (pa_cons pe_str (pa_cons pe_str (pa_cons pe_str (pa_cons pe_str (pa_cons pe_str pa_nil))))))) pa_nil))) (pa_cons (pe_f Fn hr2 (pa_cons (pv 0) pa_nil)) pa_nil)))))))), ?_⟩
    refine ⟨_, rfl, b, I, 5, rfl, by decide, by decide, hb, fun n H1 n0 n1 s1 hb1 => ⟨n, rfl, by omega, by omega, fun D hD => ?_⟩⟩
    have hDb : D ≠ b := hb1.ne hD
    refine lcB (J := Itr 0 n.toNat) (xs := (rgI 0 n.toNat).map V.int) (fun (_ : Int) (s : Stp) => okS s ∧ bdS s) (fun _ => False) (fun v i => v = V.int i) (fun H v s => Dp K H v (encS s) ∧ FtS K H v s) (rgI 0 n.toNat)
      (fun _ _ _ c hb s h => ⟨dp_b hb.lst s (tupD_s c) h.1, h.2.mono (fun _ _ z => sqt_b hb.lst s z) (fun _ _ z => ftup_b hb.lst s z)⟩) (fun _ _ c _ _ e h => ⟨dp_updL e (tupD_s c) h.1, h.2.mono (fun _ _ z => sqt_updL e z) (fun _ _ z => ftup_updL e z)⟩) hb1 hD (rg_all _ _) (by rw [rg_len]; omega)
      (fun i H hi _ => by show i < _; simpa [rg_len] using hi) (fun H _ => by show _ ≤ _; simp [rg_len]) (fun i H z H' hi _ hyl => rg_yld (by simpa [rg_len] using hi) hyl) ?_ ?_
    · rintro z k H3 Y N hk rfl s3 hb3 hY hN
      refine ⟨rfl, ?_⟩
      show if true = true then _ else N H3
      exact iteT ⟨_, rfl, b, I, rfl, hb3, fun v s H4 hd hf ho hbd s4 hb4 => hY v s H4 ⟨ho, hbd⟩ s4 hb4 ⟨hd, hf⟩⟩
    · intro H3 acc ss s3 hb3 hD3 hr3 ho3
      have hss := lb_all (p := fun s => okS s ∧ bdS s) (fun a b h => h) ho3
      have hsl := lb_len ho3
      rw [rg_len] at hsl
      refine ⟨D, acc, rfl, .inl ⟨SqL.of hD3, fun L hL => ?_⟩⟩
      have hb4 := hb3.new (o := .tup acc) hL
      have sA := (s1.trans s3).trans (Same.b (same_upd (o := .tup acc) hL))
      have hst : AllR (fun u s => Dp K (upd H3 L (.tup acc)) u (encS s) ∧ FtS K (upd H3 L (.tup acc)) u s) acc ss := hr3.imp fun u s z => ⟨Dp.same (same_upd hL) z.1, z.2.mono (fun _ _ y => y.ext (same_upd hL)) (fun _ _ y => ftup_same (same_upd hL) y)⟩
      have hLt : SqT K (upd H3 L (.tup acc)) L acc := SqT.of upd_same
      generalize upd H3 L (.tup acc) = H4 at hb4 sA hst hLt ⊢
      refine ⟨_, rfl, _, rfl, six_sz, fun M hM => ⟨b, I, M, _, rfl, hb4.new hM, SqL.of upd_same, hb4.ne hM, by decide, by decide, fun x H5 hx s5 hb5 => ?_⟩⟩
      have hsg : ∃ sg : Sgn, x = .str (signS sg) := by
        simp at hx
        rcases hx with rfl | rfl | rfl | rfl | rfl | rfl
        · exact ⟨.lt, rfl⟩
        · exact ⟨.le, rfl⟩
        · exact ⟨.ne, rfl⟩
        · exact ⟨.eq, rfl⟩
        · exact ⟨.gt, rfl⟩
        · exact ⟨.ge, rfl⟩
      obtain ⟨sg, rfl⟩ := hsg
      refine ⟨_, rfl, b, I, rfl, hb5, fun m H6 hm s6 hb6 => ⟨five_sz, fun T hT => ?_⟩⟩
      have sB : SameB b H4 (upd H6 T (.tup [.str "asks", .str "n", .ref L, .str (signS sg), .int m])) := (((Same.b (same_upd hM)).trans s5).trans s6).trans (Same.b (same_upd hT))
      have e12 := n1012
      refine q (.ref T) ⟨ss, sg, m⟩ _ ⟨⟨hss, by show ss.length ≤ 4; omega, by show m.natAbs ≤ 2 ^ 44; rw [p44]; omega⟩, T, L, acc, rfl, SqT.of upd_same, sqt_b hb4.lst sB hLt, hst.imp fun u s z => ⟨dp_b hb4.lst sB (tupD_s s) z.1, z.2.mono (fun _ _ y => sqt_b hb4.lst sB y) (fun _ _ y => ftup_b hb4.lst sB y)⟩⟩ (sA.trans sB) (hb6.new hT)
end
end RA
end

section
set_option Elab.async false
set_option linter.all false
set_option autoImplicit false
set_option maxRecDepth 100000
set_option maxHeartbeats 4000000
set_option exponentiation.threshold 10000
namespace RA
open PySem PySem.Spec PyProof.Rows L2
/-! ## a dict made of pairs -/
theorem merge_new : ∀ (more acc : List (Key × V)), ((acc ++ more).map (·.1)).Nodup → mergeK acc more = acc ++ more
  | [], acc, _ => by simp [mergeK]
  | e :: more, acc, h => by
    have hv : valV acc e.1 = Option.none := by
      cases hv : valV acc e.1 with
      | none => rfl
      | some v =>
        unfold valV at hv
        obtain ⟨kv, h1, _⟩ := Option.map_eq_some_iff.mp hv
        have h2 := List.mem_of_find?_eq_some h1
        have h3 : kv.1 = e.1 := by simpa using List.find?_some h1
        rw [List.map_append, List.nodup_append] at h
        exact absurd h3 (h.2.2 kv.1 (List.mem_map.mpr ⟨kv, h2, rfl⟩) e.1 (by simp))
    have ih := merge_new more (acc ++ [(e.1, e.2)]) (by simpa using h)
    show mergeK (putK acc e.1 e.2) more = _
    rw [putK_new e.2 hv, ih]
    simp
def kvQ (q : Int × Int) : Key × V := (.inl q.1, .int q.2)
theorem kvQ_nodup {ps : List (Int × Int)} (h : (ps.map (·.1)).Nodup) : ((ps.map kvQ).map (·.1)).Nodup := by
  rw [List.map_map]
  unfold List.Nodup at h ⊢
  rw [List.pairwise_map] at h ⊢
  exact h.imp fun hab e => hab (Sum.inl.inj e)
theorem val_kvQ (x : Int) : ∀ ps : List (Int × Int), valV (ps.map kvQ) (.inl x) = (lookP ps x).map V.int
  | [] => rfl
  | q :: ps => by
    have ih := val_kvQ x ps
    unfold valV lookP at ih ⊢
    by_cases e : q.1 = x
    · subst e
      simp [kvQ]
    · have e1 : ¬ (kvQ q).1 = .inl x := fun z => e (Sum.inl.inj z)
      rw [List.map_cons, List.find?_cons_of_neg (by simpa using e1), List.find?_cons_of_neg (by simpa using e)]
      exact ih
section
variable {P : Program} {w : World} {K : PySem.W.Frag} {mg : Str → Option Value} {base : Heap}
theorem pairs_refs {H : Hp} : ∀ {ps : List (Int × Int)} {ys : List V}, DpAll K H ys (ps.map encQ) → ∃ as : List Addr, ys = as.map V.ref ∧ Paired (fun (p : Addr) (kv : Key × V) => SqT K H p [kV kv.1, kv.2]) as (ps.map kvQ)
  | [], ys, h => ⟨[], dps_nil h, .nil⟩
  | q :: ps, ys, h => by
    obtain ⟨v, r, rfl, h1, h2⟩ := dps_cons h
    obtain ⟨a, rfl, ha⟩ := dp_q h1
    obtain ⟨as, rfl, hp⟩ := pairs_refs h2
    exact ⟨a :: as, rfl, .cons ha hp⟩
/-! ## _law_led -/
def spLed (K : PySem.W.Frag) : Sp := fun vs H Q _ => ∃ a xs ss x, vs = [.ref a, .int x] ∧ SqT K H a xs ∧ AllR (fun u s => Dp K H u (encS s) ∧ FtS K H u s) xs ss ∧ (∀ s ∈ ss, okS s ∧ bdS s) ∧ ss.length ≤ 8 ∧ x.natAbs < 2 ^ 50 ∧ ∀ H', Same H H' → Q (endV (stepsOn ss x)) H'
abbrev sLed : Stmt := top 61
abbrev nLed : List Str := ["_law_steps", "_law_number_here", "_law_word", "_law_k", "_law_known"]
theorem scLed : FnScope nLed ["_law_steps", "_law_number_here"] (defScope sLed) := ⟨rfl, rfl, rfl, by decide +kernel, rfl, by decide +kernel, by decide +kernel⟩
theorem ok_led {f : Addr} {fd : FuncData} (F : Fun K "_law_led" "_law_led" sLed f fd) (B : Bi mg) : FnOk P w K mg base CX0 1 f fd ["_law_steps", "_law_number_here"] (spLed K) := by
  refine F.ok scLed (fun vs H Q E h => ?_) (fun cdv A outer s H vs Q E hr h => ?_)
  · obtain ⟨a, xs, ss, x, rfl, _⟩ := h
    rfl
  · obtain ⟨a, xs, ss, x, rfl, ha, hx, hok, hlen, hx0, q⟩ := h
    have nd := scLed.nd
    have hu : (A.deeper (envOfC "_law_led" (defScope sLed) s.heap.objs.size f cdv)).units + 1 < cLine := by have := hu1 hr; omega
    refine ⟨_, pss_cons (ps_for PassesOwn.never rfl (pi_tup (pv 0)) (pg_tup rfl (pgs_cons (pg_name (i := 2) nd rfl (Or.inl rfl)) (pgs_cons (pg_name (i := 3) nd rfl (Or.inl rfl)) pgs_nil)))
        (pss_one (ps_if (pt_cmpR op_eq (pv 2) pe_str (nomark _)) (pss_one (ps_set nd (i := 1) rfl (Or.inl rfl) (pe_op op_add (pv 1) (pv 3))))
        (pss_one (ps_if (pt_cmpR op_eq (pv 2) pe_str (nomark _)) (pss_one (ps_set nd (i := 1) rfl (Or.inl rfl) (pe_op op_mulW (pv 1) (pv 3))))
        (pss_one (ps_if (pt_cmpR op_eq (pv 2) pe_str (nomark _)) (pss_one (ps_set nd (i := 1) rfl (Or.inl rfl) (pe_op op_fdivA (pv 1) (pv 3))))
        (pss_one (ps_if (pt_cmpR op_eq (pv 2) pe_str (nomark _)) (pss_cons (ps_if (pt_cmpR op_eq (pv 1) pe_int (nomark _)) (pss_one (ps_ret pe_non)) pss_nil) (pss_one (ps_set nd (i := 1) rfl (Or.inl rfl) (pe_op op_fdivA (pv 3) (pv 1)))))
        (pss_cons (ps_set nd (i := 4) rfl (Or.inl rfl) (pe_callTy (call_dictT rfl) (by rfl) B.dct_ bt_dct (pa_cons (pv 3) pa_nil)))
        (pss_cons (ps_if (pt_cmp (pc_dnotin hu (pv 1) (pv 4)) (by rfl)) (pss_one (ps_ret pe_non)) pss_nil)
        (pss_one (ps_set nd (i := 1) rfl (Or.inl rfl) (pe_dget hu (pv 4) (pv 1) (fun _ _ => rfl)))))))))))))))
      (pss_one (ps_ret (pv 1))), ?_⟩
    refine ⟨_, rfl, a, rfl, ⟨xs, ha⟩, for_tup (xs := xs) (fun i σ H' => ∃ n c d e, σ = [some (.ref a), some (.int n), c, d, e] ∧ Same H H' ∧ n.natAbs < 2 ^ (50 + 50 * i) ∧ stepsOn ss x = stepsOn (ss.drop i) n) ?_ ?_ ?_ ?_⟩
    · exact ⟨x, _, _, _, rfl, Same.refl _, hx0, rfl⟩
    · rintro i σ H' _ ⟨n, c, d, e, rfl, s1, _⟩
      exact ha.ext s1
    · rintro i z σ H' hzi ⟨n, c, d, e, rfl, s1, hn, he⟩
      obtain ⟨p, hp, hd2, hft⟩ := hx.get hzi
      obtain ⟨hil, hpe⟩ := List.getElem?_eq_some_iff.mp hp
      have hpm : p ∈ ss := List.mem_of_getElem? hp
      have hn5 : n.natAbs < 2 ^ 500 := Nat.lt_of_lt_of_le hn (Nat.pow_le_pow_right (by decide) (by omega))
      have ed : ss.drop i = p :: ss.drop (i + 1) := by rw [List.drop_eq_getElem_cons hil, hpe]
      obtain ⟨hok1, hbd⟩ := hok p hpm
      have goY : ∀ y, stepOn p n = some y → y.natAbs < 2 ^ (50 + 50 * (i + 1)) ∧ stepsOn ss x = stepsOn (ss.drop (i + 1)) y := by
        intro y hy
        have := stepOn_bd hbd hn hy
        refine ⟨by rw [show 50 + 50 * (i + 1) = 50 + 50 * i + 50 by omega]; exact this, ?_⟩
        rw [he, ed]
        rw [show stepsOn (p :: ss.drop (i + 1)) n = (match stepOn p n with | none => none | some y => stepsOn (ss.drop (i + 1)) y) from rfl, hy]
      have goN : stepOn p n = none → stepsOn ss x = none := by
        intro hy
        rw [he, ed, show stepsOn (p :: ss.drop (i + 1)) n = (match stepOn p n with | none => none | some y => stepsOn (ss.drop (i + 1)) y) from rfl, hy]
      by_cases hf : ∃ ps, p = .found ps
      · obtain ⟨ps, rfl⟩ := hf
        obtain ⟨a2, q2, ys, rfl, e1, e2, e3⟩ := (hft.mono (fun _ _ z => z.ext s1) (fun _ _ z => ftup_same s1 z)) ps rfl
        obtain ⟨as, rfl, hpr⟩ := pairs_refs e3
        refine ⟨a2, _, rfl, e1, rfl, _, _, rfl, _, _, rfl, rfl, _, rfl, rfl, _, rfl, ?_⟩
        refine iteF ⟨_, rfl, rfl, _, rfl, iteF ⟨_, rfl, rfl, _, rfl, iteF ⟨_, rfl, rfl, _, rfl, iteF ⟨_, rfl, q2, as, ps.map kvQ, rfl, e2, hpr, fun d hd => ?_⟩⟩⟩⟩
        have hnd : (ps.map (·.1)).Nodup := hok1
        rw [merge_new (ps.map kvQ) [] (by simpa using kvQ_nodup hnd), List.nil_append]
        have s2 : Same H' (upd H' d (.dK (ps.map kvQ))) := same_upd hd
        have hg : DGet (upd H' d (.dK (ps.map kvQ))) d (.int n) ((lookP ps n).map V.int) := by
          have := DGet.k (k := .inl n) (upd_same (H := H') (a := d) (o := .dK (ps.map kvQ)))
          rw [val_kvQ] at this
          exact this
        refine ⟨_, rfl, _, rfl, d, _, rfl, hg, _, rfl, ?_⟩
        cases hlk : lookP ps n with
        | none =>
          have := goN hlk
          rw [this] at q
          exact iteT (q _ (s1.trans s2))
        | some y =>
          obtain ⟨g1, g2⟩ := goY _ hlk
          rw [hlk] at hg
          exact iteF ⟨_, rfl, _, rfl, d, _, rfl, hg, _, _, _, _, rfl, s1.trans s2, g1, g2⟩
      have hnf : ∀ ps, p ≠ .found ps := fun ps e => hf ⟨ps, e⟩
      have hdz := Dp.same s1 hd2
      obtain ⟨b, u, rfl, hb, hu'⟩ := dp_s hdz
      refine ⟨b, _, rfl, hb, rfl, _, _, rfl, _, _, rfl, rfl, _, rfl, rfl, _, rfl, ?_⟩
      cases p with
      | plus k =>
        cases dp_int hu'
        obtain ⟨g1, g2⟩ := goY _ rfl
        exact iteT ⟨_, rfl, _, rfl, _, _, rfl, rfl, _, _, _, _, rfl, s1, g1, g2⟩
      | times k =>
        cases dp_int hu'
        obtain ⟨g1, g2⟩ := goY _ rfl
        have hk : k.natAbs ≤ 2 ^ 44 := hbd
        exact iteF ⟨_, rfl, rfl, _, rfl, iteT ⟨_, rfl, _, rfl, _, _, rfl, rfl, wide_mul hn5 (Nat.lt_of_le_of_lt hk (Nat.pow_lt_pow_right (a := 2) (m := 44) (n := 45) (by decide) (by decide))) (by decide) (by decide) (by decide), _, _, _, _, rfl, s1, g1, g2⟩⟩
      | into k =>
        cases dp_int hu'
        obtain ⟨g1, g2⟩ := goY _ rfl
        have hk : k.natAbs ≤ 2 ^ 44 := hbd
        have hk1 : 1 ≤ k := hok1
        exact iteF ⟨_, rfl, rfl, _, rfl, iteF ⟨_, rfl, rfl, _, rfl, iteT ⟨_, rfl, _, rfl, _, _, rfl, rfl, ⟨by omega, log_of (n := 45) (by omega) (by decide)⟩, _, _, _, _, rfl, s1, g1, g2⟩⟩⟩
      | over k =>
        cases dp_int hu'
        refine iteF ⟨_, rfl, rfl, _, rfl, iteF ⟨_, rfl, rfl, _, rfl, iteF ⟨_, rfl, rfl, _, rfl, iteT ⟨_, rfl, rfl, _, rfl, ?_⟩⟩⟩⟩
        rw [int_eq]
        by_cases h0 : n = 0
        · subst h0
          have := goN rfl
          rw [this] at q
          exact iteT (q H' s1)
        · have e : stepOn (.over k) n = some (k.fdiv n) := by
            show (if n = 0 then none else some (k.fdiv n)) = _
            rw [if_neg h0]
          obtain ⟨g1, g2⟩ := goY _ e
          rw [decide_eq_false h0]
          exact iteF ⟨_, rfl, _, rfl, _, _, rfl, rfl, ⟨h0, log_of hn5 (by decide)⟩, _, _, _, _, rfl, s1, g1, g2⟩
      | found ps => exact absurd rfl (hnf ps)
    · rintro σ H' ⟨n, c, d, e, rfl, s1, hn, he⟩
      have exl : xs.length = ss.length := hx.1
      rw [exl, List.drop_length] at he
      have e2 : stepsOn ss x = some n := he
      rw [e2] at q
      exact ⟨_, rfl, q H' s1⟩
end
end RA
end

section
set_option Elab.async false
set_option linter.all false
set_option autoImplicit false
set_option maxRecDepth 100000
set_option maxHeartbeats 4000000
set_option exponentiation.threshold 10000
namespace RA
open PySem PySem.Spec PyProof.Rows L2
section
variable {P : Program} {w : World} {K : PySem.W.Frag} {mg : Str → Option Value} {base : Heap}
/-! ## _law_so -/
def spSo : Sp := fun vs H Q _ => ∃ s x n, vs = [.str (signS s), .int x, .int n] ∧ ∀ H', Same H H' → Q (.bl (isSo x s n)) H'
abbrev sSo : Stmt := top 62
abbrev nSo : List Str := ["_law_sign", "_law_number_here", "_law_n", "_law_some"]
theorem scSo : FnScope nSo ["_law_sign", "_law_number_here", "_law_n"] (defScope sSo) := ⟨rfl, rfl, rfl, by decide +kernel, rfl, by decide +kernel, by decide +kernel⟩
theorem ok_so {f : Addr} {fd : FuncData} (F : Fun K "_law_so" "_law_so" sSo f fd) : FnOk P w K mg base CX0 1 f fd ["_law_sign", "_law_number_here", "_law_n"] spSo := by
  refine F.ok scSo (fun vs H Q E h => ?_) (fun cdv A outer s H vs Q E hr h => ?_)
  · obtain ⟨sg, x, n, rfl, _⟩ := h
    rfl
  · obtain ⟨sg, x, n, rfl, q⟩ := h
    have nd := scSo.nd
    have hu : (A.deeper (envOfC "_law_so" (defScope sSo) s.heap.objs.size f cdv)).units + 1 < cLine := by have := hu1 hr; omega
    refine ⟨_, pss_cons (ps_set nd (i := 3) rfl (Or.inl rfl) (pe_disp (pps_cons pe_str (pe_cmpR op_lt (pv 1) (pv 2) (nomark _)) (pps_cons pe_str (pe_cmpR op_le (pv 1) (pv 2) (nomark _)) (pps_cons pe_str (pe_cmpR op_ne (pv 1) (pv 2) (nomark _)) (pps_cons pe_str (pe_cmpR op_eq (pv 1) (pv 2) (nomark _)) (pps_cons pe_str (pe_cmpR op_gt (pv 1) (pv 2) (nomark _)) pps_nil))))) (by rfl) (by rfl) (fun z => by cases z) (by decide)))
      (pss_one (ps_ret (pe_dget2 hu (pv 3) (pv 0) (pe_cmpR op_ge (pv 1) (pv 2) (nomark _)) ⟨rfl, rfl, rfl, rfl⟩))), ?_⟩
    intro d hd
    refine ⟨_, rfl, _, rfl, _, _, rfl, rfl, _, rfl, _, rfl, _, _, rfl, rfl, _, rfl, _, rfl, rfl, _, rfl, _, rfl, rfl, _, rfl, _, rfl, _, _, rfl, rfl, ?_⟩
    refine ⟨upd_same, [(.inr "<", .bl (decide (x < n))), (.inr "<=", .bl (decide (x ≤ n))), (.inr "<>", .bl (!decide (V.int x = V.int n))), (.inr "=", .bl (decide (V.int x = V.int n))), (.inr ">", .bl (decide (n < x)))], rfl, (by show 5 ≤ 15; decide), ?_⟩
    obtain ⟨kvs, hkv⟩ : ∃ kvs, kvs = mergeK [] [((.inr "<" : Key), V.bl (decide (x < n))), (.inr "<=", .bl (decide (x ≤ n))), (.inr "<>", .bl (!decide (V.int x = V.int n))), (.inr "=", .bl (decide (V.int x = V.int n))), (.inr ">", .bl (decide (n < x)))] := ⟨_, rfl⟩
    have w1 : valV kvs (.inr "<") = some (.bl (decide (x < n))) := by rw [hkv]; rfl
    have w2 : valV kvs (.inr "<=") = some (.bl (decide (x ≤ n))) := by rw [hkv]; rfl
    have w3 : valV kvs (.inr "<>") = some (.bl (!decide (V.int x = V.int n))) := by rw [hkv]; rfl
    have w4 : valV kvs (.inr "=") = some (.bl (decide (V.int x = V.int n))) := by rw [hkv]; rfl
    have w5 : valV kvs (.inr ">") = some (.bl (decide (n < x))) := by rw [hkv]; rfl
    have w6 : valV kvs (.inr ">=") = Option.none := by rw [hkv]; rfl
    rw [← hkv]
    have sF : Same H (upd (upd H d (.dK [])) d (.dK kvs)) := same_own (same_upd hd) hd
    have hp7 : upd (upd H d (.dK [])) d (.dK kvs) d = some (.dK kvs) := upd_same
    refine ⟨_, rfl, d, rfl, .inl ⟨kvs, .inl hp7⟩, _, rfl, _, rfl, _, rfl, _, _, rfl, rfl, _, DGet.k (k := .inr (signS sg)) hp7, ?_⟩
    have q1 := q _ sF
    cases sg with
    | lt => rw [show valV kvs (.inr (signS .lt)) = _ from w1]; exact q1
    | le => rw [show valV kvs (.inr (signS .le)) = _ from w2]; exact q1
    | ne => rw [show valV kvs (.inr (signS .ne)) = _ from w3, int_eq]; exact q1
    | eq => rw [show valV kvs (.inr (signS .eq)) = _ from w4, int_eq]; exact q1
    | gt => rw [show valV kvs (.inr (signS .gt)) = _ from w5]; exact q1
    | ge => rw [show valV kvs (.inr (signS .ge)) = _ from w6]; exact q1
/-! ## _law_told -/
def spToldL (K : PySem.W.Frag) : Sp := fun vs H Q _ => ∃ v d t z, vs = [v, .ref d] ∧ TsA K H v t ∧ H d = some (.dK [(.inr "n", v3 z)]) ∧ bd3 z ∧ ∀ H', Same H H' → Q (.str (strA (ansOf t z))) H'
abbrev sToldL : Stmt := top 63
abbrev nToldL : List Str := ["_law_leaf", "_law_row", "_law_value", "_law_number_here"]
theorem scToldL : FnScope nToldL ["_law_leaf", "_law_row"] (defScope sToldL) := ⟨rfl, rfl, rfl, by decide +kernel, rfl, by decide +kernel, by decide +kernel⟩
theorem ok_toldL {f : Addr} {fd : FuncData} (F : Fun K "_law_told" "_law_told" sToldL f fd) (B : Bi mg) (Fl : Fd P w K mg base "_law_led" 1 ["_law_steps", "_law_number_here"] (spLed K)) (Fs : Fd P w K mg base "_law_so" 1 ["_law_sign", "_law_number_here", "_law_n"] spSo) : FnOk P w K mg base CX0 2 f fd ["_law_leaf", "_law_row"] (spToldL K) := by
  refine F.ok scToldL (fun vs H Q E h => ?_) (fun cdv A outer s H vs Q E hr h => ?_)
  · obtain ⟨v, d, t, z, rfl, _⟩ := h
    rfl
  · obtain ⟨v, d, t, z, rfl, ⟨hok, a, b, xs, rfl, ha, hb, hst⟩, hd, hz, q⟩ := h
    have nd := scToldL.nd
    have hu : (A.deeper (envOfC "_law_told" (defScope sToldL) s.heap.objs.size f cdv)).units + 1 < cLine := by have := hu1 hr; omega
    refine ⟨_, pss_cons (ps_if (pt_cmpR op_eq (pe_ix ix_tup (pv 0) pe_int (fun _ _ => rfl)) pe_str (nomark _)) pss_never pss_nil)
      (pss_cons (ps_set nd (i := 2) rfl (Or.inl rfl) (pe_dget hu (pv 1) (pe_ix ix_tup (pv 0) pe_int (fun _ _ => rfl)) (fun _ _ => rfl)))
      (pss_cons (ps_if (pt_cmpR op_eq (pe_ix ix_tup (pv 0) pe_int (fun _ _ => rfl)) pe_str (nomark _)) pss_never pss_nil)
      (pss_cons (ps_if (pt_cmpR op_isN (pv 2) pe_non (nomark _)) (pss_one (ps_ret pe_str)) pss_nil)
      (pss_cons (ps_if (pt_cmpR op_eq (pe_ix ix_tup (pv 0) pe_int (fun _ _ => rfl)) pe_str (nomark _)) pss_never pss_nil)
      (pss_cons (ps_set nd (i := 3) rfl (Or.inl rfl) (pe_ifExp (pt_val (pe_callB call_isi (by rfl) B.isi bt_isi (pa_cons (pv 2) (pa_cons (pe_ty B.str_ bt_str) pa_nil)))) pe_non (pe_f Fl hr (pa_cons (pe_ix ix_tup (pv 0) pe_int (fun _ _ => rfl)) (pa_cons (pv 2) pa_nil)))))
      (pss_cons (ps_if (pt_cmpR op_isN (pv 3) pe_non (nomark _)) (pss_one (ps_ret pe_str)) pss_nil)
      (pss_one (ps_ret (pe_ifExp (pt_val (pe_f Fs hr (pa_cons (pe_ix ix_tup (pv 0) pe_int (fun _ _ => rfl)) (pa_cons (pv 3) (pa_cons (pe_ix ix_tup (pv 0) pe_int (fun _ _ => rfl)) pa_nil))))) pe_str pe_str))))))))), ?_⟩
    refine ⟨_, rfl, a, _, 0, _, rfl, rfl, ha, at0, rfl, _, rfl, iteF ⟨_, rfl, _, rfl, a, _, 1, _, rfl, rfl, ha, at1, d, v3 z, rfl, DGet.k (k := .inr "n") hd, ?_⟩⟩
    refine ⟨_, rfl, a, _, 0, _, rfl, rfl, ha, at0, rfl, _, rfl, iteF ⟨_, rfl, rfl, _, rfl, ?_⟩⟩
    cases z with
    | non => exact iteT (q _ (Same.refl _))
    | txt sx =>
      exact iteF ⟨_, rfl, a, _, 0, _, rfl, rfl, ha, at0, rfl, _, rfl, iteF ⟨_, rfl, _, _, _, _, true, rfl, .ty "str", .base (.str sx), kit_ss _, true, rfl, iteT ⟨_, rfl, rfl, _, rfl, iteT (q _ (Same.refl _))⟩⟩⟩
    | num x =>
      refine iteF ⟨_, rfl, a, _, 0, _, rfl, rfl, ha, at0, rfl, _, rfl, iteF ⟨_, rfl, _, _, _, _, false, rfl, .ty "str", .base (.int x), kit_is _, false, rfl, iteF ⟨_, rfl, a, _, 2, _, rfl, rfl, ha, at2, _, rfl, b, xs, t.steps, x, rfl, hb, hst, hok.1, by have := hok.2.1; omega, hz, fun H1 s1 => ⟨_, rfl, rfl, _, rfl, ?_⟩⟩⟩⟩
      have q' : ∀ H', Same H H' → Q (.str (strA (match stepsOn t.steps x with | none => .error | some y => if isSo y t.sign t.n = true then .yes else .no))) H' := q
      cases hso : stepsOn t.steps x with
      | none =>
        rw [hso] at q'
        exact iteT (q' _ s1)
      | some y =>
        rw [hso] at q'
        refine iteF ⟨_, rfl, a, _, 3, _, rfl, rfl, ha.ext s1, at3, _, rfl, _, rfl, a, _, 4, _, rfl, rfl, ha.ext s1, at4, t.sign, y, t.n, rfl, fun H2 s2 => ⟨_, rfl, ?_⟩⟩
        have q2 := q' _ (s1.trans s2)
        dsimp only at q2
        cases hb2 : isSo y t.sign t.n with
        | true => rw [hb2] at q2; exact iteT q2
        | false => rw [hb2] at q2; exact iteF q2
/-! ## _law_answers_at -/
def spAnsL (K : PySem.W.Frag) : Sp := fun vs H Q _ => ∃ a xs ts z, vs = [.ref a, v3 z] ∧ SqL K H a xs ∧ AllR (TsA K H) xs ts ∧ ts.length ≤ 1000 ∧ bd3 z ∧ ∀ p H', Same H H' → H p = Option.none → H' p = some (.tup ((keyA (ansL ts z)).map kV)) → Q (.ref p) H'
abbrev sAnsL : Stmt := top 66
abbrev nAnsL : List Str := ["_law_tests", "_law_value", "_law_test"]
theorem scAnsL : FnScope nAnsL ["_law_tests", "_law_value"] (defScope sAnsL) := ⟨rfl, rfl, rfl, by decide +kernel, rfl, by decide +kernel, by decide +kernel⟩
theorem ok_ansL {f : Addr} {fd : FuncData} (F : Fun K "_law_answers_at" "_law_answers_at" sAnsL f fd) (B : Bi mg) (Ft : Fd P w K mg base "_law_told" 2 ["_law_leaf", "_law_row"] (spToldL K)) : FnOk P w K mg base CX0 3 f fd ["_law_tests", "_law_value"] (spAnsL K) := by
  refine F.ok scAnsL (fun vs H Q E h => ?_) (fun cdv A outer s H vs Q E hr h => ?_)
  · obtain ⟨a, xs, ts, z, rfl, _⟩ := h
    rfl
  · obtain ⟨a, xs, ts, z, rfl, ha, hx, hlen, hz, q⟩ := h
    have nd := scAnsL.nd
    refine ⟨_, pss_one (ps_ret (pe_callTy call_tuple_of (by rfl) B.tup_ bt_tup (pa_cons (pe_lc (own := [("_law_test", 2)]) (g := gName 2) (tt := tYes) (te := tCall (spToldL K) [] E0 (tCons (tVar 2) (tCons (tDisp [(tC (.str "n"), tVar 1)]) tNil))) rfl nd (pi_list (pv 0)) (blkOk_by (N := nAnsL) (sc := defScope sAnsL) (by decide +kernel))
      (fun _ _ _ _ _ => pg_name (i := 2) nd rfl (Or.inl rfl)) (fun _ _ _ _ _ => pts_nil) (fun _ _ _ _ _ => pe_f Ft hr (pa_cons (pv 2) (pa_cons (pe_disp (pps_cons pe_str (pv 1) pps_nil) (by rfl) (by rfl) (fun z => by cases z) (by decide)) pa_nil)))) pa_nil))), ?_⟩
    refine ⟨_, rfl, a, rfl, ⟨_, ha⟩, fun D hD => lcR_list (fun t : Tst => some (ansOf t z)) (TsA K) (fun _ v c => v = .str (strA c)) ts (fun _ _ _ _ _ h => h) (fun _ _ _ _ _ _ h => h) hD ha hx (by omega) ?_ ?_⟩
    · intro x t H1 Y N hp hS hDn hx hY hN
      refine ⟨rfl, ?_⟩
      show if true = true then _ else N H1
      refine iteT ⟨_, rfl, fun d hd => ⟨_, rfl, upd_same, [(.inr "n", v3 z)], rfl, (by show 1 ≤ 15; decide), ?_⟩⟩
      have sd : Same H1 (upd (upd H1 d (.dK [])) d (.dK (mergeK [] [(.inr "n", v3 z)]))) := same_own (same_upd hd) hd
      exact ⟨x, d, t, z, rfl, hx.same (hS.trans sd), upd_same, hz, fun H' s' => hY _ _ _ rfl (sd.trans s') rfl⟩
    · intro H2 acc s2 hD2 hr2
      refine ⟨D, acc, rfl, .inl ⟨SqL.of hD2, fun l hl => q l _ (s2.trans (same_upd hl)) (none_back s2 hl) ?_⟩⟩
      rw [show (ts.filterMap fun t : Tst => some (ansOf t z)) = ansL ts z by simp [ansL]] at hr2
      rw [upd_same, keyA_v]
      congr 2
      refine List.ext_getElem (by simp [hr2.1]) fun i h1 h2 => ?_
      have := hr2.2 i acc[i] ((ansL ts z)[i]'(by rw [← hr2.1]; exact h1)) (List.getElem?_eq_getElem h1) (List.getElem?_eq_getElem _)
      rw [this]
      simp
end
end RA
end

section
set_option Elab.async false
set_option linter.all false
set_option autoImplicit false
set_option maxRecDepth 100000
set_option maxHeartbeats 4000000
set_option exponentiation.threshold 10000
namespace RA
open PySem PySem.Spec PyProof.Rows L2
section
variable {P : Program} {w : World} {K : PySem.W.Frag} {mg : Str → Option Value} {base : Heap}
/-! ## _law_alike -/
def spAlike (K : PySem.W.Frag) : Around → Nat → List V → Hp → VK → Prop := fun A _ vs H Q => A.guards = some [] ∧ ∃ x y d, vs = [.ref x, .ref y] ∧ Dp K H (.ref x) d ∧ Dp K H (.ref y) d ∧ SeqAt.shaped d = true ∧ d.showable = true ∧ d.hasDict = false ∧ d.depth ≤ 50 ∧ d.shown.length ≤ sizeLine ∧ Q (.bl true) H
abbrev sAlike : Stmt := top 57
theorem scAlike : FnScope ["_law_found", "_law_due"] ["_law_found", "_law_due"] (defScope sAlike) := ⟨rfl, rfl, rfl, by decide +kernel, rfl, by decide +kernel, by decide +kernel⟩
theorem hu60 {k : Nat} {A : Around} (hr : Room k A) : A.units + 60 < cLine := by
  have := hr.un
  omega
theorem ok_alike {f : Addr} {fd : FuncData} (F : Fun K "_law_alike" "_law_alike" sAlike f fd) (B : Bi mg) : FnAt P w K mg base 1 f fd ["_law_found", "_law_due"] (spAlike K) := by
  refine fnAt_of F scAlike (fun A n vs H Q h => ?_) (fun cdv A outer s H vs Q hr h => ?_)
  · obtain ⟨_, x, y, d, rfl, _⟩ := h
    rfl
  · obtain ⟨hg, x, y, d, rfl, h1, h2, h3, h4, h5, h6, h7, q⟩ := h
    have hu := hu1 hr
    have hu6 := hu60 hr
    refine ⟨_, pss_one (ps_ret (pe_and (pe_cmpR (op_eqD hu) (pv 0) (pv 1) (nomark _)) (pe_one (pe_cmpR op_eq (pe_callB (call_reprD hg hu6) (by rfl) B.rep_ bt_rep (pa_cons (pv 0) pa_nil)) (pe_callB (call_reprD hg hu6) (by rfl) B.rep_ bt_rep (pa_cons (pv 1) pa_nil)) (nomark _))))), ?_⟩
    refine ⟨_, rfl, _, rfl, d, d, h1, h2, h3, h3, _, rfl, ?_⟩
    rw [PySem.SeqAt.eqv_refl d (SeqAt.canLay_of_shaped h3)]
    refine iteT ⟨_, rfl, x, d, rfl, h1, h4, h5, h6, h7, _, rfl, y, d, rfl, h2, h4, h5, h6, h7, rfl, ?_⟩
    rw [decide_eq_true rfl]
    exact q
/-! ## _law_points -/
def spPoints : Sp := fun vs H Q _ => ∃ b I lo hi, vs = [.ref b, .int lo, .int hi] ∧ Bag I H b ∧ lo ≤ hi ∧ ∀ p ns H', SameB b H H' → Bag I H' b → H p = Option.none → H' p = some (.lst ((ns : List Int).map V.int)) → (∀ n ∈ ns, lo ≤ n ∧ n ≤ hi) → ns.length = 9 → Q (.ref p) H'
abbrev sPoints : Stmt := top 67
abbrev nPoints : List Str := ["_law_bag_here", "_law_low", "_law_high", "_law_found", "_law_k"]
theorem scPoints : FnScope nPoints ["_law_bag_here", "_law_low", "_law_high"] (defScope sPoints) := ⟨rfl, rfl, rfl, by decide +kernel, rfl, by decide +kernel, by decide +kernel⟩
theorem ok_points {f : Addr} {fd : FuncData} (F : Fun K "_law_points" "_law_points" sPoints f fd) (B : Bi mg) (Ft : Fd P w K mg base "_law_take" 1 ["_law_bag_here", "_law_many"] spTake) : FnOk P w K mg base CX0 2 f fd ["_law_bag_here", "_law_low", "_law_high"] spPoints := by
  refine F.ok scPoints (fun vs H Q E h => ?_) (fun cdv A outer s H vs Q E hr h => ?_)
  · obtain ⟨b, I, lo, hi, rfl, _⟩ := h
    rfl
  · obtain ⟨b, I, lo, hi, rfl, hb, hle, q⟩ := h
    have nd := scPoints.nd
    refine ⟨_, pss_cons (ps_set nd (i := 3) rfl (Or.inl rfl) (pe_lst (pa_cons (pv 1) (pa_cons (pv 2) (pa_cons (pe_callB (call_min2 rfl) (by rfl) B.min_ bt_min (pa_cons (pv 2) (pa_cons (pe_op op_add (pv 1) pe_int) pa_nil))) (pa_cons (pe_callB (call_max2 rfl) (by rfl) B.max_ bt_max (pa_cons (pv 1) (pa_cons (pe_op op_sub (pv 2) pe_int) pa_nil)))
          (pa_cons (pe_op op_fdiv (pe_op op_add (pv 1) (pv 2)) pe_int) pa_nil)))))))
      (pss_cons (ps_for PassesOwn.never rfl (pi_range1 (by rfl) B.rng_ (pa_cons pe_int pa_nil)) (pg_name (i := 4) nd rfl (Or.inl rfl))
        (pss_one (ps_expr (pe_appendL (pv 3) (pe_op op_add (pv 1) (pe_op op_fdiv (pe_callTy call_int1 (by rfl) B.int_ bt_int (pa_cons (pe_op op_mul (pe_f Ft hr (pa_cons (pv 0) (pa_cons (pe_op op_pow pe_int pe_int) pa_nil))) (pe_op op_add (pe_op op_sub (pv 2) (pv 1)) pe_int)) pa_nil)) (pe_op op_pow pe_int pe_int)))))))
      (pss_one (ps_ret (pv 3)))), ?_⟩
    refine ⟨_, rfl, _, rfl, _, rfl, _, rfl, _, _, rfl, rfl, _, _, rfl, _, rfl, _, rfl, _, _, rfl, rfl, _, _, rfl, _, rfl, _, rfl, _, _, rfl, rfl, _, _, rfl, rfl, ⟨by decide, by decide⟩, five_sz, fun L hL => ?_⟩
    rw [min_is, max_is] at *
    have hLb : L ≠ b := hb.ne hL
    have hLI : L ≠ I := hb.neI hL
    have key : upd H L (.lst [.int lo, .int hi, .int (min hi (lo + 1)), .int (max lo (hi - 1)), .int ((lo + hi) / 2)]) L = some (.lst ([lo, hi, min hi (lo + 1), max lo (hi - 1), (lo + hi) / 2].map V.int)) := upd_same
    refine ⟨4, rfl, by decide, by decide, for_range (n := 4) (fun i σ H' => ∃ ns k, σ = [some (.ref b), some (.int lo), some (.int hi), some (.ref L), k] ∧ SameB b H H' ∧ Bag I H' b ∧ H' L = some (.lst ((ns : List Int).map V.int)) ∧ (∀ n ∈ ns, lo ≤ n ∧ n ≤ hi) ∧ ns.length = 5 + i) ?_ ?_ ?_⟩
    · refine ⟨_, _, rfl, Same.b (same_upd hL), hb.new hL, key, ?_, rfl⟩
      intro n hn
      simp at hn
      rcases hn with rfl | rfl | rfl | rfl | rfl <;> omega
    · rintro i σ H' hi4 ⟨ns, k, rfl, s1, hb1, hl, hall, hlen⟩
      refine ⟨_, rfl, tyV_lst hl, _, rfl, _, rfl, _, _, rfl, rfl, ⟨by decide, by decide, by decide⟩, b, I, _, rfl, by decide, by decide, hb1, fun t H2 t0 t1 s2 hb2 => ?_⟩
      have t1' : t < 1000000 := t1
      refine ⟨_, rfl, _, rfl, _, _, rfl, rfl, _, _, rfl, rfl, t, _, rfl, rfl, .inl ⟨by omega, by omega⟩, .inl ⟨_, rfl, _, _, rfl, rfl, ⟨by decide, by decide, by decide⟩, _, _, rfl, rfl, ⟨by decide, by decide⟩, _, _, rfl, rfl, ?_⟩⟩
      have hl2 := s2 _ _ hLb hl
      refine ⟨L, ns.map V.int, _, rfl, rfl, hl2, szl (by rw [List.length_map]; omega), ?_⟩
      have d0 : 0 ≤ t * (hi - lo + 1) / (10 : Int) ^ (6 : Int).toNat := Int.ediv_nonneg (Int.mul_nonneg t0 (by omega)) (by decide)
      have d1 : t * (hi - lo + 1) / (10 : Int) ^ (6 : Int).toNat < hi - lo + 1 := by
        refine Int.ediv_lt_of_lt_mul (by decide) ?_
        rw [Int.mul_comm (hi - lo + 1)]
        exact Int.mul_lt_mul_of_pos_right t1' (by omega)
      refine ⟨ns ++ [lo + t * (hi - lo + 1) / (10 : Int) ^ (6 : Int).toNat], _, rfl, fun a o ha e => ?_, hb2.own hLb hLI, ?_, ?_, by simp; omega⟩
      · rw [upd_ne (ne_of_none e hL)]
        exact s2 _ _ ha (s1 _ _ ha e)
      · rw [upd_same, List.map_append]
        rfl
      · intro n hn
        rcases List.mem_append.mp hn with hn | hn
        · exact hall n hn
        · rw [List.mem_singleton.mp hn]
          omega
    · rintro σ H' ⟨ns, k, rfl, s1, hb1, hl, hall, hlen⟩
      exact ⟨_, rfl, q L ns H' s1 hb1 hL hl hall hlen⟩
end
end RA
end

section
set_option Elab.async false
set_option linter.all false
set_option autoImplicit false
set_option maxRecDepth 100000
set_option maxHeartbeats 4000000
set_option exponentiation.threshold 10000
namespace RA
open PySem PySem.Spec PyProof.Rows L2
open PySem.W (dataLe sortLe)
def fz (p : Pr) : Int × Int := (p.1.getD 0, p.2.getD 0)
def pairLe (p q : Pr) : Bool := dataLe false (fun p : Pr => encP p) p q
def srtP (ps : List Pr) : List Pr := ps.mergeSort pairLe
def allS (cs : List Cell) : List Pr := cs.flatMap (·.spans)
section
variable {P : Program} {w : World} {K : PySem.W.Frag} {mg : Str → Option Value} {base : Heap}
theorem fin_alike {ps : List Pr} (h : FinS ps) : PySem.W.AllAlike (encPs ps) := by
  intro d hd e he
  obtain ⟨p, hp, rfl⟩ := List.mem_map.mp hd
  obtain ⟨q, hq, rfl⟩ := List.mem_map.mp he
  obtain ⟨a, b, rfl⟩ := h p hp
  obtain ⟨a2, b2, rfl⟩ := h q hq
  simp [encP, encE, PySem.W.alike, PySem.W.alikeAll]
theorem fin_sortable (ps : List Pr) : PySem.W.Sortable (encPs ps) := by
  refine .inl fun d hd => ?_
  obtain ⟨p, hp, rfl⟩ := List.mem_map.mp hd
  exact ⟨_, _, rfl⟩
theorem fin_depth (ps : List Pr) : ∀ d ∈ encPs ps, d.depth ≤ 50 := by
  intro d hd
  have := (shp_prs (n := 0) ps d hd).2
  omega
theorem le_dat {α : Type} {f : α → PyData} (x y : V × PyData) (a b : α) (e1 : x.2 = f a) (e2 : y.2 = f b) : dataLe false (fun q : V × PyData => (fun d => d) q.2) x y = dataLe false (fun p : α => f p) a b := by
  unfold dataLe sortLe
  simp only [e1, e2]
theorem pe_extendT {X : Cx} {o e : Expr} {to te : TE} {apos cpos : Pos} (ho : PE X o to) (he : PE X e te) (hbase : attributeBase o "extend" X.env (eval o X.env) = eval o X.env := by rfl) (hline : (apos.endLine == cpos.line) = true := by rfl)
    (hst : starEach [e] X.env = (false, eval e X.env) :: starEach [] X.env := by rfl) :
    PE X (.Call (.Attribute o "extend" apos) [e] [] cpos) (tBM X.K "list" (rExtT X.K) to (tCons te tNil)) :=
  pe_bm PySem.F.plainAttrs_list PySem.F.slot_list_extend PySem.F.type_list_extend mt_extT ho (pa_cons he pa_nil hst) hbase (by rw [hst]; rfl) hline hst (by rfl)
/-- no item: the comparison with [] is false -/
theorem rd_none {H : Hp} {D : Addr} {Q : VK} (hD : H D = some (.lst [])) (h : ∀ H', Same H H' → Q (.bl false) H') : tLst tNil [] H fun y H' => rNeD K (.ref D) y H' Q := by
  refine ⟨Nat.zero_le _, fun Z hZ => ?_⟩
  refine ⟨.list [], .list [], .lst (SqL.of (same_upd hZ _ _ hD)) .nil, .lst (SqL.of upd_same) .nil, (shp_lst (n := 0) (by intro d hd; cases hd)).shaped, (shp_lst (n := 0) (by intro d hd; cases hd)).shaped, ?_⟩
  rw [eqv_lnil]
  exact h _ (same_upd hZ)
theorem atI_int {α : Type} {xs : List α} {k : Int} {j : Nat} {v : α} (h : k = (j : Int)) (hx : xs[j]? = some v) : atI xs k = some v := by
  subst h
  exact atI_nat hx
theorem fin_at {H : Hp} {zs : List V} {ps : List Pr} {i : Nat} (hd : DpAll K H zs (encPs ps)) (hf : FinS ps) (hi : i < ps.length) : ∃ b p, zs[i]? = some (.ref b) ∧ ps[i]? = some p ∧ SqT K H b [.int (fz p).1, .int (fz p).2] := by
  obtain ⟨v, hv1, hv2⟩ := DpAll.getD hd (show (encPs ps)[i]? = some (encP ps[i]) by rw [encPs, List.getElem?_map, List.getElem?_eq_getElem hi]; rfl)
  obtain ⟨b, rfl, hb⟩ := dp_prv hv2
  obtain ⟨x, y, e⟩ := hf ps[i] (List.getElem_mem hi)
  refine ⟨b, ps[i], hv1, List.getElem?_eq_getElem hi, ?_⟩
  rw [e] at hb ⊢
  exact hb
theorem fm_none {α β : Type} : ∀ l : List α, l.filterMap (fun _ => (none : Option β)) = []
  | [] => rfl
  | a :: l => by rw [List.filterMap_cons_none rfl, fm_none l]
theorem allS_snoc (cs : List Cell) (c : Cell) : allS (cs ++ [c]) = allS cs ++ c.spans := by simp [allS]
/-- what the law asks of the stretches -/
structure SpR (c : Col) (cs : List Cell) : Prop where
  fin : ∀ e ∈ cs, FinS e.spans ∧ e.spans.length ≤ 1000
  few : cs.length ≤ 1000
  ne : srtP (allS cs) ≠ []
  next : ∀ (i : Nat) p q, (srtP (allS cs))[i]? = some p → (srtP (allS cs))[i + 1]? = some q → (fz q).1 = (fz p).2 + 1
  first : ∀ p, (srtP (allS cs))[0]? = some p → (fz p).1 = c.lo
  last : ∀ p, (srtP (allS cs)).getLast? = some p → (fz p).2 = c.hi
  val : ∀ p ∈ allS cs, (fz p).1 ≤ (fz p).2
  gap : ∀ e ∈ cs, ∀ (i : Nat) p q, e.spans[i]? = some p → e.spans[i + 1]? = some q → (fz p).2 + 2 ≤ (fz q).1
  sum : (cs.map manyIn).sum = c.hi - c.lo + 1
def spRight (K : PySem.W.Frag) : Sp := fun vs H Q _ => ∃ x v a xs c cs, vs = [x, v, .ref a] ∧ Dp K H v (encCol c) ∧ SqL K H a xs ∧ DpAll K H xs (cs.map encC) ∧ SpR c cs ∧ ∀ H', Same H H' → Q (.bl true) H'
abbrev sRight : Stmt := top 68
abbrev nRight : List Str := ["_law_bag_here", "_law_column", "_law_some", "_law_spans", "_law_cell", "_law_at", "_law_low", "_law_high"]
theorem scRight : FnScope nRight ["_law_bag_here", "_law_column", "_law_some"] (defScope sRight) := ⟨rfl, rfl, rfl, by decide +kernel, rfl, by decide +kernel, by decide +kernel⟩
abbrev tAdd (a b : TE) : TE := tOp (rI0 fun i j => .int (i + j)) a b
theorem ok_right {f : Addr} {fd : FuncData} (F : Fun K "_law_spans_right" "_law_spans_right" sRight f fd) (B : Bi mg) (Fm : Fd P w K mg base "many_in" 1 ["cell"] (spMany K)) : FnOk P w K mg base CX0 2 f fd ["_law_bag_here", "_law_column", "_law_some"] (spRight K) := by
  refine F.ok scRight (fun vs H Q E h => ?_) (fun cdv A outer s H vs Q E hr h => ?_)
  · obtain ⟨x, v, a, xs, c, cs, rfl, _⟩ := h
    rfl
  · obtain ⟨x, v, a, xs, c, cs, rfl, hv, ha, hx, R, q⟩ := h
    obtain ⟨cl, rfl, hcl⟩ := dp_col hv
    have nd := scRight.nd
    have hu := hu1 hr
    refine ⟨_, pss_cons (ps_set nd (i := 3) rfl (Or.inr rfl) (pe_lst pa_nil))
      (pss_cons (ps_for PassesOwn.never rfl (pi_list (pv 2)) (pg_name (i := 4) nd rfl (Or.inr rfl)) (pss_one (ps_expr (pe_extendT (pv 3) (pe_ix ix_tup (pv 4) pe_int (fun _ _ => rfl))))))
      (pss_cons (ps_set nd (i := 3) rfl (Or.inr rfl) (pe_callB (call_sortedDat hr) (by rfl) B.srt_ bt_srt (pa_cons (pv 3) pa_nil)))
      (pss_cons (ps_if (pt_cmpR (op_neD hu) (pe_lc (own := [("_law_at", 5)]) (g := gName 5) (tt := tTest (tOp rNe (tOp (rIxT K) (tOp (rIxL K) (tVar 3) (tAdd (tVar 5) (tC (.int 1)))) (tC (.int 0))) (tAdd (tOp (rIxT K) (tOp (rIxL K) (tVar 3) (tVar 5)) (tC (.int 1))) (tC (.int 1))))) (te := tVar 5) rfl nd (pi_range1 (by rfl) B.rng_ (pa_cons (pe_op op_sub (pe_callB call_len_seq (by rfl) B.len_ bt_len (pa_cons (pv 3) pa_nil)) pe_int) pa_nil)) (blkOk_by (N := nRight) (sc := defScope sRight) (by decide +kernel))
          (fun _ _ _ _ _ => pg_name (i := 5) nd rfl (Or.inl rfl)) (fun _ _ _ _ _ => pts_one (pt_cmpR op_ne (pe_ix ix_tup (pe_ix ix_list (pv 3) (pe_op op_add (pv 5) pe_int) (fun _ _ => rfl)) pe_int (fun _ _ => rfl)) (pe_op op_add (pe_ix ix_tup (pe_ix ix_list (pv 3) (pv 5) (fun _ _ => rfl)) pe_int (fun _ _ => rfl)) pe_int) (nomark _))) (fun _ _ _ _ _ => pv 5)) (pe_lst pa_nil) (nomark _)) (pss_one (ps_ret pe_bl)) pss_nil)
      (pss_cons (ps_if (PW.pt (pw_or (pt_cmpR op_ne (pe_ix ix_tup (pe_ix ix_list (pv 3) pe_int (fun _ _ => rfl)) pe_int (fun _ _ => rfl)) (pe_ix ix_tup (pv 1) pe_int (fun _ _ => rfl)) (nomark _)) (pw_or (pt_cmpR op_ne (pe_ix ix_tup (pe_last (pv 3)) pe_int (fun _ _ => rfl)) (pe_ix ix_tup (pv 1) pe_int (fun _ _ => rfl)) (nomark _))
          (pw_or1 (pt_cmpR (op_neD hu) (pe_lc (own := [("_law_low", 6), ("_law_high", 7)]) (g := gTup K 2 (gCons (gName 6) (gCons (gName 7) gNil))) (tt := tTest (tOp (rI0 fun i j => .bl (decide (j < i))) (tVar 6) (tVar 7))) (te := tC (.int 1)) rfl nd (pi_list (pv 3)) (blkOk_by (N := nRight) (sc := defScope sRight) (by decide +kernel))
            (fun _ _ _ _ _ => pg_tup rfl (pgs_cons (pg_name (i := 6) nd rfl (Or.inl rfl)) (pgs_cons (pg_name (i := 7) nd rfl (Or.inl rfl)) pgs_nil))) (fun _ _ _ _ _ => pts_one (pt_cmpR op_gt (pv 6) (pv 7) (nomark _))) (fun _ _ _ _ _ => pe_int)) (pe_lst pa_nil) (nomark _)))))) (pss_one (ps_ret pe_bl)) pss_nil)
      (pss_cons (ps_for PassesOwn.never rfl (pi_list (pv 2)) (pg_name (i := 4) nd rfl (Or.inr rfl))
        (pss_one (ps_if (pt_cmpR (op_neD hu) (pe_lc (own := [("_law_at", 5)]) (g := gName 5) (tt := tTest (tOp (rI0 fun i j => .bl (decide (i < j))) (tOp (rIxT K) (tOp (rIxT K) (tOp (rIxT K) (tVar 4) (tC (.int 2))) (tAdd (tVar 5) (tC (.int 1)))) (tC (.int 0))) (tAdd (tOp (rIxT K) (tOp (rIxT K) (tOp (rIxT K) (tVar 4) (tC (.int 2))) (tVar 5)) (tC (.int 1))) (tC (.int 2))))) (te := tVar 5) rfl nd (pi_range1 (by rfl) B.rng_ (pa_cons (pe_op op_sub (pe_callB call_len_seq (by rfl) B.len_ bt_len (pa_cons (pe_ix ix_tup (pv 4) pe_int (fun _ _ => rfl)) pa_nil)) pe_int) pa_nil)) (blkOk_by (N := nRight) (sc := defScope sRight) (by decide +kernel))
          (fun _ _ _ _ _ => pg_name (i := 5) nd rfl (Or.inl rfl)) (fun _ _ _ _ _ => pts_one (pt_cmpR op_lt (pe_ix ix_tup (pe_ix ix_tup (pe_ix ix_tup (pv 4) pe_int (fun _ _ => rfl)) (pe_op op_add (pv 5) pe_int) (fun _ _ => rfl)) pe_int (fun _ _ => rfl)) (pe_op op_add (pe_ix ix_tup (pe_ix ix_tup (pe_ix ix_tup (pv 4) pe_int (fun _ _ => rfl)) (pv 5) (fun _ _ => rfl)) pe_int (fun _ _ => rfl)) pe_int) (nomark _))) (fun _ _ _ _ _ => pv 5)) (pe_lst pa_nil) (nomark _)) (pss_one (ps_ret pe_bl)) pss_nil)))
      (pss_one (ps_ret (pe_cmpR op_eq (pe_callB (cr_sum rfl) (by rfl) B.sum_ bt_sum (pa_cons (pe_lc (own := [("_law_cell", 4)]) (g := gName 4) (tt := tYes) (te := tCall (spMany K) [] E0 (tCons (tVar 4) tNil)) rfl nd (pi_list (pv 2)) (blkOk_by (N := nRight) (sc := defScope sRight) (by decide +kernel))
          (fun _ _ _ _ _ => pg_name (i := 4) nd rfl (Or.inl rfl)) (fun _ _ _ _ _ => pts_nil) (fun _ _ _ _ _ => pe_f Fm hr (pa_cons (pv 4) pa_nil))) pa_nil)) (pe_op op_add (pe_op op_sub (pe_ix ix_tup (pv 1) pe_int (fun _ _ => rfl)) (pe_ix ix_tup (pv 1) pe_int (fun _ _ => rfl))) pe_int) (nomark _))))))))), ?_⟩
    have exl : xs.length = cs.length := by rw [DpAll.len hx, List.length_map]
    have hfinA : FinS (allS cs) := by
      intro p hp
      obtain ⟨e, he, hp⟩ := List.mem_flatMap.mp hp
      exact (R.fin e he).1 p hp
    refine ⟨Nat.zero_le _, fun F hF => ?_⟩
    have s0 : Same H (upd H F (.lst [])) := same_upd hF
    refine ⟨_, rfl, a, rfl, ⟨xs, ha.ext s0⟩, for_list (xs := xs) (fun i σ H' => ∃ c4 fs, σ = [some x, some (.ref cl), some (.ref a), some (.ref F), c4, Option.none, Option.none, Option.none] ∧ Same H H' ∧ H' F = some (.lst fs) ∧ DpAll K H' fs (encPs (allS (cs.take i))) ∧ fs.length ≤ 1000 * i) ?_ ?_ ?_ ?_⟩
    · exact ⟨_, [], rfl, s0, upd_same, .nil, Nat.le_refl _⟩
    · rintro i σ H' _ ⟨c4, fs, rfl, s1, _⟩
      exact ha.ext s1
    · rintro i z σ H' hzi ⟨c4, fs, rfl, s1, h1, h2, h3⟩
      obtain ⟨d, hd1, hd2⟩ := DpAll.get hx hzi
      rw [List.getElem?_map] at hd1
      cases hc : cs[i]? with
      | none => rw [hc] at hd1; cases hd1
      | some e =>
        rw [hc] at hd1
        cases hd1
        have hil : i < cs.length := (List.getElem?_eq_some_iff.mp hc).1
        have hem : e ∈ cs := List.mem_of_getElem? hc
        obtain ⟨ca, L, ys, rfl, g1, g2, g3⟩ := dp_cellv (Dp.same s1 hd2)
        have hyl : ys.length = e.spans.length := by rw [DpAll.len g3, encPs, List.length_map]
        have hel := (R.fin e hem).2
        have hfew := R.few
        have hmul : 1000 * i ≤ 1000 * 999 := Nat.mul_le_mul_left _ (by omega)
        refine ⟨_, rfl, tyV_lst h1, _, rfl, ca, _, 2, _, rfl, rfl, g1, at2, F, L, fs, ys, rfl, rfl, h1, g2, Nat.le_of_lt (szl (by omega)), ?_⟩
        refine ⟨_, _, rfl, same_own s1 hF, upd_same, ?_, by rw [List.length_append]; omega⟩
        have et : cs.take (i + 1) = cs.take i ++ [e] := by
          rw [List.take_add_one, hc]
          rfl
        rw [et, allS_snoc, show encPs (allS (cs.take i) ++ e.spans) = encPs (allS (cs.take i)) ++ encPs e.spans by simp [encPs]]
        exact DpAll.app (dps_updL h1 (tupDs_prs _) h2) (dps_updL h1 (tupDs_prs _) g3)
    · rintro σ H1 ⟨c4, fs, rfl, s1, h1, h2, h3⟩
      rw [exl, List.take_length] at h2
      refine ⟨_, rfl, F, fs, encPs (allS cs), rfl, SqL.of h1, h2, fin_alike hfinA, fin_sortable _, fin_depth _, fun p hp => ?_⟩
      have hsd : DpAll K H1 ((sortedBy (fun d => d) fs (encPs (allS cs))).map (·.1)) (encPs (srtP (allS cs))) := sortedBy_of h2 fun x y p q e1 e2 => le_dat x y p q e1 e2
      obtain ⟨zs, hzs⟩ : ∃ zs, zs = (sortedBy (fun d => d) fs (encPs (allS cs))).map (·.1) := ⟨_, rfl⟩
      obtain ⟨srt, hsrt⟩ : ∃ srt, srt = srtP (allS cs) := ⟨_, rfl⟩
      rw [← hzs, ← hsrt] at hsd
      rw [← hzs]
      have s2 : Same H1 (upd H1 p (.lst zs)) := same_upd hp
      have hpz : upd H1 p (.lst zs) p = some (.lst zs) := upd_same
      have hdz := DpAll.same s2 hsd
      have sH := s1.trans s2
      generalize upd H1 p (.lst zs) = H2 at s2 hpz hdz sH ⊢
      have hzl : zs.length = srt.length := by rw [DpAll.len hdz, encPs, List.length_map]
      have hperm : srt.Perm (allS cs) := by rw [hsrt]; exact List.mergeSort_perm _ _
      have hfin : FinS srt := fun q hq => hfinA q (hperm.subset hq)
      have hne : srt ≠ [] := by rw [hsrt]; exact R.ne
      have hlen0 : 0 < srt.length := List.length_pos_iff.mpr hne
      have hbig : srt.length ≤ 1000000 := by
        rw [hperm.length_eq, ← show (encPs (allS cs)).length = (allS cs).length by simp [encPs], ← DpAll.len h2]
        have := R.few
        have : 1000 * xs.length ≤ 1000 * 1000 := Nat.mul_le_mul_left _ (by omega)
        omega
      refine ⟨_, rfl, p, zs, rfl, .inl (SqL.of hpz), _, _, rfl, rfl, _, rfl, by omega, by omega, fun D hD => ?_⟩
      refine lc_range (fun i H' => Same H2 H' ∧ H' D = some (.lst [])) ⟨same_upd hD, upd_same⟩ ?_ ?_
      · rintro i H3 hi ⟨s3, hD3⟩
        have hi' : i + 1 < srt.length := by omega
        obtain ⟨b1, p1, e1, e2, e3⟩ := fin_at (DpAll.same s3 hdz) hfin hi'
        obtain ⟨b0, p0, f1, f2, f3⟩ := fin_at (DpAll.same s3 hdz) hfin (show i < srt.length by omega)
        have hnx := R.next i p0 p1 (by rw [← hsrt]; exact f2) (by rw [← hsrt]; exact e2)
        have hpz3 := s3 _ _ hpz
        refine ⟨rfl, _, rfl, _, rfl, _, _, rfl, rfl, p, zs, _, _, rfl, rfl, SqL.of hpz3, atI_int (j := i + 1) (by omega) e1, b1, _, 0, _, rfl, rfl, e3, at0, _, rfl, _, rfl, p, zs, _, _, rfl, rfl, SqL.of hpz3, atI_int (j := i) (by omega) f1, b0, _, 1, _, rfl, rfl, f3, at1, _, _, rfl, rfl, rfl, _, rfl, ?_⟩
        rw [int_eq, hnx, decide_eq_true rfl]
        exact iteF ⟨s3, hD3⟩
      · rintro H3 ⟨s3, hD3⟩
        refine rd_none (K := K) hD3 fun H4 s4 => ⟨_, rfl, iteF ?_⟩
        have s24 := s3.trans s4
        have sH4 := sH.trans s24
        have hpz4 := s24 _ _ hpz
        obtain ⟨b0, p0, f1, f2, f3⟩ := fin_at (DpAll.same s24 hdz) hfin hlen0
        have hfst := R.first p0 (by rw [← hsrt]; exact f2)
        refine ⟨_, rfl, p, zs, _, _, rfl, rfl, SqL.of hpz4, atI_int (j := 0) rfl f1, b0, _, 0, _, rfl, rfl, f3, at0, _, rfl, cl, _, 1, _, rfl, rfl, hcl.ext sH4, at1, rfl, _, rfl, ?_⟩
        rw [int_eq, hfst, decide_eq_true rfl]
        obtain ⟨bn, pn, k1, k2, k3⟩ := fin_at (i := srt.length - 1) (DpAll.same s24 hdz) hfin (by omega)
        have hlst := R.last pn (by rw [← hsrt, List.getLast?_eq_getElem?]; exact k2)
        have hzlast : ∃ ws, zs = ws ++ [.ref bn] := by
          have : zs.getLast? = some (.ref bn) := by rw [List.getLast?_eq_getElem?, hzl]; exact k1
          obtain ⟨ws, hws⟩ := List.getLast?_eq_some_iff.mp this
          exact ⟨ws, hws⟩
        obtain ⟨ws, hws⟩ := hzlast
        refine iteF ⟨_, rfl, _, rfl, p, zs, -1, .ref bn, rfl, rfl, SqL.of hpz4, by rw [hws]; exact atI_last _ _, bn, _, 1, _, rfl, rfl, k3, at1, _, rfl, cl, _, 2, _, rfl, rfl, hcl.ext sH4, at2, rfl, _, rfl, ?_⟩
        rw [int_eq, hlst, decide_eq_true rfl]
        refine iteF ⟨_, rfl, p, rfl, ⟨zs, SqL.of hpz4⟩, fun D2 hD2 => lcD_list (fun _ : Pr => (none : Option Int)) encP PyData.int srt tupD_pr tupD_int hD2 (SqL.of hpz4) (DpAll.same s24 hdz) hbig ?_ ?_⟩
        · intro y pr H5 Y N hpr hS hy hY hN
          obtain ⟨b, rfl, hb⟩ := dp_prv hy
          obtain ⟨lo, hi, rfl⟩ := hfin pr hpr
          have hval := R.val _ (hperm.subset hpr)
          refine ⟨b, _, rfl, hb, rfl, _, _, rfl, _, _, rfl, rfl, rfl, _, rfl, _, rfl, _, _, rfl, rfl, _, rfl, ?_⟩
          have hval : lo ≤ hi := hval
          rw [show decide (hi < lo) = false from decide_eq_false (by omega)]
          exact iteF (hN _ rfl (Same.refl _))
        · intro H5 acc s5 hD5 hd5
          have ea : acc = [] := by
            rw [fm_none] at hd5
            exact dps_nil hd5
          subst ea
          refine rd_none (K := K) hD5 fun H6 s6 => ⟨_, rfl, iteF ?_⟩
          have sH6 := (sH4.trans s5).trans s6
          refine ⟨_, rfl, a, rfl, ⟨xs, ha.ext sH6⟩, for_list (xs := xs) (fun i σ H' => ∃ c4, σ = [some x, some (.ref cl), some (.ref a), some (.ref p), c4, Option.none, Option.none, Option.none] ∧ Same H H') ?_ ?_ ?_ ?_⟩
          · exact ⟨_, rfl, sH6⟩
          · rintro i σ H' _ ⟨c4, rfl, s7⟩
            exact ha.ext s7
          · rintro i z σ H7 hzi ⟨c4, rfl, s7⟩
            obtain ⟨d, hd1, hd2⟩ := DpAll.get hx hzi
            rw [List.getElem?_map] at hd1
            cases hc : cs[i]? with
            | none => rw [hc] at hd1; cases hd1
            | some e =>
              rw [hc] at hd1
              cases hd1
              have hem : e ∈ cs := List.mem_of_getElem? hc
              obtain ⟨ca, L, ys, rfl, g1, g2, g3⟩ := dp_cellv (Dp.same s7 hd2)
              have hyl : ys.length = e.spans.length := by rw [DpAll.len g3, encPs, List.length_map]
              have hel := (R.fin e hem).2
              refine ⟨_, rfl, ca, _, 2, _, rfl, rfl, g1, at2, L, ys, rfl, .inr g2, _, _, rfl, rfl, _, rfl, by omega, by omega, fun D3 hD3 => ?_⟩
              refine lc_range (fun i H' => Same H7 H' ∧ H' D3 = some (.lst [])) ⟨same_upd hD3, upd_same⟩ ?_ ?_
              · rintro j H8 hj ⟨s8, hD8⟩
                have hj' : j + 1 < e.spans.length := by omega
                obtain ⟨b1, p1, e1, e2, e3⟩ := fin_at (DpAll.same s8 g3) (R.fin e hem).1 hj'
                obtain ⟨b0, p0, f1, f2, f3⟩ := fin_at (DpAll.same s8 g3) (R.fin e hem).1 (show j < e.spans.length by omega)
                have hgap := R.gap e hem j p0 p1 f2 e2
                refine ⟨rfl, _, rfl, ca, _, 2, _, rfl, rfl, g1.ext s8, at2, _, rfl, _, _, rfl, rfl, L, ys, _, _, rfl, rfl, g2.ext s8, atI_int (j := j + 1) (by omega) e1, b1, _, 0, _, rfl, rfl, e3, at0, _, rfl, ca, _, 2, _, rfl, rfl, g1.ext s8, at2, _, rfl, L, ys, _, _, rfl, rfl, g2.ext s8, atI_int (j := j) (by omega) f1, b0, _, 1, _, rfl, rfl, f3, at1, _, _, rfl, rfl, _, _, rfl, rfl, _, rfl, ?_⟩
                rw [show decide ((fz p1).1 < (fz p0).2 + 2) = false from decide_eq_false (by omega)]
                exact iteF ⟨s8, hD8⟩
              · rintro H8 ⟨s8, hD8⟩
                exact rd_none (K := K) hD8 fun H9 s9 => ⟨_, rfl, iteF ⟨_, rfl, (s7.trans s8).trans s9⟩⟩
          · rintro σ H7 ⟨c4, rfl, s7⟩
            refine ⟨_, rfl, a, rfl, ⟨xs, ha.ext s7⟩, fun D4 hD4 => lcD_list (fun e : Cell => some (manyIn e)) encC PyData.int cs tupD_c tupD_int hD4 (ha.ext s7) (DpAll.same s7 hx) (by have := R.few; omega) ?_ ?_⟩
            · intro y e H8 Y N he hS hy hY hN
              refine ⟨rfl, ?_⟩
              show if true = true then _ else N H8
              exact iteT ⟨_, rfl, y, e, rfl, hy, (R.fin e he).1, by have := (R.fin e he).2; omega, fun H' s' => hY _ _ _ rfl s' (.int _)⟩
            · intro H8 acc s8 hD8 hd8
              have ea := dps_ints hd8
              rw [show (cs.filterMap fun e : Cell => some (manyIn e)) = cs.map manyIn by simp] at ea
              subst ea
              have s78 := s7.trans s8
              refine ⟨D4, _, rfl, SqL.of hD8, _, rfl, cl, _, 2, _, rfl, rfl, hcl.ext s78, at2, _, rfl, cl, _, 1, _, rfl, rfl, hcl.ext s78, at1, _, _, rfl, rfl, _, _, rfl, rfl, rfl, ?_⟩
              rw [int_eq, R.sum, decide_eq_true rfl]
              exact q _ s78
/-! ## _law_met -/
def lawPair (p q : Pr) : Pr := (some (max (fz p).1 (fz q).1), some (min (fz p).2 (fz q).2))
def lawMetL (a b : List Pr) : List Pr := a.flatMap fun p => (b.map (lawPair p)).filter fun r => decide ((fz r).1 ≤ (fz r).2)
def lawMet (a b : Cell) : Cell := ⟨a.empty && b.empty, a.words && b.words, srtP (lawMetL a.spans b.spans)⟩
def spMetL (K : PySem.W.Frag) : Sp := fun vs H Q _ => ∃ x y a b, vs = [x, y] ∧ Dp K H x (encC a) ∧ Dp K H y (encC b) ∧ FinS a.spans ∧ FinS b.spans ∧ a.spans.length ≤ 1000 ∧ b.spans.length ≤ 1000 ∧ RetD K H Q (encC (lawMet a b))
abbrev sMetL : Stmt := top 69
abbrev nMetL : List Str := ["_law_one_here", "_law_other", "_law_spans", "_law_low", "_law_high", "_law_both", "_law_begin", "_law_end", "_law_pair"]
theorem scMetL : FnScope nMetL ["_law_one_here", "_law_other"] (defScope sMetL) := ⟨rfl, rfl, rfl, by decide +kernel, rfl, by decide +kernel, by decide +kernel⟩
theorem lawMetL_len (a b : List Pr) : (lawMetL a b).length ≤ a.length * b.length := by
  induction a with
  | nil => simp [lawMetL]
  | cons p a ih =>
    have h1 : ((b.map (lawPair p)).filter fun r => decide ((fz r).1 ≤ (fz r).2)).length ≤ b.length := by
      refine Nat.le_trans (List.length_filter_le _ _) ?_
      rw [List.length_map]
      exact Nat.le_refl _
    have h2 : (lawMetL (p :: a) b).length = ((b.map (lawPair p)).filter fun r => decide ((fz r).1 ≤ (fz r).2)).length + (lawMetL a b).length := by simp [lawMetL]
    rw [h2, List.length_cons, Nat.add_mul]
    omega
theorem lawMetL_fin (a b : List Pr) : FinS (lawMetL a b) := by
  intro r hr
  obtain ⟨p, _, hr⟩ := List.mem_flatMap.mp hr
  obtain ⟨q, _, rfl⟩ := List.mem_map.mp (List.mem_filter.mp hr).1
  exact ⟨_, _, rfl⟩
theorem lawMetL_snoc (a b : List Pr) (p : Pr) : lawMetL (a ++ [p]) b = lawMetL a b ++ (b.map (lawPair p)).filter fun r => decide ((fz r).1 ≤ (fz r).2) := by simp [lawMetL]
theorem encPs_len (ps : List Pr) : (encPs ps).length = ps.length := by simp [encPs]
theorem filterMap_yes {α : Type} (p : α → Bool) : ∀ ls : List α, ls.filterMap (fun l => if p l = true then some l else none) = ls.filter p
  | [] => rfl
  | l :: ls => by
    have ih := filterMap_yes p ls
    cases h : p l with
    | true => rw [List.filterMap_cons_some (b := l) (by rw [h]; rfl), List.filter_cons_of_pos h, ih]
    | false => rw [List.filterMap_cons_none (by rw [h]; rfl), List.filter_cons_of_neg (by rw [h]; decide), ih]
theorem ok_metL {f : Addr} {fd : FuncData} (F : Fun K "_law_met" "_law_met" sMetL f fd) (B : Bi mg) : FnOk P w K mg base CX0 2 f fd ["_law_one_here", "_law_other"] (spMetL K) := by
  refine F.ok scMetL (fun vs H Q E h => ?_) (fun cdv A outer s H vs Q E hr h => ?_)
  · obtain ⟨x, y, a, b, rfl, _⟩ := h
    rfl
  · obtain ⟨x, y, a, b, rfl, hx, hy, fa, fb, la, lb, q⟩ := h
    obtain ⟨ax, L, xs, rfl, ha, hL, hxs⟩ := dp_cellv hx
    obtain ⟨bx, M, ys, rfl, hb, hM, hys⟩ := dp_cellv hy
    have nd := scMetL.nd
    refine ⟨_, pss_cons (ps_set nd (i := 2) rfl (Or.inl rfl) (pe_lst pa_nil))
      (pss_cons (ps_for PassesOwn.never rfl (pi_tup (pe_ix ix_tup (pv 0) pe_int (fun _ _ => rfl))) (pg_tup rfl (pgs_cons (pg_name (i := 3) nd rfl (Or.inr rfl)) (pgs_cons (pg_name (i := 4) nd rfl (Or.inr rfl)) pgs_nil)))
        (pss_cons (ps_setLc (i := 5) (own := [("_law_begin", 6), ("_law_end", 7)]) (g := gTup K 2 (gCons (gName 6) (gCons (gName 7) gNil))) (tt := tYes) (te := tTup (tCons (tCB rMax2 (tCons (tVar 3) (tCons (tVar 6) tNil))) (tCons (tCB rMin2 (tCons (tVar 4) (tCons (tVar 7) tNil))) tNil))) rfl nd rfl rfl (sw_true rfl rfl rfl (by decide +kernel)) (pi_tup (pe_ix ix_tup (pv 1) pe_int (fun _ _ => rfl))) (blkOk_by (N := nMetL) (sc := defScope sMetL) (by decide +kernel))
            (fun _ _ _ _ _ => pg_tup rfl (pgs_cons (pg_name (i := 6) nd rfl (Or.inl rfl)) (pgs_cons (pg_name (i := 7) nd rfl (Or.inl rfl)) pgs_nil))) (fun _ _ _ _ _ => pts_nil) (fun _ _ _ _ _ => pe_tup (pa_cons (pe_callB (call_max2 rfl) (by rfl) B.max_ bt_max (pa_cons (pv 3) (pa_cons (pv 6) pa_nil))) (pa_cons (pe_callB (call_min2 rfl) (by rfl) B.min_ bt_min (pa_cons (pv 4) (pa_cons (pv 7) pa_nil))) pa_nil))))
        (pss_one (ps_expr (pe_extendL (pv 2) (pe_lc (own := [("_law_pair", 8)]) (g := gName 8) (tt := tTest (tOp (rI0 fun i j => .bl (decide (i ≤ j))) (tIx K 8 0) (tIx K 8 1))) (te := tVar 8) rfl nd (pi_list (pv 5)) (blkOk_by (N := nMetL) (sc := defScope sMetL) (by decide +kernel))
            (fun _ _ _ _ _ => pg_name (i := 8) nd rfl (Or.inl rfl)) (fun _ _ _ _ _ => pts_one (pt_cmpR op_le (pe_ix ix_tup (pv 8) pe_int (fun _ _ => rfl)) (pe_ix ix_tup (pv 8) pe_int (fun _ _ => rfl)) (nomark _))) (fun _ _ _ _ _ => pv 8)))))))
      (pss_one (ps_ret (pe_tup (pa_cons (pe_and (pe_ix ix_tup (pv 0) pe_int (fun _ _ => rfl)) (pe_one (pe_ix ix_tup (pv 1) pe_int (fun _ _ => rfl)))) (pa_cons (pe_and (pe_ix ix_tup (pv 0) pe_int (fun _ _ => rfl)) (pe_one (pe_ix ix_tup (pv 1) pe_int (fun _ _ => rfl))))
        (pa_cons (pe_callTy call_tupOf (by rfl) B.tup_ bt_tup (pa_cons (pe_callB (call_sortedDat hr) (by rfl) B.srt_ bt_srt (pa_cons (pv 2) pa_nil)) pa_nil)) pa_nil))))))), ?_⟩
    have exl : xs.length = a.spans.length := by rw [DpAll.len hxs, encPs, List.length_map]
    refine ⟨Nat.zero_le _, fun F hF => ?_⟩
    have s0 : Same H (upd H F (.lst [])) := same_upd hF
    refine ⟨_, rfl, ax, _, 2, _, rfl, rfl, ha.ext s0, at2, L, rfl, ⟨xs, hL.ext s0⟩, for_tup (xs := xs) (fun i σ H' => ∃ p3 p4 p5 fs, σ = [some (.ref ax), some (.ref bx), some (.ref F), p3, p4, p5, Option.none, Option.none, Option.none] ∧ Same H H' ∧ H' F = some (.lst fs) ∧
      DpAll K H' fs (encPs (lawMetL (a.spans.take i) b.spans)) ∧ fs.length ≤ 1000 * i) ?_ ?_ ?_ ?_⟩
    · exact ⟨_, _, _, [], rfl, s0, upd_same, .nil, Nat.le_refl _⟩
    · rintro i σ H' _ ⟨p3, p4, p5, fs, rfl, s1, _⟩
      exact hL.ext s1
    · rintro i z σ H' hzi ⟨p3, p4, p5, fs, rfl, s1, h1, h2, h3⟩
      have hi : i < a.spans.length := by rw [← exl]; exact (List.getElem?_eq_some_iff.mp hzi).1
      obtain ⟨c, p, e1, e2, e3⟩ := fin_at (DpAll.same s1 hxs) fa hi
      rw [hzi] at e1
      cases e1
      refine ⟨c, _, rfl, e3, rfl, _, _, rfl, _, _, rfl, rfl, ?_⟩
      have hM1 := hM.ext s1
      refine ⟨_, rfl, bx, _, 2, _, rfl, rfl, hb.ext s1, at2, M, rfl, ⟨_, hM1⟩, fun D hD => lcD_tup (fun q : Pr => some (lawPair p q)) encP encP b.spans tupD_pr tupD_pr hD hM1 (DpAll.same s1 hys) (by omega) ?_ ?_⟩
      · intro y qq H1 Y N hqq hS hy hY hN
        obtain ⟨d, rfl, hd⟩ := dp_prv hy
        obtain ⟨lo, hi2, rfl⟩ := fb qq hqq
        refine ⟨d, _, rfl, hd, rfl, _, _, rfl, _, _, rfl, rfl, rfl, ?_⟩
        refine ⟨_, rfl, _, rfl, _, _, rfl, _, rfl, _, rfl, _, _, rfl, two_sz, fun T hT => hY _ (lawPair p (some lo, some hi2)) _ rfl (same_upd hT) ?_⟩
        rw [max_is, min_is]
        exact dp_pr_new (p := lawPair p (some lo, some hi2)) upd_same
      · intro H2 acc s2 hD2 hd2
        rw [show (b.spans.filterMap fun q : Pr => some (lawPair p q)) = b.spans.map (lawPair p) by simp] at hd2
        have s12 := s1.trans s2
        refine ⟨_, rfl, tyV_lst (s2 _ _ h1), _, rfl, D, rfl, ⟨_, SqL.of hD2⟩, fun D2 hD20 => lcD_list (fun r : Pr => if decide ((fz r).1 ≤ (fz r).2) = true then some r else none) encP encP (b.spans.map (lawPair p)) tupD_pr tupD_pr hD20 (SqL.of hD2) hd2 (by rw [List.length_map]; omega) ?_ ?_⟩
        · intro y r H3 Y N hr hS hy hY hN
          obtain ⟨d, rfl, hd⟩ := dp_prv hy
          have hrf : ∃ u v, r = (some u, some v) := by
            obtain ⟨qq, _, rfl⟩ := List.mem_map.mp hr
            exact ⟨_, _, rfl⟩
          obtain ⟨u, v, rfl⟩ := hrf
          refine ⟨rfl, _, rfl, d, _, 0, _, rfl, rfl, hd, at0, _, rfl, d, _, 1, _, rfl, rfl, hd, at1, _, _, rfl, rfl, _, rfl, ?_⟩
          by_cases huv : u ≤ v
          · rw [decide_eq_true huv]
            exact iteT ⟨_, rfl, hY _ (some u, some v) _ (if_pos (decide_eq_true huv)) (Same.refl _) hy⟩
          · rw [decide_eq_false huv]
            exact iteF (hN _ (if_neg (by rw [show decide ((fz (some u, some v)).1 ≤ (fz (some u, some v)).2) = false from decide_eq_false huv]; decide)) (Same.refl _))
        · intro H3 bcc s3 hD3 hd3
          rw [filterMap_yes (fun r : Pr => decide ((fz r).1 ≤ (fz r).2))] at hd3
          have hbl : bcc.length ≤ 1000 := by
            rw [DpAll.len hd3, List.length_map]
            refine Nat.le_trans (List.length_filter_le _ _) ?_
            rw [List.length_map]
            exact lb
          have hmul : 1000 * i ≤ 1000 * 999 := Nat.mul_le_mul_left _ (by omega)
          have h13 := s3 _ _ (s2 _ _ h1)
          refine ⟨F, D2, fs, bcc, rfl, rfl, h13, hD3, Nat.le_of_lt (szl (by omega)), _, _, _, fs ++ bcc, rfl, same_own (s12.trans s3) hF, upd_same, ?_, by rw [List.length_append]; omega⟩
          have et : a.spans.take (i + 1) = a.spans.take i ++ [p] := by
            rw [List.take_add_one, e2]
            rfl
          rw [et, lawMetL_snoc, show encPs (lawMetL (a.spans.take i) b.spans ++ (b.spans.map (lawPair p)).filter fun r => decide ((fz r).1 ≤ (fz r).2)) = encPs (lawMetL (a.spans.take i) b.spans) ++ encPs ((b.spans.map (lawPair p)).filter fun r => decide ((fz r).1 ≤ (fz r).2)) by simp [encPs]]
          exact DpAll.app (dps_updL h13 (tupDs_prs _) (DpAll.same (s2.trans s3) h2)) (dps_updL h13 (tupDs_prs _) hd3)
    · rintro σ H3 ⟨p3, p4, p5, fs, rfl, sH, h1, h2, h3⟩
      rw [exl, List.take_length] at h2
      have fin : ∀ (e1 e2 : Bool), e1 = (a.empty && b.empty) → e2 = (a.words && b.words) → tCB (rTupOf K) (tCons (tCB (rSortDat K) (tCons (tVar 2) tNil)) tNil) [some (.ref ax), some (.ref bx), some (.ref F), p3, p4, p5, Option.none, Option.none, Option.none] H3 fun v H' => ([V.bl e1, .bl e2, v] : List V).length ≤ sizeLine ∧ ∀ p, H' p = Option.none → Q (.ref p) (upd H' p (.tup [.bl e1, .bl e2, v])) := by
        rintro e1 e2 rfl rfl
        refine ⟨_, rfl, F, fs, encPs (lawMetL a.spans b.spans), rfl, SqL.of h1, h2, fin_alike (lawMetL_fin _ _), fin_sortable _, fin_depth _, fun p hp => ?_⟩
        have hsd : DpAll K H3 ((sortedBy (fun d => d) fs (encPs (lawMetL a.spans b.spans))).map (·.1)) (encPs (srtP (lawMetL a.spans b.spans))) := sortedBy_of h2 fun x y p q e1 e2 => le_dat x y p q e1 e2
        refine ⟨p, _, rfl, .inl ⟨SqL.of upd_same, fun l hl => ⟨three_sz, fun t ht => ?_⟩⟩⟩
        exact q _ _ (((sH.trans (same_upd hp)).trans (same_upd hl)).trans (same_upd ht)) (dp_cell (SqT.of upd_same) (.tup ((SqT.of upd_same).ext (same_upd ht)) (DpAll.same (((same_upd hp).trans (same_upd hl)).trans (same_upd ht)) hsd)))
      refine ⟨_, rfl, ax, _, 0, _, rfl, rfl, ha.ext sH, at0, _, rfl, ?_⟩
      have tail : ∀ (e1 : Bool), e1 = (a.empty && b.empty) → tAndV (tOp (rIxT K) (tVar 0) (tC (.int 1))) (tOp (rIxT K) (tVar 1) (tC (.int 1))) [some (.ref ax), some (.ref bx), some (.ref F), p3, p4, p5, Option.none, Option.none, Option.none] H3 fun v2 H' => tCB (rTupOf K) (tCons (tCB (rSortDat K) (tCons (tVar 2) tNil)) tNil) [some (.ref ax), some (.ref bx), some (.ref F), p3, p4, p5, Option.none, Option.none, Option.none] H' fun v H' => ([V.bl e1, v2, v] : List V).length ≤ sizeLine ∧ ∀ p, H' p = Option.none → Q (.ref p) (upd H' p (.tup [.bl e1, v2, v])) := by
        intro e1 he1
        refine ⟨_, rfl, ax, _, 1, _, rfl, rfl, ha.ext sH, at1, _, rfl, ?_⟩
        cases hw : a.words with
        | true => exact iteT ⟨_, rfl, bx, _, 1, _, rfl, rfl, hb.ext sH, at1, fin e1 b.words he1 (by rw [hw]; rfl)⟩
        | false => exact iteF (fin e1 false he1 (by rw [hw]; rfl))
      cases he : a.empty with
      | true => exact iteT ⟨_, rfl, bx, _, 0, _, rfl, rfl, hb.ext sH, at0, tail b.empty (by rw [he]; rfl)⟩
      | false => exact iteF (tail false (by rw [he]; rfl))
end
end RA
end

section
set_option linter.all false
set_option autoImplicit false
namespace RA
open PySem.W (dataLe)
/-! ## stretches that fill a range -/
inductive IsRun : Int → Int → List (Int × Int) → Prop
  | nil {hi : Int} : IsRun (hi + 1) hi []
  | cons {a b hi : Int} {S : List (Int × Int)} : a ≤ b → IsRun (b + 1) hi S → IsRun a hi ((a, b) :: S)
theorem run_of : ∀ (S : List (Int × Int)) (lo hi : Int), lo ≤ hi + 1 → S.Pairwise (fun p q => p.2 < q.1) → (∀ p ∈ S, p.1 ≤ p.2) → (∀ p ∈ S, lo ≤ p.1 ∧ p.2 ≤ hi) → (∀ x, lo ≤ x → x ≤ hi → ∃ p ∈ S, p.1 ≤ x ∧ x ≤ p.2) → IsRun lo hi S
  | [], lo, hi, h0, _, _, _, hc => by
    have : lo = hi + 1 := by
      by_cases h : lo ≤ hi
      · obtain ⟨p, hp, _⟩ := hc lo (Int.le_refl _) h
        cases hp
      · omega
    rw [this]
    exact .nil
  | (a, b) :: S, lo, hi, h0, hs, hv, hb, hc => by
    have hs' := List.pairwise_cons.mp hs
    have hab : a ≤ b := hv (a, b) (by simp)
    have hb0 : lo ≤ a ∧ b ≤ hi := hb (a, b) (by simp)
    have ha : a = lo := by
      obtain ⟨p, hp, h1, h2⟩ := hc lo (Int.le_refl _) (by omega)
      rcases List.mem_cons.mp hp with rfl | hp
      · have h1 : a ≤ lo := h1
        omega
      · have h3 : b < p.1 := hs'.1 p hp
        omega
    subst ha
    refine .cons hab (run_of S (b + 1) hi (by omega) hs'.2 (fun p hp => hv p (by simp [hp])) (fun p hp => ⟨?_, (hb p (by simp [hp])).2⟩) fun x h1 h2 => ?_)
    · have h3 : b < p.1 := hs'.1 p hp
      omega
    · obtain ⟨p, hp, h3, h4⟩ := hc x (by omega) h2
      rcases List.mem_cons.mp hp with rfl | hp
      · have h4 : x ≤ b := h4
        omega
      · exact ⟨p, hp, h3, h4⟩
theorem IsRun.le {lo hi : Int} {S : List (Int × Int)} (h : IsRun lo hi S) : lo ≤ hi + 1 := by
  induction h with
  | nil => exact Int.le_refl _
  | cons h1 _ ih => omega
theorem IsRun.first {lo hi : Int} {S : List (Int × Int)} (h : IsRun lo hi S) : ∀ p, S[0]? = some p → p.1 = lo := by
  intro p hp
  cases h with
  | nil => simp at hp
  | cons h1 _ => simp at hp; rw [← hp]
theorem IsRun.next {lo hi : Int} {S : List (Int × Int)} (h : IsRun lo hi S) : ∀ (i : Nat) p q, S[i]? = some p → S[i + 1]? = some q → q.1 = p.2 + 1 := by
  induction h with
  | nil => intro i p q hp; simp at hp
  | cons h1 h2 ih =>
    intro i p q hp hq
    cases i with
    | zero =>
      simp at hp
      have := h2.first q (by simpa using hq)
      rw [this, ← hp]
    | succ i => exact ih i p q (by simpa using hp) (by simpa using hq)
theorem IsRun.nil_eq {lo hi : Int} (h : IsRun lo hi []) : lo = hi + 1 := by cases h; rfl
theorem IsRun.last {lo hi : Int} {S : List (Int × Int)} (h : IsRun lo hi S) : ∀ p, S.getLast? = some p → p.2 = hi := by
  induction h with
  | nil => intro p hp; simp at hp
  | @cons a b hi S h1 h2 ih =>
    intro p hp
    cases S with
    | nil =>
      simp at hp
      rw [← hp]
      have := h2.nil_eq
      show b = hi
      omega
    | cons q S => exact ih p (by simpa using hp)
theorem IsRun.sum {lo hi : Int} {S : List (Int × Int)} (h : IsRun lo hi S) : (S.map fun p => p.2 - p.1 + 1).sum = hi - lo + 1 := by
  induction h with
  | nil => simp; omega
  | cons h1 h2 ih => rw [List.map_cons, List.sum_cons, ih]; omega
theorem perm_sum {l m : List Int} (h : l.Perm m) : l.sum = m.sum := by
  induction h with
  | nil => rfl
  | cons x _ ih => rw [List.sum_cons, List.sum_cons, ih]
  | swap x y l => rw [List.sum_cons, List.sum_cons, List.sum_cons, List.sum_cons]; omega
  | trans _ _ h1 h2 => rw [h1, h2]
/-! ## finite stretches -/
theorem fin_of {ps : List Pr} {lo hi : Int} (hn : Nf ps) (hm : ∀ x, MemL x ps → lo ≤ x ∧ x ≤ hi) : ∀ p ∈ ps, ∃ a b, p = (some a, some b) ∧ lo ≤ a ∧ a ≤ b ∧ b ≤ hi := by
  intro p hp
  have hv := hn.1 p hp
  have hx : ∀ x, inP p x → lo ≤ x ∧ x ≤ hi := fun x h => hm x ⟨p, hp, h⟩
  obtain ⟨a, b⟩ := p
  cases a with
  | none =>
    exfalso
    cases b with
    | none => have := hx (lo - 1) ⟨fun _ h => (nomatch h), fun _ h => (nomatch h)⟩; omega
    | some b =>
      have := hx (min b (lo - 1)) ⟨fun _ h => (nomatch h), fun c h => by cases h; omega⟩
      omega
  | some a =>
    cases b with
    | none =>
      exfalso
      have := hx (max a (hi + 1)) ⟨fun c h => by cases h; omega, fun _ h => (nomatch h)⟩
      omega
    | some b =>
      have hab := vld_some.mp hv
      have h1 := hx a ⟨fun c h => by cases h; omega, fun c h => by cases h; omega⟩
      have h2 := hx b ⟨fun c h => by cases h; omega, fun c h => by cases h; omega⟩
      exact ⟨a, b, rfl, h1.1, hab, h2.2⟩
theorem pairLe_fin {a b c d : Int} : pairLe (some a, some b) (some c, some d) = (decide (a < c) || (decide (a = c) && decide (b ≤ d))) := dataLe_two _ _ _ (toks_ii a b) (toks_ii c d)
/-- finite, in one another's way: nothing in both -/
def disj (p q : Pr) : Prop := ∀ x, ¬ (inP p x ∧ inP q x)
theorem inP_fin {a b x : Int} : inP (some a, some b) x ↔ a ≤ x ∧ x ≤ b := by simp [inP]
theorem inP_fz {p : Pr} {x : Int} (h : ∃ a b, p = (some a, some b)) : inP p x ↔ (fz p).1 ≤ x ∧ x ≤ (fz p).2 := by
  obtain ⟨a, b, rfl⟩ := h
  exact inP_fin
theorem pairLe_tot : PySem.W.TotalLe pairLe := PySem.W.sortLe_total (PyProof.Rows.listOrd PyProof.Rows.itemOrd) false fun p : Pr => PySem.W.keyToks (encP p)
theorem srtP_sorted (ps : List Pr) : (srtP ps).Pairwise fun p q => pairLe p q = true :=
  List.pairwise_mergeSort (le := pairLe) (fun a b c h1 h2 => pairLe_tot.trans a b c h1 h2) (fun a b => by rcases pairLe_tot.total a b with h | h <;> simp [h]) ps
theorem srtP_perm (ps : List Pr) : (srtP ps).Perm ps := List.mergeSort_perm _ _
/-! ## the cells -/
structure CellOk (c : Col) (ts : List Tst) (k : List Ans) (e : Cell) : Prop where
  nf : Nf e.spans
  len : e.spans.length ≤ 481
  mem : ∀ x, MemL x e.spans ↔ (c.lo ≤ x ∧ x ≤ c.hi) ∧ ansN ts x = k
  emp : e.empty = true → k = ansL ts .non ∧ c.empty = true
  wrd : e.words = true → k = ansL ts (.txt "a") ∧ c.words = true
  any : e.spans ≠ [] ∨ e.empty = true ∨ e.words = true
structure CdOk (c : Col) (ts : List Tst) (m : Cd) : Prop where
  nd : (m.map (·.1)).Nodup
  ok : ∀ e ∈ m, CellOk c ts e.1 e.2
  all : ∀ x, c.lo ≤ x → x ≤ c.hi → ∃ e ∈ m, e.1 = ansN ts x
  len : m.length ≤ 66
theorem putC_new {m : Cd} {k : List Ans} {e : Cell} (h : ∀ x ∈ m, x.1 ≠ k) : putC m k e = m ++ [(k, e)] := by
  unfold putC
  rw [if_neg]
  simp
  intro a b
  exact h (k, a) b rfl
theorem lots0_eq : ∀ (ls : List Lot) (m : Cd), ((m.map (·.1)) ++ ls.map (·.1)).Nodup → ls.foldl (fun m l => putC m l.1 ⟨false, false, l.2⟩) m = m ++ ls.map fun l => (l.1, ⟨false, false, l.2⟩)
  | [], m, _ => by simp
  | l :: ls, m, h => by
    rw [List.foldl_cons, putC_new ?_, lots0_eq ls _ (by simpa using h)]
    · simp
    · intro x hx e
      rw [List.nodup_append] at h
      exact h.2.2 x.1 (List.mem_map.mpr ⟨x, hx, rfl⟩) l.1 (by simp) e
theorem cd0_eq {c : Col} {ts : List Tst} (h : LotsInv c ts (numberLots c ts)) : cd0 c ts = (numberLots c ts).map fun l => (l.1, ⟨false, false, l.2⟩) := by
  have := lots0_eq (numberLots c ts) [] (by simpa using h.nd)
  simpa [cd0, lots0] using this
theorem cd0_ok {c : Col} {ts : List Tst} (hle : c.lo ≤ c.hi) (ho : ∀ t ∈ ts, okT t) (hl : ts.length ≤ 3) : CdOk c ts (cd0 c ts) := by
  have inv := lots_inv hle ho
  rw [cd0_eq inv]
  refine ⟨?_, ?_, ?_, ?_⟩
  · rw [List.map_map]
    exact inv.nd
  · intro e he
    obtain ⟨l, hl', rfl⟩ := List.mem_map.mp he
    refine ⟨inv.nf l hl', ?_, inv.mem l hl', fun h => (nomatch h), fun h => (nomatch h), .inl (inv.ne l hl')⟩
    have := inv.len l hl'
    show l.2.length ≤ 481
    omega
  · intro x h1 h2
    obtain ⟨l, hl', e⟩ := inv.all x h1 h2
    exact ⟨_, List.mem_map.mpr ⟨l, hl', rfl⟩, e⟩
  · rw [List.length_map]
    have h1 := inv.big
    have h2 : 4 ^ ts.length ≤ 4 ^ 3 := Nat.pow_le_pow_right (by decide) hl
    omega
theorem findC_none {m : Cd} {k : List Ans} (h : ∀ x ∈ m, x.1 ≠ k) : findC m k = none := by
  unfold findC
  rw [Option.map_eq_none_iff, List.find?_eq_none]
  intro x hx
  simpa using h x hx
theorem findC_some {m : Cd} {k : List Ans} {e : Cell} (hn : (m.map (·.1)).Nodup) (h : (k, e) ∈ m) : findC m k = some e := by
  induction m with
  | nil => cases h
  | cons x m ih =>
    have hn' := List.nodup_cons.mp hn
    unfold findC at ih ⊢
    rcases List.mem_cons.mp h with rfl | h
    · simp
    · have hne : x.1 ≠ k := by
        rintro rfl
        exact hn'.1 (List.mem_map.mpr ⟨_, h, rfl⟩)
      rw [List.find?_cons_of_neg (by simpa using hne)]
      exact ih hn'.2 h
theorem findC_mem {m : Cd} {k : List Ans} {e : Cell} (h : findC m k = some e) : (k, e) ∈ m := by
  unfold findC at h
  obtain ⟨x, h1, rfl⟩ := Option.map_eq_some_iff.mp h
  have h2 := List.mem_of_find?_eq_some h1
  have h3 : x.1 = k := by simpa using List.find?_some h1
  rw [← h3]
  exact h2
/-- a cell is changed or put behind -/
theorem put_ok {c : Col} {ts : List Tst} {m : Cd} {k : List Ans} {e : Cell} (h : CdOk c ts m) (he : CellOk c ts k e) (hl : m.length ≤ 65) : CdOk c ts (putC m k e) := by
  by_cases hk : ∃ x ∈ m, x.1 = k
  · obtain ⟨x, hx, hxk⟩ := hk
    have ha : (m.any fun e => decide (e.1 = k)) = true := List.any_eq_true.mpr ⟨x, hx, by simpa using hxk⟩
    have hp : putC m k e = m.map fun x => if x.1 = k then (x.1, e) else x := by
      unfold putC
      rw [if_pos ha]
    have hf : (putC m k e).map (·.1) = m.map (·.1) := by
      rw [hp, List.map_map]
      refine List.map_congr_left fun y hy => ?_
      show (if y.1 = k then (y.1, e) else y).1 = y.1
      split <;> rfl
    refine ⟨by rw [hf]; exact h.nd, ?_, ?_, ?_⟩
    · intro y hy
      rw [hp] at hy
      obtain ⟨z, hz, rfl⟩ := List.mem_map.mp hy
      split
      · next e' => show CellOk c ts z.1 e; rw [e']; exact he
      · exact h.ok z hz
    · intro y h1 h2
      obtain ⟨z, hz, e'⟩ := h.all y h1 h2
      have : z.1 ∈ (putC m k e).map (·.1) := by rw [hf]; exact List.mem_map.mpr ⟨z, hz, rfl⟩
      obtain ⟨u, hu, hu'⟩ := List.mem_map.mp this
      exact ⟨u, hu, hu'.trans e'⟩
    · rw [hp, List.length_map]
      exact h.len
  · have hk' : ∀ x ∈ m, x.1 ≠ k := fun x hx e => hk ⟨x, hx, e⟩
    rw [putC_new hk']
    refine ⟨?_, ?_, ?_, ?_⟩
    · rw [List.map_append, List.nodup_append]
      refine ⟨h.nd, by simp, fun a ha b hb => ?_⟩
      simp at hb
      subst hb
      obtain ⟨x, hx, rfl⟩ := List.mem_map.mp ha
      exact hk' x hx
    · intro y hy
      rcases List.mem_append.mp hy with hy | hy
      · exact h.ok y hy
      · rw [List.mem_singleton.mp hy]
        exact he
    · intro y h1 h2
      obtain ⟨z, hz, e'⟩ := h.all y h1 h2
      exact ⟨z, List.mem_append_left _ hz, e'⟩
    · rw [List.length_append]
      simp
      omega
theorem putC_mem (m : Cd) (k : List Ans) (e : Cell) : (k, e) ∈ putC m k e := by
  unfold putC
  split
  · next h =>
    obtain ⟨x, hx, hxk⟩ := List.any_eq_true.mp h
    have hxk : x.1 = k := by simpa using hxk
    exact List.mem_map.mpr ⟨x, hx, by rw [if_pos hxk, hxk]⟩
  · simp
/-- what a get gives -/
theorem get_cases {c : Col} {ts : List Tst} {m : Cd} (h : CdOk c ts m) (k : List Ans) : ((k, getC m k) ∈ m) ∨ (getC m k = cell0 ∧ ∀ x ∈ m, x.1 ≠ k) := by
  unfold getC
  cases hf : findC m k with
  | none =>
    refine .inr ⟨rfl, fun x hx e => ?_⟩
    subst e
    rw [findC_some h.nd hx] at hf
    cases hf
  | some e => exact .inl (findC_mem hf)
theorem ans_non (ts : List Tst) (hne : ts ≠ []) (x : Int) : ansN ts x ≠ ansL ts .non := by
  cases ts with
  | nil => exact absurd rfl hne
  | cons t ts =>
    intro e
    have : ansAt t x = .unknown := by
      have := congrArg List.head? e
      simpa [ansN, ansL, ansOf] using this
    unfold ansAt at this
    split at this
    · cases this
    · split at this <;> cases this
theorem ans_txt (ts : List Tst) (hne : ts ≠ []) (s : PySem.Str) : ansL ts (.txt s) ≠ ansL ts .non := by
  cases ts with
  | nil => exact absurd rfl hne
  | cons t ts => intro e; have := congrArg List.head? e; simp [ansL, ansOf] at this
theorem cd1_ok {c : Col} {ts : List Tst} (hle : c.lo ≤ c.hi) (ho : ∀ t ∈ ts, okT t) (hl : ts.length ≤ 3) (hne : ts ≠ []) : CdOk c ts (cd1 c ts) ∧ (cd1 c ts).length ≤ 65 ∧ (c.empty = true → ∃ e ∈ cd1 c ts, e.1 = ansL ts .non ∧ e.2.empty = true) := by
  have h0 := cd0_ok hle ho hl
  have l0 : (cd0 c ts).length ≤ 64 := by
    have inv := lots_inv hle ho
    have h1 := inv.big
    have h2 : 4 ^ ts.length ≤ 4 ^ 3 := Nat.pow_le_pow_right (by decide) hl
    rw [cd0_eq inv, List.length_map]
    omega
  unfold cd1
  cases he : c.empty with
  | false => rw [if_neg (by decide)]; exact ⟨h0, by omega, fun h => by cases h⟩
  | true =>
    rw [if_pos rfl]
    refine ⟨put_ok h0 ?_ (by omega), by have := putC_len (cd0 c ts) (ansL ts .non) ⟨true, false, (getC (cd0 c ts) (ansL ts .non)).spans⟩; omega, fun _ => ⟨_, putC_mem _ _ _, rfl, rfl⟩⟩
    rcases get_cases h0 (ansL ts .non) with h | ⟨h, hno⟩
    · have := h0.ok _ h
      exact ⟨this.nf, this.len, this.mem, fun _ => ⟨rfl, he⟩, fun h => (nomatch h), .inr (.inl rfl)⟩
    · rw [h]
      exact ⟨nf_nil, by show 0 ≤ 481; decide, fun x => ⟨fun h => absurd h memL_nil, fun h => absurd h.2 (ans_non ts hne x)⟩, fun _ => ⟨rfl, he⟩, fun h => (nomatch h), .inr (.inl rfl)⟩
theorem cd2_ok {c : Col} {ts : List Tst} (hle : c.lo ≤ c.hi) (ho : ∀ t ∈ ts, okT t) (hl : ts.length ≤ 3) (hne : ts ≠ []) : CdOk c ts (cd2 c ts) ∧ (c.empty = true → ∃ e ∈ cd2 c ts, e.1 = ansL ts .non ∧ e.2.empty = true) ∧ (c.words = true → ∃ e ∈ cd2 c ts, e.1 = ansL ts (.txt "a") ∧ e.2.words = true) := by
  obtain ⟨h1, l1, e1⟩ := cd1_ok hle ho hl hne
  unfold cd2
  cases hw : c.words with
  | false => rw [if_neg (by decide)]; exact ⟨h1, e1, fun h => by cases h⟩
  | true =>
    rw [if_pos rfl]
    refine ⟨put_ok h1 ?_ l1, ?_, fun _ => ⟨_, putC_mem _ _ _, rfl, rfl⟩⟩
    · rcases get_cases h1 (ansL ts (.txt "a")) with h | ⟨h, hno⟩
      · have := h1.ok _ h
        exact ⟨this.nf, this.len, this.mem, this.emp, fun _ => ⟨rfl, hw⟩, .inr (.inr rfl)⟩
      · rw [h]
        refine ⟨nf_nil, by show 0 ≤ 481; decide, fun x => ⟨fun h => absurd h memL_nil, fun h => ?_⟩, fun h => (nomatch h), fun _ => ⟨rfl, hw⟩, .inr (.inr rfl)⟩
        obtain ⟨z, hz, e'⟩ := h1.all x h.1.1 h.1.2
        exact absurd (e'.trans h.2) (hno z hz)
    · intro he
      obtain ⟨x, hx, hx1, hx2⟩ := e1 he
      refine ⟨x, ?_, hx1, hx2⟩
      have hk : x.1 ≠ ansL ts (.txt "a") := by rw [hx1]; exact fun e => ans_txt ts hne _ e.symm
      unfold putC
      split
      · exact List.mem_map.mpr ⟨x, hx, if_neg hk⟩
      · exact List.mem_append_left _ hx
end RA
end

section
set_option linter.all false
set_option autoImplicit false
namespace RA
open PySem.W (dataLe)
theorem CellOk.fin {c : Col} {ts : List Tst} {k : List Ans} {e : Cell} (h : CellOk c ts k e) : ∀ p ∈ e.spans, ∃ a b, p = (some a, some b) ∧ c.lo ≤ a ∧ a ≤ b ∧ b ≤ c.hi := fin_of h.nf fun x hx => ((h.mem x).mp hx).1
theorem CellOk.finS {c : Col} {ts : List Tst} {k : List Ans} {e : Cell} (h : CellOk c ts k e) : FinS e.spans := fun p hp => by
  obtain ⟨a, b, e, _⟩ := h.fin p hp
  exact ⟨a, b, e⟩
theorem CellOk.value {c : Col} {ts : List Tst} {k : List Ans} {e : Cell} (h : CellOk c ts k e) : ansL ts (valueFor e) = k := by
  unfold valueFor
  cases he : e.empty with
  | true => rw [if_pos rfl]; exact (h.emp he).1.symm
  | false =>
    rw [if_neg (by decide)]
    rcases hs : e.spans with _ | ⟨p, r⟩
    · rcases h.any with h1 | h1 | h1
      · exact absurd hs h1
      · rw [he] at h1; cases h1
      · exact (h.wrd h1).1.symm
    · obtain ⟨a, b, rfl, h1, h2, h3⟩ := h.fin p (by rw [hs]; simp)
      have hm : MemL a e.spans := ⟨(some a, some b), by rw [hs]; simp, inP_fin.mpr ⟨Int.le_refl _, h2⟩⟩
      exact ((h.mem a).mp hm).2
theorem CellOk.low {c : Col} {ts : List Tst} {k : List Ans} {e : Cell} (h : CellOk c ts k e) : lowOk e := by
  rcases hs : e.spans with _ | ⟨p, r⟩
  · exact .inl hs
  · obtain ⟨a, b, rfl, _⟩ := h.fin p (by rw [hs]; simp)
    exact .inr ⟨a, some b, r, hs⟩
theorem bd_value {c : Col} {ts : List Tst} {k : List Ans} {e : Cell} (hc : okCol c) (h : CellOk c ts k e) : bd3 (valueFor e) := by
  unfold valueFor
  split
  · exact True.intro
  · rcases hs : e.spans with _ | ⟨p, r⟩
    · exact True.intro
    · obtain ⟨a, b, rfl, h1, h2, h3⟩ := h.fin p (by rw [hs]; simp)
      show a.natAbs < 2 ^ 50
      have h4 := hc.2.1
      have h5 := hc.2.2
      rw [p50]
      omega
section
variable {c : Col} {ts : List Tst} {m : Cd}
/-- a cell of cs, with its key -/
theorem key_of_cell {cs : List Cell} (hm : CdOk c ts m) (hp : cs.Perm (m.map (·.2))) {e : Cell} (he : e ∈ cs) : CellOk c ts (ansL ts (valueFor e)) e ∧ (ansL ts (valueFor e), e) ∈ m := by
  obtain ⟨x, hx, rfl⟩ := List.mem_map.mp (hp.subset he)
  have h := hm.ok x hx
  rw [h.value]
  exact ⟨h, hx⟩
theorem heard_nodup {cs : List Cell} (hm : CdOk c ts m) (hp : cs.Perm (m.map (·.2))) : (cs.map fun e => ansL ts (valueFor e)).Nodup := by
  have h1 : (cs.map fun e => ansL ts (valueFor e)).Perm ((m.map (·.2)).map fun e => ansL ts (valueFor e)) := hp.map _
  rw [h1.nodup_iff, List.map_map]
  have h2 : m.map ((fun e => ansL ts (valueFor e)) ∘ fun x : List Ans × Cell => x.2) = m.map (·.1) := List.map_congr_left fun x hx => (hm.ok x hx).value
  rw [h2]
  exact hm.nd
theorem cells_nodup {cs : List Cell} (hm : CdOk c ts m) (hp : cs.Perm (m.map (·.2))) : cs.Nodup := by
  have h := heard_nodup hm hp
  unfold List.Nodup at h ⊢
  rw [List.pairwise_map] at h
  exact h.imp fun hab e => hab (by rw [e])
theorem filter_one {α : Type} {p : α → Bool} : ∀ {l : List α}, l.Nodup → (∀ a ∈ l, ∀ b ∈ l, p a = true → p b = true → a = b) → (l.filter p).length ≤ 1
  | [], _, _ => by simp
  | a :: l, hn, h => by
    have hn' := List.nodup_cons.mp hn
    cases ha : p a with
    | true =>
      have : l.filter p = [] := by
        rw [List.filter_eq_nil_iff]
        intro b hb hpb
        have := h a (by simp) b (by simp [hb]) ha hpb
        subst this
        exact hn'.1 hb
      rw [List.filter_cons_of_pos ha, this]
      simp
    | false =>
      rw [List.filter_cons_of_neg (by rw [ha]; decide)]
      exact filter_one hn'.2 fun x hx y hy => h x (by simp [hx]) y (by simp [hy])
theorem truths {cs : List Cell} (hm : CdOk c ts m) (hp : cs.Perm (m.map (·.2))) {f : Cell → Bool} {b : Bool} {k : List Ans} (h1 : ∀ e ∈ cs, f e = true → ansL ts (valueFor e) = k ∧ b = true) (h2 : b = true → ∃ e ∈ m, f e.2 = true) :
    (cs.filter f).length = if b = true then 1 else 0 := by
  have hle : (cs.filter f).length ≤ 1 := filter_one (cells_nodup hm hp) fun x hx y hy fx fy => by
    have kx := key_of_cell hm hp hx
    have ky := key_of_cell hm hp hy
    have e1 := (h1 x hx fx).1
    have e2 := (h1 y hy fy).1
    have m1 := kx.2
    have m2 := ky.2
    rw [e1] at m1
    rw [e2] at m2
    have := findC_some hm.nd m1
    rw [findC_some hm.nd m2] at this
    exact (Option.some.inj this).symm
  cases hb : b with
  | true =>
    obtain ⟨e, he, hf⟩ := h2 hb
    have hec : e.2 ∈ cs := hp.symm.subset (List.mem_map.mpr ⟨e, he, rfl⟩)
    have : e.2 ∈ cs.filter f := List.mem_filter.mpr ⟨hec, hf⟩
    have := List.length_pos_of_mem this
    rw [if_pos rfl]
    omega
  | false =>
    rw [if_neg (by decide)]
    have : cs.filter f = [] := by
      rw [List.filter_eq_nil_iff]
      intro e he hf
      have := (h1 e he hf).2
      rw [hb] at this
      cases this
    rw [this]
    rfl
/-! ## the stretches of all cells -/
theorem disj_sym {p q : Pr} (h : disj p q) : disj q p := fun x z => h x ⟨z.2, z.1⟩
theorem sep_disj {p q : Pr} (h : sep p q) : disj p q := by
  rintro x ⟨h1, h2⟩
  obtain ⟨b, a, e1, e2, h3⟩ := h
  have := h1.2 b e1
  have := h2.1 a e2
  omega
theorem all_disj {cs : List Cell} (hm : CdOk c ts m) (hp : cs.Perm (m.map (·.2))) : (allS cs).Pairwise disj := by
  unfold allS
  rw [List.pairwise_flatMap]
  refine ⟨fun e he => (key_of_cell hm hp he).1.nf.2.imp sep_disj, ?_⟩
  have hn := heard_nodup hm hp
  unfold List.Nodup at hn
  rw [List.pairwise_map] at hn
  refine List.Pairwise.imp_of_mem ?_ hn
  intro a b ha hb hab p hp1 q hq1 x ⟨hx1, hx2⟩
  have h1 := ((key_of_cell hm hp ha).1.mem x).mp ⟨p, hp1, hx1⟩
  have h2 := ((key_of_cell hm hp hb).1.mem x).mp ⟨q, hq1, hx2⟩
  exact hab (h1.2.symm.trans h2.2)
theorem all_fin {cs : List Cell} (hm : CdOk c ts m) (hp : cs.Perm (m.map (·.2))) : ∀ p ∈ allS cs, ∃ a b, p = (some a, some b) ∧ c.lo ≤ a ∧ a ≤ b ∧ b ≤ c.hi := by
  intro p hpm
  obtain ⟨e, he, h⟩ := List.mem_flatMap.mp hpm
  exact (key_of_cell hm hp he).1.fin p h
theorem spr_run {cs : List Cell} (hle : c.lo ≤ c.hi) (hm : CdOk c ts m) (hp : cs.Perm (m.map (·.2))) : IsRun c.lo c.hi ((srtP (allS cs)).map fz) := by
  have hperm := srtP_perm (allS cs)
  have hf : ∀ p ∈ srtP (allS cs), ∃ a b, p = (some a, some b) ∧ c.lo ≤ a ∧ a ≤ b ∧ b ≤ c.hi := fun p hp' => all_fin hm hp p (hperm.subset hp')
  have hd : (srtP (allS cs)).Pairwise disj := (hperm.pairwise_iff (R := disj) fun h => disj_sym h).mpr (all_disj hm hp)
  refine run_of _ _ _ (by omega) ?_ ?_ ?_ ?_
  · rw [List.pairwise_map]
    have hs := srtP_sorted (allS cs)
    have hboth := hs.and hd
    refine List.Pairwise.imp_of_mem ?_ hboth
    rintro p q hpm hqm ⟨h1, h2⟩
    obtain ⟨a, b, rfl, _, hab, _⟩ := hf p hpm
    obtain ⟨a2, b2, rfl, _, hab2, _⟩ := hf q hqm
    rw [pairLe_fin] at h1
    show b < a2
    have h3 : a ≤ a2 := by simp at h1; omega
    have h4 := h2 a2
    rw [inP_fin, inP_fin] at h4
    have : ¬ a2 ≤ b := fun z => h4 ⟨⟨h3, z⟩, Int.le_refl _, hab2⟩
    omega
  · intro p hpm
    obtain ⟨q, hq, rfl⟩ := List.mem_map.mp hpm
    obtain ⟨a, b, rfl, _, hab, _⟩ := hf q hq
    exact hab
  · intro p hpm
    obtain ⟨q, hq, rfl⟩ := List.mem_map.mp hpm
    obtain ⟨a, b, rfl, h1, hab, h2⟩ := hf q hq
    exact ⟨h1, h2⟩
  · intro x h1 h2
    obtain ⟨y, hy, hyk⟩ := hm.all x h1 h2
    have hok := hm.ok y hy
    obtain ⟨p, hpm, hx⟩ := (hok.mem x).mpr ⟨⟨h1, h2⟩, hyk.symm⟩
    have hyc : y.2 ∈ cs := hp.symm.subset (List.mem_map.mpr ⟨y, hy, rfl⟩)
    have hpa : p ∈ allS cs := List.mem_flatMap.mpr ⟨y.2, hyc, hpm⟩
    have hps := hperm.symm.subset hpa
    obtain ⟨a, b, rfl, _⟩ := hf p hps
    exact ⟨_, List.mem_map.mpr ⟨_, hps, rfl⟩, inP_fin.mp hx⟩
theorem sum_all (cs : List Cell) : ((allS cs).map fun p => (fz p).2 - (fz p).1 + 1).sum = (cs.map manyIn).sum := by
  induction cs with
  | nil => rfl
  | cons e cs ih =>
    have : allS (e :: cs) = e.spans ++ allS cs := by simp [allS]
    rw [this, List.map_append, List.sum_append, ih, List.map_cons, List.sum_cons]
    rfl
theorem spr_ok {cs : List Cell} (hle : c.lo ≤ c.hi) (hm : CdOk c ts m) (hp : cs.Perm (m.map (·.2))) : SpR c cs := by
  have run := spr_run hle hm hp
  have hperm := srtP_perm (allS cs)
  have gm : ∀ (i : Nat) p, (srtP (allS cs))[i]? = some p → ((srtP (allS cs)).map fz)[i]? = some (fz p) := fun i p h => by rw [List.getElem?_map, h]; rfl
  refine ⟨fun e he => ⟨(key_of_cell hm hp he).1.finS, by have := (key_of_cell hm hp he).1.len; omega⟩, ?_, ?_, fun i p q h1 h2 => run.next i _ _ (gm i p h1) (gm (i + 1) q h2), fun p h => run.first _ (gm 0 p h), ?_, ?_, ?_, ?_⟩
  · rw [hp.length_eq, List.length_map]
    have := hm.len
    omega
  · intro e
    rw [e] at run
    have := run.nil_eq
    omega
  · intro p h
    refine run.last (fz p) ?_
    rw [List.getLast?_map, h]
    rfl
  · intro p hpm
    obtain ⟨a, b, rfl, _, hab, _⟩ := all_fin hm hp p hpm
    exact hab
  · intro e he i p q h1 h2
    have hs := (key_of_cell hm hp he).1.nf.2
    have hi1 := (List.getElem?_eq_some_iff.mp h1)
    have hi2 := (List.getElem?_eq_some_iff.mp h2)
    obtain ⟨l1, e1⟩ := hi1
    obtain ⟨l2, e2⟩ := hi2
    have := List.pairwise_iff_getElem.mp hs i (i + 1) l1 l2 (by omega)
    rw [e1, e2] at this
    obtain ⟨b, a, f1, f2, f3⟩ := this
    show p.2.getD 0 + 2 ≤ q.1.getD 0
    rw [f1, f2]
    show b + 2 ≤ a
    omega
  · have h1 := run.sum
    rw [List.map_map] at h1
    have h2 : ((srtP (allS cs)).map ((fun p : Int × Int => p.2 - p.1 + 1) ∘ fz)).sum = ((allS cs).map fun p => (fz p).2 - (fz p).1 + 1).sum := perm_sum (hperm.map _)
    rw [← sum_all, ← h2, h1]
/-! ## met -/
theorem metAny_fin {p : Pr} {b : List Pr} (hp : ∃ x y, p = (some x, some y)) (hb : FinS b) : metAny b p = (b.map (lawPair p)).filter fun r => decide ((fz r).1 ≤ (fz r).2) := by
  obtain ⟨x, y, rfl⟩ := hp
  induction b with
  | nil => rfl
  | cons q b ih =>
    have ih := ih fun r hr => hb r (by simp [hr])
    obtain ⟨u, v, rfl⟩ := hb q (by simp)
    have e : metP (some x, some y) (some u, some v) = if decide (max x u ≤ min y v) = true then some (some (max x u), some (min y v)) else none := rfl
    unfold metAny at ih ⊢
    rw [List.map_cons]
    by_cases h : max x u ≤ min y v
    · rw [List.filterMap_cons_some (b := (some (max x u), some (min y v))) (by rw [e, if_pos (decide_eq_true h)]), List.filter_cons_of_pos (p := fun r : Pr => decide ((fz r).1 ≤ (fz r).2)) (a := lawPair (some x, some y) (some u, some v)) (show decide (max x u ≤ min y v) = true from decide_eq_true h), ih]
      rfl
    · rw [List.filterMap_cons_none (by rw [e, if_neg (by rw [decide_eq_false h]; decide)]), List.filter_cons_of_neg (p := fun r : Pr => decide ((fz r).1 ≤ (fz r).2)) (a := lawPair (some x, some y) (some u, some v)) (show ¬ decide (max x u ≤ min y v) = true by rw [decide_eq_false h]; decide), ih]
theorem lawMetL_eq {a b : List Pr} (ha : FinS a) (hb : FinS b) : lawMetL a b = inter a b := by
  unfold lawMetL inter
  induction a with
  | nil => rfl
  | cons p a ih =>
    rw [List.flatMap_cons, List.flatMap_cons, ih fun r hr => ha r (by simp [hr]), metAny_fin (ha p (by simp)) hb]
theorem srtP_nf {ps : List Pr} (hn : Nf ps) (hf : FinS ps) : srtP ps = ps := by
  refine List.mergeSort_of_pairwise (List.Pairwise.imp_of_mem ?_ hn.2)
  rintro p q hp hq hs
  obtain ⟨a, b, rfl⟩ := hf p hp
  obtain ⟨a2, b2, rfl⟩ := hf q hq
  obtain ⟨u, v, e1, e2, h⟩ := hs
  cases e1
  cases e2
  have hab := vld_some.mp (hn.1 _ hp)
  rw [pairLe_fin, decide_eq_true (show a < a2 by omega), Bool.true_or]
theorem met_same {a b : Cell} (na : Nf a.spans) (nb : Nf b.spans) (fa : FinS a.spans) (fb : FinS b.spans) : lawMet a b = metC a b := by
  unfold lawMet metC
  rw [lawMetL_eq fa fb, spI_eq na nb, srtP_nf (inter_nf na nb) (by rw [← lawMetL_eq fa fb]; exact lawMetL_fin _ _)]
end
end RA
end

section
set_option Elab.async false
set_option linter.all false
set_option maxRecDepth 100000
set_option maxHeartbeats 4000000
namespace RA
open PySem PySem.W PySem.Spec PySem.Calls PyProof.Rows L2
/-! len(set(xs)) of distinct tuples of ints and texts -/
abbrev TKey := List Key
abbrev hsh (P : Program) (w : World) (k : TKey) : Int := tupleKeyHash (mixKind P w) k
abbrev IsK (P : Program) (w : World) (h : Heap) (k : TKey) (a : Addr) : Prop := IsTupleKey (mixKind P w) h k a
section
variable {P : Program} {w : World} {A : Around} {E : Value → Shared → Prop} {s : Shared}
theorem items_key {k : TKey} {vs : List Value} (h : ItemsAre (mixKind P w) k vs) : ∀ v ∈ vs, (∃ i t, v = Value.int i t) ∨ ∃ x t, v = Value.str x t := by
  induction h with
  | nil => intro v hv; cases hv
  | @cons k0 v' ks vs h1 _ ih =>
    intro v hv
    rcases List.mem_cons.mp hv with e | hv
    · subst e
      rcases keyIs_shape (show keyIs k0 v = true from h1) with ⟨i, t, _, e2⟩ | ⟨x, t, _, e2⟩
      · exact .inl ⟨i, t, e2⟩
      · exact .inr ⟨x, t, e2⟩
    · exact ih v hv
theorem cls_key (n : Nat) {v : Value} (h : (∃ i t, v = Value.int i t) ∨ ∃ x t, v = Value.str x t) : ofAClassStatement n v = pure false := by
  rcases h with ⟨i, t, rfl⟩ | ⟨x, t, rfl⟩ <;> cases n <;> rfl
theorem byv_key (n : Nat) {v : Value} (h : (∃ i t, v = Value.int i t) ∨ ∃ x t, v = Value.str x t) : ∃ b, hashByValue n v = pure b := by
  rcases h with ⟨i, t, rfl⟩ | ⟨x, t, rfl⟩ <;> cases n <;> exact ⟨_, rfl⟩
theorem cls_tk {k : TKey} {b : Addr} {Q : Bool → Shared → Prop} (hk : IsK P w s.heap k b) (h : Q false s) : wpAny (model P w) A (ofAClassStatement 8 (.ref b)) Q E s := by
  have hT := hk.typeIs
  obtain ⟨o, items, n, ho, _, hd, hi⟩ := hk
  unfold ofAClassStatement
  refine wpAny_bind (wpAny_typeOf hT ?_)
  dsimp only
  have e : (("tuple" : String) == "tuple") = true := by decide
  simp only [e, if_true, Bool.not_true, Bool.false_eq_true, if_false]
  try refine wpAny_bind (wpAny_pure ?_)
  try simp only [Bool.not_true, Bool.false_eq_true, if_false]
  show wpAny _ _ (seqItems? (.ref b) >>= _) _ _ s
  refine wpAny_bind (wpAny_seqItems ho hd ?_)
  dsimp only
  refine wpAny_bind ?_
  show wpAny _ _ (forIn items _ _) _ _ s
  rw [← Array.forIn_toList]
  refine wpAny_forIn_list _ (fun rest r s' => r.1 = none ∧ s' = s ∧ ∀ v ∈ rest, (∃ i t, v = Value.int i t) ∨ ∃ x t, v = Value.str x t) _ ?_ ?_ _ _ ⟨rfl, rfl, items_key hi⟩
  · rintro v rest r s' ⟨hr, rfl, hall⟩
    rw [cls_key _ (hall v List.mem_cons_self)]
    refine wpAny_bind (wpAny_pure ?_)
    simp only [Bool.false_eq_true, if_false]
    exact wpAny_pure ⟨rfl, rfl, fun u hu' => hall u (List.mem_cons_of_mem _ hu')⟩
  · rintro ⟨r1, r2⟩ s' ⟨hr, rfl, _⟩
    simp only at hr
    subst hr
    exact wpAny_pure h
/-- whether the hash goes by value, whatever it answers -/
theorem byv_tk {k : TKey} {b : Addr} {Q : Bool → Shared → Prop} (hk : IsK P w s.heap k b) (h : ∀ c, Q c s) : wpAny (model P w) A (hashByValue 8 (.ref b)) Q E s := by
  have hT := hk.typeIs
  obtain ⟨o, items, n, ho, _, hd, hi⟩ := hk
  unfold hashByValue
  refine wpAny_bind (wpAny_specialOf hT F.slot_tuple_hash.lookup ?_)
  show wpAny _ _ (seqItems? (.ref b) >>= _) _ _ s
  refine wpAny_bind (wpAny_seqItems ho hd ?_)
  refine wpAny_bind ?_
  show wpAny _ _ (forIn items _ _) _ _ s
  rw [← Array.forIn_toList]
  refine wpAny_forIn_list _ (fun rest r s' => s' = s ∧ ∀ v ∈ rest, (∃ i t, v = Value.int i t) ∨ ∃ x t, v = Value.str x t) _ ?_ ?_ _ _ ⟨rfl, items_key hi⟩
  · rintro v rest r s' ⟨rfl, hall⟩
    obtain ⟨c, e⟩ := byv_key 7 (hall v List.mem_cons_self)
    rw [e]
    refine wpAny_bind (wpAny_pure ?_)
    cases c
    · simp only [Bool.not_false, if_true]
      refine wpAny_pure ?_
      exact wpAny_pure (h _)
    · simp only [Bool.not_true, Bool.false_eq_true, if_false]
      exact wpAny_pure ⟨rfl, fun u hu' => hall u (List.mem_cons_of_mem _ hu')⟩
  · rintro ⟨r1, r2⟩ s' ⟨rfl, _⟩
    dsimp only
    cases r1 <;> exact wpAny_pure (h _)
theorem seen_tk {k : TKey} {b : Addr} {Q : Bool → Shared → Prop} (hk : IsK P w s.heap k b) {ys : List Value} (hy : ∀ y ∈ ys, ∃ k' c, y = Value.ref c ∧ IsK P w s.heap k' c) (h : Q false s) :
    wpAny (model P w) A (searchCouldBeSeen (.ref b) ys) Q E s := by
  unfold searchCouldBeSeen
  refine wpAny_bind ?_
  refine wpAny_forIn_list _ (fun rest r s' => r.1 = none ∧ s' = s ∧ ∀ y ∈ rest, ∃ k' c, y = Value.ref c ∧ IsK P w s.heap k' c) _ ?_ ?_ _ _ ⟨rfl, rfl, hy⟩
  · rintro v rest r s' ⟨hr, rfl, hall⟩
    obtain ⟨k', c, rfl, hc⟩ := hall v List.mem_cons_self
    have rest' : ∀ y ∈ rest, ∃ k' c, y = Value.ref c ∧ IsK P w s'.heap k' c := fun u hu' => hall u (List.mem_cons_of_mem _ hu')
    dsimp only
    by_cases hv : (b == c || (carriedByValue (.ref b) && carriedByValue (.ref c))) = true
    · refine wp_if_pos hv ?_
      exact wpAny_pure ⟨rfl, rfl, rest'⟩
    · refine wp_if_neg hv ?_
      refine wpAny_bind (wpAny_eqIsQuiet_tuple hk ?_)
      simp only [Bool.not_true, Bool.false_eq_true, if_false]
      refine wpAny_bind (wpAny_eqIsQuiet_tuple hc ?_)
      simp only [Bool.not_true, Bool.false_eq_true, if_false]
      refine wpAny_bind (cls_tk hk ?_)
      simp only [Bool.false_eq_true, if_false]
      refine wpAny_bind (cls_tk hc ?_)
      simp only [Bool.false_eq_true, if_false]
      exact wpAny_pure ⟨rfl, rfl, rest'⟩
  · rintro ⟨r1, r2⟩ s' ⟨hr, rfl, _⟩
    simp only at hr
    subst hr
    exact wpAny_pure h

/-! ### the set -/
abbrev Rw := Addr × TKey
def rowsK (P : Program) (w : World) (L : List Rw) : List (Int × Value) := L.map fun p => (hsh P w p.2, Value.ref p.1)
structure SetK0 (P : Program) (w : World) (h : Heap) (a : Addr) (L : List Rw) (es : Array (Int × Value)) (ep : Nat) (t : SetTable) : Prop where
  ob : ∃ o, h.get? a = some o ∧ o.ExactSet ∧ o.data = .set es ep t
  rows : es.toList = rowsK P w L
  tab : TabOk t (L.map fun p => hsh P w p.2)
  tup : ∀ p ∈ L, IsK P w h p.2 p.1
  room : L.length * 5 < t.mask * 3
variable {a : Addr} {L : List Rw} {es : Array (Int × Value)} {ep : Nat} {t : SetTable}
theorem rowsK_len {es : Array (Int × Value)} {L : List Rw} (e : es.toList = rowsK P w L) : es.size = L.length := by
  have h := congrArg List.length e
  unfold rowsK at h
  rw [Array.length_toList, List.length_map] at h
  exact h
theorem rowsK_at {es : Array (Int × Value)} {L : List Rw} (e : es.toList = rowsK P w L) {i : Nat} {p : Rw} (h : L[i]? = some p) : es[i]? = some (hsh P w p.2, Value.ref p.1) := by
  rw [← Array.getElem?_toList, e]
  unfold rowsK
  rw [List.getElem?_map, h] <;> rfl
theorem fits_of {t : SetTable} {n : Nat} (h1 : t.place.size = n) (h2 : t.dummies = #[]) (h3 : n ≤ t.mask) : t.fits n = true := by
  unfold SetTable.fits SetTable.fill
  rw [h2, Bool.and_eq_true, beq_iff_eq, decide_eq_true_eq]
  show t.place.size = n ∧ t.place.size + 0 ≤ t.mask
  omega
theorem SetK0.size (R : SetK0 P w s.heap a L es ep t) : es.size = L.length := rowsK_len R.rows
theorem SetK0.plsz (R : SetK0 P w s.heap a L es ep t) : t.place.size = es.size := by
  have h1 := R.tab.sz
  rw [List.length_map] at h1
  rw [h1, R.size]
theorem SetK0.fits (R : SetK0 P w s.heap a L es ep t) : t.fits es.size = true := by
  have h2 := R.size
  have h3 := R.room
  exact fits_of R.plsz R.tab.dm (by omega)
theorem SetK0.entry (R : SetK0 P w s.heap a L es ep t) {i : Nat} {p : Rw} (h : L[i]? = some p) : es[i]? = some (hsh P w p.2, Value.ref p.1) := rowsK_at R.rows h
/-- the c-th state of the search for a hash -/
abbrev prb (m : Nat) (h : Int) (c : Nat) : SetTable.Probe := nth m (runAt m (SetTable.bits h % (m + 1)) (SetTable.bits h)) c
theorem prb_dummy (m : Nat) (h : Int) : ∀ c, (prb m h c).dummy = none
  | 0 => rfl
  | c + 1 => by
    have e : prb m h (c + 1) = adv m (prb m h c) := nth_succ m _ c
    have ih := prb_dummy m h c
    rw [e]
    unfold adv
    split <;> exact ih
theorem prb_add (m : Nat) (h : Int) (c q : Nat) : nth m (prb m h c) q = prb m h (c + q) := (nth_add m c _ q).symm
/-- THE SEARCH for a key that isn't there, from the c-th step of the way on -/
theorem look_from (R : SetK0 P w s.heap a L es ep t) {x : Addr} {k : TKey} (hx : IsK P w s.heap k x) (hu : A.units < cLine) (hno : k ∉ L.map (·.2)) {K : Nat} (hKf : K < 10 * SetTable.turns t.mask)
    (hK : way t.mask (hsh P w k) K ∉ t.place.toList) (hKb : ∀ c, c < K → way t.mask (hsh P w k) c ∈ t.place.toList) {Q : SetFound → Shared → Prop} (q : Q (.free (way t.mask (hsh P w k) K) false) s) :
    ∀ (f c : Nat) (stand : Option SetTable.Probe), stand.getD (t.probeStart (hsh P w k)) = prb t.mask (hsh P w k) c → c ≤ K → K - c < f →
      wpAny (model P w) A (setSearchFrom a (.ref x) (hsh P w k) true f stand) Q E s
  | 0, c, stand, _, _, hf => absurd hf (Nat.not_lt_zero _)
  | f + 1, c, stand, hst, hc, hf => by
    obtain ⟨o, ho, hex, hd⟩ := R.ob
    rw [setSearchFrom_succ]
    refine wpAny_bind (wpAny_setState_of ho hd R.fits ?_)
    dsimp only
    refine wp_if_neg (by unfold SetTable.gaveWay; rw [mask_odd R.tab.mok]; decide) ?_
    try refine wpAny_bind (wpAny_pure ?_)
    have wy : ∀ q, (nth t.mask (prb t.mask (hsh P w k) c) q).j = way t.mask (hsh P w k) (c + q) := fun q => congrArg SetTable.Probe.j (prb_add _ _ c q)
    rcases go_spec t R.tab.ris R.tab.dm (fun i => (es[i]?.map (·.1)).getD 0) (hsh P w k) (10 * SetTable.turns t.mask) (K - c) _ (prb_dummy t.mask (hsh P w k) c) (by omega)
      (fun q hq => by rw [wy]; exact hKb (c + q) (by omega)) (by rw [wy, show c + (K - c) = K by omega]; exact hK) with ⟨n, i, hn, hi, hh, _, hpr⟩ | ⟨_, hpr⟩
    · have hpr' : t.probe (fun i => (es[i]?.map (·.1)).getD 0) (hsh P w k) (stand.getD (t.probeStart (hsh P w k))) = some (.candidate (way t.mask (hsh P w k) (c + n)) i (prb t.mask (hsh P w k) (c + (n + 1)))) := by
        rw [hst, ← wy, ← prb_add]
        exact hpr
      rw [hpr']
      dsimp only
      rw [wy] at hi
      have hil : i < L.length := by
        have h1 : i < t.place.toList.length := (List.getElem?_eq_some_iff.mp hi).1
        rw [Array.length_toList, R.plsz, R.size] at h1
        exact h1
      obtain ⟨p, hp⟩ : ∃ p, L[i]? = some p := ⟨_, List.getElem?_eq_getElem hil⟩
      have hmem : p ∈ L := List.mem_of_getElem? hp
      have hne : ¬ p.2 = k := fun e => hno (List.mem_map.mpr ⟨p, hmem, e⟩)
      have rest : wpAny (model P w) A (searchRest a (.ref x) (hsh P w k) true f es t (way t.mask (hsh P w k) (c + n)) i (prb t.mask (hsh P w k) (c + (n + 1)))) Q E s := by
        unfold searchRest
        rw [R.entry hp]
        dsimp only
        refine wpAny_bind (wpAny_holding (wpAny_eqBool_tuple hu (R.tup p hmem) hx ?_))
        refine wpAny_bind (wpAny_setState_of ho hd R.fits ?_)
        dsimp only
        refine wp_if_neg (by simp [hne]) ?_
        try refine wpAny_bind (wpAny_pure ?_)
        have hsm : t.sameMemory t.moves t.mask = some true := by
          unfold SetTable.sameMemory
          rw [if_pos (beq_self_eq_true _)]
        rw [hsm]
        dsimp only
        have hsl : t.slot (way t.mask (hsh P w k) (c + n)) = .live i := slot_live R.tab.ris hi
        simp only [if_true, hsl, R.entry hp]
        refine wpAny_bind (wpAny_isSame_ref_self (wpAny_bind (wpAny_pure ?_)))
        simp only [if_true]
        refine wp_if_neg (by simp [hne]) ?_
        exact look_from R hx hu hno hKf hK hKb q f (c + (n + 1)) _ rfl (by omega) (by omega)
      by_cases hl : t.led = true
      · refine wp_if_neg (by simp [hl]) ?_
        try refine wpAny_bind (wpAny_pure ?_)
        exact rest
      · refine wp_if_pos (by simp [hl]) ?_
        refine wpAny_bind (seen_tk hx (fun y hy => ?_) ?_)
        · obtain ⟨e, he, ee⟩ := List.mem_map.mp hy
          have he1 : e ∈ es ∧ e.1 = hsh P w k := by simpa using he
          have he2 : e ∈ es.toList := by simpa using he1.1
          rw [R.rows] at he2
          obtain ⟨p2, hp2, e2⟩ := List.mem_map.mp he2
          exact ⟨p2.2, p2.1, by rw [← ee, ← e2], R.tup p2 hp2⟩
        · refine wp_if_neg (by decide) ?_
          try refine wpAny_bind (wpAny_pure ?_)
          exact rest
    · have hpr' : t.probe (fun i => (es[i]?.map (·.1)).getD 0) (hsh P w k) (stand.getD (t.probeStart (hsh P w k))) = some (.empty (way t.mask (hsh P w k) K) none) := by
        have e2 : way t.mask (hsh P w k) K = (nth t.mask (prb t.mask (hsh P w k) c) (K - c)).j := by
          rw [wy, show c + (K - c) = K by omega]
        rw [hst, e2]
        exact hpr
      rw [hpr']
      dsimp only
      exact wpAny_pure q
theorem look_at (R : SetK0 P w s.heap a L es ep t) {x : Addr} {k : TKey} (hx : IsK P w s.heap k x) (hu : A.units < cLine) (hno : k ∉ L.map (·.2)) {Q : SetFound → Shared → Prop}
    (q : ∀ K, way t.mask (hsh P w k) K ∉ t.place.toList → (∀ c, c < K → way t.mask (hsh P w k) c ∈ t.place.toList) → Q (.free (way t.mask (hsh P w k) K) false) s) :
    wpAny (model P w) A (setSearch a (.ref x) (hsh P w k) true) Q E s := by
  have hroom := R.room
  obtain ⟨K, hKf, hK, hKb⟩ := R.tab.first (by rw [List.length_map]; omega) (hsh P w k)
  have hbig : K < 100000 := by
    have : 10 * SetTable.turns t.mask ≤ 1420 := by
      unfold SetTable.turns
      rcases R.tab.mok with e | e | e <;> omega
    omega
  unfold setSearch
  exact look_from R hx hu hno hKf hK hKb (q K hK hKb) 100000 0 none rfl (Nat.zero_le _) (by omega)
end
end RA
end

section
set_option Elab.async false
set_option linter.all false
set_option maxRecDepth 100000
set_option maxHeartbeats 4000000
namespace RA
open PySem PySem.W PySem.Spec PySem.Calls PyProof.Rows L2
section
variable {P : Program} {w : World} {A : Around} {E : Value → Shared → Prop} {s : Shared}
theorem isK_but {h h' : Heap} {k : TKey} {a b : Addr} {o : Obj} {es : Array (Int × Value)} {ep : Nat} {t : SetTable} (hb : IsK P w h k b) (ho : h.get? a = some o) (hd : o.data = .set es ep t) (hs : Heap.SameBut a h h') : IsK P w h' k b := by
  obtain ⟨o', items, n, ho', hc, hd', hi⟩ := hb
  have hne : b ≠ a := by
    rintro rfl
    obtain rfl : o' = o := Option.some.inj (ho'.symm.trans ho)
    rw [hd] at hd'
    exact nomatch hd'
  exact ⟨o', items, n, (hs.2 b hne).trans ho', hc, hd', hi⟩
theorem isK_keep {h h' : Heap} {k : TKey} {b : Addr} (x : IsK P w h k b) (hk : ∀ c o, h.get? c = some o → h'.get? c = some o) : IsK P w h' k b := by
  obtain ⟨o, items, n, ho, r⟩ := x
  exact ⟨o, items, n, hk b o ho, r⟩
theorem fm_at {α β : Type} (f : α → β) (es : List β) (L : List α) (e : es = L.map f) : ∀ l : List Nat, (∀ i ∈ l, i < L.length) → l.filterMap (fun i => es[i]?) = (l.filterMap fun i => L[i]?).map f
  | [], _ => rfl
  | i :: l, h => by
    have hi := h i List.mem_cons_self
    have e1 : es[i]? = some (f L[i]) := by rw [e, List.getElem?_map, List.getElem?_eq_getElem hi] <;> rfl
    rw [List.filterMap_cons_some e1, List.filterMap_cons_some (List.getElem?_eq_getElem hi), List.map_cons, fm_at f es L e l fun j hj => h j (List.mem_cons_of_mem _ hj)]
theorem fm_range {α : Type} (L : List α) : (List.range L.length).filterMap (fun i => L[i]?) = L := by
  have key : ∀ n, n ≤ L.length → (List.range n).filterMap (fun i => L[i]?) = L.take n := by
    intro n
    induction n with
    | zero => intro _; rfl
    | succ n ih =>
      intro hn
      have hlt : n < L.length := hn
      rw [List.range_succ, List.filterMap_append, ih (Nat.le_of_lt hlt), List.take_succ, List.getElem?_eq_getElem hlt]
      rw [List.filterMap_cons_some (List.getElem?_eq_getElem hlt)] <;> rfl
  rw [key L.length (Nat.le_refl _), List.take_length]
theorem fm_hash (L : List Rw) (f : Rw → Int) (hs : Array Int) (e : hs.toList = L.map f) : ∀ l : List Nat, (∀ i ∈ l, i < L.length) → (l.filterMap fun i => L[i]?).map f = l.map fun i => hs.getD i 0
  | [], _ => rfl
  | i :: l, h => by
    have hi := h i List.mem_cons_self
    have e1 : hs[i]? = some (f L[i]) := by rw [← Array.getElem?_toList, e, List.getElem?_map, List.getElem?_eq_getElem hi] <;> rfl
    rw [List.filterMap_cons_some (List.getElem?_eq_getElem hi), List.map_cons, List.map_cons, fm_hash L f hs e l fun j hj => h j (List.mem_cons_of_mem _ hj)]
    congr 1
    simp [Array.getD_eq_getD_getElem?, e1]
variable {a : Addr} {L : List Rw} {es : Array (Int × Value)} {ep : Nat} {t : SetTable}
theorem relay_tk {o : Obj} (ho : s.heap.get? a = some o) (hex : o.ExactSet) (hd : o.data = .set es ep t) (hrows : es.toList = rowsK P w L) (hsz : t.place.size = es.size) (hdm : t.dummies = #[]) (hfl : es.size ≤ t.mask)
    (tup : ∀ p ∈ L, IsK P w s.heap p.2 p.1) (few : L.length < 64) {wanted M : Nat}
    (hw : SetTable.sizeAbove wanted - 1 = M) (hM : MaskOk M) (hw2 : SetTable.sizeAbove wanted ≤ 128) (hn : L.length * 5 < M * 3) {Q : Unit → Shared → Prop}
    (hQ : ∀ h' L' es' ep' t', Heap.SameBut a s.heap h' → SetK0 P w h' a L' es' ep' t' → L'.Perm L → Q () { s with heap := h' }) : wpAny (model P w) A (setRelay a wanted) Q E s := by
  have hsl : es.size = L.length := rowsK_len hrows
  obtain ⟨t', order, e, hp, T, em, _, _, _⟩ := relaid_ok t (hs := es.map (·.1)) (wanted := wanted) hw hM (by rw [Array.size_map, hsl]; omega)
  rw [Array.size_map, hsl] at hp
  have hin : ∀ i ∈ order.toList, i < L.length := fun i hi => List.mem_range.mp (hp.mem_iff.mp hi)
  have r1 : (order.filterMap (es[·]?)).toList = rowsK P w (order.toList.filterMap fun i => L[i]?) := by
    have q := fm_at (fun p : Rw => (hsh P w p.2, Value.ref p.1)) es.toList L hrows order.toList hin
    unfold rowsK
    rw [← q, Array.toList_filterMap]
    simp only [Array.getElem?_toList]
  have r2 : (order.toList.filterMap fun i => L[i]?).Perm L := by
    have q : (order.toList.filterMap fun i => L[i]?).Perm ((List.range L.length).filterMap fun i => L[i]?) := hp.filterMap _
    rw [fm_range] at q
    exact q
  have r3 := fm_hash L (fun p => hsh P w p.2) (es.map (·.1)) (by rw [Array.toList_map, hrows]; unfold rowsK; rw [List.map_map] <;> rfl) order.toList hin
  rw [← r3] at T
  generalize (order.toList.filterMap fun i => L[i]?) = L2 at r1 r2 T
  have hs2 : (order.filterMap (es[·]?)).size = es.size := by rw [rowsK_len r1, hsl, r2.length_eq]
  rw [setRelay_eq]
  refine wpAny_bind (wpAny_setState_of ho hd (fits_of hsz hdm hfl) ?_)
  dsimp only
  refine wp_if_neg (by rw [sizeLine_eq]; omega) ?_
  try refine wpAny_bind (wpAny_pure ?_)
  rw [e]
  dsimp only
  refine wpAny_bind ?_
  refine wp_if_neg (by rw [hs2]; simp) ?_
  try refine wpAny_bind (wpAny_pure ?_)
  refine wpAny_pure ?_
  dsimp only
  refine wpAny_storeSet_of ho hd ?_ (by rw [hs2, hsl, sizeLine_eq]; omega)
  have sb : Heap.SameBut a s.heap (s.heap.update a (Obj.putSet (order.filterMap (es[·]?)) t')) := Heap.SameBut.update ..
  refine hQ _ L2 (order.filterMap (es[·]?)) (ep + 1) t' sb ?_ r2
  refine ⟨⟨_, store_at ho hd, ⟨hex.1, hex.2.1, hex.2.2⟩, rfl⟩, r1, T, fun p hpm => isK_but (tup p (r2.mem_iff.mp hpm)) ho hd sb, ?_⟩
  rw [r2.length_eq, em]
  exact hn
theorem ins_perm {α : Type} (L : List α) (p : Nat) (x : α) : (L.take p ++ x :: L.drop p).Perm (x :: L) := by
  have h : (L.take p ++ x :: L.drop p).Perm (x :: (L.take p ++ L.drop p)) := List.perm_middle
  rw [List.take_append_drop] at h
  exact h
theorem tab_off {t : SetTable} {hs : List Int} (T : TabOk t hs) : TabOk { t with plain := false } hs := ⟨T.ris, T.dm, T.sz, T.mok, T.bd, T.reach⟩
/-- ADDING a key that isn't there -/
theorem add_tk (R : SetK0 P w s.heap a L es ep t) {x : Addr} {k : TKey} (hx : IsK P w s.heap k x) (hu : A.units < cLine) (hfew : L.length + 1 < 64) (hno : k ∉ L.map (·.2)) {Q : Bool → Shared → Prop}
    (hQ : ∀ h' L' es' ep' t', Heap.SameBut a s.heap h' → SetK0 P w h' a L' es' ep' t' → L'.Perm ((x, k) :: L) → Q true { s with heap := h' }) :
    wpAny (model P w) A (setAddHashed a (.ref x) (hsh P w k)) Q E s := by
  obtain ⟨o, ho, hex, hd⟩ := R.ob
  have hsl := R.size
  have hroom := R.room
  unfold setAddHashed
  refine wpAny_holding ?_
  rw [show (100000 : Nat) = 99999 + 1 from rfl, setAddHashedIn_succ]
  refine wpAny_bind (wpAny_setState_of ho hd R.fits ?_)
  dsimp only
  refine wp_if_neg (by simp [byScan, Value.scannable]) ?_
  try refine wpAny_bind (wpAny_pure ?_)
  refine wpAny_bind (look_at R hx hu hno fun K hK hb => ?_)
  dsimp only
  refine wpAny_bind (wpAny_setState_of ho hd R.fits ?_)
  dsimp only
  obtain ⟨q1, q2, q3, q4, q5, q6, q7, q8, q9⟩ := R.tab.put hK hb
  generalize hpt : t.put (way t.mask (hsh P w k) K) = pt at q1 q3 q4 q5 q6 q7 q8 q9 ⊢
  obtain ⟨t0, p⟩ := pt
  dsimp only at q1 q3 q4 q5 q6 q7 q8 q9 ⊢
  subst q1
  -- what follows the question whether the hash goes by value
  have tail : ∀ t1 : SetTable, TabOk t1 ((L.map fun p => hsh P w p.2).take (SetTable.below t.place (way t.mask (hsh P w k) K)) ++ hsh P w k :: (L.map fun p => hsh P w p.2).drop (SetTable.below t.place (way t.mask (hsh P w k) K))) → t1.mask = t.mask → t1.fill = (L.map fun p => hsh P w p.2).length + 1 →
      wpAny (model P w) A (do
        storeSet a (SetTable.insertAt es (SetTable.below t.place (way t.mask (hsh P w k) K)) (hsh P w k, .ref x)) t1
        if !false && t1.tooFull then setRelay a (SetTable.grown (es.size + 1))
        return true) Q E s := by
    intro t1 q3 q4 q9
    have hin : (SetTable.insertAt es (SetTable.below t.place (way t.mask (hsh P w k) K)) (hsh P w k, Value.ref x)).toList = rowsK P w (L.take (SetTable.below t.place (way t.mask (hsh P w k) K)) ++ (x, k) :: L.drop (SetTable.below t.place (way t.mask (hsh P w k) K))) := by
      rw [SetTable.toList_insertAt, R.rows]
      unfold rowsK
      rw [List.map_append, List.map_cons, List.map_take, List.map_drop]
    generalize hpp : SetTable.below t.place (way t.mask (hsh P w k) K) = p at q2 q3 hin ⊢
    have pm := ins_perm L p (x, k)
    have hlen : (L.take p ++ (x, k) :: L.drop p).length = L.length + 1 := pm.length_eq
    have hhs : (L.take p ++ (x, k) :: L.drop p).map (fun p => hsh P w p.2) = (L.map fun p => hsh P w p.2).take p ++ hsh P w k :: (L.map fun p => hsh P w p.2).drop p := by
      rw [List.map_append, List.map_cons, List.map_take, List.map_drop]
    rw [← hhs] at q3
    generalize SetTable.insertAt es p (hsh P w k, Value.ref x) = es1 at hin ⊢
    generalize L.take p ++ (x, k) :: L.drop p = L1 at pm hlen q3 hin
    have hes : es1.size = L.length + 1 := by rw [rowsK_len hin, hlen]
    have hsz1 : t1.place.size = es1.size := by rw [q3.sz, List.length_map, hlen, hes]
    refine wpAny_bind (wpAny_storeSet_of ho hd ?_ (by rw [hes, sizeLine_eq]; omega))
    have sb : Heap.SameBut a s.heap (s.heap.update a (Obj.putSet es1 t1)) := Heap.SameBut.update ..
    have ho1 := store_at (es' := es1) (t' := t1) ho hd
    generalize s.heap.update a (Obj.putSet es1 t1) = h1 at sb ho1 ⊢
    have tup1 : ∀ p ∈ L1, IsK P w h1 p.2 p.1 := fun p hp => by
      rcases List.mem_cons.mp (pm.mem_iff.mp hp) with e | hp
      · rw [e]; exact isK_but hx ho hd sb
      · exact isK_but (R.tup p hp) ho hd sb
    by_cases hf : t1.tooFull = true
    · first
        | (refine wpAny_bind ?_; refine wp_if_pos (by simp [hf]) ?_)
        | (refine wp_if_pos (by simp [hf]) ?_; refine wpAny_bind ?_)
      have hfull : (L.length + 1) * 5 ≥ t1.mask * 3 := by
        have h := hf
        unfold SetTable.tooFull at h
        rw [decide_eq_true_eq, q9, List.length_map] at h
        exact h
      rw [hsl]
      have cases2 : (t.mask = 7 ∧ L.length = 4) ∨ (t.mask = 31 ∧ L.length = 18) := by
        rcases R.tab.mok with e | e | e
        · left; rw [q4, e] at hfull; rw [e] at hroom; exact ⟨e, by omega⟩
        · right; rw [q4, e] at hfull; rw [e] at hroom; exact ⟨e, by omega⟩
        · exfalso; rw [q4, e] at hfull; omega
      have go : ∀ M, SetTable.sizeAbove (SetTable.grown (L.length + 1)) - 1 = M → MaskOk M → SetTable.sizeAbove (SetTable.grown (L.length + 1)) ≤ 128 → (L.length + 1) * 5 < M * 3 →
          wpAny (model P w) A (setRelay a (SetTable.grown (L.length + 1))) (fun _ s' => wpAny (model P w) A (pure true) Q E s') E { s with heap := h1 } := fun M h1' h2' h3' h4' => by
        refine relay_tk (s := { s with heap := h1 }) ho1 ⟨hex.1, hex.2.1, hex.2.2⟩ rfl hin hsz1 q3.dm (by rw [hes, q4]; rcases cases2 with ⟨e, e2⟩ | ⟨e, e2⟩ <;> omega) tup1 (by rw [hlen]; exact hfew) h1' h2' h3' (by rw [hlen]; exact h4') ?_
        intro h2 L2 es2 ep2 t2 sb2 R2 pm2
        exact wpAny_pure (hQ h2 L2 es2 ep2 t2 (sb.trans sb2) R2 (pm2.trans pm))
      rcases cases2 with ⟨_, e2⟩ | ⟨_, e2⟩
      · refine go 31 (by rw [e2, size_20]) (.inr (.inl rfl)) (by rw [e2, size_20]; decide) (by omega)
      · refine go 127 (by rw [e2, size_76]) (.inr (.inr rfl)) (by rw [e2, size_76]; decide) (by omega)
    · first
        | refine wp_if_neg (by simp [hf]) ?_
        | (refine wpAny_bind ?_; refine wp_if_neg (by simp [hf]) ?_; refine wpAny_pure ?_)
      refine wpAny_pure (hQ h1 L1 es1 (ep + 1) t1 sb ⟨⟨_, ho1, ⟨hex.1, hex.2.1, hex.2.2⟩, rfl⟩, hin, q3, tup1, ?_⟩ pm)
      have h := hf
      unfold SetTable.tooFull at h
      rw [decide_eq_true_eq, q9, List.length_map] at h
      rw [hlen]
      omega
  have qq : ∀ b : Bool, wpAny (model P w) A (do
        storeSet a (SetTable.insertAt es (SetTable.below t.place (way t.mask (hsh P w k) K)) (hsh P w k, .ref x)) (if b then t0 else { t0 with plain := false })
        if !false && (if b then t0 else { t0 with plain := false }).tooFull then setRelay a (SetTable.grown (es.size + 1))
        return true) Q E s := fun b => by
    cases b
    · exact tail _ (tab_off q3) q4 q9
    · exact tail _ q3 q4 q9
  by_cases hpl : t0.plain = true
  · first
      | (refine wpAny_bind ?_; refine wp_if_pos hpl ?_; refine byv_tk hx fun c => ?_)
      | refine wp_if_pos hpl (wpAny_bind (byv_tk hx fun c => ?_))
    exact qq c
  · first
      | (refine wpAny_bind ?_; refine wp_if_neg hpl ?_; refine wpAny_pure ?_)
      | refine wp_if_neg hpl (wpAny_bind (wpAny_pure ?_))
    exact qq true
end
end RA
end

section
set_option Elab.async false
set_option linter.all false
set_option maxRecDepth 100000
set_option maxHeartbeats 4000000
namespace RA
open PySem PySem.W PySem.Spec PySem.Calls PyProof.Rows L2
section
variable {P : Program} {w : World} {A : Around} {E : Value → Shared → Prop} {s : Shared}
theorem SetK0.keep {h h' : Heap} {a : Addr} {L : List Rw} {es : Array (Int × Value)} {ep : Nat} {t : SetTable} (R : SetK0 P w h a L es ep t) (ha : ∀ o, h.get? a = some o → h'.get? a = some o) (ht : ∀ p ∈ L, IsK P w h' p.2 p.1) : SetK0 P w h' a L es ep t := by
  obtain ⟨o, ho, r⟩ := R.ob
  exact ⟨⟨o, ha o ho, r⟩, R.rows, R.tab, ht, R.room⟩
theorem setK_fresh {h : Heap} {a : Addr} {b : Bool} (ho : h.get? a = some { cls := .type "set", dict := none, data := .set #[] 0 (.fresh 0 0 b) }) : SetK0 P w h a [] #[] 0 (.fresh 0 0 b) where
  ob := ⟨_, ho, ⟨rfl, rfl, rfl⟩, rfl⟩
  rows := rfl
  tab := ⟨List.Pairwise.nil, rfl, rfl, .inl rfl, fun x hx => (by cases hx), fun i h j hi => (by simp at hi)⟩
  tup := fun p hp => (by cases hp)
  room := by
    show 0 * 5 < 7 * 3
    decide
theorem nd_take {ks : List Rw} (nd : (ks.map (·.2)).Nodup) {i : Nat} {p : Rw} (hp : ks[i]? = some p) {L : List Rw} (pm : L.Perm (ks.take i)) : p.2 ∉ L.map (·.2) := fun hm => by
  have hm2 : p.2 ∈ (ks.take i).map (·.2) := ((pm.map (·.2)).mem_iff).mp hm
  rw [List.map_take] at hm2
  obtain ⟨j, hj, e⟩ := List.getElem_of_mem hm2
  rw [List.getElem_take] at e
  rw [List.length_take] at hj
  have hi : (ks.map (·.2))[i]? = some p.2 := by rw [List.getElem?_map, hp] <;> rfl
  obtain ⟨hi2, e2⟩ := List.getElem?_eq_some_iff.mp hi
  exact List.pairwise_iff_getElem.mp nd j i (by omega) hi2 (by omega) (e.trans e2.symm)
theorem upd_tk {I : Addr} {fp wr : List Addr} {G : Array GenState → Array GenState → Prop} {n : Nat} {Pv : Nat → Value → Prop} {St : Nat → Shared → Prop} {R : Result → Shared → Prop}
    (W : WalksS P w A.in1 I fp wr G n Pv St) (S : Addr) (hSf : S ∉ fp) (ks : List Rw) (hn : n = ks.length) (hfew : ks.length < 64) (nd : (ks.map (·.2)).Nodup) (hval : ∀ i v, Pv i v → ∃ p, ks[i]? = some p ∧ v = .ref p.1)
    (h0 : Heap) (hk : ∀ p ∈ ks, IsK P w h0 p.2 p.1) (hS0 : h0.get? S = none) (hw0 : ∀ b ∈ wr, h0.get? b = none) (hu : A.in1.units < cLine) :
    ∀ (k i : Nat) (s : Shared), n - i = k → i ≤ n → St i s → (∀ b o, h0.get? b = some o → s.heap.get? b = some o) → (∃ L es ep t, SetK0 P w s.heap S L es ep t ∧ L.Perm (ks.take i)) →
      (∀ s' L es ep t, Moved (S :: wr) G s s' → SetK0 P w s'.heap S L es ep t → L.length = ks.length → (∀ b o, h0.get? b = some o → s'.heap.get? b = some o) → R (.ok (.ret .none)) s') →
      codeAny (model P w) A (.builtin "set.update.loop" ⟨[.ref S, .ref I], []⟩) R s := by
  have hSw : S ∉ wr := fun h => hSf (W.sub _ h)
  have hsub : ∀ b ∈ wr, b ∈ S :: wr := fun b hb => List.mem_cons_of_mem _ hb
  have keepM : ∀ {s s' : Shared}, Moved wr G s s' → (∀ b o, h0.get? b = some o → s.heap.get? b = some o) → ∀ b o, h0.get? b = some o → s'.heap.get? b = some o := fun hm hkp b o e =>
    hm.heap b o (fun hb => by rw [hw0 b hb] at e; cases e) (hkp b o e)
  intro k
  induction k with
  | zero =>
    intro i s hk' hi hst hkp ⟨L, es, ep, t, hS, g⟩ hR
    have hin : i = n := by omega
    subst hin
    refine codeAny_builtin F.entry_set_update_loop ?_
    rw [Around.under_plainId F.plain_set_update_loop _]
    show wpAny _ A.in1 (pyNext (.ref I) >>= _) _ _ s
    refine wpAny_bind (W.done s _ _ hst fun s' hm => ?_)
    show wpAny _ A.in1 (ret Value.none) _ _ s'
    have hkp' := keepM hm hkp
    refine wpAny_pure (hR s' L es ep t (hm.mono hsub) (hS.keep (fun o e => hm.heap S o hSw e) fun p hp => isK_keep (hk p (List.mem_of_mem_take (g.mem_iff.mp hp))) hkp') ?_ hkp')
    rw [g.length_eq, hn, List.take_length]
  | succ k ih =>
    intro i s hk' hi hst hkp ⟨L, es, ep, t, hS, g⟩ hR
    have hlt : i < n := by omega
    refine codeAny_builtin F.entry_set_update_loop ?_
    rw [Around.under_plainId F.plain_set_update_loop _]
    show wpAny _ A.in1 (pyNext (.ref I) >>= _) _ _ s
    refine wpAny_bind (W.item i s _ _ hlt hst fun v s' hP hst' hm => ?_)
    obtain ⟨p, hp, rfl⟩ := hval i v hP
    have hkp' := keepM hm hkp
    have hS' : SetK0 P w s'.heap S L es ep t := hS.keep (fun o e => hm.heap S o hSw e) fun q hq => isK_keep (hk q (List.mem_of_mem_take (g.mem_iff.mp hq))) hkp'
    have hx : IsK P w s'.heap p.2 p.1 := isK_keep (hk p (List.mem_of_getElem? hp)) hkp'
    have hL : L.length ≤ i := by
      rw [g.length_eq, List.length_take]
      exact Nat.min_le_left _ _
    show wpAny _ A.in1 (PySem.holding [Value.ref p.1] (setAdd S (.ref p.1)) >>= _) _ _ s'
    refine wpAny_bind (wpAny_holding ?_)
    unfold setAdd
    refine wpAny_holding ?_
    refine wpAny_bind (wpAny_pyHash_tuple hu hx ?_)
    refine add_tk (s := { s' with toks := s'.toks + (p.2.length + 1) }) hS' hx hu (by omega) (nd_take nd hp g) fun h' L' es' ep' t' hsb hS2 pm => ?_
    have g' : L'.Perm (ks.take (i + 1)) := by
      rw [List.take_succ, hp]
      exact pm.trans ((List.Perm.cons _ g).trans (List.perm_append_singleton _ _).symm)
    have hkp2 : ∀ b o, h0.get? b = some o → h'.get? b = some o := fun b o e => (hsb.2 b (fun z => by rw [z, hS0] at e; cases e)).trans (hkp' b o e)
    refine wpAny_pure ⟨plainId_quiet F.plain_set_update_loop _, ih (i + 1) _ (by omega) hlt (W.frame _ s' _ _ hst' (Nat.le_add_right _ _) fun b hb o e => ?_) hkp2 ⟨L', es', ep', t', hS2, g'⟩ fun s'' L2 es2 ep2 t2 hm'' hS'' g'' hkp'' => ?_⟩
    · rw [hsb.2 b (fun h : b = S => hSf (by rw [← h]; exact hb))]; exact e
    · refine hR s'' L2 es2 ep2 t2 (Moved.trans W.gtrans ((hm.mono hsub).then_heap (Nat.le_add_right _ _) fun b o hb e => ?_) hm'') hS'' g'' hkp''
      rw [hsb.2 b (fun h : b = S => hb (by rw [h]; exact List.mem_cons_self))]; exact e
set_option maxHeartbeats 8000000 in
theorem call_set_tk {l : Addr} {items : Array Value} (ks : List Rw) {Q : Value → Shared → Prop} (hh : A.handled = none) (hl : s.heap.IsList l items) (hit : items.toList = ks.map fun p => Value.ref p.1)
    (hk : ∀ p ∈ ks, IsK P w s.heap p.2 p.1) (nd : (ks.map (·.2)).Nodup) (hfew : ks.length < 64) (hu : A.units + 3 < cLine)
    (h : ∀ (h' : Heap) (tk : Nat) L es ep t, SetK0 P w h' s.heap.objs.size L es ep t → L.length = ks.length → (∀ b o, s.heap.get? b = some o → h'.get? b = some o) → Q (.ref s.heap.objs.size) { s with heap := h', toks := tk }) :
    wpAny (model P w) A (call (.type "set") [.ref l]) Q E s := by
  have hisz : items.size = ks.length := by
    have q := congrArg List.length hit
    rw [Array.length_toList, List.length_map] at q
    exact q
  let o0 : Obj := { cls := .type "set", dict := none, data := .set #[] 0 (.fresh 0 0 (!w.params.followText "set-order")) }
  obtain ⟨c, tl, hmro⟩ := F.called_set.mro
  have hmade := F.called_set.made
  have hsub := F.called_set.sub
  refine wpAny_call (codeAny_of_tree ?_)
  show wpAny _ _ (callAny (.type "set") _) _ _ _
  refine wpAny_pure ⟨Code.quiet_builtin _ (by decide +kernel), codeAny_builtin F.entry_type_call ?_⟩
  rw [Around.under_plain (weight_type_call_type "set" [.ref l] []) rfl]
  have h1 := F.called_set.notType
  have h2 := F.called_set.canCreate
  have hct := F.typeCall_set_1 (.ref l)
  repeat (any_goals (first | assumption | wp_step))
  refine codeAny_mono (code_set_led1 (.ref l) (E := E) (Q₁ := fun obj s₁ => obj = .ref s.heap.objs.size ∧ s₁ = { s with heap := s.heap.push o0 }) ⟨rfl, rfl⟩) fun r s₁ hr => ?_
  cases r with
  | error e => exact hr
  | ok fl =>
    cases fl with
    | ret obj =>
      obtain ⟨rfl, rfl⟩ := hr
      have hS : (s.heap.push o0).get? s.heap.objs.size = some o0 := Heap.get?_push_size _ rfl
      have hT : Shared.TypeIs { s with heap := s.heap.push o0 } (.ref s.heap.objs.size) "set" := ⟨_, hS, rfl⟩
      have hli := F.called_set.init.lookup
      have hbi := F.called_set.init.bind (.ref s.heap.objs.size)
      repeat (any_goals (first | assumption | wp_step))
      refine codeAny_mono (codeAny_call_builtin (R := wants (fun r s₂ => r = .none ∧ ∃ h' tk L es ep t, s₂ = { s with heap := h', toks := tk } ∧ SetK0 P w h' s.heap.objs.size L es ep t ∧ L.length = ks.length ∧
          (∀ b o, s.heap.get? b = some o → h'.get? b = some o)) E) F.called_set.init.plain F.entry_set_init (check_set_init_1 hT ?_)) fun r₂ s₂ hr₂ => ?_
      · obtain ⟨ol, hol, hcl, nl, hdl⟩ := hl
        obtain ⟨ocls, odict, odata, oslots⟩ := ol
        simp only at hcl hdl
        subst hcl; subst hdl
        have hol' : (s.heap.push o0).get? l = some { cls := .type "list", dict := odict, data := .seq items nl, slots := oslots } := Heap.get?_push_of_some _ hol
        have hsls := F.sub_list_set
        have hslf := F.sub_list_frozenset
        have hne : (Value.type "list" == Value.type "dict") = false := by decide
        have hl1 : (s.heap.push o0).IsList l items := ⟨_, hol', rfl, nl, rfl⟩
        unfold Builtin.«set.__init__» noKeywords Builtin.Frozenset.updateFrom
        generalize hPI : pyIter = PI
        wp_walk
        subst hPI
        refine wpAny_pyIter_list hl1 ?_
        refine wpAny_bind (wpAny_runValue ?_)
        have hlS : l < s.heap.objs.size := Heap.lt_size hol
        have hh3 : A.in1.in1.in1.handled = none := by simp [hh]
        have hz1 : (s.heap.push o0).objs.size = s.heap.objs.size + 1 := Heap.size_push ..
        have hneI : l ≠ (s.heap.push o0).objs.size := by
          rw [hz1]; exact Nat.ne_of_lt (Nat.lt_succ_of_lt hlS)
        have hSf : s.heap.objs.size ∉ [(s.heap.push o0).objs.size, l] := by
          rw [hz1]; simp only [List.mem_cons, List.mem_singleton, List.not_mem_nil, or_false, not_or]
          exact ⟨Nat.ne_of_lt (Nat.lt_succ_self _), Nat.ne_of_gt hlS⟩
        have hval : ∀ (i : Nat) (v : Value), items[i]? = some v → ∃ p, ks[i]? = some p ∧ v = .ref p.1 := fun i v hv => by
          have q : items.toList[i]? = some v := by rw [Array.getElem?_toList]; exact hv
          rw [hit, List.getElem?_map] at q
          cases hq : ks[i]? with
          | none => rw [hq] at q; cases q
          | some p =>
            rw [hq] at q
            exact ⟨p, rfl, (Option.some.inj q).symm⟩
        have none_of : ∀ b, s.heap.objs.size ≤ b → s.heap.get? b = none := fun b hb => by
          cases q : s.heap.get? b with
          | none => rfl
          | some o => exact absurd (Nat.lt_of_lt_of_le (Heap.lt_size q) hb) (Nat.lt_irrefl _)
        refine upd_tk ((Walks.list hh3 _ l hneI items).toS) s.heap.objs.size
          hSf ks hisz hfew nd hval s.heap hk (none_of _ (Nat.le_refl _)) (fun b hb => none_of b (by
            rw [List.mem_singleton.mp hb, hz1]
            exact Nat.le_succ _)) hu (items.size - 0) 0 _ (by omega) (Nat.zero_le _)
          ⟨⟨_, Heap.get?_push_size _ rfl, rfl, rfl⟩, (hl1.push _)⟩ (fun b o e => Heap.get?_push_of_some _ (Heap.get?_push_of_some _ e)) ?hS0 ?hR
        case hS0 =>
          have hget : ((s.heap.push o0).push { cls := .type "list_iterator", data := .fields #[.ref l, .int 0 0] }).get? s.heap.objs.size = some o0 := Heap.get?_push_of_some _ hS
          exact ⟨[], #[], 0, _, setK_fresh hget, List.Perm.refl _⟩
        case hR =>
          intro s' L es ep t hm hS' g' hkp
          obtain ⟨h', g2, d', tk', os'⟩ := s'
          have eg : g2 = s.gens := hm.gens
          have ed : d' = s.drawn := hm.drawn
          have eo : os' = s.os := hm.os
          subst eg; subst ed; subst eo
          show wpAny _ _ _ _ _ _
          refine wpAny_pure ?_
          show wpAny _ _ (ret Value.none) _ _ _
          exact wpAny_pure ⟨rfl, h', tk', L, es, ep, t, rfl, hS', g', hkp⟩
      · cases r₂ with
        | error e => exact hr₂
        | ok fl₂ =>
          cases fl₂ with
          | ret r =>
            obtain ⟨rfl, h', tk, L, es, ep, t, rfl, hS', g', hk'⟩ := hr₂
            repeat (any_goals (first | assumption | wp_step))
            exact h _ _ _ _ _ _ hS' g' hk'
          | _ => exact hr₂.elim
    | _ => exact hr.elim
end
section
variable {X : Cx}
theorem vrefs_rw : ∀ {ks : List Rw} {us : List Value}, Vals (ks.map fun p => V.ref p.1) us → us = ks.map fun p => Value.ref p.1
  | [], _, .nil => rfl
  | p :: ks, _, .cons r t => by
    cases r
    rw [vrefs_rw t] <;> rfl
/-- len(set(xs)), distinct tuples of ints and texts -/
def tLenSetK (K : PySem.W.Frag) (ta : TE) : TE := fun σ H Q => ta σ H fun x H1 => ∃ (l : Addr) (ks : List Rw), x = V.ref l ∧ SqL K H1 l (ks.map fun p => V.ref p.1) ∧ (∀ p ∈ ks, H1 p.1 = some (.tup (p.2.map kV))) ∧ (ks.map (·.2)).Nodup ∧ ks.length < 64 ∧ Q (.int ks.length) H1
theorem pe_lenSetK {a : Expr} {ta : TE} {p p2 q pos : Pos} (hc : X.calm = true) (hu : X.A.units + 64 < cLine) (hg : Gl X "len") (hm : X.mg "len" = none) (hg2 : Gl X "set") (hm2 : X.mg "set" = none) (ha : PE X a ta)
    (na : starEach [a] X.env = (false, eval a X.env) :: starEach [] X.env := by rfl) : PE X (.Call (.Name "len" p) [.Call (.Name "set" p2) [a] [] q] [] pos) (tLenSetK X.K ta) := by
  refine ⟨fun pins s σ H Q I h => ?_⟩
  refine Call_ (ld_blt I hg hm PySem.boot_len ?_)
  refine PyProof.Rows.callWith_builtin1 (PyProof.Rows.args_cons ?_ rfl) rfl rfl
  refine Call_ (ld_blt I hg2 hm2 PyProof.Rows.boot_set ?_)
  refine PyProof.Rows.callWith_type1 (PyProof.Rows.args_cons (thn (ha.run pins s σ H _ I h) fun v s1 ⟨x, H1, I1, r1, q1⟩ => PyProof.Rows.args_nil ?_) na) na rfl
  obtain ⟨l, ks, rfl, hq, hk, nd, hf, q1⟩ := q1
  cases r1
  obtain ⟨its, r, pl, hz⟩ := I1.list hq
  refine call_set_tk (P := X.prog) (w := X.w) ks (I1.ok.hd hc) pl.isList (by simpa using vrefs_rw r) (fun p hp => key_of I1.hok (hk p hp)) nd hf (by omega) fun h' tk L es ep t R e k => ?_
  refine PyProof.Rows.args_nil ?_
  obtain ⟨o, ho, hex, hd⟩ := R.ob
  have hn : es.size = ks.length := by rw [rowsK_len R.rows, e]
  have I2 : Inv X pins σ H1 { s1 with heap := h', toks := tk } := I1.kept k
  have hfit : t.fits es.size = true := by
    have h1 := R.tab.sz
    have h3 := R.room
    rw [List.length_map, ← rowsK_len R.rows] at h1
    rw [← rowsK_len R.rows] at h3
    exact fits_of h1 R.tab.dm (by omega)
  exact call_len_set ho hex hd hfit (by rw [hn] <;> omega) ⟨.int ks.length, H1, I2.tok _, ⟨_, by rw [hn]⟩, q1⟩
end
end RA
end

section
set_option Elab.async false
set_option linter.all false
set_option maxRecDepth 100000
namespace RA
open PySem PySem.W PySem.Calls PyProof.Rows L2
/-! ## few cells -/
def all3 : Nat → List (List Ans)
  | 0 => [[]]
  | n + 1 => (all3 n).flatMap fun as => [.error :: as, .no :: as, .yes :: as]
theorem len_all3 : ∀ n, n ≤ 3 → (all3 n).length ≤ 27 := by decide +kernel
theorem ansAt_three (t : Tst) (x : Int) : ansAt t x = .error ∨ ansAt t x = .no ∨ ansAt t x = .yes := by
  unfold ansAt
  split
  · exact .inl rfl
  · split
    · exact .inr (.inr rfl)
    · exact .inr (.inl rfl)
theorem mem_all3 : ∀ (ts : List Tst) (x : Int), ansL ts (.num x) ∈ all3 ts.length
  | [], x => List.mem_singleton.mpr rfl
  | t :: ts, x => by
    have ih := mem_all3 ts x
    refine List.mem_flatMap.mpr ⟨_, ih, ?_⟩
    show ansAt t x :: ansL ts (.num x) ∈ _
    rcases ansAt_three t x with e | e | e <;> simp [e]
theorem pigeon {α : Type} [DecidableEq α] : ∀ (l D : List α), l.Nodup → (∀ x ∈ l, x ∈ D) → l.length ≤ D.length
  | [], _, _, _ => Nat.zero_le _
  | x :: l, D, hn, hs => by
    obtain ⟨h1, h2⟩ := List.nodup_cons.mp hn
    have hx : x ∈ D := hs x List.mem_cons_self
    have ih := pigeon l (D.erase x) h2 fun y hy => (List.mem_erase_of_ne (fun e : y = x => h1 (e ▸ hy))).2 (hs y (List.mem_cons_of_mem _ hy))
    have := List.length_erase_of_mem hx
    have := List.length_pos_of_mem hx
    simp only [List.length_cons]
    omega
section
variable {c : Col} {ts : List Tst} {m : Cd}
theorem cells_few {cs : List Cell} (hl : ts.length ≤ 3) (hm : CdOk c ts m) (hp : cs.Perm (m.map (·.2))) : cs.length ≤ 29 := by
  have h := pigeon (cs.map fun e => ansL ts (valueFor e)) (ansL ts .non :: ansL ts (.txt "a") :: all3 ts.length) (heard_nodup hm hp) fun k hk => by
    obtain ⟨e, he, rfl⟩ := List.mem_map.mp hk
    unfold valueFor
    split
    · exact List.mem_cons_self
    · split
      · exact List.mem_cons_of_mem _ (List.mem_cons_of_mem _ (mem_all3 ts _))
      · exact List.mem_cons_of_mem _ List.mem_cons_self
  have := len_all3 ts.length hl
  simp only [List.length_map, List.length_cons] at h
  omega
end
/-! ## what a meeting shows -/
theorem short_int {x : Int} (h : x.natAbs ≤ 10 ^ 12) : (PyData.int x).leavesShort 14 = true ∧ (PyData.int x).weight ≤ 44 ∧ (PyData.int x).showable = true := by
  have h1 : x.natAbs < 10 ^ 13 := Nat.lt_of_le_of_lt h (by decide)
  have h2 : x.natAbs < 2 ^ 44 := Nat.lt_of_le_of_lt h (by decide)
  have h3 : x.natAbs.log2 < 44 := by
    by_cases e : x.natAbs = 0
    · rw [e]; decide
    · exact (Nat.log2_lt e).mpr h2
  refine ⟨?_, ?_, ?_⟩
  · simp only [PyData.leavesShort, decide_eq_true_eq]
    have e := int_text_length_le10 (k := 13) (by decide) h1
    show (Str.ofString (toString x)).length ≤ 14
    rw [ofString_len]; exact e
  · simp only [PyData.weight]
    split <;> omega
  · simp only [PyData.showable, decide_eq_true_eq]
    omega
def finB (p : Pr) : Prop := ∃ a b : Int, p = (some a, some b) ∧ a.natAbs ≤ 10 ^ 12 ∧ b.natAbs ≤ 10 ^ 12
theorem short_prs : ∀ {ps : List Pr}, (∀ p ∈ ps, finB p) → PyData.leavesShortAll 14 (encPs ps) = true ∧ PyData.weightAll (encPs ps) ≤ 100 * ps.length ∧ PyData.showableAll (encPs ps) = true ∧ PyData.hasDictAll (encPs ps) = false ∧ PyData.depthAll (encPs ps) ≤ 1
  | [], _ => ⟨rfl, Nat.zero_le _, rfl, rfl, Nat.zero_le _⟩
  | p :: ps, h => by
    obtain ⟨a, b, rfl, ha, hb⟩ := h p List.mem_cons_self
    obtain ⟨i1, i2, i3, i4, i5⟩ := short_prs fun q hq => h q (List.mem_cons_of_mem _ hq)
    obtain ⟨a1, a2, a3⟩ := short_int ha
    obtain ⟨b1, b2, b3⟩ := short_int hb
    have e : encPs ((some a, some b) :: ps) = PyData.tuple [.int a, .int b] :: encPs ps := rfl
    rw [e]
    refine ⟨?_, ?_, ?_, ?_, ?_⟩
    · rw [PyData.leavesShortAll, PyData.leavesShort, PyData.leavesShortAll, PyData.leavesShortAll, PyData.leavesShortAll, a1, b1, i1]; rfl
    · rw [PyData.weightAll, PyData.weight, PyData.weightAll, PyData.weightAll, PyData.weightAll]
      simp only [List.length_cons]
      omega
    · rw [PyData.showableAll, PyData.showable, PyData.showableAll, PyData.showableAll, PyData.showableAll, a3, b3, i3]; rfl
    · rw [PyData.hasDictAll, PyData.hasDict, i4]; rfl
    · rw [PyData.depthAll, PyData.depth]
      refine Nat.max_le.mpr ⟨?_, i5⟩
      show PyData.depthAll [.int a, .int b] + 1 ≤ 1
      simp [PyData.depthAll, PyData.depth]
theorem short_cell {e : Cell} (h : ∀ p ∈ e.spans, finB p) (hl : e.spans.length ≤ 1000) : (encC e).showable = true ∧ (encC e).hasDict = false ∧ (encC e).depth ≤ 50 ∧ (encC e).shown.length ≤ sizeLine := by
  obtain ⟨i1, i2, i3, i4, i5⟩ := short_prs h
  refine ⟨?_, ?_, ?_, ?_⟩
  · simp only [encC, PyData.showable, PyData.showableAll, i3, Bool.and_self]
  · simp only [encC, PyData.hasDict, PyData.hasDictAll, i4, Bool.or_self]
  · simp only [encC, PyData.depth, PyData.depthAll]
    omega
  · have h1 : (encC e).leavesShort 14 = true := by simp only [encC, PyData.leavesShort, PyData.leavesShortAll, i1, Bool.and_self]
    have h2 := PyData.shown_le 14 (by decide) (encC e) h1
    have h3 : (encC e).weight ≤ 100010 := by
      simp only [encC, PyData.weight, PyData.weightAll]
      omega
    rw [sizeLine_eq]
    omega
theorem finB_of {c : Col} (hc : okCol c) {p : Pr} (h : ∃ a b, p = (some a, some b) ∧ c.lo ≤ a ∧ a ≤ b ∧ b ≤ c.hi) : finB p := by
  obtain ⟨a, b, e, h1, h2, h3⟩ := h
  obtain ⟨_, h4, h5⟩ := hc
  exact ⟨a, b, e, by omega, by omega⟩
/-- the meeting of two cells can be shown -/
theorem met_short {c c' : Col} {ts ts' : List Tst} {k k' : List Ans} {a b : Cell} (hc : okCol c) (ha : CellOk c ts k a) (hb : CellOk c' ts' k' b) : (encC (metC a b)).showable = true ∧ (encC (metC a b)).hasDict = false ∧ (encC (metC a b)).depth ≤ 50 ∧ (encC (metC a b)).shown.length ≤ sizeLine := by
  refine short_cell (fun p hp => finB_of hc (fin_of (lo := c.lo) (hi := c.hi) (spI_nf ha.nf hb.nf) (fun x hx => ?_) p hp)) ?_
  · exact ((ha.mem x).mp ((spI_mem ha.nf hb.nf).mp hx).1).1
  · have := spI_len ha.nf hb.nf
    have := ha.len
    have := hb.len
    show (spI a.spans b.spans).length ≤ 1000
    omega
end RA
end

section
set_option Elab.async false
set_option linter.all false
set_option autoImplicit false
set_option maxRecDepth 100000
set_option maxHeartbeats 8000000
set_option exponentiation.threshold 10000
namespace RA
open PySem PySem.Spec PyProof.Rows L2
/-- the cells of a column and tests, as the mathematics knows them -/
structure CSt (c : Col) (ts : List Tst) (cs : List Cell) : Prop where
  col : okCol c
  ok : okTs c ts
  ne : ts ≠ []
  cd : CdOk c ts (cd2 c ts)
  pm : cs.Perm ((cd2 c ts).map (·.2))
  e1 : c.empty = true → ∃ e ∈ cd2 c ts, e.1 = ansL ts .non ∧ e.2.empty = true
  e2 : c.words = true → ∃ e ∈ cd2 c ts, e.1 = ansL ts (.txt "a") ∧ e.2.words = true
theorem CSt.of {c : Col} {ts : List Tst} (hc : okCol c) (ho : ∀ t ∈ ts, okT t) (hl : ts.length ≤ 3) (hne : ts ≠ []) : CSt c ts (cellsOf c ts) := by
  obtain ⟨h1, h2, h3⟩ := cd2_ok hc.1 ho hl hne
  exact ⟨hc, ⟨ho, hl, hc.1⟩, hne, h1, List.mergeSort_perm _ _, h2, h3⟩
theorem CSt.low {c : Col} {ts : List Tst} {cs : List Cell} (h : CSt c ts cs) : ∀ e ∈ cd2 c ts, lowOk e.2 := fun e he => (h.cd.ok e he).low
theorem CSt.few {c : Col} {ts : List Tst} {cs : List Cell} (h : CSt c ts cs) : cs.length ≤ 29 := cells_few h.ok.2.1 h.cd h.pm
theorem CSt.at {c : Col} {ts : List Tst} {cs : List Cell} (h : CSt c ts cs) {e : Cell} (he : e ∈ cs) : CellOk c ts (ansL ts (valueFor e)) e := (key_of_cell h.cd h.pm he).1
section
variable {P : Program} {w : World} {K : PySem.W.Frag} {mg : Str → Option Value} {base : Heap}
/-- what stands in the heap within a turn of the law -/
structure LW (K : PySem.W.Frag) (b I : Addr) (c : Col) (ts : List Tst) (cs : List Cell) (vc : V) (tA sA hA : Addr) (txs sxs hxs : List V) (H : Hp) : Prop where
  bag : Bag I H b
  col : Dp K H vc (encCol c)
  tl : H tA = some (.lst txs)
  tne : tA ≠ b
  tr : AllR (TsA K H) txs ts
  sl : H sA = some (.lst sxs)
  sne : sA ≠ b
  sd : DpAll K H sxs (cs.map encC)
  hl : H hA = some (.lst hxs)
  hne : hA ≠ b
  hr : AllR (fun v e => ∃ q, v = V.ref q ∧ H q = some (.tup ((keyA (ansL ts (valueFor e))).map kV))) hxs cs
variable {b I : Addr} {c : Col} {ts : List Tst} {cs : List Cell} {vc : V} {tA sA hA : Addr} {txs sxs hxs : List V} {H H' : Hp}
theorem LW.keepB (h : LW K b I c ts cs vc tA sA hA txs sxs hxs H) (s : SameB b H H') (hb : Bag I H' b) : LW K b I c ts cs vc tA sA hA txs sxs hxs H' where
  bag := hb
  col := dp_b h.bag.lst s rfl h.col
  tl := s _ _ h.tne h.tl
  tne := h.tne
  tr := h.tr.imp fun _ _ z => z.b h.bag.lst s
  sl := s _ _ h.sne h.sl
  sne := h.sne
  sd := dps_b h.bag.lst s (tupDs_map tupD_c _) h.sd
  hl := s _ _ h.hne h.hl
  hne := h.hne
  hr := h.hr.imp fun v e ⟨q, e1, e2⟩ => ⟨q, e1, s _ _ (by
    rintro rfl
    obtain ⟨ys, hy⟩ := h.bag.lst
    rw [hy] at e2
    cases e2) e2⟩
theorem LW.same (h : LW K b I c ts cs vc tA sA hA txs sxs hxs H) (s : Same H H') : LW K b I c ts cs vc tA sA hA txs sxs hxs H' := h.keepB (Same.b s) (h.bag.same s)
theorem LW.td (h : LW K b I c ts cs vc tA sA hA txs sxs hxs H) : DpAll K H txs (ts.map encT) := allR_dps2 (h.tr.imp fun _ _ z => z.dp)
theorem dps_keys {H : Hp} : ∀ as : List Ans, DpAll K H (as.map fun a => V.str (strA a)) (as.map encA)
  | [] => .nil
  | a :: as => .cons (.str _) (dps_keys as)
theorem dp_key {q : Addr} {as : List Ans} (h : H q = some (.tup ((keyA as).map kV))) : Dp K H (.ref q) (encAs as) := by
  rw [keyA_v] at h
  exact .tup (SqT.of h) (dps_keys as)
end
abbrev sLaw : Stmt := top 70
abbrev nLaw : List Str := ["_law_script", "_law_bag_here", "_law_turn", "_law_k", "_law_column", "_law_tests", "_law_some", "_law_cell", "_law_heard", "_law_at", "_law_points_here", "_law_low", "_law_high", "_law_value", "_law_truths", "_law_one_here", "_law_other", "_law_place"]
theorem scLaw : FnScope nLaw ["_law_script"] (defScope sLaw) := ⟨rfl, rfl, rfl, by decide +kernel, rfl, by decide +kernel, by decide +kernel⟩
def forB : Stmt → List Stmt
  | .For _ _ bd _ _ => bd
  | _ => []
def nthS (l : List Stmt) (i : Nat) : Stmt := match l.drop i with
  | s :: _ => s
  | [] => .Pass ⟨0, 0, 0, 0⟩
/-- the turn's statements -/
abbrev sTurn : List Stmt := forB (nthS (defBody sLaw) 1)
structure LawFs (P : Program) (w : World) (K : PySem.W.Frag) (mg : Str → Option Value) (base : Heap) : Prop where
  bag : Fd P w K mg base "_law_bag" 1 ["_law_script"] (spBag K)
  take : Fd P w K mg base "_law_take" 1 ["_law_bag_here", "_law_many"] spTake
  col : Fd P w K mg base "_law_far_column" 3 ["_law_bag_here"] (spFarCol K)
  test : Fd P w K mg base "_law_far_test" 4 ["_law_bag_here"] (spFarTest K)
  cells : Fd P w K mg base "cells_of" 14 ["column", "tests"] (spCells K)
  right : Fd P w K mg base "_law_spans_right" 2 ["_law_bag_here", "_law_column", "_law_some"] (spRight K)
  ans : Fd P w K mg base "_law_answers_at" 3 ["_law_tests", "_law_value"] (spAnsL K)
  value : Fd P w K mg base "value_for" 1 ["cell"] (spValue K)
  pts : Fd P w K mg base "_law_points" 2 ["_law_bag_here", "_law_low", "_law_high"] spPoints
  metc : Fd P w K mg base "met_cells" 8 ["one", "other"] (spMetC K)
  metl : Fd P w K mg base "_law_met" 2 ["_law_one_here", "_law_other"] (spMetL K)
  num : Fd P w K mg base "_law_number" 2 ["_law_bag_here"] spNumber
  cellOf : Fd P w K mg base "cell_of" 14 ["column", "tests", "value"] (spCellOf K)
  isIn : Fd P w K mg base "is_in" 2 ["cell", "thing"] (spIsIn K)
end RA
end

section
set_option Elab.async false
set_option linter.all false
set_option autoImplicit false
set_option maxRecDepth 100000
set_option maxHeartbeats 8000000
set_option exponentiation.threshold 10000
namespace RA
open PySem PySem.Spec PyProof.Rows L2
section
variable {P : Program} {w : World} {K : PySem.W.Frag} {mg : Str → Option Value} {base : Heap}
theorem CSt.find {c : Col} {ts : List Tst} {cs : List Cell} (h : CSt c ts cs) {x : Int} (h1 : c.lo ≤ x) (h2 : x ≤ c.hi) : ∃ e ∈ cs, findC (cd2 c ts) (ansL ts (.num x)) = some e ∧ ansL ts (valueFor e) = ansL ts (.num x) ∧ e.spans.any (inF x) = true := by
  obtain ⟨q, hq, e⟩ := h.cd.all x h1 h2
  have hk := h.cd.ok q hq
  have e' : q.1 = ansL ts (.num x) := e
  refine ⟨q.2, h.pm.mem_iff.mpr (List.mem_map.mpr ⟨q, hq, rfl⟩), ?_, by rw [hk.value, e'], ?_⟩
  · rw [← e']
    exact findC_some h.cd.nd hq
  · have hm := (hk.mem x).mpr ⟨⟨h1, h2⟩, e.symm⟩
    obtain ⟨p, hp, hx⟩ := hm
    obtain ⟨a, b, rfl, _⟩ := hk.fin p hp
    have := inP_fin.mp hx
    exact List.any_eq_true.mpr ⟨_, hp, by simp [inF, this.1, this.2]⟩
theorem bd_num {c : Col} (h : okCol c) {x : Int} (h1 : c.lo ≤ x) (h2 : x ≤ c.hi) : bd3 (.num x) := by
  obtain ⟨_, h3, h4⟩ := h
  show x.natAbs < 2 ^ 50
  have : (2 : Nat) ^ 50 = 1125899906842624 := by decide
  omega
/-- the last loop's body -/
theorem law_J (B : Bi mg) (L : LawFs P w K mg base) {f : Addr} {cdv : Value} {A : Around} {outer : List Env} {s : Shared} {H0 : Hp} (hr : Room 14 (A.deeper (envOfC "law" (defScope sLaw) s.heap.objs.size f cdv))) :
    ∃ t, PSs (cxOf CX0 P w K mg base nLaw "law" (defScope sLaw) f cdv A outer s H0 E0).nox (forB (nthS sTurn 9)) t ∧ ∀ (D : Ends) (a b I : Addr) (c : Col) (ts : List Tst) (cs : List Cell) (vc : V) (tA sA hA : Addr) (txs sxs hxs : List V) (H : Hp) (k2 k3 k7 k9 k10 k11 k12 k13 k14 k15 k16 k17 : Option V),
      CSt c ts cs → LW K b I c ts cs vc tA sA hA txs sxs hxs H → (∀ H' k7 k13, LW K b I c ts cs vc tA sA hA txs sxs hxs H' → D.nx [some (.ref a), some (.ref b), k2, k3, some vc, some (.ref tA), some (.ref sA), k7, some (.ref hA), k9, k10, k11, k12, k13, k14, k15, k16, k17] H') →
      t D [some (.ref a), some (.ref b), k2, k3, some vc, some (.ref tA), some (.ref sA), k7, some (.ref hA), k9, k10, k11, k12, k13, k14, k15, k16, k17] H := by
  have nd := scLaw.nd
  have hu := hu1 hr
  have hr2 : Room 2 _ := hr.mono (j := 2) (by decide)
  have hr3 : Room 3 _ := hr.mono (j := 3) (by decide)
  have hu5 : (A.deeper (envOfC "law" (defScope sLaw) s.heap.objs.size f cdv)).units + 65 < cLine := by
    have := hr.un
    omega
  refine ⟨_, pss_cons (ps_set nd (i := 13) rfl (Or.inl rfl) (pe_callB (call_max2 rfl) (by rfl) B.max_ bt_max (pa_cons (pe_ix ix_tup (pv 4) pe_int (fun _ _ => rfl)) (pa_cons (pe_callB (call_min2 rfl) (by rfl) B.min_ bt_min (pa_cons (pe_ix ix_tup (pv 4) pe_int (fun _ _ => rfl)) (pa_cons (pe_f L.num hr2 (pa_cons (pv 1) pa_nil)) pa_nil))) pa_nil))))
    (pss_cons (ps_set nd (i := 7) rfl (Or.inl rfl) (pe_f L.cellOf hr (pa_cons (pv 4) (pa_cons (pv 5) (pa_cons (pv 13) pa_nil)))))
    (pss_cons (ps_if (PW.pt (pw_or (pt_cmpR (op_notInD hu5) (pv 7) (pv 6) (by rfl)) (pw_or1 (pt_cmpR op_notBl (pe_f L.isIn hr2 (pa_cons (pv 7) (pa_cons (pv 13) pa_nil))) pe_bl (nomark _))))) (pss_one (ps_ret pe_bl)) pss_nil)
    (pss_one (ps_if (pt_cmpR (op_neD hu) (pe_f L.ans hr3 (pa_cons (pv 5) (pa_cons (pv 13) pa_nil))) (pe_ix ix_list (pv 8) (pe_bm PySem.F.plainAttrs_list PySem.F.slot_list_index PySem.F.type_list_index (mt_indexD hu5) (pv 6) (pa_cons (pv 7) pa_nil)) (fun _ _ => rfl)) (nomark _)) (pss_one (ps_ret pe_bl)) pss_nil)))), ?_⟩
  intro D a b I c ts cs vc tA sA hA txs sxs hxs H k2 k3 k7 k9 k10 k11 k12 k13 k14 k15 k16 k17 S W q
  obtain ⟨cl, rfl, hcl⟩ := dp_col W.col
  have hok := S.col
  refine ⟨_, rfl, cl, _, 1, _, rfl, rfl, hcl, at1, _, rfl, cl, _, 2, _, rfl, rfl, hcl, at2, _, rfl, b, I, rfl, W.bag, fun n H1 hn s1 hb1 => ⟨_, _, rfl, _, _, rfl, ?_⟩⟩
  rw [max_is, min_is]
  have W1 := W.keepB s1 hb1
  obtain ⟨x, hx⟩ : ∃ x, x = max c.lo (min c.hi n) := ⟨_, rfl⟩
  have hx1 : c.lo ≤ x := by omega
  have hx2 : x ≤ c.hi := by have := hok.1; omega
  rw [← hx]
  obtain ⟨e, he, hf, hv, hin⟩ := S.find hx1 hx2
  have hbd := bd_num hok hx1 hx2
  have hce := S.at he
  refine ⟨_, rfl, _, rfl, _, rfl, .ref cl, tA, txs, c, ts, .num x, e, rfl, W1.col, SqL.of W1.tl, W1.td, S.ok, hbd, hf, fun v H2 s2 hv2 => ?_⟩
  have W2 := W1.same s2
  have hshL : SeqAt.shaped (.list (cs.map encC)) = true := (shp_lst (n := 3) (by
    intro d hd
    obtain ⟨e, _, rfl⟩ := List.mem_map.mp hd
    exact shp_c e)).shaped
  refine ⟨_, rfl, _, rfl, encC e, cs.map encC, hv2, .lst (SqL.of W2.sl) W2.sd, (shp_c e).shaped, hshL, _, rfl, ?_⟩
  rw [show ((cs.map encC).any fun z => PyData.eqv z (encC e)) = true from List.any_eq_true.mpr ⟨_, List.mem_map.mpr ⟨e, he, rfl⟩, by rw [eqv_c]; exact decide_eq_true rfl⟩]
  refine iteF ⟨_, rfl, _, rfl, v, e, x, rfl, hv2, hce.finS, by have := hce.len; omega, fun H3 s3 => ?_⟩
  rw [hin]
  refine ⟨true, true, rfl, rfl, _, rfl, iteF ?_⟩
  have W3 := W2.same s3
  have hv3 := Dp.same s3 hv2
  refine ⟨_, rfl, _, rfl, tA, txs, ts, .num x, rfl, SqL.of W3.tl, W3.tr, by have := S.ok.2.1; omega, hbd, fun p H4 s4 hp0 hp => ?_⟩
  have W4 := W3.same s4
  have hv4 := Dp.same s4 hv3
  obtain ⟨j, hj, hje⟩ := List.getElem_of_mem he
  have hjg : cs[j]? = some e := by rw [List.getElem?_eq_getElem hj, hje]
  have hnd := cells_nodup S.cd S.pm
  obtain ⟨u, hu1', r, rfl, hr4⟩ := W4.hr.getR hjg
  refine ⟨_, rfl, _, rfl, tyV_lst W4.sl, _, rfl, sA, v, encC e, cs.map encC, j, encC e, rfl, rfl, .lst (SqL.of W4.sl) W4.sd, hv4, hshL, (shp_c e).shaped, by rw [List.getElem?_map, hjg]; rfl, by rw [eqv_c]; exact decide_eq_true rfl, ?_, ?_⟩
  · intro m z hm hz
    rw [List.getElem?_map] at hz
    obtain ⟨e2, h2, rfl⟩ := Option.map_eq_some_iff.mp hz
    rw [eqv_c]
    refine decide_eq_false fun ee => ?_
    subst ee
    obtain ⟨hml, hme⟩ := List.getElem?_eq_some_iff.mp h2
    exact List.pairwise_iff_getElem.mp hnd m j hml hj hm (hme.trans hje.symm)
  · refine ⟨hA, hxs, _, _, rfl, rfl, SqL.of W4.hl, atI_int (j := j) rfl hu1', encAs (ansL ts (.num x)), encAs (ansL ts (valueFor e)), dp_key hp, dp_key hr4, (shp_as _).shaped, (shp_as _).shaped, _, rfl, ?_⟩
    rw [eqv_as, hv, decide_eq_true rfl]
    exact iteF (q _ _ _ W4)
end
end RA
end

section
set_option Elab.async false
set_option linter.all false
set_option autoImplicit false
set_option maxRecDepth 100000
set_option maxHeartbeats 8000000
set_option exponentiation.threshold 10000
namespace RA
open PySem PySem.Spec PyProof.Rows L2
section
variable {P : Program} {w : World} {K : PySem.W.Frag} {mg : Str → Option Value} {base : Heap}
/-- a good cell in the heap -/
def CellAt (K : PySem.W.Frag) (H : Hp) (x : V) : Prop := ∃ e c ts k, Dp K H x (encC e) ∧ okCol c ∧ CellOk c ts k e
theorem CellAt.keepB {H H' : Hp} {b : Addr} {x : V} (hb : ∃ ys, H b = some (.lst ys)) (s : SameB b H H') (h : CellAt K H x) : CellAt K H' x := by
  obtain ⟨e, c, ts, k, h1, h2⟩ := h
  exact ⟨e, c, ts, k, dp_b hb s (tupD_c e) h1, h2⟩
theorem cut_mem {xs : List V} {lo hi : Option Int} {x : V} (h : x ∈ cutV xs lo hi) : x ∈ xs := by
  unfold cutV at h
  exact List.mem_of_mem_drop (List.mem_of_mem_take h)
theorem cells_at {H : Hp} {xs : List V} {c : Col} {ts : List Tst} {cs : List Cell} (S : CSt c ts cs) (h : DpAll K H xs (cs.map encC)) : ∀ x ∈ xs, CellAt K H x := by
  intro x hx
  obtain ⟨i, hi, e⟩ := List.getElem_of_mem hx
  obtain ⟨d, hd1, hd2⟩ := DpAll.get h (show xs[i]? = some x by rw [List.getElem?_eq_getElem hi, e])
  rw [List.getElem?_map] at hd1
  obtain ⟨e2, h2, rfl⟩ := Option.map_eq_some_iff.mp hd1
  exact ⟨e2, c, ts, _, hd2, S.col, S.at (List.mem_of_getElem? h2)⟩
theorem law_I (B : Bi mg) (L : LawFs P w K mg base) {fa : Addr} {fda : FuncData} (ha : mg "_law_alike" = some (.ref fa)) (Fa : FnAt P w K mg base 1 fa fda ["_law_found", "_law_due"] (spAlike K)) (hka : PySem.W.keepIn K (.ref fa) = true) (hba : Binds K fda ["_law_found", "_law_due"] [])
    {f : Addr} {cdv : Value} {A : Around} {outer : List Env} {s : Shared} {H0 : Hp} (hg : A.guards = some []) (hr : Room 14 (A.deeper (envOfC "law" (defScope sLaw) s.heap.objs.size f cdv))) :
    ∃ t, PS (cxOf CX0 P w K mg base nLaw "law" (defScope sLaw) f cdv A outer s H0 E0).nox (nthS sTurn 8) t ∧ ∀ (D : Ends) (a b I : Addr) (c : Col) (ts : List Tst) (cs : List Cell) (vc : V) (tA sA hA : Addr) (txs sxs hxs : List V) (H : Hp) (k2 k3 k7 k9 k10 k11 k12 k13 k14 k15 k16 k17 : Option V),
      CSt c ts cs → LW K b I c ts cs vc tA sA hA txs sxs hxs H → (∀ H' k15 k16, LW K b I c ts cs vc tA sA hA txs sxs hxs H' → D.nx [some (.ref a), some (.ref b), k2, k3, some vc, some (.ref tA), some (.ref sA), k7, some (.ref hA), k9, k10, k11, k12, k13, k14, k15, k16, k17] H') →
      t D [some (.ref a), some (.ref b), k2, k3, some vc, some (.ref tA), some (.ref sA), k7, some (.ref hA), k9, k10, k11, k12, k13, k14, k15, k16, k17] H := by
  have nd := scLaw.nd
  have hr1 : Room 1 _ := hr.mono (j := 1) (by decide)
  have hr2 : Room 2 _ := hr.mono (j := 2) (by decide)
  have hr3 : Room 3 _ := hr.mono (j := 3) (by decide)
  have hr4 : Room 4 _ := hr.mono (j := 4) (by decide)
  have hr8 : Room 8 _ := hr.mono (j := 8) (by decide)
  refine ⟨_, ps_for PassesOwn.never rfl (pi_list (pe_slice sl_list (pv 6) po_none (po_some pe_int))) (pg_name (i := 15) nd rfl (Or.inl rfl))
      (pss_one (ps_for PassesOwn.never rfl (pi_list (pe_op op_cat (pe_slice sl_list (pv 6) po_none (po_some pe_int)) (pe_slice sl_list (pe_f L.cells hr (pa_cons (pe_f L.col hr3 (pa_cons (pv 1) pa_nil)) (pa_cons (pe_lst (pa_cons (pe_f L.test hr4 (pa_cons (pv 1) pa_nil)) pa_nil)) pa_nil))) po_none (po_some pe_int)))) (pg_name (i := 16) nd rfl (Or.inl rfl))
        (pss_one (ps_if (pt_not (pt_val (pe_callA Fa hr1 (by rfl) ha hka hba (pa_cons (pe_f L.metc hr8 (pa_cons (pv 15) (pa_cons (pv 16) pa_nil))) (pa_cons (pe_f L.metl hr2 (pa_cons (pv 15) (pa_cons (pv 16) pa_nil))) pa_nil))))) (pss_one (ps_ret pe_bl)) pss_nil)))), ?_⟩
  intro D a b I c ts cs vc tA sA hA txs sxs hxs H k2 k3 k7 k9 k10 k11 k12 k13 k14 k15 k16 k17 S W q
  refine ⟨_, rfl, _, rfl, sA, sxs, rfl, SqL.of W.sl, fun p hp => ⟨p, rfl, ⟨_, SqL.of upd_same⟩, ?_⟩⟩
  have s0 : Same H (upd H p (.lst (cutV sxs Option.none (some 5)))) := same_upd hp
  have hpb : p ≠ b := W.bag.ne hp
  have W0 := W.same s0
  have hpv : upd H p (.lst (cutV sxs Option.none (some 5))) p = some (.lst (cutV sxs Option.none (some 5))) := upd_same
  generalize upd H p (.lst (cutV sxs Option.none (some 5))) = H1 at s0 W0 hpv ⊢
  refine for_list (xs := cutV sxs Option.none (some 5)) (fun i σ H' => ∃ k15 k16, σ = [some (.ref a), some (.ref b), k2, k3, some vc, some (.ref tA), some (.ref sA), k7, some (.ref hA), k9, k10, k11, k12, k13, k14, k15, k16, k17] ∧ LW K b I c ts cs vc tA sA hA txs sxs hxs H' ∧ H' p = some (.lst (cutV sxs Option.none (some 5)))) ⟨_, _, rfl, W0, hpv⟩ ?_ ?_ ?_
  · rintro i σ H' _ ⟨k15, k16, rfl, _, h⟩
    exact SqL.of h
  · rintro i x σ H2 hxi ⟨k15, k16, rfl, W2, hp2⟩
    have hx2 : CellAt K H2 x := cells_at S W2.sd x (cut_mem (List.mem_of_getElem? hxi))
    refine ⟨_, rfl, _, rfl, sA, sxs, rfl, SqL.of W2.sl, fun p3 hp3 => ?_⟩
    have s3 : Same H2 (upd H2 p3 (.lst (cutV sxs Option.none (some 3)))) := same_upd hp3
    have W3 := W2.same s3
    have h3v : upd H2 p3 (.lst (cutV sxs Option.none (some 3))) p3 = some (.lst (cutV sxs Option.none (some 3))) := upd_same
    have h3b : p3 ≠ b := W2.bag.ne hp3
    generalize upd H2 p3 (.lst (cutV sxs Option.none (some 3))) = H3 at s3 W3 h3v ⊢
    refine ⟨_, rfl, b, I, rfl, W3.bag, fun v c' H4 hv hc' s4 hb4 => ⟨_, rfl, b, I, rfl, hb4, fun u t' H5 ht' s5 hb5 => ⟨(by show 1 ≤ _; decide), fun l hl => ?_⟩⟩⟩
    have s35 := s4.trans s5
    have W5 := W3.keepB s35 hb5
    have s6 : Same H5 (upd H5 l (.lst [u])) := same_upd hl
    have W6 := W5.same s6
    have hv6 : Dp K (upd H5 l (.lst [u])) v (encCol c') := Dp.same s6 (dp_b hb4.lst s5 rfl hv)
    have ht6 := ht'.same s6
    have hlv : upd H5 l (.lst [u]) l = some (.lst [u]) := upd_same
    have S' : CSt c' [t'] (cellsOf c' [t']) := CSt.of hc' (by intro t ht; rw [List.mem_singleton.mp ht]; exact ht'.1) (by show 1 ≤ 3; decide) (by intro z; cases z)
    have h36 : SameB b H3 (upd H5 l (.lst [u])) := s35.trans (Same.b s6)
    generalize upd H5 l (.lst [u]) = H6 at s6 W6 hv6 ht6 hlv h36 ⊢
    refine ⟨v, l, [u], c', [t'], rfl, hv6, SqL.of hlv, .cons ht6.dp .nil, S'.ok, S'.low, fun m ys H7 s7 hm hm7 hys => ?_⟩
    have W7 := W6.same s7
    refine ⟨_, rfl, m, ys, rfl, SqL.of hm7, fun p5 hp5 => ?_⟩
    have s8 : Same H7 (upd H7 p5 (.lst (cutV ys Option.none (some 5)))) := same_upd hp5
    have W8 := W7.same s8
    have h8v : upd H7 p5 (.lst (cutV ys Option.none (some 5))) p5 = some (.lst (cutV ys Option.none (some 5))) := upd_same
    have hys8 := DpAll.same s8 hys
    have h38 : SameB b H3 (upd H7 p5 (.lst (cutV ys Option.none (some 5)))) := (h36.trans (Same.b s7)).trans (Same.b s8)
    generalize upd H7 p5 (.lst (cutV ys Option.none (some 5))) = H8 at s8 W8 h8v hys8 h38 ⊢
    have l3 : (cutV sxs Option.none (some 3)).length ≤ 29 := by
      have h1 := cutV_length sxs Option.none (some 3)
      have h2 := DpAll.len W.sd
      rw [List.length_map] at h2
      have h4 := S.few
      omega
    have l5 : (cutV ys Option.none (some 5)).length ≤ 29 := by
      have h1 := cutV_length ys Option.none (some 5)
      have h2 := DpAll.len hys
      rw [List.length_map] at h2
      have h4 := S'.few
      omega
    refine ⟨p3, p5, _, _, rfl, rfl, h38 _ _ h3b h3v, h8v, Nat.le_of_lt (szl (by omega)), fun r hr0 => ⟨r, rfl, ⟨_, SqL.of upd_same⟩, ?_⟩⟩
    obtain ⟨ws, hws⟩ : ∃ ws, ws = cutV sxs Option.none (some 3) ++ cutV ys Option.none (some 5) := ⟨_, rfl⟩
    rw [← hws]
    have s9 : Same H8 (upd H8 r (.lst ws)) := same_upd hr0
    have W9 := W8.same s9
    have h9v : upd H8 r (.lst ws) r = some (.lst ws) := upd_same
    have hrb : r ≠ b := W8.bag.ne hr0
    have h29 : SameB b H2 (upd H8 r (.lst ws)) := ((Same.b s3).trans h38).trans (Same.b s9)
    have hcells : ∀ y ∈ ws, CellAt K (upd H8 r (.lst ws)) y := by
      intro y hy
      rw [hws] at hy
      rcases List.mem_append.mp hy with hy | hy
      · exact cells_at S W9.sd y (cut_mem hy)
      · exact cells_at S' (DpAll.same s9 hys8) y (cut_mem hy)
    have hx9 := hx2.keepB W2.bag.lst h29
    have hp9 := h29 _ _ hpb hp2
    generalize upd H8 r (.lst ws) = H9 at s9 W9 h9v h29 hcells hx9 hp9 ⊢
    refine for_list (xs := ws) (fun i σ H' => ∃ k16, σ = [some (.ref a), some (.ref b), k2, k3, some vc, some (.ref tA), some (.ref sA), k7, some (.ref hA), k9, k10, k11, k12, k13, k14, some x, k16, k17] ∧ Same H9 H') ⟨_, rfl, Same.refl _⟩ ?_ ?_ ?_
    · rintro i σ H' _ ⟨k16, rfl, h⟩
      exact SqL.of (h _ _ h9v)
    · rintro i y σ HA hyi ⟨k16, rfl, sA9⟩
      obtain ⟨e1, c1, ts1, kk1, d1, ok1, g1⟩ := hx9
      obtain ⟨e2, c2, ts2, kk2, d2, ok2, g2⟩ := hcells y (List.mem_of_getElem? hyi)
      have d1' := Dp.same sA9 d1
      have d2' := Dp.same sA9 d2
      have q1 := g1.len
      have q2 := g2.len
      refine ⟨_, rfl, _, rfl, x, y, e1, e2, rfl, d1', d2', g1.nf, g2.nf, by omega, by omega, fun v1 HB sB hv1 => ?_⟩
      refine ⟨_, rfl, _, rfl, x, y, e1, e2, rfl, Dp.same sB d1', Dp.same sB d2', g1.finS, g2.finS, by omega, by omega, fun v2 HC sC hv2 n => ?_⟩
      rw [met_same g1.nf g2.nf g1.finS g2.finS] at hv2
      have hv1' := Dp.same sC hv1
      obtain ⟨n1, _, _, rfl, _⟩ := dp_cellv hv1'
      obtain ⟨n2, _, _, rfl, _⟩ := dp_cellv hv2
      obtain ⟨z1, z2, z3, z4⟩ := met_short ok1 g1 g2
      exact ⟨hg, n1, n2, _, rfl, hv1', hv2, (shp_c _).shaped, z1, z2, z3, z4, _, rfl, iteF ⟨_, rfl, (sA9.trans sB).trans sC⟩⟩
    · rintro σ HA ⟨k16, rfl, sA9⟩
      exact ⟨_, _, rfl, W9.same sA9, sA9 _ _ hp9⟩
  · rintro σ H' ⟨k15, k16, rfl, W', _⟩
    exact q _ _ _ W'
end
end RA
end

section
set_option Elab.async false
set_option linter.all false
set_option autoImplicit false
set_option maxRecDepth 100000
set_option maxHeartbeats 8000000
set_option exponentiation.threshold 10000
namespace RA
open PySem PySem.Spec PyProof.Rows L2
theorem for_enumL {K : PySem.W.Frag} {a : Addr} {xs : List V} {g : TG} {tb : TS} {D : Ends} {σ : L2.St} {H : Hp} (Pv : Nat → L2.St → Hp → Prop) (h0 : Pv 0 σ H) (hl : ∀ i σ H, i ≤ xs.length → Pv i σ H → SqL K H a xs)
    (hs : ∀ (i : Nat) x σ H T, xs[i]? = some x → Pv i σ H → H T = Option.none → g (.ref T) σ (upd H T (.tup [.int (i : Nat), x])) fun σ2 H2 => tb { D with nx := Pv (i + 1), ct := Pv (i + 1), bk := D.nx } σ2 H2) (hd : ∀ σ H, Pv xs.length σ H → D.nx σ H) :
    ∃ W : Nat → Nat → L2.St → Hp → Prop, (∃ m, W 0 m σ H) ∧ ∀ i m σ H, W i m σ H →
      ((Ite K a).stop i H ∧ D.nx σ H) ∨ ((Ite K a).go i H ∧ ∃ N : L2.St → Hp → Prop, (∀ σ' H', N σ' H' → ∃ m', m' < m ∧ W (i + 1) m' σ' H') ∧ ∀ x H', (Ite K a).yld i H x H' → g x σ H' fun σ2 H2 => tb { D with nx := N, ct := N, bk := D.nx } σ2 H2) := by
  refine ⟨fun i m σ H => i ≤ xs.length ∧ m = xs.length - i ∧ Pv i σ H, ⟨_, Nat.zero_le _, rfl, h0⟩, ?_⟩
  rintro i m σ H ⟨hi, rfl, hp⟩
  have hsq := hl i σ H hi hp
  by_cases hlt : i < xs.length
  · refine .inr ⟨⟨xs, xs[i], hsq, List.getElem?_eq_getElem hlt⟩, Pv (i + 1), fun σ' H' h => ⟨xs.length - (i + 1), by omega, by omega, rfl, h⟩, ?_⟩
    rintro x H' ⟨T, y, rfl, hT, rfl, hy⟩
    exact hs i y σ H T (hy xs hsq) hp hT
  · have e : i = xs.length := by omega
    subst e
    exact .inl ⟨⟨xs, hsq, Nat.le_refl _⟩, hd σ H hp⟩
section
variable {P : Program} {w : World} {K : PySem.W.Frag} {mg : Str → Option Value} {base : Heap}
theorem sl_any {H : Hp} {a : Addr} {xs : List V} {lo hi : Option Int} {Q : VK} (ha : SqT K H a xs) (q : ∀ r H', Same H H' → SqT K H' r (cutV xs lo hi) → Q (.ref r) H') : rSlA K (.ref a) lo hi H Q := by
  refine ⟨a, xs, rfl, ha, fun ⟨h1, h2⟩ => ?_, fun _ p hp => q p _ (same_upd hp) (SqT.of upd_same)⟩
  have e : cutV xs lo hi = xs := by
    unfold cutV
    rw [h1, h2, List.drop_zero, Nat.sub_zero, List.take_length]
  exact q a H (Same.refl _) (by rw [e]; exact ha)
theorem cat_any {H : Hp} {a b : Addr} {xs ys : List V} {Q : VK} (ha : SqT K H a xs) (hb : SqT K H b ys) (hz : xs.length + ys.length ≤ sizeLine) (q : ∀ r H', Same H H' → SqT K H' r (xs ++ ys) → Q (.ref r) H') : rCatA K (.ref a) (.ref b) H Q := by
  refine ⟨a, b, xs, ys, rfl, rfl, ha, hb, hz, fun e => ?_, fun _ e => ?_, fun _ _ p hp => q p _ (same_upd hp) (SqT.of upd_same)⟩
  · exact q b H (Same.refl _) (by rw [e]; exact hb)
  · exact q a H (Same.refl _) (by rw [e, List.append_nil]; exact ha)
theorem noPart_r {σ : L2.St} {H : Hp} {Q : Option Int → Hp → Prop} (h : Q Option.none H) : tNoPart σ H Q := h
theorem rep_v3 (k : Bool) (z : Val3) : (List.replicate ((if k then (1 : Int) else 0)).toNat [v3 z]).flatten = (if k then [z] else []).map v3 := by cases k <;> rfl
theorem law_E (B : Bi mg) (L : LawFs P w K mg base) {f : Addr} {cdv : Value} {A : Around} {outer : List Env} {s : Shared} {H0 : Hp} (hr : Room 14 (A.deeper (envOfC "law" (defScope sLaw) s.heap.objs.size f cdv))) :
    ∃ t, PS (cxOf CX0 P w K mg base nLaw "law" (defScope sLaw) f cdv A outer s H0 E0).nox (nthS sTurn 5) t ∧ ∀ (D : Ends) (a b I : Addr) (c : Col) (ts : List Tst) (cs : List Cell) (vc : V) (tA sA hA : Addr) (txs sxs hxs : List V) (H : Hp) (k2 k3 k7 k9 k10 k11 k12 k13 k14 k15 k16 k17 : Option V),
      CSt c ts cs → LW K b I c ts cs vc tA sA hA txs sxs hxs H → (∀ H' k7 k9 k10 k11 k12, LW K b I c ts cs vc tA sA hA txs sxs hxs H' → D.nx [some (.ref a), some (.ref b), k2, k3, some vc, some (.ref tA), some (.ref sA), k7, some (.ref hA), k9, k10, k11, k12, k13, k14, k15, k16, k17] H') →
      t D [some (.ref a), some (.ref b), k2, k3, some vc, some (.ref tA), some (.ref sA), k7, some (.ref hA), k9, k10, k11, k12, k13, k14, k15, k16, k17] H := by
  have nd := scLaw.nd
  have hu := hu1 hr
  have hr2 : Room 2 _ := hr.mono (j := 2) (by decide)
  have hr3 : Room 3 _ := hr.mono (j := 3) (by decide)
  refine ⟨_, ps_for PassesOwn.never rfl (pi_enum (by rfl) B.enu_ (pa_cons (pv 6) pa_nil)) (pg_tup rfl (pgs_cons (pg_name (i := 9) nd rfl (Or.inr rfl)) (pgs_cons (pg_name (i := 7) nd rfl (Or.inl rfl)) pgs_nil)))
      (pss_cons (ps_set nd (i := 10) rfl (Or.inl rfl) (pe_op op_cat (pe_op op_rep (pe_lst (pa_cons pe_non pa_nil)) (pe_callTy call_int1 (by rfl) B.int_ bt_int (pa_cons (pe_ix ix_tup (pv 7) pe_int (fun _ _ => rfl)) pa_nil))) (pe_op op_rep (pe_lst (pa_cons pe_str pa_nil)) (pe_callTy call_int1 (by rfl) B.int_ bt_int (pa_cons (pe_ix ix_tup (pv 7) pe_int (fun _ _ => rfl)) pa_nil)))))
      (pss_cons (ps_for PassesOwn.never rfl (pi_tup (pe_op op_catA (pe_slice sl_tupA (pe_ix ix_tup (pv 7) pe_int (fun _ _ => rfl)) po_none (po_some pe_int)) (pe_slice sl_tupA (pe_ix ix_tup (pv 7) pe_int (fun _ _ => rfl)) (po_some (pe_un un_neg pe_int)) po_none))) (pg_tup rfl (pgs_cons (pg_name (i := 11) nd rfl (Or.inl rfl)) (pgs_cons (pg_name (i := 12) nd rfl (Or.inl rfl)) pgs_nil)))
        (pss_one (ps_expr (pe_extendL (pv 10) (pe_f L.pts hr2 (pa_cons (pv 1) (pa_cons (pv 11) (pa_cons (pv 12) pa_nil))))))))
      (pss_one (ps_if (pt_cmpR (op_neD hu) (pe_lc (own := [("_law_value", 13)]) (g := gName 13) (tt := tTest (tOp (rNeD K) (tCall (spAnsL K) [] E0 (tCons (tVar 5) (tCons (tVar 13) tNil))) (tOp (rIxL K) (tVar 8) (tVar 9)))) (te := tVar 13) rfl nd (pi_list (pv 10)) (blkOk_by (N := nLaw) (sc := defScope sLaw) (by decide +kernel))
        (fun _ _ _ _ _ => pg_name (i := 13) nd rfl (Or.inl rfl)) (fun _ _ _ _ _ => pts_one (pt_cmpR (op_neD hu) (pe_f L.ans hr3 (pa_cons (pv 5) (pa_cons (pv 13) pa_nil))) (pe_ix ix_list (pv 8) (pv 9) (fun _ _ => rfl)) (nomark _))) (fun _ _ _ _ _ => pv 13)) (pe_lst pa_nil) (nomark _)) (pss_one (ps_ret pe_bl)) pss_nil)))), ?_⟩
  intro D a b I c ts cs vc tA sA hA txs sxs hxs H k2 k3 k7 k9 k10 k11 k12 k13 k14 k15 k16 k17 S W q
  refine ⟨_, rfl, sA, sxs, rfl, SqL.of W.sl, for_enumL (xs := sxs) (fun i σ H' => ∃ k7 k9 k10 k11 k12, σ = [some (.ref a), some (.ref b), k2, k3, some vc, some (.ref tA), some (.ref sA), k7, some (.ref hA), k9, k10, k11, k12, k13, k14, k15, k16, k17] ∧ LW K b I c ts cs vc tA sA hA txs sxs hxs H') ⟨_, _, _, _, _, rfl, W⟩ ?_ ?_ ?_⟩
  · rintro i σ H' _ ⟨k7, k9, k10, k11, k12, rfl, h⟩
    exact SqL.of h.sl
  · rintro i x σ H1 T hxi ⟨k7, k9, k10, k11, k12, rfl, W1⟩ hT
    have sT : Same H1 (upd H1 T (.tup [.int (i : Nat), x])) := same_upd hT
    have W2 := W1.same sT
    refine ⟨T, _, rfl, SqT.of upd_same, rfl, ?_⟩
    generalize upd H1 T (.tup [.int (i : Nat), x]) = H2 at sT W2 ⊢
    obtain ⟨d, hd1, hd2⟩ := DpAll.get W2.sd hxi
    rw [List.getElem?_map] at hd1
    obtain ⟨e, hei, rfl⟩ := Option.map_eq_some_iff.mp hd1
    have hem : e ∈ cs := List.mem_of_getElem? hei
    have ce := S.at hem
    obtain ⟨ca, LL, ys, rfl, g1, g2, g3⟩ := dp_cellv hd2
    have hyl : ys.length = e.spans.length := by rw [DpAll.len g3, encPs, List.length_map]
    have hel := ce.len
    obtain ⟨u, hu2, r, rfl, hr4⟩ := W2.hr.getR hei
    refine ⟨_, _, rfl, _, _, rfl, rfl, (by show 1 ≤ _; decide), fun l1 hl1 => ⟨_, rfl, ca, _, 0, _, rfl, rfl, g1.ext (same_upd hl1), at0, .inr ⟨e.empty, rfl, l1, _, _, rfl, rfl, upd_same, by split <;> decide, by split <;> decide, by split <;> decide, fun p1 hp1 => ?_⟩⟩⟩
    have er1 : (List.replicate (if e.empty = true then (1 : Int) else 0).toNat [V.non]).flatten = (if e.empty = true then [Val3.non] else []).map v3 := rep_v3 e.empty .non
    rw [er1]
    obtain ⟨z1, hz1⟩ : ∃ z1, z1 = (if e.empty = true then [Val3.non] else []) := ⟨_, rfl⟩
    rw [← hz1]
    have s3 : Same H2 (upd (upd H2 l1 (.lst [V.non])) p1 (.lst (z1.map v3))) := (same_upd hl1).trans (same_upd hp1)
    have h3 : upd (upd H2 l1 (.lst [V.non])) p1 (.lst (z1.map v3)) p1 = some (.lst (z1.map v3)) := upd_same
    generalize upd (upd H2 l1 (.lst [V.non])) p1 (.lst (z1.map v3)) = H3 at s3 h3 ⊢
    refine ⟨(by show 1 ≤ _; decide), fun l2 hl2 => ⟨_, rfl, ca, _, 1, _, rfl, rfl, g1.ext (s3.trans (same_upd hl2)), at1, .inr ⟨e.words, rfl, l2, _, _, rfl, rfl, upd_same, by split <;> decide, by split <;> decide, by split <;> decide, fun p2 hp2 => ?_⟩⟩⟩
    have er2 : (List.replicate (if e.words = true then (1 : Int) else 0).toNat [V.str "ten"]).flatten = (if e.words = true then [Val3.txt "ten"] else []).map v3 := rep_v3 e.words (.txt "ten")
    rw [er2]
    obtain ⟨z2, hz2⟩ : ∃ z2, z2 = (if e.words = true then [Val3.txt "ten"] else []) := ⟨_, rfl⟩
    rw [← hz2]
    have s4 : Same H3 (upd (upd H3 l2 (.lst [V.str "ten"])) p2 (.lst (z2.map v3))) := (same_upd hl2).trans (same_upd hp2)
    have h4 : upd (upd H3 l2 (.lst [V.str "ten"])) p2 (.lst (z2.map v3)) p2 = some (.lst (z2.map v3)) := upd_same
    have h41 := s4 _ _ h3
    have s24 := s3.trans s4
    generalize upd (upd H3 l2 (.lst [V.str "ten"])) p2 (.lst (z2.map v3)) = H4 at s4 h4 h41 s24 ⊢
    have lz1 : z1.length ≤ 1 := by rw [hz1]; split <;> decide
    have lz2 : z2.length ≤ 1 := by rw [hz2]; split <;> decide
    have okz : ∀ z ∈ z1 ++ z2, bd3 z ∧ ansL ts z = ansL ts (valueFor e) := by
      intro z hz
      rcases List.mem_append.mp hz with hz | hz
      · rw [hz1] at hz
        split at hz
        · rename_i he
          rw [List.mem_singleton.mp hz]
          exact ⟨True.intro, ((ce.emp he).1).symm⟩
        · cases hz
      · rw [hz2] at hz
        split at hz
        · rename_i he
          rw [List.mem_singleton.mp hz]
          exact ⟨True.intro, ((ce.wrd he).1).symm⟩
        · cases hz
    refine ⟨p1, p2, _, _, rfl, rfl, h41, h4, by simp only [List.length_map]; exact Nat.le_of_lt (szl (by omega)), fun PH hPH => ?_⟩
    have W4 := W2.same s24
    have hPb : PH ≠ b := W4.bag.ne hPH
    have hPI : PH ≠ I := W4.bag.neI hPH
    have g3' := DpAll.same s24 g3
    have hr4' := s24 _ _ hr4
    have g1' := g1.ext s24
    have g2' := g2.ext s24
    rw [← List.map_append]
    obtain ⟨zs0, hzs0⟩ : ∃ zs0, zs0 = z1 ++ z2 := ⟨_, rfl⟩
    rw [← hzs0]
    rw [← hzs0] at okz
    have lz0 : zs0.length ≤ 2 := by rw [hzs0, List.length_append]; omega
    have s5 : Same H4 (upd H4 PH (.lst (zs0.map v3))) := same_upd hPH
    have h5 : upd H4 PH (.lst (zs0.map v3)) PH = some (.lst (zs0.map v3)) := upd_same
    have hb5 : Bag I (upd H4 PH (.lst (zs0.map v3))) b := W4.bag.new hPH
    generalize upd H4 PH (.lst (zs0.map v3)) = H5 at s5 h5 hb5 ⊢
    refine ⟨_, rfl, ca, _, 2, _, rfl, rfl, g1'.ext s5, at2, _, rfl, sl_any (g2'.ext s5) fun r1 H6 s6 hr1 => ?_⟩
    refine ⟨_, rfl, ca, _, 2, _, rfl, rfl, (g1'.ext s5).ext s6, at2, _, rfl, _, rfl, ?_⟩
    refine noPart_r ?_
    refine sl_any ((g2'.ext s5).ext s6) fun r2 H7 s7 hr2' => ?_
    refine cat_any (hr1.ext s7) hr2' (by
      have q1 := cutV_length ys Option.none (some 6)
      have q2 := cutV_length ys (some (-6)) Option.none
      exact Nat.le_of_lt (szl (by omega))) fun t H8 s8 ht => ?_
    obtain ⟨ws, hws⟩ : ∃ ws, ws = cutV ys Option.none (some 6) ++ cutV ys (some (-6)) Option.none := ⟨_, rfl⟩
    rw [← hws] at ht
    have wl : ws.length ≤ 962 := by
      have q1 := cutV_length ys Option.none (some 6)
      have q2 := cutV_length ys (some (-6)) Option.none
      rw [hws, List.length_append]
      omega
    have wm : ∀ x ∈ ws, x ∈ ys := by
      intro x hx
      rw [hws] at hx
      rcases List.mem_append.mp hx with hx | hx <;> exact cut_mem hx
    have s58 := (s6.trans s7).trans s8
    have s48 := s5.trans s58
    have h8 := s58 _ _ h5
    have hb8 := hb5.same s58
    refine ⟨t, rfl, ⟨_, ht⟩, for_tup (xs := ws) (fun j σ H' => ∃ k11 k12 zs, σ = [some (.ref a), some (.ref b), k2, k3, some vc, some (.ref tA), some (.ref sA), some (.ref ca), some (.ref hA), some (.int (i : Nat)), some (.ref PH), k11, k12, k13, k14, k15, k16, k17] ∧
      SameB b H4 H' ∧ Bag I H' b ∧ SqT K H' t ws ∧ H' PH = some (.lst ((zs : List Val3).map v3)) ∧ zs.length ≤ 2 + 9 * j ∧ ∀ z ∈ zs, bd3 z ∧ ansL ts z = ansL ts (valueFor e)) ⟨_, _, zs0, rfl, Same.b s48, hb8, ht, h8, by omega, okz⟩ ?_ ?_ ?_⟩
    · rintro j σ H' _ ⟨k11, k12, zs, rfl, _, _, h, _⟩
      exact h
    · rintro j x σ H' hxj ⟨k11, k12, zs, rfl, sb, hb, htt, hP, hlz, hok⟩
      have hjl : j < ws.length := (List.getElem?_eq_some_iff.mp hxj).1
      obtain ⟨m, hm, em⟩ := List.getElem_of_mem (wm x (List.mem_of_getElem? hxj))
      obtain ⟨bq, p, w1, w2, w3⟩ := fin_at (dps_b W4.bag.lst sb (tupDs_prs _) g3') ce.finS (i := m) (by omega)
      rw [List.getElem?_eq_getElem hm, em] at w1
      cases w1
      have hpm : p ∈ e.spans := List.mem_of_getElem? w2
      obtain ⟨lo, hi, rfl, v1, v2, v3'⟩ := ce.fin p hpm
      refine ⟨bq, _, rfl, w3, rfl, _, _, rfl, _, _, rfl, rfl, ?_⟩
      refine ⟨_, rfl, tyV_lst hP, _, rfl, _, rfl, _, rfl, b, I, lo, hi, rfl, hb, v2, fun pp ns H9 s9 hb9 hpp0 hpp hall hns => ?_⟩
      have hP9 := s9 _ _ hPb hP
      refine ⟨PH, pp, _, _, rfl, rfl, hP9, hpp, by simp only [List.length_map]; exact Nat.le_of_lt (szl (by omega)), ?_⟩
      refine ⟨_, _, zs ++ ns.map Val3.num, rfl, ?_, hb9.own hPb hPI, sqt_updL hP9 (sqt_b hb.lst s9 htt), ?_, by rw [List.length_append, List.length_map]; omega, ?_⟩
      · intro y o hy hyo
        rw [upd_ne (ne_of_none hyo hPH)]
        exact s9 _ _ hy (sb _ _ hy hyo)
      · rw [upd_same, List.map_append, List.map_map]
        rfl
      · intro z hz
        rcases List.mem_append.mp hz with hz | hz
        · exact hok z hz
        · obtain ⟨n, hn, rfl⟩ := List.mem_map.mp hz
          have hn2 := hall n hn
          have hmem : MemL n e.spans := ⟨_, hpm, inP_fin.mpr hn2⟩
          obtain ⟨⟨y1, y2⟩, y3⟩ := (ce.mem n).mp hmem
          exact ⟨bd_num S.col y1 y2, y3⟩
    · rintro σ H' ⟨k11, k12, zs, rfl, sb, hb, htt, hP, hlz, hok⟩
      have W9 := W4.keepB sb hb
      have hr9 : H' r = some (.tup ((keyA (ansL ts (valueFor e))).map kV)) := sb _ _ (by
        rintro rfl
        obtain ⟨ys2, hy2⟩ := W4.bag.lst
        rw [hy2] at hr4'
        cases hr4') hr4'
      refine ⟨_, rfl, PH, rfl, ⟨_, SqL.of hP⟩, fun D2 hD2 => lcR_list (fun _ : Val3 => (none : Option Int)) (fun _ v z => v = v3 z) (fun _ v c => v = .int c) zs (fun _ _ _ _ _ h => h) (fun _ _ _ _ _ _ h => h) hD2 (SqL.of hP) ⟨by simp, fun j v z h1 h2 => by
          rw [List.getElem?_map, h2] at h1
          cases h1
          rfl⟩ (by omega) ?_ ?_⟩
      · intro x z HA Y N hz hS hDn hx hY hN
        subst hx
        obtain ⟨o1, o2⟩ := hok z hz
        have WA := W9.same hS
        refine ⟨rfl, _, rfl, _, rfl, tA, txs, ts, z, rfl, SqL.of WA.tl, WA.tr, by have := S.ok.2.1; omega, o1, fun p HB sB hp0 hp => ?_⟩
        have WB := WA.same sB
        refine ⟨_, rfl, _, rfl, hA, hxs, _, _, rfl, rfl, SqL.of WB.hl, atI_int (j := i) rfl hu2, encAs (ansL ts z), encAs (ansL ts (valueFor e)), dp_key hp, dp_key (sB _ _ (hS _ _ hr9)), (shp_as _).shaped, (shp_as _).shaped, _, rfl, ?_⟩
        rw [eqv_as, o2, decide_eq_true rfl]
        exact iteF (hN _ rfl sB)
      · intro HA acc sA' hDA hrA
        have ea : acc = [] := by
          rw [fm_none] at hrA
          exact List.eq_nil_of_length_eq_zero hrA.1
        subst ea
        exact rd_none (K := K) hDA fun HB sB => ⟨_, rfl, iteF ⟨_, _, _, _, _, rfl, (W9.same sA').same sB⟩⟩
  · rintro σ H' ⟨k7, k9, k10, k11, k12, rfl, W'⟩
    exact q _ _ _ _ _ _ W'
end
end RA
end

section
set_option Elab.async false
set_option linter.all false
set_option autoImplicit false
set_option maxRecDepth 100000
set_option maxHeartbeats 8000000
set_option exponentiation.threshold 10000
namespace RA
open PySem PySem.Spec PyProof.Rows L2
section
variable {P : Program} {w : World} {K : PySem.W.Frag} {mg : Str → Option Value} {base : Heap}
def flagC (i : Nat) (e : Cell) : Bool := if i = 0 then e.empty else e.words
/-- lists of given lengths -/
def LenAt (H : Hp) (v : V) (n : Nat) : Prop := ∃ p ys, v = V.ref p ∧ H p = some (.lst ys) ∧ ys.length = n
def scTruth : Scope := { kind := .function, names := [(".0", .local), ("_law_place", .cell), ("_law_some", .cell)], isGenerator := false, isCoroutine := false }
theorem law_T6 {f : Addr} {cdv : Value} {A : Around} {outer : List Env} {s : Shared} {H0 : Hp} :
    ∃ t, PS (cxOf CX0 P w K mg base nLaw "law" (defScope sLaw) f cdv A outer s H0 E0).nox (nthS sTurn 6) t ∧ ∀ (D : Ends) (a b I : Addr) (c : Col) (ts : List Tst) (cs : List Cell) (vc : V) (tA sA hA : Addr) (txs sxs hxs : List V) (H : Hp) (k2 k3 k7 k9 k10 k11 k12 k13 k14 k15 k16 : Option V),
      CSt c ts cs → LW K b I c ts cs vc tA sA hA txs sxs hxs H → (∀ H' TA xs, LW K b I c ts cs vc tA sA hA txs sxs hxs H' → H' TA = some (.lst xs) → AllR (LenAt H') xs [(cs.filter (flagC 0)).length, (cs.filter (flagC 1)).length] →
        D.nx [some (.ref a), some (.ref b), k2, k3, some vc, some (.ref tA), some (.ref sA), k7, some (.ref hA), k9, k10, k11, k12, k13, some (.ref TA), k15, k16, Option.none] H') →
      t D [some (.ref a), some (.ref b), k2, k3, some vc, some (.ref tA), some (.ref sA), k7, some (.ref hA), k9, k10, k11, k12, k13, k14, k15, k16, Option.none] H := by
  have nd := scLaw.nd
  refine ⟨_, ps_setLc (i := 14) (own := [("_law_place", 17)]) (g := gName 17) (tt := tYes) (te := tLc (iList K (tVar 6)) (gName 7) (tTest (tOp (rIxT K) (tVar 7) (tVar 17))) (tVar 7) [7]) rfl nd rfl rfl (sw_true rfl rfl rfl (by decide +kernel)) (pi_tup (pe_tup (pa_cons pe_int (pa_cons pe_int pa_nil)))) (blkOk_by (N := nLaw) (sc := defScope sLaw) (by decide +kernel))
      (fun _ _ _ _ _ => pg_name (i := 17) nd rfl (Or.inr rfl)) (fun _ _ _ _ _ => pts_nil) (fun _ _ _ _ _ => pe_lc (own := [("_law_cell", 7)]) (g := gName 7) (tt := tTest (tOp (rIxT K) (tVar 7) (tVar 17))) (te := tVar 7) rfl nd (pi_list (pv 6)) (blkOk_by (N := nLaw) (sc := scTruth) (by decide +kernel))
        (fun _ _ _ _ _ => pg_name (i := 7) nd rfl (Or.inl rfl)) (fun _ _ _ _ _ => pts_one (pt_val (pe_ix ix_tup (pv 7) (pv 17) (fun _ _ => rfl)))) (fun _ _ _ _ _ => pv 7)), ?_⟩
  intro D a b I c ts cs vc tA sA hA txs sxs hxs H k2 k3 k7 k9 k10 k11 k12 k13 k14 k15 k16 S W q
  refine ⟨two_sz, fun T hT => ⟨T, rfl, ⟨_, SqT.of upd_same⟩, fun D1 hD1 => ?_⟩⟩
  have sT : Same H (upd H T (.tup [.int 0, .int 1])) := same_upd hT
  have hTv : upd H T (.tup [.int 0, .int 1]) T = some (.tup [.int 0, .int 1]) := upd_same
  have W1 := W.same sT
  generalize upd H T (.tup [.int 0, .int 1]) = H1 at sT hTv W1 hD1 ⊢
  refine lc_tup (xs := [V.int 0, V.int 1]) (fun i H' => Same H1 H' ∧ ∃ acc ns, H' D1 = some (.lst acc) ∧ AllR (fun v n => ∃ p ys, v = V.ref p ∧ p ≠ D1 ∧ H' p = some (.lst ys) ∧ ys.length = n) acc ns ∧ ns.length = i ∧ ∀ j n, ns[j]? = some n → n = (cs.filter (flagC j)).length) ⟨same_upd hD1, [], [], upd_same, AllR.nil, rfl, fun j n h => by simp at h⟩ ?_ ?_ ?_
  · rintro i H' _ ⟨h, _⟩
    exact SqT.of (h _ _ hTv)
  · rintro i x H2 hxi ⟨s2, acc, ns, hacc, hall, hlen, hns⟩
    have hi2 : i < 2 := (List.getElem?_eq_some_iff.mp hxi).1
    have hx : x = V.int (i : Nat) := by
      rcases (show i = 0 ∨ i = 1 by omega) with rfl | rfl <;> (cases hxi; rfl)
    subst hx
    have W2 := W1.same s2
    refine ⟨rfl, ?_⟩
    unfold tYes
    refine iteT ⟨_, rfl, sA, rfl, ⟨_, SqL.of W2.sl⟩, fun D2 hD2 => ?_⟩
    have few := S.few
    refine lcD_list (fun e : Cell => if flagC i e = true then some e else none) encC encC cs tupD_c tupD_c hD2 (SqL.of W2.sl) W2.sd (by omega) ?_ ?_
    · intro y e H3 Y N he hS hy hY hN
      obtain ⟨ca, LL, ys, rfl, g1, g2, g3⟩ := dp_cellv hy
      refine ⟨rfl, _, rfl, _, rfl, ca, _, (i : Nat), .bl (flagC i e), rfl, rfl, g1, ?_, _, rfl, ?_⟩
      · rcases (show i = 0 ∨ i = 1 by omega) with rfl | rfl
        · exact at0
        · exact at1
      · cases hf : flagC i e with
        | true => exact iteT ⟨_, rfl, hY _ e _ (if_pos hf) (Same.refl _) hy⟩
        | false => exact iteF (hN _ (if_neg (by rw [hf]; decide)) (Same.refl _))
    · intro H3 bcc s3 hD3 hd3
      rw [filterMap_yes (flagC i)] at hd3
      have hbl : bcc.length = (cs.filter (flagC i)).length := by rw [DpAll.len hd3, List.length_map]
      have hD13 := s3 _ _ hacc
      have hne : D2 ≠ D1 := by
        rintro rfl
        rw [hD2] at hacc
        cases hacc
      have hal : acc.length = i := by rw [hall.1, hlen]
      refine ⟨acc, hD13, szl (by omega), same_own (s2.trans s3) hD1, acc ++ [.ref D2], ns ++ [(cs.filter (flagC i)).length], upd_same, ?_, by simp [hlen], ?_⟩
      · refine AllR.snoc (AllR.imp hall fun v n ⟨p, ys, e1, e0, e2, e3⟩ => ⟨p, ys, e1, e0, by rw [upd_ne e0]; exact s3 _ _ e2, e3⟩) ⟨D2, bcc, rfl, hne, by rw [upd_ne hne]; exact hD3, hbl⟩
      · intro j n hj
        rcases Nat.lt_or_ge j ns.length with h | h
        · rw [List.getElem?_append_left h] at hj
          exact hns j n hj
        · rw [List.getElem?_append_right h] at hj
          have : j - ns.length = 0 := by
            rcases Nat.eq_zero_or_pos (j - ns.length) with z | z
            · exact z
            · rw [List.getElem?_eq_none (by simp; omega)] at hj
              cases hj
          rw [this] at hj
          cases hj
          rw [show j = i by omega]
  · rintro H2 ⟨s2, acc, ns, hacc, hall, hlen, hns⟩
    refine q _ D1 acc (W1.same s2) hacc ?_
    obtain ⟨n0, n1, rfl⟩ : ∃ n0 n1, ns = [n0, n1] := by
      rcases ns with _ | ⟨n0, _ | ⟨n1, _ | ⟨n2, r⟩⟩⟩ <;> simp at hlen
      exact ⟨_, _, rfl⟩
    rw [← hns 0 n0 rfl, ← hns 1 n1 rfl]
    exact hall.imp fun v n ⟨p, ys, e1, _, e2, e3⟩ => ⟨p, ys, e1, e2, e3⟩
end
end RA
end

section
set_option Elab.async false
set_option linter.all false
set_option autoImplicit false
set_option maxRecDepth 100000
set_option maxHeartbeats 8000000
set_option exponentiation.threshold 10000
namespace RA
open PySem PySem.Spec PyProof.Rows L2
section
variable {P : Program} {w : World} {K : PySem.W.Frag} {mg : Str → Option Value} {base : Heap}
theorem law_T7 (B : Bi mg) {f : Addr} {cdv : Value} {A : Around} {outer : List Env} {s : Shared} {H0 : Hp} (hr : Room 14 (A.deeper (envOfC "law" (defScope sLaw) s.heap.objs.size f cdv))) :
    ∃ t, PS (cxOf CX0 P w K mg base nLaw "law" (defScope sLaw) f cdv A outer s H0 E0).nox (nthS sTurn 7) t ∧ ∀ (D : Ends) (a b I TA : Addr) (c : Col) (ts : List Tst) (cs : List Cell) (vc : V) (tA sA hA : Addr) (txs sxs hxs xs : List V) (H : Hp) (k2 k3 k7 k9 k10 k11 k12 k13 k15 k16 k17 : Option V),
      CSt c ts cs → LW K b I c ts cs vc tA sA hA txs sxs hxs H → H TA = some (.lst xs) → AllR (LenAt H) xs [(cs.filter (flagC 0)).length, (cs.filter (flagC 1)).length] → (∀ H', LW K b I c ts cs vc tA sA hA txs sxs hxs H' →
        D.nx [some (.ref a), some (.ref b), k2, k3, some vc, some (.ref tA), some (.ref sA), k7, some (.ref hA), k9, k10, k11, k12, k13, some (.ref TA), k15, k16, k17] H') →
      t D [some (.ref a), some (.ref b), k2, k3, some vc, some (.ref tA), some (.ref sA), k7, some (.ref hA), k9, k10, k11, k12, k13, some (.ref TA), k15, k16, k17] H := by
  have nd := scLaw.nd
  have hu := hu1 hr
  refine ⟨_, ps_if (pt_cmpR (op_neD hu) (pe_lc (own := [("_law_one_here", 15)]) (g := gName 15) (tt := tYes) (te := tCB (fun xs H Q => ∃ p ys, xs = [.ref p] ∧ (SqL K H p ys ∨ SqT K H p ys) ∧ Q (.int ys.length) H) (tCons (tVar 15) tNil)) rfl nd (pi_list (pv 14)) (blkOk_by (N := nLaw) (sc := defScope sLaw) (by decide +kernel))
      (fun _ _ _ _ _ => pg_name (i := 15) nd rfl (Or.inl rfl)) (fun _ _ _ _ _ => pts_nil) (fun _ _ _ _ _ => pe_callB call_len_seq (by rfl) B.len_ bt_len (pa_cons (pv 15) pa_nil))) (pe_lst (pa_cons (pe_callTy call_int1 (by rfl) B.int_ bt_int (pa_cons (pe_ix ix_tup (pv 4) pe_int (fun _ _ => rfl)) pa_nil)) (pa_cons (pe_callTy call_int1 (by rfl) B.int_ bt_int (pa_cons (pe_ix ix_tup (pv 4) pe_int (fun _ _ => rfl)) pa_nil)) pa_nil))) (nomark _)) (pss_one (ps_ret pe_bl)) pss_nil, ?_⟩
  intro D a b I TA c ts cs vc tA sA hA txs sxs hxs xs H k2 k3 k7 k9 k10 k11 k12 k13 k15 k16 k17 S W hTA hall q
  obtain ⟨cl, rfl, hcl⟩ := dp_col W.col
  have n0 : (cs.filter (flagC 0)).length = if c.empty = true then 1 else 0 := truths S.cd S.pm (f := flagC 0) (k := ansL ts .non) (fun e he hf => (S.at he).emp hf) (fun h => by
    obtain ⟨e, he, _, h2⟩ := S.e1 h
    exact ⟨e, he, h2⟩)
  have n1 : (cs.filter (flagC 1)).length = if c.words = true then 1 else 0 := truths S.cd S.pm (f := flagC 1) (k := ansL ts (.txt "a")) (fun e he hf => (S.at he).wrd hf) (fun h => by
    obtain ⟨e, he, _, h2⟩ := S.e2 h
    exact ⟨e, he, h2⟩)
  rw [n0, n1] at hall
  refine ⟨_, rfl, TA, rfl, ⟨_, SqL.of hTA⟩, fun D1 hD1 => lcR_list (fun n : Nat => some n) (fun H v n => LenAt H v n) (fun _ v n => v = V.int (n : Nat)) [if c.empty = true then 1 else 0, if c.words = true then 1 else 0] (fun _ _ _ _ _ h => h) (fun _ _ _ _ _ _ h => h) hD1 (SqL.of hTA) hall (by show 2 ≤ 1000000; decide) ?_ ?_⟩
  · intro x n H1 Y N hn hS hDn hx hY hN
    obtain ⟨p, ys, rfl, e2, e3⟩ := hx
    refine ⟨rfl, ?_⟩
    unfold tYes
    refine iteT ⟨_, rfl, p, ys, rfl, .inl (SqL.of (hS _ _ e2)), ?_⟩
    rw [e3]
    exact hY _ _ _ rfl (Same.refl _) rfl
  · intro H1 acc s1 hD2 hr2
    have hcl1 := hcl.ext s1
    refine ⟨_, rfl, cl, _, 3, _, rfl, rfl, hcl1, at3, .inr ⟨c.empty, rfl, _, rfl, cl, _, 4, _, rfl, rfl, hcl1, at4, .inr ⟨c.words, rfl, two_sz, fun l hl => ?_⟩⟩⟩
    have s2 := same_upd (o := .lst [V.int (if c.empty = true then 1 else 0), V.int (if c.words = true then 1 else 0)]) hl
    have ea : acc = [V.int (if c.empty = true then 1 else 0), V.int (if c.words = true then 1 else 0)] := by
      obtain ⟨h1, h2⟩ := hr2
      rcases acc with _ | ⟨u, _ | ⟨v, _ | ⟨z, r⟩⟩⟩ <;> simp at h1
      have q0 := h2 0 u _ rfl rfl
      have q1 := h2 1 v _ rfl rfl
      rw [q0, q1]
      cases c.empty <;> cases c.words <;> rfl
    subst ea
    refine ⟨.list [.int (if c.empty = true then 1 else 0), .int (if c.words = true then 1 else 0)], .list [.int (if c.empty = true then 1 else 0), .int (if c.words = true then 1 else 0)], .lst (SqL.of (s2 _ _ hD2)) (.cons (.int _) (.cons (.int _) .nil)), .lst (SqL.of upd_same) (.cons (.int _) (.cons (.int _) .nil)), ?_, ?_, _, rfl, ?_⟩
    · exact (shp_lst (n := 0) (by intro d hd; simp at hd; rcases hd with rfl | rfl <;> exact shp_int _)).shaped
    · exact (shp_lst (n := 0) (by intro d hd; simp at hd; rcases hd with rfl | rfl <;> exact shp_int _)).shaped
    · rw [PySem.SeqAt.eqv_refl _ (SeqAt.canLay_of_shaped (shp_lst (n := 0) (by intro d hd; simp at hd; rcases hd with rfl | rfl <;> exact shp_int _)).shaped)]
      exact iteF (q _ ((W.same s1).same s2))
end
end RA
end

section
set_option Elab.async false
set_option linter.all false
set_option autoImplicit false
set_option maxRecDepth 100000
set_option maxHeartbeats 8000000
set_option exponentiation.threshold 10000
namespace RA
open PySem PySem.Spec PyProof.Rows L2
section
variable {P : Program} {w : World} {K : PySem.W.Frag} {mg : Str → Option Value} {base : Heap}
def spLaw (K : PySem.W.Frag) : Around → Nat → List V → Hp → VK → Prop := fun A _ vs H Q => A.guards = some [] ∧ ∃ a ns, vs = [.ref a] ∧ SqL K H a ((ns : List Int).map V.int) ∧ ∀ H', Q (.bl true) H'
theorem keys_rw {H : Hp} {ts : List Tst} : ∀ {vs : List V} {cs : List Cell}, AllR (fun v e => ∃ q, v = V.ref q ∧ H q = some (.tup ((keyA (ansL ts (valueFor e))).map kV))) vs cs →
    ∃ ks : List Rw, vs = ks.map (fun p => V.ref p.1) ∧ ks.map (·.2) = cs.map (fun e => keyA (ansL ts (valueFor e))) ∧ ∀ p ∈ ks, H p.1 = some (.tup (p.2.map kV))
  | [], [], _ => ⟨[], rfl, rfl, fun p hp => by cases hp⟩
  | [], _ :: _, h => absurd h.1 (by simp)
  | _ :: _, [], h => absurd h.1 (by simp)
  | v :: vs, e :: cs, h => by
    obtain ⟨q, rfl, hq⟩ := h.2 0 v e rfl rfl
    obtain ⟨ks, rfl, h2, h3⟩ := keys_rw (vs := vs) (cs := cs) ⟨by simpa using h.1, fun i v b h1 h2 => h.2 (i + 1) v b h1 h2⟩
    refine ⟨(q, keyA (ansL ts (valueFor e))) :: ks, rfl, by simp [h2], fun p hp => ?_⟩
    rcases List.mem_cons.mp hp with rfl | hp
    · exact hq
    · exact h3 p hp
theorem ok_law {f fa : Addr} {fda : FuncData} {fd : FuncData} (F : Fun K "law" "law" sLaw f fd) (B : Bi mg) (L : LawFs P w K mg base) (ha : mg "_law_alike" = some (.ref fa)) (Fa : FnAt P w K mg base 1 fa fda ["_law_found", "_law_due"] (spAlike K)) (hka : PySem.W.keepIn K (.ref fa) = true)
    (hba : Binds K fda ["_law_found", "_law_due"] []) : FnAt P w K mg base 15 f fd ["_law_script"] (spLaw K) := by
  refine fnAt_of F scLaw (fun A n vs H Q h => ?_) (fun cdv A outer s H vs Q hr h => ?_)
  · obtain ⟨_, a, ns, rfl, _⟩ := h
    rfl
  · obtain ⟨hg, a, ns, rfl, hs, q⟩ := h
    have nd := scLaw.nd
    have hu := hu1 hr
    have hr1 : Room 1 _ := hr.mono (j := 1) (by decide)
    have hr2 : Room 2 _ := hr.mono (j := 2) (by decide)
    have hr3 : Room 3 _ := hr.mono (j := 3) (by decide)
    have hr4 : Room 4 _ := hr.mono (j := 4) (by decide)
    obtain ⟨tE, pE, qE⟩ := law_E (f := f) (cdv := cdv) (A := A) (outer := outer) (s := s) (H0 := H) B L hr
    obtain ⟨tT, pT, qT⟩ := law_T6 (P := P) (w := w) (K := K) (mg := mg) (base := base) (f := f) (cdv := cdv) (A := A) (outer := outer) (s := s) (H0 := H)
    obtain ⟨tU, pU, qU⟩ := law_T7 (P := P) (w := w) (K := K) (mg := mg) (base := base) (f := f) (cdv := cdv) (A := A) (outer := outer) (s := s) (H0 := H) B hr
    obtain ⟨tI, pI, qI⟩ := law_I (f := f) (cdv := cdv) (A := A) (outer := outer) (s := s) (H0 := H) B L ha Fa hka hba hg hr
    obtain ⟨tJ, pJ, qJ⟩ := law_J (f := f) (cdv := cdv) (A := A) (outer := outer) (s := s) (H0 := H) B L hr
    refine ⟨_, pss_cons (ps_set nd (i := 1) rfl (Or.inr rfl) (pe_f L.bag hr1 (pa_cons (pv 0) pa_nil)))
        (pss_cons (ps_for PassesOwn.never rfl (pi_range1 (by rfl) B.rng_ (pa_cons pe_int pa_nil)) (pg_name (i := 2) nd rfl (Or.inl rfl))
          (pss_cons (ps_asg (pe_tup (pa_cons (pe_f L.col hr3 (pa_cons (pv 1) pa_nil)) (pa_cons (pe_lc (own := [("_law_k", 3)]) (g := gName 3) (tt := tYes) (te := tCall (spFarTest K) [] E0 (tCons (tVar 1) tNil)) rfl nd (pi_range1 (by rfl) B.rng_ (pa_cons (pe_op op_add pe_int (pe_f L.take hr1 (pa_cons (pv 1) (pa_cons pe_int pa_nil)))) pa_nil)) (blkOk_by (N := nLaw) (sc := defScope sLaw) (by decide +kernel))
              (fun _ _ _ _ _ => pg_name (i := 3) nd rfl (Or.inl rfl)) (fun _ _ _ _ _ => pts_nil) (fun _ _ _ _ _ => pe_f L.test hr4 (pa_cons (pv 1) pa_nil))) pa_nil))) (pg_tup rfl (pgs_cons (pg_name (i := 4) nd rfl (Or.inl rfl)) (pgs_cons (pg_name (i := 5) nd rfl (Or.inr rfl)) pgs_nil))))
          (pss_cons (ps_set nd (i := 6) rfl (Or.inr rfl) (pe_f L.cells hr (pa_cons (pv 4) (pa_cons (pv 5) pa_nil))))
          (pss_cons (ps_if (pt_not (pt_val (pe_f L.right hr2 (pa_cons (pv 1) (pa_cons (pv 4) (pa_cons (pv 6) pa_nil)))))) (pss_one (ps_ret pe_bl)) pss_nil)
          (pss_cons (ps_set nd (i := 8) rfl (Or.inr rfl) (pe_lc (own := [("_law_cell", 7)]) (g := gName 7) (tt := tYes) (te := tCall (spAnsL K) [] E0 (tCons (tVar 5) (tCons (tCall (spValue K) [] E0 (tCons (tVar 7) tNil)) tNil))) rfl nd (pi_list (pv 6)) (blkOk_by (N := nLaw) (sc := defScope sLaw) (by decide +kernel))
              (fun _ _ _ _ _ => pg_name (i := 7) nd rfl (Or.inl rfl)) (fun _ _ _ _ _ => pts_nil) (fun _ _ _ _ _ => pe_f L.ans hr3 (pa_cons (pv 5) (pa_cons (pe_f L.value hr1 (pa_cons (pv 7) pa_nil)) pa_nil)))))
          (pss_cons (ps_if (pt_cmpR op_ne (pe_lenSetK rfl hu (by rfl) B.len_ (by rfl) B.set_ (pv 8)) (pe_callB call_len_seq (by rfl) B.len_ bt_len (pa_cons (pv 8) pa_nil)) (nomark _)) (pss_one (ps_ret pe_bl)) pss_nil)
          (pss_cons pE (pss_cons pT (pss_cons pU (pss_cons pI (pss_one (ps_for PassesOwn.never rfl (pi_range1 (by rfl) B.rng_ (pa_cons pe_int pa_nil)) (pg_name (i := 3) nd rfl (Or.inl rfl)) pJ))))))))))))
        (pss_one (ps_ret pe_bl))), ?_⟩
    refine ⟨_, rfl, a, ns, rfl, hs, fun b I H1 s1 hb0 hb1 => ⟨6, rfl, by decide, by decide, for_range (n := 6) (fun i σ H' => ∃ k2 k3 k4 k5 k6 k7 k8 k9 k10 k11 k12 k13 k14 k15 k16, σ = [some (.ref a), some (.ref b), k2, k3, k4, k5, k6, k7, k8, k9, k10, k11, k12, k13, k14, k15, k16, Option.none] ∧ Bag I H' b) ⟨_, _, _, _, _, _, _, _, _, _, _, _, _, _, _, rfl, hb1⟩ ?_ ?_⟩⟩
    · rintro i σ H2 _ ⟨k2, k3, k4, k5, k6, k7, k8, k9, k10, k11, k12, k13, k14, k15, k16, rfl, hb2⟩
      refine ⟨_, rfl, b, I, rfl, hb2, fun vc c H3 hvc hok s3 hb3 => ?_⟩
      refine ⟨_, rfl, b, I, 3, rfl, by decide, by decide, hb3, fun x H4 x0 x1 s4 hb4 => ⟨_, _, rfl, rfl, ?_⟩⟩
      refine ⟨_, rfl, by omega, by omega, fun D hD => ?_⟩
      refine lcB (J := Itr 0 (1 + x).toNat) (xs := (rgI 0 (1 + x).toNat).map V.int) (fun (_ : Int) (t : Tst) => okT t) (fun _ => False) (fun v i => v = V.int i) (fun H v t => TsA K H v t) (rgI 0 (1 + x).toNat)
        (fun _ _ _ c hb s h => h.b hb.lst s) (fun _ _ c _ _ e h => h.updL e) hb4 hD (rg_all _ _) (by rw [rg_len]; omega) (fun i H hi _ => by show i < _; simpa [rg_len] using hi) (fun H _ => by show _ ≤ _; simp [rg_len]) (fun i H z H' hi _ hyl => rg_yld (by simpa [rg_len] using hi) hyl) ?_ ?_
      · rintro z k H5 Y N hk rfl s5 hb5 hY hN
        refine ⟨rfl, ?_⟩
        unfold tYes
        exact iteT ⟨_, rfl, b, I, rfl, hb5, fun v t H6 ht s6 hb6 => hY v t H6 ht.1 s6 hb6 ht⟩
      · intro H5 txs ts s5 hb5 hD5 htr ho5
        have hts := lb_all (p := okT) (fun a b h => h) ho5
        have hlen : ts.length = (1 + x).toNat := by
          have e := congrArg List.length (lb_map (f := fun _ => ()) (g := fun _ => ()) (fun _ _ _ => rfl) ho5)
          simpa [rg_len] using e
        have hDb := hb4.ne hD
        have S : CSt c ts (cellsOf c ts) := CSt.of hok hts (by omega) (by intro e; rw [e] at hlen; simp at hlen; omega)
        obtain ⟨cs, hcs⟩ : ∃ cs, cs = cellsOf c ts := ⟨_, rfl⟩
        refine ⟨two_sz, fun T hT => ⟨T, _, rfl, SqT.of upd_same, rfl, _, _, rfl, _, _, rfl, rfl, ?_⟩⟩
        have s6 : Same H5 (upd H5 T (.tup [vc, .ref D])) := same_upd hT
        have hvc6 : Dp K (upd H5 T (.tup [vc, .ref D])) vc (encCol c) := Dp.same s6 (dp_b hb3.lst (s4.trans s5) rfl hvc)
        have hb6 := hb5.same s6
        have hD6 := s6 _ _ hD5
        have htr6 := htr.imp fun _ _ z => TsA.same s6 z
        generalize upd H5 T (.tup [vc, .ref D]) = H6 at s6 hvc6 hb6 hD6 htr6 ⊢
        refine ⟨_, rfl, _, rfl, vc, D, txs, c, ts, rfl, hvc6, SqL.of hD6, allR_dps2 (htr6.imp fun _ _ z => z.dp), S.ok, S.low, fun sA sxs H7 s7 hsA0 hsA hsd => ?_⟩
        rw [← hcs] at S hsd
        have hsb := hb6.ne hsA0
        refine ⟨_, rfl, _, rfl, _, rfl, .ref b, vc, sA, sxs, c, cs, rfl, Dp.same s7 hvc6, SqL.of hsA, hsd, spr_ok hok.1 S.cd S.pm, fun H8 s8 => ⟨_, rfl, iteF ?_⟩⟩
        have s68 := s7.trans s8
        have hsd8 := DpAll.same s8 hsd
        have hsA8 := s8 _ _ hsA
        refine ⟨_, rfl, sA, rfl, ⟨_, SqL.of hsA8⟩, fun hA hhA => lcR_list (fun e : Cell => some e) (fun H v e => Dp K H v (encC e)) (fun H v e => ∃ q, v = V.ref q ∧ H q = some (.tup ((keyA (ansL ts (valueFor e))).map kV))) cs (fun _ _ _ _ s ⟨q, e1, e2⟩ => ⟨q, e1, s _ _ e2⟩) (fun _ _ _ _ _ hl ⟨q, e1, e2⟩ => ⟨q, e1, by
          rw [upd_ne (by rintro rfl; rw [hl] at e2; cases e2)]
          exact e2⟩) hhA (SqL.of hsA8) ⟨by rw [DpAll.len hsd8, List.length_map], fun i v e h1 h2 => by
            obtain ⟨d, hd1, hd2⟩ := DpAll.get hsd8 h1
            rw [List.getElem?_map, h2] at hd1
            cases hd1
            exact hd2⟩ (by have := S.few; omega) ?_ ?_⟩
        · intro v e H9 Y N he hS hDn hx hY hN
          have ce := S.at he
          refine ⟨rfl, ?_⟩
          unfold tYes
          have s69 := s68.trans hS
          refine iteT ⟨_, rfl, _, rfl, v, e, rfl, Dp.same hS hx, ce.finS, fun HA sA' => ?_⟩
          have s6A := s69.trans sA'
          exact ⟨D, txs, ts, valueFor e, rfl, SqL.of (s6A _ _ hD6), htr6.imp fun _ _ z => TsA.same s6A z, by omega, bd_value hok ce, fun p HB sB hp0 hp => hY _ e _ rfl (sA'.trans sB) ⟨p, rfl, hp⟩⟩
        · intro H9 hxs s9 hA9 hrr
          rw [show (cs.filterMap fun e : Cell => some e) = cs by simp] at hrr
          have s69 := s68.trans s9
          have W : LW K b I c ts cs vc D sA hA txs sxs hxs H9 := ⟨hb6.same s69, Dp.same s69 hvc6, s69 _ _ hD6, hDb, htr6.imp fun _ _ z => TsA.same s69 z, s9 _ _ hsA8, hsb, DpAll.same s9 hsd8, hA9, (hb6.same s68).ne hhA, hrr⟩
          obtain ⟨ks, hk1, hk2, hk3⟩ := keys_rw hrr
          subst hk1
          refine ⟨_, rfl, hA, ks, rfl, SqL.of hA9, hk3, ?_, ?_, _, rfl, hA, _, rfl, .inl (SqL.of hA9), ?_⟩
          · rw [hk2]
            have := heard_nodup S.cd S.pm
            unfold List.Nodup at this ⊢
            rw [List.pairwise_map] at this ⊢
            exact this.imp fun hab e => hab (keyA_inj e)
          · have := S.few
            have e := congrArg List.length hk2
            simp at e
            omega
          · refine ⟨rfl, _, rfl, ?_⟩
            rw [int_eq, decide_eq_true (by simp)]
            refine iteF ?_
            refine qE _ _ _ _ _ _ _ _ _ _ _ _ _ _ _ _ _ _ _ _ _ _ _ _ _ _ _ S W fun H10 k7 k9 k10 k11 k12 W10 => ?_
            refine qT _ _ _ _ _ _ _ _ _ _ _ _ _ _ _ _ _ _ _ _ _ _ _ _ _ _ S W10 fun H11 TA xs W11 hTA hxs => ?_
            refine qU _ _ _ _ _ _ _ _ _ _ _ _ _ _ _ _ _ _ _ _ _ _ _ _ _ _ _ _ S W11 hTA hxs fun H12 W12 => ?_
            refine qI _ _ _ _ _ _ _ _ _ _ _ _ _ _ _ _ _ _ _ _ _ _ _ _ _ _ _ S W12 fun H13 k15 k16 W13 => ?_
            refine ⟨8, rfl, by decide, by decide, for_range (n := 8) (fun j σ H' => ∃ k3 k7 k13, σ = [some (.ref a), some (.ref b), some (.int (0 + (i : Nat))), k3, some vc, some (.ref D), some (.ref sA), k7, some (.ref hA), k9, k10, k11, k12, k13, some (.ref TA), k15, k16, Option.none] ∧ LW K b I c ts cs vc D sA hA txs sxs (ks.map fun p => V.ref p.1) H') ⟨_, _, _, rfl, W13⟩ ?_ ?_⟩
            · rintro j σ H14 _ ⟨k3, k7, k13, rfl, W14⟩
              exact qJ _ _ _ _ _ _ _ _ _ _ _ _ _ _ _ _ _ _ _ _ _ _ _ _ _ _ _ S W14 fun H15 k7 k13 W15 => ⟨_, _, _, rfl, W15⟩
            · rintro σ H14 ⟨k3, k7, k13, rfl, W14⟩
              exact ⟨_, _, _, _, _, _, _, _, _, _, _, _, _, _, _, rfl, W14.bag⟩
    · rintro σ H' ⟨k2, k3, k4, k5, k6, k7, k8, k9, k10, k11, k12, k13, k14, k15, k16, rfl, hb2⟩
      exact q _
end
end RA
end

section
set_option Elab.async false
set_option linter.all false
set_option autoImplicit false
set_option maxRecDepth 100000
set_option maxHeartbeats 4000000
namespace RA
open PySem PySem.Spec PyProof.Rows L2
/-- the tracked heap of the script alone -/
def scriptH (a : Addr) (o : Obj) (xs : List V) : Hp := fun b => if b = a then some (.frz o (.lst xs)) else Option.none
/-- the law's call behind the top, by a promise that knows what is around -/
theorem law_at {P : Program} {w : World} {K : PySem.W.Frag} {mg mb : Str → Option Value} {k : Nat} {fa a : Addr} {fd : FuncData} {x : Str} {sp : Around → Nat → List V → Hp → VK → Prop} {s1 : Shared} {vs : List Value} {ns : List Int}
    (KX : K.In s1.heap) (hns : s1.heap.Ns mainGlobals mg) (hb : s1.heap.Ns builtinsNs mb) (hbb : ∀ x : Str, x ≠ "__name__" → mb x = bootBuiltins x) (hlim : s1.heap.NoLimit) (hg : s1.gens = #[])
    (ha : s1.heap.get? a = some { cls := .type "list", data := .seq vs.toArray }) (hi : IntsAre vs ns) (hl : ns.length ≤ sizeLine) (hr : Room k callerA)
    (F : ∀ base : Heap, K.In base → base.Ns mainGlobals mg → FnAt P w K mg base k fa fd [x] sp) (hbind : ∀ (s : Shared) (u : Value), BindsTo s fd ⟨[u], []⟩ [(x, u)])
    (hsp : ∀ (H : Hp) (n : Nat), SqL K H a (ns.map V.int) → sp callerA n [.ref a] H (fun v _ => v = .bl true)) :
    codeAny (model P w) callerA (.call (.ref fa) ⟨[.ref a], []⟩) (fun r s' => r = .ok (.ret (.bool true)) ∧ OldK s1.heap s'.heap ∧ s'.os = s1.os ∧ AllBare s'.gens) s1 := by
  have rv := vals_ints hi
  have core : ∀ H : Hp, SqL K H a (ns.map V.int) → HOk P w H s1.heap → (∀ b, H b = Option.none ∨ (b = a ∧ K.lookup a = Option.none ∧ ∃ o xs, H b = some (.frz o (.lst xs)))) →
      codeAny (model P w) callerA (.call (.ref fa) ⟨[.ref a], []⟩) (fun r s' => r = .ok (.ret (.bool true)) ∧ OldK s1.heap s'.heap ∧ s'.os = s1.os ∧ AllBare s'.gens) s1 := by
    intro H hS hok hA
    have noDict : ∀ {b : Addr} {o : Obj} {es : Array DictEntry} {ep : Nat}, s1.heap.get? b = some o → o.data = .dict es ep → H b = Option.none := fun {b o es ep} e d => by
      rcases hA b with z | ⟨rfl, _⟩
      · exact z
      · rw [ha] at e
        cases e
        have d' : Data.seq vs.toArray _ = Data.dict es ep := d
        cases d'
    have toBase : ∀ {b : Addr} {m : Str → Option Value}, s1.heap.Ns b m → (hidT s1.heap H).Ns b m := fun ⟨o, es, ep, e, d, r⟩ => ⟨o, es, ep, hidT_get e (noDict e d), d, r⟩
    have KB : K.In (hidT s1.heap H) := fun b o e => hidT_get (KX b o e) (by
      rcases hA b with z | ⟨rfl, z, _⟩
      · exact z
      · rw [z] at e
        cases e)
    have M : Mod K mg (hidT s1.heap H) := ⟨KB, toBase hns, ⟨mb, toBase hb, hbb⟩, let ⟨mc, h1, h2⟩ := hlim; ⟨mc, toBase h1, h2⟩⟩
    have e0 : Env0 P w K mg (hidT s1.heap H) callerA [] s1 H := ⟨rfl, M, fun b o e => of_hidT e, Nat.le_of_eq (hidT_size _ _), trivial, fun b hb => absurd (show b ∈ ([] : List Addr) from hb) (by simp), hok, .of_eq hg⟩
    refine codeAny_mono ((F _ KB (toBase hns)).run callerA [] s1 H ⟨[.ref a], []⟩ [.ref a] [.ref a] _ hr e0 (hbind s1 (.ref a)) (.cons rfl .nil) (hsp H _ hS)) fun r s' h => ?_
    cases r with
    | error e => exact False.elim h
    | ok fl =>
      cases fl with
      | ret u =>
        obtain ⟨v, H', os, bare, un, hok', r', q⟩ := h
        have q' : v = .bl true := q
        subst q'
        obtain rfl : u = Value.bool true := r'
        refine ⟨rfl, OldK.of_keep fun b o e => ?_, os, bare⟩
        rcases hA b with z | ⟨_, _, ob, xs, z⟩
        · exact un.keep b o e z (by intro y; exact absurd (show b ∈ ([] : List Addr) from y) (by simp)) (by simp)
        · obtain ⟨e1, _⟩ := hok b _ z
          obtain ⟨e2, _⟩ := hok' b _ (un.frzs b ob _ z)
          rw [e] at e1
          cases e1
          exact e2
      | next => exact False.elim h
      | brk => exact False.elim h
      | cont => exact False.elim h
  cases hk : K.lookup a with
  | some o =>
    have e := KX a o hk
    rw [ha] at e
    cases e
    exact core (fun _ => Option.none) (.inr ⟨_, vs.toArray, _, hk, rfl, rfl, rfl, by rw [List.size_toArray, hi.length]; exact hl, by simpa using rv⟩) (fun b u z => nomatch z) fun b => .inl rfl
  | none =>
    refine core (scriptH a { cls := .type "list", data := .seq vs.toArray } (ns.map V.int)) (.inl (.inr ⟨_, if_pos rfl⟩)) (fun b u z => ?_) fun b => ?_
    · unfold scriptH at z
      split at z
      · rename_i e
        subst e
        cases z
        exact ⟨ha, by rw [List.length_map]; exact hl, vs, _, rv, ha⟩
      · cases z
    · by_cases e : b = a
      · exact .inr ⟨e, hk, _, _, if_pos e⟩
      · exact .inl (if_neg e)
/-- the goal that the head leaves -/
theorem walk_at {l : PySem.W.OpenLaw} {n k : Nat} {q : Program} {loose : List Str} {XP : (Str → Option Value) → Heap → Prop} {YP : World → Heap → Prop} {d : DefRec} {K : Params → PySem.W.Frag} {sp : PySem.W.Frag → Around → Nat → List V → Hp → VK → Prop} {x : Str}
    (hn : l.most = some n) (hn2 : n ≤ sizeLine) (hdf : d.params.defaults = []) (hr : Room k callerA) (hY : ∀ (w : World) (h : Heap), YP w h → (K w.params).In h)
    (F : ∀ (w : World) (mg : Str → Option Value) (fa : Addr) (h : Heap), (K w.params).In h → h.Ns mainGlobals mg → mg d.name = some (.ref fa) →
      ∃ fd : FuncData, (∀ (s : Shared) (u : Value), BindsTo s fd ⟨[u], []⟩ [(x, u)]) ∧ ∀ base : Heap, (K w.params).In base → base.Ns mainGlobals mg → FnAt l.prog w (K w.params) mg base k fa fd [x] (sp (K w.params)))
    (hsp : ∀ (K : PySem.W.Frag) (H : Hp) (m : Nat) (a : Addr) (ns : List Int), SqL K H a (ns.map V.int) → sp K callerA m [.ref a] H (fun v _ => v = .bl true)) :
    PySem.W.WalkO q loose XP YP l.row.toRowW d [] (fun f vs => PySem.call f vs) := by
  refine Att.attach_call hn hdf fun w s0 s1 mg mb fa o pm cd doc a vs ns G Y ho hd hcd hmg hobj hints hlen hg => ?_
  have KX := hY w _ Y
  obtain ⟨fd, hb, hF⟩ := F w mg fa _ KX G.T.g hmg
  exact law_at KX G.T.g G.T.b G.T.builtins G.T.nolimit hg hobj hints (Nat.le_trans hlen hn2) hr hF hb fun H m hS => hsp _ H m a ns hS
theorem spLaw_end (K : PySem.W.Frag) (H : Hp) (m : Nat) (a : Addr) (ns : List Int) (h : SqL K H a (ns.map V.int)) : spLaw K callerA m [.ref a] H (fun v _ => v = .bl true) := ⟨rfl, a, ns, rfl, h, fun _ => rfl⟩
end RA
end

section
set_option Elab.async false
set_option linter.all false
set_option autoImplicit false
set_option maxRecDepth 100000
set_option maxHeartbeats 8000000
namespace RA
open PySem PySem.Spec PyProof.Rows L2
theorem fd_mk {P : Program} {w : World} {K : PySem.W.Frag} {mg : Str → Option Value} {base : Heap} {x : Str} {k : Nat} {ps : List Str} {sp : Sp} {f : Addr} {fd : FuncData} (hm : mg x = some (.ref f)) (hk : PySem.W.keepIn K (.ref f) = true) (hb : Binds K fd ps []) (h : FnOk P w K mg base CX0 k f fd ps sp) : Fd P w K mg base x k ps sp := ⟨f, fd, hm, hk, hb, h⟩
theorem fdx_mk {P : Program} {w : World} {K : PySem.W.Frag} {mg : Str → Option Value} {base : Heap} {x : Str} {k : Nat} {ps : List Str} {sp : Sp} {f : Addr} {fd : FuncData} (hm : mg x = some (.ref f)) (hk : PySem.W.keepIn K (.ref f) = true) (hb : Binds K fd ps []) (h : FnOk P w K mg base (L2.CX P w) k f fd ps sp) : FdX P w K mg base x k ps sp := ⟨f, fd, hm, hk, hb, h⟩
theorem all_mk {P : Program} {w : World} {K : PySem.W.Frag} {h : Heap} {mg : Str → Option Value} {fa C CE tA f0 f1 f2 f3 f4 f5 f6 f7 f8 f9 f10 f11 f12 f13 f14 f15 f16 f17 f18 f19 f20 f21 f22 f23 f24 f25 f26 f27 f28 f29 f30 f31 f32 f33 f34 f35 f36 f37 f38 f39 f40 f41 f42 f43 f44 f45 f46 f47 f48 f49 f50 f51 f52 f53 f54 f55 f56 f57 f58 f59 f60 : Addr} (X : K.In h) (G : h.Ns mainGlobals mg) (hfa : mg "law" = some (.ref fa))
    {nm q : Str} {N AE : Addr} {bs : List Value} {sn : List Str} {sub : List Value} {ab : Bool} {col : Option Bool} {dd odA : Option Addr} {m0 m1 m2 m3 m5 : Option Value} {t1 t2 t3 t4 tW : Tok} {nA : Nat} {slA : Array (Option Value)}
    {od0 an0 : Option Addr} {sl0 : Array (Option Value)} {oc0 kV0 dc0 pm0 cd0 ct0 : Value}
    {od1 an1 : Option Addr} {sl1 : Array (Option Value)} {oc1 kV1 dc1 pm1 cd1 ct1 : Value}
    {od2 an2 : Option Addr} {sl2 : Array (Option Value)} {oc2 kV2 dc2 pm2 cd2 ct2 : Value}
    {od3 an3 : Option Addr} {sl3 : Array (Option Value)} {oc3 kV3 dc3 pm3 cd3 ct3 : Value}
    {od4 an4 : Option Addr} {sl4 : Array (Option Value)} {oc4 kV4 dc4 pm4 cd4 ct4 : Value}
    {od5 an5 : Option Addr} {sl5 : Array (Option Value)} {oc5 kV5 dc5 pm5 cd5 ct5 : Value}
    {od6 an6 : Option Addr} {sl6 : Array (Option Value)} {oc6 kV6 dc6 pm6 cd6 ct6 : Value}
    {od7 an7 : Option Addr} {sl7 : Array (Option Value)} {oc7 kV7 dc7 pm7 cd7 ct7 : Value}
    {od8 an8 : Option Addr} {sl8 : Array (Option Value)} {oc8 kV8 dc8 pm8 cd8 ct8 : Value}
    {od9 an9 : Option Addr} {sl9 : Array (Option Value)} {oc9 kV9 dc9 pm9 cd9 ct9 : Value}
    {od10 an10 : Option Addr} {sl10 : Array (Option Value)} {oc10 kV10 dc10 pm10 cd10 ct10 : Value}
    {od11 an11 : Option Addr} {sl11 : Array (Option Value)} {oc11 kV11 dc11 pm11 cd11 ct11 : Value}
    {od12 an12 : Option Addr} {sl12 : Array (Option Value)} {oc12 kV12 dc12 pm12 cd12 ct12 : Value}
    {od13 an13 : Option Addr} {sl13 : Array (Option Value)} {oc13 kV13 dc13 pm13 cd13 ct13 : Value}
    {od14 an14 : Option Addr} {sl14 : Array (Option Value)} {oc14 kV14 dc14 pm14 cd14 ct14 : Value}
    {od15 an15 : Option Addr} {sl15 : Array (Option Value)} {oc15 kV15 dc15 pm15 cd15 ct15 : Value}
    {od16 an16 : Option Addr} {sl16 : Array (Option Value)} {oc16 kV16 dc16 pm16 cd16 ct16 : Value}
    {od17 an17 : Option Addr} {sl17 : Array (Option Value)} {oc17 kV17 dc17 pm17 cd17 ct17 : Value}
    {od18 an18 : Option Addr} {sl18 : Array (Option Value)} {oc18 kV18 dc18 pm18 cd18 ct18 : Value}
    {od19 an19 : Option Addr} {sl19 : Array (Option Value)} {oc19 kV19 dc19 pm19 cd19 ct19 : Value}
    {od20 an20 : Option Addr} {sl20 : Array (Option Value)} {oc20 kV20 dc20 pm20 cd20 ct20 : Value}
    {od21 an21 : Option Addr} {sl21 : Array (Option Value)} {oc21 kV21 dc21 pm21 cd21 ct21 : Value}
    {od22 an22 : Option Addr} {sl22 : Array (Option Value)} {oc22 kV22 dc22 pm22 cd22 ct22 : Value}
    {od23 an23 : Option Addr} {sl23 : Array (Option Value)} {oc23 kV23 dc23 pm23 cd23 ct23 : Value}
    {od24 an24 : Option Addr} {sl24 : Array (Option Value)} {oc24 kV24 dc24 pm24 cd24 ct24 : Value}
    {od25 an25 : Option Addr} {sl25 : Array (Option Value)} {oc25 kV25 dc25 pm25 cd25 ct25 : Value}
    {od26 an26 : Option Addr} {sl26 : Array (Option Value)} {oc26 kV26 dc26 pm26 cd26 ct26 : Value}
    {od27 an27 : Option Addr} {sl27 : Array (Option Value)} {oc27 kV27 dc27 pm27 cd27 ct27 : Value}
    {od28 an28 : Option Addr} {sl28 : Array (Option Value)} {oc28 kV28 dc28 pm28 cd28 ct28 : Value}
    {od29 an29 : Option Addr} {sl29 : Array (Option Value)} {oc29 kV29 dc29 pm29 cd29 ct29 : Value}
    {od30 an30 : Option Addr} {sl30 : Array (Option Value)} {oc30 kV30 dc30 pm30 cd30 ct30 : Value}
    {od31 an31 : Option Addr} {sl31 : Array (Option Value)} {oc31 kV31 dc31 pm31 cd31 ct31 : Value}
    {od32 an32 : Option Addr} {sl32 : Array (Option Value)} {oc32 kV32 dc32 pm32 cd32 ct32 : Value}
    {od33 an33 : Option Addr} {sl33 : Array (Option Value)} {oc33 kV33 dc33 pm33 cd33 ct33 : Value}
    {od34 an34 : Option Addr} {sl34 : Array (Option Value)} {oc34 kV34 dc34 pm34 cd34 ct34 : Value}
    {od35 an35 : Option Addr} {sl35 : Array (Option Value)} {oc35 kV35 dc35 pm35 cd35 ct35 : Value}
    {od36 an36 : Option Addr} {sl36 : Array (Option Value)} {oc36 kV36 dc36 pm36 cd36 ct36 : Value}
    {od37 an37 : Option Addr} {sl37 : Array (Option Value)} {oc37 kV37 dc37 pm37 cd37 ct37 : Value}
    {od38 an38 : Option Addr} {sl38 : Array (Option Value)} {oc38 kV38 dc38 pm38 cd38 ct38 : Value}
    {od39 an39 : Option Addr} {sl39 : Array (Option Value)} {oc39 kV39 dc39 pm39 cd39 ct39 : Value}
    {od40 an40 : Option Addr} {sl40 : Array (Option Value)} {oc40 kV40 dc40 pm40 cd40 ct40 : Value}
    {od41 an41 : Option Addr} {sl41 : Array (Option Value)} {oc41 kV41 dc41 pm41 cd41 ct41 : Value}
    {od42 an42 : Option Addr} {sl42 : Array (Option Value)} {oc42 kV42 dc42 pm42 cd42 ct42 : Value}
    {od43 an43 : Option Addr} {sl43 : Array (Option Value)} {oc43 kV43 dc43 pm43 cd43 ct43 : Value}
    {od44 an44 : Option Addr} {sl44 : Array (Option Value)} {oc44 kV44 dc44 pm44 cd44 ct44 : Value}
    {od45 an45 : Option Addr} {sl45 : Array (Option Value)} {oc45 kV45 dc45 pm45 cd45 ct45 : Value}
    {od46 an46 : Option Addr} {sl46 : Array (Option Value)} {oc46 kV46 dc46 pm46 cd46 ct46 : Value}
    {od47 an47 : Option Addr} {sl47 : Array (Option Value)} {oc47 kV47 dc47 pm47 cd47 ct47 : Value}
    {od48 an48 : Option Addr} {sl48 : Array (Option Value)} {oc48 kV48 dc48 pm48 cd48 ct48 : Value}
    {od49 an49 : Option Addr} {sl49 : Array (Option Value)} {oc49 kV49 dc49 pm49 cd49 ct49 : Value}
    {od50 an50 : Option Addr} {sl50 : Array (Option Value)} {oc50 kV50 dc50 pm50 cd50 ct50 : Value}
    {od51 an51 : Option Addr} {sl51 : Array (Option Value)} {oc51 kV51 dc51 pm51 cd51 ct51 : Value}
    {od52 an52 : Option Addr} {sl52 : Array (Option Value)} {oc52 kV52 dc52 pm52 cd52 ct52 : Value}
    {od53 an53 : Option Addr} {sl53 : Array (Option Value)} {oc53 kV53 dc53 pm53 cd53 ct53 : Value}
    {od54 an54 : Option Addr} {sl54 : Array (Option Value)} {oc54 kV54 dc54 pm54 cd54 ct54 : Value}
    {od55 an55 : Option Addr} {sl55 : Array (Option Value)} {oc55 kV55 dc55 pm55 cd55 ct55 : Value}
    {od56 an56 : Option Addr} {sl56 : Array (Option Value)} {oc56 kV56 dc56 pm56 cd56 ct56 : Value}
    {od57 an57 : Option Addr} {sl57 : Array (Option Value)} {oc57 kV57 dc57 pm57 cd57 ct57 : Value}
    {od58 an58 : Option Addr} {sl58 : Array (Option Value)} {oc58 kV58 dc58 pm58 cd58 ct58 : Value}
    {od59 an59 : Option Addr} {sl59 : Array (Option Value)} {oc59 kV59 dc59 pm59 cd59 ct59 : Value}
    {od60 an60 : Option Addr} {sl60 : Array (Option Value)} {oc60 kV60 dc60 pm60 cd60 ct60 : Value}
    (aC : PySem.W.nsIn K mainGlobals "Spans" = some (some (.ref C)))
    (aE : PySem.W.nsIn K mainGlobals "Errs" = some (some (.ref CE)))
    (a0 : PySem.W.nsIn K mainGlobals "is_integer" = some (some (.ref f0)))
    (l0 : K.lookup f0 = some ⟨oc0, od0, .func (PySem.W.fnOf "is_integer" "is_integer" (defArgs sIsInt) (defBody sIsInt) (defScope sIsInt) .none kV0 dc0 pm0 an0 cd0 ct0), sl0⟩)
    (c0 : PySem.W.codeIn K cd0 "is_integer" = true)
    (k0 : PySem.W.keepIn K (.ref f0) = true)
    (a1 : PySem.W.nsIn K mainGlobals "is_end" = some (some (.ref f1)))
    (l1 : K.lookup f1 = some ⟨oc1, od1, .func (PySem.W.fnOf "is_end" "is_end" (defArgs sIsEnd) (defBody sIsEnd) (defScope sIsEnd) .none kV1 dc1 pm1 an1 cd1 ct1), sl1⟩)
    (c1 : PySem.W.codeIn K cd1 "is_end" = true)
    (k1 : PySem.W.keepIn K (.ref f1) = true)
    (a2 : PySem.W.nsIn K mainGlobals "is_pair" = some (some (.ref f2)))
    (l2 : K.lookup f2 = some ⟨oc2, od2, .func (PySem.W.fnOf "is_pair" "is_pair" (defArgs sIsPair) (defBody sIsPair) (defScope sIsPair) .none kV2 dc2 pm2 an2 cd2 ct2), sl2⟩)
    (c2 : PySem.W.codeIn K cd2 "is_pair" = true)
    (k2 : PySem.W.keepIn K (.ref f2) = true)
    (a3 : PySem.W.nsIn K mainGlobals "low_key" = some (some (.ref f3)))
    (l3 : K.lookup f3 = some ⟨oc3, od3, .func (PySem.W.fnOf "low_key" "low_key" (defArgs sLow) (defBody sLow) (defScope sLow) .none kV3 dc3 pm3 an3 cd3 ct3), sl3⟩)
    (c3 : PySem.W.codeIn K cd3 "low_key" = true)
    (k3 : PySem.W.keepIn K (.ref f3) = true)
    (a4 : PySem.W.nsIn K mainGlobals "later_end" = some (some (.ref f4)))
    (l4 : K.lookup f4 = some ⟨oc4, od4, .func (PySem.W.fnOf "later_end" "later_end" (defArgs sLater) (defBody sLater) (defScope sLater) .none kV4 dc4 pm4 an4 cd4 ct4), sl4⟩)
    (c4 : PySem.W.codeIn K cd4 "later_end" = true)
    (k4 : PySem.W.keepIn K (.ref f4) = true)
    (a5 : PySem.W.nsIn K mainGlobals "merged" = some (some (.ref f5)))
    (l5 : K.lookup f5 = some ⟨oc5, od5, .func (PySem.W.fnOf "merged" "merged" (defArgs sMerged) (defBody sMerged) (defScope sMerged) .none kV5 dc5 pm5 an5 cd5 ct5), sl5⟩)
    (c5 : PySem.W.codeIn K cd5 "merged" = true)
    (k5 : PySem.W.keepIn K (.ref f5) = true)
    (a6 : PySem.W.nsIn K mainGlobals "met_spans" = some (some (.ref f6)))
    (l6 : K.lookup f6 = some ⟨oc6, od6, .func (PySem.W.fnOf "met" "met" (defArgs sMet) (defBody sMet) (defScope sMet) .none kV6 dc6 pm6 an6 cd6 ct6), sl6⟩)
    (c6 : PySem.W.codeIn K cd6 "met" = true)
    (k6 : PySem.W.keepIn K (.ref f6) = true)
    (a7 : PySem.W.nsIn K mainGlobals "met_any" = some (some (.ref f7)))
    (l7 : K.lookup f7 = some ⟨oc7, od7, .func (PySem.W.fnOf "met_any" "met_any" (defArgs sMetAny) (defBody sMetAny) (defScope sMetAny) .none kV7 dc7 pm7 an7 cd7 ct7), sl7⟩)
    (c7 : PySem.W.codeIn K cd7 "met_any" = true)
    (k7 : PySem.W.keepIn K (.ref f7) = true)
    (a8 : PySem.W.nsIn K mainGlobals "gaps_in" = some (some (.ref f8)))
    (l8 : K.lookup f8 = some ⟨oc8, od8, .func (PySem.W.fnOf "gaps_in" "gaps_in" (defArgs sGaps) (defBody sGaps) (defScope sGaps) .none kV8 dc8 pm8 an8 cd8 ct8), sl8⟩)
    (c8 : PySem.W.codeIn K cd8 "gaps_in" = true)
    (k8 : PySem.W.keepIn K (.ref f8) = true)
    (a9 : PySem.W.findIn K (.ref C) "__init__" = some (some (.ref f9)))
    (i9 : PySem.W.isFn K (.ref f9) = true)
    (l9 : K.lookup f9 = some ⟨oc9, od9, .func (PySem.W.fnOf "__init__" "Spans.__init__" (defArgs sInit) (defBody sInit) (defScope sInit) .none kV9 dc9 pm9 an9 cd9 ct9), sl9⟩)
    (c9 : PySem.W.codeIn K cd9 "Spans.__init__" = true)
    (k9 : PySem.W.keepIn K (.ref f9) = true)
    (a10 : PySem.W.findIn K (.ref C) "__len__" = some (some (.ref f10)))
    (i10 : PySem.W.isFn K (.ref f10) = true)
    (l10 : K.lookup f10 = some ⟨oc10, od10, .func (PySem.W.fnOf "__len__" "Spans.__len__" (defArgs sLen) (defBody sLen) (defScope sLen) .none kV10 dc10 pm10 an10 cd10 ct10), sl10⟩)
    (c10 : PySem.W.codeIn K cd10 "Spans.__len__" = true)
    (k10 : PySem.W.keepIn K (.ref f10) = true)
    (a11 : PySem.W.findIn K (.ref C) "pairs" = some (some (.ref f11)))
    (i11 : PySem.W.isFn K (.ref f11) = true)
    (l11 : K.lookup f11 = some ⟨oc11, od11, .func (PySem.W.fnOf "pairs" "Spans.pairs" (defArgs sPairs) (defBody sPairs) (defScope sPairs) .none kV11 dc11 pm11 an11 cd11 ct11), sl11⟩)
    (c11 : PySem.W.codeIn K cd11 "Spans.pairs" = true)
    (k11 : PySem.W.keepIn K (.ref f11) = true)
    (a12 : PySem.W.findIn K (.ref C) "__iter__" = some (some (.ref f12)))
    (i12 : PySem.W.isFn K (.ref f12) = true)
    (l12 : K.lookup f12 = some ⟨oc12, od12, .func (PySem.W.fnOf "__iter__" "Spans.__iter__" (defArgs sIter) (defBody sIter) (defScope sIter) .none kV12 dc12 pm12 an12 cd12 ct12), sl12⟩)
    (c12 : PySem.W.codeIn K cd12 "Spans.__iter__" = true)
    (k12 : PySem.W.keepIn K (.ref f12) = true)
    (a13 : PySem.W.findIn K (.ref C) "__contains__" = some (some (.ref f13)))
    (i13 : PySem.W.isFn K (.ref f13) = true)
    (l13 : K.lookup f13 = some ⟨oc13, od13, .func (PySem.W.fnOf "__contains__" "Spans.__contains__" (defArgs sIn) (defBody sIn) (defScope sIn) .none kV13 dc13 pm13 an13 cd13 ct13), sl13⟩)
    (c13 : PySem.W.codeIn K cd13 "Spans.__contains__" = true)
    (k13 : PySem.W.keepIn K (.ref f13) = true)
    (a14 : PySem.W.findIn K (.ref C) "__or__" = some (some (.ref f14)))
    (i14 : PySem.W.isFn K (.ref f14) = true)
    (l14 : K.lookup f14 = some ⟨oc14, od14, .func (PySem.W.fnOf "__or__" "Spans.__or__" (defArgs sOr) (defBody sOr) (defScope sOr) .none kV14 dc14 pm14 an14 cd14 ct14), sl14⟩)
    (c14 : PySem.W.codeIn K cd14 "Spans.__or__" = true)
    (k14 : PySem.W.keepIn K (.ref f14) = true)
    (a15 : PySem.W.findIn K (.ref C) "__and__" = some (some (.ref f15)))
    (i15 : PySem.W.isFn K (.ref f15) = true)
    (l15 : K.lookup f15 = some ⟨oc15, od15, .func (PySem.W.fnOf "__and__" "Spans.__and__" (defArgs sAnd) (defBody sAnd) (defScope sAnd) .none kV15 dc15 pm15 an15 cd15 ct15), sl15⟩)
    (c15 : PySem.W.codeIn K cd15 "Spans.__and__" = true)
    (k15 : PySem.W.keepIn K (.ref f15) = true)
    (a16 : PySem.W.findIn K (.ref C) "__invert__" = some (some (.ref f16)))
    (i16 : PySem.W.isFn K (.ref f16) = true)
    (l16 : K.lookup f16 = some ⟨oc16, od16, .func (PySem.W.fnOf "__invert__" "Spans.__invert__" (defArgs sInv) (defBody sInv) (defScope sInv) .none kV16 dc16 pm16 an16 cd16 ct16), sl16⟩)
    (c16 : PySem.W.codeIn K cd16 "Spans.__invert__" = true)
    (k16 : PySem.W.keepIn K (.ref f16) = true)
    (a17 : PySem.W.findIn K (.ref CE) "__init__" = some (some (.ref f17)))
    (i17 : PySem.W.typeIn K (.ref f17) = some (.type "function"))
    (l17 : K.lookup f17 = some ⟨oc17, od17, .func (PySem.W.fnOf "__init__" "Errs.__init__" (defArgs sErrI) (defBody sErrI) (defScope sErrI) .none kV17 dc17 pm17 an17 cd17 ct17), sl17⟩)
    (c17 : PySem.W.codeIn K cd17 "Errs.__init__" = true)
    (k17 : PySem.W.keepIn K (.ref f17) = true)
    (a18 : PySem.W.nsIn K mainGlobals "step_on" = some (some (.ref f18)))
    (l18 : K.lookup f18 = some ⟨oc18, od18, .func (PySem.W.fnOf "step_on" "step_on" (defArgs sStepOn) (defBody sStepOn) (defScope sStepOn) .none kV18 dc18 pm18 an18 cd18 ct18), sl18⟩)
    (c18 : PySem.W.codeIn K cd18 "step_on" = true)
    (k18 : PySem.W.keepIn K (.ref f18) = true)
    (a19 : PySem.W.nsIn K mainGlobals "steps_on" = some (some (.ref f19)))
    (l19 : K.lookup f19 = some ⟨oc19, od19, .func (PySem.W.fnOf "steps_on" "steps_on" (defArgs sStepsOn) (defBody sStepsOn) (defScope sStepsOn) .none kV19 dc19 pm19 an19 cd19 ct19), sl19⟩)
    (c19 : PySem.W.codeIn K cd19 "steps_on" = true)
    (k19 : PySem.W.keepIn K (.ref f19) = true)
    (a20 : PySem.W.nsIn K mainGlobals "raised" = some (some (.ref f20)))
    (l20 : K.lookup f20 = some ⟨oc20, od20, .func (PySem.W.fnOf "raised" "raised" (defArgs sRaised) (defBody sRaised) (defScope sRaised) .none kV20 dc20 pm20 an20 cd20 ct20), sl20⟩)
    (c20 : PySem.W.codeIn K cd20 "raised" = true)
    (k20 : PySem.W.keepIn K (.ref f20) = true)
    (a21 : PySem.W.nsIn K mainGlobals "over_up" = some (some (.ref f21)))
    (l21 : K.lookup f21 = some ⟨oc21, od21, .func (PySem.W.fnOf "over_up" "over_up" (defArgs sOverUp) (defBody sOverUp) (defScope sOverUp) .none kV21 dc21 pm21 an21 cd21 ct21), sl21⟩)
    (c21 : PySem.W.codeIn K cd21 "over_up" = true)
    (k21 : PySem.W.keepIn K (.ref f21) = true)
    (a22 : PySem.W.nsIn K mainGlobals "mirrored" = some (some (.ref f22)))
    (l22 : K.lookup f22 = some ⟨oc22, od22, .func (PySem.W.fnOf "mirrored" "mirrored" (defArgs sMirr) (defBody sMirr) (defScope sMirr) .none kV22 dc22 pm22 an22 cd22 ct22), sl22⟩)
    (c22 : PySem.W.codeIn K cd22 "mirrored" = true)
    (k22 : PySem.W.keepIn K (.ref f22) = true)
    (a23 : PySem.W.nsIn K mainGlobals "into_ends" = some (some (.ref f23)))
    (l23 : K.lookup f23 = some ⟨oc23, od23, .func (PySem.W.fnOf "into_ends" "into_ends" (defArgs sInto) (defBody sInto) (defScope sInto) .none kV23 dc23 pm23 an23 cd23 ct23), sl23⟩)
    (c23 : PySem.W.codeIn K cd23 "into_ends" = true)
    (k23 : PySem.W.keepIn K (.ref f23) = true)
    (a24 : PySem.W.nsIn K mainGlobals "before_times" = some (some (.ref f24)))
    (l24 : K.lookup f24 = some ⟨oc24, od24, .func (PySem.W.fnOf "before_times" "before_times" (defArgs sTimes) (defBody sTimes) (defScope sTimes) .none kV24 dc24 pm24 an24 cd24 ct24), sl24⟩)
    (c24 : PySem.W.codeIn K cd24 "before_times" = true)
    (k24 : PySem.W.keepIn K (.ref f24) = true)
    (a25 : PySem.W.nsIn K mainGlobals "before_over" = some (some (.ref f25)))
    (l25 : K.lookup f25 = some ⟨oc25, od25, .func (PySem.W.fnOf "before_over" "before_over" (defArgs sOver) (defBody sOver) (defScope sOver) .none kV25 dc25 pm25 an25 cd25 ct25), sl25⟩)
    (c25 : PySem.W.codeIn K cd25 "before_over" = true)
    (k25 : PySem.W.keepIn K (.ref f25) = true)
    (a26 : PySem.W.nsIn K mainGlobals "before_one" = some (some (.ref f26)))
    (l26 : K.lookup f26 = some ⟨oc26, od26, .func (PySem.W.fnOf "before_one" "before_one" (defArgs sBOne) (defBody sBOne) (defScope sBOne) .none kV26 dc26 pm26 an26 cd26 ct26), sl26⟩)
    (c26 : PySem.W.codeIn K cd26 "before_one" = true)
    (k26 : PySem.W.keepIn K (.ref f26) = true)
    (a27 : PySem.W.nsIn K mainGlobals "erring_at" = some (some (.ref f27)))
    (l27 : K.lookup f27 = some ⟨oc27, od27, .func (PySem.W.fnOf "erring_at" "erring_at" (defArgs sEat) (defBody sEat) (defScope sEat) .none kV27 dc27 pm27 an27 cd27 ct27), sl27⟩)
    (c27 : PySem.W.codeIn K cd27 "erring_at" = true)
    (k27 : PySem.W.keepIn K (.ref f27) = true)
    (a28 : PySem.W.nsIn K mainGlobals "before" = some (some (.ref f28)))
    (l28 : K.lookup f28 = some ⟨oc28, od28, .func (PySem.W.fnOf "before" "before" (defArgs sBefore) (defBody sBefore) (defScope sBefore) .none kV28 dc28 pm28 an28 cd28 ct28), sl28⟩)
    (c28 : PySem.W.codeIn K cd28 "before" = true)
    (k28 : PySem.W.keepIn K (.ref f28) = true)
    (a29 : PySem.W.nsIn K mainGlobals "erring" = some (some (.ref f29)))
    (l29 : K.lookup f29 = some ⟨oc29, od29, .func (PySem.W.fnOf "erring" "erring" (defArgs sErring) (defBody sErring) (defScope sErring) .none kV29 dc29 pm29 an29 cd29 ct29), sl29⟩)
    (c29 : PySem.W.codeIn K cd29 "erring" = true)
    (k29 : PySem.W.keepIn K (.ref f29) = true)
    (a30 : PySem.W.nsIn K mainGlobals "holding" = some (some (.ref f30)))
    (l30 : K.lookup f30 = some ⟨oc30, od30, .func (PySem.W.fnOf "holding" "holding" (defArgs sHold) (defBody sHold) (defScope sHold) .none kV30 dc30 pm30 an30 cd30 ct30), sl30⟩)
    (c30 : PySem.W.codeIn K cd30 "holding" = true)
    (k30 : PySem.W.keepIn K (.ref f30) = true)
    (a31 : PySem.W.nsIn K mainGlobals "is_so" = some (some (.ref f31)))
    (l31 : K.lookup f31 = some ⟨oc31, od31, .func (PySem.W.fnOf "is_so" "is_so" (defArgs sIsSo) (defBody sIsSo) (defScope sIsSo) .none kV31 dc31 pm31 an31 cd31 ct31), sl31⟩)
    (c31 : PySem.W.codeIn K cd31 "is_so" = true)
    (k31 : PySem.W.keepIn K (.ref f31) = true)
    (a32 : PySem.W.nsIn K mainGlobals "number_answer" = some (some (.ref f32)))
    (l32 : K.lookup f32 = some ⟨oc32, od32, .func (PySem.W.fnOf "number_answer" "number_answer" (defArgs sNumAns) (defBody sNumAns) (defScope sNumAns) .none kV32 dc32 pm32 an32 cd32 ct32), sl32⟩)
    (c32 : PySem.W.codeIn K cd32 "number_answer" = true)
    (k32 : PySem.W.keepIn K (.ref f32) = true)
    (a33 : PySem.W.nsIn K mainGlobals "test_answer" = some (some (.ref f33)))
    (l33 : K.lookup f33 = some ⟨oc33, od33, .func (PySem.W.fnOf "test_answer" "test_answer" (defArgs sTestAns) (defBody sTestAns) (defScope sTestAns) .none kV33 dc33 pm33 an33 cd33 ct33), sl33⟩)
    (c33 : PySem.W.codeIn K cd33 "test_answer" = true)
    (k33 : PySem.W.keepIn K (.ref f33) = true)
    (a34 : PySem.W.nsIn K mainGlobals "answers_at" = some (some (.ref f34)))
    (l34 : K.lookup f34 = some ⟨oc34, od34, .func (PySem.W.fnOf "answers_at" "answers_at" (defArgs sAnsAt) (defBody sAnsAt) (defScope sAnsAt) .none kV34 dc34 pm34 an34 cd34 ct34), sl34⟩)
    (c34 : PySem.W.codeIn K cd34 "answers_at" = true)
    (k34 : PySem.W.keepIn K (.ref f34) = true)
    (a35 : PySem.W.nsIn K mainGlobals "told" = some (some (.ref f35)))
    (l35 : K.lookup f35 = some ⟨oc35, od35, .func (PySem.W.fnOf "told" "told" (defArgs sTold) (defBody sTold) (defScope sTold) .none kV35 dc35 pm35 an35 cd35 ct35), sl35⟩)
    (c35 : PySem.W.codeIn K cd35 "told" = true)
    (k35 : PySem.W.keepIn K (.ref f35) = true)
    (a36 : PySem.W.nsIn K mainGlobals "number_lots" = some (some (.ref f36)))
    (l36 : K.lookup f36 = some ⟨oc36, od36, .func (PySem.W.fnOf "number_lots" "number_lots" (defArgs sLots) (defBody sLots) (defScope sLots) .none kV36 dc36 pm36 an36 cd36 ct36), sl36⟩)
    (c36 : PySem.W.codeIn K cd36 "number_lots" = true)
    (k36 : PySem.W.keepIn K (.ref f36) = true)
    (a37 : PySem.W.nsIn K mainGlobals "lots_by_answers" = some (some (.ref f37)))
    (l37 : K.lookup f37 = some ⟨oc37, od37, .func (PySem.W.fnOf "lots_by_answers" "lots_by_answers" (defArgs sLotsBy) (defBody sLotsBy) (defScope sLotsBy) .none kV37 dc37 pm37 an37 cd37 ct37), sl37⟩)
    (c37 : PySem.W.codeIn K cd37 "lots_by_answers" = true)
    (k37 : PySem.W.keepIn K (.ref f37) = true)
    (a38 : PySem.W.nsIn K mainGlobals "cell_rank" = some (some (.ref f38)))
    (l38 : K.lookup f38 = some ⟨oc38, od38, .func (PySem.W.fnOf "cell_rank" "cell_rank" (defArgs sRank) (defBody sRank) (defScope sRank) .none kV38 dc38 pm38 an38 cd38 ct38), sl38⟩)
    (c38 : PySem.W.codeIn K cd38 "cell_rank" = true)
    (k38 : PySem.W.keepIn K (.ref f38) = true)
    (a39 : PySem.W.nsIn K mainGlobals "cells_of" = some (some (.ref f39)))
    (l39 : K.lookup f39 = some ⟨oc39, od39, .func (PySem.W.fnOf "cells_of" "cells_of" (defArgs sCells) (defBody sCells) (defScope sCells) .none kV39 dc39 pm39 an39 cd39 ct39), sl39⟩)
    (c39 : PySem.W.codeIn K cd39 "cells_of" = true)
    (k39 : PySem.W.keepIn K (.ref f39) = true)
    (a40 : PySem.W.nsIn K mainGlobals "cell_of" = some (some (.ref f40)))
    (l40 : K.lookup f40 = some ⟨oc40, od40, .func (PySem.W.fnOf "cell_of" "cell_of" (defArgs sCellOf) (defBody sCellOf) (defScope sCellOf) .none kV40 dc40 pm40 an40 cd40 ct40), sl40⟩)
    (c40 : PySem.W.codeIn K cd40 "cell_of" = true)
    (k40 : PySem.W.keepIn K (.ref f40) = true)
    (a41 : PySem.W.nsIn K mainGlobals "is_in" = some (some (.ref f41)))
    (l41 : K.lookup f41 = some ⟨oc41, od41, .func (PySem.W.fnOf "is_in" "is_in" (defArgs sIsIn) (defBody sIsIn) (defScope sIsIn) .none kV41 dc41 pm41 an41 cd41 ct41), sl41⟩)
    (c41 : PySem.W.codeIn K cd41 "is_in" = true)
    (k41 : PySem.W.keepIn K (.ref f41) = true)
    (a42 : PySem.W.nsIn K mainGlobals "value_for" = some (some (.ref f42)))
    (l42 : K.lookup f42 = some ⟨oc42, od42, .func (PySem.W.fnOf "value_for" "value_for" (defArgs sValue) (defBody sValue) (defScope sValue) .none kV42 dc42 pm42 an42 cd42 ct42), sl42⟩)
    (c42 : PySem.W.codeIn K cd42 "value_for" = true)
    (k42 : PySem.W.keepIn K (.ref f42) = true)
    (a43 : PySem.W.nsIn K mainGlobals "many_in" = some (some (.ref f43)))
    (l43 : K.lookup f43 = some ⟨oc43, od43, .func (PySem.W.fnOf "many_in" "many_in" (defArgs sMany) (defBody sMany) (defScope sMany) .none kV43 dc43 pm43 an43 cd43 ct43), sl43⟩)
    (c43 : PySem.W.codeIn K cd43 "many_in" = true)
    (k43 : PySem.W.keepIn K (.ref f43) = true)
    (a44 : PySem.W.nsIn K mainGlobals "met_cells" = some (some (.ref f44)))
    (l44 : K.lookup f44 = some ⟨oc44, od44, .func (PySem.W.fnOf "met" "met" (defArgs sMetC) (defBody sMetC) (defScope sMetC) .none kV44 dc44 pm44 an44 cd44 ct44), sl44⟩)
    (c44 : PySem.W.codeIn K cd44 "met" = true)
    (k44 : PySem.W.keepIn K (.ref f44) = true)
    (a45 : PySem.W.nsIn K mainGlobals "_law_bag" = some (some (.ref f45)))
    (l45 : K.lookup f45 = some ⟨oc45, od45, .func (PySem.W.fnOf "_law_bag" "_law_bag" (defArgs sBag) (defBody sBag) (defScope sBag) .none kV45 dc45 pm45 an45 cd45 ct45), sl45⟩)
    (c45 : PySem.W.codeIn K cd45 "_law_bag" = true)
    (k45 : PySem.W.keepIn K (.ref f45) = true)
    (a46 : PySem.W.nsIn K mainGlobals "_law_take" = some (some (.ref f46)))
    (l46 : K.lookup f46 = some ⟨oc46, od46, .func (PySem.W.fnOf "_law_take" "_law_take" (defArgs sTake) (defBody sTake) (defScope sTake) .none kV46 dc46 pm46 an46 cd46 ct46), sl46⟩)
    (c46 : PySem.W.codeIn K cd46 "_law_take" = true)
    (k46 : PySem.W.keepIn K (.ref f46) = true)
    (a47 : PySem.W.nsIn K mainGlobals "_law_alike" = some (some (.ref f47)))
    (l47 : K.lookup f47 = some ⟨oc47, od47, .func (PySem.W.fnOf "_law_alike" "_law_alike" (defArgs sAlike) (defBody sAlike) (defScope sAlike) .none kV47 dc47 pm47 an47 cd47 ct47), sl47⟩)
    (c47 : PySem.W.codeIn K cd47 "_law_alike" = true)
    (k47 : PySem.W.keepIn K (.ref f47) = true)
    (a48 : PySem.W.nsIn K mainGlobals "_law_one" = some (some (.ref f48)))
    (l48 : K.lookup f48 = some ⟨oc48, od48, .func (PySem.W.fnOf "_law_one" "_law_one" (defArgs sOne) (defBody sOne) (defScope sOne) .none kV48 dc48 pm48 an48 cd48 ct48), sl48⟩)
    (c48 : PySem.W.codeIn K cd48 "_law_one" = true)
    (k48 : PySem.W.keepIn K (.ref f48) = true)
    (a49 : PySem.W.nsIn K mainGlobals "_law_number" = some (some (.ref f49)))
    (l49 : K.lookup f49 = some ⟨oc49, od49, .func (PySem.W.fnOf "_law_number" "_law_number" (defArgs sNumber) (defBody sNumber) (defScope sNumber) .none kV49 dc49 pm49 an49 cd49 ct49), sl49⟩)
    (c49 : PySem.W.codeIn K cd49 "_law_number" = true)
    (k49 : PySem.W.keepIn K (.ref f49) = true)
    (a50 : PySem.W.nsIn K mainGlobals "_law_step" = some (some (.ref f50)))
    (l50 : K.lookup f50 = some ⟨oc50, od50, .func (PySem.W.fnOf "_law_step" "_law_step" (defArgs sStep) (defBody sStep) (defScope sStep) .none kV50 dc50 pm50 an50 cd50 ct50), sl50⟩)
    (c50 : PySem.W.codeIn K cd50 "_law_step" = true)
    (k50 : PySem.W.keepIn K (.ref f50) = true)
    (a51 : PySem.W.nsIn K mainGlobals "_law_led" = some (some (.ref f51)))
    (l51 : K.lookup f51 = some ⟨oc51, od51, .func (PySem.W.fnOf "_law_led" "_law_led" (defArgs sLed) (defBody sLed) (defScope sLed) .none kV51 dc51 pm51 an51 cd51 ct51), sl51⟩)
    (c51 : PySem.W.codeIn K cd51 "_law_led" = true)
    (k51 : PySem.W.keepIn K (.ref f51) = true)
    (a52 : PySem.W.nsIn K mainGlobals "_law_so" = some (some (.ref f52)))
    (l52 : K.lookup f52 = some ⟨oc52, od52, .func (PySem.W.fnOf "_law_so" "_law_so" (defArgs sSo) (defBody sSo) (defScope sSo) .none kV52 dc52 pm52 an52 cd52 ct52), sl52⟩)
    (c52 : PySem.W.codeIn K cd52 "_law_so" = true)
    (k52 : PySem.W.keepIn K (.ref f52) = true)
    (a53 : PySem.W.nsIn K mainGlobals "_law_told" = some (some (.ref f53)))
    (l53 : K.lookup f53 = some ⟨oc53, od53, .func (PySem.W.fnOf "_law_told" "_law_told" (defArgs sToldL) (defBody sToldL) (defScope sToldL) .none kV53 dc53 pm53 an53 cd53 ct53), sl53⟩)
    (c53 : PySem.W.codeIn K cd53 "_law_told" = true)
    (k53 : PySem.W.keepIn K (.ref f53) = true)
    (a54 : PySem.W.nsIn K mainGlobals "_law_far_column" = some (some (.ref f54)))
    (l54 : K.lookup f54 = some ⟨oc54, od54, .func (PySem.W.fnOf "_law_far_column" "_law_far_column" (defArgs sFarCol) (defBody sFarCol) (defScope sFarCol) .none kV54 dc54 pm54 an54 cd54 ct54), sl54⟩)
    (c54 : PySem.W.codeIn K cd54 "_law_far_column" = true)
    (k54 : PySem.W.keepIn K (.ref f54) = true)
    (a55 : PySem.W.nsIn K mainGlobals "_law_far_test" = some (some (.ref f55)))
    (l55 : K.lookup f55 = some ⟨oc55, od55, .func (PySem.W.fnOf "_law_far_test" "_law_far_test" (defArgs sFarTest) (defBody sFarTest) (defScope sFarTest) .none kV55 dc55 pm55 an55 cd55 ct55), sl55⟩)
    (c55 : PySem.W.codeIn K cd55 "_law_far_test" = true)
    (k55 : PySem.W.keepIn K (.ref f55) = true)
    (a56 : PySem.W.nsIn K mainGlobals "_law_answers_at" = some (some (.ref f56)))
    (l56 : K.lookup f56 = some ⟨oc56, od56, .func (PySem.W.fnOf "_law_answers_at" "_law_answers_at" (defArgs sAnsL) (defBody sAnsL) (defScope sAnsL) .none kV56 dc56 pm56 an56 cd56 ct56), sl56⟩)
    (c56 : PySem.W.codeIn K cd56 "_law_answers_at" = true)
    (k56 : PySem.W.keepIn K (.ref f56) = true)
    (a57 : PySem.W.nsIn K mainGlobals "_law_points" = some (some (.ref f57)))
    (l57 : K.lookup f57 = some ⟨oc57, od57, .func (PySem.W.fnOf "_law_points" "_law_points" (defArgs sPoints) (defBody sPoints) (defScope sPoints) .none kV57 dc57 pm57 an57 cd57 ct57), sl57⟩)
    (c57 : PySem.W.codeIn K cd57 "_law_points" = true)
    (k57 : PySem.W.keepIn K (.ref f57) = true)
    (a58 : PySem.W.nsIn K mainGlobals "_law_spans_right" = some (some (.ref f58)))
    (l58 : K.lookup f58 = some ⟨oc58, od58, .func (PySem.W.fnOf "_law_spans_right" "_law_spans_right" (defArgs sRight) (defBody sRight) (defScope sRight) .none kV58 dc58 pm58 an58 cd58 ct58), sl58⟩)
    (c58 : PySem.W.codeIn K cd58 "_law_spans_right" = true)
    (k58 : PySem.W.keepIn K (.ref f58) = true)
    (a59 : PySem.W.nsIn K mainGlobals "_law_met" = some (some (.ref f59)))
    (l59 : K.lookup f59 = some ⟨oc59, od59, .func (PySem.W.fnOf "_law_met" "_law_met" (defArgs sMetL) (defBody sMetL) (defScope sMetL) .none kV59 dc59 pm59 an59 cd59 ct59), sl59⟩)
    (c59 : PySem.W.codeIn K cd59 "_law_met" = true)
    (k59 : PySem.W.keepIn K (.ref f59) = true)
    (a60 : PySem.W.nsIn K mainGlobals "law" = some (some (.ref f60)))
    (l60 : K.lookup f60 = some ⟨oc60, od60, .func (PySem.W.fnOf "law" "law" (defArgs sLaw) (defBody sLaw) (defScope sLaw) .none kV60 dc60 pm60 an60 cd60 ct60), sl60⟩)
    (c60 : PySem.W.codeIn K cd60 "law" = true)
    (k60 : PySem.W.keepIn K (.ref f60) = true)
    (pg : PySem.W.plainGet K C Str.empty = true)
    (hd : PySem.W.hasDictIn K C = true)
    (po : PySem.W.plainOver K C = true)
    (sa : PySem.W.findIn K (.ref C) "__setattr__" = some (some (.builtin "object.__setattr__")))
    (mk : PySem.W.makesIn K C = true)
    (kc : PySem.W.keepIn K (.ref C) = true)
    (nI : PySem.W.findIn K (.ref C) "its_pairs" = some none)
    (sf : PySem.W.selfFirst K C = true)
    (xL : K.lookup CE = some (excClassObj nm q CE N bs [.ref AE, .type "ValueError", .type "Exception", .type "BaseException", .type "object"] true sn sub ab col dd m0 m1 m2 m3 m5 "ValueError.__new__"))
    (sE : PySem.W.findIn K (.ref CE) "__setattr__" = some (some (.builtin "object.__setattr__")))
    (eE : PySem.W.subIn K (.ref CE) (.type "BaseException") = some true)
    (tE : PySem.W.typeIn K (.ref CE) = some (.type "type"))
    (kE : PySem.W.keepIn K (.ref CE) = true)
    (nE : PySem.W.findIn K (.ref CE) "number" = some none)
    (hE : PySem.W.hasDictIn K CE = true)
    (xE : PySem.W.subIn K (.ref CE) (.ref CE) = some true)
    (aA : PySem.W.nsIn K mainGlobals "ANSWERS" = some (some (.ref tA)))
    (lA : K.lookup tA = some ⟨.type "tuple", odA, .seq #[.str "error" t1, .str "no" t2, .str "unknown" t3, .str "yes" t4] nA, slA⟩)
    (aW : PySem.W.nsIn K mainGlobals "WORD" = some (some (.str "a" tW)))
    (z_isinstance : PySem.W.nsIn K mainGlobals "isinstance" = some none)
    (z_int : PySem.W.nsIn K mainGlobals "int" = some none)
    (z_bool : PySem.W.nsIn K mainGlobals "bool" = some none)
    (z_str : PySem.W.nsIn K mainGlobals "str" = some none)
    (z_len : PySem.W.nsIn K mainGlobals "len" = some none)
    (z_tuple : PySem.W.nsIn K mainGlobals "tuple" = some none)
    (z_list : PySem.W.nsIn K mainGlobals "list" = some none)
    (z_all : PySem.W.nsIn K mainGlobals "all" = some none)
    (z_any : PySem.W.nsIn K mainGlobals "any" = some none)
    (z_max : PySem.W.nsIn K mainGlobals "max" = some none)
    (z_min : PySem.W.nsIn K mainGlobals "min" = some none)
    (z_sum : PySem.W.nsIn K mainGlobals "sum" = some none)
    (z_sorted : PySem.W.nsIn K mainGlobals "sorted" = some none)
    (z_iter : PySem.W.nsIn K mainGlobals "iter" = some none)
    (z_range : PySem.W.nsIn K mainGlobals "range" = some none)
    (z_abs : PySem.W.nsIn K mainGlobals "abs" = some none)
    (z_dict : PySem.W.nsIn K mainGlobals "dict" = some none)
    (z_set : PySem.W.nsIn K mainGlobals "set" = some none)
    (z_enumerate : PySem.W.nsIn K mainGlobals "enumerate" = some none)
    (z_repr : PySem.W.nsIn K mainGlobals "repr" = some none)
    : ∃ fd : FuncData, (∀ (s : Shared) (v : Value), BindsTo s fd ⟨[v], []⟩ [("_law_script", v)]) ∧ ∀ base : Heap, K.In base → base.Ns mainGlobals mg → FnAt P w K mg base 15 fa fd ["_law_script"] (spLaw K) := by
  have e := hfa.symm.trans (PySem.W.mg_of X G a60)
  cases e
  have B : Bi mg := ⟨PySem.W.mg_none_of X G z_isinstance, PySem.W.mg_none_of X G z_int, PySem.W.mg_none_of X G z_bool, PySem.W.mg_none_of X G z_str, PySem.W.mg_none_of X G z_len, PySem.W.mg_none_of X G z_tuple, PySem.W.mg_none_of X G z_list, PySem.W.mg_none_of X G z_all, PySem.W.mg_none_of X G z_any, PySem.W.mg_none_of X G z_max, PySem.W.mg_none_of X G z_min, PySem.W.mg_none_of X G z_sum, PySem.W.mg_none_of X G z_sorted, PySem.W.mg_none_of X G z_iter, PySem.W.mg_none_of X G z_range, PySem.W.mg_none_of X G z_abs, PySem.W.mg_none_of X G z_dict, PySem.W.mg_none_of X G z_set, PySem.W.mg_none_of X G z_enumerate, PySem.W.mg_none_of X G z_repr⟩
  have cl : Cls K C := ⟨pg, hd, po, sa⟩
  have F_isInt := fun_mk (st := sIsInt) l0 c0 k0
  have b_isInt := F_isInt.binds (ps := ["thing"]) fun _ _ _ _ _ _ us hl => match us, hl with | [_], _ => rfl
  have g_isInt := PySem.W.mg_of X G a0
  have F_isEnd := fun_mk (st := sIsEnd) l1 c1 k1
  have b_isEnd := F_isEnd.binds (ps := ["thing"]) fun _ _ _ _ _ _ us hl => match us, hl with | [_], _ => rfl
  have g_isEnd := PySem.W.mg_of X G a1
  have F_isPair := fun_mk (st := sIsPair) l2 c2 k2
  have b_isPair := F_isPair.binds (ps := ["thing"]) fun _ _ _ _ _ _ us hl => match us, hl with | [_], _ => rfl
  have g_isPair := PySem.W.mg_of X G a2
  have F_low := fun_mk (st := sLow) l3 c3 k3
  have b_low := F_low.binds (ps := ["pair"]) fun _ _ _ _ _ _ us hl => match us, hl with | [_], _ => rfl
  have g_low := PySem.W.mg_of X G a3
  have F_later := fun_mk (st := sLater) l4 c4 k4
  have b_later := F_later.binds (ps := ["one", "other"]) fun _ _ _ _ _ _ us hl => match us, hl with | [_, _], _ => rfl
  have g_later := PySem.W.mg_of X G a4
  have F_merged := fun_mk (st := sMerged) l5 c5 k5
  have b_merged := F_merged.binds (ps := ["pairs"]) fun _ _ _ _ _ _ us hl => match us, hl with | [_], _ => rfl
  have g_merged := PySem.W.mg_of X G a5
  have F_metS := fun_mk (st := sMet) l6 c6 k6
  have b_metS := F_metS.binds (ps := ["one", "other"]) fun _ _ _ _ _ _ us hl => match us, hl with | [_, _], _ => rfl
  have g_metS := PySem.W.mg_of X G a6
  have F_metAny := fun_mk (st := sMetAny) l7 c7 k7
  have b_metAny := F_metAny.binds (ps := ["pairs", "one"]) fun _ _ _ _ _ _ us hl => match us, hl with | [_, _], _ => rfl
  have g_metAny := PySem.W.mg_of X G a7
  have F_gaps := fun_mk (st := sGaps) l8 c8 k8
  have b_gaps := F_gaps.binds (ps := ["pairs"]) fun _ _ _ _ _ _ us hl => match us, hl with | [_], _ => rfl
  have g_gaps := PySem.W.mg_of X G a8
  have F_init := fun_mk (st := sInit) l9 c9 k9
  have b_init := F_init.binds (ps := ["self", "pairs"]) fun _ _ _ _ _ _ us hl => match us, hl with | [_, _], _ => rfl
  have F_len := fun_mk (st := sLen) l10 c10 k10
  have b_len := F_len.binds (ps := ["self"]) fun _ _ _ _ _ _ us hl => match us, hl with | [_], _ => rfl
  have F_pairs := fun_mk (st := sPairs) l11 c11 k11
  have b_pairs := F_pairs.binds (ps := ["self"]) fun _ _ _ _ _ _ us hl => match us, hl with | [_], _ => rfl
  have F_iter := fun_mk (st := sIter) l12 c12 k12
  have b_iter := F_iter.binds (ps := ["self"]) fun _ _ _ _ _ _ us hl => match us, hl with | [_], _ => rfl
  have F_in := fun_mk (st := sIn) l13 c13 k13
  have b_in := F_in.binds (ps := ["self", "number"]) fun _ _ _ _ _ _ us hl => match us, hl with | [_, _], _ => rfl
  have F_or := fun_mk (st := sOr) l14 c14 k14
  have b_or := F_or.binds (ps := ["self", "other"]) fun _ _ _ _ _ _ us hl => match us, hl with | [_, _], _ => rfl
  have F_and := fun_mk (st := sAnd) l15 c15 k15
  have b_and := F_and.binds (ps := ["self", "other"]) fun _ _ _ _ _ _ us hl => match us, hl with | [_, _], _ => rfl
  have F_inv := fun_mk (st := sInv) l16 c16 k16
  have b_inv := F_inv.binds (ps := ["self"]) fun _ _ _ _ _ _ us hl => match us, hl with | [_], _ => rfl
  have F_errI := fun_mk (st := sErrI) l17 c17 k17
  have b_errI := F_errI.binds (ps := ["self", "number"]) fun _ _ _ _ _ _ us hl => match us, hl with | [_, _], _ => rfl
  have F_stepOn := fun_mk (st := sStepOn) l18 c18 k18
  have b_stepOn := F_stepOn.binds (ps := ["step", "number"]) fun _ _ _ _ _ _ us hl => match us, hl with | [_, _], _ => rfl
  have g_stepOn := PySem.W.mg_of X G a18
  have F_stepsOn := fun_mk (st := sStepsOn) l19 c19 k19
  have b_stepsOn := F_stepsOn.binds (ps := ["steps", "number"]) fun _ _ _ _ _ _ us hl => match us, hl with | [_, _], _ => rfl
  have g_stepsOn := PySem.W.mg_of X G a19
  have F_raised := fun_mk (st := sRaised) l20 c20 k20
  have b_raised := F_raised.binds (ps := ["number", "by"]) fun _ _ _ _ _ _ us hl => match us, hl with | [_, _], _ => rfl
  have g_raised := PySem.W.mg_of X G a20
  have F_overUp := fun_mk (st := sOverUp) l21 c21 k21
  have b_overUp := F_overUp.binds (ps := ["number", "divisor"]) fun _ _ _ _ _ _ us hl => match us, hl with | [_, _], _ => rfl
  have g_overUp := PySem.W.mg_of X G a21
  have F_mirr := fun_mk (st := sMirr) l22 c22 k22
  have b_mirr := F_mirr.binds (ps := ["pair"]) fun _ _ _ _ _ _ us hl => match us, hl with | [_], _ => rfl
  have g_mirr := PySem.W.mg_of X G a22
  have F_into := fun_mk (st := sInto) l23 c23 k23
  have b_into := F_into.binds (ps := ["pair", "d"]) fun _ _ _ _ _ _ us hl => match us, hl with | [_, _], _ => rfl
  have g_into := PySem.W.mg_of X G a23
  have F_times := fun_mk (st := sTimes) l24 c24 k24
  have b_times := F_times.binds (ps := ["pair", "k"]) fun _ _ _ _ _ _ us hl => match us, hl with | [_, _], _ => rfl
  have g_times := PySem.W.mg_of X G a24
  have F_over := fun_mk (st := sOver) l25 c25 k25
  have b_over := F_over.binds (ps := ["pair", "k"]) fun _ _ _ _ _ _ us hl => match us, hl with | [_, _], _ => rfl
  have g_over := PySem.W.mg_of X G a25
  have F_bOne := fun_mk (st := sBOne) l26 c26 k26
  have b_bOne := F_bOne.binds (ps := ["step", "spans"]) fun _ _ _ _ _ _ us hl => match us, hl with | [_, _], _ => rfl
  have g_bOne := PySem.W.mg_of X G a26
  have F_eat := fun_mk (st := sEat) l27 c27 k27
  have b_eat := F_eat.binds (ps := ["step"]) fun _ _ _ _ _ _ us hl => match us, hl with | [_], _ => rfl
  have g_eat := PySem.W.mg_of X G a27
  have F_before := fun_mk (st := sBefore) l28 c28 k28
  have b_before := F_before.binds (ps := ["steps", "spans"]) fun _ _ _ _ _ _ us hl => match us, hl with | [_, _], _ => rfl
  have g_before := PySem.W.mg_of X G a28
  have F_erring := fun_mk (st := sErring) l29 c29 k29
  have b_erring := F_erring.binds (ps := ["steps"]) fun _ _ _ _ _ _ us hl => match us, hl with | [_], _ => rfl
  have g_erring := PySem.W.mg_of X G a29
  have F_hold := fun_mk (st := sHold) l30 c30 k30
  have b_hold := F_hold.binds (ps := ["sign", "n"]) fun _ _ _ _ _ _ us hl => match us, hl with | [_, _], _ => rfl
  have g_hold := PySem.W.mg_of X G a30
  have F_isSo := fun_mk (st := sIsSo) l31 c31 k31
  have b_isSo := F_isSo.binds (ps := ["number", "sign", "n"]) fun _ _ _ _ _ _ us hl => match us, hl with | [_, _, _], _ => rfl
  have g_isSo := PySem.W.mg_of X G a31
  have F_numAns := fun_mk (st := sNumAns) l32 c32 k32
  have b_numAns := F_numAns.binds (ps := ["test", "number"]) fun _ _ _ _ _ _ us hl => match us, hl with | [_, _], _ => rfl
  have g_numAns := PySem.W.mg_of X G a32
  have F_testAns := fun_mk (st := sTestAns) l33 c33 k33
  have b_testAns := F_testAns.binds (ps := ["test", "value"]) fun _ _ _ _ _ _ us hl => match us, hl with | [_, _], _ => rfl
  have g_testAns := PySem.W.mg_of X G a33
  have F_ansAt := fun_mk (st := sAnsAt) l34 c34 k34
  have b_ansAt := F_ansAt.binds (ps := ["tests", "value"]) fun _ _ _ _ _ _ us hl => match us, hl with | [_, _], _ => rfl
  have g_ansAt := PySem.W.mg_of X G a34
  have F_told := fun_mk (st := sTold) l35 c35 k35
  have b_told := F_told.binds (ps := ["test"]) fun _ _ _ _ _ _ us hl => match us, hl with | [_], _ => rfl
  have g_told := PySem.W.mg_of X G a35
  have F_lots := fun_mk (st := sLots) l36 c36 k36
  have b_lots := F_lots.binds (ps := ["column", "tests"]) fun _ _ _ _ _ _ us hl => match us, hl with | [_, _], _ => rfl
  have g_lots := PySem.W.mg_of X G a36
  have F_lotsBy := fun_mk (st := sLotsBy) l37 c37 k37
  have b_lotsBy := F_lotsBy.binds (ps := ["column", "tests"]) fun _ _ _ _ _ _ us hl => match us, hl with | [_, _], _ => rfl
  have g_lotsBy := PySem.W.mg_of X G a37
  have F_rank := fun_mk (st := sRank) l38 c38 k38
  have b_rank := F_rank.binds (ps := ["cell"]) fun _ _ _ _ _ _ us hl => match us, hl with | [_], _ => rfl
  have g_rank := PySem.W.mg_of X G a38
  have F_cells := fun_mk (st := sCells) l39 c39 k39
  have b_cells := F_cells.binds (ps := ["column", "tests"]) fun _ _ _ _ _ _ us hl => match us, hl with | [_, _], _ => rfl
  have g_cells := PySem.W.mg_of X G a39
  have F_cellOf := fun_mk (st := sCellOf) l40 c40 k40
  have b_cellOf := F_cellOf.binds (ps := ["column", "tests", "value"]) fun _ _ _ _ _ _ us hl => match us, hl with | [_, _, _], _ => rfl
  have g_cellOf := PySem.W.mg_of X G a40
  have F_isIn := fun_mk (st := sIsIn) l41 c41 k41
  have b_isIn := F_isIn.binds (ps := ["cell", "thing"]) fun _ _ _ _ _ _ us hl => match us, hl with | [_, _], _ => rfl
  have g_isIn := PySem.W.mg_of X G a41
  have F_value := fun_mk (st := sValue) l42 c42 k42
  have b_value := F_value.binds (ps := ["cell"]) fun _ _ _ _ _ _ us hl => match us, hl with | [_], _ => rfl
  have g_value := PySem.W.mg_of X G a42
  have F_many := fun_mk (st := sMany) l43 c43 k43
  have b_many := F_many.binds (ps := ["cell"]) fun _ _ _ _ _ _ us hl => match us, hl with | [_], _ => rfl
  have g_many := PySem.W.mg_of X G a43
  have F_metC := fun_mk (st := sMetC) l44 c44 k44
  have b_metC := F_metC.binds (ps := ["one", "other"]) fun _ _ _ _ _ _ us hl => match us, hl with | [_, _], _ => rfl
  have g_metC := PySem.W.mg_of X G a44
  have F_bag := fun_mk (st := sBag) l45 c45 k45
  have b_bag := F_bag.binds (ps := ["_law_script"]) fun _ _ _ _ _ _ us hl => match us, hl with | [_], _ => rfl
  have g_bag := PySem.W.mg_of X G a45
  have F_take := fun_mk (st := sTake) l46 c46 k46
  have b_take := F_take.binds (ps := ["_law_bag_here", "_law_many"]) fun _ _ _ _ _ _ us hl => match us, hl with | [_, _], _ => rfl
  have g_take := PySem.W.mg_of X G a46
  have F_alike := fun_mk (st := sAlike) l47 c47 k47
  have b_alike := F_alike.binds (ps := ["_law_found", "_law_due"]) fun _ _ _ _ _ _ us hl => match us, hl with | [_, _], _ => rfl
  have g_alike := PySem.W.mg_of X G a47
  have F_one := fun_mk (st := sOne) l48 c48 k48
  have b_one := F_one.binds (ps := ["_law_bag_here", "_law_things"]) fun _ _ _ _ _ _ us hl => match us, hl with | [_, _], _ => rfl
  have g_one := PySem.W.mg_of X G a48
  have F_number := fun_mk (st := sNumber) l49 c49 k49
  have b_number := F_number.binds (ps := ["_law_bag_here"]) fun _ _ _ _ _ _ us hl => match us, hl with | [_], _ => rfl
  have g_number := PySem.W.mg_of X G a49
  have F_step := fun_mk (st := sStep) l50 c50 k50
  have b_step := F_step.binds (ps := ["_law_bag_here"]) fun _ _ _ _ _ _ us hl => match us, hl with | [_], _ => rfl
  have g_step := PySem.W.mg_of X G a50
  have F_led := fun_mk (st := sLed) l51 c51 k51
  have b_led := F_led.binds (ps := ["_law_steps", "_law_number_here"]) fun _ _ _ _ _ _ us hl => match us, hl with | [_, _], _ => rfl
  have g_led := PySem.W.mg_of X G a51
  have F_so := fun_mk (st := sSo) l52 c52 k52
  have b_so := F_so.binds (ps := ["_law_sign", "_law_number_here", "_law_n"]) fun _ _ _ _ _ _ us hl => match us, hl with | [_, _, _], _ => rfl
  have g_so := PySem.W.mg_of X G a52
  have F_toldL := fun_mk (st := sToldL) l53 c53 k53
  have b_toldL := F_toldL.binds (ps := ["_law_leaf", "_law_row"]) fun _ _ _ _ _ _ us hl => match us, hl with | [_, _], _ => rfl
  have g_toldL := PySem.W.mg_of X G a53
  have F_farCol := fun_mk (st := sFarCol) l54 c54 k54
  have b_farCol := F_farCol.binds (ps := ["_law_bag_here"]) fun _ _ _ _ _ _ us hl => match us, hl with | [_], _ => rfl
  have g_farCol := PySem.W.mg_of X G a54
  have F_farTest := fun_mk (st := sFarTest) l55 c55 k55
  have b_farTest := F_farTest.binds (ps := ["_law_bag_here"]) fun _ _ _ _ _ _ us hl => match us, hl with | [_], _ => rfl
  have g_farTest := PySem.W.mg_of X G a55
  have F_ansL := fun_mk (st := sAnsL) l56 c56 k56
  have b_ansL := F_ansL.binds (ps := ["_law_tests", "_law_value"]) fun _ _ _ _ _ _ us hl => match us, hl with | [_, _], _ => rfl
  have g_ansL := PySem.W.mg_of X G a56
  have F_points := fun_mk (st := sPoints) l57 c57 k57
  have b_points := F_points.binds (ps := ["_law_bag_here", "_law_low", "_law_high"]) fun _ _ _ _ _ _ us hl => match us, hl with | [_, _, _], _ => rfl
  have g_points := PySem.W.mg_of X G a57
  have F_right := fun_mk (st := sRight) l58 c58 k58
  have b_right := F_right.binds (ps := ["_law_bag_here", "_law_column", "_law_some"]) fun _ _ _ _ _ _ us hl => match us, hl with | [_, _, _], _ => rfl
  have g_right := PySem.W.mg_of X G a58
  have F_metL := fun_mk (st := sMetL) l59 c59 k59
  have b_metL := F_metL.binds (ps := ["_law_one_here", "_law_other"]) fun _ _ _ _ _ _ us hl => match us, hl with | [_, _], _ => rfl
  have g_metL := PySem.W.mg_of X G a59
  have F_law := fun_mk (st := sLaw) l60 c60 k60
  have b_law := F_law.binds (ps := ["_law_script"]) fun _ _ _ _ _ _ us hl => match us, hl with | [_], _ => rfl
  have g_law := PySem.W.mg_of X G a60
  refine ⟨PySem.W.fnOf "law" "law" (defArgs sLaw) (defBody sLaw) (defScope sLaw) .none kV60 dc60 pm60 an60 cd60 ct60, fun s v => .of_eq rfl, fun base _ _ => ?_⟩
  have d_isInt := fd_mk (P := P) (w := w) (base := base) g_isInt k0 b_isInt (ok_isInt F_isInt B)
  have d_isEnd := fd_mk (P := P) (w := w) (base := base) g_isEnd k1 b_isEnd (ok_isEnd F_isEnd d_isInt)
  have d_isPair := fd_mk (P := P) (w := w) (base := base) g_isPair k2 b_isPair (ok_isPair F_isPair B d_isEnd)
  have d_later := fd_mk (P := P) (w := w) (base := base) g_later k4 b_later (ok_later F_later B)
  have d_merged := fd_mk (P := P) (w := w) (base := base) g_merged k5 b_merged (ok_merged F_merged B g_low (key_low F_low b_low) d_later)
  have d_metS := fd_mk (P := P) (w := w) (base := base) g_metS k6 b_metS (ok_met F_metS B d_isPair)
  have d_metAny := fd_mk (P := P) (w := w) (base := base) g_metAny k7 b_metAny (ok_metAny F_metAny d_metS)
  have d_gaps := fd_mk (P := P) (w := w) (base := base) g_gaps k8 b_gaps (ok_gaps F_gaps)
  have Mc : SpMk P w K mg base C := ⟨PySem.W.mg_of X G aC, cl, nI, _, _, ⟨mk, a9, i9, kc⟩, b_init, ok_init F_init B cl nI d_isPair d_merged⟩
  have S : SpMs P w K mg base C := ⟨Mc, ⟨_, _, ok_iter F_iter B cl nI, b_iter, a12, i12⟩, ⟨_, _, ok_in F_in cl nI d_metAny, b_in, a13, i13⟩, ⟨_, _, ok_len F_len B cl nI, b_len, a10, i10⟩, ⟨_, _, ok_or F_or Mc, b_or, a14, i14⟩, ⟨_, _, ok_and F_and Mc d_metAny, b_and, a15, i15⟩, ⟨_, _, ok_inv F_inv Mc d_gaps, b_inv, a16, i16⟩, ⟨_, _, ok_pairs F_pairs B cl nI, b_pairs, ⟨a11, i11, k11⟩⟩, sf⟩
  have vE : PySem.HandSPX.refsVE [.ref AE, .type "ValueError", .type "Exception", .type "BaseException", .type "object"] = true := (show PySem.HandSPX.refsVE [.type "ValueError", .type "Exception", .type "BaseException", .type "object"] = true by decide +kernel)
  have oex : OexC K CE := ⟨⟨nm, q, N, bs, _, sn, sub, ab, col, dd, m0, m1, m2, m3, m5, xL, vE⟩, sE, eE, tE, kE⟩
  have SE : ErMk P w K mg base CE := ⟨PySem.W.mg_of X G aE, oex, nE, PySem.W.exm_ref eE hE tE xE, _, _, a17, i17, b_errI, ok_errI F_errI⟩
  have d_stepOn := fdx_mk (P := P) (w := w) (base := base) g_stepOn k18 b_stepOn (ok_stepOn F_stepOn SE)
  have d_stepsOn := fdx_mk (P := P) (w := w) (base := base) g_stepsOn k19 b_stepsOn (ok_stepsOn F_stepsOn d_stepOn)
  have d_raised := fd_mk (P := P) (w := w) (base := base) g_raised k20 b_raised (ok_raised F_raised)
  have d_overUp := fd_mk (P := P) (w := w) (base := base) g_overUp k21 b_overUp (ok_overUp F_overUp)
  have d_mirr := fd_mk (P := P) (w := w) (base := base) g_mirr k22 b_mirr (ok_mirr F_mirr)
  have d_into := fd_mk (P := P) (w := w) (base := base) g_into k23 b_into (ok_into F_into)
  have d_times := fd_mk (P := P) (w := w) (base := base) g_times k24 b_times (ok_times F_times d_overUp)
  have d_over := fd_mk (P := P) (w := w) (base := base) g_over k25 b_over (ok_over F_over B d_overUp)
  have d_bOne := fd_mk (P := P) (w := w) (base := base) g_bOne k26 b_bOne (ok_bOne F_bOne S d_raised d_into d_times d_over d_mirr)
  have d_eat := fd_mk (P := P) (w := w) (base := base) g_eat k27 b_eat (ok_eat F_eat S)
  have d_before := fd_mk (P := P) (w := w) (base := base) g_before k28 b_before (ok_before F_before d_bOne)
  have d_erring := fd_mk (P := P) (w := w) (base := base) g_erring k29 b_erring (ok_erring F_erring S d_before d_eat)
  have d_hold := fd_mk (P := P) (w := w) (base := base) g_hold k30 b_hold (ok_hold F_hold S)
  have d_isSo := fd_mk (P := P) (w := w) (base := base) g_isSo k31 b_isSo (ok_isSo F_isSo)
  have d_numAns := fd_mk (P := P) (w := w) (base := base) g_numAns k32 b_numAns (ok_numAns F_numAns SE d_stepsOn d_isSo)
  have d_testAns := fd_mk (P := P) (w := w) (base := base) g_testAns k33 b_testAns (ok_testAns F_testAns d_isInt d_numAns)
  have d_ansAt := fd_mk (P := P) (w := w) (base := base) g_ansAt k34 b_ansAt (ok_ansAt F_ansAt B d_testAns)
  have d_told := fd_mk (P := P) (w := w) (base := base) g_told k35 b_told (ok_told F_told S d_erring d_before d_hold)
  have hA : ∀ H : Hp, SqT K H tA words4 := fun H => .inr ⟨_, _, _, lA, rfl, rfl, (by show 4 ≤ sizeLine; decide), .cons ⟨_, rfl⟩ (.cons ⟨_, rfl⟩ (.cons ⟨_, rfl⟩ (.cons ⟨_, rfl⟩ .nil)))⟩
  have d_lots := fd_mk (P := P) (w := w) (base := base) g_lots k36 b_lots (ok_lots F_lots B S d_told (PySem.W.mg_of X G aA) hA)
  have d_lotsBy := fd_mk (P := P) (w := w) (base := base) g_lotsBy k37 b_lotsBy (ok_lotsBy F_lotsBy B S d_lots d_ansAt (PySem.W.mg_of X G aW))
  have d_cells := fd_mk (P := P) (w := w) (base := base) g_cells k39 b_cells (ok_cells F_cells B g_rank (key_rank F_rank b_rank) d_lotsBy)
  have d_cellOf := fd_mk (P := P) (w := w) (base := base) g_cellOf k40 b_cellOf (ok_cellOf F_cellOf d_lotsBy d_ansAt)
  have d_isIn := fd_mk (P := P) (w := w) (base := base) g_isIn k41 b_isIn (ok_isIn F_isIn B d_isInt)
  have d_value := fd_mk (P := P) (w := w) (base := base) g_value k42 b_value (ok_value F_value (PySem.W.mg_of X G aW))
  have d_many := fd_mk (P := P) (w := w) (base := base) g_many k43 b_many (ok_many F_many B)
  have d_metC := fd_mk (P := P) (w := w) (base := base) g_metC k44 b_metC (ok_metC F_metC B S)
  have d_bag := fd_mk (P := P) (w := w) (base := base) g_bag k45 b_bag (ok_bag F_bag B)
  have d_take := fd_mk (P := P) (w := w) (base := base) g_take k46 b_take (ok_take F_take B)
  have d_one := fd_mk (P := P) (w := w) (base := base) g_one k48 b_one (ok_one F_one B d_take)
  have d_number := fd_mk (P := P) (w := w) (base := base) g_number k49 b_number (ok_number F_number d_take)
  have d_step := fd_mk (P := P) (w := w) (base := base) g_step k50 b_step (ok_step F_step B d_one d_take d_number)
  have d_led := fd_mk (P := P) (w := w) (base := base) g_led k51 b_led (ok_led F_led B)
  have d_so := fd_mk (P := P) (w := w) (base := base) g_so k52 b_so (ok_so F_so)
  have d_toldL := fd_mk (P := P) (w := w) (base := base) g_toldL k53 b_toldL (ok_toldL F_toldL B d_led d_so)
  have d_farCol := fd_mk (P := P) (w := w) (base := base) g_farCol k54 b_farCol (ok_farCol F_farCol B d_take d_number)
  have d_farTest := fd_mk (P := P) (w := w) (base := base) g_farTest k55 b_farTest (ok_farTest F_farTest B d_take d_number d_one d_step)
  have d_ansL := fd_mk (P := P) (w := w) (base := base) g_ansL k56 b_ansL (ok_ansL F_ansL B d_toldL)
  have d_points := fd_mk (P := P) (w := w) (base := base) g_points k57 b_points (ok_points F_points B d_take)
  have d_right := fd_mk (P := P) (w := w) (base := base) g_right k58 b_right (ok_right F_right B d_many)
  have d_metL := fd_mk (P := P) (w := w) (base := base) g_metL k59 b_metL (ok_metL F_metL B)
  exact ok_law F_law B ⟨d_bag, d_take, d_farCol, d_farTest, d_cells, d_right, d_ansL, d_value, d_points, d_metC, d_metL, d_number, d_cellOf, d_isIn⟩ g_alike (ok_alike F_alike B) k47 b_alike
end RA
end

set_option Elab.async false
set_option maxRecDepth 100000
open PySem PySem.W PyProof.Rows
set_option maxHeartbeats 0 in
theorem PySem.Challenge.cw_refusedahead_k33_whole_cells_far_out_holds : PySem.Challenge.rw_refusedahead_k33_whole_cells_far_out.Holds := by
  w_on; o_law; k_head; (case hw => w_witness2)
  k_fill
  refine RA.walk_at (l := PySem.Challenge.rw_refusedahead_k33_whole_cells_far_out) (n := 63) (k := 15) (x := "_law_script") (sp := fun K => RA.spLaw K) rfl (by decide) rfl ⟨rfl, by decide, by decide⟩ (fun w h Y => PySem.W.kIn_of Y) ?F RA.spLaw_end
  case F =>
    intro w mg fa h KX G hmg
    refine' RA.all_mk KX G hmg ?aC ?aE ?a0 ?l0 ?c0 ?k0 ?a1 ?l1 ?c1 ?k1 ?a2 ?l2 ?c2 ?k2 ?a3 ?l3 ?c3 ?k3 ?a4 ?l4 ?c4 ?k4 ?a5 ?l5 ?c5 ?k5 ?a6 ?l6 ?c6 ?k6 ?a7 ?l7 ?c7 ?k7 ?a8 ?l8 ?c8 ?k8 ?a9 ?i9 ?l9 ?c9 ?k9 ?a10 ?i10 ?l10 ?c10 ?k10 ?a11 ?i11 ?l11 ?c11 ?k11 ?a12 ?i12 ?l12 ?c12 ?k12 ?a13 ?i13 ?l13 ?c13 ?k13 ?a14 ?i14 ?l14 ?c14 ?k14 ?a15 ?i15 ?l15 ?c15 ?k15 ?a16 ?i16 ?l16 ?c16 ?k16 ?a17 ?i17 ?l17 ?c17 ?k17 ?a18 ?l18 ?c18 ?k18 ?a19 ?l19 ?c19 ?k19 ?a20 ?l20 ?c20 ?k20 ?a21 ?l21 ?c21 ?k21 ?a22 ?l22 ?c22 ?k22 ?a23 ?l23 ?c23 ?k23 ?a24 ?l24 ?c24 ?k24 ?a25 ?l25 ?c25 ?k25 ?a26 ?l26 ?c26 ?k26 ?a27 ?l27 ?c27 ?k27 ?a28 ?l28 ?c28 ?k28 ?a29 ?l29 ?c29 ?k29 ?a30 ?l30 ?c30 ?k30 ?a31 ?l31 ?c31 ?k31 ?a32 ?l32 ?c32 ?k32 ?a33 ?l33 ?c33 ?k33 ?a34 ?l34 ?c34 ?k34 ?a35 ?l35 ?c35 ?k35 ?a36 ?l36 ?c36 ?k36 ?a37 ?l37 ?c37 ?k37 ?a38 ?l38 ?c38 ?k38 ?a39 ?l39 ?c39 ?k39 ?a40 ?l40 ?c40 ?k40 ?a41 ?l41 ?c41 ?k41 ?a42 ?l42 ?c42 ?k42 ?a43 ?l43 ?c43 ?k43 ?a44 ?l44 ?c44 ?k44 ?a45 ?l45 ?c45 ?k45 ?a46 ?l46 ?c46 ?k46 ?a47 ?l47 ?c47 ?k47 ?a48 ?l48 ?c48 ?k48 ?a49 ?l49 ?c49 ?k49 ?a50 ?l50 ?c50 ?k50 ?a51 ?l51 ?c51 ?k51 ?a52 ?l52 ?c52 ?k52 ?a53 ?l53 ?c53 ?k53 ?a54 ?l54 ?c54 ?k54 ?a55 ?l55 ?c55 ?k55 ?a56 ?l56 ?c56 ?k56 ?a57 ?l57 ?c57 ?k57 ?a58 ?l58 ?c58 ?k58 ?a59 ?l59 ?c59 ?k59 ?a60 ?l60 ?c60 ?k60 ?pg ?hd ?po ?sa ?mk ?kc ?nI ?sf ?xL ?sE ?eE ?tE ?kE ?nE ?hE ?xE ?aA ?lA ?aW ?z_isinstance ?z_int ?z_bool ?z_str ?z_len ?z_tuple ?z_list ?z_all ?z_any ?z_max ?z_min ?z_sum ?z_sorted ?z_iter ?z_range ?z_abs ?z_dict ?z_set ?z_enumerate ?z_repr
    (case aC => k_is)
    (case aE => k_is)
    (case a0 => k_is)
    (case l0 => k_is)
    (case c0 => k_is)
    (case k0 => k_is)
    (case a1 => k_is)
    (case l1 => k_is)
    (case c1 => k_is)
    (case k1 => k_is)
    (case a2 => k_is)
    (case l2 => k_is)
    (case c2 => k_is)
    (case k2 => k_is)
    (case a3 => k_is)
    (case l3 => k_is)
    (case c3 => k_is)
    (case k3 => k_is)
    (case a4 => k_is)
    (case l4 => k_is)
    (case c4 => k_is)
    (case k4 => k_is)
    (case a5 => k_is)
    (case l5 => k_is)
    (case c5 => k_is)
    (case k5 => k_is)
    (case a6 => k_is)
    (case l6 => k_is)
    (case c6 => k_is)
    (case k6 => k_is)
    (case a7 => k_is)
    (case l7 => k_is)
    (case c7 => k_is)
    (case k7 => k_is)
    (case a8 => k_is)
    (case l8 => k_is)
    (case c8 => k_is)
    (case k8 => k_is)
    (case a9 => k_is)
    (case i9 => k_is)
    (case l9 => k_is)
    (case c9 => k_is)
    (case k9 => k_is)
    (case a10 => k_is)
    (case i10 => k_is)
    (case l10 => k_is)
    (case c10 => k_is)
    (case k10 => k_is)
    (case a11 => k_is)
    (case i11 => k_is)
    (case l11 => k_is)
    (case c11 => k_is)
    (case k11 => k_is)
    (case a12 => k_is)
    (case i12 => k_is)
    (case l12 => k_is)
    (case c12 => k_is)
    (case k12 => k_is)
    (case a13 => k_is)
    (case i13 => k_is)
    (case l13 => k_is)
    (case c13 => k_is)
    (case k13 => k_is)
    (case a14 => k_is)
    (case i14 => k_is)
    (case l14 => k_is)
    (case c14 => k_is)
    (case k14 => k_is)
    (case a15 => k_is)
    (case i15 => k_is)
    (case l15 => k_is)
    (case c15 => k_is)
    (case k15 => k_is)
    (case a16 => k_is)
    (case i16 => k_is)
    (case l16 => k_is)
    (case c16 => k_is)
    (case k16 => k_is)
    (case a17 => k_is)
    (case i17 => k_is)
    (case l17 => k_is)
    (case c17 => k_is)
    (case k17 => k_is)
    (case a18 => k_is)
    (case l18 => k_is)
    (case c18 => k_is)
    (case k18 => k_is)
    (case a19 => k_is)
    (case l19 => k_is)
    (case c19 => k_is)
    (case k19 => k_is)
    (case a20 => k_is)
    (case l20 => k_is)
    (case c20 => k_is)
    (case k20 => k_is)
    (case a21 => k_is)
    (case l21 => k_is)
    (case c21 => k_is)
    (case k21 => k_is)
    (case a22 => k_is)
    (case l22 => k_is)
    (case c22 => k_is)
    (case k22 => k_is)
    (case a23 => k_is)
    (case l23 => k_is)
    (case c23 => k_is)
    (case k23 => k_is)
    (case a24 => k_is)
    (case l24 => k_is)
    (case c24 => k_is)
    (case k24 => k_is)
    (case a25 => k_is)
    (case l25 => k_is)
    (case c25 => k_is)
    (case k25 => k_is)
    (case a26 => k_is)
    (case l26 => k_is)
    (case c26 => k_is)
    (case k26 => k_is)
    (case a27 => k_is)
    (case l27 => k_is)
    (case c27 => k_is)
    (case k27 => k_is)
    (case a28 => k_is)
    (case l28 => k_is)
    (case c28 => k_is)
    (case k28 => k_is)
    (case a29 => k_is)
    (case l29 => k_is)
    (case c29 => k_is)
    (case k29 => k_is)
    (case a30 => k_is)
    (case l30 => k_is)
    (case c30 => k_is)
    (case k30 => k_is)
    (case a31 => k_is)
    (case l31 => k_is)
    (case c31 => k_is)
    (case k31 => k_is)
    (case a32 => k_is)
    (case l32 => k_is)
    (case c32 => k_is)
    (case k32 => k_is)
    (case a33 => k_is)
    (case l33 => k_is)
    (case c33 => k_is)
    (case k33 => k_is)
    (case a34 => k_is)
    (case l34 => k_is)
    (case c34 => k_is)
    (case k34 => k_is)
    (case a35 => k_is)
    (case l35 => k_is)
    (case c35 => k_is)
    (case k35 => k_is)
    (case a36 => k_is)
    (case l36 => k_is)
    (case c36 => k_is)
    (case k36 => k_is)
    (case a37 => k_is)
    (case l37 => k_is)
    (case c37 => k_is)
    (case k37 => k_is)
    (case a38 => k_is)
    (case l38 => k_is)
    (case c38 => k_is)
    (case k38 => k_is)
    (case a39 => k_is)
    (case l39 => k_is)
    (case c39 => k_is)
    (case k39 => k_is)
    (case a40 => k_is)
    (case l40 => k_is)
    (case c40 => k_is)
    (case k40 => k_is)
    (case a41 => k_is)
    (case l41 => k_is)
    (case c41 => k_is)
    (case k41 => k_is)
    (case a42 => k_is)
    (case l42 => k_is)
    (case c42 => k_is)
    (case k42 => k_is)
    (case a43 => k_is)
    (case l43 => k_is)
    (case c43 => k_is)
    (case k43 => k_is)
    (case a44 => k_is)
    (case l44 => k_is)
    (case c44 => k_is)
    (case k44 => k_is)
    (case a45 => k_is)
    (case l45 => k_is)
    (case c45 => k_is)
    (case k45 => k_is)
    (case a46 => k_is)
    (case l46 => k_is)
    (case c46 => k_is)
    (case k46 => k_is)
    (case a47 => k_is)
    (case l47 => k_is)
    (case c47 => k_is)
    (case k47 => k_is)
    (case a48 => k_is)
    (case l48 => k_is)
    (case c48 => k_is)
    (case k48 => k_is)
    (case a49 => k_is)
    (case l49 => k_is)
    (case c49 => k_is)
    (case k49 => k_is)
    (case a50 => k_is)
    (case l50 => k_is)
    (case c50 => k_is)
    (case k50 => k_is)
    (case a51 => k_is)
    (case l51 => k_is)
    (case c51 => k_is)
    (case k51 => k_is)
    (case a52 => k_is)
    (case l52 => k_is)
    (case c52 => k_is)
    (case k52 => k_is)
    (case a53 => k_is)
    (case l53 => k_is)
    (case c53 => k_is)
    (case k53 => k_is)
    (case a54 => k_is)
    (case l54 => k_is)
    (case c54 => k_is)
    (case k54 => k_is)
    (case a55 => k_is)
    (case l55 => k_is)
    (case c55 => k_is)
    (case k55 => k_is)
    (case a56 => k_is)
    (case l56 => k_is)
    (case c56 => k_is)
    (case k56 => k_is)
    (case a57 => k_is)
    (case l57 => k_is)
    (case c57 => k_is)
    (case k57 => k_is)
    (case a58 => k_is)
    (case l58 => k_is)
    (case c58 => k_is)
    (case k58 => k_is)
    (case a59 => k_is)
    (case l59 => k_is)
    (case c59 => k_is)
    (case k59 => k_is)
    (case a60 => k_is)
    (case l60 => k_is)
    (case c60 => k_is)
    (case k60 => k_is)
    (case pg => k_is)
    (case hd => k_is)
    (case po => k_is)
    (case sa => k_is)
    (case mk => k_is)
    (case kc => k_is)
    (case nI => k_is)
    (case sf => k_is)
    (case xL => k_is)
    (case sE => k_is)
    (case eE => k_is)
    (case tE => k_is)
    (case kE => k_is)
    (case nE => k_is)
    (case hE => k_is)
    (case xE => k_is)
    (case aA => k_is)
    (case lA => k_is)
    (case aW => k_is)
    (case z_isinstance => k_is)
    (case z_int => k_is)
    (case z_bool => k_is)
    (case z_str => k_is)
    (case z_len => k_is)
    (case z_tuple => k_is)
    (case z_list => k_is)
    (case z_all => k_is)
    (case z_any => k_is)
    (case z_max => k_is)
    (case z_min => k_is)
    (case z_sum => k_is)
    (case z_sorted => k_is)
    (case z_iter => k_is)
    (case z_range => k_is)
    (case z_abs => k_is)
    (case z_dict => k_is)
    (case z_set => k_is)
    (case z_enumerate => k_is)
    (case z_repr => k_is)
