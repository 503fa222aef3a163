import PyProof.Rows.All
import Wide.All
import OpenK.AllK
import Wide.FinOn
import HandS.ForMost
import HandS.ForExc
import HandS.IsInst
import HandS.ClsMeth
import HandS.OwnEq
import HandS.Walk
import HandS.Style
import HandS.Small
import HandS.RaiseMore
import HandS.TupAny
import HandS.Codes
import HandS.ExcSuper
import KE.KExcSuper
import HandS.TryMany
import KE.KExcIs
import PyProof.ListStr
import HandS.Conv
import HandS.TupLe
import KE.KRevSl
import PyProof.SliceStr2
import HandS.Wide
import HandS.IntHex
import HandS.Bytes
import HandS.BytesMake
import HandS.More
import PyProof.Rows.ChunkEnd
import PySem.Challenge.RW_everyzoom_k07_tiles_as_bytes
set_option Elab.async false
set_option linter.all false
set_option maxRecDepth 100000
set_option maxHeartbeats 4000000
namespace EZ
open PySem L2 PyProof.Rows
abbrev St := L2.St

/-! defs that may ask for repr: run where no repr is under way -/
structure FnG (P : Program) (w : World) (K : PySem.W.Frag) (mg : Str → Option Value) (base : Heap) (CX : CXT) (k : Nat) (f : Addr) (fd : FuncData) (ps : List Str) (sp : Sp) : Prop where
  len : ∀ vs H Q E, sp vs H Q E → vs.length = ps.length
  run : ∀ (A : Around) (out : List Env) (s : Shared) (H : Hp) (ar : Args) (us : List Value) (vs : List V) (Q : VK) (E : XK),
    A.guards = some [] → Room k A → Env0 P w K mg base A out s H → BindsTo s fd ar (ps.zip us) → Vals vs us → sp vs H Q E →
    codeAny (model P w) A (.call (.ref f) ar) (CR CX out P w H s Q E) s
section
variable {P : Program} {w : World} {K : PySem.W.Frag} {mg : Str → Option Value} {base : Heap} {CX : CXT} {k : Nat} {f : Addr} {fd : FuncData} {ps : List Str} {sp : Sp}
theorem FnG.of (F : FnOk P w K mg base CX k f fd ps sp) : FnG P w K mg base CX k f fd ps sp :=
  ⟨F.len, fun A out s H ar us vs Q E _ => F.run A out s H ar us vs Q E⟩

theorem fnG_of {name qual : Str} {params : Arguments} {body : List Stmt} {scope : Scope} {dV kV doc pm cdv ct oc : Value} {an od : Option Addr} {osl : Array (Option Value)} {N : List Str}
    (lk : K.lookup f = some ⟨oc, od, .func (PySem.W.fnOf name qual params body scope dV kV doc pm an cdv ct), osl⟩) (hcd : PySem.W.codeIn K cdv qual = true) (S : FnScope N ps scope)
    (len : ∀ vs H Q E, sp vs H Q E → vs.length = ps.length)
    (hbody : ∀ (A : Around) (out : List Env) (s : Shared) (H : Hp) (vs : List V) (Q : VK) (E : XK), A.guards = some [] → Room k (A.deeper (envOfC qual scope s.heap.objs.size f cdv)) → sp vs H Q E →
      ∃ t, PSs (cxOf CX P w K mg base N qual scope f cdv A out s H E) body t ∧ t { nx := fun _ H' => Q .non H', rt := Q } (start N vs) H) :
    FnG P w K mg base CX (k + 1) f (PySem.W.fnOf name qual params body scope dV kV doc pm an cdv ct) ps sp := by
  refine ⟨len, fun A out s H ar us vs Q E gd room en bn rl want => ?_⟩
  have ln := len _ _ _ _ want
  have kin : K.In s.heap := en.mod.kin.keeps fun b o z => (en.bs b o z).1
  have nol : s.heap.NoLimit := en.mod.nolimit.keeps fun b o z => (en.bs b o z).1
  refine codeAny_call_function room.depth (kin _ _ lk) rfl S.co S.gen rfl (PySem.W.codeRec_of kin hcd) (bn _ _ _ _ ?_)
  refine wpAny_newFunctionEnv_cells S.kind ?kinds fun env ev s1 made => ?_
  case kinds =>
    rintro ⟨n, v⟩ hy
    rcases S.par n (List.of_mem_zip hy).1 with z | z
    · exact .inl z
    · exact .inr ⟨z, PySem.W.cellsFrom_some _ _ _ (.inl z)⟩
  subst ev
  refine ⟨nol.keeps made.toInCall.keep, codeAny_func ?_⟩
  obtain ⟨t, ht, want2⟩ := hbody A out s H vs Q E gd (room.deeper _) want
  have inv0 := inv_start (CX := CX) (qual := qual) (f := f) (cd := cdv) (E := E) S room.hd en ln rl made
  refine wpAny_mono (ht.run [] s1 (start N vs) H _ inv0 want2) (fun flow s' done => ?_) fun _ _ z => z
  cases flow with
  | ret u =>
    obtain ⟨v, st', H', J, rv, z⟩ := done
    exact ⟨v, H', J.os, J.bare, J.base, J.hok, rv, z⟩
  | next =>
    obtain ⟨st', H', J, z⟩ := done
    exact ⟨V.non, H', J.os, J.bare, J.base, J.hok, rfl, z⟩
  | brk => obtain ⟨_, _, _, z⟩ := done; exact z.elim
  | cont => obtain ⟨_, _, _, z⟩ := done; exact z.elim

theorem okG {x qual : Str} {st : Stmt} {N : List Str} (F : Fun K x qual st f fd) (S : FnScope N ps (defScope st)) (len : ∀ vs H Q E, sp vs H Q E → vs.length = ps.length)
    (hbody : ∀ (cdv : Value) (A : Around) (out : List Env) (s : Shared) (H : Hp) (vs : List V) (Q : VK) (E : XK), A.guards = some [] → Room k (A.deeper (envOfC qual (defScope st) s.heap.objs.size f cdv)) → sp vs H Q E →
      ∃ t, PSs (cxOf CX0 P w K mg base N qual (defScope st) f cdv A out s H E).nox (defBody st) t ∧ t { nx := fun _ H' => Q .non H', rt := Q } (start N vs) H) :
    FnG P w K mg base CX0 (k + 1) f fd ps sp := by
  obtain ⟨oc, od, kV, doc, pm, an, cdv, ct, osl, rfl, lk, hcd⟩ := F.ex
  refine fnG_of lk hcd S len fun A out s H vs Q E gd room want => ?_
  obtain ⟨t, ht, z⟩ := hbody cdv A out s H vs Q E gd room want
  exact ⟨t, ht.nox, z⟩
end

section
variable {X : Cx} {CX : CXT} {k : Nat} {f C : Addr} {fd : FuncData} {ps : List Str} {sp : Sp} {dvs : List V} {ds : List Value} {E : XK} {x : Str} {p pos : Pos} {e : Expr} {es : List Expr} {t : TA}
theorem run_fnG {pins : List (Addr × Obj)} {σ : St} {H : Hp} {s : Shared} {Q : VK} {us : List Value} {vs : List V} (F : FnG X.prog X.w X.K X.mg X.base CX k f fd ps sp) (gd : X.A.guards = some []) (room : Room k X.A) (bn : Binds X.K fd ps ds) (hd : Vals dvs ds) (hx : Passes CX X E)
    (I : Inv X pins σ H s) (r : Vals vs us) (want : sp (vs ++ dvs) H Q E) : wpAny (model X.prog X.w) X.A (call (.ref f) us) (EP X pins σ Q) X.xe s := by
  have both : Vals (vs ++ dvs) (us ++ ds) := r.append hd
  have ln : (us ++ ds).length = ps.length := both.length ▸ F.len _ _ _ _ want
  refine wpAny_call (codeAny_mono (F.run X.A X.stack s H ⟨us, []⟩ (us ++ ds) (vs ++ dvs) Q E gd room I.env0 (bn s us I.kIn ln) both want) ?_)
  rintro (er | fl) s' z
  · exact hx pins σ H s er s' I z
  · cases fl with
    | ret u => exact I.after z
    | next => exact False.elim z
    | brk => exact False.elim z
    | cont => exact False.elim z
theorem pe_callG (F : FnG X.prog X.w X.K X.mg X.base CX k f fd ps sp) (gd : X.A.guards = some []) (room : Room k X.A) (hg : Gl X x) (hm : X.mg x = some (.ref f)) (hk : PySem.W.keepIn X.K (.ref f) = true) (bn : Binds X.K fd ps ds) (hd : Vals dvs ds) (hx : Passes CX X E)
    (ha : PA X (e :: es) t) (h1 : (x == ("__debug__" : Str)) = false := by decide) (h2 : starEach (e :: es) X.env = (false, eval e X.env) :: starEach es X.env := by rfl) (h3 : (backTo pos (starEach es X.env)).any (·.1) = false := by rfl) :
    PE X (.Call (.Name x p) (e :: es) [] pos) (tCall sp dvs E t) := by
  refine ⟨fun pins s σ H Q I want => wpAny_Call_Name_kw (ld_glob I hg hm ?_ h1)⟩
  refine PySem.W.callWith_K (h₀ := X.base) I.ok.mod.kin hk (thn (ha.run pos pins s σ H _ I want) ?_) h2 h3
  rintro us s1 ⟨vs, H1, I1, r, z⟩
  exact ⟨I1.kIn, run_fnG F gd room bn hd hx I1 r z⟩
end

/-! the law's own call: the worlds's caller has no repr under way -/
theorem law_callG {P : Program} {w : World} {K : PySem.W.Frag} {mg mb : Str → Option Value} {k : Nat} {fa a : Addr} {fd : FuncData} {x : Str} {sp : Sp} {s1 : Shared} {vs : List Value} {ns : List Int}
    (KX : K.In s1.heap) (hns : s1.heap.Ns mainGlobals mg) (hb : s1.heap.Ns builtinsNs mb) (hbb : ∀ x : Str, x ≠ "__name__" → mb x = bootBuiltins x) (hlim : s1.heap.NoLimit) (hg : s1.gens = #[])
    (ha : s1.heap.get? a = some { cls := .type "list", data := .seq vs.toArray }) (hi : IntsAre vs ns) (hl : ns.length ≤ sizeLine) (room : Room k callerA)
    (F : ∀ base : Heap, K.In base → base.Ns mainGlobals mg → FnG P w K mg base CX0 k fa fd [x] sp) (bind1 : ∀ (s : Shared) (u : Value), BindsTo s fd ⟨[u], []⟩ [(x, u)])
    (want : ∀ H : Hp, SqL K H a (ns.map V.int) → sp [.ref a] H (fun v _ => v = .bl true) fun _ _ _ => False) :
    codeAny (model P w) callerA (.call (.ref fa) ⟨[.ref a], []⟩) (fun r s' => r = .ok (.ret (.bool true)) ∧ OldK s1.heap s'.heap ∧ s'.os = s1.os ∧ AllBare s'.gens) s1 := by
  have rv := vals_ints hi
  have lenV := hi.length
  have run : ∀ H : Hp, Only H → SqL K H a (ns.map V.int) → HOk P w H s1.heap → (∀ b, H b ≠ none → b = a) → (H a ≠ none → K.lookup a = none) →
      codeAny (model P w) callerA (.call (.ref fa) ⟨[.ref a], []⟩) (fun r s' => r = .ok (.ret (.bool true)) ∧ OldK s1.heap s'.heap ∧ s'.os = s1.os ∧ AllBare s'.gens) s1 := by
    intro H only sq ok onlyA notK
    have hides : ∀ {b : Addr} {o : Obj}, s1.heap.get? b = some o → H b = none → (hidT s1.heap H).get? b = some o := fun z n => hidT_get z n
    have isA : ∀ {b : Addr} {u : HO}, H b = some u → b = a := fun {b u} z => onlyA b (by rw [z]; simp)
    have dictFree : ∀ {b : Addr} {o : Obj} {es : Array DictEntry} {ep : Nat}, s1.heap.get? b = some o → o.data = .dict es ep → H b = none := by
      intro b o es ep z dd
      cases q : H b with
      | none => rfl
      | some u =>
        cases isA q
        rw [ha] at z
        cases z
        exact nomatch dd
    have keepNs : ∀ {b : Addr} {m : Str → Option Value}, s1.heap.Ns b m → (hidT s1.heap H).Ns b m := by
      rintro b m ⟨o, es, ep, z, dd, r⟩
      exact ⟨o, es, ep, hides z (dictFree z dd), dd, r⟩
    have keepK : K.In (hidT s1.heap H) := by
      intro b o z
      refine hides (KX b o z) ?_
      cases q : H b with
      | none => rfl
      | some u =>
        cases isA q
        rw [notK (by rw [q]; simp)] at z
        cases z
    have lim : (hidT s1.heap H).NoLimit := by
      obtain ⟨mc, h1, h2⟩ := hlim
      exact ⟨mc, keepNs h1, h2⟩
    have en : Env0 P w K mg (hidT s1.heap H) callerA [] s1 H :=
      ⟨rfl, ⟨keepK, keepNs hns, ⟨mb, keepNs hb, hbb⟩, lim⟩, fun b o z => of_hidT z, Nat.le_of_eq (hidT_size _ _), trivial, fun b z => (List.not_mem_nil z).elim, ok, .of_eq hg⟩
    refine codeAny_mono ((F _ keepK (keepNs hns)).run callerA [] s1 H ⟨[.ref a], []⟩ [.ref a] [.ref a] _ _ rfl room en (bind1 s1 (.ref a)) (.cons rfl .nil) (want H sq)) ?_
    rintro (er | fl) s' z
    · exact False.elim z
    · cases fl with
      | next => exact False.elim z
      | brk => exact False.elim z
      | cont => exact False.elim z
      | ret u =>
        obtain ⟨v, H', os, bare, un, ok', r', isT⟩ := z
        have isT : v = .bl true := isT
        subst isT
        obtain rfl : u = Value.bool true := r'
        refine ⟨rfl, OldK.of_keep fun b o at0 => ?_, os, bare⟩
        rcases only b with nn | ⟨ob, xs, fz⟩
        · exact un.keep b o at0 nn (fun z => (List.not_mem_nil z).elim) (fun z => (List.not_mem_nil z).elim)
        · have e1 := (ok b _ fz).1
          rw [at0] at e1
          cases e1
          exact (ok' b _ (un.frzs b _ _ fz)).1
  cases inK : K.lookup a with
  | some o =>
    have z := KX a o inK
    rw [ha] at z
    cases z
    refine run (fun _ => none) (fun _ => .inl rfl) (.inr ⟨_, vs.toArray, _, inK, rfl, rfl, rfl, ?_, by simpa using rv⟩) (fun b u z => nomatch z) (fun b z => (z rfl).elim) fun z => (z rfl).elim
    rw [List.size_toArray, lenV]
    exact hl
  | none =>
    let o0 : Obj := { cls := .type "list", data := .seq vs.toArray }
    refine run (fun b => if b = a then some (.frz o0 (.lst (ns.map V.int))) else none) (fun b => ?_) (.inl (.inr ⟨o0, if_pos rfl⟩)) (fun b u z => ?_) (fun b z => ?_) fun _ => inK
    · by_cases hb : b = a
      · exact .inr ⟨_, _, if_pos hb⟩
      · exact .inl (if_neg hb)
    · by_cases hb : b = a
      · subst hb
        simp only [if_true, Option.some.injEq] at z
        subst z
        exact ⟨ha, by rw [List.length_map]; exact hl, vs, _, rv, ha⟩
      · simp only [hb, if_false] at z
        cases z
    · by_cases hb : b = a
      · exact hb
      · exact absurd (if_neg hb) z

/-- the row's end by such a law -/
theorem walk_G {l : PySem.W.OpenLaw} {n k : Nat} {q : Program} {loose : List Str} {XP : (Str → Option Value) → Heap → Prop} {YP : World → Heap → Prop} {d : DefRec} {K : Params → PySem.W.Frag} {sp : PySem.W.Frag → Sp} {x : Str}
    (hn : l.most = some n) (hn2 : n ≤ sizeLine) (hdf : d.params.defaults = []) (room : Room k callerA) (hY : ∀ (w : World) (h : Heap), YP w h → (K w.params).In h)
    (F : ∀ (w : World) (mg : Str → Option Value) (fa : Addr) (h : Heap), (K w.params).In h → h.Ns mainGlobals mg → mg d.name = some (.ref fa) →
      ∃ fd : FuncData, (∀ (s : Shared) (u : Value), BindsTo s fd ⟨[u], []⟩ [(x, u)]) ∧
        ∀ base : Heap, (K w.params).In base → base.Ns mainGlobals mg → FnG l.prog w (K w.params) mg base CX0 k fa fd [x] (sp (K w.params)))
    (want : ∀ (K : PySem.W.Frag) (H : Hp) (a : Addr) (ns : List Int), ns.length ≤ n → SqL K H a (ns.map V.int) → sp K [.ref a] H (fun v _ => v = .bl true) fun _ _ _ => False) :
    PySem.W.WalkO q loose XP YP l.row.toRowW d [] (fun f vs => PySem.call f vs) := by
  refine Att.attach_call hn hdf ?_
  intro w s0 s1 mg mb fa o pm cd doc a vs ns G Y _ _ _ atLaw obj inta ln gens
  obtain ⟨fd, bn, FF⟩ := F w mg fa _ (hY w _ Y) G.T.g atLaw
  exact law_callG (hY w _ Y) G.T.g G.T.b G.T.builtins G.T.nolimit gens obj inta (Nat.le_trans ln hn2) room FF bn (fun H sq => want _ H a ns ln sq)
end EZ
namespace EZ
open PySem L2 PyProof.Rows

section
variable {X : Cx} {pins : List (Addr × Obj)} {σ : St} {H : Hp} {s : Shared} {CX : CXT} {k : Nat} {f C : Addr} {sp : Sp} {E : XK}
/-- a def of the text runs inside a builtin that the body X has called -/
theorem run_at {A : Around} {Q : VK} {us : List Value} {vs : List V} (F : FnR X.prog X.w X.K X.mg X.base CX k f sp) (room : Room k A) (fr : A.frames = some X.stack) (hx : Passes CX X E) (I : Inv X pins σ H s) (r : Vals vs us) (want : sp vs H Q E) :
    wpAny (model X.prog X.w) A (call (.ref f) us) (EP X pins σ Q) X.xe s := by
  have en : Env0 X.prog X.w X.K X.mg X.base A X.stack s H := ⟨fr, I.env0.mod, I.env0.bs, I.env0.bsz, I.env0.funs, I.env0.frf, I.env0.hok, I.env0.bare⟩
  refine wpAny_call (codeAny_mono (F A X.stack s H us vs Q E room en r want) ?_)
  rintro (er | fl) s' z
  · exact hx pins σ H s er s' I z
  · cases fl with
    | ret u => exact I.after z
    | next => exact False.elim z
    | brk => exact False.elim z
    | cont => exact False.elim z
theorem relv_noNI {v : V} {u : Value} (r : RelV v u) : u ≠ .notImplemented := by
  cases v <;> first | (intro z; subst z; cases r; done) | (intro z; subst z; obtain ⟨_, z⟩ := r; cases z)
/-- what the text's class at C has for a comparison -/
structure Sm (K : PySem.W.Frag) (C : Addr) (m : Str) (f : Addr) : Prop where
  at_ : PySem.W.findIn K (.ref C) m = some (some (.ref f))
  fn : PySem.W.isFn K (.ref f) = true
def rCmpO (K : PySem.W.Frag) (C : Addr) (sp : Sp) (E : XK) : R2 := fun x y H Q => ∃ a dx fs t, x = .ref a ∧ H a = some (.ins C dx fs) ∧ TyX K H y t ∧ PySem.W.notFirst K C t = true ∧ sp [x, y] H Q E
theorem ty_looks {x : V} {u t : Value} (I : Inv X pins σ H s) (rx : RelV x u) (ty : TyX X.K H x t) : PySem.W.Looks (model X.prog X.w) s.heap (typeOf u) t := by
  obtain ⟨P, kx, hp, _⟩ := kit_of I rx ty
  exact kx.ty _ _ I.kIn hp
theorem op_cmpO {op : CmpOp} (S : Sm X.K C (cmpInfo op).2.1 f) (F : FnR X.prog X.w X.K X.mg X.base CX k f sp) (room : Room k X.A) (hx : Passes CX X E) (hop : ∀ a b, compareOp op a b = richCompare op a b := by intro _ _; rfl) :
    OpR X (compareOp op) (rCmpO X.K C sp E) := by
  intro pins s σ H x y v u Q I rx ry h
  obtain ⟨a, dx, fs, t, rfl, ha, ty, nf, want⟩ := h
  cases rx
  obtain ⟨mA, J, _⟩ := ins_get I.hok ha
  obtain ⟨od, J, _⟩ := J.look
  obtain ⟨m, fr⟩ := I.fr
  rw [hop]
  refine PySem.W.cmp_K (op := op) (tb := t) room.units0 fr I.ok.mod.kin J (ty_looks I ry ty) nf S.at_ S.fn ?_
  refine wpAny_mono (run_at (vs := [V.ref a, y]) F room I.ok.frames hx I (.cons rfl (.cons ry .nil)) want) (fun r s' z => ?_) fun _ _ z => z
  obtain ⟨v2, H2, I2, r2, q2⟩ := z
  have n := relv_noNI r2
  unfold PySem.W.CmpBack
  split
  · exact absurd rfl n
  · exact ⟨v2, H2, I2, r2, q2⟩

/-! != by object's own way: __eq__ asked, its answer turned -/
theorem ifBound_B {M : Model} {A : Around} {E' : Value → Shared → Prop} {K : PySem.W.Frag} {x : Addr} {ox : Obj} {od : Option Obj} {name : Str} {id : String} {args : List Value} {Q : Option Value → Shared → Prop} (kin : K.In s.heap) (I : PySem.W.InstAt s.heap x ox C od) (hs : PySem.W.findIn K (.ref C) name = some (some (.builtin id)))
    (hb : ∀ self, bindSpecial (.builtin id) self = pure (.builtin id, [self])) (h : wpAny M A (call (.builtin id) (.ref x :: args)) (fun v => Q (some v)) E' s) : wpAny M A (callSpecialIfBound? (.ref x) name args) Q E' s := by
  simp only [callSpecialIfBound?, bindSpecialIfBound?]
  refine wpAny_holding (wpAny_bind (wpAny_bind (wpAny_bind (I.type.here ((PySem.W.looks_findIn kin hs).here ?_)))))
  refine wpAny_bind (wpAny_askSetting (wpAny_ite ?_))
  have fin : wpAny M A (call (.builtin id) ([.ref x] ++ args) >>= fun v => pure (some v)) Q E' s := wpAny_bind (wpAny_mono h (fun v s' z => wpAny_pure z) fun _ _ z => z)
  have bd : PySem.W.Looks M s.heap (bindSpecial (.builtin id) (.ref x)) (.builtin id, [.ref x]) := PySem.W.Looks.of_pure (hb _)
  split
  · exact wpAny_bind (bd.here (wpAny_pure (by exact fin)))
  · exact wpAny_tryCatch (wpAny_bind (bd.here (wpAny_pure (by exact fin))))
theorem ne_own {A : Around} {K : PySem.W.Frag} {x : Addr} {ox : Obj} {od : Option Obj} {b tb : Value} {E' : Value → Shared → Prop} {prog : Program} {w : World} {Q : Value → Shared → Prop} (hu : A.units + 2 < cLine) (kin : K.In s.heap) (I : PySem.W.InstAt s.heap x ox C od)
    (hb : PySem.W.Looks (model prog w) s.heap (typeOf b) tb) (nf : PySem.W.notFirst K C tb = true) (hn : PySem.W.findIn K (.ref C) "__ne__" = some (some (.builtin "object.__ne__"))) (hm : PySem.W.mroIn K C (.type "object") = some true)
    (S : Sm K C "__eq__" f) (h : wpAny (model prog w) A.in1 (call (.ref f) [.ref x, b]) (fun v s' => ∃ z, v = .bool z ∧ Q (.bool (!z)) s') E' s) : wpAny (model prog w) A (richCompare .NotEq (.ref x) b) Q E' s := by
  have one : wpAny (model prog w) A (tryCompare (.ref x) (cmpInfo .NotEq).2.1 b) (fun r s' => ∃ v, r = some v ∧ Q v s') E' s := by
    unfold tryCompare
    refine wpAny_bind (ifBound_B kin I hn PySem.F.cmp_object.ne.bind ?_)
    refine wpAny_call (codeAny_call_builtin PySem.F.cmp_object.ne.plain PySem.F.cmpEntry_ne (PySem.W.check_slot (i := "object.__ne__") (owner := "object") (n := "__ne__") PySem.F.cmpKind_ne PySem.F.cmpSplit_ne (I.type.andThen (PySem.W.looks_mroIn kin hm)) (PySem.F.cmpArgs_ne _ _) ?_))
    unfold Builtin.«object.__ne__»
    refine wpAny_bind (m := slotArgs "__ne__" 1 _) (wpAny_pure ?_)
    refine wpAny_bind (m := cRoomFor _ _) (wpAny_cRoomFor (show A.units + 1 < cLine by omega) ?_)
    refine wpAny_bind (m := callSpecialIfBound? (.ref x) (Str.ofString "__eq__") _) (PySem.W.ifBound_K kin I S.at_ S.fn (wpAny_mono h (fun v s' z => ?_) fun _ _ z => z))
    obtain ⟨z, rfl, q⟩ := z
    refine wpAny_bind (wpAny_pure ?_)
    exact wpAny_pure (wpAny_pure ⟨_, rfl, q⟩)
  unfold richCompare
  simp only [oneThing_ref]
  refine wpAny_holding (wpAny_bind (wpAny_cRoomFor (by omega) ?_))
  refine wpAny_bind (I.type.here (wpAny_bind (hb.here ?_)))
  have two : ∀ r : Option Value, ∀ s', (∃ v, r = some v ∧ Q v s') → ∃ v, r = some v ∧ Q v s' := fun _ _ z => z
  split
  · rename_i q
    have e : PySem.W.subIn K tb (.ref C) = some false := by
      rcases Bool.or_eq_true_iff.mp nf with e | e
      · rw [beq_iff_eq.mp e] at q; simp at q
      · exact beq_iff_eq.mp e
    refine wpAny_bind ((PySem.W.looks_subIn kin e).here ?_)
    simp only [Bool.false_eq_true, if_false]
    refine wpAny_bind (wpAny_mono one (fun r s' z => ?_) fun _ _ z => z)
    obtain ⟨v, rfl, q⟩ := z
    exact wpAny_pure q
  · refine wpAny_bind (wpAny_pure ?_)
    simp only [Bool.false_eq_true, if_false]
    refine wpAny_bind (wpAny_mono one (fun r s' z => ?_) fun _ _ z => z)
    obtain ⟨v, rfl, q⟩ := z
    exact wpAny_pure q
def rNeO (K : PySem.W.Frag) (C : Addr) (sp : Sp) (E : XK) : R2 := fun x y H Q => ∃ a dx fs t, x = .ref a ∧ H a = some (.ins C dx fs) ∧ TyX K H y t ∧ PySem.W.notFirst K C t = true ∧ sp [x, y] H (fun v H' => ∃ z, v = .bl z ∧ Q (.bl (!z)) H') E
theorem op_neO (S : Sm X.K C "__eq__" f) (hn : PySem.W.findIn X.K (.ref C) "__ne__" = some (some (.builtin "object.__ne__"))) (hm : PySem.W.mroIn X.K C (.type "object") = some true) (F : FnR X.prog X.w X.K X.mg X.base CX k f sp) (room : Room (k + 1) X.A) (hx : Passes CX X E) :
    OpR X (compareOp .NotEq) (rNeO X.K C sp E) := by
  intro pins s σ H x y v u Q I rx ry h
  obtain ⟨a, dx, fs, t, rfl, ha, ty, nf, want⟩ := h
  cases rx
  obtain ⟨mA, J, _⟩ := ins_get I.hok ha
  obtain ⟨od, J, _⟩ := J.look
  have un := room.units
  refine ne_own (by omega) I.kIn J (ty_looks I ry ty) nf hn hm S ?_
  refine wpAny_mono (run_at (vs := [V.ref a, y]) F room.in1 I.ok.frames hx I (.cons rfl (.cons ry .nil)) want) (fun r s' z => ?_) fun _ _ z => z
  obtain ⟨v2, H2, I2, r2, z2, rfl, q2⟩ := z
  cases r2
  exact ⟨z2, rfl, .bl _, H2, I2, rfl, q2⟩

/-! len by an own __len__ -/
def rLenO (C : Addr) (sp : Sp) (E : XK) : List V → Hp → VK → Prop := fun xs H Q => ∃ a dx fs, xs = [.ref a] ∧ H a = some (.ins C dx fs) ∧ sp [.ref a] H (fun v H' => ∃ i : Int, v = .int i ∧ 0 ≤ i ∧ i < 2 ^ 63 ∧ Q (.int i) H') E
theorem call_lenO (S : Sm X.K C "__len__" f) (F : FnR X.prog X.w X.K X.mg X.base CX k f sp) (room : Room (k + 1) X.A) (hx : Passes CX X E) : CallR X (.builtin "len") (rLenO C sp E) := by
  intro pins s σ H vs us Q I r h
  obtain ⟨a, dx, fs, rfl, ha, want⟩ := h
  obtain ⟨u, rfl, ru⟩ := vals1 r
  cases ru
  obtain ⟨mA, J, _⟩ := ins_get I.hok ha
  obtain ⟨od, J, _⟩ := J.look
  obtain ⟨m, fr⟩ := I.fr
  refine PySem.W.len_K fr I.ok.mod.kin J S.at_ S.fn ?_
  refine wpAny_mono (run_at (vs := [V.ref a]) F room.in1 I.ok.frames hx I (.cons rfl .nil) want) (fun r s' z => ?_) fun _ _ z => z
  obtain ⟨v2, H2, I2, r2, i, rfl, h0, h1, q2⟩ := z
  obtain ⟨t, rfl⟩ := r2
  exact ⟨⟨h0, h1⟩, .int i, H2, I2.tok _, ⟨_, rfl⟩, q2⟩

/-! str by an own __str__ -/
def rStrO (C : Addr) (sp : Sp) (E : XK) : List V → Hp → VK → Prop := fun xs H Q => ∃ a dx fs, xs = [.ref a] ∧ H a = some (.ins C dx fs) ∧ sp [.ref a] H (fun v H' => ∃ z : Str, v = .str z ∧ Q (.str z) H') E
theorem call_strO (S : Sm X.K C "__str__" f) (F : FnR X.prog X.w X.K X.mg X.base CX k f sp) (room : Room (k + 2) X.A) (hx : Passes CX X E) : CallR X (.type "str") (rStrO C sp E) := by
  intro pins s σ H vs us Q I r h
  obtain ⟨a, dx, fs, rfl, ha, want⟩ := h
  obtain ⟨u, rfl, ru⟩ := vals1 r
  cases ru
  obtain ⟨mA, J, _⟩ := ins_get I.hok ha
  obtain ⟨od, J, _⟩ := J.look
  have un := room.units
  refine PySem.W.kso_call (show X.A.units + 1 + 1 < cLine by omega) I.kIn J S.at_ S.fn ?_
  refine wpAny_mono (run_at (vs := [V.ref a]) F (Room.in1 room.in1) I.ok.frames hx I (.cons rfl .nil) want) (fun r s' z => ?_) fun _ _ z => z
  obtain ⟨v2, H2, I2, r2, i, rfl, q2⟩ := z
  obtain ⟨t, rfl⟩ := r2
  exact ⟨.str i, H2, I2, ⟨_, rfl⟩, q2⟩

/-! repr of data -/
def rReprD (K : PySem.W.Frag) : List V → Hp → VK → Prop := fun xs H Q => ∃ x d, xs = [x] ∧ Dp K H x d ∧ d.showable = true ∧ d.hasDict = false ∧ d.depth ≤ 60 ∧ d.shown.length ≤ sizeLine ∧ Q (.str d.shown) H
theorem call_reprD (gd : X.A.guards = some []) (hu : X.A.units + 64 < cLine) : CallR X (.builtin "repr") (rReprD X.K) := by
  intro pins s σ H vs us Q I r h
  obtain ⟨x, d, rfl, hd, sh, nd, dp, ln, q⟩ := h
  obtain ⟨u, rfl, ru⟩ := vals1 r
  cases x with
  | ref a =>
    obtain ⟨as, rd⟩ := Dp.reads I d _ _ hd ru
    cases ru
    refine repr_of_reads' rd sh (PyData.noDict_hsm nd) gd (by omega) (fun _ _ z => z) (fun h' u tk keep => ?_) ln
    exact ⟨.str _, H, I.kept keep, ⟨_, rfl⟩, q⟩
  | non =>
    cases hd; cases ru
    exact PySem.P.repr_of_none ⟨.str _, H, I.tok _, ⟨_, rfl⟩, q⟩
  | bl b =>
    cases hd; cases ru
    exact PySem.P.repr_of_bool ⟨.str _, H, I.tok _, ⟨_, rfl⟩, q⟩
  | int i =>
    cases hd
    obtain ⟨t, rfl⟩ := ru
    exact PySem.P.repr_of_int (by simpa [PyData.showable] using sh) ⟨.str _, H, I.tok _, ⟨_, rfl⟩, q⟩
  | str z =>
    cases hd
    obtain ⟨t, rfl⟩ := ru
    exact PySem.P.repr_of_str (Q := EP X pins σ Q) ⟨.str _, H, I.tok _, ⟨_, rfl⟩, q⟩ ln
  | byt b => cases hd
  | flt b => cases hd
  | ty b => cases hd

/-! a text so many times -/
theorem op_mul_str : OpR X (binaryOp .Mult) (fun x y H Q => ∃ z n, x = .str z ∧ y = .int n ∧ (z.length ≤ 16 ∧ -1000000 ≤ n ∧ n ≤ 1000000) ∧ Q (.str (Txt.mul z n)) H) := by
  intro pins s σ H x y v u Q I rx ry h
  obtain ⟨z, n, rfl, rfl, ⟨h0, h1, h2⟩, q⟩ := h
  obtain ⟨t, rfl⟩ := rx
  obtain ⟨t', rfl⟩ := ry
  exact SB.mul (mulOk_of 16 1000000 h0 h2 (by omega) (by decide) (by decide)) fun t' k => ⟨.str _, H, I.tok _, ⟨_, rfl⟩, q⟩
end
end EZ
namespace EZ
open PySem L2
/-! steps through readings -/
section
variable {σ : St} {H : Hp} {Q : VK} {D : Ends} {ta tb te : TE} {t u : TS} {c c' : TT} {tr : TA} {QA : List V → Hp → Prop} {QT : Bool → Hp → Prop}
theorem dq_int {i j : Int} : decide (V.int i = V.int j) = decide (i = j) := by
  by_cases q : i = j <;> simp [q]
theorem dq_str {i j : Str} : decide (V.str i = V.str j) = decide (i = j) := by
  by_cases q : i = j <;> simp [q]
theorem g_seq (h : t { D with nx := u D } σ H) : tSeq t u D σ H := h
theorem g_next (h : D.nx σ H) : tNext D σ H := h
theorem g_ifs (h : c σ H fun b H1 => if b = true then t D σ H1 else u D σ H1) : tIfS c t u D σ H := h
theorem g_test {te : TE} (h : te σ H fun x H' => ∃ k, x = .bl k ∧ QT k H') : tTest te σ H QT := h
theorem g_B {te : TE} (h : te σ H fun x H' => ∃ k, x = .bl k ∧ QT k H') : tB te σ H QT := h
theorem g_bl {b : Bool} {R : Bool → Prop} (h : R b) : ∃ k, V.bl b = .bl k ∧ R k := ⟨b, rfl, h⟩
theorem g_intE {i : Int} {R : Int → Prop} (h : R i) : ∃ k, V.int i = .int k ∧ R k := ⟨i, rfl, h⟩
theorem g_strE {i : Str} {R : Str → Prop} (h : R i) : ∃ k, V.str i = .str k ∧ R k := ⟨i, rfl, h⟩
theorem g_and (h : c σ H fun b H1 => if b = true then c' σ H1 QT else QT false H1) : tAnd c c' σ H QT := h
theorem g_or (h : c σ H fun b H1 => if b = true then QT true H1 else c' σ H1 QT) : tOr c c' σ H QT := h
theorem g_not (h : c σ H fun b H1 => QT (!b) H1) : tNot c σ H QT := h
theorem g_op {r : R2} (h : ta σ H fun x H1 => tb σ H1 fun y H2 => r x y H2 Q) : tOp r ta tb σ H Q := h
theorem g_un {r : V → Hp → VK → Prop} (h : ta σ H fun x H1 => r x H1 Q) : tUn r ta σ H Q := h
theorem g_c {v : V} (h : Q v H) : tC v σ H Q := h
theorem g_var {i : Nat} {v : V} (e : σ[i]? = some (some v)) (h : Q v H) : tVar i σ H Q := ⟨v, e, h⟩
theorem g_cons (h : ta σ H fun x H1 => tr σ H1 fun xs H2 => QA (x :: xs) H2) : tCons ta tr σ H QA := h
theorem g_nil (h : QA [] H) : tNil σ H QA := h
theorem g_cb {r : List V → Hp → VK → Prop} (h : tr σ H fun vs H1 => r vs H1 Q) : tCB r tr σ H Q := h
theorem g_asg {g : TG} (h : te σ H fun x H1 => g x σ H1 D.nx) : tAsg te g D σ H := h
theorem g_name {i : Nat} {v : V} {R : St → Hp → Prop} (h : R (σ.set i (some v)) H) : gName i v σ H R := h
theorem g_sub {to ti : TE} {ts : TSet} {v : V} {R : St → Hp → Prop} (h : to σ H fun o H1 => ti σ H1 fun i H2 => ts o i v H2 fun H3 => R σ H3) : gSub to ti ts v σ H R := h
theorem g_ret (h : te σ H D.rt) : tRet te D σ H := h
theorem g_drop (h : te σ H fun _ H1 => D.nx σ H1) : tDrop te D σ H := h
theorem g_par {i j : Nat} (h : tr σ H fun vs H1 => ∃ v w, vs = [v, w] ∧ D.nx ((σ.set i (some v)).set j (some w)) H1) : tPar i j tr D σ H := h
theorem g_par2 {v w : V} {R : V → V → Prop} (h : R v w) : ∃ v' w', [v, w] = [v', w'] ∧ R v' w' := ⟨v, w, rfl, h⟩
theorem g_if (h : c σ H fun b H1 => if b = true then ta σ H1 Q else tb σ H1 Q) : tIf c ta tb σ H Q := h
theorem g_andV (h : ta σ H fun x H1 => ∃ b, x = .bl b ∧ if b = true then tb σ H1 Q else Q (.bl false) H1) : tAndV ta tb σ H Q := h
theorem g_orV (h : ta σ H fun x H1 => ∃ b, x = .bl b ∧ if b = true then Q (.bl true) H1 else tb σ H1 Q) : tOrV ta tb σ H Q := h
theorem g_notV (h : ta σ H fun x H1 => ∃ b, x = .bl b ∧ Q (.bl (!b)) H1) : tNotV ta σ H Q := h
theorem g_I0 {g : Int → Int → V} {i j : Int} (h : Q (g i j) H) : rI0 g (.int i) (.int j) H Q := ⟨i, j, rfl, rfl, h⟩
theorem g_I {C : Int → Int → Prop} {g : Int → Int → V} {i j : Int} (hc : C i j) (h : Q (g i j) H) : rI C g (.int i) (.int j) H Q := ⟨i, j, rfl, rfl, hc, h⟩
theorem g_U {g : Int → V} {i : Int} (h : Q (g i) H) : rU g (.int i) H Q := ⟨i, rfl, h⟩
theorem g_eqI {i j : Int} (h : Q (.bl (decide (i = j))) H) : rEq (.int i) (.int j) H Q := ⟨rfl, by rw [dq_int]; exact h⟩
theorem g_neI {i j : Int} (h : Q (.bl (!decide (i = j))) H) : rNe (.int i) (.int j) H Q := ⟨rfl, by rw [dq_int]; exact h⟩
theorem g_eqS {i j : Str} (h : Q (.bl (decide (i = j))) H) : rEq (.str i) (.str j) H Q := ⟨rfl, by rw [dq_str]; exact h⟩
theorem g_neS {i j : Str} (h : Q (.bl (!decide (i = j))) H) : rNe (.str i) (.str j) H Q := ⟨rfl, by rw [dq_str]; exact h⟩
theorem g_ixL {K : PySem.W.Frag} {p : Addr} {xs : List V} {i : Int} {v : V} (hs : SqL K H p xs) (ha : atI xs i = some v) (h : Q v H) : rIxL K (.ref p) (.int i) H Q := ⟨p, xs, i, v, rfl, rfl, hs, ha, h⟩
theorem g_ixT {K : PySem.W.Frag} {p : Addr} {xs : List V} {i : Int} {v : V} (hs : SqT K H p xs) (ha : atI xs i = some v) (h : Q v H) : rIxT K (.ref p) (.int i) H Q := ⟨p, xs, i, v, rfl, rfl, hs, ha, h⟩
theorem g_setL {p : Addr} {xs : List V} {k : Int} {j : Nat} {v : V} {R : Hp → Prop} (hp : H p = some (.lst xs)) (hj : ixN xs.length k = some j) (h : R (upd H p (.lst (xs.set j v)))) : rSetL (.ref p) (.int k) v H R := ⟨p, xs, k, j, rfl, rfl, hp, hj, h⟩
theorem g_part {QO : Option Int → Hp → Prop} (h : te σ H fun x H1 => ∃ i, x = .int i ∧ QO (some i) H1) : tPart te σ H QO := h
theorem g_noPart {QO : Option Int → Hp → Prop} (h : QO none H) : tNoPart σ H QO := h
theorem g_sl {r : V → Option Int → Option Int → Hp → VK → Prop} {tl th : TO} (h : te σ H fun x H1 => tl σ H1 fun l H2 => th σ H2 fun u H3 => r x l u H3 Q) : L2.tSl r te tl th σ H Q := h
theorem g_int1 {i : Int} {R : Int → Prop} {R' : Bool → Prop} (h : R i) : (∃ j, [V.int i] = [V.int j] ∧ R j) ∨ ∃ k, [V.int i] = [V.bl k] ∧ R' k := .inl ⟨i, rfl, h⟩
theorem g_int2 {i j : Int} {R : Int → Int → Prop} (h : R i j) : ∃ a b, [V.int i, V.int j] = [V.int a, V.int b] ∧ R a b := ⟨i, j, rfl, h⟩
theorem g_intL {i : Int} {R : Int → Prop} (h : R i) : ∃ a, [V.int i] = [V.int a] ∧ R a := ⟨i, rfl, h⟩
theorem g_strL {i : Str} {R : Str → Prop} (h : R i) : ∃ a, [V.str i] = [V.str a] ∧ R a := ⟨i, rfl, h⟩
theorem g_ss {i j : Str} {R : Str → Str → Prop} (h : R i j) : ∃ a b, V.str i = .str a ∧ V.str j = .str b ∧ R a b := ⟨i, j, rfl, rfl, h⟩
theorem g_si {i : Str} {j : Int} {R : Str → Int → Prop} (h : R i j) : ∃ a b, V.str i = .str a ∧ V.int j = .int b ∧ R a b := ⟨i, j, rfl, rfl, h⟩
theorem g_call {sp : Sp} {E : XK} (h : tr σ H fun vs H1 => sp (vs ++ []) H1 Q E) : tCall sp [] E tr σ H Q := h
/-- a new object o -/
def Alloc (o : HO) (H : Hp) (Q : VK) : Prop := ∀ p, H p = none → Q (.ref p) (upd H p o)
theorem alloc {o : HO} (h : ∀ p H2, H p = none → Same H H2 → H2 p = some o → Q (.ref p) H2) : Alloc o H Q := fun p np =>
  h p _ np (fun b u e => by rw [upd_ne (ne_of_none e np)]; exact e) upd_same
theorem g_lst (h : tr σ H fun xs H1 => xs.length ≤ sizeLine ∧ Alloc (.lst xs) H1 Q) : tLst tr σ H Q := h
theorem g_tup (h : tr σ H fun xs H1 => xs.length ≤ sizeLine ∧ Alloc (.tup xs) H1 Q) : tTup tr σ H Q := h
theorem g_len {xs : List V} {R : Prop} (h : xs.length ≤ 1000) (k : R) : xs.length ≤ sizeLine ∧ R := ⟨Nat.le_trans h (by decide), k⟩
end
end EZ
namespace EZ
open PySem L2
section
variable {J : It} {n : Nat} {G : Hp → Prop} {Y : Nat → Hp → V → Hp → Prop} {g : TG} {tt : TT} {te : TE} {vs : List Nat} {σ : St} {H1 : Hp} {D : Addr} {Qd : Hp → Prop}
abbrev LcGoal (J : It) (g : TG) (tt : TT) (te : TE) (vs : List Nat) (σ : St) (H1 : Hp) (D : Addr) (Qd : Hp → Prop) : Prop :=
  ∃ W : Nat → Nat → Hp → Prop, (∃ m, W 0 m (upd H1 D (.lst []))) ∧ ∀ i m H, W i m H →
      (J.stop i H ∧ Qd H) ∨ (J.go i H ∧ ∃ Nx : Hp → Prop, (∀ H', Nx H' → ∃ m', m' < m ∧ W (i + 1) m' H') ∧ ∀ x H', J.yld i H x H' → g x (wipe σ vs) H' fun σ2 H2 => wipe σ2 vs = wipe σ vs ∧ tt σ2 H2 fun b H3 =>
        if b = true then te σ2 H3 fun y H4 => ∃ acc, H4 D = some (.lst acc) ∧ acc.length < sizeLine ∧ Nx (upd H4 D (.lst (acc ++ [y]))) else Nx H3)
theorem fm_len {α β : Type} (f : α → Option β) : ∀ l : List α, (l.filterMap f).length ≤ l.length
  | [] => Nat.le_refl _
  | a :: l => by
    rw [List.filterMap_cons]
    have := fm_len f l
    split <;> simp <;> omega
/-- a comprehension whose items are told by the turn: f i, or left out -/
theorem lcF (w : Walk J n G Y) (f : Nat → Option V) (hn : n ≤ 100000) (hD : H1 D = none) (hG : ∀ H', Same H1 H' → G H')
    (elt : ∀ i x H2 H3 (R : VK) (R' : Hp → Prop), i < n → Same H1 H2 → Y i H2 x H3 → (∀ v H6, f i = some v → Same H2 H6 → R v H6) → (∀ H6, f i = none → Same H2 H6 → R' H6) →
      g x (wipe σ vs) H3 fun σ2 H4 => wipe σ2 vs = wipe σ vs ∧ tt σ2 H4 fun b H5 => if b = true then te σ2 H5 R else R' H5)
    (fin : ∀ H', Same H1 H' → H' D = some (.lst ((List.range n).filterMap f)) → Qd H') : LcGoal J g tt te vs σ H1 D Qd := by
  refine lc_it w (fun i H' => Same H1 H' ∧ H' D = some (.lst ((List.range i).filterMap f))) ⟨fun b o e => by rw [upd_ne (ne_of_none e hD)]; exact e, upd_same⟩ (fun i H _ p => hG H p.1) ?_ (fun H p => fin H p.1 p.2)
  rintro i x H2 H3 hi ⟨sm, hd⟩ y
  refine elt i x H2 H3 _ _ hi sm y (fun v H6 fv s6 => ⟨_, s6 _ _ hd, ?_, ?_, ?_⟩) (fun H6 fv s6 => ⟨sm.trans s6, ?_⟩)
  · have := fm_len f (List.range i)
    rw [List.length_range] at this
    exact Nat.lt_of_lt_of_le (show _ < 100001 by omega) (by decide)
  · intro b o e
    rw [upd_ne (ne_of_none e hD)]
    exact s6 _ _ (sm _ _ e)
  · rw [upd_same, List.range_succ, List.filterMap_append]
    simp [fv]
  · rw [s6 _ _ hd, List.range_succ, List.filterMap_append]
    simp [fv]
theorem lcM (w : Walk J n G Y) (f : Nat → V) (hn : n ≤ 100000) (hD : H1 D = none) (hG : ∀ H', Same H1 H' → G H')
    (elt : ∀ i x H2 H3 (R : VK) (R' : Hp → Prop), i < n → Same H1 H2 → Y i H2 x H3 → (∀ H6, Same H2 H6 → R (f i) H6) →
      g x (wipe σ vs) H3 fun σ2 H4 => wipe σ2 vs = wipe σ vs ∧ tt σ2 H4 fun b H5 => if b = true then te σ2 H5 R else R' H5)
    (fin : ∀ H', Same H1 H' → H' D = some (.lst ((List.range n).map f)) → Qd H') : LcGoal J g tt te vs σ H1 D Qd := by
  refine lcF w (fun i => some (f i)) hn hD hG (fun i x H2 H3 R R' hi sm y k _ => elt i x H2 H3 R R' hi sm y fun H6 s6 => k _ H6 rfl s6) (fun H' sm hd => fin H' sm ?_)
  rw [hd, List.filterMap_eq_map']
/-- a comprehension that draws from a box -/
theorem lcB {b : Addr} {Box : Hp → Addr → Prop} (w : Walk J n G Y) (Good : Nat → V → Prop) (hn : n ≤ 100000) (hD : H1 D = none) (hb : D ≠ b) (hB : Box H1 b) (mono : ∀ H H', (H' b = H b) → Box H b → Box H' b)
    (hG : ∀ H', (∀ a o, H1 a = some o → a ≠ b → H' a = some o) → G H')
    (elt : ∀ i x H2 H3 (R : VK) (R' : Hp → Prop), i < n → (∀ a o, H1 a = some o → a ≠ b → H2 a = some o) → Box H2 b → Y i H2 x H3 → (∀ v H6, Good i v → (∀ a o, H2 a = some o → a ≠ b → H6 a = some o) → Box H6 b → R v H6) →
      g x (wipe σ vs) H3 fun σ2 H4 => wipe σ2 vs = wipe σ vs ∧ tt σ2 H4 fun c H5 => if c = true then te σ2 H5 R else R' H5)
    (fin : ∀ ys H', ys.length = n → (∀ (i : Nat) y, ys[i]? = some y → Good i y) → (∀ a o, H1 a = some o → a ≠ b → H' a = some o) → Box H' b → H' D = some (.lst ys) → Qd H') : LcGoal J g tt te vs σ H1 D Qd := by
  refine lc_it w (fun i H' => (∀ a o, H1 a = some o → a ≠ b → H' a = some o) ∧ Box H' b ∧ ∃ ys, ys.length = i ∧ (∀ (j : Nat) y, ys[j]? = some y → Good j y) ∧ H' D = some (.lst ys))
    ⟨fun a o e _ => by rw [upd_ne (ne_of_none e hD)]; exact e, mono _ _ (upd_ne hb.symm) hB, [], rfl, fun j y h => by simp at h, upd_same⟩ (fun i H _ p => hG H p.1) ?_ (fun H ⟨p1, p2, ys, l, gd, hd⟩ => fin ys H l gd p1 p2 hd)
  rintro i x H2 H3 hi ⟨kp, bx, ys, l, gd, hd⟩ y
  refine elt i x H2 H3 _ _ hi kp bx y fun v H6 gv k6 b6 => ⟨_, k6 _ _ hd hb, ?_, ?_, ?_, ys ++ [v], ?_, ?_, upd_same⟩
  · exact Nat.lt_of_lt_of_le (show _ < 100001 by omega) (by decide)
  · intro a o e ne
    rw [upd_ne (ne_of_none e hD)]
    exact k6 _ _ (kp _ _ e ne) ne
  · exact mono _ _ (upd_ne hb.symm) b6
  · simp [l]
  · intro j y hj
    rw [List.getElem?_append] at hj
    split at hj
    · exact gd j y hj
    · rename_i hlt
      have : j - ys.length = 0 := by
        cases e : j - ys.length with
        | zero => rfl
        | succ m => rw [e] at hj; simp at hj
      rw [this] at hj
      simp at hj
      subst hj
      have : j = i := by omega
      rw [this]
      exact gv
theorem g_wipe {σ2 : St} {R : Prop} (e : wipe σ2 vs = wipe σ vs) (h : R) : wipe σ2 vs = wipe σ vs ∧ R := ⟨e, h⟩
theorem g_fld {K : PySem.W.Frag} {H : Hp} {Q : VK} {ta : TE} {f : Str} (h : ta σ H fun x H1 => ∃ a C dx fs v, x = .ref a ∧ H1 a = some (.ins C dx fs) ∧ Cls K C ∧ NoAttr K C f ∧ fs.lookup f = some v ∧ Q v H1) : tFld K ta f σ H Q := h
theorem g_sfld {K : PySem.W.Frag} {H : Hp} {D : Ends} {ta tv : TE} {f : Str} (h : tv σ H fun y H1 => ta σ H1 fun x H2 => ∃ a C dx fs, x = .ref a ∧ H2 a = some (.ins C dx fs) ∧ Cls K C ∧ NoAttr K C f ∧ fs.length < 1000 ∧ D.nx σ (upd H2 a (.ins C dx (putF f y fs)))) : sFld K ta tv f D σ H := h
/-- a new instance, by its __init__ -/
def MakeI (C : Addr) (sp : Sp) (E : XK) (vs : List V) (H : Hp) (Q : VK) : Prop := ∀ x dx, H x = none → H dx = none → dx ≠ x → sp (.ref x :: (vs ++ [])) (upd (upd H dx (.own x)) x (.ins C dx [])) (fun v H2 => v = .non ∧ Q (.ref x) H2) E
theorem g_make {C : Addr} {sp : Sp} {E : XK} {tr : TA} {H : Hp} {Q : VK} (h : tr σ H fun vs H1 => MakeI C sp E vs H1 Q) : tMake C sp [] E tr σ H Q := h
theorem g_cmeth {C : Addr} {sp : Sp} {E : XK} {ta : TE} {tr : TA} {H : Hp} {Q : VK} (h : ta σ H fun x H1 => x = .ref C ∧ tr σ H1 fun vs H2 => sp (.ref C :: vs) H2 Q E) : ClX.tCMeth C sp E ta tr σ H Q := h
theorem g_refl {C : Addr} {R : Prop} (h : R) : V.ref C = .ref C ∧ R := ⟨rfl, h⟩
theorem g_NT {A B : Prop} (h : B) : if (!true) = true then A else B := by simpa using h
theorem g_NF {A B : Prop} (h : A) : if (!false) = true then A else B := by simpa using h
theorem g_yes {QT : Bool → Hp → Prop} {H : Hp} (h : QT true H) : tYes σ H QT := h
theorem g_str {te : TE} {R : It → Hp → Prop} {H : Hp} (h : te σ H fun v H1 => ∃ x, v = .str x ∧ R (Its x) H1) : iStr te σ H R := h
theorem g_list {K : PySem.W.Frag} {te : TE} {R : It → Hp → Prop} {H : Hp} (h : te σ H fun x H1 => ∃ a, x = .ref a ∧ (∃ xs, SqL K H1 a xs) ∧ R (Itl K a) H1) : iList K te σ H R := h
theorem g_tupI {K : PySem.W.Frag} {te : TE} {R : It → Hp → Prop} {H : Hp} (h : te σ H fun x H1 => ∃ a, x = .ref a ∧ (∃ xs, SqT K H1 a xs) ∧ R (Itt K a) H1) : iTup K te σ H R := h
theorem g_rng1 {ta : TA} {R : It → Hp → Prop} {H : Hp} (h : ta σ H fun vs H1 => ∃ j : Int, vs = [.int j] ∧ -(2 ^ 62) ≤ j ∧ j < 2 ^ 62 ∧ R (Itr 0 j.toNat) H1) : iRng1 ta σ H R := h
theorem g_rng2 {ta : TA} {R : It → Hp → Prop} {H : Hp} (h : ta σ H fun vs H1 => ∃ i j : Int, vs = [.int i, .int j] ∧ (-(2 ^ 62) ≤ i ∧ i < 2 ^ 62 ∧ -(2 ^ 62) ≤ j ∧ j < 2 ^ 62) ∧ R (Itr i (j - i).toNat) H1) : iRng2 ta σ H R := h
theorem g_rng3 {ta : TA} {R : It → Hp → Prop} {H : Hp} (h : ta σ H fun vs H1 => ∃ (i j c : Int) (n : Nat), vs = [.int i, .int j, .int c] ∧ RgC i j c n ∧ R (Itc i c n) H1) : iRng3 ta σ H R := h
theorem g_lc {wi : TI} {Q : VK} {H : Hp} (h : wi σ H fun J H1 => ∀ D, H1 D = none → LcGoal J g tt te vs σ H1 D (fun H => Q (.ref D) H)) : tLc wi g tt te vs σ H Q := h
theorem g_for {wi : TI} {tb : TS} {D : Ends} {H : Hp} (h : wi σ H fun J H1 => ∃ W : Nat → Nat → St → Hp → Prop, (∃ m, W 0 m σ H1) ∧ ∀ i m σ H, W i m σ H →
  (J.stop i H ∧ D.nx σ H) ∨ (J.go i H ∧ ∃ N : St → Hp → Prop, (∀ σ' H', N σ' H' → ∃ m', m' < m ∧ W (i + 1) m' σ' H') ∧ ∀ x H', J.yld i H x H' → g x σ H' fun σ2 H2 => tb { D with nx := N, ct := N, bk := D.nx } σ2 H2)) : tFor wi g tb D σ H := h
theorem g_insign {c : Nat} {z : Str} {R : Nat → Str → Prop} (h : R c z) : ∃ (c' : Nat) (z' : Str), V.str ⟨#[c]⟩ = .str ⟨#[c']⟩ ∧ V.str z = .str z' ∧ R c' z' := ⟨c, z, rfl, rfl, h⟩
theorem g_m1 {r : V → List V → Hp → VK → Prop} {to te : TE} {Q : VK} {H : Hp} (h : to σ H fun x H1 => (∃ z, x = .str z) ∧ te σ H1 fun y H2 => r x [y] H2 Q) : tM1 r to te σ H Q := h
theorem g_isS {z : Str} {R : Prop} (h : R) : (∃ y, V.str z = .str y) ∧ R := ⟨⟨z, rfl⟩, h⟩
end
end EZ
namespace EZ
open PySem L2
/-! how long a repr may be -/
mutual
def wd : PyData → Nat
  | .none => 4
  | .bool _ => 5
  | .int _ => 1921
  | .str x => 10 * x.length + 2
  | .list xs => 2 + wdAll xs
  | .tuple xs => 3 + wdAll xs
  | .dict _ => 0
def wdAll : List PyData → Nat
  | [] => 0
  | x :: xs => wd x + 2 + wdAll xs
end
mutual
def plainD : PyData → Bool
  | .str x => x.cps.toList.all (fun c => decide (c < 4294967296))
  | .list xs => plainAll xs
  | .tuple xs => plainAll xs
  | .dict _ => false
  | _ => true
def plainAll : List PyData → Bool
  | [] => true
  | x :: xs => plainD x && plainAll xs
end
theorem textFrom_le : ∀ (ts : List Str) (k : Nat) (acc : Str), (textFrom k acc ts).length ≤ acc.length + (ts.map (fun t => t.length + 2)).sum
  | [], k, acc => by simp [textFrom]
  | t :: r, k, acc => by
    have h := textFrom_le r (k + 1) (acc ++ (if k > 0 then ", " else "" : String) ++ t)
    have e : (acc ++ ((if k > 0 then ", " else "" : String) : Str) ++ t).length ≤ acc.length + 2 + t.length := by
      show ((acc.cps ++ _) ++ t.cps).size ≤ _
      rw [Array.size_append, Array.size_append]
      have : (((if k > 0 then ", " else "" : String) : Str).cps).size ≤ 2 := by split <;> decide +kernel
      show acc.cps.size + _ + t.cps.size ≤ acc.cps.size + 2 + t.cps.size
      omega
    rw [List.map_cons, List.sum_cons]
    show (textFrom (k + 1) _ r).length ≤ _
    omega
theorem app_len (a b : Str) : (a ++ b).length = a.length + b.length := by
  show (a.cps ++ b.cps).size = _
  rw [Array.size_append]; rfl
theorem sum_le_wd (l : List Str) : (l.map (·.length)).sum + l.length * 2 = (l.map (fun t => t.length + 2)).sum := by
  induction l with
  | nil => rfl
  | cons a l ih => simp only [List.map_cons, List.sum_cons, List.length_cons]; omega
mutual
theorem shown_le : ∀ d : PyData, d.showable = true → plainD d = true → d.shown.length ≤ wd d
  | .none, _, _ => by show (Str.ofString "None").length ≤ 4; decide +kernel
  | .bool b, _, _ => by cases b <;> (show (Str.ofString _).length ≤ 5; decide +kernel)
  | .int i, h, _ => by
    have hl : i.natAbs.log2 < 1920 := by simpa [PyData.showable] using h
    have := int_text_length_le (by decide) hl
    show (Str.ofString (toString i)).length ≤ 1921
    rw [show (Str.ofString (toString i)).length = (toString i).length from ?_]
    · exact this
    · rw [Str.ofString_eq_toList]
      show ((toString i).toList.map Char.toNat).toArray.size = _
      rw [List.size_toArray, List.length_map, String.length_toList]
  | .str x, _, h => by
    refine StrLaws.reprText_len x fun c hc => ?_
    have h : (x.cps.toList.all fun c => decide (c < 4294967296)) = true := h
    have := List.all_eq_true.mp h c hc
    exact of_decide_eq_true this
  | .list xs, h, p => by
    have h2 := shownAll_le xs h p
    show (textFrom 0 "[" (PyData.shownAll xs) ++ ("]" : Str)).length ≤ 2 + wdAll xs
    rw [app_len]
    have h3 := textFrom_le (PyData.shownAll xs) 0 "["
    have e1 : (("[" : Str)).length = 1 := by decide +kernel
    have e2 : (("]" : Str)).length = 1 := by decide +kernel
    omega
  | .tuple xs, h, p => by
    have h2 := shownAll_le xs h p
    show (("(" : Str) ++ Str.join ", " (PyData.shownAll xs) ++ ((if (PyData.shownAll xs).length == 1 then ",)" else ")" : String) : Str)).length ≤ 3 + wdAll xs
    rw [app_len, app_len]
    have h3 := StrLaws.join_length_le ", " (PyData.shownAll xs)
    have e1 : (("(" : Str)).length = 1 := by decide +kernel
    have e2 : ((", " : Str)).length = 2 := by decide +kernel
    have e3 : ((if (PyData.shownAll xs).length == 1 then ",)" else ")" : String) : Str).length ≤ 2 := by split <;> decide +kernel
    rw [e2] at h3
    have e4 := sum_le_wd (PyData.shownAll xs)
    omega
  | .dict _, _, h => nomatch h
theorem shownAll_le : ∀ ds : List PyData, PyData.showableAll ds = true → plainAll ds = true → ((PyData.shownAll ds).map (fun t => t.length + 2)).sum ≤ wdAll ds
  | [], _, _ => Nat.le_refl _
  | d :: ds, h, p => by
    have h : (d.showable && PyData.showableAll ds) = true := h
    have p : (plainD d && plainAll ds) = true := p
    rw [Bool.and_eq_true] at h p
    have h1 := shown_le d h.1 p.1
    have h2 := shownAll_le ds h.2 p.2
    show ((d.shown :: PyData.shownAll ds).map (fun t => t.length + 2)).sum ≤ wd d + 2 + wdAll ds
    rw [List.map_cons, List.sum_cons]
    omega
end
theorem g_repr {K : PySem.W.Frag} {H : Hp} {x : V} {d : PyData} {Q : VK} (h : Dp K H x d) (hs : d.showable = true) (hp : plainD d = true) (hd : d.hasDict = false) (dp : d.depth ≤ 60) (hw : wd d ≤ 16000000) (q : Q (.str d.shown) H) : rReprD K [x] H Q :=
  ⟨x, d, rfl, h, hs, hd, dp, Nat.le_trans (Nat.le_trans (shown_le d hs hp) hw) (by decide), q⟩
end EZ
namespace EZ
open PySem L2 PyProof.Rows
/-! own errors over ValueError whose __init__ says super().__init__(x) and keeps x -/
class ProgOk (P : Program) : Prop where
  file : ((P.main.file : Str) == Str.ofString "/claim/cut.py") = true
  nos : (P.main.scope.names.lookup ("super" : Str)).isSome = false
def xArgs (fl : Str) (p1 p2 : Pos) : Arguments := { posonlyargs := [], args := [{ arg := "self", annotation := none, pos := p1 }, { arg := fl, annotation := none, pos := p2 }], vararg := none, kwonlyargs := [], kw_defaults := [], kwarg := none, defaults := [] }
def xBody (fl : Str) (r0 r1 r2 r3 r4 r5 q1 q2 q3 q4 : Pos) : List Stmt :=
  [.Expr (.Call (.Attribute (.Call (.Name "super" r0) [] [] r1) "__init__" r2) [.Name fl r3] [] r4) r5, .Assign [.Attribute (.Name "self" q1) fl q2] (.Name fl q3) q4]
def xScope (fl : Str) : Scope := { kind := .function, names := [("self", .local), (fl, .local), ("__class__", .free), ("super", .globalImplicit)], isGenerator := false, isCoroutine := false, more := [] }
/-- o.m(..) is read as a method's call (by where it stands) -/
def CallEq (o : Expr) (m : Str) (ap cp : Pos) (es : List Expr) : Prop := ∀ env : Env, ∃ pl : Sem Bool, eval (.Call (.Attribute o m ap) es [] cp) env = (do
  let ov ← attributeBase o m env (eval o env)
  standAt ap.atName
  let (f, first) ← holding [ov] (getMethod ov m pl)
  callWith cp f first (backTo cp (starEach es env)) [])
/-- what the written part says of such an error, its class at C, its __init__ at g -/
structure ExT (K : PySem.W.Frag) (mg : Str → Option Value) (nm qual fl : Str) (C g : Addr) : Prop where
  gC : mg nm = some (.ref C)
  cls : ∃ n q N bs bm sn sub ab col dd k0 k1 k2 k3 k5, K.lookup C = some (excClassObj n q C N bs bm true sn sub ab col dd k0 k1 k2 k3 k5 "ValueError.__new__") ∧ HandSPX.refsVE bm = true ∧ PySem.W.alongIn K "__init__" bm = some (some (.builtin "ValueError.__init__"))
  sa : PySem.W.findIn K (.ref C) "__setattr__" = some (some (.builtin "object.__setattr__"))
  ga : PySem.W.findIn K (.ref C) "__getattribute__" = some (some (.builtin "BaseException.__getattribute__"))
  gg : PySem.W.findIn K (.ref C) "__getattr__" = some none
  noN : PySem.W.findIn K (.ref C) fl = some none
  iC : PySem.W.findIn K (.ref C) "__init__" = some (some (.ref g))
  tC : PySem.W.typeIn K (.ref g) = some (.type "function")
  kC : PySem.W.keepIn K (.ref C) = true
  exC : PySem.W.subIn K (.ref C) (.type "BaseException") = some true
  exV : PySem.W.subIn K (.ref C) (.type "ValueError") = some true
  tyC : PySem.W.typeIn K (.ref C) = some (.type "type")
  hdC : PySem.W.hasDictIn K C = true
  mrC : PySem.W.mroIn K C (.ref C) = some true
  op : PySem.W.nsIn K cStatics "thirdparty.any" = some none
  ms : mg "super" = none
  fn : ∃ (oc : Value) (od : Option Addr) (doc pm : Value) (an : Option Addr) (ct : Value) (osl : Array (Option Value)) (p1 p2 r0 r1 r2 r3 r4 r5 q1 q2 q3 q4 : Pos) (cc cda : Addr) (ccl cl : Value) (cdd cld : Option Addr) (ccs csl : Array (Option Value)) (vs : Array Value) (tf : Tok),
    K.lookup g = some ⟨oc, od, .func (PySem.W.ksFn "__init__" qual (xArgs fl p1 p2) (xBody fl r0 r1 r2 r3 r4 r5 q1 q2 q3 q4) (xScope fl) .none .none doc pm an (.ref cda) ct cc), osl⟩ ∧ PySem.W.codeIn K (.ref cda) qual = true ∧
    K.lookup cda = some ⟨ccl, cdd, .fields vs, ccs⟩ ∧ vs[2]? = some (.str (Str.ofString "/claim/cut.py") tf) ∧ K.lookup cc = some ⟨cl, cld, .cell (some (.ref C)), csl⟩ ∧ CallEq (.Call (.Name "super" r0) [] [] r1) "__init__" r2 r4 [.Name fl r3]
/-- which names an __init__ of this kind may have for what it keeps -/
structure FlOk (fl : Str) : Prop where
  s1 : (fl == ("__debug__" : Str)) = false
  s2 : fl ≠ "self"
  k1 : (xScope fl).names.lookup fl = some .local
  k2 : (xScope fl).names.lookup ("super" : Str) = some .globalImplicit
  k3 : (xScope fl).names.lookup ("__class__" : Str) = some .free
  bd : ∀ (qual : Str) (p1 p2 : Pos) (body : List Stmt) (doc pm : Value) (an : Option Addr) (cdv ct : Value) (cc : Addr) (a b : Value), bindArgs (PySem.W.ksFn "__init__" qual (xArgs fl p1 p2) body (xScope fl) .none .none doc pm an cdv ct cc) ⟨[a, b], []⟩ = pure [(("self" : Str), a), (fl, b)]
theorem fl_at : FlOk "at" := ⟨by decide, by decide +kernel, by decide +kernel, by decide +kernel, by decide +kernel, fun _ _ _ _ _ _ _ _ _ _ _ _ => rfl⟩
theorem fl_word : FlOk "word" := ⟨by decide, by decide +kernel, by decide +kernel, by decide +kernel, by decide +kernel, fun _ _ _ _ _ _ _ _ _ _ _ _ => rfl⟩
/-- how a made error lies in the heap -/
structure XMade (h h' : Heap) (fl : Str) (e C d : Addr) (v : Value) : Prop where
  keep : ∀ b o, h.get? b = some o → h'.get? b = some o
  new : h.objs.size ≤ e
  obj : ∃ oe vs, h'.get? e = some oe ∧ oe.cls = .ref C ∧ oe.dict = some d ∧ oe.data = .fields vs ∧ vs[1]? = some .none
  dbig : h.objs.size ≤ d
  dne : d ≠ e
  ns : h'.Ns1 d (fun y => if y = fl then some v else none)
structure XInit (h h' : Heap) (fl : Str) (x C dx t1 : Addr) (v : Value) : Prop where
  keep : ∀ b o, b ≠ x → h.get? b = some o → h'.get? b = some o
  obj : h'.get? x = some { cls := .ref C, dict := some dx, data := .fields #[.ref t1, .none, .none, .none, .bool false, .none] }
  dbig : h.objs.size ≤ dx
  dne : dx ≠ x
  ns : h'.Ns1 dx (fun y => if y = fl then some v else none)
section
variable {P : Program} {w : World} {A : Around} {E : Value → Shared → Prop} {hp : Heap} {gs : Array GenState} {dr : Drawn} {tk : Nat} {os : OsState}
/-- the bound ValueError.__init__ called: the arguments are laid anew -/
theorem bound_init {n q : Str} {C N : Addr} {bs bm : List Value} {hd : Bool} {sn : List Str} {sub : List Value} {ab : Bool} {col : Option Bool} {dd : Option Addr} {k0 k1 k2 k3 k5 : Option Value} {u e t0 : Addr} {rest : List Value} {Q : Value → Shared → Prop}
    (hC : hp.get? C = some (excClassObj n q C N bs bm hd sn sub ab col dd k0 k1 k2 k3 k5 "ValueError.__new__")) (he : hp.get? e = some (HandSPX.excO C t0)) (hu : hp.get? u = some (PySem.W.kxs_mw "ValueError.__init__" e)) (hz : rest.length ≤ sizeLine)
    (hq : ∀ h' t1, (∀ b o, b ≠ e → hp.get? b = some o → h'.get? b = some o) → h'.get? e = some (HandSPX.excO C t1) → Q .none ⟨h', gs, dr, tk, os⟩) :
    wpAny (model P w) A (call (.ref u) rest) Q E ⟨hp, gs, dr, tk, os⟩ := by
  refine wpAny_call (codeAny_of_tree ?_)
  show wpAny _ A.in1 (callAny (.ref u) ⟨rest, []⟩) _ _ _
  simp only [callAny]
  refine wpAny_bind (wpAny_load hu ?_)
  have both : (Value.type "method-wrapper" == Value.type "method" || Value.type "method-wrapper" == Value.type "builtin_function_or_method" || Value.type "method-wrapper" == Value.type "method-wrapper") = true := by decide
  simp only [PySem.W.kxs_mw, both, if_true]
  refine W.KFB.if_so (by decide) ?_
  refine wpAny_bind (ESX.check_bound F.excBase_ValueError hC he rfl ?_)
  refine wpAny_bind (wpAny_pure (wpAny_pure ?_))
  refine ⟨Code.quiet_builtin _ (by decide +kernel), codeAny_builtin F.excBase_ValueError.initEntry ?_⟩
  rw [Around.under_plainId F.excBase_ValueError.init.plain _]
  wp_walk
  refine hq _ hp.objs.size (fun b o hb ho => ?_) ?_
  · exact (Heap.get?_update_other _ _ (Ne.symm hb)).trans (Heap.get?_push_of_some _ ho)
  · exact (Heap.get?_update_self _ (Heap.get?_push_of_some _ he) rfl).trans rfl
/-- a name of the frame -/
theorem ldX {env : Env} {m : Str → Option Value} {x : Str} {pos : Pos} {v : Value} {Q : Value → Shared → Prop} {M : Model} {s : Shared} (hk : env.scope.kind = .function) (hl : env.kindOf x = some .local) (hn : s.heap.Ns env.locals m) (hv : m x = some v) (hd : (x == ("__debug__" : Str)) = false) (q : Q v s) :
    wpAny M A (eval (.Name x pos) env) Q E s := wpAny_Name (wpAny_loadName_local hk hl hn hv q) hd
theorem x_init [ProgOk P] {K : PySem.W.Frag} {mg mb : Str → Option Value} {nm qual fl : Str} {C g : Addr} {R : Result → Shared → Prop} (FL : FlOk fl) (T : ExT K mg nm qual fl C g) {x t0 : Addr} {v : Value} (kin : K.In hp) (lim : hp.NoLimit) (gn : hp.Ns mainGlobals mg) (bn : hp.Ns builtinsNs mb) (bb : ∀ y : Str, y ≠ "__name__" → mb y = bootBuiltins y)
    (hx : hp.get? x = some (HandSPX.excO C t0)) (hnx : K.lookup x = none) (room : A.depth < recursionLimit)
    (hq : ∀ h' tk' dx t1, XInit hp h' fl x C dx t1 v → R (.ok (.ret .none)) ⟨h', gs, dr, tk', os⟩) :
    codeAny (model P w) A (.call (.ref g) ⟨[.ref x, v], []⟩) R ⟨hp, gs, dr, tk, os⟩ := by
  obtain ⟨oc, od, doc, pm, an, ct, osl, p1, p2, r0, r1, r2, r3, r4, r5, q1, q2, q3, q4, cc, cda, ccl, cl, cdd, cld, ccs, csl, vs, tf, lk, hcd, lcode, hvs, lcell, ceq⟩ := T.fn
  obtain ⟨n, q, N, bs, bm, sn, sub, ab, col, dd, k0, k1, k2, k3, k5, hC, hbm, along⟩ := T.cls
  have hcl : PySem.W.clsIn K C = some { name := n, bases := bs, mro := .ref C :: bm, ns := N, qualname := q, hasDict := true, slotNames := sn, subclasses := sub, abstract := ab, collection := col, hasDel := false } := by unfold PySem.W.clsIn; rw [hC] <;> rfl
  refine PySem.ks_codeAny_call_defAt (s := ⟨hp, gs, dr, tk, os⟩) (fd := PySem.W.ksFn "__init__" qual (xArgs fl p1 p2) (xBody fl r0 r1 r2 r3 r4 r5 q1 q2 q3 q4) (xScope fl) .none .none doc pm an (.ref cda) ct cc) (binds := [("self", .ref x), (fl, v)]) room (kin _ _ lk) rfl lim (PySem.W.codeRec_of kin hcd) rfl (BindsTo.of_eq (FL.bd _ _ _ _ _ _ _ _ _ _ _ _)) ?c1 ?c2 (fun h1 hn1 kp1 => ?_)
  case c1 =>
    intro y hy
    simp only [xScope, List.mem_cons, List.not_mem_nil, or_false] at hy
    rcases hy with rfl | rfl | rfl | rfl <;> (intro z; cases z)
  case c2 =>
    intro y hy
    rcases List.mem_cons.mp hy with rfl | hy
    · rfl
    · rw [List.mem_singleton.mp hy]; exact FL.k1
  have kin1 : K.In h1 := kin.keeps kp1
  have hx1 := kp1 _ _ hx
  have self1 : ([(("self" : Str), Value.ref x), (fl, v)].reverse.lookup ("self" : Str)) = some (.ref x) := by
    have e : (("self" : Str) == fl) = false := by
      cases z : (("self" : Str) == fl) with
      | false => rfl
      | true => exact absurd (eq_of_beq z).symm FL.s2
    simp [List.lookup, e]
  have fl1 : ([(("self" : Str), Value.ref x), (fl, v)].reverse.lookup fl) = some v := by simp [List.lookup]
  have inst : PySem.W.InstAt h1 x (HandSPX.excO C t0) C none := ⟨hx1, rfl, rfl, trivial⟩
  obtain ⟨pl, ceq⟩ := ceq (callEnv (PySem.W.ksFn "__init__" qual (xArgs fl p1 p2) (xBody fl r0 r1 r2 r3 r4 r5 q1 q2 q3 q4) (xScope fl) .none .none doc pm an (.ref cda) ct cc) hp.objs.size g)
  refine ks_wpAt_execs_cons (ks_wpAt_Expr_any (ks_wpAt_MethodCall (pl := pl) ?_ ceq))
  refine ks_wpAt_super_base (ar := ⟨"self", none, p1⟩) FL.k2 FL.k3 (by decide) rfl (kin1 _ _ lk) rfl rfl rfl (kin1 _ _ lcode) rfl hvs ProgOk.file ProgOk.nos ?_
  refine PySem.W.ks_loadName_global rfl FL.k2 (Calls.loadGlobal_builtin (mg := mg) (mb := mb) (gn.keeps kp1) T.ms (bn.keeps kp1) ((bb _ (by decide +kernel)).trans (by decide +kernel)) ⟨rfl, ?_⟩)
  refine wpAny_loadName_free rfl FL.k3 rfl ⟨_, kin1 _ _ lcell, rfl⟩ ?_
  refine wpAny_loadName_local rfl rfl hn1 self1 ?_
  have hC1 := kin1 _ _ hC
  refine ks_wpAny_isType_cls hC1 rfl ⟨rfl, ?_⟩
  refine ks_wpAny_call_super hC1 rfl hx1 rfl (fun c z => nomatch z) (PySem.W.looks_mroIn kin1 T.mrC) (fun h2 at2 kp2 => ?_)
  have kin2 : K.In h2 := kin1.keeps kp2
  have hx2 := kp2 _ _ hx1
  have inst2 : PySem.W.InstAt h2 x (HandSPX.excO C t0) C none := ⟨hx2, rfl, rfl, trivial⟩
  refine PySem.W.kxs_getMethod PySem.W.kxs_ValueError at2 (PySem.W.looks_opaque kin2 T.op) (l₀ := .ref C :: bm) (l := bm) ?m1 ?m2 kin2 along (inst2.type.andThen (PySem.W.looks_subIn kin2 T.exV)) (PySem.W.ks_ne kin2 inst2 hcl) (by decide) ?_
  case m1 => exact fun A' Q' E' s' z y => wpAny_bind ((PySem.W.looks_clsIn kin2 hcl) A' _ E' s' z (wpAny_pure y))
  case m2 => simp
  have kp3 : ∀ b o, h2.get? b = some o → (h2.push (PySem.W.kxs_mw "ValueError.__init__" x)).get? b = some o := fun b o z => Heap.get?_push_of_some _ z
  have at3 : (h2.push (PySem.W.kxs_mw "ValueError.__init__" x)).get? h2.objs.size = some (PySem.W.kxs_mw "ValueError.__init__" x) := Heap.get?_push_at rfl rfl
  have ns3 : (h2.push (PySem.W.kxs_mw "ValueError.__init__" x)).Ns hp.objs.size (fun y => [(("self" : Str), Value.ref x), (fl, v)].reverse.lookup y) := (hn1.keeps kp2).keeps kp3
  generalize hh3 : h2.push (PySem.W.kxs_mw "ValueError.__init__" x) = h3 at kp3 at3 ns3
  generalize hu3 : h2.objs.size = u3 at at3
  refine PySem.W.kxs_callWith (i := "ValueError.__init__") (x := x) rfl (Calls.evalArgs_plain ?_)
  refine Calls.spliced_cons (ldX rfl FL.k1 ns3 fl1 FL.s1 ?_)
  refine Calls.spliced_nil ⟨at3, ?_⟩
  have hC3 := kp3 _ _ (kp2 _ _ hC1)
  refine bound_init hC3 (kp3 _ _ hx2) at3 (by show 1 ≤ sizeLine; decide) (fun h4 t1 kp4 hx4 => ?_)
  have all4 : ∀ b o, b ≠ x → hp.get? b = some o → h4.get? b = some o := fun b o nb z => kp4 b o nb (kp3 _ _ (kp2 _ _ (kp1 _ _ z)))
  have kin4 : K.In h4 := fun b o z => all4 b o (fun y => by rw [y, hnx] at z; cases z) (kin b o z)
  have xL : hp.objs.size ≠ x := Nat.ne_of_gt (Heap.lt_size hx)
  have ns4 : h4.Ns hp.objs.size (fun y => [(("self" : Str), Value.ref x), (fl, v)].reverse.lookup y) := by
    obtain ⟨o, es, ep, z, r⟩ := ns3
    exact ⟨o, es, ep, kp4 _ _ xL z, r⟩
  refine ks_wpAt_execs_cons (ks_wpAt_Assign_Attr ?_)
  refine wpAt_of_wpAny (ldX rfl FL.k1 ns4 fl1 FL.s1 (ldX rfl rfl ns4 self1 (by decide) ?_))
  refine PySem.W.set_plain kin4 (ox := HandSPX.excO C t1) (od := none) ⟨hx4, rfl, rfl, trivial⟩ T.sa ?_
  refine HandSPX.exc_osa kin4 hx4 hcl (show HandSPX.refsVE (.ref C :: bm) = true from hbm) rfl T.noN (fun h5 tk5 dx kp5 dn dne hx5 ns5 => ?_)
  refine wpAt_of_wpAny (wpAny_execs_nil (hq h5 tk5 dx t1 ⟨fun b o nb z => kp5 b o nb (all4 b o nb z), hx5, ?_, dne, ns5⟩))
  have z : hp.objs.size < h4.objs.size := ns4.lt
  have dn : h4.objs.size ≤ dx := dn
  exact Nat.le_trans (Nat.le_of_lt z) dn
theorem x_made [ProgOk P] {K : PySem.W.Frag} {mg mb : Str → Option Value} {nm qual fl : Str} {C g : Addr} {R : Result → Shared → Prop} (FL : FlOk fl) (T : ExT K mg nm qual fl C g) {v : Value} (kin : K.In hp) (lim : hp.NoLimit) (gn : hp.Ns mainGlobals mg) (bn : hp.Ns builtinsNs mb) (bb : ∀ y : Str, y ≠ "__name__" → mb y = bootBuiltins y) (room : A.depth + 1 < recursionLimit)
    (hq : ∀ h' tk' e d, XMade hp h' fl e C d v → R (.ok (.ret (.ref e))) ⟨h', gs, dr, tk', os⟩) :
    codeAny (model P w) A (.call (.ref C) ⟨[v], []⟩) R ⟨hp, gs, dr, tk, os⟩ := by
  obtain ⟨n, q, N, bs, bm, sn, sub, ab, col, dd, k0, k1, k2, k3, k5, hC, hbm, along⟩ := T.cls
  have kp : ∀ b o, hp.get? b = some o → ((hp.push (PySem.W.kdv_tup [v])).push (HandSPX.excO C hp.objs.size)).get? b = some o := fun b o z => Heap.get?_push_of_some _ (Heap.get?_push_of_some _ z)
  have at1 : ((hp.push (PySem.W.kdv_tup [v])).push (HandSPX.excO C hp.objs.size)).get? (hp.objs.size + 1) = some (HandSPX.excO C hp.objs.size) := by heap_get
  have hnx : K.lookup (hp.objs.size + 1) = none := by
    cases z : K.lookup (hp.objs.size + 1) with
    | none => rfl
    | some o =>
      exact absurd (Nat.lt_of_succ_lt (Heap.lt_size (kin _ _ z))) (Nat.lt_irrefl _)
  refine HandSPX.call_own F.excBase_ValueError (fun Y => HandSPX.refsVE_contains Y bm hbm) (kin _ _ hC) (PySem.W.looks_findIn kin T.iC) (fun self => PySem.W.bind_fn kin self T.tC) (by show 1 ≤ sizeLine; decide) ?_
  refine x_init FL T (kin.keeps kp) (lim.keeps kp) (gn.keeps kp) (bn.keeps kp) bb at1 hnx (by show A.depth + 1 < recursionLimit; exact room) fun h' tk' dx t1 I => ?_
  have old : ∀ b o, hp.get? b = some o → h'.get? b = some o := fun b o z => I.keep b o (Nat.ne_of_lt (Nat.lt_succ_of_lt (Heap.lt_size z))) (kp b o z)
  have dbig : hp.objs.size + 2 ≤ dx := by have := I.dbig; simpa only [Heap.size_push] using this
  exact ⟨rfl, hq h' tk' (hp.objs.size + 1) dx ⟨old, Nat.le_succ _, ⟨_, _, I.obj, rfl, rfl, rfl, rfl⟩, Nat.le_trans (Nat.le_add_right _ 2) dbig, I.dne, I.ns⟩⟩
end
end EZ
namespace EZ
open PySem L2 PyProof.Rows
section
variable {X : Cx}
/-- X(), an own error class without an __init__ of its own -/
theorem pmk_own0 {C : Addr} {bmB : List Value} {B newId initId : String} {x : Str} {p pos : Pos} (F : ExcBaseFacts B newId initId bmB) (q : PySem.W.excIn X.K C bmB newId = true) (gC : X.mg x = some (.ref C)) (kC : PySem.W.keepIn X.K (.ref C) = true) (r : Raises X (.ref C)) (hg : Gl X x) (hdb : (x == ("__debug__" : Str)) = false := by decide) :
    PMk X (.Call (.Name x p) [] [] pos) (fun σ H Q => Q (.ref C) none H) := by
  intro pins s σ H Q I want
  refine wpAny_Call_Name_kw (ld_glob I hg gC ?_ hdb)
  refine PySem.W.callWith_K0 I.kIn kC ?_
  obtain ⟨bm, N, nm, qn, bs, hdct, sn, sub, ab, col, dd, k0, k1, k2, k3, k5, mN, hC, hN, hni, T⟩ := exc_obj I.kIn q
  refine wpAny_call_exc_subT F T hC hN hni (fun h' e made => ?_) (Nat.zero_le _)
  exact mk_of I made r want (I.hok.gone made.new)
/-- X(e), X of the kind with super().__init__ -/
def tMkX (C : Addr) (fl : Str) (ta : TA) : St → Hp → XK → Prop := fun σ H Q => ta σ H fun vs H1 => ∃ v, vs = [v] ∧ ∀ d, H1 d = none → Q (.ref C) (some d) (upd H1 d (.xd [(fl, v)]))
theorem relO_one {fl : Str} {v : V} {v' : Value} (r : RelV v v') (f : Str) : RelO (List.lookup f [(fl, v)]) (if f = fl then some v' else none) := by
  by_cases z : f = fl
  · subst z; simp only [List.lookup, beq_self_eq_true, if_true]; exact r
  · have z2 : (f == fl) = false := by simpa using z
    simp only [List.lookup, z2, z, if_false]; trivial
theorem pmk_x [ProgOk X.prog] {nm qual fl : Str} {C g : Addr} {a : Expr} {ta : TA} {p pos : Pos} {k : Nat} (FL : FlOk fl) (T : ExT X.K X.mg nm qual fl C g) (room : Room k X.A) (ha : PA X [a] ta) (hg : Gl X nm) (hdb : (nm == ("__debug__" : Str)) = false := by decide)
    (he : starEach (a :: []) X.env = (false, eval a X.env) :: starEach [] X.env := by rfl) (hpl : (backTo pos (starEach [] X.env)).any (·.1) = false := by rfl) :
    PMk X (.Call (.Name nm p) [a] [] pos) (tMkX C fl ta) := by
  intro pins s σ H Q I want
  refine wpAny_Call_Name_kw (ld_glob I hg T.gC ?_ hdb)
  refine PySem.W.callWith_K (h₀ := X.base) I.ok.mod.kin T.kC (thn (ha.run pos pins s σ H _ I want) ?_) he hpl
  rintro us s1 ⟨vs, H1, I1, r1, v, rfl, q1⟩
  refine ⟨I1.kIn, ?_⟩
  obtain ⟨u, rfl, rv⟩ := vals1 r1
  show wpAny _ _ (call (.ref C) [u]) _ _ _
  have lim := I1.nolimit
  obtain ⟨mb, bn, bb⟩ := I1.ok.mod.blt
  have gn := I1.ok.mod.glob.keeps I1.bk
  have bn := bn.keeps I1.bk
  have kin := I1.kIn
  obtain ⟨hp, gs, dr, tk, os⟩ := s1
  refine wpAny_call (x_made FL T kin lim gn bn bb (by have := room.dp; omega) fun h' tk' e d M => ?_)
  show MkP X pins σ Q (.ref e) ⟨h', gs, dr, tk', os⟩
  obtain ⟨oe, fv, hoe, hc, hd, hdat, h1⟩ := M.obj
  obtain ⟨G, g1, g2⟩ := restrict h' fun b => decide (b ≠ e)
  have gk : ∀ b, b ≠ e → G.get? b = h'.get? b := fun b nb => g1 b (decide_eq_true nb)
  have ge : G.get? e = none := g2 e (by simp)
  have old : ∀ b o, hp.get? b = some o → G.get? b = some o := fun b o z => (gk b (Nat.ne_of_lt (Nat.lt_of_lt_of_le (Heap.lt_size z) M.new))).trans (M.keep b o z)
  have ob : ObjOk X.prog X.w (upd H1 d (.xd [(fl, v)])) G d (.xd [(fl, v)]) := ⟨_, M.ns.at (fun o z => (gk d M.dne).trans z), fun f => relO_one rv f⟩
  have J : Inv X pins σ (upd H1 d (.xd [(fl, v)])) ⟨G, gs, dr, tk', os⟩ := I1.laid (t' := tk') old M.dbig ob
  refine ⟨e, oe, fv, ⟨G, gs, dr, tk', os⟩, _, .ref C, some d, rfl, J, fun b o z => ?_, ge, hoe, ⟨hc, hd⟩, hdat, h1, ?_, rfl, I1.bare, raises_own T.exC T.tyC, q1 d (I1.hok.fresh M.dbig)⟩
  · by_cases nb : b = e
    · have z : G.get? b = some o := z
      rw [nb, ge] at z
      cases z
    · exact (gk b nb).symm.trans z
  · rw [upd_ne (Ne.symm M.dne)]
    exact I1.hok.fresh M.new
end
/-! try .. except X as n: .. (further clauses, never asked) -/
def wAsT (K : PySem.W.Frag) (c : Value) (i : Nat) (ts : Addr → Value → Option Addr → TS) (D : Ends) : WX := fun cls d σ H =>
  PySem.W.exmOne K cls c = some true ∧ ∀ a, H a = none → ts a cls d { nx := fun st H' => D.nx (st.set i none) H', rt := D.rt, bk := fun st H' => D.bk (st.set i none) H', ct := fun st H' => D.ct (st.set i none) H' } (σ.set i (some (.ref a))) H
section
variable {X : Cx} {x n : Str} {c : Value} {i : Nat} {body suite : List Stmt} {b0 : Stmt} {np pos pos' : Pos} {tb : WX → TS} {ts : Addr → Value → Option Addr → TS} {more : List ExceptHandler}
theorem ps_try_asT (stk : X.stack = X.env :: X.outer) (fr : X.env.frame = some X.env.locals) (nd : X.N.Nodup) (hi : X.N[i]? = some n) (hl : X.env.kindOf n = some .local) (hc : Names X x c)
    (hb : ∀ (W : WX) (pn : List (Addr × Obj)) (xe : Value → Shared → Prop), Takes (X.tr pn xe) W → PassesOwn (model X.prog X.w) X.A X.env xe → PSs (X.tr pn xe) body (tb W))
    (hsu : ∀ (a : Addr) (oe : Obj) (cls : Value) (d : Option Addr) (pn : List (Addr × Obj)), Zc cls d oe → (∃ vs, oe.data = .fields vs) → PSs (X.suite a ((a, oe) :: pn)) (b0 :: suite) (ts a cls d)) :
    PS X (.Try body (.ExceptHandler (some (.Name x np)) (some n) (b0 :: suite) pos' :: more) [] [] pos) (fun D σ H => tb (wAsT X.K c i ts D) D σ H) := by
  refine ⟨fun pins s σ H D I want => ?_⟩
  have ok := I.ok
  have frs1 : X.A.frames = some (X.env :: X.outer) := ok.frames.trans (by rw [stk])
  refine wpAny_Try_except ?_
  let hds : List ExceptHandler := .ExceptHandler (some (.Name x np)) (some n) (b0 :: suite) pos' :: more
  let catcher : Value → Shared → Prop := fun e s1 => wpAny (model X.prog X.w) X.A (noteFrame e X.env) (fun _ s2 => wpAny (model X.prog X.w) X.A (setFlight e none) (fun _ s3 => wpAny (model X.prog X.w) X.A (handleBy e X.env hds) (SP X pins D) X.xe s3) X.xe s2) X.xe s1
  refine wpAny_mono ((hb (wAsT X.K c i ts D) (X.pn ++ pins) catcher (fun u s' thrown => ?_) PassesOwn.looking).run [] s σ H D (I.toTry _) want) (fun f s1 done => ?_) (fun _ _ z => z)
  · obtain ⟨a, B, sI, pins', st', H', cls, d, rfl, J', nb, up, sky, na, eos, ag, isC, go⟩ := thrown
    have J : Inv X pins st' H' sI := J'.ofTry ok
    have sky2 : Sky B (X.env :: X.outer) a (Zc cls d) X.env.locals s'.heap := stk ▸ sky
    show wpAny (model X.prog X.w) X.A (noteFrame (.ref a) X.env) _ _ _
    refine Sky.land Zc.steady frs1 fr sky2 fun h3 fl3 up3 => ?_
    have J3 : Inv X pins st' H' { s' with heap := h3 } := J.landed nb fl3.1 (up.trans up3) eos ag
    obtain ⟨oe3, vs3, at3, hz3, hd3⟩ := fl3.there
    have nfr : a ∉ frs (X.env :: X.outer) := by
      intro hm
      obtain ⟨_, o', e', hnf⟩ := fl3.2.2.1.mem hm
      rw [at3] at e'
      cases e'
      exact hnf _ hd3
    have nL : a ≠ X.env.locals := fun z => nfr (List.mem_filterMap.mpr ⟨X.env, List.mem_cons_self, by rw [fr, z]⟩)
    have nF : a ∉ X.fs := by
      intro hm
      obtain ⟨e, he, q⟩ := List.mem_filterMap.mp hm
      exact nfr (List.mem_filterMap.mpr ⟨e, List.mem_cons_of_mem _ he, q⟩)
    have S3 := J3.suite at3 hd3 na nL nF
    refine wpAny_handleBy_cons (codeAny_handlers_test ?_) (by intro q; cases q)
    have LT : PySem.W.Looks (model X.prog X.w) h3 (typeOf (.ref a)) cls := fun A' Q' E' s' z y => wpAny_typeOf_ref (z _ _ at3) (by rw [hz3.1]; exact y)
    have LM := PySem.W.exm_one (M := model X.prog X.w) J3.kIn LT isC
    have test : ∀ {Q' : Value → Shared → Prop} {E' : Value → Shared → Prop}, Q' c { s' with heap := h3 } → wpAny (model X.prog X.w) (X.A.mark (some (.ref a))) (eval (.Name x np) X.env) Q' E' { s' with heap := h3 } := by
      intro Q' E' y
      obtain ⟨hg, hdbg, hm | ⟨hm, hv, hnn⟩⟩ := hc
      · exact ld_glob (X := X.suite a ((a, oe3) :: (X.pn ++ pins))) S3 hg hm y hdbg
      · exact ld_blt (X := X.suite a ((a, oe3) :: (X.pn ++ pins))) S3 hg hm hv y hnn hdbg
    refine test (LM.here ?_)
    refine codeAny_handlers_suite_as ?_
    refine HandSPX.lands_againZ fl3 fun h4 fl4 up4 => ?_
    have J4 : Inv X pins st' H' { s' with heap := h4 } := J.landed nb fl4.1 ((up.trans up3).trans up4) eos ag
    obtain ⟨oe4, vs4, at4, hz4, hd4⟩ := fl4.there
    have S4 := J4.suite at4 hd4 na nL nF
    refine store_ok (X := X.suite a ((a, oe4) :: (X.pn ++ pins))) (v := .ref a) S4 nd hi (.inl hl) rfl (fun s5 S5 => ?_) (.inr hl)
    refine wpAny_mono ((hsu a oe4 cls d (X.pn ++ pins) hz4 ⟨_, hd4⟩).run [] s5 _ H' _ S5 (go a na)) (fun f s6 done => ?_) (fun _ _ z => False.elim z)
    have leave : ∀ {st6 : St} {H6 : Hp} {Q' : Shared → Prop}, Inv (X.suite a ((a, oe4) :: (X.pn ++ pins))) [] st6 H6 s6 → (∀ s7, Inv X pins (st6.set i none) H6 s7 → Q' s7) →
        wpAny (model X.prog X.w) X.A (do bindName X.env n .none; unbindBehindTheSuite X.env n pos') (fun _ s7 => Q' s7) X.xe s6 := fun S6 y => gone_ok (S6.unsuite ok) nd hi hl y
    cases f with
    | ret u =>
      obtain ⟨v6, st6, H6, S6, r6, q6⟩ := done
      exact leave S6 fun s7 J7 => ⟨_, _, _, J7, r6, q6⟩
    | next => obtain ⟨st6, H6, S6, q6⟩ := done; exact leave S6 fun s7 J7 => ⟨_, _, J7, q6⟩
    | brk => obtain ⟨st6, H6, S6, q6⟩ := done; exact leave S6 fun s7 J7 => ⟨_, _, J7, q6⟩
    | cont => obtain ⟨st6, H6, S6, q6⟩ := done; exact leave S6 fun s7 J7 => ⟨_, _, J7, q6⟩
  · cases f with
    | ret u => obtain ⟨v, st', H', J', r, q⟩ := done; exact ⟨v, st', H', J'.ofTry ok, r, q⟩
    | next => obtain ⟨st', H', J', q⟩ := done; exact wpAny_execs_nil ⟨st', H', J'.ofTry ok, q⟩
    | brk => obtain ⟨st', H', J', q⟩ := done; exact ⟨st', H', J'.ofTry ok, q⟩
    | cont => obtain ⟨st', H', J', q⟩ := done; exact ⟨st', H', J'.ofTry ok, q⟩
end
end EZ
namespace EZ
open PySem L2 PyProof.Rows
section
variable {X : Cx}
/-- what is raised in a try's body is wished for at any slots of the right number -/
theorem passW {W : WX} (tk : Takes X W) : Passes (L2.CX X.prog X.w) X (fun c d H => ∀ σ : St, σ.length = X.N.length → W c d σ H) := fun _ σ _ _ e s' I z => tk e s' (XE.of_call I (fun _ _ _ h => h σ I.len) z)
/-- err.at, err the error that the suite holds -/
def tXfld (C : Addr) (fl : Str) (a : Addr) (cls : Value) (d : Option Addr) (te : TE) : TE := fun σ H Q => te σ H fun x H1 => x = .ref a ∧ cls = .ref C ∧ ∃ (dd : Addr) (v : V), d = some dd ∧ H1 dd = some (.xd [(fl, v)]) ∧ Q v H1
theorem pe_xfld {nm qual fl : Str} {C g a : Addr} {oe : Obj} {cls : Value} {d : Option Addr} {pn : List (Addr × Obj)} {e : Expr} {te : TE} {pos : Pos} (T : ExT X.K X.mg nm qual fl C g) (hz : Zc cls d oe) (hf : ∃ vs, oe.data = .fields vs) (he : PE (X.suite a ((a, oe) :: pn)) e te)
    (hb : attributeBase e fl X.env (eval e X.env) = eval e X.env := by rfl) : PE (X.suite a ((a, oe) :: pn)) (.Attribute e fl pos) (tXfld C fl a cls d te) := by
  refine ⟨fun pins s σ H Q I want => ?_⟩
  refine attr_of hb (thn (he.run pins s σ H _ I want) ?_)
  rintro u s1 ⟨x, H1, I1, rx, rfl, rfl, dd, v, rfl, ea, q⟩
  cases rx
  obtain ⟨at1, _⟩ := I1.pin (a, oe) (List.mem_append_left _ List.mem_cons_self)
  obtain ⟨vs, hd⟩ := hf
  obtain ⟨mA, ns, hr⟩ := (show ObjOk X.prog X.w H1 s1.heap dd (.xd [(fl, v)]) from I1.hok dd _ ea)
  obtain ⟨od, ho, hl⟩ := lookIn_ns ns
  obtain ⟨u, hu, ru⟩ := RelO.some_of (v := v) (o := mA fl) (by have z := hr fl; simpa [List.lookup] using z)
  have J : PySem.W.InstAt s1.heap a oe C (some od) := ⟨at1, hz.1, by unfold PySem.W.notCls; rw [hd] <;> rfl, by rw [hz.2]; exact ho⟩
  exact HandSPX.exc_get I1.kIn J T.ga T.gg T.exC (PySem.W.findObj_own T.hdC T.noN rfl (by rw [hl, hu])) (handed_of ru) ⟨v, H1, I1.tok _, ru, q⟩
variable {CX : CXT} {k : Nat} {f C : Addr} {sp : Sp} {E : XK}
/-- v in x, v not in x, by an own __contains__ that gives a truth value -/
def rInO (C : Addr) (neg : Bool) (sp : Sp) (E : XK) : R2 := fun x y H Q => ∃ a dx fs, y = .ref a ∧ H a = some (.ins C dx fs) ∧ sp [y, x] H (fun v H' => ∃ b, v = .bl b ∧ Q (.bl (if neg then !b else b)) H') E
theorem op_inO (S : Sm X.K C "__contains__" f) (F : FnR X.prog X.w X.K X.mg X.base CX k f sp) (room : Room k X.A) (hx : Passes CX X E) : OpR X (compareOp .In) (rInO C false sp E) := by
  intro pins s σ H x y v u Q I rx ry want
  obtain ⟨a, dx, fs, rfl, ha, want⟩ := want
  cases ry
  obtain ⟨mA, J, _⟩ := ins_get I.hok ha
  obtain ⟨od, J, _⟩ := J.look
  obtain ⟨m, fr⟩ := I.fr
  refine PySem.W.in_K fr I.ok.mod.kin J S.at_ S.fn (thn (run_at (vs := [V.ref a, x]) F room I.ok.frames hx I (.cons rfl (.cons rx .nil)) want) ?_)
  rintro r s' ⟨v2, H2, I2, r2, b, rfl, q2⟩
  cases r2
  exact wpAny_pure ⟨.bl b, H2, I2, rfl, q2⟩
theorem op_notInO (S : Sm X.K C "__contains__" f) (F : FnR X.prog X.w X.K X.mg X.base CX k f sp) (room : Room k X.A) (hx : Passes CX X E) : OpR X (compareOp .NotIn) (rInO C true sp E) := by
  intro pins s σ H x y v u Q I rx ry want
  obtain ⟨a, dx, fs, rfl, ha, want⟩ := want
  cases ry
  obtain ⟨mA, J, _⟩ := ins_get I.hok ha
  obtain ⟨od, J, _⟩ := J.look
  obtain ⟨m, fr⟩ := I.fr
  refine PySem.W.notIn_K fr I.ok.mod.kin J S.at_ S.fn (thn (run_at (vs := [V.ref a, x]) F room I.ok.frames hx I (.cons rfl (.cons rx .nil)) want) ?_)
  rintro r s' ⟨v2, H2, I2, r2, b, rfl, q2⟩
  cases r2
  exact wpAny_pure ⟨.bl (!b), H2, I2, rfl, q2⟩
/-- x[i] by an own __getitem__ -/
def rIxO (C : Addr) (sp : Sp) (E : XK) : R2 := fun x y H Q => ∃ a dx fs, x = .ref a ∧ H a = some (.ins C dx fs) ∧ sp [x, y] H Q E
theorem pe_ixO {a b : Expr} {ta tb : TE} {pos : Pos} (S : Sm X.K C "__getitem__" f) (hfn : PySem.W.fnIn X.K f = true) (F : FnR X.prog X.w X.K X.mg X.base CX k f sp) (room : Room (k + 1) X.A) (hx : Passes CX X E) (ha : PE X a ta) (hb : PE X b tb)
    (hs : ∀ (x : Addr) (i : Value), subscripted b true (.ref x) i = runValue (.builtin "lifetime.subscript" ⟨[.ref x, i], []⟩) := by intro _ _; with_unfolding_all rfl) : PE X (.Subscript a b pos) (tOp (rIxO C sp E) ta tb) := by
  refine ⟨fun pins s σ H Q I want => ?_⟩
  refine Subscript_ (binT ha hb I want ?_)
  rintro v u s2 x y H2 I2 rx ry ⟨p, dx, fs, rfl, hp, want⟩
  cases rx
  obtain ⟨mA, J, _⟩ := ins_get I2.hok hp
  obtain ⟨od, J, _⟩ := J.look
  obtain ⟨m, fr⟩ := I2.fr
  exact PySem.W.sub_K fr I2.ok.mod.kin J S.at_ hfn S.fn (run_at (vs := [V.ref p, y]) F room.in1 I2.ok.frames hx I2 (.cons rfl (.cons ry .nil)) want) (hs _ _)
end
/-! a binary operator by an own method, the other side of a built-in type -/
open PySem.W in
theorem bin_own {prog : Program} {w : World} {A : Around} {E' : Value → Shared → Prop} {s : Shared} {K : Frag} {x C f : Addr} {ox : Obj} {od : Option Obj} {T nm' : String} {op : Operator} {b : Value} {fo ro : Option Value} {Q : Value → Shared → Prop} (kin : K.In s.heap) (I : InstAt s.heap x ox C od)
    (hb : Looks (model prog w) s.heap (typeOf b) (.type T)) (hc : selfFirst K C = true) (hi : op.info.2 = nm') (S : Sm K C (PySem.dunder nm') f) (hr : findIn K (.ref C) (dunderR nm') = some none)
    (h1 : findIn K (.type T) (PySem.dunder nm') = some fo) (h2 : findIn K (.type T) (dunderR nm') = some ro) (hsub : subIn K (.type T) (.ref C) = some false)
    (h : wpAny (model prog w) A (call (.ref f) [.ref x, b]) (PySem.W.CmpBack Q) E' s) : wpAny (model prog w) A (binaryOp1 nm' (.ref x) b) (fun r s' => ∃ v, r = some v ∧ Q v s') E' s := by
  obtain ⟨cd, rest, hcd, hm⟩ := ksp_first hc
  have one := ksp_try kin I S.at_ S.fn h
  obtain ⟨hh, g, d, tt, os⟩ := s
  have L1 : Looks (model prog w) hh (typeOf (.ref x)) (.ref C) := I.type
  have L3 : Looks (model prog w) hh (fillsNumberSlot (.ref C) nm') true := fills_K kin hcd hm S.at_
  have L4 := ksp_fillsT (M := model prog w) kin h1 h2
  have L5 : Looks (model prog w) hh (isSubtype (.type T) (.ref C)) false := looks_subIn kin hsub
  have L6 : Looks (model prog w) hh (numberSlotInPython (.ref C) nm') true := ksp_inPy kin S.at_ hr (.inl rfl)
  have L7 : Looks (model prog w) hh (numberSlotInPython (.type T) nm') false := Looks.of_pure rfl
  have L8 : Looks (model prog w) hh (typeLookup (.type T) (dunderR nm')) ro := looks_findIn kin h2
  generalize ((fo.isSome && !isSeqSlot fo) || (ro.isSome && !isSeqSlot ro)) = right at L4
  have ne : (Value.ref C == Value.type T) = false := Bool.eq_false_iff.mpr fun q => by cases beq_iff_eq.mp q
  unfold binaryOp1
  refine wpAny_bind (L1.at (wpAny_bind (hb.at (wpAny_bind (L3.at ?_)))))
  simp only [ne, Bool.false_eq_true, if_false]
  cases right with
  | false =>
    ksp_lk
    refine wpAny_mono one ?_ fun _ _ z => z
    rintro r s' ⟨v, rfl, q⟩
    ksp_lk
    exact ⟨_, rfl, q⟩
  | true =>
    ksp_lk
    refine wpAny_mono one ?_ fun _ _ z => z
    rintro r s' ⟨v, rfl, q⟩
    ksp_lk
    exact ⟨_, rfl, q⟩
section
variable {X : Cx} {CX : CXT} {k : Nat} {f C : Addr} {sp : Sp} {E : XK}
/-- what the text says of an operator of the class at C against values of the type T -/
structure Bo (K : PySem.W.Frag) (C : Addr) (nm : String) (f : Addr) : Prop where
  sm : Sm K C (PySem.dunder nm) f
  sf : PySem.W.selfFirst K C = true
  nr : PySem.W.findIn K (.ref C) (dunderR nm) = some none
structure BoT (K : PySem.W.Frag) (C : Addr) (nm T : String) : Prop where
  fo : ∃ o, PySem.W.findIn K (.type T) (PySem.dunder nm) = some o
  ro : ∃ o, PySem.W.findIn K (.type T) (dunderR nm) = some o
  sb : PySem.W.subIn K (.type T) (.ref C) = some false
def rBinO (K : PySem.W.Frag) (C : Addr) (nm : String) (sp : Sp) (E : XK) : R2 := fun x y H Q => ∃ a dx fs T, x = .ref a ∧ H a = some (.ins C dx fs) ∧ TyX K H y (.type T) ∧ BoT K C nm T ∧ sp [x, y] H Q E
theorem op_binO {op : Operator} {nm : String} (hi : op.info.2 = nm) (B : Bo X.K C nm f) (F : FnR X.prog X.w X.K X.mg X.base CX k f sp) (room : Room k X.A) (hx : Passes CX X E) : OpR X (binaryOp op) (rBinO X.K C nm sp E) := by
  intro pins s σ H x y v u Q I rx ry want
  obtain ⟨a, dx, fs, T, rfl, ha, ty, ⟨⟨fo, h1⟩, ⟨ro, h2⟩, sb⟩, want⟩ := want
  cases rx
  obtain ⟨mA, J, _⟩ := ins_get I.hok ha
  obtain ⟨od, J, _⟩ := J.look
  rcases hi2 : op.info with ⟨sym, nm2⟩
  have hnm : nm2 = nm := by rw [hi2] at hi; exact hi
  simp only [binaryOp, hi2]
  subst hnm
  refine wpAny_holding (wpAny_bind (wpAny_mono (bin_own (op := op) (Q := EP X pins σ Q) I.kIn J (ty_looks I ry ty) B.sf (by rw [hi2]) B.sm B.nr h1 h2 sb ?_) ?_ fun _ _ z => z))
  · refine wpAny_mono (run_at (vs := [V.ref a, y]) F room I.ok.frames hx I (.cons rfl (.cons ry .nil)) want) (fun r s' z => ?_) fun _ _ z => z
    obtain ⟨v2, H2, I2, r2, q2⟩ := z
    have n := relv_noNI r2
    unfold PySem.W.CmpBack
    split
    · exact absurd rfl n
    · exact ⟨v2, H2, I2, r2, q2⟩
  · rintro r s' ⟨v2, rfl, q2⟩
    exact wpAny_pure q2
end
end EZ
namespace EZ
open PySem L2 PyProof.Rows
/-! x op= v, x of an own class without an in-place method -/
def mroTwo (K : PySem.W.Frag) (C : Addr) : Bool := (PySem.W.clsIn K C).any fun cd => cd.mro == [.ref C, .type "object"]
structure Ipn (K : PySem.W.Frag) (C : Addr) (nm : String) : Prop where
  m2 : mroTwo K C = true
  nc : PySem.W.findIn K (.ref C) (dunderI nm) = some none
  no : PySem.W.findIn K (.type "object") (dunderI nm) = some none
open PySem.W in
theorem no_inplace {M : Model} {K : Frag} {C : Addr} {nm : String} {h : Heap} {add : Bool} (X : K.In h) (N : Ipn K C nm) : Looks M h (fillsInplaceSlot (.ref C) nm add) false := by
  obtain ⟨m2, nc, no⟩ := N
  unfold mroTwo at m2
  obtain ⟨cd, hc, hm⟩ : ∃ cd, clsIn K C = some cd ∧ cd.mro = [.ref C, .type "object"] := by
    cases q : clsIn K C with
    | none => rw [q] at m2; cases m2
    | some cd => rw [q] at m2; exact ⟨cd, rfl, beq_iff_eq.mp m2⟩
  intro A Q E s k q
  have Lm : Looks M h (mroOf (.ref C)) cd.mro := (looks_clsIn X hc).andThen (f := fun cd => pure cd.mro) .now
  have Lm' := Lm.keeps k
  obtain ⟨hh, g, d, tt, os⟩ := s
  have X' : K.In hh := X.keeps k
  have L1 : Looks M hh (typeLookup (.ref C) (dunderI nm)) none := looks_findIn X' nc
  have L2 : Looks M hh (typeLookup (.type "object") (dunderI nm)) none := looks_findIn X' no
  unfold fillsInplaceSlot
  refine wpAny_bind (Lm'.at ?_)
  rw [hm, List.anyM_cons]
  refine wpAny_bind (wpAny_bind (L1.at (wpAny_pure ?_)))
  simp only [Bool.false_eq_true, if_false]
  rw [List.anyM_cons]
  refine wpAny_bind (wpAny_bind (L2.at (wpAny_pure ?_)))
  simp only [Bool.false_eq_true, if_false, List.anyM_nil]
  exact wpAny_pure q
section
variable {X : Cx} {CX : CXT} {k : Nat} {f C : Addr} {sp : Sp} {E : XK}
theorem ip_own {op : Operator} {nm : String} (hi : op.info.2 = nm) (B : Bo X.K C nm f) (N : Ipn X.K C nm) (F : FnR X.prog X.w X.K X.mg X.base CX k f sp) (room : Room k X.A) (hx : Passes CX X E) : PIp X op (rBinO X.K C nm sp E) := by
  intro pins s σ H x y v u Q I rx ry want
  obtain ⟨a, dx, fs, T, rfl, ha, ty, ⟨⟨fo, h1⟩, ⟨ro, h2⟩, sb⟩, want⟩ := want
  cases rx
  obtain ⟨mA, J, _⟩ := ins_get I.hok ha
  obtain ⟨od, J, _⟩ := J.look
  subst hi
  have L1 : PySem.W.Looks (model X.prog X.w) s.heap (typeOf (.ref a)) (.ref C) := J.type
  have L2 := no_inplace (M := model X.prog X.w) (add := op == .Add) I.kIn N
  unfold inplaceOp
  refine wpAny_holding ?_
  refine wpAny_bind (L1.here (wpAny_bind (L2.here ?_)))
  simp only [Bool.false_eq_true, if_false]
  refine wpAny_bind (wpAny_mono (bin_own (op := op) (Q := EP X pins σ Q) I.kIn J (ty_looks I ry ty) B.sf rfl B.sm B.nr h1 h2 sb ?_) ?_ fun _ _ z => z)
  · refine wpAny_mono (run_at (vs := [V.ref a, y]) F room I.ok.frames hx I (.cons rfl (.cons ry .nil)) want) (fun r s' z => ?_) fun _ _ z => z
    obtain ⟨v2, H2, I2, r2, q2⟩ := z
    have n := relv_noNI r2
    unfold PySem.W.CmpBack
    split
    · exact absurd rfl n
    · exact ⟨v2, H2, I2, r2, q2⟩
  · rintro r s' ⟨v2, rfl, q2⟩
    exact wpAny_pure q2
end
theorem pmk_xp {X : Cx} (PO : ProgOk X.prog) {nm qual fl : Str} {C g : Addr} {a : Expr} {ta : TA} {p pos : Pos} {k : Nat} (FL : FlOk fl) (T : ExT X.K X.mg nm qual fl C g) (room : Room k X.A) (ha : PA X [a] ta) (hg : Gl X nm) (hdb : (nm == ("__debug__" : Str)) = false := by decide)
    (he : starEach (a :: []) X.env = (false, eval a X.env) :: starEach [] X.env := by rfl) (hpl : (backTo pos (starEach [] X.env)).any (·.1) = false := by rfl) : PMk X (.Call (.Name nm p) [a] [] pos) (tMkX C fl ta) := @pmk_x X PO _ _ _ _ _ _ _ _ _ _ FL T room ha hg hdb he hpl
end EZ
namespace EZ
open PySem L2
/-! tiles as lists of digits -/
abbrev S := SX.S
def dg (ds : List Nat) : List Nat := ds.map (48 + ·)
/-- induction from the right -/
theorem snocI {α : Type} {p : List α → Prop} (h0 : p []) (h1 : ∀ l d, p l → p (l ++ [d])) (l : List α) : p l := by
  have : ∀ m : List α, p m.reverse := by
    intro m
    induction m with
    | nil => exact h0
    | cons d m ih => rw [List.reverse_cons]; exact h1 _ _ ih
  have := this l.reverse
  rwa [List.reverse_reverse] at this
def Dig (ds : List Nat) : Prop := ∀ d ∈ ds, d < 4
/-- one bit of each digit, as a number -/
def pb (p : Nat) (ds : List Nat) : Nat := ds.foldl (fun a d => 2 * a + d / p % 2) 0
def kd (z x y : Nat) : List Nat := (List.range z).map fun i => x / 2 ^ (z - 1 - i) % 2 + 2 * (y / 2 ^ (z - 1 - i) % 2)
theorem Dig.nil : Dig [] := fun _ h => nomatch h
theorem Dig.app {a b : List Nat} (ha : Dig a) (hb : Dig b) : Dig (a ++ b) := fun d h => (List.mem_append.mp h).elim (ha d) (hb d)
theorem Dig.left {a b : List Nat} (h : Dig (a ++ b)) : Dig a := fun d m => h d (List.mem_append_left _ m)
theorem Dig.right {a b : List Nat} (h : Dig (a ++ b)) : Dig b := fun d m => h d (List.mem_append_right _ m)
theorem Dig.take {a : List Nat} (n : Nat) (h : Dig a) : Dig (a.take n) := fun d m => h d (List.mem_of_mem_take m)
theorem Dig.drop {a : List Nat} (n : Nat) (h : Dig a) : Dig (a.drop n) := fun d m => h d (List.mem_of_mem_drop m)
theorem Dig.rep {n d : Nat} (h : d < 4) : Dig (List.replicate n d) := fun e m => by rw [(List.mem_replicate.mp m).2]; exact h
theorem Dig.one {d : Nat} (h : d < 4) : Dig [d] := fun e m => by rw [List.mem_singleton.mp m]; exact h
/-! texts of digits -/
theorem S_dig {d : Nat} (h : d < 4) : Str.ofString (toString ((d : Nat) : Int)) = S [48 + d] := by
  have : d = 0 ∨ d = 1 ∨ d = 2 ∨ d = 3 := by omega
  rcases this with rfl | rfl | rfl | rfl <;> decide +kernel
theorem int_dig {d : Nat} (h : d < 4) : PySem.intText? (S [48 + d]) = some ((d : Nat) : Int) := by
  have : d = 0 ∨ d = 1 ∨ d = 2 ∨ d = 3 := by omega
  rcases this with rfl | rfl | rfl | rfl <;> decide +kernel
theorem small_log {d : Nat} (h : d < 4) : ((d : Nat) : Int).natAbs.log2 < 1920 := by
  have : d = 0 ∨ d = 1 ∨ d = 2 ∨ d = 3 := by omega
  rcases this with rfl | rfl | rfl | rfl <;> decide +kernel
theorem S_nil : Str.ofString "" = S [] := by decide +kernel
theorem S_0123 : Str.ofString "0123" = S [48, 49, 50, 51] := by decide +kernel
theorem joinL_one : ∀ ds : List Nat, TL.joinL [] (ds.map fun d => [48 + d]) = dg ds
  | [] => rfl
  | [d] => rfl
  | d :: e :: r => by
    show [48 + d] ++ ([] ++ TL.joinL [] ((e :: r).map fun d => [48 + d])) = _
    rw [joinL_one (e :: r)]
    rfl
theorem join_dg (ds : List Nat) : Txt.join (Str.ofString "") (ds.map fun d => S [48 + d]) = S (dg ds) := by
  have e : (ds.map fun d => S [48 + d]) = (ds.map fun d => [48 + d]).map SX.S := by rw [List.map_map]; rfl
  rw [S_nil, e, SX.join_S, joinL_one]
theorem dg_len (ds : List Nat) : (dg ds).length = ds.length := by simp [dg]
theorem dg_app (a b : List Nat) : dg (a ++ b) = dg a ++ dg b := by simp [dg]
theorem dg_inj {a b : List Nat} (h : dg a = dg b) : a = b := by
  unfold dg at h
  exact List.map_inj_right (fun x y e => by omega) |>.mp h
theorem S_len (l : List Nat) : (S l).length = l.length := SX.S_len l
theorem S_eq {a b : List Nat} : S a = S b ↔ a = b := ⟨SX.S_inj, fun e => by rw [e]⟩
theorem pb_snoc (p : Nat) (ds : List Nat) (d : Nat) : pb p (ds ++ [d]) = 2 * pb p ds + d / p % 2 := by simp [pb]
theorem pb_lt (p : Nat) (ds : List Nat) : pb p ds < 2 ^ ds.length := by
  induction ds using snocI with
  | h0 => simp [pb]
  | h1 l d ih =>
    rw [pb_snoc, List.length_append, List.length_singleton, Nat.pow_succ]
    omega
theorem kd_len (z x y : Nat) : (kd z x y).length = z := by simp [kd]
theorem kd_dig (z x y : Nat) : Dig (kd z x y) := fun d h => by
  simp only [kd, List.mem_map] at h
  obtain ⟨i, _, rfl⟩ := h
  omega
theorem kd_snoc (z x y : Nat) : kd (z + 1) x y = kd z (x / 2) (y / 2) ++ [x % 2 + 2 * (y % 2)] := by
  unfold kd
  rw [List.range_succ, List.map_append]
  congr 1
  · apply List.map_congr_left
    intro i hi
    have hi : i < z := List.mem_range.mp hi
    have e : z + 1 - 1 - i = (z - 1 - i) + 1 := by omega
    rw [e, Nat.pow_succ, Nat.mul_comm, ← Nat.div_div_eq_div_mul, ← Nat.div_div_eq_div_mul]
  · simp
theorem kd_pb : ∀ {ds : List Nat}, Dig ds → kd ds.length (pb 1 ds) (pb 2 ds) = ds := by
  intro ds
  induction ds using snocI with
  | h0 => intro _; rfl
  | h1 l d ih =>
    intro h
    have hd : d < 4 := h d (by simp)
    rw [List.length_append, List.length_singleton, kd_snoc, pb_snoc, pb_snoc]
    have e1 : (2 * pb 1 l + d / 1 % 2) / 2 = pb 1 l := by omega
    have e2 : (2 * pb 2 l + d / 2 % 2) / 2 = pb 2 l := by omega
    rw [e1, e2, ih h.left]
    congr 1
    have : (2 * pb 1 l + d / 1 % 2) % 2 + 2 * ((2 * pb 2 l + d / 2 % 2) % 2) = d := by omega
    rw [this]
theorem pb1_kd : ∀ (z x y : Nat), x < 2 ^ z → pb 1 (kd z x y) = x := by
  intro z
  induction z with
  | zero => intro x y h; simp at h; subst h; rfl
  | succ z ih =>
    intro x y h
    rw [Nat.pow_succ] at h
    rw [kd_snoc, pb_snoc, ih (x / 2) (y / 2) (by omega)]
    omega
theorem pb2_kd : ∀ (z x y : Nat), y < 2 ^ z → pb 2 (kd z x y) = y := by
  intro z
  induction z with
  | zero => intro x y h; simp at h; subst h; rfl
  | succ z ih =>
    intro x y h
    rw [Nat.pow_succ] at h
    rw [kd_snoc, pb_snoc, ih (x / 2) (y / 2) (by omega)]
    omega
end EZ
namespace EZ
open PySem L2
/-! the attributes of a tile -/
def tf (ds : List Nat) : List (Str × V) := [("zoom", .int (ds.length : Int)), ("x", .int ((pb 1 ds : Nat) : Int)), ("y", .int ((pb 2 ds : Nat) : Int)), ("key", .str (S (dg ds)))]
def TileAt (C : Addr) (H : Hp) (a : Addr) (ds : List Nat) : Prop := Dig ds ∧ ∃ dx, H a = some (.ins C dx (tf ds))
theorem TileAt.same {C : Addr} {H H' : Hp} {a : Addr} {ds : List Nat} (h : TileAt C H a ds) (s : Same H H') : TileAt C H' a ds := ⟨h.1, h.2.elim fun dx e => ⟨dx, s _ _ e⟩⟩
theorem tf_put (ds : List Nat) : putF "key" (.str (S (dg ds))) (putF "y" (.int ((pb 2 ds : Nat) : Int)) (putF "x" (.int ((pb 1 ds : Nat) : Int)) (putF "zoom" (.int (ds.length : Int)) []))) = tf ds := by
  have e1 : ¬ (("zoom" : Str) = "x") := by decide +kernel
  have e2 : ¬ (("zoom" : Str) = "y") := by decide +kernel
  have e3 : ¬ (("zoom" : Str) = "key") := by decide +kernel
  have e4 : ¬ (("x" : Str) = "y") := by decide +kernel
  have e5 : ¬ (("x" : Str) = "key") := by decide +kernel
  have e6 : ¬ (("y" : Str) = "key") := by decide +kernel
  simp only [putF, if_neg e1, if_neg e2, if_neg e3, if_neg e4, if_neg e5, if_neg e6, tf]
theorem lk_hit {α : Type} {k : Str} {v : α} {r : List (Str × α)} : ((k, v) :: r).lookup k = some v := by simp [List.lookup]
theorem lk_miss {α : Type} {k k' : Str} {v : α} {r : List (Str × α)} (h : (k == k') = false) : ((k', v) :: r).lookup k = r.lookup k := by simp [List.lookup, h]
theorem tf_zoom (ds : List Nat) : (tf ds).lookup ("zoom" : Str) = some (V.int (ds.length : Int)) := lk_hit
theorem tf_x (ds : List Nat) : (tf ds).lookup ("x" : Str) = some (V.int ((pb 1 ds : Nat) : Int)) := (lk_miss (by decide +kernel)).trans lk_hit
theorem tf_y (ds : List Nat) : (tf ds).lookup ("y" : Str) = some (V.int ((pb 2 ds : Nat) : Int)) := (lk_miss (by decide +kernel)).trans ((lk_miss (by decide +kernel)).trans lk_hit)
theorem tf_key (ds : List Nat) : (tf ds).lookup ("key" : Str) = some (V.str (S (dg ds))) := (lk_miss (by decide +kernel)).trans ((lk_miss (by decide +kernel)).trans ((lk_miss (by decide +kernel)).trans lk_hit))
theorem and1 {x : Int} (h : 0 ≤ x) : Builtin.bitAnd x 1 = x % 2 := by
  have := Bits.bitAnd_mask (x := x) 1 h
  simpa using this
theorem pb_rep (p d : Nat) : ∀ n : Nat, pb p (List.replicate n d) + d / p % 2 = d / p % 2 * 2 ^ n
  | 0 => by simp [pb]
  | n + 1 => by
    have e : List.replicate (n + 1) d = List.replicate n d ++ [d] := by rw [← List.replicate_succ']
    have ih := pb_rep p d n
    rw [e, pb_snoc, Nat.pow_succ, ← Nat.mul_assoc, ← ih]
    omega
theorem log_lt {n k : Nat} (h : n < 2 ^ k) (hk : 0 < k) : ((n : Nat) : Int).natAbs.log2 < k := by
  rw [Int.natAbs_natCast]
  by_cases h0 : n = 0
  · subst h0; simpa using hk
  · exact (Nat.log2_lt h0).mpr h
end EZ
namespace EZ
open PySem L2 PyProof.Rows
section
variable {σ : St} {H : Hp} {Q : VK} {D : Ends} {ta tb tc te : TE} {tr : TA}
theorem g_chain {r r' : R2} (h : ta σ H fun x H1 => tb σ H1 fun y H2 => r x y H2 fun z H3 => ∃ k, z = .bl k ∧ (if k = true then tc σ H3 fun w' H4 => r' y w' H4 Q else Q (.bl false) H3)) : tChain r r' ta tb tc σ H Q := h
theorem g_mkx {C : Addr} {fl : Str} {R : XK} (h : tr σ H fun vs H1 => ∃ v, vs = [v] ∧ ∀ d, H1 d = none → R (.ref C) (some d) (upd H1 d (.xd [(fl, v)]))) : tMkX C fl tr σ H R := h
theorem g_one {v : V} {R : V → Prop} (h : R v) : ∃ v', [v] = [v'] ∧ R v' := ⟨v, rfl, h⟩
theorem atN {l : List Nat} {i : Int} {n c : Nat} (e : i = (n : Int)) (h : l[n]? = some c) : atI l i = some c := by
  have hn : n < l.length := by
    by_cases q : n < l.length
    · exact q
    · rw [List.getElem?_eq_none (by omega)] at h; cases h
  unfold atI ixN
  rw [e, if_pos (by omega), if_pos (by omega), Int.toNat_natCast]
  exact h
theorem g_ixW {l : List Nat} {i : Int} {n c : Nat} (hl : l.length ≤ 100000) (e : i = (n : Int)) (h : l[n]? = some c) (q : Q (.str (S [c])) H) : rIxS (.str (S l)) (.int i) H Q :=
  ⟨S l, i, c, rfl, rfl, by rw [S_len]; exact Nat.le_trans hl (by decide), atN e h, q⟩
theorem cut_to (l : List Nat) (n : Nat) : cutS (S l) none (some (n : Int)) = S (l.take n) := by
  have hz : (S l).length = l.length := S_len l
  unfold cutS
  rw [HT.sIx_none, HT.sIx_nat, hz]
  show S ((l.drop 0).take (min n l.length - 0)) = _
  rw [List.drop_zero, Nat.sub_zero]
  by_cases h : n ≤ l.length
  · rw [Nat.min_eq_left h]
  · rw [Nat.min_eq_right (by omega), List.take_length, List.take_of_length_le (by omega)]
theorem cut_from (l : List Nat) (n : Nat) : cutS (S l) (some (n : Int)) none = S (l.drop n) := by
  have hz : (S l).length = l.length := S_len l
  unfold cutS
  rw [HT.sIx_none, HT.sIx_nat, hz]
  show S ((l.drop (min n l.length)).take (l.length - min n l.length)) = _
  by_cases h : n ≤ l.length
  · rw [Nat.min_eq_left h, List.take_of_length_le (by simp)]
  · rw [Nat.min_eq_right (by omega)]
    have e1 : l.drop l.length = [] := List.drop_length
    have e2 : l.drop n = [] := List.drop_of_length_le (by omega)
    rw [e1, e2, List.take_nil]
theorem cut_m1 (l : List Nat) : cutS (S l) none (some (-1)) = S (l.take (l.length - 1)) := by
  have hz : (S l).length = l.length := S_len l
  unfold cutS
  rw [HT.sIx_none, hz]
  have e : HT.sIx l.length l.length (some (-1)) = l.length - 1 := by
    show (if (-1 : Int) < 0 then ((-1 : Int) + (l.length : Int)).toNat else min ((-1 : Int)).toNat l.length) = _
    rw [if_pos (by decide)]
    omega
  rw [e]
  show S ((l.drop 0).take (l.length - 1 - 0)) = _
  rw [List.drop_zero, Nat.sub_zero]
theorem g_cutTo {l : List Nat} {i : Int} {n : Nat} (hl : l.length ≤ 100000) (e : i = (n : Int)) (q : Q (.str (S (l.take n))) H) : rSlS (.str (S l)) none (some i) H Q :=
  ⟨S l, rfl, by rw [S_len]; exact Nat.le_trans hl (by decide), by rw [e, cut_to]; exact q⟩
theorem g_cutFrom {l : List Nat} {i : Int} {n : Nat} (hl : l.length ≤ 100000) (e : i = (n : Int)) (q : Q (.str (S (l.drop n))) H) : rSlS (.str (S l)) (some i) none H Q :=
  ⟨S l, rfl, by rw [S_len]; exact Nat.le_trans hl (by decide), by rw [e, cut_from]; exact q⟩
theorem g_cutM1 {l : List Nat} (hl : l.length ≤ 100000) (q : Q (.str (S (l.take (l.length - 1)))) H) : rSlS (.str (S l)) none (some (-1)) H Q :=
  ⟨S l, rfl, by rw [S_len]; exact Nat.le_trans hl (by decide), by rw [cut_m1]; exact q⟩
theorem dg_at {ds : List Nat} {n d : Nat} (h : ds[n]? = some d) : (dg ds)[n]? = some (48 + d) := by simp [dg, h]
theorem dg_take (ds : List Nat) (n : Nat) : (dg ds).take n = dg (ds.take n) := by simp [dg, List.map_take]
theorem dg_drop (ds : List Nat) (n : Nat) : (dg ds).drop n = dg (ds.drop n) := by simp [dg, List.map_drop]
end
theorem passN {X : Cx} {W : WX} (n : Nat) (hn : X.N.length = n) (tk : Takes X W) : Passes (L2.CX X.prog X.w) X (fun c d H => ∀ σ : St, σ.length = n → W c d σ H) := hn ▸ passW tk
theorem g_xfld {σ : St} {C : Addr} {fl : Str} {a : Addr} {cls : Value} {d : Option Addr} {te : TE} {H : Hp} {Q : VK} (h : te σ H fun x H1 => x = .ref a ∧ cls = .ref C ∧ ∃ (dd : Addr) (v : V), d = some dd ∧ H1 dd = some (.xd [(fl, v)]) ∧ Q v H1) : tXfld C fl a cls d te σ H Q := h
theorem len2 {σ : St} (h : σ.length = 2) : ∃ a b, σ = [a, b] := match σ, h with | [a, b], _ => ⟨a, b, rfl⟩
theorem len3 {σ : St} (h : σ.length = 3) : ∃ a b c, σ = [a, b, c] := match σ, h with | [a, b, c], _ => ⟨a, b, c, rfl⟩
theorem len4 {σ : St} (h : σ.length = 4) : ∃ a b c d, σ = [a, b, c, d] := match σ, h with | [a, b, c, d], _ => ⟨a, b, c, d, rfl⟩
theorem len5 {σ : St} (h : σ.length = 5) : ∃ a b c d e, σ = [a, b, c, d, e] := match σ, h with | [a, b, c, d, e], _ => ⟨a, b, c, d, e, rfl⟩
theorem len6 {σ : St} (h : σ.length = 6) : ∃ a b c d e f, σ = [a, b, c, d, e, f] := match σ, h with | [a, b, c, d, e, f], _ => ⟨a, b, c, d, e, f, rfl⟩
/-- the first clause catches -/
theorem g_many {K : PySem.W.Frag} {Wout : WX} {D : Ends} {c cls : Value} {d : Option Addr} {ts : Addr → Value → Option Addr → TS} {r : List (Value × (Addr → Value → Option Addr → TS))} {σ : St} {H : Hp} (e : PySem.W.exmOne K cls c = some true) (h : ∀ a, H a = none → ts a cls d D σ H) : wMany K Wout D ((c, ts) :: r) cls d σ H :=
  ⟨true, e, fun _ => h, fun z => by cases z⟩
theorem S_bang : Str.ofString "!" = S [33] := by decide +kernel
theorem Same.set {H : Hp} {a : Addr} {o : HO} (h : H a = none) : Same H (upd H a o) := fun b u e => by rw [upd_ne (ne_of_none e h)]; exact e
theorem szc {x y : Str} {a b : List Nat} (ex : x = S a) (ey : y = S b) (h : a.length + b.length ≤ 100000) : x.length + y.length ≤ sizeLine := by
  subst ex; subst ey
  rw [S_len, S_len]; exact Nat.le_trans h (by decide)
theorem szl {l : List Nat} (h : l.length ≤ 100000) : (S l).length ≤ sizeLine := by rw [S_len]; exact Nat.le_trans h (by decide)
theorem g_gtup {K : PySem.W.Frag} {n : Nat} {u : TGs} {p : Addr} {xs : List V} {σ : St} {H : Hp} {R : St → Hp → Prop} (hs : SqT K H p xs) (hn : xs.length = n) (h : u xs σ H R) : gTup K n u (.ref p) σ H R := ⟨p, xs, rfl, hs, hn, h⟩
theorem g_gcons {t : TG} {u : TGs} {v : V} {r : List V} {σ : St} {H : Hp} {R : St → Hp → Prop} (h : t v σ H fun σ' H' => u r σ' H' R) : gCons t u (v :: r) σ H R := ⟨v, r, rfl, h⟩
theorem g_gnil {σ : St} {H : Hp} {R : St → Hp → Prop} (h : R σ H) : gNil [] σ H R := ⟨rfl, h⟩
end EZ
namespace EZ
open PySem L2 PyProof.Rows
/-! plain data: lists of texts and numbers compared and shown -/
theorem canLay_map {α : Type} (f : α → PyData) : ∀ (l : List α), (∀ x ∈ l, (f x).canLay0 = true) → PyData.canLayAll0 (l.map f) = true
  | [], _ => rfl
  | x :: l, h => by
    show ((f x).canLay0 && PyData.canLayAll0 (l.map f)) = true
    rw [h x List.mem_cons_self, canLay_map f l fun y hy => h y (List.mem_cons_of_mem _ hy)]
    rfl
theorem depth_map {α : Type} (f : α → PyData) (n : Nat) : ∀ (l : List α), (∀ x ∈ l, (f x).depth ≤ n) → PyData.depthAll (l.map f) ≤ n
  | [], _ => Nat.zero_le _
  | x :: l, h => by
    show max (f x).depth (PyData.depthAll (l.map f)) ≤ n
    exact Nat.max_le.mpr ⟨h x List.mem_cons_self, depth_map f n l fun y hy => h y (List.mem_cons_of_mem _ hy)⟩
theorem shaped_list {xs : List PyData} (h : PyData.canLayAll0 xs = true) (d : PyData.depthAll xs ≤ 60) : SeqAt.shaped (.list xs) = true := by
  show (PyData.canLayAll0 xs && decide (PyData.depthAll xs + 1 ≤ 64)) = true
  rw [h, decide_eq_true (show PyData.depthAll xs + 1 ≤ 64 by omega)]
  rfl
theorem shaped_tuple {xs : List PyData} (h : PyData.canLayAll0 xs = true) (d : PyData.depthAll xs ≤ 60) : SeqAt.shaped (.tuple xs) = true := by
  show (PyData.canLayAll0 xs && decide (PyData.depthAll xs + 1 ≤ 64)) = true
  rw [h, decide_eq_true (show PyData.depthAll xs + 1 ≤ 64 by omega)]
  rfl
theorem strOk_of {l : List Nat} (h : ∀ c ∈ l, c < 1114112) : (PyData.str (S l)).canLay0 = true := by
  show (l.toArray.all (· < 0x110000)) = true
  rw [List.all_toArray]
  exact List.all_eq_true.mpr fun c hc => decide_eq_true (h c hc)
theorem DpAll.map {α : Type} {K : PySem.W.Frag} {H : Hp} (f : α → V) (g : α → PyData) (h : ∀ x, Dp K H (f x) (g x)) : ∀ l : List α, DpAll K H (l.map f) (l.map g)
  | [] => .nil
  | x :: l => .cons (h x) (DpAll.map f g h l)
/-- a list of texts against [] -/
theorem g_eqE {K : PySem.W.Frag} {H : Hp} {p q : Addr} {l : List (List Nat)} {Q : VK} (hp : H p = some (.lst (l.map fun x => V.str (S x)))) (hq : H q = some (.lst [])) (h : ∀ x ∈ l, ∀ c ∈ x, c < 1114112) (k : Q (.bl l.isEmpty) H) : rEqD K (.ref p) (.ref q) H Q := by
  refine ⟨.list (l.map fun x => .str (S x)), .list [], .lst (SqL.of hp) (DpAll.map _ _ (fun x => .str _) l), .lst (SqL.of hq) .nil, shaped_list (canLay_map _ l fun x hx => strOk_of (h x hx)) (depth_map _ 60 l fun x _ => Nat.zero_le _), by decide +kernel, ?_⟩
  cases l with
  | nil => exact k
  | cons x l => exact k
/-- a list of numbers that is empty, against [] -/
theorem g_neE0 {K : PySem.W.Frag} {H : Hp} {p q : Addr} {Q : VK} (hp : H p = some (.lst [])) (hq : H q = some (.lst [])) (k : Q (.bl false) H) : rNeD K (.ref p) (.ref q) H Q :=
  ⟨.list [], .list [], .lst (SqL.of hp) .nil, .lst (SqL.of hq) .nil, by decide +kernel, by decide +kernel, k⟩
theorem g_eqE0 {K : PySem.W.Frag} {H : Hp} {p q : Addr} {Q : VK} (hp : H p = some (.lst [])) (hq : H q = some (.lst [])) (k : Q (.bl true) H) : rEqD K (.ref p) (.ref q) H Q :=
  ⟨.list [], .list [], .lst (SqL.of hp) .nil, .lst (SqL.of hq) .nil, by decide +kernel, by decide +kernel, k⟩
theorem g_reprI {K : PySem.W.Frag} {H : Hp} {i : Int} {Q : VK} (h : i.natAbs.log2 < 1920) (q : Q (.str (PyData.int i).shown) H) : rReprD K [.int i] H Q := by
  refine g_repr (d := .int i) (.int _) ?_ rfl rfl (Nat.le_of_ble_eq_true rfl) ?_ q
  · simp only [PyData.showable, h, decide_true]
  · exact Nat.le_of_ble_eq_true rfl
theorem g_reprN {K : PySem.W.Frag} {H : Hp} {p : Addr} {i : Int} {Q : VK} (hp : H p = some (.tup [.str (Str.ofString "none"), .int i])) (h : i.natAbs.log2 < 1920) (q : Q (.str (PyData.tuple [.str (Str.ofString "none"), .int i]).shown) H) : rReprD K [.ref p] H Q := by
  refine g_repr (d := .tuple [.str (Str.ofString "none"), .int i]) (.tup (SqT.of hp) (.cons (.str _) (.cons (.int _) .nil))) ?_ ?_ rfl (Nat.le_of_ble_eq_true rfl) ?_ q
  · simp only [PyData.showable, PyData.showableAll, h, decide_true, Bool.and_self, Bool.and_true]
  · have e : plainD (.str (Str.ofString "none")) = true := by decide +kernel
    simp only [plainD, plainAll, Bool.and_true] at e ⊢
    exact e
  · have e : wd (.str (Str.ofString "none")) ≤ 1000 := by decide +kernel
    have e2 : wd (.int i) ≤ 100000 := Nat.le_of_ble_eq_true rfl
    show 3 + (wd (.str (Str.ofString "none")) + 2 + (wd (.int i) + 2 + 0)) ≤ _
    omega
theorem g_reprBB {K : PySem.W.Frag} {H : Hp} {p : Addr} {x y : Bool} {Q : VK} (hp : H p = some (.lst [.bl x, .bl y])) (q : Q (.str (PyData.list [.bool x, .bool y]).shown) H) : rReprD K [.ref p] H Q := by
  refine g_repr (d := .list [.bool x, .bool y]) (.lst (SqL.of hp) (.cons (.bl _) (.cons (.bl _) .nil))) ?_ ?_ rfl (Nat.le_of_ble_eq_true rfl) ?_ q
  · rfl
  · rfl
  · exact Nat.le_of_ble_eq_true rfl
theorem log20 {i : Int} (h : i.natAbs ≤ 10 ^ 20) : i.natAbs.log2 < 1920 := by
  by_cases h0 : i.natAbs = 0
  · rw [h0]; decide
  · exact (Nat.log2_lt h0).mpr (Nat.lt_of_le_of_lt h (by decide +kernel))
section
variable {σ : St} {H : Hp} {Q : VK} {D : Ends} {te : TE} {tr : TA}
theorem g_aug {i : Nat} {ti : TIp} {x : V} (e : σ[i]? = some (some x)) (h : te σ H fun y H1 => ti x y H1 fun z H2 => D.nx (σ.set i (some z)) H2) : tAug i te ti D σ H := ⟨x, e, h⟩
theorem g_par3 {i j l : Nat} (h : tr σ H fun vs H1 => ∃ u v w, vs = [u, v, w] ∧ D.nx (((σ.set i (some u)).set j (some v)).set l (some w)) H1) : tPar3 i j l tr D σ H := h
theorem g_three {u v w : V} {R : V → V → V → Prop} (h : R u v w) : ∃ u' v' w', [u, v, w] = [u', v', w'] ∧ R u' v' w' := ⟨u, v, w, rfl, h⟩
theorem g_ipI {g : Int → Int → Int} {i j : Int} (h : Q (.int (g i j)) H) : ipI g (.int i) (.int j) H Q := ⟨i, j, rfl, rfl, h⟩
end
end EZ
namespace EZ
open PySem L2 PyProof.Rows
section
variable {X : Cx} {CX : CXT} {k : Nat} {f C : Addr} {fd : FuncData} {ps : List Str} {ds : List Value} {dvs : List V} {sp : Sp} {E : XK} {x : Str} {e : Expr} {es : List Expr} {t : TA} {tf : TE} {p pos : Pos}
/-- c(e, ..), c a name that holds the class -/
def tMakeV (C : Addr) (tf : TE) (tm : TE) : TE := fun σ H Q => tf σ H fun v H1 => v = .ref C ∧ tm σ H1 Q
theorem pe_makeV (hf : PE X (.Name x p) tf) (M : Mk X.K C f) (F : FnOk X.prog X.w X.K X.mg X.base CX k f fd ps sp) (hr : Room (k + 1) X.A) (hb : Binds X.K fd ps ds) (hd : Vals dvs ds) (hx : Passes CX X E)
    (ha : PA X (e :: es) t) (he : starEach (e :: es) X.env = (false, eval e X.env) :: starEach es X.env := by rfl) (hpl : (backTo pos (starEach es X.env)).any (·.1) = false := by rfl) :
    PE X (.Call (.Name x p) (e :: es) [] pos) (tMakeV C tf (tMake C sp dvs E t)) := by
  refine ⟨fun pins s σ H Q I h => ?_⟩
  refine wpAny_Call_Name_kw (thn (hf.run pins s σ H _ I h) ?_)
  rintro u s1 ⟨v, H1, I1, rv, rfl, q⟩
  cases rv
  refine PySem.W.callWith_K (h₀ := X.base) I1.ok.mod.kin M.kp (thn (ha.run pos pins s1 σ H1 _ I1 q) fun us s2 ⟨vs, H2, I2, r, q2⟩ => ⟨I2.kIn, ?_⟩) he hpl
  exact run_make M F hr hb hd hx I2 r q2
theorem g_makeV {σ : St} {H : Hp} {Q : VK} {tm : TE} (h : tf σ H fun v H1 => v = .ref C ∧ tm σ H1 Q) : tMakeV C tf tm σ H Q := h
end
/-! isinstance(err, (A, B)), err the error that the suite holds -/
structure Exk (K : PySem.W.Frag) (C : Addr) : Prop where
  hcl : (PySem.W.clsIn K C).isSome = true
  hga : PySem.W.findIn K (.ref C) "__getattribute__" = some (some (.builtin "BaseException.__getattribute__"))
  hgt : PySem.W.findIn K (.ref C) "__getattr__" = some none
  hsub : PySem.W.subIn K (.ref C) (.type "BaseException") = some true
  ha : PySem.W.findIn K (.ref C) "__class__" = some (some (.builtin "object.__class__"))
  hn : PySem.W.specialIn K (.builtin "object.__class__") "__get__" = some (some (.builtin "getset_descriptor.__get__"))
  htk : PySem.W.takesIn K (.builtin "object.__class__") = some true
  hm : PySem.W.mroIn K C (.type "object") = some true
def rIsiX (K : PySem.W.Frag) (a : Addr) (cls : Value) (d : Option Addr) (C : Addr) : List V → Hp → VK → Prop := fun xs H Q => ∃ (tp : Addr) (cs : List V) (us : List Value) (b : Bool), xs = [.ref a, .ref tp] ∧ cls = .ref C ∧ d = none ∧ H tp = some (.tup cs) ∧ Paired ClsV cs us ∧ PySem.W.kitAny K (.ref C) us = some b ∧ Q (.bl b) H
theorem call_isiX {X : Cx} {C a : Addr} {oe : Obj} {cls : Value} {d : Option Addr} {pn : List (Addr × Obj)} (N : Exk X.K C) (hz : Zc cls d oe) (hf : ∃ vs, oe.data = .fields vs) : CallR (X.suite a ((a, oe) :: pn)) (.builtin "isinstance") (rIsiX X.K a cls d C) := by
  intro pins s σ H xs us Q I r h
  obtain ⟨tp, cs, ws, b, rfl, rfl, rfl, hT, k, e, q⟩ := h
  obtain ⟨u1, u2, rfl, r1, r2⟩ := vals2 r
  cases (show u1 = Value.ref a from r1)
  cases (show u2 = Value.ref tp from r2)
  obtain ⟨at1, _⟩ := I.pin (a, oe) (List.mem_append_left _ List.mem_cons_self)
  obtain ⟨vs, hd⟩ := hf
  have J : PySem.W.InstAt s.heap a oe C none := ⟨at1, hz.1, by unfold PySem.W.notCls; rw [hd] <;> rfl, by rw [hz.2]; trivial⟩
  have Z := PySem.W.kitx_exc (x := a) (ox := oe) (od := none) N.hcl N.hga N.hgt N.hsub N.ha N.hn N.htk N.hm
  obtain ⟨_, its, rv, o, h1, h2, n, h3⟩ := (show ObjOk X.prog X.w H s.heap tp (.tup cs) from I.hok tp _ hT)
  have e3 := ClsV.all k rv
  subst e3
  obtain ⟨oc, od, dt, sl⟩ := o
  simp only at h2 h3
  subst h2 h3
  exact PySem.W.kia_tup Z I.kIn J h1 e (fun z => nomatch z) fun tk => ⟨.bl b, H, I.tok tk, rfl, q⟩
/-- list(text): the signs -/
def rListS : List V → Hp → VK → Prop := fun xs H Q => ∃ l : List Nat, xs = [.str (S l)] ∧ l.length ≤ 100000 ∧ Alloc (.lst (l.map fun c => V.str (S [c]))) H Q
theorem call_list_txt {X : Cx} (hc : X.calm = true) : CallR X (.type "list") rListS := by
  intro pins s σ H xs us Q I r h
  obtain ⟨l, rfl, hl, q⟩ := h
  obtain ⟨u, rfl, t, rfl⟩ := vals1 r
  have hz : (S l).cps.size = l.length := by show l.toArray.size = _; simp
  refine call_list_str (I.ok.hd hc) (S l) t (fun h' tk acc' c' hkeep hS hacc => ?_) (by rw [hz]; exact Nat.le_trans hl (by decide))
  refine ⟨.ref s.heap.objs.size, upd H s.heap.objs.size (.lst (l.map fun c => V.str (S [c]))), I.laid hkeep (Nat.le_refl _) (show ObjOk X.prog X.w _ _ _ (.lst (l.map fun c => V.str (S [c]))) from ⟨?_, acc'.toList, c', ?_, ?_⟩), rfl, q _ (I.hok.fresh (Nat.le_refl _))⟩
  · rw [List.length_map]; exact Nat.le_trans hl (by decide)
  · refine vals_of_at (by have e := hacc.1; rw [hz] at e; rw [List.length_map, ← e]; simp) fun j x w h1 h2 => ?_
    obtain ⟨c, u, h3, rfl⟩ := hacc.2 j w (by rw [← Array.getElem?_toList]; exact h2)
    have h3 : l.toArray[j]? = some c := h3
    rw [List.getElem?_toArray] at h3
    rw [List.getElem?_map, h3] at h1
    cases h1
    exact ⟨u, rfl⟩
  · simpa using hS
end EZ
namespace EZ
open PySem L2 PyProof.Rows
/-! cuts: what follows is proved once, from what is then known -/
theorem cutE {te : TE} {σ : St} {H : Hp} {Q : VK} (R : V → Hp → Prop) (h2 : ∀ Q0 : VK, (∀ v H', R v H' → Q0 v H') → te σ H Q0) (h1 : ∀ v H', R v H' → Q v H') : te σ H Q := h2 Q h1
theorem cutT {c : TT} {σ : St} {H : Hp} {Q : Bool → Hp → Prop} (R : Bool → Hp → Prop) (h2 : ∀ Q0 : Bool → Hp → Prop, (∀ v H', R v H' → Q0 v H') → c σ H Q0) (h1 : ∀ v H', R v H' → Q v H') : c σ H Q := h2 Q h1
theorem cutS {t u : TS} {D : Ends} {σ : St} {H : Hp} (R : St → Hp → Prop) (h2 : ∀ nx : St → Hp → Prop, (∀ σ' H', R σ' H' → nx σ' H') → t { D with nx := nx } σ H) (h1 : ∀ σ' H', R σ' H' → u D σ' H') : tSeq t u D σ H := h2 _ h1
theorem seqI {t u : TS} {D : Ends} {σ : St} {H : Hp} (h : tSeq t u D σ H) : tSeq t u D σ H := h
end EZ
namespace EZ
open PySem L2 PyProof.Rows
theorem fm_congr {α β : Type} {f g : α → Option β} : ∀ {l : List α}, (∀ x ∈ l, f x = g x) → l.filterMap f = l.filterMap g
  | [], _ => rfl
  | a :: l, h => by rw [List.filterMap_cons, List.filterMap_cons, h a List.mem_cons_self, fm_congr fun x hx => h x (List.mem_cons_of_mem _ hx)]
section
variable {X : Cx}
/-! text[::-1] -/
theorem rev_pick (l : List Nat) : ((Builtin.Str.strSliceIndices none none (-1) l.length).filterMap ((S l).cps[·]?)).toArray = (S l.reverse).cps := by
  have e : Builtin.Str.strSliceIndices none none (-1) l.length = (List.range l.length).map fun k => l.length - 1 - k := by
    rw [← PySem.W.krv_sliceRange]; rfl
  rw [e]
  show _ = l.reverse.toArray
  congr 1
  have e2 : (fun x : Nat => (S l).cps[x]?) = fun x : Nat => l[x]? := by
    funext x
    show l.toArray[x]? = _
    simp
  rw [e2, List.filterMap_map]
  apply List.ext_getElem?
  intro i
  have e3 : List.filterMap ((fun x : Nat => l[x]?) ∘ fun k => l.length - 1 - k) (List.range l.length) = List.map (fun k => l.getD (l.length - 1 - k) 0) (List.range l.length) := by
    rw [← List.filterMap_eq_map]
    apply fm_congr
    intro x hx
    have hx := List.mem_range.mp hx
    have : l.length - 1 - x < l.length := by omega
    simp [List.getD, this]
  rw [e3, List.getElem?_map]
  by_cases hi : i < l.length
  · rw [List.getElem?_range hi, List.getElem?_reverse hi]
    have : l.length - 1 - i < l.length := by omega
    simp [List.getD, this]
  · rw [List.getElem?_eq_none (by simp; omega), List.getElem?_eq_none (by simp; omega)]
    rfl
def tRevS (te : TE) : TE := fun σ H Q => te σ H fun x H1 => ∃ l, x = .str (S l) ∧ l.length ≤ 100000 ∧ Q (.str (S l.reverse)) H1
theorem pe_revS {e : Expr} {te : TE} {k : Nat} {p1 p2 p3 pos : Pos} (he : PE X e te) : PE X (.Subscript e (.Slice none none (some (.UnaryOp .USub (.Constant (.int 1) k p1) p2)) p3) pos) (tRevS te) := by
  refine ⟨fun pins s σ H Q I h => ?_⟩
  refine Subscript_ (thn (he.run pins s σ H _ I h) fun v s1 ⟨x, H1, I1, r1, q1⟩ => ?_)
  obtain ⟨z, ex, hx, q⟩ := q1
  subst ex
  obtain ⟨t, rfl⟩ := r1
  have hst : PO X (some (.UnaryOp .USub (.Constant (.int 1) k p1) p2)) (tPart (tUn (rU fun i => .int (-i)) (tC (.int 1)))) := po_some (pe_un un_neg pe_int)
  refine wpAny_Slice (thn (po_none.run pins s1 σ H1 (fun o H2 => o = none ∧ H2 = H1) I1 ⟨rfl, rfl⟩) fun vl s2 ⟨l, H2, I2, pl, el, e2⟩ => ?_)
  subst el e2
  refine thn (po_none.run pins s2 σ H2 (fun o H3 => o = none ∧ H3 = H2) I2 ⟨rfl, rfl⟩) fun vu s3 ⟨u, H3, I3, pu, eu, e3⟩ => ?_
  subst eu e3
  refine thn (hst.run pins s3 σ H3 (fun o H4 => o = some (-1) ∧ H4 = H3) I3 ⟨1, rfl, -1, rfl, rfl, rfl⟩) fun vs s4 ⟨o, H4, I4, ps, eo, e4⟩ => ?_
  subst eo e4
  have I5 : Inv X pins σ H4 { s4 with heap := s4.heap.push { cls := .type "slice", data := .fields #[vl, vu, vs] } } := I4.kept (t' := s4.toks) fun b ob q => Heap.get?_push_of_some _ q
  show wpAny (model X.prog X.w) X.A (subscriptTail e (.Slice none none (some (.UnaryOp .USub (.Constant (.int 1) k p1) p2)) p3) (.str (S z) t) (.ref s4.heap.objs.size)) (EP X pins σ Q) X.xe { s4 with heap := s4.heap.push { cls := .type "slice", data := .fields #[vl, vu, vs] } }
  refine tail_any (ops := [.str (S z) t, .ref s4.heap.objs.size]) (typeIs_str _ _ _) F.slot_str_getitem.lookup ?_ (by with_unfolding_all rfl)
  obtain ⟨l1, rfl, e1⟩ := IsPart.raw pl
  obtain ⟨l2, rfl, e2⟩ := IsPart.raw pu
  obtain ⟨l3, rfl, e3⟩ := IsPart.raw ps
  cases l1 with
  | some _ => cases e1
  | none =>
  cases l2 with
  | some _ => cases e2
  | none =>
  cases l3 with
  | none => cases e3
  | some l3 =>
  obtain ⟨i3, t3⟩ := l3
  have e3 : i3 = -1 := by simpa using e3
  subst e3
  obtain ⟨os, hos, hcs, hds⟩ := (Heap.IsSliceOf.new s4.heap (partValue none) (partValue none) (partValue (some ((-1 : Int), t3))))
  refine wpAny_getItem_str_slice (l := none) (u := none) (st := some (-1, t3)) ⟨os, hos, hcs, hds⟩ rfl ?_
  have e : sliceMade (S z) t none none (some (-1, t3)) = .str (S z.reverse) := by
    show (if ((-1 : Int) == 1 && _) = true then _ else Made.str ⟨((Builtin.Str.strSliceIndices none none (-1) (S z).length).filterMap ((S z).cps[·]?)).toArray⟩) = _
    rw [if_neg (by simp)]
    rw [S_len, rev_pick]
  rw [e]
  exact ⟨by rw [S_len, List.length_reverse]; exact Nat.le_trans hx (by decide), .str _, H4, I5.tok _, ⟨_, rfl⟩, q⟩
theorem g_revS {te : TE} {σ : St} {H : Hp} {Q : VK} (h : te σ H fun x H1 => ∃ l, x = .str (S l) ∧ l.length ≤ 100000 ∧ Q (.str (S l.reverse)) H1) : tRevS te σ H Q := h

/-! pairs (number, text) in order -/
def plt (i : Int) (u : List Nat) (j : Int) (v : List Nat) : Bool := if i = j then decide (u < v) else decide (i < j)
def rOrd (K : PySem.W.Frag) (f : Int → List Nat → Int → List Nat → Bool) : R2 := fun x y H Q => ∃ (a b : Addr) (i j : Int) (u v : List Nat), x = .ref a ∧ y = .ref b ∧ SqT K H a [.int i, .str (S u)] ∧ SqT K H b [.int j, .str (S v)] ∧ Q (.bl (f i u j v)) H
def ordV (op : CmpOp) : Int → List Nat → Int → List Nat → Bool := fun i u j v => match op with
  | .Lt => plt i u j v | .LtE => !plt j v i u | .Gt => plt j v i u | .GtE => !plt i u j v | _ => false
theorem S_beq {u v : List Nat} : (S u == S v) = decide (u = v) := by
  by_cases h : u = v
  · subst h; simp
  · have : ¬ S u = S v := fun q => h (S_eq.mp q)
    simp [h, this]
theorem S_cps (u : List Nat) : (S u).cps.toList = u := by show u.toArray.toList = u; simp
theorem rc_lt (A : Around) (s : Shared) (u v : List Nat) (t t' : Tok) : Ob.RcOp .Lt A s (.str (S u) t) (.str (S v) t') (decide (u < v)) := fun _ _ _ _ h => PyProof.Rows.lt_str (by rw [S_cps, S_cps]; exact h)
theorem rc_gt (A : Around) (s : Shared) (u v : List Nat) (t t' : Tok) : Ob.RcOp .Gt A s (.str (S u) t) (.str (S v) t') (decide (v < u)) := fun _ _ _ _ h => PySem.P.gt_str (by rw [S_cps, S_cps]; exact h)
theorem rc_le (A : Around) (s : Shared) (u v : List Nat) (t t' : Tok) : Ob.RcOp .LtE A s (.str (S u) t) (.str (S v) t') (!decide (v < u)) := fun _ _ _ _ h => PySem.P.le_str (by rw [S_cps, S_cps]; exact h)
theorem rc_ge (A : Around) (s : Shared) (u v : List Nat) (t t' : Tok) : Ob.RcOp .GtE A s (.str (S u) t) (.str (S v) t') (!decide (u < v)) := fun _ _ _ _ h => PySem.P.ge_str (by rw [S_cps, S_cps]; exact h)
theorem two_of {P : Nat → Prop} (h0 : P 0) (h1 : P 1) : ∀ j, j < 2 → P j
  | 0, _ => h0
  | 1, _ => h1
  | n + 2, h => absurd h (by omega)
theorem lt_irr (u : List Nat) : ¬ u < u := List.lt_irrefl u
theorem op_ordT (op : CmpOp) (hop : op = .Lt ∨ op = .LtE ∨ op = .Gt ∨ op = .GtE) (hu : X.A.units < cLine) : OpR X (compareOp op) (rOrd X.K (ordV op)) := by
  intro pins s σ H x y v u Q I rx ry h
  obtain ⟨a, b, i, j, u1, v1, rfl, rfl, ha, hb, q⟩ := h
  cases rx
  cases ry
  obtain ⟨its, r1, p1, _⟩ := I.tuple ha
  obtain ⟨its2, r2, p2, _⟩ := I.tuple hb
  obtain ⟨w1, w2, rfl, r11, r12⟩ := vals2 r1
  obtain ⟨w3, w4, rfl, r21, r22⟩ := vals2 r2
  obtain ⟨t1, rfl⟩ := r11
  obtain ⟨t2, rfl⟩ := r12
  obtain ⟨t3, rfl⟩ := r21
  obtain ⟨t4, rfl⟩ := r22
  have E : ∀ k (h1 : k < #[Value.int i t1, Value.str (S u1) t2].size) (h2 : k < #[Value.int j t3, Value.str (S v1) t4].size), SeqAt.EqAt X.A.in1 s #[Value.int i t1, Value.str (S u1) t2][k] #[Value.int j t3, Value.str (S v1) t4][k] ((fun k => if k = 0 then decide (i = j) else decide (u1 = v1)) k) := by
    intro k h1 h2
    have hk : k < 2 := h1
    have : k = 0 ∨ k = 1 := by omega
    rcases this with rfl | rfl
    · show SeqAt.EqAt X.A.in1 s (.int i t1) (.int j t3) (decide (i = j))
      rw [← show (i == j) = decide (i = j) from rfl]
      exact SeqAt.EqAt.int_int _ _ _ _
    · show SeqAt.EqAt X.A.in1 s (.str (S u1) t2) (.str (S v1) t4) (decide (u1 = v1))
      rw [← S_beq]
      exact SeqAt.EqAt.str_str _ _ _ _
  have val : ∀ (r : Nat → Bool) (z : Bool), Ob.lexAt (fun k => if k = 0 then decide (i = j) else decide (u1 = v1)) r z 0 2 = if i = j then (if u1 = v1 then z else r 1) else r 0 := by
    intro r z
    show (if decide (i = j) = true then (if decide (u1 = v1) = true then z else r 1) else r 0) = _
    simp only [decide_eq_true_eq]
  have fin : ∀ b', b' = ordV op i u1 j v1 → Ob.RcOp op X.A s (.ref a) (.ref b) b' → wpAny (model X.prog X.w) X.A (compareOp op (.ref a) (.ref b)) (EP X pins σ Q) X.xe s := by
    intro b' e R
    subst e
    rcases hop with rfl | rfl | rfl | rfl <;> exact R X.prog X.w X.xe (EP X pins σ Q) ⟨.bl _, H, I, rfl, q⟩
  rcases hop with rfl | rfl | rfl | rfl
  · refine fin _ ?_ (Ob.RcOp.tuples_lt (r := fun k => if k = 0 then decide (i < j) else decide (u1 < v1)) p1 p2 hu E fun k h1 h2 _ => ?_)
    · refine (val _ _).trans ?_
      show _ = plt i u1 j v1
      unfold plt
      by_cases hi : i = j
      · rw [if_pos hi, if_pos hi]
        by_cases huv : u1 = v1
        · subst huv
          rw [if_pos rfl, decide_eq_false (lt_irr u1)]
          rfl
        · rw [if_neg huv]; rfl
      · rw [if_neg hi, if_neg hi]; rfl
    · have hk : k < 2 := h1
      have : k = 0 ∨ k = 1 := by omega
      rcases this with rfl | rfl
      · exact Ob.RcOp.lt_int _ _ _ _
      · exact rc_lt _ _ _ _ _ _
  · refine fin _ ?_ (Ob.RcOp.tuples_le (r := fun k => if k = 0 then decide (i ≤ j) else !decide (v1 < u1)) p1 p2 hu E fun k h1 h2 _ => ?_)
    · refine (val _ _).trans ?_
      show _ = !plt j v1 i u1
      unfold plt
      by_cases hi : i = j
      · rw [if_pos hi, if_pos hi.symm]
        by_cases huv : u1 = v1
        · subst huv
          rw [if_pos rfl, decide_eq_false (lt_irr u1)]
          rfl
        · rw [if_neg huv]; rfl
      · rw [if_neg hi, if_neg (show ¬ j = i from fun q => hi q.symm)]
        show decide (i ≤ j) = !decide (j < i)
        by_cases h : i ≤ j
        · rw [decide_eq_true h, decide_eq_false (by omega)]; rfl
        · rw [decide_eq_false h, decide_eq_true (by omega)]; rfl
    · have hk : k < 2 := h1
      have : k = 0 ∨ k = 1 := by omega
      rcases this with rfl | rfl
      · exact Ob.RcOp.le_int _ _ _ _
      · exact rc_le _ _ _ _ _ _
  · refine fin _ ?_ (Ob.RcOp.tuples_gt (r := fun k => if k = 0 then decide (j < i) else decide (v1 < u1)) p1 p2 hu E fun k h1 h2 _ => ?_)
    · refine (val _ _).trans ?_
      show _ = plt j v1 i u1
      unfold plt
      by_cases hi : i = j
      · rw [if_pos hi, if_pos hi.symm]
        by_cases huv : u1 = v1
        · subst huv
          rw [if_pos rfl, decide_eq_false (lt_irr u1)]
          rfl
        · rw [if_neg huv]; rfl
      · rw [if_neg hi, if_neg (show ¬ j = i from fun q => hi q.symm)]; rfl
    · have hk : k < 2 := h1
      have : k = 0 ∨ k = 1 := by omega
      rcases this with rfl | rfl
      · exact Ob.RcOp.gt_int _ _ _ _
      · exact rc_gt _ _ _ _ _ _
  · refine fin _ ?_ (Ob.RcOp.tuples_ge (r := fun k => if k = 0 then decide (j ≤ i) else !decide (u1 < v1)) p1 p2 hu E fun k h1 h2 _ => ?_)
    · refine (val _ _).trans ?_
      show _ = !plt i u1 j v1
      unfold plt
      by_cases hi : i = j
      · rw [if_pos hi, if_pos hi]
        by_cases huv : u1 = v1
        · subst huv
          rw [if_pos rfl, decide_eq_false (lt_irr u1)]
          rfl
        · rw [if_neg huv]; rfl
      · rw [if_neg hi, if_neg hi]
        show decide (j ≤ i) = !decide (i < j)
        by_cases h : j ≤ i
        · rw [decide_eq_true h, decide_eq_false (by omega)]; rfl
        · rw [decide_eq_false h, decide_eq_true (by omega)]; rfl
    · have hk : k < 2 := h1
      have : k = 0 ∨ k = 1 := by omega
      rcases this with rfl | rfl
      · exact Ob.RcOp.ge_int _ _ _ _
      · exact rc_ge _ _ _ _ _ _
end
end EZ
namespace EZ
open PySem L2 PyProof.Rows
/-! what is no list is kept; comprehensions that make new objects -/
def KL (H H' : Hp) : Prop := ∀ a o, H a = some o → (∀ xs, o ≠ .lst xs) → H' a = some o
theorem KL.of {H H' : Hp} (s : Same H H') : KL H H' := fun a o e _ => s a o e
theorem KL.trans {H H1 H2 : Hp} (h : KL H H1) (k : KL H1 H2) : KL H H2 := fun a o e n => k a o (h a o e n) n
theorem KL.put {H : Hp} {D : Addr} {acc xs : List V} (h : H D = some (.lst acc)) : KL H (upd H D (.lst xs)) := fun a o e n => by
  rw [upd_ne]
  · exact e
  · intro q
    subst q
    rw [h] at e
    cases e
    exact n acc rfl
theorem TileAt.kl {C : Addr} {H H' : Hp} {a : Addr} {ds : List Nat} (h : TileAt C H a ds) (s : KL H H') : TileAt C H' a ds := ⟨h.1, h.2.elim fun dx e => ⟨dx, s _ _ e (fun xs q => by cases q)⟩⟩
section
variable {J : It} {n : Nat} {G : Hp → Prop} {Y : Nat → Hp → V → Hp → Prop} {g : TG} {tt : TT} {te : TE} {vs : List Nat} {σ : St} {H1 : Hp} {D : Addr} {Qd : Hp → Prop}
theorem lcN (w : Walk J n G Y) (Good : Nat → V → Hp → Prop) (hn : n ≤ 100000) (hD : H1 D = none) (hG : ∀ H', Same H1 H' → G H') (mono : ∀ i v H H', KL H H' → Good i v H → Good i v H')
    (elt : ∀ i x H2 H3 (R : VK) (R' : Hp → Prop), i < n → Same H1 H2 → Y i H2 x H3 → (∀ v H6, Same H2 H6 → Good i v H6 → R v H6) →
      g x (wipe σ vs) H3 fun σ2 H4 => wipe σ2 vs = wipe σ vs ∧ tt σ2 H4 fun b H5 => if b = true then te σ2 H5 R else R' H5)
    (fin : ∀ ys H', ys.length = n → (∀ (j : Nat) y, ys[j]? = some y → Good j y H') → Same H1 H' → H' D = some (.lst ys) → Qd H') : LcGoal J g tt te vs σ H1 D Qd := by
  refine lc_it w (fun i H' => Same H1 H' ∧ ∃ ys, ys.length = i ∧ (∀ (j : Nat) y, ys[j]? = some y → Good j y H') ∧ H' D = some (.lst ys))
    ⟨fun b o e => by rw [upd_ne (ne_of_none e hD)]; exact e, [], rfl, fun j y h => by simp at h, upd_same⟩ (fun i H _ p => hG H p.1) ?_ (fun H ⟨p1, ys, l, gd, hd⟩ => fin ys H l gd p1 hd)
  rintro i x H2 H3 hi ⟨sm, ys, l, gd, hd⟩ y
  refine elt i x H2 H3 _ _ hi sm y fun v H6 s6 gv => ⟨_, s6 _ _ hd, ?_, ?_, ys ++ [v], ?_, ?_, upd_same⟩
  · exact Nat.lt_of_lt_of_le (show _ < 100001 by omega) (by decide)
  · intro b o e
    rw [upd_ne (ne_of_none e hD)]
    exact s6 _ _ (sm _ _ e)
  · simp [l]
  · intro j y hj
    have kl : KL H6 (upd H6 D (.lst (ys ++ [v]))) := KL.put (s6 _ _ hd)
    rw [List.getElem?_append] at hj
    split at hj
    · exact mono _ _ _ _ ((KL.of s6).trans kl) (gd j y hj)
    · rename_i hlt
      have : j - ys.length = 0 := by
        cases e : j - ys.length with
        | zero => rfl
        | succ m => rw [e] at hj; simp at hj
      rw [this] at hj
      simp at hj
      subst hj
      have : j = i := by omega
      rw [this]
      exact mono _ _ _ _ kl gv
end
theorem g_cat {H : Hp} {l b : Addr} {xs zs : List V} {Q : VK} (hl : H l = some (.lst xs)) (hb : H b = some (.lst zs)) (hz : xs.length + zs.length ≤ 1000) (q : Alloc (.lst (xs ++ zs)) H Q) : rCat (.ref l) (.ref b) H Q :=
  ⟨l, b, xs, zs, rfl, rfl, hl, hb, Nat.le_trans hz (by decide), q⟩
def rLenQ (K : PySem.W.Frag) : List V → Hp → VK → Prop := fun xs H Q => ∃ p ys, xs = [.ref p] ∧ (SqL K H p ys ∨ SqT K H p ys) ∧ Q (.int ys.length) H
theorem g_zip {K : PySem.W.Frag} {ta : TA} {σ : St} {H : Hp} {R : It → Hp → Prop} (h : ta σ H fun vs H1 => ∃ a b xs ys, vs = [.ref a, .ref b] ∧ SqL K H1 a xs ∧ SqL K H1 b ys ∧ R (Itz K a b) H1) : iZip K ta σ H R := h
theorem ypair {xs ys : Nat → Option V} {i : Nat} {H : Hp} {v : V} {H' : Hp} (h : YPair xs ys i H v H') : ∃ T x y, v = .ref T ∧ Same H H' ∧ H' T = some (.tup [x, y]) ∧ xs i = some x ∧ ys i = some y := by
  obtain ⟨T, x, y, rfl, n, rfl, h1, h2⟩ := h
  exact ⟨T, x, y, rfl, Same.set n, upd_same, h1, h2⟩
/-- a list of numbers against [] -/
theorem g_eqI0 {K : PySem.W.Frag} {H : Hp} {p q : Addr} {l : List Int} {Q : VK} (hp : H p = some (.lst (l.map V.int))) (hq : H q = some (.lst [])) (k : Q (.bl l.isEmpty) H) : rEqD K (.ref p) (.ref q) H Q := by
  refine ⟨.list (l.map fun x => .int x), .list [], .lst (SqL.of hp) (DpAll.map _ _ (fun x => .int _) l), .lst (SqL.of hq) .nil, shaped_list (canLay_map _ l fun x hx => rfl) (depth_map _ 60 l fun x _ => Nat.zero_le _), by decide +kernel, ?_⟩
  cases l with
  | nil => exact k
  | cons x l => exact k
/-- a list of texts against [] by != -/
theorem g_neE {K : PySem.W.Frag} {H : Hp} {p q : Addr} {l : List (List Nat)} {Q : VK} (hp : H p = some (.lst (l.map fun x => V.str (S x)))) (hq : H q = some (.lst [])) (h : ∀ x ∈ l, ∀ c ∈ x, c < 1114112) (k : Q (.bl (!l.isEmpty)) H) : rNeD K (.ref p) (.ref q) H Q := by
  refine ⟨.list (l.map fun x => .str (S x)), .list [], .lst (SqL.of hp) (DpAll.map _ _ (fun x => .str _) l), .lst (SqL.of hq) .nil, shaped_list (canLay_map _ l fun x hx => strOk_of (h x hx)) (depth_map _ 60 l fun x _ => Nat.zero_le _), by decide +kernel, ?_⟩
  cases l with
  | nil => exact k
  | cons x l => exact k
end EZ
namespace EZ
open PySem L2
/-! numbers along the orders, plain -/
def cdT : List (List Nat) := [[0, 3, 1, 2], [0, 1, 3, 2], [2, 3, 1, 0], [2, 1, 3, 0]]
def kgT : List (List Nat) := [[0, 2, 3, 1], [0, 1, 3, 2], [3, 2, 0, 1], [3, 1, 0, 2]]
def trT : List Nat := [1, 0, 0, 2]
def cd (t d : Nat) : Nat := (cdT.getD t []).getD d 0
def kg (t g : Nat) : Nat := (kgT.getD t []).getD g 0
def tn (t g : Nat) : Nat := t ^^^ trT.getD g 0
def cc : Nat → List Nat → List Nat
  | _, [] => []
  | t, d :: r => cd t d :: cc (tn t (cd t d)) r
def kc : Nat → List Nat → List Nat
  | _, [] => []
  | t, g :: r => kg t g :: kc (tn t g) r
def ct : Nat → List Nat → Nat
  | t, [] => t
  | t, d :: r => ct (tn t (cd t d)) r
def gt : Nat → List Nat → Nat
  | t, [] => t
  | t, g :: r => gt (tn t g) r
def v4 (ds : List Nat) : Nat := ds.foldl (fun a d => 4 * a + d) 0
def q4 (z n : Nat) : List Nat := (List.range z).map fun i => n / 4 ^ (z - 1 - i) % 4
def cdig (c : Bool) (ds : List Nat) : List Nat := if c then cc 0 ds else ds
def kdig (c : Bool) (gs : List Nat) : List Nat := if c then kc 0 gs else gs
def num (c : Bool) (ds : List Nat) : Nat := v4 (cdig c ds)
def ofn (c : Bool) (z n : Nat) : List Nat := kdig c (q4 z n)
theorem cd_lt : ∀ {t d : Nat}, t < 4 → d < 4 → cd t d < 4 := fun {t d} ht hd => (by decide : ∀ t, t < 4 → ∀ d, d < 4 → cd t d < 4) t ht d hd
theorem kg_lt : ∀ {t d : Nat}, t < 4 → d < 4 → kg t d < 4 := fun {t d} ht hd => (by decide : ∀ t, t < 4 → ∀ d, d < 4 → kg t d < 4) t ht d hd
theorem tn_lt : ∀ {t d : Nat}, t < 4 → d < 4 → tn t d < 4 := fun {t d} ht hd => (by decide : ∀ t, t < 4 → ∀ d, d < 4 → tn t d < 4) t ht d hd
theorem kg_cd : ∀ {t d : Nat}, t < 4 → d < 4 → kg t (cd t d) = d := fun {t d} ht hd => (by decide : ∀ t, t < 4 → ∀ d, d < 4 → kg t (cd t d) = d) t ht d hd
theorem cd_kg : ∀ {t d : Nat}, t < 4 → d < 4 → cd t (kg t d) = d := fun {t d} ht hd => (by decide : ∀ t, t < 4 → ∀ d, d < 4 → cd t (kg t d) = d) t ht d hd
theorem Dig.hd {d : Nat} {r : List Nat} (h : Dig (d :: r)) : d < 4 := h d List.mem_cons_self
theorem Dig.tl {d : Nat} {r : List Nat} (h : Dig (d :: r)) : Dig r := fun e he => h e (List.mem_cons_of_mem _ he)
theorem Dig.cons {d : Nat} {r : List Nat} (h : d < 4) (k : Dig r) : Dig (d :: r) := fun e he => by rcases List.mem_cons.mp he with rfl | he; exact h; exact k e he
theorem cc_len : ∀ (t : Nat) (ds : List Nat), (cc t ds).length = ds.length
  | _, [] => rfl
  | t, d :: r => by show (cc _ r).length + 1 = _; rw [cc_len]; rfl
theorem kc_len : ∀ (t : Nat) (ds : List Nat), (kc t ds).length = ds.length
  | _, [] => rfl
  | t, d :: r => by show (kc _ r).length + 1 = _; rw [kc_len]; rfl
theorem cc_dig : ∀ {t : Nat} {ds : List Nat}, t < 4 → Dig ds → Dig (cc t ds)
  | _, [], _, _ => Dig.nil
  | t, d :: r, ht, h => Dig.cons (cd_lt ht h.hd) (cc_dig (tn_lt ht (cd_lt ht h.hd)) h.tl)
theorem kc_dig : ∀ {t : Nat} {ds : List Nat}, t < 4 → Dig ds → Dig (kc t ds)
  | _, [], _, _ => Dig.nil
  | t, d :: r, ht, h => Dig.cons (kg_lt ht h.hd) (kc_dig (tn_lt ht h.hd) h.tl)
theorem kc_cc : ∀ {t : Nat} {ds : List Nat}, t < 4 → Dig ds → kc t (cc t ds) = ds
  | _, [], _, _ => rfl
  | t, d :: r, ht, h => by
    show kg t (cd t d) :: kc (tn t (cd t d)) (cc (tn t (cd t d)) r) = _
    rw [kg_cd ht h.hd, kc_cc (tn_lt ht (cd_lt ht h.hd)) h.tl]
theorem cc_kc : ∀ {t : Nat} {ds : List Nat}, t < 4 → Dig ds → cc t (kc t ds) = ds
  | _, [], _, _ => rfl
  | t, d :: r, ht, h => by
    show cd t (kg t d) :: cc (tn t (cd t (kg t d))) (kc (tn t d) r) = _
    rw [cd_kg ht h.hd, cc_kc (tn_lt ht h.hd) h.tl]
theorem ct_lt : ∀ {t : Nat} {ds : List Nat}, t < 4 → Dig ds → ct t ds < 4
  | _, [], ht, _ => ht
  | t, d :: r, ht, h => show ct (tn t (cd t d)) r < 4 from ct_lt (tn_lt ht (cd_lt ht h.hd)) h.tl
theorem gt_lt : ∀ {t : Nat} {ds : List Nat}, t < 4 → Dig ds → gt t ds < 4
  | _, [], ht, _ => ht
  | t, d :: r, ht, h => show gt (tn t d) r < 4 from gt_lt (tn_lt ht h.hd) h.tl
theorem cc_app : ∀ (t : Nat) (a b : List Nat), cc t (a ++ b) = cc t a ++ cc (ct t a) b
  | _, [], _ => rfl
  | t, d :: r, b => by show cd t d :: cc _ (r ++ b) = _; rw [cc_app]; rfl
theorem ct_app : ∀ (t : Nat) (a b : List Nat), ct t (a ++ b) = ct (ct t a) b
  | _, [], _ => rfl
  | t, d :: r, b => by show ct _ (r ++ b) = _; rw [ct_app]; rfl
theorem kc_app : ∀ (t : Nat) (a b : List Nat), kc t (a ++ b) = kc t a ++ kc (gt t a) b
  | _, [], _ => rfl
  | t, d :: r, b => by show kg t d :: kc _ (r ++ b) = _; rw [kc_app]; rfl
theorem gt_app : ∀ (t : Nat) (a b : List Nat), gt t (a ++ b) = gt (gt t a) b
  | _, [], _ => rfl
  | t, d :: r, b => by show gt _ (r ++ b) = _; rw [gt_app]; rfl
theorem gt_cc : ∀ (t : Nat) (ds : List Nat), gt t (cc t ds) = ct t ds
  | _, [] => rfl
  | t, d :: r => gt_cc _ r
theorem v4_snoc (ds : List Nat) (d : Nat) : v4 (ds ++ [d]) = 4 * v4 ds + d := by simp [v4]
theorem v4_lt {ds : List Nat} : Dig ds → v4 ds < 4 ^ ds.length := by
  induction ds using snocI with
  | h0 => intro _; decide
  | h1 l d ih =>
    intro h
    have := ih h.left
    have hd : d < 4 := h d (by simp)
    rw [v4_snoc, List.length_append, List.length_singleton, Nat.pow_succ]
    omega
theorem q4_len (z n : Nat) : (q4 z n).length = z := by simp [q4]
theorem q4_dig (z n : Nat) : Dig (q4 z n) := fun d h => by
  simp only [q4, List.mem_map] at h
  obtain ⟨i, _, rfl⟩ := h
  omega
theorem q4_snoc (z n : Nat) : q4 (z + 1) n = q4 z (n / 4) ++ [n % 4] := by
  unfold q4
  rw [List.range_succ, List.map_append]
  congr 1
  · apply List.map_congr_left
    intro i hi
    have hi : i < z := List.mem_range.mp hi
    have e : z + 1 - 1 - i = (z - 1 - i) + 1 := by omega
    rw [e, Nat.pow_succ, Nat.mul_comm, ← Nat.div_div_eq_div_mul]
  · simp
theorem q4_v4 {ds : List Nat} : Dig ds → q4 ds.length (v4 ds) = ds := by
  induction ds using snocI with
  | h0 => intro _; rfl
  | h1 l d ih =>
    intro h
    have hd : d < 4 := h d (by simp)
    rw [List.length_append, List.length_singleton, q4_snoc, v4_snoc]
    have e1 : (4 * v4 l + d) / 4 = v4 l := by omega
    have e2 : (4 * v4 l + d) % 4 = d := by omega
    rw [e1, e2, ih h.left]
theorem v4_q4 : ∀ (z n : Nat), n < 4 ^ z → v4 (q4 z n) = n := by
  intro z
  induction z with
  | zero => intro n h; simp at h; subst h; rfl
  | succ z ih =>
    intro n h
    rw [Nat.pow_succ] at h
    rw [q4_snoc, v4_snoc, ih (n / 4) (by omega)]
    omega
theorem cdig_dig {c : Bool} {ds : List Nat} (h : Dig ds) : Dig (cdig c ds) := by cases c; exact h; exact cc_dig (by decide) h
theorem kdig_dig {c : Bool} {ds : List Nat} (h : Dig ds) : Dig (kdig c ds) := by cases c; exact h; exact kc_dig (by decide) h
theorem cdig_len (c : Bool) (ds : List Nat) : (cdig c ds).length = ds.length := by cases c; rfl; exact cc_len _ _
theorem kdig_len (c : Bool) (ds : List Nat) : (kdig c ds).length = ds.length := by cases c; rfl; exact kc_len _ _
theorem num_lt {c : Bool} {ds : List Nat} (h : Dig ds) : num c ds < 4 ^ ds.length := by have := v4_lt (cdig_dig (c := c) h); rwa [cdig_len] at this
theorem ofn_len (c : Bool) (z n : Nat) : (ofn c z n).length = z := by unfold ofn; rw [kdig_len, q4_len]
theorem ofn_dig (c : Bool) (z n : Nat) : Dig (ofn c z n) := kdig_dig (q4_dig z n)
theorem num_ofn {c : Bool} {z n : Nat} (h : n < 4 ^ z) : num c (ofn c z n) = n := by
  unfold num ofn
  cases c
  · exact v4_q4 z n h
  · show v4 (cc 0 (kc 0 (q4 z n))) = n
    rw [cc_kc (by decide) (q4_dig z n), v4_q4 z n h]
theorem ofn_num {c : Bool} {ds : List Nat} (h : Dig ds) : ofn c ds.length (num c ds) = ds := by
  unfold num ofn
  cases c
  · exact q4_v4 h
  · show kc 0 (q4 ds.length (v4 (cc 0 ds))) = ds
    have := q4_v4 (cc_dig (t := 0) (by decide) h)
    rw [cc_len] at this
    rw [this, kc_cc (by decide) h]
/-! one bit of x, of y -/
theorem kd_at {z x y i : Nat} (h : i < z) : (kd z x y)[i]? = some (x / 2 ^ (z - 1 - i) % 2 + 2 * (y / 2 ^ (z - 1 - i) % 2)) := by
  unfold kd
  rw [List.getElem?_map, List.getElem?_range h]
  rfl
theorem pb_bits {ds : List Nat} {i d : Nat} (hd : Dig ds) (h : ds[i]? = some d) : pb 1 ds / 2 ^ (ds.length - 1 - i) % 2 = d % 2 ∧ pb 2 ds / 2 ^ (ds.length - 1 - i) % 2 = d / 2 := by
  have hi : i < ds.length := by
    by_cases q : i < ds.length
    · exact q
    · rw [List.getElem?_eq_none (by omega)] at h; cases h
  have e := kd_at (z := ds.length) (x := pb 1 ds) (y := pb 2 ds) hi
  rw [kd_pb hd, h] at e
  have e := Option.some.inj e
  have h1 := Nat.mod_lt (pb 1 ds / 2 ^ (ds.length - 1 - i)) (show 2 > 0 by decide)
  have h2 := Nat.mod_lt (pb 2 ds / 2 ^ (ds.length - 1 - i)) (show 2 > 0 by decide)
  omega
theorem comp_bit {x z k : Nat} (hx : x < 2 ^ z) (hk : k < z) : (2 ^ z - 1 - x) / 2 ^ k % 2 = 1 - x / 2 ^ k % 2 := by
  obtain ⟨m, rfl⟩ : ∃ m, z = k + (m + 1) := ⟨z - k - 1, by omega⟩
  have hp : 0 < 2 ^ k := Nat.two_pow_pos k
  have hM : 2 ^ (k + (m + 1)) = 2 ^ k * (2 * 2 ^ m) := by rw [Nat.pow_add, Nat.pow_succ, Nat.mul_comm (2 ^ m) 2]
  have hr := Nat.mod_lt x hp
  have hx2 := Nat.div_add_mod x (2 ^ k)
  have hq : x / 2 ^ k < 2 * 2 ^ m := by
    rw [Nat.div_lt_iff_lt_mul hp, Nat.mul_comm]
    omega
  have e : 2 ^ (k + (m + 1)) - 1 - x = 2 ^ k * (2 * 2 ^ m - 1 - x / 2 ^ k) + (2 ^ k - 1 - x % 2 ^ k) := by
    rw [hM, Nat.mul_sub, Nat.mul_sub, Nat.mul_one]
    have : 2 ^ k * (x / 2 ^ k) + 2 ^ k ≤ 2 ^ k * (2 * 2 ^ m) := by
      have := Nat.mul_le_mul_left (2 ^ k) (show x / 2 ^ k + 1 ≤ 2 * 2 ^ m by omega)
      rwa [Nat.mul_add, Nat.mul_one] at this
    omega
  rw [e, Nat.mul_add_div hp, Nat.div_eq_of_lt (show 2 ^ k - 1 - x % 2 ^ k < 2 ^ k by omega), Nat.add_zero]
  omega
/-- the curve's turns, seen as exchanges and mirrors of x and y -/
def ax (N x y t : Nat) : Nat := if t = 0 then x else if t = 1 then y else if t = 2 then N - y else N - x
def ay (N x y t : Nat) : Nat := if t = 0 then y else if t = 1 then x else if t = 2 then N - x else N - y
def dgO : Nat → Nat → Nat := fun r l => if r = 0 then (if l = 0 then 0 else 1) else (if l = 0 then 3 else 2)
theorem turn4 {t : Nat} (h : t < 4) : t = 0 ∨ t = 1 ∨ t = 2 ∨ t = 3 := by omega
theorem along_step {ds : List Nat} {i d t : Nat} (hd : Dig ds) (h : ds[i]? = some d) (ht : t < 4) :
    ∃ r l : Nat, ax (2 ^ ds.length - 1) (pb 1 ds) (pb 2 ds) t / 2 ^ (ds.length - 1 - i) % 2 = r ∧ ay (2 ^ ds.length - 1) (pb 1 ds) (pb 2 ds) t / 2 ^ (ds.length - 1 - i) % 2 = l ∧ r < 2 ∧ l < 2 ∧ dgO r l = cd t d ∧
      ax (2 ^ ds.length - 1) (pb 1 ds) (pb 2 ds) (tn t (cd t d)) = (if l = 0 then (if r = 1 then 2 ^ ds.length - 1 - ay (2 ^ ds.length - 1) (pb 1 ds) (pb 2 ds) t else ay (2 ^ ds.length - 1) (pb 1 ds) (pb 2 ds) t) else ax (2 ^ ds.length - 1) (pb 1 ds) (pb 2 ds) t) ∧
      ay (2 ^ ds.length - 1) (pb 1 ds) (pb 2 ds) (tn t (cd t d)) = (if l = 0 then (if r = 1 then 2 ^ ds.length - 1 - ax (2 ^ ds.length - 1) (pb 1 ds) (pb 2 ds) t else ax (2 ^ ds.length - 1) (pb 1 ds) (pb 2 ds) t) else ay (2 ^ ds.length - 1) (pb 1 ds) (pb 2 ds) t) := by
  have hi : i < ds.length := by
    by_cases q : i < ds.length
    · exact q
    · rw [List.getElem?_eq_none (by omega)] at h; cases h
  obtain ⟨b1, b2⟩ := pb_bits hd h
  have c1 := comp_bit (pb_lt 1 ds) (show ds.length - 1 - i < ds.length by omega)
  have c2 := comp_bit (pb_lt 2 ds) (show ds.length - 1 - i < ds.length by omega)
  rw [b1] at c1
  rw [b2] at c2
  have hx := pb_lt 1 ds
  have hy := pb_lt 2 ds
  have h4 : d < 4 := hd d (List.mem_of_getElem? h)
  refine ⟨_, _, rfl, rfl, Nat.mod_lt _ (by decide), Nat.mod_lt _ (by decide), ?_⟩
  generalize pb 1 ds = x at *
  generalize pb 2 ds = y at *
  generalize 2 ^ ds.length = N at *
  generalize 2 ^ (ds.length - 1 - i) = p at *
  have hd4 : d = 0 ∨ d = 1 ∨ d = 2 ∨ d = 3 := by omega
  have k1 : N - 1 - (N - 1 - x) = x := by omega
  have k2 : N - 1 - (N - 1 - y) = y := by omega
  rcases turn4 ht with rfl | rfl | rfl | rfl <;> rcases hd4 with rfl | rfl | rfl | rfl <;> simp [ax, ay, b1, b2, c1, c2, dgO, cd, cdT, tn, trT, k1, k2]
theorem half_at {z i : Nat} (h : i < z) : 2 ^ z / 2 ^ (i + 1) = 2 ^ (z - 1 - i) := by
  have e : z = (z - 1 - i) + (i + 1) := by omega
  conv => lhs; rw [e, Nat.pow_add]
  exact Nat.mul_div_cancel _ (Nat.two_pow_pos _)
theorem half_end (z : Nat) : 2 ^ z / 2 ^ (z + 1) = 0 := Nat.div_eq_of_lt (Nat.pow_lt_pow_right (by decide) (by omega))
theorem half_next (z i : Nat) : 2 ^ z / 2 ^ (i + 1) / 2 = 2 ^ z / 2 ^ (i + 1 + 1) := by rw [Nat.div_div_eq_div_mul, ← Nat.pow_succ]
theorem ax_le {x y t N : Nat} (hx : x ≤ N) (hy : y ≤ N) : ax N x y t ≤ N := by unfold ax; split <;> (try split) <;> (try split) <;> omega
theorem ay_le {x y t N : Nat} (hx : x ≤ N) (hy : y ≤ N) : ay N x y t ≤ N := by unfold ay; split <;> (try split) <;> (try split) <;> omega
end EZ
namespace EZ
open PySem L2 PyProof.Rows
section
variable {X : Cx} {CX : CXT} {k : Nat} {f g C : Addr} {sp sp' : Sp} {E : XK} {e : Expr} {es : List Expr} {t : TA} {tf : TE} {p pos : Pos}
theorem call_sub {M : Model} {A : Around} {E : Value → Shared → Prop} {s : Shared} {env : Env} {a b : Expr} {p pos : Pos} {args : List Expr} {Q : Value → Shared → Prop}
    (h : wpAny M A (eval (.Subscript a b p) env) (fun f s₁ => wpAny M A (callWith pos f [] (backTo pos (starEach args env)) []) Q E s₁) E s) : wpAny M A (eval (.Call (.Subscript a b p) args [] pos) env) Q E s := by
  show wpAny M A (do callWith pos (← eval (.Subscript a b p) env) [] (backTo pos (starEach args env)) (backToKw pos (keywordEach [] env))) Q E s
  exact wpAny_bind h
/-- xs[i](e, ..), xs[i] one of two defs -/
def tCall2 (f g : Addr) (sp sp' : Sp) (E : XK) (tf : TE) (t : TA) : TE := fun σ H Q => tf σ H fun v H1 => (v = .ref f ∧ t σ H1 fun vs H2 => sp vs H2 Q E) ∨ (v = .ref g ∧ t σ H1 fun vs H2 => sp' vs H2 Q E)
theorem pe_call2 {a b : Expr} (hf : PE X (.Subscript a b p) tf) (F : FnR X.prog X.w X.K X.mg X.base CX k f sp) (G : FnR X.prog X.w X.K X.mg X.base CX k g sp') (kf : PySem.W.keepIn X.K (.ref f) = true) (kg : PySem.W.keepIn X.K (.ref g) = true) (room : Room k X.A) (hx : Passes CX X E)
    (ha : PA X (e :: es) t) (he : starEach (e :: es) X.env = (false, eval e X.env) :: starEach es X.env := by rfl) (hpl : (backTo pos (starEach es X.env)).any (·.1) = false := by rfl) :
    PE X (.Call (.Subscript a b p) (e :: es) [] pos) (tCall2 f g sp sp' E tf t) := by
  refine ⟨fun pins s σ H Q I h => ?_⟩
  refine call_sub (thn (hf.run pins s σ H _ I h) ?_)
  rintro u s1 ⟨v, H1, I1, rv, ⟨rfl, q⟩ | ⟨rfl, q⟩⟩ <;> cases rv
  · exact PySem.W.callWith_K (h₀ := X.base) I1.ok.mod.kin kf (thn (ha.run pos pins s1 σ H1 _ I1 q) fun us s2 ⟨vs, H2, I2, r, q2⟩ => ⟨I2.kIn, run_at F room I2.ok.frames hx I2 r q2⟩) he hpl
  · exact PySem.W.callWith_K (h₀ := X.base) I1.ok.mod.kin kg (thn (ha.run pos pins s1 σ H1 _ I1 q) fun us s2 ⟨vs, H2, I2, r, q2⟩ => ⟨I2.kIn, run_at G room I2.ok.frames hx I2 r q2⟩) he hpl
theorem g_call2 {σ : St} {H : Hp} {Q : VK} (h : tf σ H fun v H1 => (v = .ref f ∧ t σ H1 fun vs H2 => sp vs H2 Q E) ∨ (v = .ref g ∧ t σ H1 fun vs H2 => sp' vs H2 Q E)) : tCall2 f g sp sp' E tf t σ H Q := h
end
/-- isinstance(err, C2), err the error that the suite holds -/
def rIsiX1 (K : PySem.W.Frag) (a : Addr) (cls : Value) (d : Option Addr) (C : Addr) : List V → Hp → VK → Prop := fun xs H Q => ∃ (C2 : Addr) (b : Bool), xs = [.ref a, .ref C2] ∧ cls = .ref C ∧ d = none ∧ PySem.W.kitOne K (.ref C) (.ref C2) = some b ∧ Q (.bl b) H
theorem call_isiX1 {X : Cx} {C a : Addr} {oe : Obj} {cls : Value} {d : Option Addr} {pn : List (Addr × Obj)} (N : Exk X.K C) (hz : Zc cls d oe) (hf : ∃ vs, oe.data = .fields vs) : CallR (X.suite a ((a, oe) :: pn)) (.builtin "isinstance") (rIsiX1 X.K a cls d C) := by
  intro pins s σ H xs us Q I r h
  obtain ⟨C2, b, rfl, rfl, rfl, e, q⟩ := h
  obtain ⟨u1, u2, rfl, r1, r2⟩ := vals2 r
  cases (show u1 = Value.ref a from r1)
  cases (show u2 = Value.ref C2 from r2)
  obtain ⟨at1, _⟩ := I.pin (a, oe) (List.mem_append_left _ List.mem_cons_self)
  obtain ⟨vs, hd⟩ := hf
  have J : PySem.W.InstAt s.heap a oe C none := ⟨at1, hz.1, by unfold PySem.W.notCls; rw [hd] <;> rfl, by rw [hz.2]; trivial⟩
  have Z := PySem.W.kitx_exc (x := a) (ox := oe) (od := none) N.hcl N.hga N.hgt N.hsub N.ha N.hn N.htk N.hm
  exact PySem.W.kia_one Z I.kIn J e (fun z => nomatch z) fun tk => ⟨.bl b, H, I.tok tk, rfl, q⟩
/-! tables of the text's top -/
def Tab1 (K : PySem.W.Frag) (a : Addr) (ns : List Nat) : Prop := ∃ (o : Obj) (its : Array Value) (n : Nat), K.lookup a = some o ∧ o.cls = .type "tuple" ∧ o.data = .seq its n ∧ its.size ≤ sizeLine ∧ Vals (ns.map fun i : Nat => V.int (i : Int)) its.toList
def TabR (K : PySem.W.Frag) (a : Addr) (as : List Addr) : Prop := ∃ (o : Obj) (its : Array Value) (n : Nat), K.lookup a = some o ∧ o.cls = .type "tuple" ∧ o.data = .seq its n ∧ its.size ≤ sizeLine ∧ Vals (as.map V.ref) its.toList
def Tab2 (K : PySem.W.Frag) (a : Addr) (nss : List (List Nat)) : Prop := ∃ as : List Addr, TabR K a as ∧ as.length = nss.length ∧ ∀ (i : Nat) (b : Addr) (ns : List Nat), as[i]? = some b → nss[i]? = some ns → Tab1 K b ns
theorem tab2_mk4 {K : PySem.W.Frag} {a a0 a1 a2 a3 : Addr} {n0 n1 n2 n3 : List Nat} (h : TabR K a [a0, a1, a2, a3]) (h0 : Tab1 K a0 n0) (h1 : Tab1 K a1 n1) (h2 : Tab1 K a2 n2) (h3 : Tab1 K a3 n3) : Tab2 K a [n0, n1, n2, n3] := by
  refine ⟨[a0, a1, a2, a3], h, rfl, fun i b ns hi hn => ?_⟩
  match i with
  | 0 => cases hi; cases hn; exact h0
  | 1 => cases hi; cases hn; exact h1
  | 2 => cases hi; cases hn; exact h2
  | 3 => cases hi; cases hn; exact h3
  | n + 4 => simp at hi
theorem g_tab1 {K : PySem.W.Frag} {a : Addr} {ns : List Nat} {j m : Nat} {H : Hp} {Q : VK} (h : Tab1 K a ns) (hj : ns[j]? = some m) (q : Q (.int (m : Int)) H) : rIxT K (.ref a) (.int (j : Int)) H Q := by
  refine ⟨a, ns.map fun i : Nat => V.int (i : Int), (j : Int), .int (m : Int), rfl, rfl, .inr h, at_of rfl ?_, q⟩
  rw [List.getElem?_map, hj]
  rfl
theorem g_tab2 {K : PySem.W.Frag} {a : Addr} {nss : List (List Nat)} {ns : List Nat} {j : Nat} {H : Hp} {Q : VK} (h : Tab2 K a nss) (hj : nss[j]? = some ns) (q : ∀ b, Tab1 K b ns → Q (.ref b) H) : rIxT K (.ref a) (.int (j : Int)) H Q := by
  obtain ⟨as, h1, h2, h3⟩ := h
  have hl : j < as.length := by
    rw [h2]
    by_cases q : j < nss.length
    · exact q
    · rw [List.getElem?_eq_none (by omega)] at hj; cases hj
  have ha := List.getElem?_eq_getElem hl
  refine ⟨a, as.map V.ref, (j : Int), .ref as[j], rfl, rfl, .inr h1, at_of rfl ?_, q _ (h3 j _ ns ha hj)⟩
  rw [List.getElem?_map, ha]
  rfl
theorem g_whileS {c : TT} {tb : TS} {D : Ends} {σ : St} {H : Hp} (h : tWhile c tb D σ H) : tWhile c tb D σ H := h
end EZ
namespace EZ
open PySem L2
theorem g_bm {K : PySem.W.Frag} {T : String} {r : V → List V → Hp → VK → Prop} {to : TE} {t : TA} {σ : St} {H : Hp} {Q : VK} (h : to σ H fun x H1 => tyV K T x H1 ∧ t σ H1 fun vs H2 => r x vs H2 Q) : tBM K T r to t σ H Q := h
theorem g_tyL {K : PySem.W.Frag} {H : Hp} {l : Addr} {xs : List V} {R : Prop} (h : H l = some (.lst xs)) (q : R) : tyV K "list" (.ref l) H ∧ R := ⟨.inl ⟨rfl, _, SqL.of h⟩, q⟩
theorem g_append {H : Hp} {l : Addr} {xs : List V} {y : V} {Q : VK} (h : H l = some (.lst xs)) (hz : xs.length < 100000) (q : Q .non (upd H l (.lst (xs ++ [y])))) : rAppend (.ref l) [y] H Q := ⟨l, xs, y, rfl, rfl, h, Nat.lt_of_lt_of_le hz (by decide), q⟩
end EZ
namespace EZ
open PySem L2 PyProof.Rows PySem.SeqAt
/-! v == x, v of a built-in type that has no word for x, x an instance with its own __eq__ -/
section
variable {x C dx : Addr}
theorem dec_str (b : Str) (u : Tok) : Meets (Builtin.«str.__eq__» ⟨[.str b u, .ref x], []⟩) (fun _ R s => s.heap.get? x = some (PySem.W.instObj C dx) ∧ R (.ok (.ret .notImplemented)) s) :=
  .of_wp fun prog w A R s ⟨e1, e2⟩ => by
    obtain ⟨hp, g, d, tk, os⟩ := s
    wp_walk using AutoSeq1.wpAny_loadPart' e1, wpAny_load e1
    exact ⟨_, rfl, e2⟩
theorem dec_int (b : Int) (u : Tok) : Meets (Builtin.«int.__eq__» ⟨[.int b u, .ref x], []⟩) (fun _ R s => s.heap.get? x = some (PySem.W.instObj C dx) ∧ R (.ok (.ret .notImplemented)) s) :=
  .of_wp fun prog w A R s ⟨e1, e2⟩ => by
    obtain ⟨hp, g, d, tk, os⟩ := s
    wp_walk using AutoSeq1.wpAny_loadPart' e1, wpAny_load e1
    exact ⟨_, rfl, e2⟩
theorem dec_bool (b : Bool) : Meets (Builtin.«int.__eq__» ⟨[.bool b, .ref x], []⟩) (fun _ R s => s.heap.get? x = some (PySem.W.instObj C dx) ∧ R (.ok (.ret .notImplemented)) s) :=
  .of_wp fun prog w A R s ⟨e1, e2⟩ => by
    obtain ⟨hp, g, d, tk, os⟩ := s
    wp_walk using AutoSeq1.wpAny_loadPart' e1, wpAny_load e1
    exact ⟨_, rfl, e2⟩
variable {prog : Program} {w : World}
theorem dec_list (l : Addr) : MeetsIn prog w (Builtin.«list.__eq__» ⟨[.ref l, .ref x], []⟩) (fun _ R s => (∀ (A : Around) (Q : Bool → Shared → Prop) (E : Value → Shared → Prop), Q false s → wpAny (model prog w) A (isInstance (.ref x) (.type "list")) Q E s) ∧ R (.ok (.ret .notImplemented)) s) := by
  intro A R s ⟨e1, e2⟩
  obtain ⟨hp, g, d, tk, os⟩ := s
  wp_walk using e1 _ _ _
  exact e2
theorem dec_tuple (l : Addr) : MeetsIn prog w (Builtin.«tuple.__eq__» ⟨[.ref l, .ref x], []⟩) (fun _ R s => (∀ (A : Around) (Q : Bool → Shared → Prop) (E : Value → Shared → Prop), Q false s → wpAny (model prog w) A (isInstance (.ref x) (.type "tuple")) Q E s) ∧ R (.ok (.ret .notImplemented)) s) := by
  intro A R s ⟨e1, e2⟩
  obtain ⟨hp, g, d, tk, os⟩ := s
  wp_walk using e1 _ _ _
  exact e2
end
section
variable {prog : Program} {w : World} {A : Around} {E' : Value → Shared → Prop} {s : Shared} {K : PySem.W.Frag} {x C f : Addr} {ox : Obj} {od : Option Obj} {a : Value} {Ta : String}
theorem refl_own {Q : Value → Shared → Prop} (hu : A.units < cLine) (kin : K.In s.heap) (I : PySem.W.InstAt s.heap x ox C od) (ha : s.TypeIs a Ta) (hsub : PySem.W.subIn K (.ref C) (.type Ta) = some false)
    (dec : ∀ Q' : Option Value → Shared → Prop, Q' none s → wpAny (model prog w) A (tryCompare a "__eq__" (.ref x)) Q' E' s) (S : Sm K C "__eq__" f)
    (h : wpAny (model prog w) A (call (.ref f) [.ref x, a]) (fun v s' => ∃ z, v = .bool z ∧ Q (.bool z) s') E' s) : wpAny (model prog w) A (richCompare .Eq a (.ref x)) Q E' s := by
  have one : wpAny (model prog w) A (tryCompare (.ref x) "__eq__" a) (fun r s' => ∃ v, r = some v ∧ Q v s') E' s := by
    unfold tryCompare
    refine wpAny_bind (PySem.W.ifBound_K kin I S.at_ S.fn (wpAny_mono h (fun v s' z => ?_) fun _ _ z => z))
    obtain ⟨z, rfl, q⟩ := z
    exact wpAny_pure ⟨_, rfl, q⟩
  unfold richCompare
  simp only [ha.oneThing_none]
  refine wpAny_holding (wpAny_bind (wpAny_cRoomFor hu ?_))
  refine wpAny_bind (wpAny_typeOf ha (wpAny_bind (I.type.here ?_)))
  have ne : (Value.type Ta != Value.ref C) = true := rfl
  simp only [ne, if_true]
  refine wpAny_bind ((PySem.W.looks_subIn kin hsub).here ?_)
  simp only [Bool.false_eq_true, if_false, Bool.not_false, if_true]
  refine wpAny_bind (dec _ ?_)
  refine wpAny_bind (wpAny_mono one (fun r s' z => ?_) fun _ _ z => z)
  obtain ⟨v, rfl, q⟩ := z
  exact wpAny_pure q
end
/-- the built-in type of a value that declines -/
def LeftT (H : Hp) (T : String) : V → Prop
  | .str _ => T = "str"
  | .int _ => T = "int"
  | .bl _ => T = "bool"
  | .non => T = "NoneType"
  | .ref p => (T = "list" ∧ ∃ xs, H p = some (.lst xs)) ∨ (T = "tuple" ∧ ∃ xs, H p = some (.tup xs))
  | _ => False
def rReflO (K : PySem.W.Frag) (C : Addr) (sp : Sp) (E : XK) : R2 := fun x y H Q => ∃ a dx fs T, y = .ref a ∧ H a = some (.ins C dx fs) ∧ LeftT H T x ∧ PySem.W.subIn K (.ref C) (.type T) = some false ∧ sp [y, x] H (fun v H' => ∃ z, v = .bl z ∧ Q (.bl z) H') E
theorem op_reflO {X : Cx} {CX : CXT} {k : Nat} {f C : Addr} {sp : Sp} {E : XK} (S : Sm X.K C "__eq__" f) (F : FnR X.prog X.w X.K X.mg X.base CX k f sp) (room : Room k X.A) (hx : Passes CX X E) : OpR X (compareOp .Eq) (rReflO X.K C sp E) := by
  intro pins s σ H x y v u Q I rx ry want
  obtain ⟨a, dx, fs, T, rfl, ha, lt, hsub, want⟩ := want
  cases ry
  obtain ⟨mA, J, _⟩ := ins_get I.hok ha
  obtain ⟨od, J, _⟩ := J.look
  have at1 : s.heap.get? a = some (PySem.W.instObj C dx) := (show ObjOk X.prog X.w H s.heap a (.ins C dx fs) from I.hok a _ ha).2.2.2.1
  have L : PySem.W.Looks (model X.prog X.w) s.heap (isInstance (.ref a) (.type T)) false := J.type.andThen (PySem.W.looks_subIn I.kIn hsub)
  have go : ∀ {i : String}, s.TypeIs v T → Slot T (cmpInfo .Eq).2.1 i → (∀ Q' : Value → Shared → Prop, Q' .notImplemented s → wpAny (model X.prog X.w) X.A (call (.builtin i) [v, .ref a]) Q' X.xe s) → wpAny (model X.prog X.w) X.A (compareOp .Eq v (.ref a)) (EP X pins σ Q) X.xe s := by
    intro i tv sl dc
    refine refl_own room.units0 I.kIn J tv hsub (fun Q' q => wpAny_tryCompare_declines tv sl (dc _ ⟨rfl, q⟩)) S ?_
    refine wpAny_mono (run_at (vs := [V.ref a, x]) F room I.ok.frames hx I (.cons rfl (.cons rx .nil)) want) (fun r s' z => ?_) fun _ _ z => z
    obtain ⟨v2, H2, I2, r2, z2, rfl, q2⟩ := z
    cases r2
    exact ⟨z2, rfl, .bl _, H2, I2, rfl, q2⟩
  cases x with
  | str b =>
    cases (show T = "str" from lt)
    obtain ⟨t, rfl⟩ := rx
    exact go (typeIs_str s b t) PySem.F.slot_str_eq fun _ q => call_meets PySem.F.slot_str_eq (typeIs_str s b t) PySem.F.entry_str_eq (PySem.F.args_str_eq_2 _ _) (dec_str b t) ⟨at1, q⟩
  | int b =>
    cases (show T = "int" from lt)
    obtain ⟨t, rfl⟩ := rx
    exact go (typeIs_int s b t) PySem.F.slot_int_eq fun _ q => call_meets PySem.F.slot_int_eq (typeIs_int s b t) PySem.F.entry_int_eq (PySem.F.args_int_eq_2 _ _) (dec_int b t) ⟨at1, q⟩
  | bl b =>
    cases (show T = "bool" from lt)
    cases rx
    exact go rfl PySem.F.slot_bool_eq fun _ q => call_meets PySem.F.slot_bool_eq rfl PySem.F.entry_int_eq (PySem.F.args_int_eq_2 _ _) (dec_bool b) ⟨at1, q⟩
  | non =>
    cases (show T = "NoneType" from lt)
    cases rx
    exact go rfl PySem.F.slot_NoneType_eq fun _ q => call_gives PySem.F.slot_NoneType_eq rfl PySem.F.entry_NoneType_eq (PySem.F.args_NoneType_eq_2 _ _) (NoneType___eq___none_ref_0 a) q
  | ref p =>
    cases (show v = Value.ref p from rx)
    rcases lt with ⟨rfl, xs, hp⟩ | ⟨rfl, xs, hp⟩
    · obtain ⟨_, its, n, _, ho⟩ := (show ObjOk X.prog X.w H s.heap p (.lst xs) from I.hok p _ hp)
      exact go ⟨_, ho, rfl⟩ PySem.F.slot_list_eq fun _ q => call_meetsIn PySem.F.slot_list_eq ⟨_, ho, rfl⟩ PySem.F.entry_list_eq (PySem.F.args_list_eq_2 _ _) (dec_list p) ⟨fun A' Q' E' q' => L.here q', q⟩
    · obtain ⟨_, its, _, o, ho, hc, n, hd⟩ := (show ObjOk X.prog X.w H s.heap p (.tup xs) from I.hok p _ hp)
      exact go ⟨_, ho, hc⟩ PySem.F.slot_tuple_eq fun _ q => call_meetsIn PySem.F.slot_tuple_eq ⟨_, ho, hc⟩ PySem.F.entry_tuple_eq (PySem.F.args_tuple_eq_2 _ _) (dec_tuple p) ⟨fun A' Q' E' q' => L.here q', q⟩
  | byt b => exact lt.elim
  | flt b => exact lt.elim
  | ty b => exact lt.elim
end EZ
namespace EZ
open PySem L2 PyProof.Rows PySem.SeqAt
/-! xs != ys, lists whose items are equal by their own == -/
section
variable {prog : Program} {w : World} {A : Around} {R : Result → Shared → Prop}
theorem ne_turns (l b : Addr) (N : Nat) (I : Nat → Shared → Prop) (hl : GQ.ListI prog w A (fun e s' => R (.error e) s') l b N I) (fin : ∀ s, I N s → R (.ok (.ret (.bool false))) s) (k : Nat) :
    ∀ i : Nat, N - i = k → i ≤ N → ∀ s, I i s → wpAny (model prog w) A.in1 (Builtin.«list.__eq__.loop» ⟨[.ref l, .ref b, rawInt i, rawInt 3], []⟩) (GQ.FinOf prog w A R) (fun e s' => R (.error e) s') s := by
  induction k with
  | zero =>
    intro i e0 e1 s st
    obtain ⟨us, vs, n, m, a1, a2, z1, z2, _⟩ := hl _ _ st
    have eN : i = N := by omega
    have last : R (.ok (.ret (.bool false))) s := fin s (eN ▸ st)
    obtain ⟨hp, g, d, tk, os⟩ := s
    wp_walk using AutoSeq1.wpAny_loadPart' a1, AutoSeq1.wpAny_loadPart' a2
    have o1 : us[((i : Nat) : Int).toNat]? = none := by simp; omega
    have o2 : vs[((i : Nat) : Int).toNat]? = none := by simp; omega
    rw [o1, o2]
    wp_walk using AutoSeq1.wpAny_loadPart' a1, AutoSeq1.wpAny_loadPart' a2
    show R (.ok (.ret (.bool (us.size != vs.size)))) _
    rw [z1, z2]
    simpa using last
  | succ k ih =>
    intro i e0 e1 s st
    obtain ⟨us, vs, n, m, a1, a2, z1, z2, step⟩ := hl _ _ st
    have t1 : i < us.size := by omega
    have t2 : i < vs.size := by omega
    have here := step t1 t2
    obtain ⟨hp, g, d, tk, os⟩ := s
    wp_walk using AutoSeq1.wpAny_loadPart' a1, AutoSeq1.wpAny_loadPart' a2
    have o1 : us[((i : Nat) : Int).toNat]? = some us[i] := by simp [t1]
    have o2 : vs[((i : Nat) : Int).toNat]? = some vs[i] := by simp [t2]
    rw [o1, o2]
    refine wpAny_bind (wpAny_mono here (fun r s2 ⟨er, st2⟩ => ?_) fun _ _ z => z)
    subst er
    have more := ih (i + 1) (by omega) (by omega) s2 st2
    obtain ⟨hp2, g2, d2, tk2, os2⟩ := s2
    wp_walk
    rw [show ((i : Int) + 1) = ((i + 1 : Nat) : Int) by omega]
    refine ⟨plainId_quiet MeetsSeq3.plain_eq_loop _, codeAny_builtin MeetsSeq3.entry_eq_loop ?_⟩
    rw [Around.under_plainId MeetsSeq3.plain_eq_loop _]
    exact more
theorem ne_body (l b : Addr) (N : Nat) (I : Nat → Shared → Prop) (hl : GQ.ListI prog w A (fun e s' => R (.error e) s') l b N I) (fin : ∀ s, I N s → R (.ok (.ret (.bool false))) s) {s : Shared} (st : I 0 s) :
    wpAny (model prog w) A.in1 (Builtin.«list.__ne__» ⟨[.ref l, .ref b], []⟩) (GQ.FinOf prog w A R) (fun e s' => R (.error e) s') s := by
  obtain ⟨us, vs, n, m, a1, a2, z1, z2, _⟩ := hl _ _ st
  have more := ne_turns (A := A) (R := R) l b N I hl fin _ 0 rfl (Nat.zero_le _) s st
  obtain ⟨hp, g, d, tk, os⟩ := s
  have f1 := AutoSeq1.sub_list_list
  have same : ¬ (us.size != vs.size) = true := by simp [z1, z2]
  wp_walk using AutoSeq1.wpAny_loadPart' a1, AutoSeq1.wpAny_loadPart' a2
  refine ⟨plainId_quiet MeetsSeq3.plain_eq_loop _, codeAny_builtin MeetsSeq3.entry_eq_loop ?_⟩
  rw [Around.under_plainId MeetsSeq3.plain_eq_loop _]
  exact more
end
theorem rc_ne_list {prog : Program} {w : World} {A : Around} {E : Value → Shared → Prop} {s : Shared} {l b : Addr} {N : Nat} {Q : Value → Shared → Prop} (hu : A.units < cLine) (I : Nat → Shared → Prop) (hl : GQ.ListI prog w A E l b N I)
    (fin : ∀ s, I N s → Q (.bool false) s) (st : I 0 s) : wpAny (model prog w) A (richCompare .NotEq (.ref l) (.ref b)) Q E s := by
  obtain ⟨us, vs, n, m, a1, a2, _, _, _⟩ := hl _ _ st
  refine wpAny_richCompare_same_room (op := .NotEq) ⟨_, a1, rfl⟩ ⟨_, a2, rfl⟩ PySem.F.slot_list_ne (GQ.call_here PySem.F.slot_list_ne ⟨_, a1, rfl⟩ PySem.F.entry_list_ne (PySem.F.args_list_ne_2 _ _) ?_) hu
  exact ne_body (R := wants (fun v s' => v ≠ .notImplemented ∧ Q v s') E) l b N I hl (fun s' q => ⟨(fun x => nomatch x), fin s' q⟩) st
def rNeG (D : Eqv) : R2 := fun x y H Q => DList D x y H ∧ ∀ H', Ext H H' → Q (.bl false) H'
theorem op_neG {X : Cx} {n : Nat} {D : Eqv} (hD : Mon D) (h : EqG X n D) (room : Room (n + 1) X.A) : OpR X (compareOp .NotEq) (rNeG D) := by
  intro pins s σ H x y v u Q I rx ry hq
  obtain ⟨⟨a, b, xs, ys, rfl, rfl, ha, hb, p⟩, q⟩ := hq
  cases rx
  cases ry
  show wpAny (model X.prog X.w) X.A (richCompare .NotEq (.ref a) (.ref b)) (EP X pins σ Q) X.xe s
  refine rc_ne_list (N := xs.length) room.units0 (fun _ s' => LoopI X pins σ H s') (fun i s' st => ?_) (fun s' st => ?_) ⟨H, I, Ext.rfl'⟩
  · obtain ⟨H1, I1, e1⟩ := id st
    obtain ⟨_, us, k1, r1, g1⟩ := I1.hok a _ (e1 _ _ ha)
    obtain ⟨_, vs, k2, r2, g2⟩ := I1.hok b _ (e1 _ _ hb)
    exact ⟨us.toArray, vs.toArray, k1, k2, g1, g2, by rw [List.size_toArray, ← r1.length], by rw [List.size_toArray, ← r2.length, ← p.1], fun h1 h2 => turnG hD h ⟨room, rfl⟩ p r1 r2 i h1 h2 s' st⟩
  · obtain ⟨H1, I1, e1⟩ := st
    exact ⟨.bl false, H1, I1, rfl, q H1 e1⟩
end EZ
namespace EZ
open PySem PySem.Spec L2 PyProof.Rows PySem.NumText PySem.Calls
/-! int(t, 4), t four digits -/
theorem read4 {a b c d : Nat} (ha : a < 4) (hb : b < 4) (hc : c < 4) (hd : d < 4) : (int_private% "readNumeral") 0 4 [48 + a, 48 + b, 48 + c, 48 + d] = (int_private% "Numeral.value") ((64 * a + 16 * b + 4 * c + d : Nat) : Int) := by
  have ca : a = 0 ∨ a = 1 ∨ a = 2 ∨ a = 3 := by omega
  have cb : b = 0 ∨ b = 1 ∨ b = 2 ∨ b = 3 := by omega
  have cc : c = 0 ∨ c = 1 ∨ c = 2 ∨ c = 3 := by omega
  have cd : d = 0 ∨ d = 1 ∨ d = 2 ∨ d = 3 := by omega
  rcases ca with rfl | rfl | rfl | rfl <;> rcases cb with rfl | rfl | rfl | rfl <;> rcases cc with rfl | rfl | rfl | rfl <;> rcases cd with rfl | rfl | rfl | rfl <;> rfl
theorem gives4 {a b c d : Nat} {u t : Tok} (ha : a < 4) (hb : b < 4) (hc : c < 4) (hd : d < 4) :
    Gives (Builtin.«int.__new__» ⟨[.type "int", .str (S [48 + a, 48 + b, 48 + c, 48 + d]) u, .int 4 t], []⟩) (.int ((64 * a + 16 * b + 4 * c + d : Nat) : Int)) :=
  .of_wp fun M A E s Q hQ => by
    obtain ⟨hp, g, dr, tk, os⟩ := s
    have k1 := PySem.F.conv_sub_int
    have k2 := PySem.F.madeHere_int
    have k3 : typeOf (.str (S [48 + a, 48 + b, 48 + c, 48 + d]) u) = pure (.type "str") := rfl
    have hx : ∀ z ∈ (S [48 + a, 48 + b, 48 + c, 48 + d]).cps.toList, Hx.IsHex z := by
      intro z hz
      have hz : z ∈ [48 + a, 48 + b, 48 + c, 48 + d] := by simpa using hz
      simp only [List.mem_cons, List.not_mem_nil, or_false] at hz
      exact .inl (by omega)
    obtain ⟨e1, e2⟩ := Hx.seen_hex hx
    have e3 : (S [48 + a, 48 + b, 48 + c, 48 + d]).cps.toList = [48 + a, 48 + b, 48 + c, 48 + d] := by show ([48 + a, 48 + b, 48 + c, 48 + d].toArray).toList = _; simp
    have w1 : (numSeenOf (S [48 + a, 48 + b, 48 + c, 48 + d])).length ≤ 640 := by rw [e2, e3]; show 4 ≤ 640; decide
    have w2 : (int_private% "readNumeral") 0 4 (numSeenOf (S [48 + a, 48 + b, 48 + c, 48 + d])) = (int_private% "Numeral.value") ((64 * a + 16 * b + 4 * c + d : Nat) : Int) := by rw [e2, e3]; exact read4 ha hb hc hd
    have w3 : ((numSeenOf (S [48 + a, 48 + b, 48 + c, 48 + d])).length == (numTextOf (S [48 + a, 48 + b, 48 + c, 48 + d])).length) = true := by rw [e1, e2]; exact beq_self_eq_true _
    have kk := Hx.Hid.mk (And.intro w1 (And.intro w2 w3))
    clear w1 w2 w3 e1 e2 e3 hx
    repeat (any_goals (first
      | assumption
      | ((with_reducible show wpAny _ _ ((int_private% "intFromText") _ _ _) _ _ _); refine Hx.wp_textB kk.out.1 kk.out.2.1 kk.out.2.2 ?_)
      | wp_step))
    all_goals first | exact ⟨_, rfl, hQ⟩ | exact hQ | skip
/-- int(t, 4) -/
def rInt4 : List V → Hp → VK → Prop := fun xs H Q => ∃ a b c d : Nat, xs = [.str (S [48 + a, 48 + b, 48 + c, 48 + d]), .int 4] ∧ (a < 4 ∧ b < 4 ∧ c < 4 ∧ d < 4) ∧ Q (.int ((64 * a + 16 * b + 4 * c + d : Nat) : Int)) H
theorem call_int4 {X : Cx} : CallR X (.type "int") rInt4 := by
  intro pins s σ H xs us Q I r h
  obtain ⟨a, b, c, d, rfl, ⟨ha, hb, hc, hd⟩, q⟩ := h
  obtain ⟨u, v, rfl, ⟨t1, rfl⟩, ⟨t2, rfl⟩⟩ := vals2 r
  refine callType_new PySem.F.called_int PySem.F.newNe_int (Hx.typeCall_int_2 _ _) (Hx.newCall_int_2 _ _) (fun obj => PySem.F.initArgs_range_2 obj _ _) PySem.F.entry_int_new (gives4 ha hb hc hd).meets ?_
  exact (show (Made.int ((64 * a + 16 * b + 4 * c + d : Nat) : Int)).post _ s from ⟨rfl, .int _, H, I.tok _, ⟨_, rfl⟩, q⟩)
theorem RgC.four {n q : Nat} (hn : n < 100000) (e : q = (n + 3) / 4) : RgC 0 (n : Int) 4 q := by
  have sz : Builtin.Range.rangeSize 0 (n : Int) 4 = (q : Int) := by
    unfold Builtin.Range.rangeSize
    rw [if_pos (by decide)]
    split <;> omega
  refine ⟨by decide, by decide, ?_, sz⟩
  unfold Builtin.Range.small
  rw [sz]
  unfold Builtin.Range.rangeFitsLong
  simp only [Bool.and_eq_true, decide_eq_true_eq]
  refine ⟨by omega, ?_⟩
  rw [Bool.or_eq_true]
  right
  rw [if_pos (by decide), Bool.and_eq_true, decide_eq_true_eq, decide_eq_true_eq]
  omega
/-! bytes as lists of numbers -/
def bt (l : List Nat) : Array UInt8 := (l.map UInt8.ofNat).toArray
def B256 (l : List Nat) : Prop := ∀ n ∈ l, n < 256
theorem bt_size (l : List Nat) : (bt l).size = l.length := by simp [bt]
theorem bt_app (a b : List Nat) : bt a ++ bt b = bt (a ++ b) := by simp [bt]
theorem bt_ofInts (l : List Nat) : byteArr (l.map fun n : Nat => (n : Int)) = bt l := by
  unfold byteArr bt
  rw [List.map_map]
  rfl
theorem u8 {n : Nat} (h : n < 256) : (UInt8.ofNat n).toNat = n := by simp [UInt8.toNat_ofNat, Nat.mod_eq_of_lt h]
theorem bt_inj {a b : List Nat} (ha : B256 a) (hb : B256 b) (h : bt a = bt b) : a = b := by
  have e : a.map UInt8.ofNat = b.map UInt8.ofNat := by
    have := congrArg Array.toList h
    simpa [bt] using this
  have e2 := congrArg (List.map UInt8.toNat) e
  rw [List.map_map, List.map_map] at e2
  have go : ∀ {l : List Nat}, B256 l → l.map (UInt8.toNat ∘ UInt8.ofNat) = l := fun {l} hl => by
    conv => rhs; rw [← List.map_id l]
    exact List.map_congr_left fun n hn => u8 (hl n hn)
  rw [go ha, go hb] at e2
  exact e2
theorem bt_from (l : List Nat) (i : Nat) : PySem.W.KBy.picked (bt l) (some (i : Int)) none = bt (l.drop i) := by
  unfold bt
  rw [PySem.W.KBc.picked_eq]
  show (((l.map UInt8.ofNat).drop (clipAt (l.map UInt8.ofNat).toArray.size (i : Int))).take ((l.map UInt8.ofNat).toArray.size - clipAt (l.map UInt8.ofNat).toArray.size (i : Int))).toArray = _
  rw [clipAt_nat, List.size_toArray, List.length_map]
  by_cases h : i ≤ l.length
  · rw [Nat.min_eq_left h, List.take_of_length_le (by simp), List.map_drop]
  · rw [Nat.min_eq_right (by omega), List.drop_of_length_le (by simp), List.drop_of_length_le (show l.length ≤ i by omega), List.take_nil]
    rfl
theorem bt_to (l : List Nat) (j : Nat) : PySem.W.KBy.picked (bt l) none (some (j : Int)) = bt (l.take j) := by
  unfold bt
  rw [PySem.W.KBc.picked_eq]
  show (((l.map UInt8.ofNat).drop 0).take (clipAt (l.map UInt8.ofNat).toArray.size (j : Int) - 0)).toArray = _
  rw [clipAt_nat, List.size_toArray, List.length_map, List.drop_zero, Nat.sub_zero]
  by_cases h : j ≤ l.length
  · rw [Nat.min_eq_left h, List.map_take]
  · rw [Nat.min_eq_right (by omega), List.take_of_length_le (by simp), List.take_of_length_le (by omega)]
theorem bt_last (l : List Nat) (c : Nat) : PySem.W.KBy.picked (bt (l ++ [c])) (some (-1)) none = bt [c] := by
  unfold bt
  rw [List.map_append]
  exact pk_last
theorem bt_butlast (l : List Nat) (c : Nat) : PySem.W.KBy.picked (bt (l ++ [c])) none (some (-1)) = bt l := by
  unfold bt
  rw [List.map_append]
  exact pk_butlast
theorem B256.app {a b : List Nat} (ha : B256 a) (hb : B256 b) : B256 (a ++ b) := fun n h => (List.mem_append.mp h).elim (ha n) (hb n)
theorem B256.take {a : List Nat} (k : Nat) (ha : B256 a) : B256 (a.take k) := fun n h => ha n (List.mem_of_mem_take h)
theorem B256.drop {a : List Nat} (k : Nat) (ha : B256 a) : B256 (a.drop k) := fun n h => ha n (List.mem_of_mem_drop h)
section
variable {σ : St} {H : Hp} {Q : VK}
theorem g_byFrom {l : List Nat} {i : Int} {n : Nat} (hl : l.length ≤ 100000) (e : i = (n : Int)) (q : Q (.byt (bt (l.drop n))) H) : rSlB (.byt (bt l)) (some i) none H Q := ⟨bt l, rfl, by rw [bt_size]; omega, by rw [e, bt_from]; exact q⟩
theorem g_byTo {l : List Nat} {i : Int} {n : Nat} (hl : l.length ≤ 100000) (e : i = (n : Int)) (q : Q (.byt (bt (l.take n))) H) : rSlB (.byt (bt l)) none (some i) H Q := ⟨bt l, rfl, by rw [bt_size]; omega, by rw [e, bt_to]; exact q⟩
theorem by_sz {l : List Nat} (hl : l.length ≤ 100000) : (l.map UInt8.ofNat).length ≤ sizeLine := by rw [List.length_map]; exact Nat.le_trans hl (by decide)
theorem by_in {l : List Nat} {i : Int} {n c : Nat} (e : i = (n : Int)) (h : l[n]? = some c) : 0 ≤ i ∧ i < ((l.map UInt8.ofNat).length : Int) := by
  have hn : n < l.length := by
    by_cases q : n < l.length
    · exact q
    · rw [List.getElem?_eq_none (by omega)] at h; cases h
  rw [List.length_map]
  omega
theorem by_at {l : List Nat} {i : Int} {n c : Nat} (hB : B256 l) (e : i = (n : Int)) (h : l[n]? = some c) : ((l.map UInt8.ofNat).getD i.toNat 0).toNat = c := by
  rw [e, Int.toNat_natCast, List.getD, List.getElem?_map, h]
  exact u8 (hB c (List.mem_of_getElem? h))
theorem by_len {K : PySem.W.Frag} {l : List Nat} (hl : l.length ≤ 100000) : LenV K (.byt (bt l)) H l.length := by
  refine ⟨?_, ?_⟩
  · rw [bt_size]; exact Nat.le_trans hl (by decide)
  · rw [bt_size]
/-! comprehensions of two fors -/
variable {J J1 : It} {n m : Nat} {G G1 : Hp → Prop} {Y Y1 : Nat → Hp → V → Hp → Prop} {g g1 : TG} {tt tt1 : TT} {wi1 : TI} {te : TE} {vs vs1 : List Nat} {H1 H4 : Hp} {D : Addr} {Qd Nx : Hp → Prop}
theorem lc2_in (w : Walk J1 m G1 Y1) {σ2 : St} (Pv : Nat → Hp → Prop) (h0 : Pv 0 H4) (hG : ∀ i H, i ≤ m → Pv i H → G1 H)
    (hs : ∀ i x H H', i < m → Pv i H → Y1 i H x H' → g1 x (wipe σ2 vs1) H' fun σ3 H5 => wipe σ3 vs1 = wipe σ2 vs1 ∧ tt1 σ3 H5 fun b H6 => if b = true then te σ3 H6 fun y H7 => ∃ acc, H7 D = some (.lst acc) ∧ acc.length < sizeLine ∧ Pv (i + 1) (upd H7 D (.lst (acc ++ [y]))) else Pv (i + 1) H6)
    (hd : ∀ H, Pv m H → Nx H) : ∃ W1 : Nat → Nat → Hp → Prop, (∃ m, W1 0 m H4) ∧ ∀ j k H, W1 j k H → (J1.stop j H ∧ Nx H) ∨ (J1.go j H ∧ ∃ Nx1 : Hp → Prop, (∀ H', Nx1 H' → ∃ k', k' < k ∧ W1 (j + 1) k' H') ∧ ∀ x H', J1.yld j H x H' → g1 x (wipe σ2 vs1) H' fun σ3 H5 => wipe σ3 vs1 = wipe σ2 vs1 ∧ tt1 σ3 H5 fun b H6 =>
        if b = true then te σ3 H6 fun y H7 => ∃ acc, H7 D = some (.lst acc) ∧ acc.length < sizeLine ∧ Nx1 (upd H7 D (.lst (acc ++ [y]))) else Nx1 H6) := by
  refine ⟨fun i k H => k = m - i ∧ i ≤ m ∧ Pv i H, ⟨m, by simp, Nat.zero_le _, h0⟩, ?_⟩
  rintro i k H ⟨rfl, hi, p⟩
  by_cases hlt : i < m
  · exact .inr ⟨w.goes i H hlt (hG i H hi p), Pv (i + 1), fun H' p' => ⟨m - (i + 1), by omega, rfl, hlt, p'⟩, fun x H' y => hs i x H H' hlt p (w.yields i H x H' hlt (hG i H hi p) y)⟩
  · have e : i = m := by omega
    subst e
    exact .inl ⟨w.stops H (hG i H hi p), hd H p⟩
theorem lc2_out (w : Walk J n G Y) (Pv : Nat → Hp → Prop) (h0 : Pv 0 (upd H1 D (.lst []))) (hG : ∀ i H, i ≤ n → Pv i H → G H)
    (hs : ∀ i x H H', i < n → Pv i H → Y i H x H' → g x (wipe σ vs) H' fun σ2 H2 => wipe σ2 vs = wipe σ vs ∧ tt σ2 H2 fun b H3 =>
    if b = true then wi1 σ2 H3 fun J1 H4 => ∃ W1 : Nat → Nat → Hp → Prop, (∃ m, W1 0 m H4) ∧ ∀ j k H, W1 j k H →
      (J1.stop j H ∧ Pv (i + 1) H) ∨ (J1.go j H ∧ ∃ Nx1 : Hp → Prop, (∀ H', Nx1 H' → ∃ k', k' < k ∧ W1 (j + 1) k' H') ∧ ∀ x H', J1.yld j H x H' → g1 x (wipe σ2 vs1) H' fun σ3 H5 => wipe σ3 vs1 = wipe σ2 vs1 ∧ tt1 σ3 H5 fun b H6 =>
        if b = true then te σ3 H6 fun y H7 => ∃ acc, H7 D = some (.lst acc) ∧ acc.length < sizeLine ∧ Nx1 (upd H7 D (.lst (acc ++ [y]))) else Nx1 H6)
    else Pv (i + 1) H3) (hd : ∀ H, Pv n H → Qd H) : ∃ W : Nat → Nat → Hp → Prop, (∃ m, W 0 m (upd H1 D (.lst []))) ∧ ∀ i m H, W i m H →
  (J.stop i H ∧ Qd H) ∨ (J.go i H ∧ ∃ Nx : Hp → Prop, (∀ H', Nx H' → ∃ m', m' < m ∧ W (i + 1) m' H') ∧ ∀ x H', J.yld i H x H' → g x (wipe σ vs) H' fun σ2 H2 => wipe σ2 vs = wipe σ vs ∧ tt σ2 H2 fun b H3 =>
    if b = true then wi1 σ2 H3 fun J1 H4 => ∃ W1 : Nat → Nat → Hp → Prop, (∃ m, W1 0 m H4) ∧ ∀ j k H, W1 j k H →
      (J1.stop j H ∧ Nx H) ∨ (J1.go j H ∧ ∃ Nx1 : Hp → Prop, (∀ H', Nx1 H' → ∃ k', k' < k ∧ W1 (j + 1) k' H') ∧ ∀ x H', J1.yld j H x H' → g1 x (wipe σ2 vs1) H' fun σ3 H5 => wipe σ3 vs1 = wipe σ2 vs1 ∧ tt1 σ3 H5 fun b H6 =>
        if b = true then te σ3 H6 fun y H7 => ∃ acc, H7 D = some (.lst acc) ∧ acc.length < sizeLine ∧ Nx1 (upd H7 D (.lst (acc ++ [y]))) else Nx1 H6)
    else Nx H3) := by
  refine ⟨fun i k H => k = n - i ∧ i ≤ n ∧ Pv i H, ⟨n, by simp, Nat.zero_le _, h0⟩, ?_⟩
  rintro i k H ⟨rfl, hi, p⟩
  by_cases hlt : i < n
  · exact .inr ⟨w.goes i H hlt (hG i H hi p), Pv (i + 1), fun H' p' => ⟨n - (i + 1), by omega, rfl, hlt, p'⟩, fun x H' y => hs i x H H' hlt p (w.yields i H x H' hlt (hG i H hi p) y)⟩
  · have e : i = n := by omega
    subst e
    exact .inl ⟨w.stops H (hG i H hi p), hd H p⟩
theorem g_lc2 {wi : TI} (h : wi σ H fun J H1 => ∀ D, H1 D = none → ∃ W : Nat → Nat → Hp → Prop, (∃ m, W 0 m (upd H1 D (.lst []))) ∧ ∀ i m H, W i m H →
  (J.stop i H ∧ Q (.ref D) H) ∨ (J.go i H ∧ ∃ Nx : Hp → Prop, (∀ H', Nx H' → ∃ m', m' < m ∧ W (i + 1) m' H') ∧ ∀ x H', J.yld i H x H' → g x (wipe σ vs) H' fun σ2 H2 => wipe σ2 vs = wipe σ vs ∧ tt σ2 H2 fun b H3 =>
    if b = true then wi1 σ2 H3 fun J1 H4 => ∃ W1 : Nat → Nat → Hp → Prop, (∃ m, W1 0 m H4) ∧ ∀ j k H, W1 j k H →
      (J1.stop j H ∧ Nx H) ∨ (J1.go j H ∧ ∃ Nx1 : Hp → Prop, (∀ H', Nx1 H' → ∃ k', k' < k ∧ W1 (j + 1) k' H') ∧ ∀ x H', J1.yld j H x H' → g1 x (wipe σ2 vs1) H' fun σ3 H5 => wipe σ3 vs1 = wipe σ2 vs1 ∧ tt1 σ3 H5 fun b H6 =>
        if b = true then te σ3 H6 fun y H7 => ∃ acc, H7 D = some (.lst acc) ∧ acc.length < sizeLine ∧ Nx1 (upd H7 D (.lst (acc ++ [y]))) else Nx1 H6)
    else Nx H3)) : tLc2 wi g tt wi1 g1 tt1 te vs vs1 σ H Q := h
theorem g_byt {te : TE} {R : It → Hp → Prop} (h : te σ H fun v H1 => ∃ x, v = .byt x ∧ R (Itb x) H1) : iByt te σ H R := h
theorem walk_byt {x : Array UInt8} : Walk (Itb x) x.size (fun _ => True) (fun i H v H' => H' = H ∧ ∃ c, x[i]? = some c ∧ v = .int ((c.toNat : Nat) : Int)) :=
  ⟨fun _ _ hi _ => hi, fun _ _ => Nat.le_refl _, fun _ _ _ _ _ _ y => y⟩
end
end EZ
namespace EZ
open PySem L2 ClX
def topS (i : Nat) : Stmt := PySem.Challenge.pw_everyzoom_k07_tiles_as_bytes.main.body.getD i (.Pass ⟨0, 0, 0, 0⟩)
abbrev s_is_integer : Stmt := topS 6
abbrev s_is_digits : Stmt := topS 7
abbrev s_is_place : Stmt := topS 9
abbrev s_key_of : Stmt := topS 10
abbrev s_part_bits : Stmt := topS 11
abbrev s_Tile_init : Stmt := inClass (topS 12) 0
abbrev s_Tile_keyed : Stmt := inClass (topS 12) 1
abbrev s_Tile_of : Stmt := inClass (topS 12) 3
abbrev s_Tile_packed : Stmt := inClass (topS 12) 4
abbrev s_Tile_eq : Stmt := inClass (topS 12) 12
abbrev s_law_box : Stmt := topS 14
abbrev s_law_take : Stmt := topS 15
abbrev s_law_digits : Stmt := topS 16
abbrev s_law_key : Stmt := topS 17
abbrev s_law_numbers : Stmt := topS 18
abbrev s_law_key_in : Stmt := topS 19
abbrev s_law_told : Stmt := topS 20
abbrev s_law_spoilt : Stmt := topS 21
abbrev s_law : Stmt := topS 22
structure Tx (K : PySem.W.Frag) (mg : Str → Option Value) where
  m_len : mg "len" = none
  m_abs : mg "abs" = none
  m_min : mg "min" = none
  m_max : mg "max" = none
  m_repr : mg "repr" = none
  m_isinstance : mg "isinstance" = none
  m_all : mg "all" = none
  m_range : mg "range" = none
  m_int : mg "int" = none
  m_str : mg "str" = none
  m_bool : mg "bool" = none
  m_bytes : mg "bytes" = none
  m_tuple : mg "tuple" = none
  u_DIGITS : Value
  g_DIGITS : mg "DIGITS" = some u_DIGITS
  r_DIGITS : RelV (.str (Str.ofString "0123")) u_DIGITS
  f_Tile : Addr
  g_Tile : mg "Tile" = some (.ref f_Tile)
  mc_Tile : Value
  cl_Tile : Cls K f_Tile
  cr_Tile : CRead K f_Tile mc_Tile
  ca_Tile : PySem.W.findIn K (.ref f_Tile) "__class__" = some (some (.builtin "object.__class__"))
  cb_Tile : PySem.W.specialIn K (.builtin "object.__class__") "__get__" = some (some (.builtin "getset_descriptor.__get__"))
  cc_Tile : PySem.W.takesIn K (.builtin "object.__class__") = some true
  cd_Tile : PySem.W.mroIn K f_Tile (.type "object") = some true
  ne_Tile : PySem.W.findIn K (.ref f_Tile) "__ne__" = some (some (.builtin "object.__ne__"))
  na_Tile_zoom : NoAttr K f_Tile "zoom"
  na_Tile_x : NoAttr K f_Tile "x"
  na_Tile_y : NoAttr K f_Tile "y"
  na_Tile_key : NoAttr K f_Tile "key"
  f_is_integer : Addr
  d_is_integer : FuncData
  F_is_integer : Fun K "is_integer" "is_integer" s_is_integer f_is_integer d_is_integer
  b_is_integer : Binds K d_is_integer ["value"] []
  g_is_integer : mg "is_integer" = some (.ref f_is_integer)
  f_is_digits : Addr
  d_is_digits : FuncData
  F_is_digits : Fun K "is_digits" "is_digits" s_is_digits f_is_digits d_is_digits
  b_is_digits : Binds K d_is_digits ["value"] []
  g_is_digits : mg "is_digits" = some (.ref f_is_digits)
  f_is_place : Addr
  d_is_place : FuncData
  F_is_place : Fun K "is_place" "is_place" s_is_place f_is_place d_is_place
  b_is_place : Binds K d_is_place ["value", "zoom"] []
  g_is_place : mg "is_place" = some (.ref f_is_place)
  f_key_of : Addr
  d_key_of : FuncData
  F_key_of : Fun K "key_of" "key_of" s_key_of f_key_of d_key_of
  b_key_of : Binds K d_key_of ["zoom", "x", "y"] []
  g_key_of : mg "key_of" = some (.ref f_key_of)
  f_part_bits : Addr
  d_part_bits : FuncData
  F_part_bits : Fun K "part_bits" "part_bits" s_part_bits f_part_bits d_part_bits
  b_part_bits : Binds K d_part_bits ["key", "part"] []
  g_part_bits : mg "part_bits" = some (.ref f_part_bits)
  f_Tile_init : Addr
  d_Tile_init : FuncData
  F_Tile_init : Fun K "__init__" "Tile.__init__" s_Tile_init f_Tile_init d_Tile_init
  b_Tile_init : Binds K d_Tile_init ["self", "zoom", "x", "y"] []
  me_Tile_init : Meth K f_Tile "__init__" f_Tile_init
  f_Tile_keyed : Addr
  d_Tile_keyed : FuncData
  F_Tile_keyed : Fun K "keyed" "Tile.keyed" s_Tile_keyed f_Tile_keyed d_Tile_keyed
  b_Tile_keyed : Binds K d_Tile_keyed ["cls", "key"] []
  p_Tile_keyed : Addr
  cm_Tile_keyed : CMet K f_Tile mc_Tile "keyed" p_Tile_keyed f_Tile_keyed
  f_Tile_of : Addr
  d_Tile_of : FuncData
  F_Tile_of : Fun K "of" "Tile.of" s_Tile_of f_Tile_of d_Tile_of
  b_Tile_of : Binds K d_Tile_of ["cls", "data"] []
  p_Tile_of : Addr
  cm_Tile_of : CMet K f_Tile mc_Tile "of" p_Tile_of f_Tile_of
  f_Tile_packed : Addr
  d_Tile_packed : FuncData
  F_Tile_packed : Fun K "packed" "Tile.packed" s_Tile_packed f_Tile_packed d_Tile_packed
  b_Tile_packed : Binds K d_Tile_packed ["self"] []
  me_Tile_packed : Meth K f_Tile "packed" f_Tile_packed
  f_Tile_eq : Addr
  d_Tile_eq : FuncData
  F_Tile_eq : Fun K "__eq__" "Tile.__eq__" s_Tile_eq f_Tile_eq d_Tile_eq
  b_Tile_eq : Binds K d_Tile_eq ["self", "other"] []
  me_Tile_eq : Meth K f_Tile "__eq__" f_Tile_eq
  f_law_box : Addr
  d_law_box : FuncData
  F_law_box : Fun K "_law_box" "_law_box" s_law_box f_law_box d_law_box
  b_law_box : Binds K d_law_box ["_law_script", "_law_k"] []
  g_law_box : mg "_law_box" = some (.ref f_law_box)
  f_law_take : Addr
  d_law_take : FuncData
  F_law_take : Fun K "_law_take" "_law_take" s_law_take f_law_take d_law_take
  b_law_take : Binds K d_law_take ["_law_box_here", "_law_many"] []
  g_law_take : mg "_law_take" = some (.ref f_law_take)
  f_law_digits : Addr
  d_law_digits : FuncData
  F_law_digits : Fun K "_law_digits" "_law_digits" s_law_digits f_law_digits d_law_digits
  b_law_digits : Binds K d_law_digits ["_law_box_here", "_law_many"] []
  g_law_digits : mg "_law_digits" = some (.ref f_law_digits)
  f_law_key : Addr
  d_law_key : FuncData
  F_law_key : Fun K "_law_key" "_law_key" s_law_key f_law_key d_law_key
  b_law_key : Binds K d_law_key ["_law_box_here", "_law_most"] []
  g_law_key : mg "_law_key" = some (.ref f_law_key)
  f_law_numbers : Addr
  d_law_numbers : FuncData
  F_law_numbers : Fun K "_law_numbers" "_law_numbers" s_law_numbers f_law_numbers d_law_numbers
  b_law_numbers : Binds K d_law_numbers ["_law_key_here"] []
  g_law_numbers : mg "_law_numbers" = some (.ref f_law_numbers)
  f_law_key_in : Addr
  d_law_key_in : FuncData
  F_law_key_in : Fun K "_law_key_in" "_law_key_in" s_law_key_in f_law_key_in d_law_key_in
  b_law_key_in : Binds K d_law_key_in ["_law_numbers_here"] []
  g_law_key_in : mg "_law_key_in" = some (.ref f_law_key_in)
  f_law_told : Addr
  d_law_told : FuncData
  F_law_told : Fun K "_law_told" "_law_told" s_law_told f_law_told d_law_told
  b_law_told : Binds K d_law_told ["_law_value"] []
  g_law_told : mg "_law_told" = some (.ref f_law_told)
  f_law_spoilt : Addr
  d_law_spoilt : FuncData
  F_law_spoilt : Fun K "_law_spoilt" "_law_spoilt" s_law_spoilt f_law_spoilt d_law_spoilt
  b_law_spoilt : Binds K d_law_spoilt ["_law_box_here", "_law_row", "_law_other"] []
  g_law_spoilt : mg "_law_spoilt" = some (.ref f_law_spoilt)
  f_law : Addr
  d_law : FuncData
  F_law : Fun K "law" "law" s_law f_law d_law
  b_law : Binds K d_law ["_law_script"] []
  g_law : mg "law" = some (.ref f_law)
  mk_Tile : Mk K f_Tile f_Tile_init
  bt_law : ∀ (s : Shared) (u : Value), BindsTo s d_law ⟨[u], []⟩ [("_law_script", u)]
  f_NoTile : Addr
  g_NoTile : mg "NoTile" = some (.ref f_NoTile)
  x_NoTile : PySem.W.excIn K f_NoTile [.type "ValueError", .type "Exception", .type "BaseException", .type "object"] "ValueError.__new__" = true
  k_NoTile : PySem.W.keepIn K (.ref f_NoTile) = true
  b_NoTile : PySem.W.subIn K (.ref f_NoTile) (.type "BaseException") = some true
  t_NoTile : PySem.W.typeIn K (.ref f_NoTile) = some (.type "type")
  f_ZoomError : Addr
  g_ZoomError : mg "ZoomError" = some (.ref f_ZoomError)
  x_ZoomError : PySem.W.excIn K f_ZoomError [.type "ValueError", .type "Exception", .type "BaseException", .type "object"] "ValueError.__new__" = true
  k_ZoomError : PySem.W.keepIn K (.ref f_ZoomError) = true
  b_ZoomError : PySem.W.subIn K (.ref f_ZoomError) (.type "BaseException") = some true
  t_ZoomError : PySem.W.typeIn K (.ref f_ZoomError) = some (.type "type")
  em_NoTile_NoTile : PySem.W.exmOne K (.ref f_NoTile) (.ref f_NoTile) = some true
end EZ
local macro_rules | `(tactic| walk_at "go1") => `(tactic| first
  | with_reducible refine EZ.g_seq ?_ | with_reducible refine EZ.g_next ?_ | with_reducible refine EZ.g_ifs ?_ | with_reducible refine EZ.g_test ?_ | with_reducible refine EZ.g_B ?_ | with_reducible refine EZ.g_bl ?_
  | with_reducible refine EZ.g_op ?_ | with_reducible refine EZ.g_c ?_ | ((with_reducible refine' EZ.g_var ?hh ?_); (case hh => rfl)) | with_reducible refine EZ.g_cons ?_ | with_reducible refine EZ.g_nil ?_ | with_reducible refine EZ.g_cb ?_
  | with_reducible refine EZ.g_I0 ?_ | with_reducible refine EZ.g_asg ?_ | with_reducible refine EZ.g_name ?_ | with_reducible refine EZ.g_sub ?_ | with_reducible refine EZ.g_ret ?_ | with_reducible refine EZ.g_drop ?_
  | with_reducible refine EZ.g_and ?_ | with_reducible refine EZ.g_or ?_ | with_reducible refine EZ.g_not ?_ | with_reducible refine EZ.g_un ?_ | with_reducible refine EZ.g_par ?_ | with_reducible refine EZ.g_par2 ?_
  | with_reducible refine EZ.g_if ?_ | with_reducible refine EZ.g_andV ?_ | with_reducible refine EZ.g_orV ?_ | with_reducible refine EZ.g_notV ?_ | with_reducible refine EZ.g_U ?_ | with_reducible refine EZ.g_eqI ?_ | with_reducible refine EZ.g_neI ?_
  | with_reducible refine EZ.g_eqS ?_ | with_reducible refine EZ.g_neS ?_ | with_reducible refine EZ.g_part ?_ | with_reducible refine EZ.g_noPart ?_ | with_reducible refine EZ.g_sl ?_ | with_reducible refine EZ.g_int1 ?_ | with_reducible refine EZ.g_int2 ?_ | with_reducible refine EZ.g_intL ?_ | with_reducible refine EZ.g_strL ?_ | with_reducible refine EZ.g_ss ?_ | with_reducible refine EZ.g_si ?_ | with_reducible refine EZ.g_intE ?_ | with_reducible refine EZ.g_strE ?_
  | with_reducible refine L2.iteT ?_ | with_reducible refine L2.iteF ?_ | with_reducible refine EZ.g_NT ?_ | with_reducible refine EZ.g_NF ?_ | ((with_reducible refine' EZ.g_wipe ?hh ?_); (case hh => rfl)) | with_reducible refine EZ.g_yes ?_ | with_reducible refine EZ.g_lc ?_ | with_reducible refine EZ.g_for ?_ | with_reducible refine EZ.g_str ?_ | with_reducible refine EZ.g_list ?_ | with_reducible refine EZ.g_tupI ?_
  | with_reducible refine EZ.g_rng1 ?_ | with_reducible refine EZ.g_rng2 ?_ | with_reducible refine EZ.g_rng3 ?_ | with_reducible refine EZ.g_insign ?_ | with_reducible refine EZ.g_m1 ?_ | with_reducible refine EZ.g_chain ?_ | with_reducible refine EZ.g_makeV ?_ | ((with_reducible refine' EZ.g_aug ?hh ?_); (case hh => rfl)) | with_reducible refine EZ.g_par3 ?_ | with_reducible refine EZ.g_three ?_ | with_reducible refine EZ.g_ipI ?_ | with_reducible refine EZ.g_gcons ?_ | with_reducible refine EZ.g_gnil ?_ | ((with_reducible refine' EZ.g_gtup ?hs ?hn ?_); (case hs => first | assumption | exact L2.SqT.of (by assumption)); (case hn => rfl)) | with_reducible refine EZ.g_xfld ?_ | with_reducible refine EZ.g_mkx ?_ | with_reducible refine EZ.g_one ?_ | with_reducible refine EZ.g_isS ?_ | with_reducible refine EZ.g_zip ?_ | with_reducible refine EZ.g_revS ?_ | with_reducible refine EZ.g_bm ?_ | with_reducible refine EZ.g_lenSetS ?_ | with_reducible refine EZ.g_lc2 ?_ | with_reducible refine EZ.g_byt ?_
  | with_reducible refine EZ.g_make ?_ | with_reducible refine EZ.g_cmeth ?_ | with_reducible refine EZ.g_refl ?_ | with_reducible refine EZ.g_fld ?_ | with_reducible refine EZ.g_sfld ?_ | with_reducible refine EZ.g_call ?_ | with_reducible refine EZ.g_lst ?_ | with_reducible refine EZ.g_tup ?_ | ((with_reducible refine' EZ.g_len ?hh ?_); (case hh => exact Nat.le_of_ble_eq_true rfl))
  | ((with_reducible refine' EZ.g_ixL ?hs ?ha ?_); (case hs => first | assumption | exact L2.SqL.of (by assumption) | exact L2.SqL.of L2.upd_same); (case ha => rfl))
  | ((with_reducible refine' EZ.g_ixT ?hs ?ha ?_); (case hs => first | assumption | exact L2.SqT.of (by assumption) | exact L2.SqT.of L2.upd_same); (case ha => rfl))
  | ((with_reducible refine' EZ.g_setL ?hs ?ha ?_); (case hs => first | assumption | exact L2.upd_same); (case ha => rfl))
  | ((with_reducible refine' EZ.g_I ?hc ?_); (case hc => first | decide | omega | assumption | exact ⟨by omega, by omega⟩ | (show (_ : Int) < _; omega) | exact .inl ⟨by decide, by decide⟩ | exact .inr ⟨by decide, by decide⟩ | exact .inl ⟨by omega, by omega⟩ | exact .inr ⟨by omega, by omega⟩ | (refine ⟨?_, ?_, ?_⟩ <;> first | decide | omega))))
local macro_rules | `(tactic| walk_at "go") => `(tactic| repeat (walk_at "go1"))
local macro_rules | `(tactic| walk_at "goS") => `(tactic| ((repeat ((fail_if_success (with_reducible refine EZ.g_seq ?_)); walk_at "go1")); try with_reducible refine EZ.seqI ?_))
local macro_rules | `(tactic| walk_at "goI") => `(tactic| repeat ((fail_if_success (with_reducible refine EZ.g_if ?_)); walk_at "go1"))
namespace EZ
open PySem L2 ClX
section
variable {P : Program} {w : World} {K : PySem.W.Frag} {mg : Str → Option Value} {base : Heap}
/-- the heap is kept but for the box at b -/
def Kp (b : Addr) (H H' : Hp) : Prop := ∀ a o, H a = some o → a ≠ b → H' a = some o
def Box (H : Hp) (b : Addr) : Prop := ∃ x y z : Int, H b = some (.lst [.int x, .int y, .int z]) ∧ 0 ≤ x ∧ 0 ≤ y ∧ 0 ≤ z
theorem sc_law_take : FnScope ["_law_box_here", "_law_many", "_law_digit", "_law_blend"] ["_law_box_here", "_law_many"] (defScope s_law_take) := ⟨rfl, rfl, rfl, by decide +kernel, rfl, by decide +kernel, by decide +kernel⟩
def sp_law_take : Sp := fun vs H Q _ => ∃ (b : Addr) (n : Int), vs = [.ref b, .int n] ∧ Box H b ∧ 0 < n ∧ n < 1073741824 ∧ ∀ (d : Nat) H', (d : Int) < n → Kp b H H' → Box H' b → Q (.int (d : Int)) H'
theorem ok_law_take (T : Tx K mg) : FnOk P w K mg base CX0 1 T.f_law_take T.d_law_take ["_law_box_here", "_law_many"] sp_law_take := by
  refine T.F_law_take.ok sc_law_take (fun vs H Q E h => ?_) (fun cdv A outer s H vs Q E hr h => ?_)
  · obtain ⟨b, n, rfl, _⟩ := h; rfl
  · obtain ⟨b, n, rfl, ⟨x, y, z, hb, hx, hy, hz⟩, hn, hn2, k⟩ := h
    refine ⟨_, (pss_cons (ps_if (pt_cmpR op_gt (pe_ix ix_list (pv 0) pe_int (fun _ _ => rfl)) pe_int (nomark _)) (pss_cons (ps_set (i := 2) sc_law_take.nd rfl (Or.inl rfl) (pe_op op_mod (pe_callTy call_int1 (by rfl) T.m_int (by decide +kernel) (pa_cons (pe_ix ix_list (pv 0) pe_int (fun _ _ => rfl)) pa_nil)) (pv 1)))
      (pss_cons (ps_asg (pe_op op_fdiv (pe_ix ix_list (pv 0) pe_int (fun _ _ => rfl)) (pv 1)) (pg_sub (pv 0) pe_int set_list))
      (pss_one (ps_ret (pv 2))))) pss_nil)
      (pss_cons (ps_asg (pe_op op_add (pe_ix ix_list (pv 0) pe_int (fun _ _ => rfl)) pe_int) (pg_sub (pv 0) pe_int set_list))
      (pss_cons (ps_set (i := 3) sc_law_take.nd rfl (Or.inl rfl) (pe_op op_mod (pe_callTy call_int1 (by rfl) T.m_int (by decide +kernel) (pa_cons (pe_op op_mul (pe_op op_add (pe_ix ix_list (pv 0) pe_int (fun _ _ => rfl)) (pe_op op_mul pe_int (pe_ix ix_list (pv 0) pe_int (fun _ _ => rfl)))) pe_int) pa_nil)) pe_int))
      (pss_cons (ps_asg (pe_op op_add (pe_op op_mod (pe_callTy call_int1 (by rfl) T.m_int (by decide +kernel) (pa_cons (pe_op op_add (pe_op op_mul (pv 3) pe_int) pe_int) pa_nil)) pe_int) pe_int) (pg_sub (pv 0) pe_int set_list))
      (pss_one (ps_ret (pe_op op_mod (pe_callTy call_int1 (by rfl) T.m_int (by decide +kernel) (pa_cons (pe_op op_fdiv (pe_op op_add (pe_op op_mul (pv 3) pe_int) (pe_ix ix_list (pv 0) pe_int (fun _ _ => rfl))) pe_int) pa_nil)) (pv 1)))))))), ?_⟩
    walk_at "go"
    refine ite2 (fun e => ?_) (fun e => ?_)
    · walk_at "go"
      have hm := Int.emod_nonneg x (show n ≠ 0 by omega)
      have hl := Int.emod_lt_of_pos x hn
      have hq : (((x % n).toNat : Nat) : Int) = x % n := Int.toNat_of_nonneg hm
      rw [← hq]
      refine k _ _ (by rw [hq]; exact hl) (fun a o ha ne => by rw [upd_ne ne]; exact ha) ⟨_, y, z, upd_same, Int.ediv_nonneg hx (by omega), hy, hz⟩
    · walk_at "go"
      generalize hv : ((y + 104729 * (z + 1)) * 69623 % 2147483647) = v
      have v0 : 0 ≤ v := by rw [← hv]; exact Int.emod_nonneg _ (by decide)
      generalize hw : (v * 2147483647 + ((v * 48271 + 30103) % 2147483629 + 1)) / 8191 = r
      have hm := Int.emod_nonneg r (show n ≠ 0 by omega)
      have hl := Int.emod_lt_of_pos r hn
      have hq : (((r % n).toNat : Nat) : Int) = r % n := Int.toNat_of_nonneg hm
      have h2 := Int.emod_nonneg (v * 48271 + 30103) (show (2147483629 : Int) ≠ 0 by decide)
      rw [← hq]
      refine k _ _ (by rw [hq]; exact hl) (fun a o ha ne => by rw [upd_ne ne, upd_ne ne]; exact ha) ⟨_, _, _, upd_same, hx, by omega, by omega⟩
end
end EZ
namespace EZ
open PySem L2 ClX
section
variable {P : Program} {w : World} {K : PySem.W.Frag} {mg : Str → Option Value} {base : Heap}
theorem sc_law_box : FnScope ["_law_script", "_law_k", "_law_cell", "_law_great"] ["_law_script", "_law_k"] (defScope s_law_box) := ⟨rfl, rfl, rfl, by decide +kernel, rfl, by decide +kernel, by decide +kernel⟩
def sp_law_box (K : PySem.W.Frag) : Sp := fun vs H Q _ => ∃ (a : Addr) (ns : List Int) (k : Nat), vs = [.ref a, .int (k : Int)] ∧ SqL K H a (ns.map V.int) ∧ ∀ b H', Same H H' → H b = none → Box H' b → Q (.ref b) H'
theorem atI_map {ns : List Int} {j : Nat} (h : j < ns.length) : atI (ns.map V.int) (j : Int) = some (.int ns[j]) := at_of rfl (by rw [List.getElem?_map, List.getElem?_eq_getElem h]; rfl)
theorem box_end {H : Hp} {Q : VK} {c e : Int} (hc : 0 ≤ c) (he : 0 ≤ e) (q : ∀ b H', Same H H' → H b = none → Box H' b → Q (.ref b) H') : Alloc (.lst [.int c, .int e, .int 0]) H Q :=
  alloc fun p H2 np sm hp => q p H2 sm np ⟨c, e, 0, hp, hc, he, by decide⟩
theorem ok_law_box (T : Tx K mg) : FnOk P w K mg base CX0 1 T.f_law_box T.d_law_box ["_law_script", "_law_k"] (sp_law_box K) := by
  refine T.F_law_box.ok sc_law_box (fun vs H Q E h => ?_) (fun cdv A outer s H vs Q E hr h => ?_)
  · obtain ⟨a, ns, k, rfl, _⟩ := h; rfl
  · obtain ⟨a, ns, k, rfl, hS, q⟩ := h
    refine ⟨_, (pss_cons (ps_set (i := 2) sc_law_box.nd rfl (Or.inl rfl) (pe_op op_add (pe_op op_mul pe_int (pv 1)) pe_int))
      (pss_cons (ps_if (pt_cmpR op_lt (pv 1) (pe_callB call_len_seq (by rfl) T.m_len (by decide +kernel) (pa_cons (pv 0) pa_nil)) (nomark _)) (pss_one (ps_set (i := 2) sc_law_box.nd rfl (Or.inl rfl) (pe_callB call_abs (by rfl) T.m_abs (by decide +kernel) (pa_cons (pe_callTy call_int1 (by rfl) T.m_int (by decide +kernel) (pa_cons (pe_ix ix_list (pv 0) (pv 1) (fun _ _ => rfl)) pa_nil)) pa_nil)))) (pss_one (ps_if (pt_cmpR op_gt (pe_callB call_len_seq (by rfl) T.m_len (by decide +kernel) (pa_cons (pv 0) pa_nil)) pe_int (nomark _)) (pss_one (ps_set (i := 2) sc_law_box.nd rfl (Or.inl rfl) (pe_op op_add (pv 2) (pe_op op_mul (pe_op op_mod (pe_callTy call_int1 (by rfl) T.m_int (by decide +kernel) (pa_cons (pe_callB call_abs (by rfl) T.m_abs (by decide +kernel) (pa_cons (pe_callTy call_int1 (by rfl) T.m_int (by decide +kernel) (pa_cons (pe_ix ix_list (pv 0) (pe_op op_mod (pe_callTy call_int1 (by rfl) T.m_int (by decide +kernel) (pa_cons (pv 1) pa_nil)) (pe_callB call_len_seq (by rfl) T.m_len (by decide +kernel) (pa_cons (pv 0) pa_nil))) (fun _ _ => rfl)) pa_nil)) pa_nil)) pa_nil)) pe_int) pe_int)))) pss_nil)))
      (pss_cons (ps_set (i := 3) sc_law_box.nd rfl (Or.inl rfl) (pe_ifExp (pt_cmpR op_ge (pv 2) (pe_op op_pow pe_int pe_int) (nomark _)) (pv 2) pe_int))
      (pss_one (ps_ret (pe_lst (pa_cons (pv 3) (pa_cons (pe_op op_add (pe_op op_mod (pe_callTy call_int1 (by rfl) T.m_int (by decide +kernel) (pa_cons (pe_op op_add (pe_op op_mul (pe_op op_mod (pe_callTy call_int1 (by rfl) T.m_int (by decide +kernel) (pa_cons (pv 2) pa_nil)) pe_int) pe_int) (pe_op op_mul pe_int (pv 1))) pa_nil)) pe_int) pe_int) (pa_cons pe_int pa_nil))))))))), ?_⟩
    walk_at "go"
    refine ⟨a, ns.map V.int, rfl, .inl hS, ?_⟩
    walk_at "go"
    refine ite2 (fun e => ?_) (fun e => ?_)
    · have hk : k < ns.length := by simpa using e
      walk_at "go"
      refine g_ixL hS (atI_map hk) ?_
      walk_at "go"
      have h0 : 0 ≤ (if ns[k] < 0 then -ns[k] else ns[k]) := by split <;> omega
      generalize (if ns[k] < 0 then -ns[k] else ns[k]) = c at h0 ⊢
      refine ite2 (fun e2 => ?_) (fun e2 => ?_)
      all_goals
        walk_at "go"
        refine box_end ?_ ?_ q <;> omega
    · walk_at "go"
      refine ⟨a, ns.map V.int, rfl, .inl hS, ?_⟩
      walk_at "go"
      refine ite2 (fun e1 => ?_) (fun e1 => ?_)
      · have hp : 0 < ns.length := by have := of_decide_eq_true e1; simp at this; omega
        walk_at "go"
        refine ⟨a, ns.map V.int, rfl, .inl hS, ?_⟩
        have hm := Int.emod_nonneg (k : Int) (show (((ns.map V.int).length : Nat) : Int) ≠ 0 by rw [List.length_map]; omega)
        have hl := Int.emod_lt_of_pos (k : Int) (show (0 : Int) < (((ns.map V.int).length : Nat) : Int) by rw [List.length_map]; omega)
        have hj : (((k : Int) % (((ns.map V.int).length : Nat) : Int)).toNat) < ns.length := by rw [List.length_map] at hl ⊢; omega
        have hp2 : (0 : Int) < (((ns.map V.int).length : Nat) : Int) := by rw [List.length_map]; omega
        refine g_I hp2 ?_
        rw [← Int.toNat_of_nonneg hm]
        refine g_ixL hS (atI_map hj) ?_
        walk_at "go"
        generalize ns[((k : Int) % (((ns.map V.int).length : Nat) : Int)).toNat] = v
        have h0 : 0 ≤ (if v < 0 then -v else v) := by split <;> omega
        generalize (if v < 0 then -v else v) = c1 at h0 ⊢
        have h3 := Int.emod_nonneg c1 (show (2147483629 : Int) ≠ 0 by decide)
        obtain ⟨c, hc⟩ : ∃ c, c = 6361 * (k : Int) + 29 + c1 % 2147483629 * 69623 := ⟨_, rfl⟩
        rw [← hc]
        have h4 : 0 ≤ c := by omega
        refine ite2 (fun e2 => ?_) (fun e2 => ?_)
        all_goals
          walk_at "go"
          refine box_end ?_ ?_ q <;> omega
      · walk_at "go"
        obtain ⟨c, hc⟩ : ∃ c, c = 6361 * (k : Int) + 29 := ⟨_, rfl⟩
        rw [← hc]
        refine ite2 (fun e2 => ?_) (fun e2 => ?_)
        all_goals
          walk_at "go"
          try rw [← hc]
          refine box_end ?_ ?_ q <;> omega
end
end EZ
namespace EZ
open PySem L2 ClX
section
variable {P : Program} {w : World} {K : PySem.W.Frag} {mg : Str → Option Value} {base : Heap}
/-- isinstance(v, T) answers b -/
def Isi (K : PySem.W.Frag) (H : Hp) (v : V) (T : String) (b : Bool) : Prop := ∃ t, TyX K H v t ∧ PySem.W.kitOne K t (.type T) = some b
theorem Isi.int (i : Int) {K : PySem.W.Frag} {H : Hp} {T : String} {b : Bool} (h : kitB "int" T = some b) : Isi K H (.int i) T b := ⟨_, .base (.int i), kit_ty h⟩
theorem Isi.str (i : Str) {K : PySem.W.Frag} {H : Hp} {T : String} {b : Bool} (h : kitB "str" T = some b) : Isi K H (.str i) T b := ⟨_, .base (.str i), kit_ty h⟩
theorem g_isi {K : PySem.W.Frag} {H : Hp} {v : V} {T : String} {b : Bool} {Q : VK} (h : Isi K H v T b) (q : Q (.bl b) H) : rIsi K [v, .ty T] H Q := by
  obtain ⟨t, h1, h2⟩ := h
  exact ⟨v, .ty T, t, .type T, b, rfl, .ty _, h1, h2, q⟩
theorem sc_is_integer : FnScope ["value"] ["value"] (defScope s_is_integer) := ⟨rfl, rfl, rfl, by decide +kernel, rfl, by decide +kernel, by decide +kernel⟩
def sp_is_integer (K : PySem.W.Frag) : Sp := fun vs H Q _ => ∃ (v : V) (a b : Bool), vs = [v] ∧ Isi K H v "int" a ∧ Isi K H v "bool" b ∧ Q (.bl (a && !b)) H
theorem ok_is_integer (T : Tx K mg) : FnOk P w K mg base CX0 1 T.f_is_integer T.d_is_integer ["value"] (sp_is_integer K) := by
  refine T.F_is_integer.ok sc_is_integer (fun vs H Q E h => ?_) (fun cdv A outer s H vs Q E hr h => ?_)
  · obtain ⟨v, a, b, rfl, _⟩ := h; rfl
  · obtain ⟨v, a, b, rfl, ha, hb, q⟩ := h
    refine ⟨_, (pss_one (ps_ret (pe_and (pe_callB call_isi (by rfl) T.m_isinstance (by decide +kernel) (pa_cons (pv 0) (pa_cons (pe_bltn (v := .ty "int") (by rfl) T.m_int (by decide +kernel) rfl) pa_nil))) (pe_one (pe_not (pe_callB call_isi (by rfl) T.m_isinstance (by decide +kernel) (pa_cons (pv 0) (pa_cons (pe_bltn (v := .ty "bool") (by rfl) T.m_bool (by decide +kernel) rfl) pa_nil)))))))), ?_⟩
    walk_at "go"
    refine g_isi ha ?_
    walk_at "go"
    cases a
    · walk_at "go"; exact q
    · walk_at "go"
      refine g_isi hb ?_
      walk_at "go"
      exact q
theorem int_is {K : PySem.W.Frag} {H : Hp} {i : Int} {Q : VK} {E : XK} (q : Q (.bl true) H) : sp_is_integer K [.int i] H Q E := ⟨_, true, false, rfl, Isi.int i (by decide +kernel), Isi.int i (by decide +kernel), q⟩
theorem sc_is_digits : FnScope ["value", "sign"] ["value"] (defScope s_is_digits) := ⟨rfl, rfl, rfl, by decide +kernel, rfl, by decide +kernel, by decide +kernel⟩
def isd (c : Nat) : Bool := decide (c ∈ [48, 49, 50, 51])
def sp_is_digits (K : PySem.W.Frag) : Sp := fun vs H Q _ => (∃ (l : List Nat), vs = [.str (S l)] ∧ l.length ≤ 1000 ∧ ∀ H', Same H H' → Q (.bl (l.all isd)) H') ∨ (∃ v, vs = [v] ∧ Isi K H v "str" false ∧ Q (.bl false) H)
theorem ok_is_digits (T : Tx K mg) : FnOk P w K mg base CX0 1 T.f_is_digits T.d_is_digits ["value"] (sp_is_digits K) := by
  refine T.F_is_digits.ok sc_is_digits (fun vs H Q E h => ?_) (fun cdv A outer s H vs Q E hr h => ?_)
  · rcases h with ⟨v, rfl, _⟩ | ⟨v, rfl, _⟩ <;> rfl
  · refine ⟨_, (pss_one (ps_ret (pe_and (pe_callB call_isi (by rfl) T.m_isinstance (by decide +kernel) (pa_cons (pv 0) (pa_cons (pe_bltn (v := .ty "str") (by rfl) T.m_str (by decide +kernel) rfl) pa_nil))) (pe_one (pe_callB (cr_all rfl) (by rfl) T.m_all (by decide +kernel) (pa_cons (pe_lc (own := [("sign", 1)]) (g := gName 1) (tt := tYes)  rfl sc_is_digits.nd (pi_str (pv 0)) (blkOk_by (N := ["value", "sign"]) (sc := defScope s_is_digits) (by decide +kernel)) (fun _ _ _ _ _ => (pg_name (i := 1) sc_is_digits.nd rfl (by first | exact Or.inl rfl | exact Or.inr rfl))) (fun _ _ _ _ _ => pts_nil) (fun _ _ _ _ _ => (pe_cmpR op_in_sign (pv 1) (pe_glob (by rfl) T.g_DIGITS T.r_DIGITS) rfl))) pa_nil)))))), ?_⟩
    rcases h with ⟨l, rfl, hl, q⟩ | ⟨v, rfl, hv, q⟩
    · walk_at "go"
      refine g_isi (b := true) (Isi.str _ (by decide +kernel)) ?_
      walk_at "go"
      refine fun D nD => lcM walk_str (fun i => .bl (isd (l.getD i 0))) (by show l.toArray.size ≤ _; simp; omega) nD (fun _ _ => trivial) (fun i x H2 H3 R R' hi sm y k => ?_) (fun H' sm hd => ?_)
      · obtain ⟨rfl, c, hc, rfl⟩ := y
        walk_at "go"
        have e : c = l.getD i 0 := by
          have hc : l.toArray[i]? = some c := hc
          simp at hc
          simp [List.getD, hc]
        show R (.bl (decide (c ∈ (Str.ofString "0123").cps.toList))) _
        rw [S_0123, e]
        exact k _ (Same.refl _)
      · walk_at "go"
        have e : (List.range (S l).cps.size).map (fun i => V.bl (isd (l.getD i 0))) = (l.map isd).map V.bl := by
          apply List.ext_getElem?
          intro i
          simp only [List.getElem?_map, List.getElem?_range']
          have hz : (S l).cps.size = l.length := by show l.toArray.size = _; simp
          rw [hz]
          by_cases hi : i < l.length
          · simp [hi, List.getElem?_range hi, List.getElem?_eq_getElem hi, List.getD]
          · simp [Nat.le_of_not_lt hi]
        rw [e] at hd
        refine ⟨D, l.map isd, rfl, SqL.of hd, ?_⟩
        have e2 : (l.map isd).all id = l.all isd := by rw [List.all_map]; rfl
        rw [e2]
        exact q H' sm
    · walk_at "go"
      refine g_isi hv ?_
      walk_at "go"
      exact q
end
end EZ
namespace EZ
open PySem L2 ClX
section
variable {P : Program} {w : World} {K : PySem.W.Frag} {mg : Str → Option Value} {base : Heap}
theorem sc_part_bits : FnScope ["key", "part", "found", "digit"] ["key", "part"] (defScope s_part_bits) := ⟨rfl, rfl, rfl, by decide +kernel, rfl, by decide +kernel, by decide +kernel⟩
def sp_part_bits : Sp := fun vs H Q _ => ∃ (ds : List Nat) (p : Nat), vs = [.str (S (dg ds)), .int (p : Int)] ∧ Dig ds ∧ 0 < p ∧ p < 100 ∧ Q (.int ((pb p ds : Nat) : Int)) H
theorem dig_at {ds : List Nat} {i c : Nat} (hd : Dig ds) (h : (S (dg ds)).cps[i]? = some c) : ∃ d, ds[i]? = some d ∧ d < 4 ∧ c = 48 + d := by
  have h : (dg ds).toArray[i]? = some c := h
  simp [dg] at h
  obtain ⟨d, h1, h2⟩ := h
  exact ⟨d, h1, hd d (List.mem_of_getElem? h1), h2.symm⟩
theorem S_size (l : List Nat) : (S l).cps.size = l.length := by show l.toArray.size = _; simp
theorem ok_part_bits (T : Tx K mg) : FnOk P w K mg base CX0 1 T.f_part_bits T.d_part_bits ["key", "part"] sp_part_bits := by
  refine T.F_part_bits.ok sc_part_bits (fun vs H Q E h => ?_) (fun cdv A outer s H vs Q E hr h => ?_)
  · obtain ⟨v, a, rfl, _⟩ := h; rfl
  · obtain ⟨ds, p, rfl, hd, hp, hp2, q⟩ := h
    refine ⟨_, (pss_cons (ps_set (i := 2) sc_part_bits.nd rfl (Or.inl rfl) pe_int)
      (pss_cons (ps_for PassesOwn.never rfl (pi_str (pv 0)) (pg_name (i := 3) sc_part_bits.nd rfl (Or.inl rfl))
      (pss_one (ps_set (i := 2) sc_part_bits.nd rfl (Or.inl rfl) (pe_op op_add (pe_op op_mul pe_int (pv 2)) (pe_op op_mod (pe_callTy call_int1 (by rfl) T.m_int (by decide +kernel) (pa_cons (pe_op op_fdiv (pe_callTy call_int_str (by rfl) T.m_int (by decide +kernel) (pa_cons (pv 3) pa_nil)) (pv 1)) pa_nil)) pe_int)))))
      (pss_one (ps_ret (pv 2))))), ?_⟩
    walk_at "go"
    refine for_it walk_str (fun i σ H' => H' = H ∧ ∃ v, σ = [some (.str (S (dg ds))), some (.int (p : Int)), some (.int ((pb p (ds.take i) : Nat) : Int)), v]) ⟨rfl, none, rfl⟩ (fun _ _ _ _ _ => trivial) ?_ ?_
    · rintro i x σ H1 H2 hi ⟨rfl, v, rfl⟩ ⟨rfl, c, hc, rfl⟩
      obtain ⟨d, h1, h4, rfl⟩ := dig_at hd hc
      walk_at "go"
      refine ⟨S [48 + d], _, rfl, int_dig h4, by show 1 ≤ 640; decide, ?_⟩
      walk_at "go"
      refine ⟨rfl, some (.str ⟨#[48 + d]⟩), ?_⟩
      rw [List.take_add_one, h1]
      show _ = [_, _, some (V.int ((pb p (ds.take i ++ [d]) : Nat) : Int)), _]
      rw [pb_snoc]
      have e : ((2 * pb p (ds.take i) + d / p % 2 : Nat) : Int) = 2 * ((pb p (ds.take i) : Nat) : Int) + ((d : Nat) : Int) / ((p : Nat) : Int) % 2 := by simp
      rw [e]
      rfl
    · rintro σ H1 ⟨rfl, v, rfl⟩
      walk_at "go"
      rw [List.take_of_length_le (by rw [S_size, dg_len]; exact Nat.le_refl _)]
      exact q
end
end EZ
namespace EZ
open PySem L2 ClX
section
variable {P : Program} {w : World} {K : PySem.W.Frag} {mg : Str → Option Value} {base : Heap}
/-- not an integer -/
def NotInt (K : PySem.W.Frag) (H : Hp) (v : V) : Prop := ∃ a b, Isi K H v "int" a ∧ Isi K H v "bool" b ∧ (a && !b) = false
def BadP (K : PySem.W.Frag) (H : Hp) (v : V) (z : Nat) : Prop := NotInt K H v ∨ ∃ i : Int, v = .int i ∧ ¬ (0 ≤ i ∧ i < 2 ^ z)
def GoodP (v : V) (z : Nat) : Prop := ∃ i : Int, v = .int i ∧ 0 ≤ i ∧ i < 2 ^ z
theorem shr_zero {i : Int} {z : Nat} (h0 : 0 ≤ i) : decide (i / 2 ^ ((z : Int)).toNat = 0) = decide (0 ≤ i ∧ i < 2 ^ z) := by
  rw [Int.toNat_natCast]
  have hp : (0 : Int) < 2 ^ z := Int.pow_pos (by decide)
  by_cases hl : i < 2 ^ z
  · simp [h0, hl, Int.ediv_eq_zero_of_lt h0 hl]
  · have : ¬ i / 2 ^ z = 0 := fun q => by
      have := (Int.ediv_lt_iff_lt_mul hp (a := i) (b := 1)).mp (by omega)
      omega
    simp [hl, this]
theorem sc_is_place : FnScope ["value", "zoom"] ["value", "zoom"] (defScope s_is_place) := ⟨rfl, rfl, rfl, by decide +kernel, rfl, by decide +kernel, by decide +kernel⟩
def sp_is_place (K : PySem.W.Frag) : Sp := fun vs H Q _ => ∃ (v : V) (z : Nat), vs = [v, .int (z : Int)] ∧ ((∃ i : Int, v = .int i ∧ Q (.bl (decide (0 ≤ i ∧ i < 2 ^ z))) H) ∨ (NotInt K H v ∧ Q (.bl false) H))
theorem ok_is_place (T : Tx K mg) : FnOk P w K mg base CX0 2 T.f_is_place T.d_is_place ["value", "zoom"] (sp_is_place K) := by
  refine T.F_is_place.ok sc_is_place (fun vs H Q E h => ?_) (fun cdv A outer s H vs Q E hr h => ?_)
  · obtain ⟨v, z, rfl, _⟩ := h; rfl
  · obtain ⟨v, z, rfl, h⟩ := h
    refine ⟨_, (pss_one (ps_ret (pe_and (pe_call (ok_is_integer T) (hr.mono (by decide)) (by rfl) T.g_is_integer T.F_is_integer.kp T.b_is_integer .nil pass0 (pa_cons (pv 0) pa_nil)) (pe_and (pe_cmpR op_ge (pv 0) pe_int (nomark _)) (pe_one (pe_cmpR op_eq (pe_op op_shr (pv 0) (pv 1)) pe_int (nomark _))))))), ?_⟩
    walk_at "go"
    rcases h with ⟨i, rfl, q⟩ | ⟨⟨a, b, ha, hb, hn⟩, q⟩
    · refine int_is ?_
      walk_at "go"
      refine ite2 (fun e => ?_) (fun e => ?_)
      · walk_at "go"
        rw [shr_zero (of_decide_eq_true e)]
        exact q
      · have e2 : decide (0 ≤ i ∧ i < 2 ^ z) = false := by
          have : ¬ 0 ≤ i := fun h => e (decide_eq_true h)
          simp [this]
        rw [e2] at q
        exact q
    · refine ⟨v, a, b, rfl, ha, hb, ?_⟩
      rw [hn]
      walk_at "go"
      exact q
theorem place_bad {H : Hp} {v : V} {z : Nat} {Q : VK} {E : XK} (h : BadP K H v z) (q : Q (.bl false) H) : sp_is_place K [v, .int (z : Int)] H Q E := by
  rcases h with h | ⟨i, rfl, h⟩
  · exact ⟨v, z, rfl, .inr ⟨h, q⟩⟩
  · exact ⟨_, z, rfl, .inl ⟨i, rfl, by rw [decide_eq_false h]; exact q⟩⟩
theorem place_good {H : Hp} {v : V} {z : Nat} {Q : VK} {E : XK} (h : GoodP v z) (q : Q (.bl true) H) : sp_is_place K [v, .int (z : Int)] H Q E := by
  obtain ⟨i, rfl, h1, h2⟩ := h
  exact ⟨_, z, rfl, .inl ⟨i, rfl, by rw [decide_eq_true ⟨h1, h2⟩]; exact q⟩⟩
theorem int_not {H : Hp} {v : V} {Q : VK} {E : XK} (h : NotInt K H v) (q : Q (.bl false) H) : sp_is_integer K [v] H Q E := by
  obtain ⟨a, b, ha, hb, hn⟩ := h
  exact ⟨v, a, b, rfl, ha, hb, by rw [hn]; exact q⟩
end
end EZ
namespace EZ
open PySem L2 ClX
section
variable {P : Program} {w : World} {K : PySem.W.Frag} {mg : Str → Option Value} {base : Heap}
/-- a text joined of texts of a list -/
theorem g_join {K : PySem.W.Frag} {H : Hp} {a : Str} {p : Addr} {ys : List Str} {Q : VK} (hp : SqL K H p (ys.map V.str)) (hl : (ys.map (·.length)).sum + ys.length * a.length ≤ 16777216) (h : Q (.str (Txt.join a ys)) H) :
    ∃ a' p', ∃ ys' : List Str, V.str a = .str a' ∧ [V.ref p] = [.ref p'] ∧ (SqL K H p' (ys'.map V.str) ∨ SqT K H p' (ys'.map V.str)) ∧ (ys'.map (·.length)).sum + ys'.length * a'.length ≤ 16777216 ∧ Q (.str (Txt.join a' ys')) H := ⟨a, p, ys, rfl, rfl, .inl hp, hl, h⟩
theorem sum_ones {ds : List Nat} : ((ds.map fun d => S [48 + d]).map (·.length)).sum = ds.length := by
  induction ds with
  | nil => rfl
  | cons d r ih => simp only [List.map_cons, List.sum_cons, ih, S_len, List.length_cons, List.length_nil]; omega
theorem g_joinD {K : PySem.W.Frag} {H : Hp} {p : Addr} {ds : List Nat} {Q : VK} (hp : SqL K H p (ds.map fun d => V.str (S [48 + d]))) (hl : ds.length ≤ 100000) (h : Q (.str (S (dg ds))) H) :
    ∃ a' p', ∃ ys' : List Str, V.str (Str.ofString "") = .str a' ∧ [V.ref p] = [.ref p'] ∧ (SqL K H p' (ys'.map V.str) ∨ SqT K H p' (ys'.map V.str)) ∧ (ys'.map (·.length)).sum + ys'.length * a'.length ≤ 16777216 ∧ Q (.str (Txt.join a' ys')) H := by
  refine g_join (ys := ds.map fun d => S [48 + d]) (by rw [List.map_map]; exact hp) ?_ ?_
  · rw [sum_ones, S_nil]
    show ds.length + (ds.map _).length * 0 ≤ _
    omega
  · rw [join_dg]; exact h
theorem sc_key_of : FnScope ["zoom", "x", "y", "k"] ["zoom", "x", "y"] (defScope s_key_of) := ⟨rfl, rfl, rfl, by decide +kernel, rfl, by decide +kernel, by decide +kernel⟩
def sp_key_of : Sp := fun vs H Q _ => ∃ (z x y : Nat), vs = [.int (z : Int), .int (x : Int), .int (y : Int)] ∧ z ≤ 1000 ∧ ∀ H', Same H H' → Q (.str (S (dg (kd z x y)))) H'
theorem ok_key_of (T : Tx K mg) : FnOk P w K mg base CX0 1 T.f_key_of T.d_key_of ["zoom", "x", "y"] sp_key_of := by
  refine T.F_key_of.ok sc_key_of (fun vs H Q E h => ?_) (fun cdv A outer s H vs Q E hr h => ?_)
  · obtain ⟨z, x, y, rfl, _⟩ := h; rfl
  · obtain ⟨z, x, y, rfl, hz, q⟩ := h
    refine ⟨_, (pss_one (ps_ret (pe_join pe_str (pe_lc (own := [("k", 3)]) (g := gName 3) (tt := tYes)  rfl sc_key_of.nd (pi_range3 (by rfl) T.m_range (pa_cons (pe_op op_sub (pv 0) pe_int) (pa_cons (pe_un un_neg pe_int) (pa_cons (pe_un un_neg pe_int) pa_nil)))) (blkOk_by (N := ["zoom", "x", "y", "k"]) (sc := defScope s_key_of) (by decide +kernel)) (fun _ _ _ _ _ => (pg_name (i := 3) sc_key_of.nd rfl (by first | exact Or.inl rfl | exact Or.inr rfl))) (fun _ _ _ _ _ => pts_nil) (fun _ _ _ _ _ => (pe_callTy call_str_int (by rfl) T.m_str (by decide +kernel) (pa_cons (pe_op op_add (pe_op op_and (pe_op op_shr (pv 1) (pv 3)) pe_int) (pe_op op_mul pe_int (pe_op op_and (pe_op op_shr (pv 2) (pv 3)) pe_int))) pa_nil))))))), ?_⟩
    walk_at "go"
    refine ⟨(z : Int) - 1, -1, -1, ((z : Int) - 1 - -1).toNat, rfl, RgC.neg (by omega) (by omega) (by decide) (by decide), fun D nD => ?_⟩
    have en : ((z : Int) - 1 - -1).toNat = z := by omega
    rw [en]
    refine lcM walk_rangeC (fun i => .str (S [48 + ((kd z x y).getD i 0)])) (by omega) nD (fun _ _ => trivial) (fun i v H2 H3 R R' hi sm yy k => ?_) (fun H' sm hd => ?_)
    · obtain ⟨rfl, hv⟩ := yy
      have hk : ((z : Int) - 1 + (i : Nat) * -1) = ((z - 1 - i : Nat) : Int) := by omega
      have hv : v = .int ((z - 1 - i : Nat) : Int) := hv.trans (congrArg V.int hk)
      subst hv
      walk_at "go"
      have ex : ∀ u : Nat, Builtin.bitAnd ((u : Int) / 2 ^ (((z - 1 - i : Nat) : Int)).toNat) 1 = ((u / 2 ^ (z - 1 - i) % 2 : Nat) : Int) := fun u => by
        rw [Int.toNat_natCast]
        have e : (u : Int) / 2 ^ (z - 1 - i) = ((u / 2 ^ (z - 1 - i) : Nat) : Int) := by simp
        rw [e, and1 (Int.natCast_nonneg _)]
        simp
      rw [ex, ex]
      have e2 : (((x / 2 ^ (z - 1 - i) % 2 : Nat) : Int) + 2 * ((y / 2 ^ (z - 1 - i) % 2 : Nat) : Int)) = ((x / 2 ^ (z - 1 - i) % 2 + 2 * (y / 2 ^ (z - 1 - i) % 2) : Nat) : Int) := by omega
      rw [e2]
      have h4 : x / 2 ^ (z - 1 - i) % 2 + 2 * (y / 2 ^ (z - 1 - i) % 2) < 4 := by omega
      have e3 : (kd z x y).getD i 0 = x / 2 ^ (z - 1 - i) % 2 + 2 * (y / 2 ^ (z - 1 - i) % 2) := by simp [kd, List.getD, hi]
      refine ⟨small_log h4, ?_⟩
      rw [S_dig h4, ← e3]
      exact k _ (Same.refl _)
    · walk_at "go"
      have e : (List.range z).map (fun i => V.str (S [48 + (kd z x y).getD i 0])) = (kd z x y).map fun d => V.str (S [48 + d]) := by
        apply List.ext_getElem?
        intro i
        by_cases hi : i < z
        · have h2 : i < (kd z x y).length := by rw [kd_len]; exact hi
          simp [hi, List.getElem?_eq_getElem h2, List.getD]
        · have h2 : (kd z x y).length ≤ i := by rw [kd_len]; omega
          simp [Nat.le_of_not_lt hi, h2]
      rw [e] at hd
      refine g_joinD (SqL.of hd) (by rw [kd_len]; omega) ?_
      exact q H' sm
end
end EZ
namespace EZ
open PySem L2 ClX
section
variable {P : Program} {w : World} {K : PySem.W.Frag} {mg : Str → Option Value} {base : Heap}
/-- a field of a tile is read -/
theorem g_tf {K : PySem.W.Frag} {mg : Str → Option Value} (T : Tx K mg) {H : Hp} {a : Addr} {ds : List Nat} {f : Str} {v : V} {R : V → Prop} (h : TileAt T.f_Tile H a ds) (na : NoAttr K T.f_Tile f) (l : (tf ds).lookup f = some v) (q : R v) :
    ∃ a' C dx fs v', V.ref a = .ref a' ∧ H a' = some (.ins C dx fs) ∧ Cls K C ∧ NoAttr K C f ∧ fs.lookup f = some v' ∧ R v' := by
  obtain ⟨_, dx, e⟩ := h
  exact ⟨a, T.f_Tile, dx, tf ds, v, rfl, e, T.cl_Tile, na, l, q⟩
theorem sc_Tile_init : FnScope ["self", "zoom", "x", "y"] ["self", "zoom", "x", "y"] (defScope s_Tile_init) := ⟨rfl, rfl, rfl, by decide +kernel, rfl, by decide +kernel, by decide +kernel⟩
def sp_Tile_init (K : PySem.W.Frag) (C N : Addr) : Sp := fun vs H Q E => ∃ (p dx : Addr) (z x y : V), vs = [.ref p, z, x, y] ∧ H p = some (.ins C dx []) ∧
  ((∃ ds : List Nat, z = .int (ds.length : Int) ∧ x = .int ((pb 1 ds : Nat) : Int) ∧ y = .int ((pb 2 ds : Nat) : Int) ∧ Dig ds ∧ ds.length ≤ 1000 ∧ ∀ H', (∀ a o, H a = some o → a ≠ p → H' a = some o) → H' p = some (.ins C dx (tf ds)) → Q .non H') ∨
   ((NotInt K H z ∨ (∃ n : Int, z = .int n ∧ n < 0) ∨ ∃ n : Nat, z = .int (n : Int) ∧ n ≤ 1000 ∧ (BadP K H x n ∨ (GoodP x n ∧ BadP K H y n))) ∧ E (.ref N) none H))
theorem ok_Tile_init (T : Tx K mg) : FnOk P w K mg base (L2.CX P w) 3 T.f_Tile_init T.d_Tile_init ["self", "zoom", "x", "y"] (sp_Tile_init K T.f_Tile T.f_NoTile) := by
  refine T.F_Tile_init.okX sc_Tile_init (fun vs H Q E h => ?_) (fun cdv A outer s H vs Q E hr h => ?_)
  · obtain ⟨p, dx, z, x, y, rfl, _⟩ := h; rfl
  · obtain ⟨p, dx, z, x, y, rfl, hp, h⟩ := h
    refine ⟨_, (pss_cons (ps_if (PW.pt (pw_or (pt_not (pt_val (pe_call (ok_is_integer T) (hr.mono (by decide)) (by rfl) T.g_is_integer T.F_is_integer.kp T.b_is_integer .nil pass0 (pa_cons (pv 1) pa_nil)))) (pw_or (pt_cmpR op_lt (pv 1) pe_int (nomark _)) (pw_or (pt_not (pt_val (pe_call (ok_is_place T) (hr.mono (by decide)) (by rfl) T.g_is_place T.F_is_place.kp T.b_is_place .nil pass0 (pa_cons (pv 2) (pa_cons (pv 1) pa_nil))))) (pw_or1 (pt_not (pt_val (pe_call (ok_is_place T) (hr.mono (by decide)) (by rfl) T.g_is_place T.F_is_place.kp T.b_is_place .nil pass0 (pa_cons (pv 3) (pa_cons (pv 1) pa_nil)))))))))) (pss_one (ps_raise rfl (takes_of rfl rfl rfl rfl) (pmk_own0 PySem.F.excBase_ValueError T.x_NoTile T.g_NoTile T.k_NoTile (raises_own T.b_NoTile T.t_NoTile) rfl))) pss_nil)
      (pss_cons (ps_fld (pv 0) (pv 1) rfl)
      (pss_cons (ps_fld (pv 0) (pv 2) rfl)
      (pss_cons (ps_fld (pv 0) (pv 3) rfl)
      (pss_one (ps_fld (pv 0) (pe_call (ok_key_of T) (hr.mono (by decide)) (by rfl) T.g_key_of T.F_key_of.kp T.b_key_of .nil pass0 (pa_cons (pv 1) (pa_cons (pv 2) (pa_cons (pv 3) pa_nil)))) rfl)))))), ?_⟩
    walk_at "go"
    rcases h with ⟨ds, rfl, rfl, rfl, hd, hl, q⟩ | ⟨hz | ⟨n, rfl, hn⟩ | ⟨n, rfl, hn, h⟩, q⟩
    · refine int_is ?_
      walk_at "go"
      rw [decide_eq_false (show ¬ ((ds.length : Nat) : Int) < 0 by omega)]
      walk_at "go"
      refine place_good ⟨_, rfl, by omega, by exact_mod_cast pb_lt 1 ds⟩ ?_
      walk_at "go"
      refine place_good ⟨_, rfl, by omega, by exact_mod_cast pb_lt 2 ds⟩ ?_
      walk_at "go"
      refine ⟨p, T.f_Tile, dx, [], rfl, hp, T.cl_Tile, T.na_Tile_zoom, by decide, ?_⟩
      walk_at "go"
      refine ⟨p, T.f_Tile, dx, _, rfl, upd_same, T.cl_Tile, T.na_Tile_x, by show 1 < 1000; decide, ?_⟩
      rw [upd_upd]
      walk_at "go"
      refine ⟨p, T.f_Tile, dx, _, rfl, upd_same, T.cl_Tile, T.na_Tile_y, Nat.lt_of_le_of_lt (length_putF _ _ _) (Nat.lt_of_le_of_lt (Nat.succ_le_succ (length_putF _ _ _)) (by decide)), ?_⟩
      rw [upd_upd]
      walk_at "go"
      refine ⟨_, _, _, rfl, hl, fun H' sm => ?_⟩
      walk_at "go"
      refine ⟨p, T.f_Tile, dx, _, rfl, sm _ _ upd_same, T.cl_Tile, T.na_Tile_key, Nat.lt_of_le_of_lt (length_putF _ _ _) (Nat.lt_of_le_of_lt (Nat.succ_le_succ (length_putF _ _ _)) (Nat.lt_of_le_of_lt (Nat.succ_le_succ (Nat.succ_le_succ (length_putF _ _ _))) (by decide))), ?_⟩
      rw [kd_pb hd, tf_put]
      refine q _ (fun a o e ne => ?_) upd_same
      rw [upd_ne ne]
      refine sm _ _ ?_
      rw [upd_ne ne]
      exact e
    · refine int_not hz ?_
      walk_at "go"
      exact q
    · refine int_is ?_
      walk_at "go"
      rw [decide_eq_true hn]
      walk_at "go"
      exact q
    · refine int_is ?_
      walk_at "go"
      rw [decide_eq_false (show ¬ ((n : Nat) : Int) < 0 by omega)]
      walk_at "go"
      rcases h with h | ⟨h1, h2⟩
      · refine place_bad h ?_
        walk_at "go"
        exact q
      · refine place_good h1 ?_
        walk_at "go"
        refine place_bad h2 ?_
        walk_at "go"
        exact q
theorem sc_Tile_keyed : FnScope ["cls", "key"] ["cls", "key"] (defScope s_Tile_keyed) := ⟨rfl, rfl, rfl, by decide +kernel, rfl, by decide +kernel, by decide +kernel⟩
def sp_Tile_keyed (K : PySem.W.Frag) (C N : Addr) : Sp := fun vs H Q E => ∃ (c v : V), vs = [c, v] ∧
  ((∃ ds, v = .str (S (dg ds)) ∧ Dig ds ∧ ds.length ≤ 1000 ∧ ∀ a H', Same H H' → H a = none → TileAt C H' a ds → Q (.ref a) H') ∨
   (∃ l, v = .str (S l) ∧ l.length ≤ 1000 ∧ l.all isd = false ∧ ∀ H', Same H H' → E (.ref N) none H') ∨ (Isi K H v "str" false ∧ E (.ref N) none H))
theorem all_dig {ds : List Nat} (h : Dig ds) : (dg ds).all isd = true := by
  rw [List.all_eq_true]
  intro c hc
  obtain ⟨d, hd, rfl⟩ := List.mem_map.mp hc
  have := h d hd
  have : d = 0 ∨ d = 1 ∨ d = 2 ∨ d = 3 := by omega
  rcases this with rfl | rfl | rfl | rfl <;> decide
/-- a new tile: what __init__ leaves -/
theorem make_tile {C N : Addr} {H : Hp} {ds : List Nat} {Q : VK} {E : XK} (hd : Dig ds) (hl : ds.length ≤ 1000) (q : ∀ a H', Same H H' → H a = none → TileAt C H' a ds → Q (.ref a) H') :
    MakeI C (sp_Tile_init K C N) E [.int (ds.length : Int), .int ((pb 1 ds : Nat) : Int), .int ((pb 2 ds : Nat) : Int)] H Q := by
  intro x dx nx ndx ne
  refine ⟨x, dx, _, _, _, rfl, upd_same, .inl ⟨ds, rfl, rfl, rfl, hd, hl, fun H' k hx => ⟨rfl, q x H' (fun b o e => ?_) nx ⟨hd, dx, hx⟩⟩⟩⟩
  have n1 : b ≠ x := ne_of_none e nx
  refine k b o ?_ n1
  rw [upd_ne n1, upd_ne (ne_of_none e ndx)]
  exact e
theorem ok_Tile_keyed (T : Tx K mg) : FnOk P w K mg base (L2.CX P w) 5 T.f_Tile_keyed T.d_Tile_keyed ["cls", "key"] (sp_Tile_keyed K T.f_Tile T.f_NoTile) := by
  refine T.F_Tile_keyed.okX sc_Tile_keyed (fun vs H Q E h => ?_) (fun cdv A outer s H vs Q E hr h => ?_)
  · obtain ⟨c, v, rfl, _⟩ := h; rfl
  · obtain ⟨c, v, rfl, h⟩ := h
    refine ⟨_, (pss_cons (ps_if (pt_not (pt_val (pe_call (ok_is_digits T) (hr.mono (by decide)) (by rfl) T.g_is_digits T.F_is_digits.kp T.b_is_digits .nil pass0 (pa_cons (pv 1) pa_nil)))) (pss_one (ps_raise rfl (takes_of rfl rfl rfl rfl) (pmk_own0 PySem.F.excBase_ValueError T.x_NoTile T.g_NoTile T.k_NoTile (raises_own T.b_NoTile T.t_NoTile) rfl))) pss_nil)
      (pss_one (ps_ret (pe_make T.mk_Tile (ok_Tile_init T) (hr.mono (by decide)) (by rfl) T.g_Tile T.b_Tile_init .nil (passes_call (takes_of rfl rfl rfl rfl) (fun _ _ _ _ h => h)) (pa_cons (pe_callB call_len_str (by rfl) T.m_len (by decide +kernel) (pa_cons (pv 1) pa_nil)) (pa_cons (pe_call (ok_part_bits T) (hr.mono (by decide)) (by rfl) T.g_part_bits T.F_part_bits.kp T.b_part_bits .nil pass0 (pa_cons (pv 1) (pa_cons pe_int pa_nil))) (pa_cons (pe_call (ok_part_bits T) (hr.mono (by decide)) (by rfl) T.g_part_bits T.F_part_bits.kp T.b_part_bits .nil pass0 (pa_cons (pv 1) (pa_cons pe_int pa_nil))) pa_nil))))))), ?_⟩
    walk_at "go"
    rcases h with ⟨ds, rfl, hd, hl, q⟩ | ⟨l, rfl, hl, hn, q⟩ | ⟨hv, q⟩
    · refine .inl ⟨dg ds, rfl, by rw [dg_len]; exact hl, fun H1 sm => ?_⟩
      rw [all_dig hd]
      walk_at "go"
      refine ⟨by rw [S_len, dg_len]; exact Nat.le_trans hl (by decide), ?_⟩
      walk_at "go"
      refine ⟨ds, 1, rfl, hd, by decide, by decide, ?_⟩
      walk_at "go"
      refine ⟨ds, 2, rfl, hd, by decide, by decide, ?_⟩
      walk_at "go"
      have el : (((S (dg ds)).length : Nat) : Int) = (ds.length : Int) := by rw [S_len, dg_len]
      rw [el]
      exact make_tile hd hl fun a H' s2 na ta => q a H' (sm.trans s2) (sm.free na) ta
    · refine .inl ⟨l, rfl, hl, fun H1 sm => ?_⟩
      rw [hn]
      walk_at "go"
      exact q H1 sm
    · refine .inr ⟨v, rfl, hv, ?_⟩
      walk_at "go"
      exact q
end
end EZ
namespace EZ
open PySem L2 ClX
section
variable {P : Program} {w : World} {K : PySem.W.Frag} {mg : Str → Option Value} {base : Heap}
theorem Kp.refl (b : Addr) (H : Hp) : Kp b H H := fun _ _ h _ => h
theorem Kp.trans {b : Addr} {H H1 H2 : Hp} (h : Kp b H H1) (k : Kp b H1 H2) : Kp b H H2 := fun a o e n => k a o (h a o e n) n
theorem Kp.of {b : Addr} {H H' : Hp} (s : Same H H') : Kp b H H' := fun a o e _ => s a o e
theorem Box.mono {H H' : Hp} {b : Addr} (e : H' b = H b) (h : Box H b) : Box H' b := by
  obtain ⟨x, y, z, h0, h1⟩ := h
  exact ⟨x, y, z, e.trans h0, h1⟩
theorem Box.same {H H' : Hp} {b : Addr} (s : Same H H') (h : Box H b) : Box H' b := by
  obtain ⟨x, y, z, h0, h1⟩ := h
  exact ⟨x, y, z, s _ _ h0, h1⟩
theorem Box.ne {H : Hp} {b p : Addr} (h : Box H b) (np : H p = none) : p ≠ b := by
  obtain ⟨x, y, z, h0, h1⟩ := h
  exact (ne_of_none h0 np).symm
theorem Kp.free {b : Addr} {H H' : Hp} (k : Kp b H H') (hB : Box H b) {p : Addr} (h : H' p = none) (hB' : Box H' b) : H p = none := by
  cases e : H p with
  | none => rfl
  | some o =>
    have := k p o e (hB'.ne h)
    rw [this] at h
    cases h
/-- a draw -/
theorem tk {b : Addr} {n : Int} {H : Hp} {Q : VK} {E : XK} (hB : Box H b) (h0 : 0 < n) (h1 : n < 1073741824) (k : ∀ (d : Nat) H', (d : Int) < n → Kp b H H' → Box H' b → Q (.int (d : Int)) H') : sp_law_take ([.ref b, .int n] ++ []) H Q E := ⟨b, n, rfl, hB, h0, h1, k⟩
theorem sc_law_digits : FnScope ["_law_box_here", "_law_many", "_law_turn"] ["_law_box_here", "_law_many"] (defScope s_law_digits) := ⟨rfl, rfl, rfl, by decide +kernel, rfl, by decide +kernel, by decide +kernel⟩
def sp_law_digits : Sp := fun vs H Q _ => ∃ (b : Addr) (n : Nat), vs = [.ref b, .int (n : Int)] ∧ Box H b ∧ n ≤ 1000 ∧ ∀ ds H', ds.length = n → Dig ds → Kp b H H' → Box H' b → Q (.str (S (dg ds))) H'
theorem good_digs : ∀ {ys : List V}, (∀ (i : Nat) y, ys[i]? = some y → ∃ d, d < 4 ∧ y = .str (S [48 + d])) → ∃ ds, Dig ds ∧ ys = ds.map fun d => V.str (S [48 + d])
  | [], _ => ⟨[], Dig.nil, rfl⟩
  | y :: ys, h => by
    obtain ⟨d, hd, rfl⟩ := h 0 y rfl
    obtain ⟨ds, h1, rfl⟩ := good_digs (ys := ys) fun i z hz => h (i + 1) z (by simpa using hz)
    exact ⟨d :: ds, fun e he => by rcases List.mem_cons.mp he with rfl | he; exact hd; exact h1 e he, rfl⟩
theorem ok_law_digits (T : Tx K mg) : FnOk P w K mg base CX0 2 T.f_law_digits T.d_law_digits ["_law_box_here", "_law_many"] sp_law_digits := by
  refine T.F_law_digits.ok sc_law_digits (fun vs H Q E h => ?_) (fun cdv A outer s H vs Q E hr h => ?_)
  · obtain ⟨b, n, rfl, _⟩ := h; rfl
  · obtain ⟨b, n, rfl, hB, hn, q⟩ := h
    refine ⟨_, (pss_one (ps_ret (pe_join pe_str (pe_lc (own := [("_law_turn", 2)]) (g := gName 2) (tt := tYes)  rfl sc_law_digits.nd (pi_range1 (by rfl) T.m_range (pa_cons (pv 1) pa_nil)) (blkOk_by (N := ["_law_box_here", "_law_many", "_law_turn"]) (sc := defScope s_law_digits) (by decide +kernel)) (fun _ _ _ _ _ => (pg_name (i := 2) sc_law_digits.nd rfl (by first | exact Or.inl rfl | exact Or.inr rfl))) (fun _ _ _ _ _ => pts_nil) (fun _ _ _ _ _ => (pe_callTy call_str_int (by rfl) T.m_str (by decide +kernel) (pa_cons (pe_call (ok_law_take T) (hr.mono (by decide)) (by rfl) T.g_law_take T.F_law_take.kp T.b_law_take .nil pass0 (pa_cons (pv 0) (pa_cons pe_int pa_nil))) pa_nil))))))), ?_⟩
    walk_at "go"
    refine ⟨by omega, by omega, fun D nD => ?_⟩
    rw [Int.toNat_natCast]
    refine lcB (b := b) (Box := Box) walk_range (fun _ v => ∃ d, d < 4 ∧ v = .str (S [48 + d])) (by omega) nD (hB.ne nD) hB (fun _ _ e h => h.mono e) (fun _ _ => trivial) (fun i x H2 H3 R R' hi kp bx y k => ?_) (fun ys H' l gd kp bx hd => ?_)
    · obtain ⟨rfl, rfl⟩ := y
      walk_at "go"
      refine tk bx (by decide) (by decide) fun d H4 l4 k4 b4 => ?_
      walk_at "go"
      have l4 : d < 4 := by omega
      refine ⟨small_log l4, ?_⟩
      rw [S_dig l4]
      exact k _ _ ⟨d, l4, rfl⟩ k4 b4
    · walk_at "go"
      obtain ⟨ds, hds, rfl⟩ := good_digs gd
      rw [List.length_map] at l
      refine g_joinD (SqL.of hd) (by omega) ?_
      exact q ds H' l hds kp bx
theorem at3 {a b c : V} {d : Nat} (h : (d : Int) < 3) : ∃ v, atI [a, b, c] (d : Int) = some v ∧ (v = a ∨ v = b ∨ v = c) := by
  have : d = 0 ∨ d = 1 ∨ d = 2 := by omega
  rcases this with rfl | rfl | rfl
  · exact ⟨a, rfl, .inl rfl⟩
  · exact ⟨b, rfl, .inr (.inl rfl)⟩
  · exact ⟨c, rfl, .inr (.inr rfl)⟩
theorem mul_rep {d n : Nat} : Txt.mul (S [48 + d]) (n : Int) = S (dg (List.replicate n d)) := by
  have hl : (S [48 + d]).length = 1 := rfl
  have hf : ∀ (m : Nat) (acc : Array Nat), (List.replicate m (S [48 + d]).cps).foldl (· ++ ·) acc = acc ++ (List.replicate m (48 + d)).toArray := by
    intro m
    induction m with
    | zero => intro acc; simp
    | succ m ih =>
      intro acc
      rw [List.replicate_succ, List.foldl_cons, ih, List.replicate_succ]
      show (acc ++ #[48 + d]) ++ _ = _
      rw [Array.append_assoc]
      congr 1
      apply Array.ext'
      rw [Array.toList_append]
      rfl
  unfold Txt.mul
  split
  · rename_i h
    have : n = 0 := by omega
    subst this
    rfl
  · split
    · rename_i h1 h2
      have : n = 1 := by
        simp only [hl, Bool.or_eq_true, beq_iff_eq] at h2
        omega
      subst this
      rfl
    · rw [Int.toNat_natCast, hf]
      simp [S, SX.S, dg]
theorem S_cat (a b : List Nat) : S a ++ S b = S (a ++ b) := SX.S_cat a b
theorem sc_law_key : FnScope ["_law_box_here", "_law_most", "_law_zoom", "_law_form", "_law_at", "_law_one", "_law_other"] ["_law_box_here", "_law_most"] (defScope s_law_key) := ⟨rfl, rfl, rfl, by decide +kernel, rfl, by decide +kernel, by decide +kernel⟩
def sp_law_key : Sp := fun vs H Q _ => ∃ (b : Addr) (m : Nat), vs = [.ref b, .int (m : Int)] ∧ Box H b ∧ m ≤ 500 ∧ ∀ ds H', Dig ds → (ds.length ≤ m ∨ ds.length ≤ 12) → Kp b H H' → Box H' b → Q (.str (S (dg ds))) H'
theorem ok_law_key (T : Tx K mg) : FnOk P w K mg base CX0 3 T.f_law_key T.d_law_key ["_law_box_here", "_law_most"] sp_law_key := by
  refine T.F_law_key.ok sc_law_key (fun vs H Q E h => ?_) (fun cdv A outer s H vs Q E hr h => ?_)
  · obtain ⟨b, m, rfl, _⟩ := h; rfl
  · obtain ⟨b, m, rfl, hB, hm, q⟩ := h
    refine ⟨_, (pss_cons (ps_set (i := 2) sc_law_key.nd rfl (Or.inl rfl) (pe_ix ix_list (pe_lst (pa_cons (pe_call (ok_law_take T) (hr.mono (by decide)) (by rfl) T.g_law_take T.F_law_take.kp T.b_law_take .nil pass0 (pa_cons (pv 0) (pa_cons pe_int pa_nil))) (pa_cons (pe_op op_add pe_int (pe_call (ok_law_take T) (hr.mono (by decide)) (by rfl) T.g_law_take T.F_law_take.kp T.b_law_take .nil pass0 (pa_cons (pv 0) (pa_cons pe_int pa_nil)))) (pa_cons (pe_call (ok_law_take T) (hr.mono (by decide)) (by rfl) T.g_law_take T.F_law_take.kp T.b_law_take .nil pass0 (pa_cons (pv 0) (pa_cons (pe_op op_add (pv 1) pe_int) pa_nil))) pa_nil)))) (pe_call (ok_law_take T) (hr.mono (by decide)) (by rfl) T.g_law_take T.F_law_take.kp T.b_law_take .nil pass0 (pa_cons (pv 0) (pa_cons pe_int pa_nil))) (fun _ _ => rfl)))
      (pss_cons (ps_asg (pe_tup (pa_cons (pe_call (ok_law_take T) (hr.mono (by decide)) (by rfl) T.g_law_take T.F_law_take.kp T.b_law_take .nil pass0 (pa_cons (pv 0) (pa_cons pe_int pa_nil))) (pa_cons (pe_call (ok_law_take T) (hr.mono (by decide)) (by rfl) T.g_law_take T.F_law_take.kp T.b_law_take .nil pass0 (pa_cons (pv 0) (pa_cons (pe_op op_add (pv 2) pe_int) pa_nil))) (pa_cons (pe_call (ok_law_take T) (hr.mono (by decide)) (by rfl) T.g_law_take T.F_law_take.kp T.b_law_take .nil pass0 (pa_cons (pv 0) (pa_cons pe_int pa_nil))) (pa_cons (pe_call (ok_law_take T) (hr.mono (by decide)) (by rfl) T.g_law_take T.F_law_take.kp T.b_law_take .nil pass0 (pa_cons (pv 0) (pa_cons pe_int pa_nil))) pa_nil))))) (pg_tup rfl (pgs_cons (pg_name (i := 3) sc_law_key.nd rfl (Or.inl rfl)) (pgs_cons (pg_name (i := 4) sc_law_key.nd rfl (Or.inl rfl)) (pgs_cons (pg_name (i := 5) sc_law_key.nd rfl (Or.inl rfl)) (pgs_cons (pg_name (i := 6) sc_law_key.nd rfl (Or.inl rfl)) pgs_nil))))))
      (pss_cons (ps_if (pt_cmpR op_eq (pv 3) pe_int (nomark _)) (pss_one (ps_ret (pe_op op_mul_str (pe_callTy call_str_int (by rfl) T.m_str (by decide +kernel) (pa_cons (pv 5) pa_nil)) (pv 2)))) pss_nil)
      (pss_cons (ps_if (pt_cmpR op_eq (pv 3) pe_int (nomark _)) (pss_one (ps_ret (pe_op op_add_str (pe_op op_mul_str (pe_callTy call_str_int (by rfl) T.m_str (by decide +kernel) (pa_cons (pv 5) pa_nil)) (pv 4)) (pe_op op_mul_str (pe_callTy call_str_int (by rfl) T.m_str (by decide +kernel) (pa_cons (pv 6) pa_nil)) (pe_op op_sub (pv 2) (pv 4)))))) pss_nil)
      (pss_cons (ps_if (pt_cmpR op_eq (pv 3) pe_int (nomark _)) (pss_one (ps_ret (pe_op op_add_str (pe_call (ok_law_digits T) (hr.mono (by decide)) (by rfl) T.g_law_digits T.F_law_digits.kp T.b_law_digits .nil pass0 (pa_cons (pv 0) (pa_cons (pv 4) pa_nil))) (pe_op op_mul_str (pe_callTy call_str_int (by rfl) T.m_str (by decide +kernel) (pa_cons (pv 6) pa_nil)) (pe_op op_sub (pv 2) (pv 4)))))) pss_nil)
      (pss_one (ps_ret (pe_call (ok_law_digits T) (hr.mono (by decide)) (by rfl) T.g_law_digits T.F_law_digits.kp T.b_law_digits .nil pass0 (pa_cons (pv 0) (pa_cons (pv 2) pa_nil)))))))))), ?_⟩
    walk_at "go"
    refine tk hB (by decide) (by decide) fun d1 H1 l1 k1 B1 => ?_
    walk_at "go"
    refine tk B1 (by decide) (by decide) fun d2 H2 l2 k2 B2 => ?_
    walk_at "go"
    refine tk B2 (by omega) (by omega) fun d3 H3 l3 k3 B3 => ?_
    walk_at "go"
    refine alloc fun p H4 np s4 hp => ?_
    have B4 := B3.same s4
    walk_at "go"
    refine tk B4 (by decide) (by decide) fun d5 H5 l5 k5 B5 => ?_
    have hp5 := k5 _ _ hp (B3.ne np)
    obtain ⟨v, hv, hv2⟩ := at3 (a := .int (d1 : Int)) (b := .int (1 + (d2 : Int))) (c := .int (d3 : Int)) l5
    have hz : ∃ z : Nat, v = .int (z : Int) ∧ (z ≤ m ∨ z ≤ 12) := by
      rcases hv2 with rfl | rfl | rfl
      · exact ⟨d1, rfl, .inr (by omega)⟩
      · exact ⟨1 + d2, by simp, .inr (by omega)⟩
      · exact ⟨d3, rfl, .inl (by omega)⟩
    obtain ⟨z, rfl, hz⟩ := hz
    refine g_ixL (SqL.of hp5) hv ?_
    have kk : Kp b H H5 := ((k1.trans k2).trans k3).trans ((Kp.of s4).trans k5)
    walk_at "go"
    refine tk B5 (by decide) (by decide) fun f H6 l6 k6 B6 => ?_
    walk_at "go"
    refine tk B6 (by omega) (by omega) fun t H7 l7 k7 B7 => ?_
    walk_at "go"
    refine tk B7 (by decide) (by decide) fun o H8 l8 k8 B8 => ?_
    walk_at "go"
    refine tk B8 (by decide) (by decide) fun u H9 l9 k9 B9 => ?_
    walk_at "go"
    refine alloc fun p2 H10 np2 s10 hp2 => ?_
    have B10 := B9.same s10
    have kk2 : Kp b H H10 := kk.trans ((k6.trans k7).trans ((k8.trans k9).trans (Kp.of s10)))
    walk_at "go"
    have l8 : o < 4 := by omega
    have l9 : u < 4 := by omega
    have hzt : ∃ r : Nat, (z : Int) - (t : Int) = (r : Int) ∧ t + r = z := ⟨z - t, by omega, by omega⟩
    obtain ⟨r, hr1, hr2⟩ := hzt
    walk_at "go"
    refine ite2 (fun e => ?_) (fun e => ?_)
    · walk_at "go"
      refine ⟨small_log l8, ?_⟩
      rw [S_dig l8]
      walk_at "go"
      refine ⟨⟨by show 1 ≤ 16; decide, by omega, by omega⟩, ?_⟩
      rw [mul_rep]
      exact q _ _ (Dig.rep l8) (by simpa using hz) kk2 B10
    walk_at "go"
    refine ite2 (fun e => ?_) (fun e => ?_)
    · walk_at "go"
      refine ⟨small_log l8, ?_⟩
      rw [S_dig l8]
      walk_at "go"
      refine ⟨⟨by show 1 ≤ 16; decide, by omega, by omega⟩, ?_⟩
      rw [mul_rep]
      walk_at "go"
      refine ⟨small_log l9, ?_⟩
      rw [S_dig l9]
      walk_at "go"
      refine ⟨⟨by show 1 ≤ 16; decide, by omega, by omega⟩, ?_⟩
      rw [hr1, mul_rep]
      walk_at "go"
      refine ⟨by simp only [S_len, dg_len, List.length_replicate]; exact Nat.le_trans (show t + r ≤ 1000 by omega) (by decide), ?_⟩
      rw [S_cat, ← dg_app]
      exact q _ _ ((Dig.rep l8).app (Dig.rep l9)) (by simp only [List.length_append, List.length_replicate]; omega) kk2 B10
    walk_at "go"
    refine ite2 (fun e => ?_) (fun e => ?_)
    · walk_at "go"
      refine ⟨b, t, rfl, B10, by omega, fun ds H11 hl11 hd11 k11 B11 => ?_⟩
      walk_at "go"
      refine ⟨small_log l9, ?_⟩
      rw [S_dig l9]
      walk_at "go"
      refine ⟨⟨by show 1 ≤ 16; decide, by omega, by omega⟩, ?_⟩
      rw [hr1, mul_rep]
      walk_at "go"
      refine ⟨by simp only [S_len, dg_len, List.length_replicate]; exact Nat.le_trans (show ds.length + r ≤ 1000 by omega) (by decide), ?_⟩
      rw [S_cat, ← dg_app]
      exact q _ _ (hd11.app (Dig.rep l9)) (by simp only [List.length_append, List.length_replicate]; omega) (kk2.trans k11) B11
    · walk_at "go"
      exact ⟨b, z, rfl, B10, by omega, fun ds H11 hl11 hd11 k11 B11 => q _ _ hd11 (by omega) (kk2.trans k11) B11⟩
theorem skp {b : Addr} {H0 H1 H2 : Hp} (s : Same H0 H1) (nb : H0 b = none) (k : Kp b H1 H2) : Same H0 H2 := fun a o e => k a o (s a o e) (ne_of_none e nb)
theorem TileAt.kp {C : Addr} {H H' : Hp} {a b : Addr} {ds : List Nat} (h : TileAt C H a ds) (hB : Box H b) (k : Kp b H H') : TileAt C H' a ds := by
  obtain ⟨hd, dx, e⟩ := h
  obtain ⟨x, y, z, hb, _⟩ := hB
  exact ⟨hd, dx, k _ _ e (ne_of e hb (by intro q; cases q))⟩
end
end EZ
namespace EZ
open PySem L2 ClX
theorem g_intS {d : Nat} {R : Int → Prop} (h : d < 4) (q : R (d : Int)) : ∃ a n, [V.str ⟨#[48 + d]⟩] = [.str a] ∧ PySem.intText? a = some n ∧ a.length ≤ 640 ∧ R n := ⟨S [48 + d], (d : Int), rfl, int_dig h, by show 1 ≤ 640; decide, q⟩
theorem g_ixS {H : Hp} {z : Str} {i : Int} {c : Nat} {Q : VK} (hz : z.length ≤ sizeLine) (h : atI z.cps.toList i = some c) (q : Q (.str ⟨#[c]⟩) H) : rIxS (.str z) (.int i) H Q := ⟨z, i, c, rfl, rfl, hz, h, q⟩
end EZ
namespace EZ
open PySem L2 ClX
section
variable {P : Program} {w : World} {K : PySem.W.Frag} {mg : Str → Option Value} {base : Heap}
theorem tile_ty (T : Tx K mg) {H : Hp} {a : Addr} {ds : List Nat} (h : TileAt T.f_Tile H a ds) : TyX K H (.ref a) (.ref T.f_Tile) := h.2.elim fun dx e => .base (.ins e T.cl_Tile T.ca_Tile T.cb_Tile T.cc_Tile T.cd_Tile)
theorem kit_self {K : PySem.W.Frag} {C : Addr} : PySem.W.kitOne K (.ref C) (.ref C) = some true := by simp [PySem.W.kitOne]
theorem nf_self {K : PySem.W.Frag} {C : Addr} : PySem.W.notFirst K C (.ref C) = true := by simp [PySem.W.notFirst]
theorem g_isiC {K : PySem.W.Frag} {H : Hp} {v : V} {t : Value} {C : Addr} {b : Bool} {Q : VK} (h1 : TyX K H v t) (h2 : PySem.W.kitOne K t (.ref C) = some b) (q : Q (.bl b) H) : rIsi K [v, .ref C] H Q := ⟨v, .ref C, t, .ref C, b, rfl, .own _, h1, h2, q⟩
theorem dec_key {ds es : List Nat} : decide (S (dg ds) = S (dg es)) = decide (ds = es) := by
  by_cases h : ds = es
  · subst h; simp
  · have : ¬ S (dg ds) = S (dg es) := fun q => h (dg_inj (S_eq.mp q))
    simp [h, this]
def NoTileV (K : PySem.W.Frag) (C : Addr) (H : Hp) (v : V) : Prop := ∃ t, TyX K H v t ∧ PySem.W.kitOne K t (.ref C) = some false
theorem sc_Tile_eq : FnScope ["self", "other"] ["self", "other"] (defScope s_Tile_eq) := ⟨rfl, rfl, rfl, by decide +kernel, rfl, by decide +kernel, by decide +kernel⟩
def sp_Tile_eq (K : PySem.W.Frag) (C : Addr) : Sp := fun vs H Q _ => ∃ (a : Addr) (ds : List Nat) (v : V), vs = [.ref a, v] ∧ TileAt C H a ds ∧ ((∃ b es, v = .ref b ∧ TileAt C H b es ∧ Q (.bl (decide (ds = es))) H) ∨ (NoTileV K C H v ∧ Q (.bl false) H))
theorem ok_Tile_eq (T : Tx K mg) : FnOk P w K mg base CX0 1 T.f_Tile_eq T.d_Tile_eq ["self", "other"] (sp_Tile_eq K T.f_Tile) := by
  refine T.F_Tile_eq.ok sc_Tile_eq (fun vs H Q E h => ?_) (fun cdv A outer s H vs Q E hr h => ?_)
  · obtain ⟨a, ds, v, rfl, _⟩ := h; rfl
  · obtain ⟨a, ds, v, rfl, ha, h⟩ := h
    refine ⟨_, (pss_one (ps_ret (pe_and (pe_callB call_isi (by rfl) T.m_isinstance (by decide +kernel) (pa_cons (pv 1) (pa_cons (pe_glob (v := .ref T.f_Tile) (by rfl) T.g_Tile rfl) pa_nil))) (pe_one (pe_cmpR op_eq (pe_fld (pv 0) rfl) (pe_fld (pv 1) rfl) (nomark _)))))), ?_⟩
    walk_at "go"
    rcases h with ⟨b, es, rfl, hb, q⟩ | ⟨⟨t, h1, h2⟩, q⟩
    · refine g_isiC (tile_ty T hb) kit_self ?_
      walk_at "go"
      refine g_tf T ha T.na_Tile_key (tf_key ds) ?_
      walk_at "go"
      refine g_tf T hb T.na_Tile_key (tf_key es) ?_
      walk_at "go"
      rw [dec_key]
      exact q
    · refine g_isiC h1 h2 ?_
      walk_at "go"
      exact q
end
section
variable {X : Cx} {K : PySem.W.Frag} {mg : Str → Option Value}
abbrev SpEq (K : PySem.W.Frag) (C : Addr) : Sp := fun vs H Q E => sp_Tile_eq K C (vs ++ []) H Q E
theorem op_cmp_Tile_Eq (T : Tx K mg) (room : Room 1 X.A) (eK : X.K = K := by rfl) (eM : X.mg = mg := by rfl) : OpR X (compareOp .Eq) (rCmpO K T.f_Tile (SpEq K T.f_Tile) E0) := by
  subst eK eM
  exact op_cmpO (op := .Eq) ⟨T.me_Tile_eq.at_, T.me_Tile_eq.fn⟩ ((ok_Tile_eq T).raw T.b_Tile_eq .nil) room pass0
theorem op_cmp_Tile_NotEq (T : Tx K mg) (room : Room 2 X.A) (eK : X.K = K := by rfl) (eM : X.mg = mg := by rfl) : OpR X (compareOp .NotEq) (rNeO K T.f_Tile (SpEq K T.f_Tile) E0) := by
  subst eK eM
  exact op_neO ⟨T.me_Tile_eq.at_, T.me_Tile_eq.fn⟩ T.ne_Tile T.cd_Tile ((ok_Tile_eq T).raw T.b_Tile_eq .nil) room pass0
/-- the same tile -/
def sameT (C : Addr) (a b : Addr) (H : Hp) : Prop := ∃ ds, TileAt C H a ds ∧ TileAt C H b ds
theorem op_neG_Tile (T : Tx K mg) (room : Room 3 X.A) (eK : X.K = K := by rfl) (eM : X.mg = mg := by rfl) : OpR X (compareOp .NotEq) (rNeG (DIns T.f_Tile (sameT T.f_Tile))) := by
  subst eK eM
  refine op_neG (n := 2) (mon_ins fun a b H H' e ⟨ds, h1, h2⟩ => ⟨ds, h1.same e, h2.same e⟩) (eqG_ins (FnOk.imp ((ok_Tile_eq T).mono (by decide)) fun vs H Q E h => ?_) T.me_Tile_eq.at_ T.me_Tile_eq.fn T.b_Tile_eq pass0) room
  obtain ⟨a, b, rfl, ⟨ds, h1, h2⟩, q⟩ := h
  refine ⟨a, ds, .ref b, rfl, h1, .inl ⟨b, ds, rfl, h2, ?_⟩⟩
  rw [decide_eq_true rfl]
  exact q H Ext.rfl'
theorem g_eqT (T : Tx K mg) {H : Hp} {a b : Addr} {ds es : List Nat} {Q : VK} {E : XK} (ha : TileAt T.f_Tile H a ds) (hb : TileAt T.f_Tile H b es) (q : Q (.bl (decide (ds = es))) H) : rCmpO K T.f_Tile (SpEq K T.f_Tile) E (.ref a) (.ref b) H Q := by
  obtain ⟨_, dx, e⟩ := id ha
  exact ⟨a, dx, _, _, rfl, e, tile_ty T hb, nf_self, a, ds, _, rfl, ha, .inl ⟨b, es, rfl, hb, q⟩⟩
theorem g_neT (T : Tx K mg) {H : Hp} {a b : Addr} {ds es : List Nat} {Q : VK} {E : XK} (ha : TileAt T.f_Tile H a ds) (hb : TileAt T.f_Tile H b es) (q : Q (.bl (!decide (ds = es))) H) : rNeO K T.f_Tile (SpEq K T.f_Tile) E (.ref a) (.ref b) H Q := by
  obtain ⟨_, dx, e⟩ := id ha
  exact ⟨a, dx, _, _, rfl, e, tile_ty T hb, nf_self, a, ds, _, rfl, ha, .inl ⟨b, es, rfl, hb, _, rfl, q⟩⟩
end
end EZ
namespace EZ
open PySem L2 ClX
/-! the numbers of the bytes of a tile -/
def gv (ds : List Nat) (j : Nat) : Nat := 64 * ds.getD (4 * j) 0 + 16 * ds.getD (4 * j + 1) 0 + 4 * ds.getD (4 * j + 2) 0 + ds.getD (4 * j + 3) 0
def grp (ds : List Nat) : List Nat := (List.range ((ds.length + 3) / 4)).map (gv ds)
def nums (ds : List Nat) : List Nat := ds.length :: grp ds
theorem getD_lt {ds : List Nat} (h : Dig ds) (i : Nat) : ds.getD i 0 < 4 := by
  rw [List.getD]
  cases e : ds[i]? with
  | none => exact (by decide : 0 < 4)
  | some d => exact h d (List.mem_of_getElem? e)
theorem gv_lt {ds : List Nat} (h : Dig ds) (j : Nat) : gv ds j < 256 := by
  have h0 := getD_lt h (4 * j)
  have h1 := getD_lt h (4 * j + 1)
  have h2 := getD_lt h (4 * j + 2)
  have h3 := getD_lt h (4 * j + 3)
  unfold gv
  omega
theorem grp_len (ds : List Nat) : (grp ds).length = (ds.length + 3) / 4 := by simp [grp]
theorem nums_len (ds : List Nat) : (nums ds).length = 1 + (ds.length + 3) / 4 := by show (grp ds).length + 1 = _; rw [grp_len]; omega
theorem nums_B {ds : List Nat} (h : Dig ds) (hl : ds.length < 256) : B256 (nums ds) := fun n hn => by
  rcases List.mem_cons.mp hn with rfl | hn
  · exact hl
  · obtain ⟨j, _, rfl⟩ := List.mem_map.mp hn
    exact gv_lt h j
theorem four_at {fs : List Nat} {j : Nat} (h : 4 * j + 4 ≤ fs.length) : (fs.drop (4 * j)).take 4 = [fs.getD (4 * j) 0, fs.getD (4 * j + 1) 0, fs.getD (4 * j + 2) 0, fs.getD (4 * j + 3) 0] := by
  apply List.ext_getElem
  · simp; omega
  · intro i h1 h2
    have hi : i = 0 ∨ i = 1 ∨ i = 2 ∨ i = 3 := by have : i < 4 := h2; omega
    rcases hi with rfl | rfl | rfl | rfl <;> simp [List.getD] <;> (rw [List.getElem?_eq_getElem (by omega)]; rfl)
theorem getD_fill (ds : List Nat) (k i : Nat) : (ds ++ List.replicate k 0).getD i 0 = ds.getD i 0 := by
  rw [List.getD, List.getD]
  by_cases h : i < ds.length
  · rw [List.getElem?_append_left h]
  · rw [List.getElem?_append_right (by omega), List.getElem?_eq_none (show ds.length ≤ i by omega), List.getElem?_replicate]
    split <;> rfl
theorem gv_fill (ds : List Nat) (k j : Nat) : gv (ds ++ List.replicate k 0) j = gv ds j := by
  unfold gv
  rw [getD_fill, getD_fill, getD_fill, getD_fill]
theorem cut_mid (l : List Nat) (i j : Nat) : L2.cutS (S l) (some (i : Int)) (some (j : Int)) = S ((l.drop i).take (j - i)) := by
  have hz : (S l).length = l.length := S_len l
  unfold L2.cutS
  rw [HT.sIx_nat, HT.sIx_nat, hz]
  show S ((l.drop (min i l.length)).take (min j l.length - min i l.length)) = _
  by_cases h : i ≤ l.length
  · rw [Nat.min_eq_left h]
    by_cases h2 : j ≤ l.length
    · rw [Nat.min_eq_left h2]
    · rw [Nat.min_eq_right (by omega), List.take_of_length_le (by simp), List.take_of_length_le (by rw [List.length_drop]; omega)]
  · rw [Nat.min_eq_right (show l.length ≤ i by omega), List.drop_of_length_le (Nat.le_refl _), List.drop_of_length_le (show l.length ≤ i by omega), List.take_nil, List.take_nil]
theorem g_cutMid {l : List Nat} {a b : Int} {i j : Nat} {H : Hp} {Q : VK} (hl : l.length ≤ 100000) (ea : a = (i : Int)) (eb : b = (j : Int)) (q : Q (.str (S ((l.drop i).take (j - i)))) H) : rSlS (.str (S l)) (some a) (some b) H Q :=
  ⟨S l, rfl, by rw [S_len]; exact Nat.le_trans hl (by decide), by rw [ea, eb, cut_mid]; exact q⟩
theorem nums_take {ds : List Nat} {j : Nat} (h : j < (ds.length + 3) / 4) : (ds.length :: (List.range j).map (gv ds)) ++ [gv ds j] = ds.length :: (List.range (j + 1)).map (gv ds) := by
  rw [List.range_succ, List.map_append]
  rfl
def iv (l : List Nat) : List V := l.map fun n : Nat => V.int (n : Int)
theorem iv_ints (l : List Nat) : iv l = (l.map fun n : Nat => (n : Int)).map V.int := by unfold iv; rw [List.map_map]; rfl
theorem S_000 : Str.ofString "000" = S (dg [0, 0, 0]) := by decide +kernel
section
variable {P : Program} {w : World} {K : PySem.W.Frag} {mg : Str → Option Value} {base : Heap}
theorem sc_Tile_packed : FnScope ["self", "filled", "some", "at"] ["self"] (defScope s_Tile_packed) := ⟨rfl, rfl, rfl, by decide +kernel, rfl, by decide +kernel, by decide +kernel⟩
def sp_Tile_packed (C : Addr) : Sp := fun vs H Q _ => ∃ (a : Addr) (ds : List Nat), vs = [.ref a] ∧ TileAt C H a ds ∧ ds.length < 256 ∧ ∀ H', Same H H' → Q (.byt (bt (nums ds))) H'
theorem ok_Tile_packed (T : Tx K mg) : FnOk P w K mg base CX0 1 T.f_Tile_packed T.d_Tile_packed ["self"] (sp_Tile_packed T.f_Tile) := by
  refine T.F_Tile_packed.ok sc_Tile_packed (fun vs H Q E h => ?_) (fun cdv A outer s H vs Q E hr h => ?_)
  · obtain ⟨a, ds, rfl, _⟩ := h; rfl
  · obtain ⟨a, ds, rfl, ha, hl, q⟩ := h
    have hd := ha.1
    refine ⟨_, (pss_cons (ps_set (i := 1) sc_Tile_packed.nd rfl (Or.inl rfl) (pe_op op_add_str (pe_fld (pv 0) rfl) (pe_op op_mul_str pe_str (pe_op op_mod (pe_callTy call_int1 (by rfl) T.m_int (by decide +kernel) (pa_cons (pe_un un_neg (pe_fld (pv 0) rfl)) pa_nil)) pe_int))))
      (pss_cons (ps_set (i := 2) sc_Tile_packed.nd rfl (Or.inl rfl) (pe_lst (pa_cons (pe_fld (pv 0) rfl) pa_nil)))
      (pss_cons (ps_for PassesOwn.never rfl (pi_range3 (by rfl) T.m_range (pa_cons pe_int (pa_cons (pe_callB call_len_str (by rfl) T.m_len (by decide +kernel) (pa_cons (pv 1) pa_nil)) (pa_cons pe_int pa_nil)))) (pg_name (i := 3) sc_Tile_packed.nd rfl (Or.inl rfl))
      (pss_one (ps_expr (pe_bm PySem.F.plainAttrs_list PySem.F.slot_list_append PySem.F.type_list_append mt_append (pv 2) (pa_cons (pe_callTy call_int4 (by rfl) T.m_int (by decide +kernel) (pa_cons (pe_slice sl_str (pv 1) (po_some (pv 3)) (po_some (pe_op op_add (pv 3) pe_int))) (pa_cons pe_int pa_nil))) pa_nil)))))
      (pss_one (ps_ret (pe_callTy (call_bytes_list rfl) (by rfl) T.m_bytes (by decide +kernel) (pa_cons (pv 2) pa_nil))))))), ?_⟩
    walk_at "go"
    refine g_tf T ha T.na_Tile_key (tf_key ds) ?_
    walk_at "go"
    refine g_tf T ha T.na_Tile_zoom (tf_zoom ds) ?_
    walk_at "go"
    obtain ⟨k, hk, hk4⟩ : ∃ k : Nat, (-(ds.length : Int)) % 4 = (k : Int) ∧ ds.length + k = 4 * ((ds.length + 3) / 4) := ⟨((-(ds.length : Int)) % 4).toNat, by omega, by omega⟩
    rw [hk]
    refine ⟨⟨by decide, by omega, by omega⟩, ?_⟩
    have e0 : Str.ofString "0" = S [48 + 0] := by decide +kernel
    rw [e0, mul_rep]
    walk_at "go"
    refine ⟨szc rfl rfl (by rw [dg_len, dg_len, List.length_replicate]; omega), ?_⟩
    rw [S_cat, ← dg_app]
    obtain ⟨fs, hfs⟩ : ∃ fs, fs = ds ++ List.replicate k 0 := ⟨_, rfl⟩
    rw [← hfs]
    have hfl : fs.length = 4 * ((ds.length + 3) / 4) := by rw [hfs, List.length_append, List.length_replicate]; exact hk4
    have hfd : Dig fs := by rw [hfs]; exact hd.app (Dig.rep (by decide))
    have hfg : ∀ j, gv fs j = gv ds j := fun j => by rw [hfs]; exact gv_fill ds k j
    walk_at "go"
    refine g_tf T ha T.na_Tile_zoom (tf_zoom ds) ?_
    walk_at "go"
    refine alloc fun p H1 np s1 hp => ?_
    walk_at "go"
    refine ⟨szl (by rw [dg_len]; omega), ?_⟩
    rw [S_len, dg_len]
    walk_at "go"
    refine ⟨0, (fs.length : Int), 4, (ds.length + 3) / 4, rfl, RgC.four (by omega) (by omega), ?_⟩
    refine for_it walk_rangeC (fun j σ H' => Same H H' ∧ H' p = some (.lst (iv (ds.length :: (List.range j).map (gv ds)))) ∧ ∃ v3, σ = [some (.ref a), some (.str (S (dg fs))), some (.ref p), v3]) ⟨s1, hp, none, rfl⟩ (fun _ _ _ _ _ => trivial) ?_ ?_
    · rintro j x σ H2 H3 hj ⟨s2, hp2, u3, rfl⟩ ⟨rfl, hv⟩
      have hv : x = .int ((4 * j : Nat) : Int) := by rw [hv]; exact congrArg V.int (by omega)
      subst hv
      walk_at "go"
      refine g_tyL hp2 ?_
      walk_at "go"
      refine g_cutMid (i := 4 * j) (j := 4 * j + 4) (by rw [dg_len]; omega) rfl (by omega) ?_
      have e4 : ((dg fs).drop (4 * j)).take (4 * j + 4 - 4 * j) = [48 + fs.getD (4 * j) 0, 48 + fs.getD (4 * j + 1) 0, 48 + fs.getD (4 * j + 2) 0, 48 + fs.getD (4 * j + 3) 0] := by
        rw [dg_drop, dg_take, Nat.add_sub_cancel_left, four_at (by omega)]
        rfl
      rw [e4]
      walk_at "go"
      refine ⟨_, _, _, _, rfl, ⟨getD_lt hfd _, getD_lt hfd _, getD_lt hfd _, getD_lt hfd _⟩, ?_⟩
      rw [show 64 * fs.getD (4 * j) 0 + 16 * fs.getD (4 * j + 1) 0 + 4 * fs.getD (4 * j + 2) 0 + fs.getD (4 * j + 3) 0 = gv ds j from hfg j]
      walk_at "go"
      refine g_append hp2 (by simp [iv]; omega) ?_
      walk_at "go"
      refine ⟨fun b o e => by rw [upd_ne (ne_of_none e np)]; exact s2 _ _ e, ?_, some (.int ((4 * j : Nat) : Int)), rfl⟩
      rw [upd_same, ← nums_take hj]
      simp [iv]
    · rintro σ H2 ⟨s2, hp2, u3, rfl⟩
      walk_at "go"
      refine ⟨p, (nums ds).map fun n : Nat => (n : Int), rfl, SqL.of (by rw [← iv_ints]; exact hp2), ?_, ?_⟩
      · intro n hn
        obtain ⟨m, hm, rfl⟩ := List.mem_map.mp hn
        have := nums_B hd hl m hm
        omega
      rw [bt_ofInts]
      exact q H2 s2
theorem sc_law_numbers : FnScope ["_law_key_here", "_law_found", "_law_filled", "_law_at", "_law_total", "_law_sign"] ["_law_key_here"] (defScope s_law_numbers) := ⟨rfl, rfl, rfl, by decide +kernel, rfl, by decide +kernel, by decide +kernel⟩
def sp_law_numbers : Sp := fun vs H Q _ => ∃ (ds : List Nat), vs = [.str (S (dg ds))] ∧ Dig ds ∧ ds.length ≤ 400 ∧ ∀ p H', Same H H' → H p = none → H' p = some (.lst (iv (nums ds))) → Q (.ref p) H'
theorem ok_law_numbers (T : Tx K mg) : FnOk P w K mg base CX0 1 T.f_law_numbers T.d_law_numbers ["_law_key_here"] sp_law_numbers := by
  refine T.F_law_numbers.ok sc_law_numbers (fun vs H Q E h => ?_) (fun cdv A outer s H vs Q E hr h => ?_)
  · obtain ⟨ds, rfl, _⟩ := h; rfl
  · obtain ⟨ds, rfl, hd, hl, q⟩ := h
    refine ⟨_, (pss_cons (ps_par (i := 1) (j := 2) (by rfl) sc_law_numbers.nd rfl rfl (by decide) rfl rfl (pa_cons (pe_lst (pa_cons (pe_callB call_len_str (by rfl) T.m_len (by decide +kernel) (pa_cons (pv 0) pa_nil)) pa_nil)) (pa_cons (pe_op op_add_str (pv 0) pe_str) pa_nil)) (by rfl))
      (pss_cons (ps_for PassesOwn.never rfl (pi_range3 (by rfl) T.m_range (pa_cons pe_int (pa_cons (pe_callB call_len_str (by rfl) T.m_len (by decide +kernel) (pa_cons (pv 0) pa_nil)) (pa_cons pe_int pa_nil)))) (pg_name (i := 3) sc_law_numbers.nd rfl (Or.inl rfl))
      (pss_cons (ps_set (i := 4) sc_law_numbers.nd rfl (Or.inl rfl) pe_int)
      (pss_cons (ps_for PassesOwn.never rfl (pi_str (pe_slice sl_str (pv 2) (po_some (pv 3)) (po_some (pe_op op_add (pv 3) pe_int)))) (pg_name (i := 5) sc_law_numbers.nd rfl (Or.inl rfl))
      (pss_one (ps_set (i := 4) sc_law_numbers.nd rfl (Or.inl rfl) (pe_op op_add (pe_op op_mul pe_int (pv 4)) (pe_callTy call_int_str (by rfl) T.m_int (by decide +kernel) (pa_cons (pv 5) pa_nil))))))
      (pss_one (ps_expr (pe_bm PySem.F.plainAttrs_list PySem.F.slot_list_append PySem.F.type_list_append mt_append (pv 1) (pa_cons (pv 4) pa_nil)))))))
      (pss_one (ps_ret (pv 1))))), ?_⟩
    walk_at "go"
    refine ⟨szl (by rw [dg_len]; omega), ?_⟩
    rw [S_len, dg_len]
    walk_at "go"
    refine alloc fun p H1 np s1 hp => ?_
    walk_at "go"
    refine ⟨szc rfl S_000 (by rw [dg_len]; show _ + 3 ≤ _; omega), ?_⟩
    rw [S_000, S_cat, ← dg_app]
    obtain ⟨fs, hfs⟩ : ∃ fs, fs = ds ++ [0, 0, 0] := ⟨_, rfl⟩
    rw [← hfs]
    have hfl : fs.length = ds.length + 3 := by rw [hfs, List.length_append]; rfl
    have hfd : Dig fs := by rw [hfs]; exact hd.app (Dig.rep (n := 3) (by decide))
    have hfg : ∀ j, gv fs j = gv ds j := fun j => by rw [hfs]; exact gv_fill ds 3 j
    walk_at "go"
    refine ⟨szl (by rw [dg_len]; omega), ?_⟩
    rw [S_len, dg_len]
    walk_at "go"
    refine ⟨0, (ds.length : Int), 4, (ds.length + 3) / 4, rfl, RgC.four (by omega) rfl, ?_⟩
    refine for_it walk_rangeC (fun j σ H' => Same H H' ∧ H' p = some (.lst (iv (ds.length :: (List.range j).map (gv ds)))) ∧ ∃ v3 v4 v5, σ = [some (.str (S (dg ds))), some (.ref p), some (.str (S (dg fs))), v3, v4, v5]) ⟨s1, hp, none, none, none, rfl⟩ (fun _ _ _ _ _ => trivial) ?_ ?_
    · rintro j x σ H2 H3 hj ⟨s2, hp2, u3, u4, u5, rfl⟩ ⟨rfl, hv⟩
      have hv : x = .int ((4 * j : Nat) : Int) := by rw [hv]; exact congrArg V.int (by omega)
      subst hv
      walk_at "go"
      refine g_cutMid (i := 4 * j) (j := 4 * j + 4) (by rw [dg_len]; omega) rfl (by omega) ?_
      obtain ⟨gs, hgs⟩ : ∃ gs, gs = [fs.getD (4 * j) 0, fs.getD (4 * j + 1) 0, fs.getD (4 * j + 2) 0, fs.getD (4 * j + 3) 0] := ⟨_, rfl⟩
      have e4 : ((dg fs).drop (4 * j)).take (4 * j + 4 - 4 * j) = dg gs := by rw [hgs, dg_drop, dg_take, Nat.add_sub_cancel_left, four_at (by omega)]
      have hgd : Dig gs := by
        rw [hgs]
        intro d hd'
        simp only [List.mem_cons, List.not_mem_nil, or_false] at hd'
        rcases hd' with rfl | rfl | rfl | rfl <;> exact getD_lt hfd _
      have hgv : v4 gs = gv ds j := by
        rw [← hfg, hgs]
        show 4 * (4 * (4 * (4 * 0 + _) + _) + _) + _ = _
        unfold gv
        omega
      rw [e4]
      walk_at "go"
      refine for_it walk_str (fun i σ H' => H' = H3 ∧ ∃ v5, σ = [some (.str (S (dg ds))), some (.ref p), some (.str (S (dg fs))), some (.int ((4 * j : Nat) : Int)), some (.int ((v4 (gs.take i) : Nat) : Int)), v5]) ⟨rfl, u5, rfl⟩ (fun _ _ _ _ _ => trivial) ?_ ?_
      · rintro i x σ H4 H5 hi ⟨rfl, w5, rfl⟩ ⟨rfl, e, hc, rfl⟩
        obtain ⟨d, h1, h4, rfl⟩ := dig_at hgd hc
        walk_at "go"
        refine g_intS h4 ?_
        walk_at "go"
        refine ⟨rfl, some (.str ⟨#[48 + d]⟩), ?_⟩
        have e : ((v4 (gs.take (i + 1)) : Nat) : Int) = 4 * ((v4 (gs.take i) : Nat) : Int) + (d : Int) := by rw [List.take_add_one, h1]; show ((v4 (gs.take i ++ [d]) : Nat) : Int) = _; rw [v4_snoc]; omega
        rw [e]
        rfl
      · rintro σ H4 ⟨rfl, w5, rfl⟩
        rw [List.take_of_length_le (by rw [S_size, dg_len]; exact Nat.le_refl _), hgv]
        walk_at "go"
        refine g_tyL hp2 ?_
        walk_at "go"
        refine g_append hp2 (by simp [iv]; omega) ?_
        walk_at "go"
        refine ⟨fun b o e => by rw [upd_ne (ne_of_none e np)]; exact s2 _ _ e, ?_, _, _, _, rfl⟩
        rw [upd_same, ← nums_take hj]
        simp [iv]
    · rintro σ H2 ⟨s2, hp2, u3, u4, u5, rfl⟩
      walk_at "go"
      exact q p H2 s2 np hp2
end
end EZ
namespace EZ
open PySem L2 ClX
/-! the key that bytes tell of -/
def fl (r : List Nat) (i : Nat) : Nat := r.getD (i / 4) 0 / 4 ^ (3 - i % 4) % 4
def flat (r : List Nat) : List Nat := (List.range (4 * r.length)).map (fl r)
def keyIn : List Nat → Option (List Nat)
  | [] => none
  | n :: r => if r.length = (n + 3) / 4 ∧ (flat r).drop n = List.replicate (4 * r.length - n) 0 then some ((flat r).take n) else none
theorem flat_len (r : List Nat) : (flat r).length = 4 * r.length := by simp [flat]
theorem flat_dig (r : List Nat) : Dig (flat r) := fun d h => by
  obtain ⟨i, _, rfl⟩ := List.mem_map.mp h
  exact Nat.mod_lt _ (by decide)
theorem flat_at {r : List Nat} {i : Nat} (h : i < 4 * r.length) : (flat r).getD i 0 = fl r i := by
  unfold flat
  rw [List.getD, List.getElem?_map, List.getElem?_range h]
  rfl
theorem gv_flat {r : List Nat} {j : Nat} (hB : B256 r) (h : j < r.length) : gv (flat r) j = r.getD j 0 := by
  have hb : r.getD j 0 < 256 := by
    rw [List.getD, List.getElem?_eq_getElem h]
    exact hB _ (List.getElem_mem h)
  unfold gv
  rw [flat_at (by omega), flat_at (by omega), flat_at (by omega), flat_at (by omega)]
  unfold fl
  have d0 : 4 * j / 4 = j := by omega
  have d1 : (4 * j + 1) / 4 = j := by omega
  have d2 : (4 * j + 2) / 4 = j := by omega
  have d3 : (4 * j + 3) / 4 = j := by omega
  have m0 : 4 * j % 4 = 0 := by omega
  have m1 : (4 * j + 1) % 4 = 1 := by omega
  have m2 : (4 * j + 2) % 4 = 2 := by omega
  have m3 : (4 * j + 3) % 4 = 3 := by omega
  rw [d0, d1, d2, d3, m0, m1, m2, m3]
  generalize r.getD j 0 = b at *
  show 64 * (b / 64 % 4) + 16 * (b / 16 % 4) + 4 * (b / 4 % 4) + b / 1 % 4 = b
  omega
theorem range_getD7 (l : List Nat) : (List.range l.length).map (fun i => l.getD i 0) = l := by
  apply List.ext_getElem
  · simp
  · intro i h1 h2
    simp [List.getD, List.getElem?_eq_getElem h2]
theorem key_iff {n : Nat} {r : List Nat} (hr : r.length = (n + 3) / 4) (hB : B256 r) : nums ((flat r).take n) = n :: r ↔ (flat r).drop n = List.replicate (4 * r.length - n) 0 := by
  have hn : n ≤ 4 * r.length := by omega
  have hl : ((flat r).take n).length = n := by rw [List.length_take, flat_len]; omega
  have e1 : nums ((flat r).take n) = n :: (List.range r.length).map (gv ((flat r).take n)) := by
    unfold nums grp
    rw [hl, ← hr]
  have e2 : r = (List.range r.length).map (gv (flat r)) := by
    conv => lhs; rw [← range_getD7 r]
    exact List.map_congr_left fun j hj => (gv_flat hB (List.mem_range.mp hj)).symm
  constructor
  · intro h
    rw [e1] at h
    have h : (List.range r.length).map (gv ((flat r).take n)) = r := (List.cons.inj h).2
    have same : ∀ j, j < r.length → gv ((flat r).take n) j = gv (flat r) j := fun j hj => by
      have q := congrArg (fun l : List Nat => l[j]?) (h.trans e2)
      simp only [List.getElem?_map, List.getElem?_range hj, Option.map_some] at q
      exact Option.some.inj q
    have dg1 := (flat_dig r).take n
    have dg2 := flat_dig r
    have each : ∀ i, i < 4 * r.length → ((flat r).take n).getD i 0 = (flat r).getD i 0 := fun i hi => by
      have hs := same (i / 4) (by omega)
      unfold gv at hs
      have a0 := getD_lt dg1 (4 * (i / 4))
      have a1 := getD_lt dg1 (4 * (i / 4) + 1)
      have a2 := getD_lt dg1 (4 * (i / 4) + 2)
      have a3 := getD_lt dg1 (4 * (i / 4) + 3)
      have b0 := getD_lt dg2 (4 * (i / 4))
      have b1 := getD_lt dg2 (4 * (i / 4) + 1)
      have b2 := getD_lt dg2 (4 * (i / 4) + 2)
      have b3 := getD_lt dg2 (4 * (i / 4) + 3)
      have c : i = 4 * (i / 4) ∨ i = 4 * (i / 4) + 1 ∨ i = 4 * (i / 4) + 2 ∨ i = 4 * (i / 4) + 3 := by omega
      rcases c with c | c | c | c <;> rw [c] <;> omega
    apply List.ext_getElem
    · rw [List.length_drop, flat_len, List.length_replicate]
    · intro i h1 h2
      rw [List.length_drop, flat_len] at h1
      have q := each (n + i) (by omega)
      rw [List.getD, List.getD, List.getElem?_eq_none (by rw [hl]; omega), List.getElem?_eq_getElem (by rw [flat_len]; omega)] at q
      rw [List.getElem_drop, List.getElem_replicate]
      exact q.symm
  · intro h
    have e3 : flat r = (flat r).take n ++ List.replicate (4 * r.length - n) 0 := by rw [← h, List.take_append_drop]
    rw [e1]
    congr 1
    conv => rhs; rw [e2]
    exact List.map_congr_left fun j _ => by rw [e3, gv_fill, ← e3]
theorem keyIn_nums {ds : List Nat} (h : Dig ds) : keyIn (nums ds) = some ds := by
  have hB : B256 (grp ds) := fun n hn => by
    obtain ⟨j, _, rfl⟩ := List.mem_map.mp hn
    exact gv_lt h j
  have hr : (grp ds).length = (ds.length + 3) / 4 := grp_len ds
  have at_ : ∀ i, i < 4 * (grp ds).length → (flat (grp ds)).getD i 0 = ds.getD i 0 := fun i hi => by
    rw [flat_at hi]
    unfold fl
    have hj : i / 4 < (ds.length + 3) / 4 := by omega
    have e : (grp ds).getD (i / 4) 0 = gv ds (i / 4) := by
      unfold grp
      rw [List.getD, List.getElem?_map, List.getElem?_range hj]
      rfl
    rw [e]
    have a0 := getD_lt h (4 * (i / 4))
    have a1 := getD_lt h (4 * (i / 4) + 1)
    have a2 := getD_lt h (4 * (i / 4) + 2)
    have a3 := getD_lt h (4 * (i / 4) + 3)
    have hm : i % 4 = 0 ∨ i % 4 = 1 ∨ i % 4 = 2 ∨ i % 4 = 3 := by omega
    unfold gv
    rcases hm with hm | hm | hm | hm
    · rw [hm]
      have c : ds.getD i 0 = ds.getD (4 * (i / 4)) 0 := by congr 1; omega
      rw [c]
      show _ / 64 % 4 = _
      omega
    · rw [hm]
      have c : ds.getD i 0 = ds.getD (4 * (i / 4) + 1) 0 := by congr 1; omega
      rw [c]
      show _ / 16 % 4 = _
      omega
    · rw [hm]
      have c : ds.getD i 0 = ds.getD (4 * (i / 4) + 2) 0 := by congr 1; omega
      rw [c]
      show _ / 4 % 4 = _
      omega
    · rw [hm]
      have c : ds.getD i 0 = ds.getD (4 * (i / 4) + 3) 0 := by congr 1; omega
      rw [c]
      show _ / 1 % 4 = _
      omega
  have ef : flat (grp ds) = ds ++ List.replicate (4 * (grp ds).length - ds.length) 0 := by
    apply List.ext_getElem
    · rw [flat_len, List.length_append, List.length_replicate]; omega
    · intro i h1 h2
      have q := at_ i (by rw [flat_len] at h1; exact h1)
      rw [← getD_fill ds (4 * (grp ds).length - ds.length) i] at q
      rw [List.getD, List.getD, List.getElem?_eq_getElem h1, List.getElem?_eq_getElem h2] at q
      exact q
  unfold nums keyIn
  dsimp only
  have ed : (flat (grp ds)).drop ds.length = List.replicate (4 * (grp ds).length - ds.length) 0 := by rw [ef]; exact List.drop_left
  have et : (flat (grp ds)).take ds.length = ds := by rw [ef]; exact List.take_left
  rw [if_pos ⟨hr, ed⟩, et]
section
variable {P : Program} {w : World} {K : PySem.W.Frag} {mg : Str → Option Value} {base : Heap}
theorem g_isiT {K : PySem.W.Frag} {H : Hp} {v : V} {t : Value} {T : String} {b : Bool} {Q : VK} (h1 : TyX K H v t) (h2 : PySem.W.kitOne K t (.type T) = some b) (q : Q (.bl b) H) : rIsi K [v, .ty T] H Q := ⟨v, .ty T, t, .type T, b, rfl, .ty _, h1, h2, q⟩
theorem and37 {n : Nat} : Builtin.bitAnd (n : Int) 3 = ((n % 4 : Nat) : Int) := by
  have := Bits.bitAnd_mask (x := (n : Int)) 2 (by omega)
  simpa using this
theorem sc_Tile_of : FnScope ["cls", "data", "digits", "number", "k"] ["cls", "data"] (defScope s_Tile_of) := ⟨rfl, rfl, rfl, by decide +kernel, rfl, by decide +kernel, by decide +kernel⟩
def sp_Tile_of (K : PySem.W.Frag) (C N : Addr) : Sp := fun vs H Q E => ∃ (v : V), vs = [.ref C, v] ∧
  ((∃ l, v = .byt (bt l) ∧ B256 l ∧ l.length ≤ 300 ∧ (∀ ds, keyIn l = some ds → ∀ a H', Same H H' → H a = none → TileAt C H' a ds → Q (.ref a) H') ∧ (keyIn l = none → ∀ H', Same H H' → E (.ref N) none H')) ∨ (Isi K H v "bytes" false ∧ E (.ref N) none H))
theorem ok_Tile_of (T : Tx K mg) : FnOk P w K mg base (L2.CX P w) 7 T.f_Tile_of T.d_Tile_of ["cls", "data"] (sp_Tile_of K T.f_Tile T.f_NoTile) := by
  refine T.F_Tile_of.okX sc_Tile_of (fun vs H Q E h => ?_) (fun cdv A outer s H vs Q E hr h => ?_)
  · obtain ⟨v, rfl, _⟩ := h; rfl
  · obtain ⟨v, rfl, h⟩ := h
    refine ⟨_, (pss_cons (ps_if (PW.pt (pw_or (pt_not (pt_val (pe_callB call_isi (by rfl) T.m_isinstance (by decide +kernel) (pa_cons (pv 1) (pa_cons (pe_bltn (v := .ty "bytes") (by rfl) T.m_bytes (by decide +kernel) rfl) pa_nil))))) (pw_or (pt_cmpR op_eq (pe_callB call_len (by rfl) T.m_len (by decide +kernel) (pa_cons (pv 1) pa_nil)) pe_int (nomark _)) (pw_or1 (pt_cmpR op_ne (pe_callB call_len (by rfl) T.m_len (by decide +kernel) (pa_cons (pv 1) pa_nil)) (pe_op op_add pe_int (pe_op op_fdiv (pe_op op_add (pe_item_byt (pv 1) pe_int (fun _ _ => rfl)) pe_int) pe_int)) (nomark _)))))) (pss_one (ps_raise rfl (takes_of rfl rfl rfl rfl) (pmk_own0 PySem.F.excBase_ValueError T.x_NoTile T.g_NoTile T.k_NoTile (raises_own T.b_NoTile T.t_NoTile) rfl))) pss_nil)
      (pss_cons (ps_set (i := 2) sc_Tile_of.nd rfl (Or.inl rfl) (pe_join pe_str (pe_lc2 (own := [("number", 3), ("k", 4)]) (vs1 := [4]) (g := gName 3) (tt := tYes) (g1 := gName 4) (tt1 := tYes) rfl sc_Tile_of.nd (pi_byt (pe_slice sl_byt (pv 1) (po_some pe_int) po_none)) (blkOk_by (N := ["cls", "data", "digits", "number", "k"]) (sc := defScope s_Tile_of) (by decide +kernel)) (by decide) (fun _ _ _ _ _ => (pg_name (i := 3) sc_Tile_of.nd rfl (by first | exact Or.inl rfl | exact Or.inr rfl))) (fun _ _ _ _ _ => pts_nil) (fun _ _ _ _ _ => (show PI _ _ _ (iTup K _) from (pi_tup (pe_tup (pa_cons pe_int (pa_cons pe_int (pa_cons pe_int (pa_cons pe_int pa_nil)))))))) (fun _ _ _ _ _ => (pg_name (i := 4) sc_Tile_of.nd rfl (by first | exact Or.inl rfl | exact Or.inr rfl))) (fun _ _ _ _ _ => pts_nil) (fun _ _ _ _ _ => (pe_callTy call_str_int (by rfl) T.m_str (by decide +kernel) (pa_cons (pe_op op_and (pe_op op_shr (pv 3) (pv 4)) pe_int) pa_nil))))))
      (pss_cons (ps_if (pt_cmpR op_ne (pe_slice sl_str (pv 2) (po_some (pe_item_byt (pv 1) pe_int (fun _ _ => rfl))) po_none) (pe_op op_mul_str pe_str (pe_op op_sub (pe_callB call_len_str (by rfl) T.m_len (by decide +kernel) (pa_cons (pv 2) pa_nil)) (pe_item_byt (pv 1) pe_int (fun _ _ => rfl)))) (nomark _)) (pss_one (ps_raise rfl (takes_of rfl rfl rfl rfl) (pmk_own0 PySem.F.excBase_ValueError T.x_NoTile T.g_NoTile T.k_NoTile (raises_own T.b_NoTile T.t_NoTile) rfl))) pss_nil)
      (pss_one (ps_ret (pe_cmeth (pv 0) T.cr_Tile T.cm_Tile_keyed (FnOk.raw (ok_Tile_keyed T) T.b_Tile_keyed .nil) (hr.mono (by decide)) (passes_call (takes_of rfl rfl rfl rfl) (fun _ _ _ _ h => h)) (pa_cons (pe_slice sl_str (pv 2) po_none (po_some (pe_item_byt (pv 1) pe_int (fun _ _ => rfl)))) pa_nil))))))), ?_⟩
    walk_at "go"
    rcases h with ⟨l, rfl, hB, hl, q1, q2⟩ | ⟨hi, q⟩
    case inr =>
      refine g_isi hi ?_
      walk_at "go"
      exact q
    refine g_isiT (.byt _) (b := true) (kit_ty (by decide +kernel)) ?_
    walk_at "go"
    refine ⟨_, l.length, rfl, by_len (by omega), ?_⟩
    walk_at "go"
    cases l with
    | nil =>
      refine L2.iteT ?_
      walk_at "go"
      exact q2 rfl H (Same.refl H)
    | cons n r =>
    have hn : n < 256 := hB n List.mem_cons_self
    have hBr : B256 r := fun m hm => hB m (List.mem_cons_of_mem _ hm)
    rw [decide_eq_false (show ¬ (((n :: r).length : Nat) : Int) = 0 by rw [List.length_cons]; omega)]
    walk_at "go"
    refine ⟨_, (n :: r).length, rfl, by_len (by omega), ?_⟩
    walk_at "go"
    refine ⟨(n :: r).map UInt8.ofNat, 0, rfl, rfl, by_sz (by omega), (by_in (l := n :: r) (n := 0) (c := n) rfl rfl).1, (by_in (l := n :: r) (n := 0) (c := n) rfl rfl).2, ?_⟩
    rw [by_at (l := n :: r) (i := 0) (n := 0) (c := n) hB rfl rfl]
    walk_at "go"
    by_cases hrl : r.length = (n + 3) / 4
    case neg =>
      rw [decide_eq_false (show ¬ (((n :: r).length : Nat) : Int) = 1 + ((n : Int) + 3) / 4 by rw [List.length_cons]; omega)]
      walk_at "go"
      exact q2 (if_neg fun z => hrl z.1) H (Same.refl H)
    rw [decide_eq_true (show (((n :: r).length : Nat) : Int) = 1 + ((n : Int) + 3) / 4 by rw [List.length_cons]; omega)]
    walk_at "go"
    refine g_byFrom (n := 1) (by omega) rfl ?_
    rw [show (n :: r).drop 1 = r from rfl]
    walk_at "go"
    refine ⟨_, rfl, fun D nD => ?_⟩
    have hrl2 : r.length ≤ 300 := by rw [List.length_cons] at hl; omega
    refine lc2_out walk_byt (fun i H' => Same H H' ∧ H' D = some (.lst ((List.range (4 * i)).map fun j => V.str (S [48 + fl r j])))) ⟨Same.set nD, upd_same⟩ (fun _ _ _ _ => trivial) ?_ ?_
    · rintro i x H2 H3 hi ⟨s2, hD2⟩ ⟨rfl, c, hc, rfl⟩
      rw [bt_size] at hi
      have hci : (bt r)[i]? = some (UInt8.ofNat (r.getD i 0)) := by
        unfold bt
        rw [List.getElem?_toArray, List.getElem?_map, List.getD, List.getElem?_eq_getElem hi]
        rfl
      rw [hci] at hc
      have hb : r.getD i 0 < 256 := by
        rw [List.getD, List.getElem?_eq_getElem hi]
        exact hBr _ (List.getElem_mem hi)
      have hc2 : c.toNat = r.getD i 0 := by rw [← Option.some.inj hc]; exact u8 hb
      rw [hc2]
      walk_at "go"
      refine alloc fun p H4 np s4 hp => ?_
      refine ⟨p, rfl, ⟨_, SqT.of hp⟩, ?_⟩
      refine lc2_in (walk_tup (xs := [.int 6, .int 4, .int 2, .int 0])) (fun j H' => Same H H' ∧ H' p = some (.tup [.int 6, .int 4, .int 2, .int 0]) ∧ H' D = some (.lst ((List.range (4 * i + j)).map fun j => V.str (S [48 + fl r j])))) ⟨s2.trans s4, hp, s4 _ _ hD2⟩ (fun _ _ _ h => SqT.of h.2.1) ?_ ?_
      · rintro j x H5 H6 hj ⟨s5, hp5, hD5⟩ ⟨rfl, hx⟩
        have hj4 : j < 4 := hj
        have hx : x = .int ((6 - 2 * j : Nat) : Int) := by
          have : j = 0 ∨ j = 1 ∨ j = 2 ∨ j = 3 := by omega
          rcases this with rfl | rfl | rfl | rfl <;> exact (Option.some.inj hx).symm
        subst hx
        walk_at "go"
        have ev : Builtin.bitAnd (((r.getD i 0 : Nat) : Int) / 2 ^ (((6 - 2 * j : Nat) : Int)).toNat) 3 = ((fl r (4 * i + j) : Nat) : Int) := by
          have e1 : ((r.getD i 0 : Nat) : Int) / 2 ^ (((6 - 2 * j : Nat) : Int)).toNat = ((r.getD i 0 / 2 ^ (6 - 2 * j) : Nat) : Int) := by rw [Int.toNat_natCast]; simp
          have e2 : (4 * i + j) / 4 = i := by omega
          have e3 : (4 * i + j) % 4 = j := by omega
          rw [e1, and37]
          unfold fl
          rw [e2, e3]
          have e4 : 2 ^ (6 - 2 * j) = 4 ^ (3 - j) := by
            have : j = 0 ∨ j = 1 ∨ j = 2 ∨ j = 3 := by omega
            rcases this with rfl | rfl | rfl | rfl <;> rfl
          rw [e4]
        rw [ev]
        have h4 : fl r (4 * i + j) < 4 := Nat.mod_lt _ (by decide)
        refine ⟨small_log h4, ?_⟩
        rw [S_dig h4]
        refine ⟨_, hD5, ?_, fun a o e => ?_, ?_, ?_⟩
        · rw [List.length_map, List.length_range]; exact Nat.lt_of_lt_of_le (show _ < 100000 by omega) (by decide)
        · rw [upd_ne (ne_of_none e nD)]; exact s5 _ _ e
        · rw [upd_ne (ne_of hp5 hD5 (by intro z; cases z))]; exact hp5
        · rw [upd_same, show 4 * i + (j + 1) = 4 * i + j + 1 by omega, List.range_succ, List.map_append]; rfl
      · rintro H5 ⟨s5, hp5, hD5⟩
        exact ⟨s5, hD5⟩
    rintro H2 ⟨s2, hD2⟩
    rw [bt_size] at hD2
    have eD : ((List.range (4 * r.length)).map fun j => V.str (S [48 + fl r j])) = (flat r).map fun d => V.str (S [48 + d]) := by unfold flat; rw [List.map_map]; rfl
    rw [eD] at hD2
    have hfl := flat_len r
    have hfd := flat_dig r
    walk_at "go"
    refine ⟨_, D, (flat r).map fun d => S [48 + d], rfl, rfl, .inl (SqL.of (by rw [List.map_map]; exact hD2)), ?_, ?_⟩
    · rw [sum_ones, S_nil]
      show (flat r).length + ((flat r).map _).length * 0 ≤ _
      omega
    rw [join_dg]
    walk_at "go"
    refine ⟨(n :: r).map UInt8.ofNat, 0, rfl, rfl, by_sz (by omega), (by_in (l := n :: r) (n := 0) (c := n) rfl rfl).1, (by_in (l := n :: r) (n := 0) (c := n) rfl rfl).2, ?_⟩
    rw [by_at (l := n :: r) (i := 0) (n := 0) (c := n) hB rfl rfl]
    walk_at "go"
    refine g_cutFrom (n := n) (by rw [dg_len]; omega) rfl ?_
    rw [dg_drop]
    walk_at "go"
    refine ⟨szl (by rw [dg_len]; omega), ?_⟩
    rw [S_len, dg_len]
    walk_at "go"
    refine ⟨(n :: r).map UInt8.ofNat, 0, rfl, rfl, by_sz (by omega), (by_in (l := n :: r) (n := 0) (c := n) rfl rfl).1, (by_in (l := n :: r) (n := 0) (c := n) rfl rfl).2, ?_⟩
    rw [by_at (l := n :: r) (i := 0) (n := 0) (c := n) hB rfl rfl]
    walk_at "go"
    have ek : (((flat r).length : Nat) : Int) - (n : Int) = ((4 * r.length - n : Nat) : Int) := by rw [hfl]; omega
    rw [ek]
    refine ⟨⟨by decide, by omega, by omega⟩, ?_⟩
    have e0 : Str.ofString "0" = S [48 + 0] := by decide +kernel
    rw [e0, mul_rep]
    walk_at "go"
    rw [dec_key]
    by_cases hz : (flat r).drop n = List.replicate (4 * r.length - n) 0
    case neg =>
      rw [decide_eq_false hz]
      walk_at "go"
      exact q2 (if_neg fun z => hz z.2) H2 s2
    rw [decide_eq_true hz]
    walk_at "go"
    refine ⟨(n :: r).map UInt8.ofNat, 0, rfl, rfl, by_sz (by omega), (by_in (l := n :: r) (n := 0) (c := n) rfl rfl).1, (by_in (l := n :: r) (n := 0) (c := n) rfl rfl).2, ?_⟩
    rw [by_at (l := n :: r) (i := 0) (n := 0) (c := n) hB rfl rfl]
    walk_at "go"
    refine g_cutTo (n := n) (by rw [dg_len]; omega) rfl ?_
    rw [dg_take]
    walk_at "go"
    exact ⟨_, _, rfl, .inl ⟨(flat r).take n, rfl, hfd.take n, by rw [List.length_take]; omega, fun a H3 s3 na ha => q1 _ (if_pos ⟨hrl, hz⟩) a H3 (s2.trans s3) (s2.free na) ha⟩⟩
end
end EZ
namespace EZ
open PySem L2 ClX
def kvv : Option (List Nat) → V
  | none => .non
  | some ds => .str (S (dg ds))
theorem eqv_ints : ∀ (a b : List Nat), PyData.eqvAll (a.map fun n : Nat => PyData.int (n : Int)) (b.map fun n : Nat => PyData.int (n : Int)) = decide (a = b)
  | [], [] => rfl
  | [], _ :: _ => rfl
  | _ :: _, [] => rfl
  | x :: a, y :: b => by
    show (((x : Int) == (y : Int)) && PyData.eqvAll (a.map fun n : Nat => PyData.int (n : Int)) (b.map fun n : Nat => PyData.int (n : Int))) = _
    rw [eqv_ints a b]
    by_cases h : x = y
    · subst h
      simp
    · have : ((x : Int) == (y : Int)) = false := beq_eq_false_iff_ne.mpr (by omega)
      simp [this, h]
theorem dp_iv {K : PySem.W.Frag} {H : Hp} (l : List Nat) : DpAll K H (iv l) (l.map fun n : Nat => PyData.int (n : Int)) := DpAll.map _ _ (fun x => .int _) l
theorem sh_iv (l : List Nat) : SeqAt.shaped (.list (l.map fun n : Nat => PyData.int (n : Int))) = true := shaped_list (canLay_map _ l fun x hx => rfl) (depth_map _ 60 l fun x _ => Nat.zero_le _)
theorem g_eqIv {K : PySem.W.Frag} {H : Hp} {p q : Addr} {a b : List Nat} {Q : VK} (hp : H p = some (.lst (iv a))) (hq : H q = some (.lst (iv b))) (k : Q (.bl (decide (a = b))) H) : rEqD K (.ref p) (.ref q) H Q := by
  refine ⟨_, _, .lst (SqL.of hp) (dp_iv a), .lst (SqL.of hq) (dp_iv b), sh_iv a, sh_iv b, ?_⟩
  have e : PyData.eqv (.list (a.map fun n : Nat => PyData.int (n : Int))) (.list (b.map fun n : Nat => PyData.int (n : Int))) = decide (a = b) := by rw [PyData.eqv]; exact eqv_ints a b
  rw [e]
  exact k
theorem g_neIv {K : PySem.W.Frag} {H : Hp} {p q : Addr} {a b : List Nat} {Q : VK} (hp : H p = some (.lst (iv a))) (hq : H q = some (.lst (iv b))) (k : Q (.bl (!decide (a = b))) H) : rNeD K (.ref p) (.ref q) H Q := by
  refine ⟨_, _, .lst (SqL.of hp) (dp_iv a), .lst (SqL.of hq) (dp_iv b), sh_iv a, sh_iv b, ?_⟩
  have e : PyData.eqv (.list (a.map fun n : Nat => PyData.int (n : Int))) (.list (b.map fun n : Nat => PyData.int (n : Int))) = decide (a = b) := by rw [PyData.eqv]; exact eqv_ints a b
  rw [e]
  exact k
theorem cut_tail (n : Nat) (r : List Nat) : cutV (iv (n :: r)) (some 1) none = iv r := by
  unfold cutV
  rw [HT.sIx_none, show (1 : Int) = ((1 : Nat) : Int) from rfl, HT.sIx_nat]
  have : (iv (n :: r)).length = r.length + 1 := by simp [iv]
  rw [this, Nat.min_eq_left (by omega)]
  show ((iv r).take (r.length + 1 - 1)) = iv r
  rw [List.take_of_length_le (by simp [iv])]
theorem flat_next {r : List Nat} {i : Nat} (h : i < r.length) : (flat r).take (4 * (i + 1)) = (flat r).take (4 * i) ++ [fl r (4 * i), fl r (4 * i + 1), fl r (4 * i + 2), fl r (4 * i + 3)] := by
  unfold flat
  rw [← List.map_take, ← List.map_take, List.take_range, List.take_range, Nat.min_eq_left (by omega), Nat.min_eq_left (by omega)]
  rw [show 4 * (i + 1) = 4 * i + 1 + 1 + 1 + 1 by omega, List.range_succ, List.range_succ, List.range_succ, List.range_succ]
  simp
section
variable {P : Program} {w : World} {K : PySem.W.Frag} {mg : Str → Option Value} {base : Heap}
theorem sc_law_key_in : FnScope ["_law_numbers_here", "_law_found", "_law_total", "_law_key_here", "_law_at"] ["_law_numbers_here"] (defScope s_law_key_in) := ⟨rfl, rfl, rfl, by decide +kernel, rfl, by decide +kernel, by decide +kernel⟩
def sp_law_key_in : Sp := fun vs H Q _ => ∃ (p : Addr) (l : List Nat), vs = [.ref p] ∧ H p = some (.lst (iv l)) ∧ B256 l ∧ l.length ≤ 300 ∧ ∀ H', Same H H' → Q (kvv (keyIn l)) H'
theorem ok_law_key_in (T : Tx K mg) : FnOk P w K mg base CX0 2 T.f_law_key_in T.d_law_key_in ["_law_numbers_here"] sp_law_key_in := by
  refine T.F_law_key_in.ok sc_law_key_in (fun vs H Q E h => ?_) (fun cdv A outer s H vs Q E hr h => ?_)
  · obtain ⟨p, l, rfl, _⟩ := h; rfl
  · obtain ⟨p, l, rfl, hp, hB, hl, q⟩ := h
    refine ⟨_, (pss_cons (ps_if (PW.pt (pw_or (pt_cmpR (op_eqD hr.units) (pv 0) (pe_lst pa_nil) (nomark _)) (pw_or1 (pt_cmpR op_ne (pe_callB call_len_seq (by rfl) T.m_len (by decide +kernel) (pa_cons (pv 0) pa_nil)) (pe_op op_add pe_int (pe_op op_fdiv (pe_op op_add (pe_ix ix_list (pv 0) pe_int (fun _ _ => rfl)) pe_int) pe_int)) (nomark _))))) (pss_one (ps_ret pe_non)) pss_nil)
      (pss_cons (ps_set (i := 1) sc_law_key_in.nd rfl (Or.inl rfl) pe_str)
      (pss_cons (ps_for PassesOwn.never rfl (pi_list (pe_slice sl_list (pv 0) (po_some pe_int) po_none)) (pg_name (i := 2) sc_law_key_in.nd rfl (Or.inr rfl))
      (pss_one (ps_set (i := 1) sc_law_key_in.nd rfl (Or.inl rfl) (pe_op op_add_str (pv 1) (pe_join pe_str (pe_lc (own := [("_law_at", 4)]) (g := gName 4) (tt := tYes)  rfl sc_law_key_in.nd (pi_range1 (by rfl) T.m_range (pa_cons pe_int pa_nil)) (blkOk_by (N := ["_law_numbers_here", "_law_found", "_law_total", "_law_key_here", "_law_at"]) (sc := defScope s_law_key_in) (by decide +kernel)) (fun _ _ _ _ _ => (pg_name (i := 4) sc_law_key_in.nd rfl (by first | exact Or.inl rfl | exact Or.inr rfl))) (fun _ _ _ _ _ => pts_nil) (fun _ _ _ _ _ => (pe_callTy call_str_int (by rfl) T.m_str (by decide +kernel) (pa_cons (pe_op op_mod (pe_callTy call_int1 (by rfl) T.m_int (by decide +kernel) (pa_cons (pe_op op_shr (pv 2) (pe_op op_sub pe_int (pe_op op_mul pe_int (pv 4)))) pa_nil)) pe_int) pa_nil)))))))))
      (pss_cons (ps_set (i := 3) sc_law_key_in.nd rfl (Or.inl rfl) (pe_slice sl_str (pv 1) po_none (po_some (pe_ix ix_list (pv 0) pe_int (fun _ _ => rfl)))))
      (pss_one (ps_ret (pe_ifExp (pt_cmpR (op_eqD hr.units) (pe_call (ok_law_numbers T) (hr.mono (by decide)) (by rfl) T.g_law_numbers T.F_law_numbers.kp T.b_law_numbers .nil pass0 (pa_cons (pv 3) pa_nil)) (pv 0) (nomark _)) (pv 3) pe_non))))))), ?_⟩
    walk_at "go"
    refine alloc fun p1 H1 np1 s1 hp1 => ?_
    have hp0 := s1 _ _ hp
    refine g_eqIv (b := []) hp0 hp1 ?_
    cases l with
    | nil =>
      rw [decide_eq_true rfl]
      walk_at "go"
      exact q H1 s1
    | cons n r =>
    have hn : n < 256 := hB n List.mem_cons_self
    have hBr : B256 r := fun m hm => hB m (List.mem_cons_of_mem _ hm)
    have hrl2 : r.length ≤ 300 := by rw [List.length_cons] at hl; omega
    rw [decide_eq_false (by simp)]
    walk_at "go"
    refine ⟨p, _, rfl, .inl (SqL.of hp0), ?_⟩
    walk_at "go"
    refine g_ixL (v := .int (n : Int)) (SqL.of hp0) (at_of (j := 0) rfl rfl) ?_
    walk_at "go"
    have hlen : ((iv (n :: r)).length : Int) = (r.length : Int) + 1 := by simp [iv]
    rw [hlen]
    by_cases hrl : r.length = (n + 3) / 4
    case neg =>
      rw [decide_eq_false (show ¬ (r.length : Int) + 1 = 1 + ((n : Int) + 3) / 4 by omega)]
      walk_at "go"
      have e : keyIn (n :: r) = none := if_neg fun z => hrl z.1
      rw [e] at q
      exact q H1 s1
    rw [decide_eq_true (show (r.length : Int) + 1 = 1 + ((n : Int) + 3) / 4 by omega)]
    walk_at "go"
    refine ⟨p, _, rfl, SqL.of hp0, fun p2 np2 => ?_⟩
    rw [cut_tail]
    obtain ⟨H2, hH2⟩ : ∃ H2, H2 = upd H1 p2 (.lst (iv r)) := ⟨_, rfl⟩
    rw [← hH2]
    have s2 : Same H1 H2 := by rw [hH2]; exact Same.set np2
    have hp2 : H2 p2 = some (.lst (iv r)) := by rw [hH2]; exact upd_same
    refine ⟨p2, rfl, ⟨_, SqL.of hp2⟩, ?_⟩
    have hivl : (iv r).length = r.length := by simp [iv]
    have e00 : Str.ofString "" = S (dg []) := S_nil
    refine for_it walk_list (fun i σ H' => Same H2 H' ∧ ∃ v2 v3 v4, σ = [some (.ref p), some (.str (S (dg ((flat r).take (4 * i))))), v2, v3, v4]) ⟨Same.refl _, none, none, none, by rw [e00]; rfl⟩ (fun _ _ _ _ ⟨s, _⟩ => SqL.of (s _ _ hp2)) ?_ ?_
    · rintro i x σ Hx H3 hi ⟨s3, u2, u3, u4, rfl⟩ ⟨rfl, hx⟩
      rw [hivl] at hi
      have hx : x = .int ((r.getD i 0 : Nat) : Int) := by
        unfold iv at hx
        rw [List.getElem?_map, List.getElem?_eq_getElem hi] at hx
        rw [← Option.some.inj hx, List.getD, List.getElem?_eq_getElem hi]
        rfl
      subst hx
      walk_at "go"
      refine ⟨by decide, by decide, fun D nD => ?_⟩
      refine lcM walk_range (fun j => V.str (S [48 + fl r (4 * i + j)])) (by decide) nD (fun _ _ => trivial) (fun j x H4 H5 R R' hj sm4 y k => ?_) (fun H4 s4 hD4 => ?_)
      · obtain ⟨rfl, hv⟩ := y
        have hv : x = .int (j : Int) := by rw [hv]; simp
        subst hv
        have hj4 : j < 4 := hj
        walk_at "go"
        have ev : ((r.getD i 0 : Nat) : Int) / 2 ^ (6 - 2 * (j : Int)).toNat % 4 = ((fl r (4 * i + j) : Nat) : Int) := by
          have e1 : (6 - 2 * (j : Int)).toNat = 6 - 2 * j := by omega
          have e2 : (4 * i + j) / 4 = i := by omega
          have e3 : (4 * i + j) % 4 = j := by omega
          have e4 : (2 : Nat) ^ (6 - 2 * j) = 4 ^ (3 - j) := by
            have : j = 0 ∨ j = 1 ∨ j = 2 ∨ j = 3 := by omega
            rcases this with rfl | rfl | rfl | rfl <;> rfl
          unfold fl
          rw [e1, e2, e3, ← e4]
          simp
        rw [ev]
        have h4 : fl r (4 * i + j) < 4 := Nat.mod_lt _ (by decide)
        refine ⟨small_log h4, ?_⟩
        rw [S_dig h4]
        exact k _ (Same.refl _)
      · walk_at "go"
        obtain ⟨gs, hgs⟩ : ∃ gs, gs = [fl r (4 * i), fl r (4 * i + 1), fl r (4 * i + 2), fl r (4 * i + 3)] := ⟨_, rfl⟩
        have eg : (List.range 4).map (fun j => V.str (S [48 + fl r (4 * i + j)])) = gs.map fun d => V.str (S [48 + d]) := by rw [hgs]; rfl
        have hD4 : H4 D = some (.lst ((List.range 4).map (fun j => V.str (S [48 + fl r (4 * i + j)])))) := hD4
        rw [eg] at hD4
        refine ⟨_, D, gs.map fun d => S [48 + d], rfl, rfl, .inl (SqL.of (by rw [List.map_map]; exact hD4)), ?_, ?_⟩
        · rw [sum_ones, S_nil, hgs]
          show 4 + 4 * 0 ≤ 16777216
          decide
        rw [join_dg]
        walk_at "go"
        refine ⟨szc rfl rfl (by rw [dg_len, dg_len, List.length_take, flat_len, hgs]; show _ + 4 ≤ _; omega), ?_⟩
        rw [S_cat, ← dg_app, hgs, ← flat_next hi]
        exact ⟨s3.trans s4, _, _, _, rfl⟩
    · rintro σ H3 ⟨s3, u2, u3, u4, rfl⟩
      rw [hivl, List.take_of_length_le (by rw [flat_len]; exact Nat.le_refl _)]
      have hp3 := s3 _ _ (s2 _ _ hp0)
      walk_at "go"
      refine g_ixL (v := .int (n : Int)) (SqL.of hp3) (at_of (j := 0) rfl rfl) ?_
      walk_at "go"
      refine g_cutTo (n := n) (by rw [dg_len, flat_len]; omega) rfl ?_
      rw [dg_take]
      walk_at "go"
      refine ⟨(flat r).take n, rfl, (flat_dig r).take n, by rw [List.length_take, flat_len]; omega, fun p4 H4 s4 np4 hp4 => ?_⟩
      walk_at "go"
      refine g_eqIv hp4 (s4 _ _ hp3) ?_
      have sA : Same H H4 := ((s1.trans s2).trans s3).trans s4
      have kif := key_iff hrl hBr
      by_cases hz : (flat r).drop n = List.replicate (4 * r.length - n) 0
      · rw [decide_eq_true (kif.mpr hz)]
        walk_at "go"
        have e : keyIn (n :: r) = some ((flat r).take n) := if_pos ⟨hrl, hz⟩
        rw [e] at q
        exact q H4 sA
      · rw [decide_eq_false (fun z => hz (kif.mp z))]
        walk_at "go"
        have e : keyIn (n :: r) = none := if_neg fun z => hz z.2
        rw [e] at q
        exact q H4 sA
theorem sc_law_told : FnScope ["_law_value", "_law_found"] ["_law_value"] (defScope s_law_told) := ⟨rfl, rfl, rfl, by decide +kernel, rfl, by decide +kernel, by decide +kernel⟩
def sp_law_told (K : PySem.W.Frag) : Sp := fun vs H Q _ => ∃ (v : V), vs = [v] ∧ ((∃ l, v = .byt (bt l) ∧ B256 l ∧ l.length ≤ 300 ∧ ∀ H', Same H H' → Q (kvv (keyIn l)) H') ∨ (Isi K H v "bytes" false ∧ Q .non H))
theorem ok_law_told (T : Tx K mg) : FnOk P w K mg base CX0 8 T.f_law_told T.d_law_told ["_law_value"] (sp_law_told K) := by
  refine T.F_law_told.ok sc_law_told (fun vs H Q E h => ?_) (fun cdv A outer s H vs Q E hr h => ?_)
  · obtain ⟨v, rfl, _⟩ := h; rfl
  · obtain ⟨v, rfl, h⟩ := h
    refine ⟨_, (pss_cons (ps_set (i := 1) sc_law_told.nd rfl (Or.inl rfl) pe_str)
      (pss_cons (ps_try_many rfl rfl takes0 (fun W pn xe tk po =>
      (pss_one (ps_set (i := 1) sc_law_told.nd rfl (Or.inl rfl) (show PE _ _ (tFld K _ _) from (pe_fld (pe_cmeth (pe_glob (v := .ref T.f_Tile) (by rfl) T.g_Tile rfl) T.cr_Tile T.cm_Tile_of (FnOk.raw (ok_Tile_of T) T.b_Tile_of .nil) (hr.mono (by decide)) (passN 2 rfl tk) (pa_cons (pv 0) pa_nil)) rfl)))))
      (HdsOk.cons ⟨rfl, by decide, .inl T.g_NoTile⟩ (fun a oe cls d pn hz hf => (pss_one (ps_set (i := 1) sc_law_told.nd rfl (Or.inl rfl) pe_non))) (HdsOk.cons ⟨rfl, by decide, .inl T.g_ZoomError⟩ (fun a oe cls d pn hz hf => (pss_one (ps_set (i := 1) sc_law_told.nd rfl (Or.inl rfl) pe_str))) HdsOk.nil)))
      (pss_one (ps_ret (pv 1))))), ?_⟩
    walk_at "go"
    rcases h with ⟨l, rfl, hB, hl, q⟩ | ⟨hi, q⟩
    · refine ⟨_, rfl, .inl ⟨l, rfl, hB, hl, fun ds e a H1 s1 na ha => ?_, fun e H1 s1 σ hσ => ?_⟩⟩
      · walk_at "go"
        refine g_tf T ha T.na_Tile_key (tf_key _) ?_
        walk_at "go"
        rw [e] at q
        exact q H1 s1
      · obtain ⟨s0, s1', rfl⟩ := len2 hσ
        refine g_many T.em_NoTile_NoTile fun x nx => ?_
        walk_at "go"
        rw [e] at q
        exact q H1 s1
    · refine ⟨_, rfl, .inr ⟨hi, fun σ hσ => ?_⟩⟩
      obtain ⟨s0, s1', rfl⟩ := len2 hσ
      refine g_many T.em_NoTile_NoTile fun x nx => ?_
      walk_at "go"
      exact q
theorem sc_law_spoilt : FnScope ["_law_box_here", "_law_row", "_law_other", "_law_form", "_law_at"] ["_law_box_here", "_law_row", "_law_other"] (defScope s_law_spoilt) := ⟨rfl, rfl, rfl, by decide +kernel, rfl, by decide +kernel, by decide +kernel⟩
def sp_law_spoilt : Sp := fun vs H Q _ => ∃ (b : Addr) (x y : List Nat), vs = [.ref b, .byt (bt x), .byt (bt y)] ∧ Box H b ∧ B256 x ∧ B256 y ∧ x ≠ [] ∧ y ≠ [] ∧ x.length ≤ 100 ∧ y.length ≤ 100 ∧ ∀ l H', B256 l → l.length ≤ 300 → Kp b H H' → Box H' b → Q (.byt (bt l)) H'
theorem snoc_of {l : List Nat} (h : l ≠ []) : ∃ i c, l = i ++ [c] := ⟨l.dropLast, l.getLast h, (List.dropLast_concat_getLast h).symm⟩
theorem ok_law_spoilt (T : Tx K mg) : FnOk P w K mg base CX0 2 T.f_law_spoilt T.d_law_spoilt ["_law_box_here", "_law_row", "_law_other"] sp_law_spoilt := by
  refine T.F_law_spoilt.ok sc_law_spoilt (fun vs H Q E h => ?_) (fun cdv A outer s H vs Q E hr h => ?_)
  · obtain ⟨b, x, y, rfl, _⟩ := h; rfl
  · obtain ⟨b, x, y, rfl, B0, hx, hy, nx, ny, lx, ly, q⟩ := h
    refine ⟨_, (pss_cons (ps_par (i := 3) (j := 4) (by rfl) sc_law_spoilt.nd rfl rfl (by decide) rfl rfl (pa_cons (pe_call (ok_law_take T) (hr.mono (by decide)) (by rfl) T.g_law_take T.F_law_take.kp T.b_law_take .nil pass0 (pa_cons (pv 0) (pa_cons pe_int pa_nil))) (pa_cons (pe_call (ok_law_take T) (hr.mono (by decide)) (by rfl) T.g_law_take T.F_law_take.kp T.b_law_take .nil pass0 (pa_cons (pv 0) (pa_cons (pe_callB call_len (by rfl) T.m_len (by decide +kernel) (pa_cons (pv 1) pa_nil)) pa_nil))) pa_nil)) (by rfl))
      (pss_cons (ps_if (pt_cmpR op_eq (pv 3) pe_int (nomark _)) (pss_one (ps_ret (pe_op op_add_byt (pe_slice sl_byt (pv 1) po_none (po_some (pv 4))) (pe_slice sl_byt (pv 1) (po_some (pe_op op_add (pv 4) pe_int)) po_none)))) pss_nil)
      (pss_cons (ps_if (pt_cmpR op_eq (pv 3) pe_int (nomark _)) (pss_one (ps_ret (pe_op op_add_byt (pv 1) (pe_slice sl_byt (pv 2) (po_some (pe_un un_neg pe_int)) po_none)))) pss_nil)
      (pss_cons (ps_if (pt_cmpR op_eq (pv 3) pe_int (nomark _)) (pss_one (ps_ret (pe_op op_add_byt (pe_slice sl_byt (pv 2) po_none (po_some pe_int)) (pe_slice sl_byt (pv 1) (po_some pe_int) po_none)))) pss_nil)
      (pss_cons (ps_if (pt_cmpR op_eq (pv 3) pe_int (nomark _)) (pss_one (ps_ret (pe_op op_add_byt (pe_slice sl_byt (pv 1) po_none (po_some (pe_un un_neg pe_int))) (pe_slice sl_byt (pv 2) (po_some (pe_un un_neg pe_int)) po_none)))) pss_nil)
      (pss_cons (ps_if (pt_cmpR op_eq (pv 3) pe_int (nomark _)) (pss_one (ps_ret (pe_op op_add_byt (pe_slice sl_byt (pv 1) po_none (po_some (pv 4))) (pe_slice sl_byt (pv 2) (po_some (pv 4)) po_none)))) pss_nil)
      (pss_one (ps_ret (pe_op op_add_byt (pe_op op_add_byt (pe_slice sl_byt (pv 1) po_none (po_some (pv 4))) (pe_slice sl_byt (pe_slice sl_byt (pv 2) (po_some (pe_call (ok_law_take T) (hr.mono (by decide)) (by rfl) T.g_law_take T.F_law_take.kp T.b_law_take .nil pass0 (pa_cons (pv 0) (pa_cons (pe_callB call_len (by rfl) T.m_len (by decide +kernel) (pa_cons (pv 2) pa_nil)) pa_nil)))) po_none) po_none (po_some pe_int))) (pe_slice sl_byt (pv 1) (po_some (pe_op op_add (pv 4) pe_int)) po_none)))))))))), ?_⟩
    have px : 0 < x.length := List.length_pos_iff.mpr nx
    have py : 0 < y.length := List.length_pos_iff.mpr ny
    obtain ⟨ix, cx, ex⟩ := snoc_of nx
    obtain ⟨iy, cy, ey⟩ := snoc_of ny
    have hcy : B256 [cy] := fun m hm => hy m (by rw [ey]; exact List.mem_append_right _ hm)
    have hix : B256 ix := fun m hm => hx m (by rw [ex]; exact List.mem_append_left _ hm)
    walk_at "go"
    refine tk B0 (by decide) (by decide) fun f H1 l1 k1 B1 => ?_
    walk_at "go"
    refine ⟨_, x.length, rfl, by_len (by omega), ?_⟩
    walk_at "go"
    refine tk B1 (by omega) (by omega) fun a H2 l2 k2 B2 => ?_
    have k12 := k1.trans k2
    walk_at "go"
    refine ite2 (fun e => ?_) (fun e => ?_)
    · walk_at "go"
      refine g_byTo (n := a) (by omega) rfl ?_
      walk_at "go"
      refine g_byFrom (n := a + 1) (by omega) (by omega) ?_
      walk_at "go"
      refine ⟨_, _, rfl, rfl, by rw [bt_size, bt_size, List.length_take, List.length_drop]; omega, ?_⟩
      rw [bt_app]
      exact q _ _ ((hx.take _).app (hx.drop _)) (by rw [List.length_append, List.length_take, List.length_drop]; omega) k12 B2
    walk_at "go"
    refine ite2 (fun e => ?_) (fun e => ?_)
    · walk_at "go"
      refine ⟨_, rfl, by rw [bt_size]; omega, ?_⟩
      rw [ey, bt_last]
      walk_at "go"
      refine ⟨_, _, rfl, rfl, by rw [bt_size, bt_size]; show _ + 1 ≤ _; omega, ?_⟩
      rw [bt_app]
      exact q _ _ (hx.app hcy) (by rw [List.length_append]; show _ + 1 ≤ _; omega) k12 B2
    walk_at "go"
    refine ite2 (fun e => ?_) (fun e => ?_)
    · walk_at "go"
      refine g_byTo (n := 1) (by omega) rfl ?_
      walk_at "go"
      refine g_byFrom (n := 1) (by omega) rfl ?_
      walk_at "go"
      refine ⟨_, _, rfl, rfl, by rw [bt_size, bt_size, List.length_take, List.length_drop]; omega, ?_⟩
      rw [bt_app]
      exact q _ _ ((hy.take _).app (hx.drop _)) (by rw [List.length_append, List.length_take, List.length_drop]; omega) k12 B2
    walk_at "go"
    refine ite2 (fun e => ?_) (fun e => ?_)
    · walk_at "go"
      refine ⟨_, rfl, by rw [bt_size]; omega, ?_⟩
      rw [ex, bt_butlast]
      walk_at "go"
      refine ⟨_, rfl, by rw [bt_size]; omega, ?_⟩
      rw [ey, bt_last]
      walk_at "go"
      have lix : ix.length ≤ 100 := by rw [ex, List.length_append] at lx; omega
      refine ⟨_, _, rfl, rfl, by rw [bt_size, bt_size]; show _ + 1 ≤ _; omega, ?_⟩
      rw [bt_app]
      exact q _ _ (hix.app hcy) (by rw [List.length_append]; show _ + 1 ≤ _; omega) k12 B2
    walk_at "go"
    refine ite2 (fun e => ?_) (fun e => ?_)
    · walk_at "go"
      refine g_byTo (n := a) (by omega) rfl ?_
      walk_at "go"
      refine g_byFrom (n := a) (by omega) rfl ?_
      walk_at "go"
      refine ⟨_, _, rfl, rfl, by rw [bt_size, bt_size, List.length_take, List.length_drop]; omega, ?_⟩
      rw [bt_app]
      exact q _ _ ((hx.take _).app (hy.drop _)) (by rw [List.length_append, List.length_take, List.length_drop]; omega) k12 B2
    walk_at "go"
    refine g_byTo (n := a) (by omega) rfl ?_
    walk_at "go"
    refine ⟨_, y.length, rfl, by_len (by omega), ?_⟩
    walk_at "go"
    refine tk B2 (by omega) (by omega) fun c H3 l3 k3 B3 => ?_
    walk_at "go"
    refine g_byFrom (n := c) (by omega) rfl ?_
    walk_at "go"
    refine g_byTo (n := 1) (by rw [List.length_drop]; omega) rfl ?_
    walk_at "go"
    refine ⟨_, _, rfl, rfl, by rw [bt_size, bt_size, List.length_take, List.length_take, List.length_drop]; omega, ?_⟩
    rw [bt_app]
    walk_at "go"
    refine g_byFrom (n := a + 1) (by omega) (by omega) ?_
    walk_at "go"
    refine ⟨_, _, rfl, rfl, by rw [bt_size, bt_size, List.length_append, List.length_take, List.length_take, List.length_drop, List.length_drop]; omega, ?_⟩
    rw [bt_app]
    exact q _ _ (((hx.take _).app ((hy.drop _).take _)).app (hx.drop _)) (by rw [List.length_append, List.length_append, List.length_take, List.length_take, List.length_drop, List.length_drop]; omega) (k12.trans k3) B3
end
end EZ
namespace EZ
open PySem L2 ClX
section
variable {P : Program} {w : World} {K : PySem.W.Frag} {mg : Str → Option Value} {base : Heap}
def sp_law (K : PySem.W.Frag) : Sp := fun vs H Q _ => ∃ (a : Addr) (ns : List Int), vs = [.ref a] ∧ SqL K H a (ns.map V.int) ∧ ∀ H', Q (.bl true) H'
theorem law_want (K : PySem.W.Frag) (H : Hp) (a : Addr) (ns : List Int) (_ : ns.length ≤ 63) (h : SqL K H a (ns.map V.int)) : sp_law K [.ref a] H (fun v _ => v = .bl true) fun _ _ _ => False := ⟨a, ns, rfl, h, fun _ => rfl⟩
theorem keyIn_dig {l ds : List Nat} (h : keyIn l = some ds) : Dig ds := by
  cases l with
  | nil => cases h
  | cons n r =>
    by_cases c : r.length = (n + 3) / 4 ∧ (flat r).drop n = List.replicate (4 * r.length - n) 0
    · have e : keyIn (n :: r) = some ((flat r).take n) := if_pos c
      rw [e] at h
      rw [← Option.some.inj h]; exact (flat_dig r).take n
    · have e : keyIn (n :: r) = none := if_neg c
      rw [e] at h
      cases h
theorem shp_non : SeqAt.shaped PyData.none = true := by decide +kernel
theorem sm_dg7 {ds : List Nat} (h : Dig ds) : ∀ c ∈ dg ds, c < 1114112 := by
  intro c hc
  obtain ⟨d, hd, rfl⟩ := List.mem_map.mp hc
  have := h d hd
  omega
theorem shp_str {l : List Nat} (h : ∀ c ∈ l, c < 1114112) : SeqAt.shaped (.str (S l)) = true := by
  show ((PyData.str (S l)).canLay0 && decide (0 ≤ 64)) = true
  rw [strOk_of h]; rfl
theorem g_neKI {K : PySem.W.Frag} {H : Hp} {l : List Nat} {Q : VK} (q : Q (.bl false) H) : rNeD K (kvv (keyIn l)) (kvv (keyIn l)) H Q := by
  cases e : keyIn l with
  | none => exact ⟨_, _, .non, .non, shp_non, shp_non, q⟩
  | some ds =>
    have hd := keyIn_dig e
    refine ⟨_, _, .str _, .str _, shp_str (sm_dg7 hd), shp_str (sm_dg7 hd), ?_⟩
    rw [SeqAt.eqv_refl _ (strOk_of (sm_dg7 hd))]
    exact q
theorem g_neKS {K : PySem.W.Frag} {H : Hp} {ds : List Nat} {Q : VK} (hd : Dig ds) (q : Q (.bl false) H) : rNeD K (kvv (some ds)) (.str (S (dg ds))) H Q := by
  refine ⟨_, _, .str _, .str _, shp_str (sm_dg7 hd), shp_str (sm_dg7 hd), ?_⟩
  rw [SeqAt.eqv_refl _ (strOk_of (sm_dg7 hd))]
  exact q
theorem nums_ne (ds : List Nat) : nums ds ≠ [] := by intro h; cases h
theorem g_m0 {σ : St} {H : Hp} {Q : VK} {C : Addr} {m : Str} {sp : Sp} {E : XK} {ta : TE} (h : ta σ H fun x H1 => ∃ z dz gs, x = .ref z ∧ H1 z = some (.ins C dz gs) ∧ gs.lookup m = none ∧ sp [x] H1 Q E) : tMeth C m sp [] E ta tNil σ H Q := h
theorem iv_range (l : List Nat) : (List.range l.length).map (fun j => V.int ((l.getD j 0 : Nat) : Int)) = iv l := by
  conv => rhs; rw [← range_getD7 l]
  unfold iv
  rw [List.map_map]
  rfl
theorem at_getD {l : List Nat} {j : Nat} (h : j < l.length) : l[j]? = some (l.getD j 0) := by rw [List.getD, List.getElem?_eq_getElem h]; rfl
theorem pkM {C : Addr} {H : Hp} {t : Addr} {ds : List Nat} {Q : VK} {E : XK} (ht : TileAt C H t ds) (hl : ds.length < 256) (q : ∀ H', Same H H' → Q (.byt (bt (nums ds))) H') : ∃ z dz gs, V.ref t = .ref z ∧ H z = some (.ins C dz gs) ∧ gs.lookup ("packed" : Str) = none ∧ sp_Tile_packed C [V.ref t] H Q E := by
  obtain ⟨hd, dx, e⟩ := id ht
  refine ⟨t, dx, _, rfl, e, ?_, t, ds, rfl, ht, hl, q⟩
  exact (lk_miss (by decide +kernel)).trans ((lk_miss (by decide +kernel)).trans ((lk_miss (by decide +kernel)).trans (lk_miss (by decide +kernel))))
theorem sc_law : FnScope ["_law_script", "_law_k", "_law_box_here", "_law_turn", "_law_key_here", "_law_tile", "_law_numbers_here", "_law_row", "_law_more", "_law_near", "_law_other", "_law_due", "_law_value", "_law_at"] ["_law_script"] (defScope s_law) := ⟨rfl, rfl, rfl, by decide +kernel, rfl, by decide +kernel, by decide +kernel⟩
theorem ok_law (T : Tx K mg) : FnG P w K mg base CX0 11 T.f_law T.d_law ["_law_script"] (sp_law K) := by
  refine okG T.F_law sc_law (fun vs H Q E h => ?_) (fun cdv A outer s H vs Q E gd hr h => ?_)
  · obtain ⟨a, ns, rfl, _⟩ := h; rfl
  · obtain ⟨a, ns, rfl, hS, q⟩ := h
    refine ⟨_, (pss_cons (ps_for PassesOwn.never rfl (pi_range1 (by rfl) T.m_range (pa_cons (pe_callB (call_max2 rfl) (by rfl) T.m_max (by decide +kernel) (pa_cons pe_int (pa_cons (pe_callB (call_min2 rfl) (by rfl) T.m_min (by decide +kernel) (pa_cons pe_int (pa_cons (pe_callB call_len_seq (by rfl) T.m_len (by decide +kernel) (pa_cons (pv 0) pa_nil)) pa_nil))) pa_nil))) pa_nil)) (pg_name (i := 1) sc_law.nd rfl (Or.inl rfl))
      (pss_cons (ps_set (i := 2) sc_law.nd rfl (Or.inl rfl) (pe_call (ok_law_box T) (hr.mono (by decide)) (by rfl) T.g_law_box T.F_law_box.kp T.b_law_box .nil pass0 (pa_cons (pv 0) (pa_cons (pv 1) pa_nil))))
      (pss_cons (ps_for PassesOwn.never rfl (pi_range1 (by rfl) T.m_range (pa_cons pe_int pa_nil)) (pg_name (i := 3) sc_law.nd rfl (Or.inl rfl))
      (pss_cons (ps_set (i := 4) sc_law.nd rfl (Or.inl rfl) (pe_call (ok_law_key T) (hr.mono (by decide)) (by rfl) T.g_law_key T.F_law_key.kp T.b_law_key .nil pass0 (pa_cons (pv 2) (pa_cons (pe_ix ix_list (pe_lst (pa_cons pe_int (pa_cons pe_int (pa_cons pe_int pa_nil)))) (pe_call (ok_law_take T) (hr.mono (by decide)) (by rfl) T.g_law_take T.F_law_take.kp T.b_law_take .nil pass0 (pa_cons (pv 2) (pa_cons pe_int pa_nil))) (fun _ _ => rfl)) pa_nil))))
      (pss_cons (ps_par (i := 5) (j := 6) (by rfl) sc_law.nd rfl rfl (by decide) rfl rfl (pa_cons (pe_cmeth (pe_glob (v := .ref T.f_Tile) (by rfl) T.g_Tile rfl) T.cr_Tile T.cm_Tile_keyed (FnOk.raw (ok_Tile_keyed T) T.b_Tile_keyed .nil) (hr.mono (by decide)) passL (pa_cons (pv 4) pa_nil)) (pa_cons (pe_call (ok_law_numbers T) (hr.mono (by decide)) (by rfl) T.g_law_numbers T.F_law_numbers.kp T.b_law_numbers .nil pass0 (pa_cons (pv 4) pa_nil)) pa_nil)) (by rfl))
      (pss_cons (ps_set (i := 7) sc_law.nd rfl (Or.inr rfl) (pe_meth0 (pv 5) T.cl_Tile T.me_Tile_packed (ok_Tile_packed T) (hr.mono (by decide)) T.b_Tile_packed .nil pass0))
      (pss_cons (ps_if (PW.pt (pw_or (pt_cmpR (op_neD hr.units) (pe_lc (own := [("_law_at", 13)]) (g := gName 13) (tt := tYes)  rfl sc_law.nd (pi_range1 (by rfl) T.m_range (pa_cons (pe_callB call_len (by rfl) T.m_len (by decide +kernel) (pa_cons (pv 7) pa_nil)) pa_nil)) (blkOk_by (N := ["_law_script", "_law_k", "_law_box_here", "_law_turn", "_law_key_here", "_law_tile", "_law_numbers_here", "_law_row", "_law_more", "_law_near", "_law_other", "_law_due", "_law_value", "_law_at"]) (sc := defScope s_law) (by decide +kernel)) (fun _ _ _ _ _ => (pg_name (i := 13) sc_law.nd rfl (by first | exact Or.inl rfl | exact Or.inr rfl))) (fun _ _ _ _ _ => pts_nil) (fun _ _ _ _ _ => (pe_item_byt (pv 7) (pv 13) (fun _ _ => rfl)))) (pv 6) (nomark _)) (pw_or1 (pt_cmpR op_ne (pe_meth0 (pv 5) T.cl_Tile T.me_Tile_packed (ok_Tile_packed T) (hr.mono (by decide)) T.b_Tile_packed .nil pass0) (pv 7) (nomark _))))) (pss_one (ps_ret pe_bl)) pss_nil)
      (pss_cons (ps_if (PW.pt (pw_or (pt_cmpR (op_cmp_Tile_NotEq T (hr.mono (by decide))) (pe_cmeth (pe_glob (v := .ref T.f_Tile) (by rfl) T.g_Tile rfl) T.cr_Tile T.cm_Tile_of (FnOk.raw (ok_Tile_of T) T.b_Tile_of .nil) (hr.mono (by decide)) passL (pa_cons (pv 7) pa_nil)) (pv 5) (nomark _)) (pw_or (pt_cmpR op_ne (pe_fld (pe_cmeth (pe_glob (v := .ref T.f_Tile) (by rfl) T.g_Tile rfl) T.cr_Tile T.cm_Tile_of (FnOk.raw (ok_Tile_of T) T.b_Tile_of .nil) (hr.mono (by decide)) passL (pa_cons (pv 7) pa_nil)) rfl) (pv 4) (nomark _)) (pw_or1 (pt_cmpR (op_neD hr.units) (pe_call (ok_law_told T) (hr.mono (by decide)) (by rfl) T.g_law_told T.F_law_told.kp T.b_law_told .nil pass0 (pa_cons (pv 7) pa_nil)) (pv 4) (nomark _)))))) (pss_one (ps_ret pe_bl)) pss_nil)
      (pss_one (ps_for PassesOwn.never rfl (pi_range1 (by rfl) T.m_range (pa_cons pe_int pa_nil)) (pg_name (i := 8) sc_law.nd rfl (Or.inl rfl))
      (pss_cons (ps_set (i := 9) sc_law.nd rfl (Or.inl rfl) (pe_slice sl_str (pe_op op_add_str (pe_slice sl_str (pv 4) po_none (po_some (pe_call (ok_law_take T) (hr.mono (by decide)) (by rfl) T.g_law_take T.F_law_take.kp T.b_law_take .nil pass0 (pa_cons (pv 2) (pa_cons (pe_op op_add (pe_callB call_len_str (by rfl) T.m_len (by decide +kernel) (pa_cons (pv 4) pa_nil)) pe_int) pa_nil))))) (pe_call (ok_law_digits T) (hr.mono (by decide)) (by rfl) T.g_law_digits T.F_law_digits.kp T.b_law_digits .nil pass0 (pa_cons (pv 2) (pa_cons (pe_call (ok_law_take T) (hr.mono (by decide)) (by rfl) T.g_law_take T.F_law_take.kp T.b_law_take .nil pass0 (pa_cons (pv 2) (pa_cons pe_int pa_nil))) pa_nil)))) po_none (po_some pe_int)))
      (pss_cons (ps_set (i := 10) sc_law.nd rfl (Or.inr rfl) (pe_call (ok_law_spoilt T) (hr.mono (by decide)) (by rfl) T.g_law_spoilt T.F_law_spoilt.kp T.b_law_spoilt .nil pass0 (pa_cons (pv 2) (pa_cons (pv 7) (pa_cons (pe_meth0 (pe_cmeth (pe_glob (v := .ref T.f_Tile) (by rfl) T.g_Tile rfl) T.cr_Tile T.cm_Tile_keyed (FnOk.raw (ok_Tile_keyed T) T.b_Tile_keyed .nil) (hr.mono (by decide)) passL (pa_cons (pv 9) pa_nil)) T.cl_Tile T.me_Tile_packed (ok_Tile_packed T) (hr.mono (by decide)) T.b_Tile_packed .nil pass0) pa_nil)))))
      (pss_cons (ps_set (i := 11) sc_law.nd rfl (Or.inl rfl) (pe_call (ok_law_key_in T) (hr.mono (by decide)) (by rfl) T.g_law_key_in T.F_law_key_in.kp T.b_law_key_in .nil pass0 (pa_cons (pe_lc (own := [("_law_at", 13)]) (g := gName 13) (tt := tYes)  rfl sc_law.nd (pi_range1 (by rfl) T.m_range (pa_cons (pe_callB call_len (by rfl) T.m_len (by decide +kernel) (pa_cons (pv 10) pa_nil)) pa_nil)) (blkOk_by (N := ["_law_script", "_law_k", "_law_box_here", "_law_turn", "_law_key_here", "_law_tile", "_law_numbers_here", "_law_row", "_law_more", "_law_near", "_law_other", "_law_due", "_law_value", "_law_at"]) (sc := defScope s_law) (by decide +kernel)) (fun _ _ _ _ _ => (pg_name (i := 13) sc_law.nd rfl (by first | exact Or.inl rfl | exact Or.inr rfl))) (fun _ _ _ _ _ => pts_nil) (fun _ _ _ _ _ => (pe_item_byt (pv 10) (pv 13) (fun _ _ => rfl)))) pa_nil)))
      (pss_one (ps_if (pt_cmpR (op_neD hr.units) (pe_call (ok_law_told T) (hr.mono (by decide)) (by rfl) T.g_law_told T.F_law_told.kp T.b_law_told .nil pass0 (pa_cons (pv 10) pa_nil)) (pv 11) (nomark _)) (pss_one (ps_ret pe_bl)) pss_nil)))))))))))))
      (pss_cons (ps_for PassesOwn.never rfl (pi_tup (pe_tup (pa_cons (pe_slice sl_byt (pv 7) po_none (po_some pe_int)) (pa_cons pe_non (pa_cons pe_str (pa_cons (pv 4) (pa_cons (pv 6) (pa_cons pe_int (pa_cons (pe_callTy call_tuple_of (by rfl) T.m_tuple (by decide +kernel) (pa_cons (pv 6) pa_nil)) (pa_cons pe_bl pa_nil)))))))))) (pg_name (i := 12) sc_law.nd rfl (Or.inl rfl))
      (pss_one (ps_if (pt_cmpR op_notN (pe_call (ok_law_told T) (hr.mono (by decide)) (by rfl) T.g_law_told T.F_law_told.kp T.b_law_told .nil pass0 (pa_cons (pv 12) pa_nil)) pe_non (nomark _)) (pss_one (ps_ret pe_bl)) pss_nil)))
      (pss_one (ps_if (pt_cmpR (op_neD hr.units) (pe_call (ok_law_told T) (hr.mono (by decide)) (by rfl) T.g_law_told T.F_law_told.kp T.b_law_told .nil pass0 (pa_cons (pe_meth0 (pe_make T.mk_Tile (ok_Tile_init T) (hr.mono (by decide)) (by rfl) T.g_Tile T.b_Tile_init .nil passL (pa_cons pe_int (pa_cons pe_int (pa_cons pe_int pa_nil)))) T.cl_Tile T.me_Tile_packed (ok_Tile_packed T) (hr.mono (by decide)) T.b_Tile_packed .nil pass0) pa_nil)) pe_str (nomark _)) (pss_one (ps_ret pe_bl)) pss_nil))))))
      (pss_one (ps_ret pe_bl))), ?_⟩
    walk_at "go"
    refine ⟨a, _, rfl, .inl hS, ?_⟩
    walk_at "go"
    generalize hJ : (if (if (((ns.map V.int).length : Nat) : Int) < 5 then (((ns.map V.int).length : Nat) : Int) else 5) > 2 then (if (((ns.map V.int).length : Nat) : Int) < 5 then (((ns.map V.int).length : Nat) : Int) else 5) else 2) = J
    have hb : 0 ≤ J ∧ J ≤ 5 := by rw [← hJ]; constructor <;> split <;> (try split) <;> omega
    refine ⟨by omega, by omega, ?_⟩
    refine for_it walk_range (fun i σ H' => Same H H' ∧ ∃ v1 v2 v3 v4 v5 v6 v7 v8 v9 v10 v11 v12 v13, σ = [some (.ref a), v1, v2, v3, v4, v5, v6, v7, v8, v9, v10, v11, v12, v13]) ⟨Same.refl H, _, _, _, _, _, _, _, _, _, _, _, _, _, rfl⟩ (fun _ _ _ _ _ => trivial) ?_ ?_
    · rintro i x σ Hx H1 hi ⟨sm, v1, v2, v3, v4, v5, v6, v7, v8, v9, v10, v11, v12, v13, rfl⟩ ⟨rfl, hv⟩
      have hv : x = .int (i : Int) := by rw [hv]; simp
      subst hv
      walk_at "go"
      refine ⟨a, ns, i, rfl, sm.seq hS, fun b H2 s2 nb B2 => ?_⟩
      walk_at "go"
      refine ⟨by decide, by decide, ?_⟩
      refine for_it walk_range (fun i' σ H' => Same H1 H' ∧ Box H' b ∧ ((i' = 0 ∧ ∃ v1 v3 v4 v5 v6 v7 v8 v9 v10 v11 v12 v13, σ = [some (.ref a), v1, some (.ref b), v3, v4, v5, v6, v7, v8, v9, v10, v11, v12, v13]) ∨ ∃ (ds : List Nat) (p6 : Addr), Dig ds ∧ ds.length ≤ 200 ∧ H' p6 = some (.lst (iv (nums ds))) ∧ ∃ v1 v3 v5 v8 v9 v10 v11 v12 v13, σ = [some (.ref a), v1, some (.ref b), v3, some (.str (S (dg ds))), v5, some (.ref p6), some (.byt (bt (nums ds))), v8, v9, v10, v11, v12, v13])) ⟨s2, B2, .inl ⟨rfl, _, _, _, _, _, _, _, _, _, _, _, _, rfl⟩⟩ (fun _ _ _ _ _ => trivial) ?_ ?_
      · rintro i' x σ Hx H3 hi' ⟨sm3, B3, hσ⟩ ⟨rfl, hv⟩
        have hσ : ∃ v1 v3 v4 v5 v6 v7 v8 v9 v10 v11 v12 v13, σ = [some (.ref a), v1, some (.ref b), v3, v4, v5, v6, v7, v8, v9, v10, v11, v12, v13] := by
          rcases hσ with ⟨_, u1, u3, u4, u5, u6, u7, u8, u9, u10, u11, u12, u13, rfl⟩ | ⟨ds, p6, _, _, _, u1, u3, u5, u8, u9, u10, u11, u12, u13, rfl⟩
          · exact ⟨_, _, _, _, _, _, _, _, _, _, _, _, rfl⟩
          · exact ⟨_, _, _, _, _, _, _, _, _, _, _, _, rfl⟩
        obtain ⟨u1, u3, u4, u5, u6, u7, u8, u9, u10, u11, u12, u13, rfl⟩ := hσ
        walk_at "go"
        refine alloc fun p H4 np s4 hp => ?_
        walk_at "go"
        have B4 := B3.same s4
        refine tk B4 (by decide) (by decide) fun d5 H5 l5 k5 B5 => ?_
        have hp5 := k5 _ _ hp (B3.ne np)
        have sm5 : Same H1 H5 := skp (sm3.trans s4) nb k5
        obtain ⟨m, hm, hm2⟩ := at3 (a := .int 9) (b := .int 60) (c := .int 200) l5
        have hm3 : ∃ z : Nat, m = .int (z : Int) ∧ z ≤ 200 := by
          rcases hm2 with rfl | rfl | rfl
          · exact ⟨9, rfl, by decide⟩
          · exact ⟨60, rfl, by decide⟩
          · exact ⟨200, rfl, by decide⟩
        obtain ⟨m, rfl, hm4⟩ := hm3
        refine g_ixL (SqL.of hp5) hm ?_
        walk_at "go"
        refine ⟨b, m, rfl, B5, by omega, fun ds H6 hd hl k6 B6 => ?_⟩
        have hl : ds.length ≤ 200 := by omega
        have hnl := nums_len ds
        have hnB := nums_B hd (by omega)
        have sm6 : Same H1 H6 := skp sm5 nb k6
        walk_at "go"
        refine ⟨T.f_Tile |> V.ref, _, rfl, .inl ⟨ds, rfl, hd, by omega, fun t H7 s7 nt ht => ?_⟩⟩
        walk_at "go"
        refine ⟨ds, rfl, hd, by omega, fun p8 H8 s8 np8 hp8 => ?_⟩
        have ht8 := ht.same s8
        have B8 : Box H8 b := (B6.same s7).same s8
        have sm8 : Same H1 H8 := (sm6.trans s7).trans s8
        have n8 : p8 ≠ b := (B6.same s7).ne np8
        walk_at "go"
        refine g_m0 ?_
        walk_at "go"
        refine pkM ht8 (by omega) fun H9 s9 => ?_
        walk_at "go"
        refine ⟨_, (nums ds).length, rfl, by_len (by omega), ?_⟩
        walk_at "go"
        obtain ⟨l, hl0⟩ : ∃ l, l = nums ds := ⟨_, rfl⟩
        rw [← hl0] at hp8 hnl hnB ⊢
        refine ⟨by omega, by omega, fun D nD => ?_⟩
        rw [Int.toNat_natCast]
        refine lcM walk_range (fun j => V.int ((l.getD j 0 : Nat) : Int)) (by omega) nD (fun _ _ => trivial) (fun j x H10 H11 R R' hj sm10 y k => ?_) (fun H10 s10 hD10 => ?_)
        · obtain ⟨rfl, hv⟩ := y
          have hv : x = .int (j : Int) := by rw [hv]; simp
          subst hv
          walk_at "go"
          refine ⟨l.map UInt8.ofNat, _, rfl, rfl, by_sz (by omega), (by_in (l := l) (n := j) (c := l.getD j 0) rfl (at_getD hj)).1, (by_in (l := l) (n := j) (c := l.getD j 0) rfl (at_getD hj)).2, ?_⟩
          rw [by_at (l := l) (i := (j : Int)) (n := j) (c := l.getD j 0) hnB rfl (at_getD hj)]
          exact k _ (Same.refl _)
        rw [iv_range] at hD10
        have hp10 := s10 _ _ (s9 _ _ hp8)
        walk_at "go"
        refine g_neIv hD10 hp10 ?_
        rw [decide_eq_true rfl]
        walk_at "go"
        have ht10 := (ht8.same s9).same s10
        refine g_m0 ?_
        walk_at "go"
        refine pkM ht10 (by omega) fun H11 s11 => ?_
        rw [← hl0]
        walk_at "go"
        refine ⟨rfl, ?_⟩
        rw [decide_eq_true rfl]
        walk_at "go"
        have e1 : keyIn l = some ds := by rw [hl0]; exact keyIn_nums hd
        refine ⟨_, rfl, .inl ⟨l, rfl, hnB, by omega, fun es e a1 H12 s12 na1 ha1 => ?_, fun e => absurd (e1.symm.trans e) (by simp)⟩⟩
        have : ds = es := Option.some.inj (e1.symm.trans e)
        subst this
        have ht12 := (ht10.same s11).same s12
        walk_at "go"
        refine g_neT T ha1 ht12 ?_
        rw [decide_eq_true rfl]
        walk_at "go"
        refine ⟨_, rfl, .inl ⟨l, rfl, hnB, by omega, fun es e a2 H13 s13 na2 ha2 => ?_, fun e => absurd (e1.symm.trans e) (by simp)⟩⟩
        have : ds = es := Option.some.inj (e1.symm.trans e)
        subst this
        refine g_tf T ha2 T.na_Tile_key (tf_key _) ?_
        walk_at "go"
        rw [decide_eq_true rfl]
        walk_at "go"
        refine ⟨_, rfl, .inl ⟨l, rfl, hnB, by omega, fun H14 s14 => ?_⟩⟩
        walk_at "go"
        rw [e1]
        refine g_neKS hd ?_
        walk_at "go"
        have sK : Same H8 H14 := ((s9.trans s10).trans (s11.trans s12)).trans (s13.trans s14)
        have B14 := B8.same sK
        have hp14 := sK _ _ hp8
        have sm14 : Same H1 H14 := sm8.trans sK
        refine ⟨by decide, by decide, ?_⟩
        refine for_it walk_range (fun j σ H' => Kp b H14 H' ∧ Box H' b ∧ ∃ w1 w3 w5 w8 w9 w10 w11 w12 w13, σ = [some (.ref a), w1, some (.ref b), w3, some (.str (S (dg ds))), w5, some (.ref p8), some (.byt (bt l)), w8, w9, w10, w11, w12, w13]) ⟨Kp.refl b H14, B14, _, _, _, _, _, _, _, _, _, rfl⟩ (fun _ _ _ _ _ => trivial) ?_ ?_
        · rintro j x σ Hx H15 hj ⟨k15, B15, w1, w3, w5, w8, w9, w10, w11, w12, w13, rfl⟩ ⟨rfl, hv⟩
          walk_at "go"
          refine ⟨szl (by rw [dg_len]; omega), ?_⟩
          rw [S_len, dg_len]
          walk_at "go"
          refine tk B15 (by omega) (by omega) fun c16 H16 l16 k16 B16 => ?_
          walk_at "go"
          refine g_cutTo (n := c16) (by rw [dg_len]; omega) rfl ?_
          rw [dg_take]
          walk_at "go"
          refine tk B16 (by decide) (by decide) fun c17 H17 l17 k17 B17 => ?_
          walk_at "go"
          refine ⟨b, c17, rfl, B17, by omega, fun es H18 el ed k18 B18 => ?_⟩
          walk_at "go"
          refine ⟨szc rfl rfl (by rw [dg_len, dg_len, List.length_take]; omega), ?_⟩
          rw [S_cat, ← dg_app]
          walk_at "go"
          refine g_cutTo (n := 200) (by rw [dg_len, List.length_append, List.length_take]; omega) rfl ?_
          rw [dg_take]
          have hed : Dig ((ds.take c16 ++ es).take 200) := ((hd.take c16).app ed).take 200
          have hel : ((ds.take c16 ++ es).take 200).length ≤ 200 := by rw [List.length_take]; omega
          generalize (ds.take c16 ++ es).take 200 = fs at hed hel
          walk_at "go"
          refine g_m0 ?_
          walk_at "go"
          refine ⟨T.f_Tile |> V.ref, _, rfl, .inl ⟨fs, rfl, hed, by omega, fun u H19 s19 nu hu => ?_⟩⟩
          refine pkM hu (by omega) fun H20 s20 => ?_
          walk_at "go"
          have B20 := (B18.same s19).same s20
          have hfl := nums_len fs
          refine ⟨b, l, nums fs, rfl, B20, hnB, nums_B hed (by omega), by rw [hl0]; exact nums_ne ds, nums_ne fs, by omega, by omega, fun m21 H21 hB21 hl21 k21 B21 => ?_⟩
          walk_at "go"
          refine ⟨_, m21.length, rfl, by_len (by omega), ?_⟩
          walk_at "go"
          refine ⟨by omega, by omega, fun D nD => ?_⟩
          rw [Int.toNat_natCast]
          refine lcM walk_range (fun j => V.int ((m21.getD j 0 : Nat) : Int)) (by omega) nD (fun _ _ => trivial) (fun j x H22 H23 R R' hj sm22 y k => ?_) (fun H22 s22 hD22 => ?_)
          · obtain ⟨rfl, hv⟩ := y
            have hv : x = .int (j : Int) := by rw [hv]; simp
            subst hv
            walk_at "go"
            refine ⟨m21.map UInt8.ofNat, _, rfl, rfl, by_sz (by omega), (by_in (l := m21) (n := j) (c := m21.getD j 0) rfl (at_getD hj)).1, (by_in (l := m21) (n := j) (c := m21.getD j 0) rfl (at_getD hj)).2, ?_⟩
            rw [by_at (l := m21) (i := (j : Int)) (n := j) (c := m21.getD j 0) hB21 rfl (at_getD hj)]
            exact k _ (Same.refl _)
          rw [iv_range] at hD22
          walk_at "go"
          refine ⟨D, m21, rfl, hD22, hB21, hl21, fun H23 s23 => ?_⟩
          walk_at "go"
          refine ⟨_, rfl, .inl ⟨m21, rfl, hB21, hl21, fun H24 s24 => ?_⟩⟩
          walk_at "go"
          refine g_neKI ?_
          walk_at "go"
          exact ⟨(k15.trans (k16.trans (k17.trans k18))).trans ((Kp.of (s19.trans s20)).trans (k21.trans (Kp.of ((s22.trans s23).trans s24)))), B21.same ((s22.trans s23).trans s24), _, _, _, _, _, _, _, _, _, rfl⟩
        · rintro σ H15 ⟨k15, B15, w1, w3, w5, w8, w9, w10, w11, w12, w13, rfl⟩
          rw [hl0]
          exact ⟨skp sm14 nb k15, B15, .inr ⟨ds, p8, hd, hl, by rw [← hl0]; exact k15 _ _ hp14 n8, _, _, _, _, _, _, _, _, _, rfl⟩⟩
      · rintro σ H3 ⟨sm3, B3, hσ⟩
        rcases hσ with ⟨e, _⟩ | ⟨ds, p6, hd, hl, hp6, u1, u3, u5, u8, u9, u10, u11, u12, u13, rfl⟩
        · exact absurd e (by decide)
        obtain ⟨l, hl0⟩ : ∃ l, l = nums ds := ⟨_, rfl⟩
        have hnl := nums_len ds
        have hnB := nums_B hd (by omega)
        rw [← hl0] at hp6 hnl hnB ⊢
        walk_at "go"
        refine g_byTo (n := 0) (by omega) rfl ?_
        walk_at "go"
        refine ⟨p6, _, rfl, .inl ⟨SqL.of hp6, fun D4 nD4 => ?_⟩⟩
        obtain ⟨H4, hH4⟩ : ∃ H4, H4 = upd H3 D4 (.tup (iv l)) := ⟨_, rfl⟩
        rw [← hH4]
        have s4 : Same H3 H4 := by rw [hH4]; exact Same.set nD4
        have hD4 : H4 D4 = some (.tup (iv l)) := by rw [hH4]; exact upd_same
        walk_at "go"
        refine alloc fun p5 H5 np5 s5 hp5 => ?_
        refine ⟨p5, rfl, ⟨_, SqT.of hp5⟩, ?_⟩
        refine for_it walk_tup (fun j σ H' => Same H5 H' ∧ ∃ w1 w3 w4 w5 w6 w7 w8 w9 w10 w11 w12 w13, σ = [some (.ref a), w1, some (.ref b), w3, w4, w5, w6, w7, w8, w9, w10, w11, w12, w13]) ⟨Same.refl _, _, _, _, _, _, _, _, _, _, _, _, _, rfl⟩ (fun _ _ _ _ ⟨s, _⟩ => SqT.of (s _ _ hp5)) ?_ ?_
        · rintro j x σ Hx H6 hj ⟨s6, w1, w3, w4, w5, w6, w7, w8, w9, w10, w11, w12, w13, rfl⟩ ⟨rfl, hx⟩
          walk_at "go"
          have hx := List.mem_of_getElem? hx
          have hv : (x = .byt (bt [])) ∨ Isi K H6 x "bytes" false := by
            simp only [List.mem_cons, List.not_mem_nil, or_false] at hx
            rcases hx with rfl | rfl | rfl | rfl | rfl | rfl | rfl | rfl
            · exact .inl rfl
            · exact .inr ⟨_, .base .non, kit_ty (by decide +kernel)⟩
            · exact .inr ⟨_, .base (.str _), kit_ty (by decide +kernel)⟩
            · exact .inr ⟨_, .base (.str _), kit_ty (by decide +kernel)⟩
            · exact .inr ⟨_, .base (.lst (s6 _ _ (s5 _ _ (s4 _ _ hp6)))), kit_ty (by decide +kernel)⟩
            · exact .inr ⟨_, .base (.int _), kit_ty (by decide +kernel)⟩
            · exact .inr ⟨_, .base (.tup (s6 _ _ (s5 _ _ hD4))), kit_ty (by decide +kernel)⟩
            · exact .inr ⟨_, .base (.bl _), kit_ty (by decide +kernel)⟩
          have hQ : ∀ {Q : VK} {E : XK}, (∀ H', Same H6 H' → Q .non H') → sp_law_told K ([x] ++ []) H6 Q E := fun {Q E} q => by
            rcases hv with rfl | hv
            · exact ⟨_, rfl, .inl ⟨[], rfl, (fun n h => absurd h List.not_mem_nil), by decide, q⟩⟩
            · exact ⟨_, rfl, .inr ⟨hv, q _ (Same.refl _)⟩⟩
          refine hQ fun H7 s7 => ?_
          walk_at "go"
          refine ⟨rfl, ?_⟩
          refine ⟨_, rfl, L2.iteF ?_⟩
          walk_at "go"
          exact ⟨s6.trans s7, _, _, _, _, _, _, _, _, _, _, _, _, rfl⟩
        · rintro σ H6 ⟨s6, w1, w3, w4, w5, w6, w7, w8, w9, w10, w11, w12, w13, rfl⟩
          walk_at "go"
          refine g_m0 ?_
          walk_at "go"
          have mk0 := fun Q q => make_tile (K := K) (C := T.f_Tile) (N := T.f_NoTile) (H := H6) (ds := []) (Q := Q) (E := E0) Dig.nil (by decide) q
          refine mk0 _ fun t7 H7 s7 nt7 ht7 => ?_
          refine pkM ht7 (by decide) fun H8 s8 => ?_
          walk_at "go"
          refine ⟨_, rfl, .inl ⟨nums [], rfl, nums_B Dig.nil (by decide), by decide, fun H9 s9 => ?_⟩⟩
          rw [keyIn_nums Dig.nil]
          walk_at "go"
          have e00 : Str.ofString "" = S (dg []) := S_nil
          rw [e00]
          refine g_neKS Dig.nil ?_
          walk_at "go"
          exact ⟨sm.trans ((sm3.trans (s4.trans s5)).trans ((s6.trans s7).trans (s8.trans s9))), _, _, _, _, _, _, _, _, _, _, _, _, _, rfl⟩
    · rintro σ H1 ⟨sm, v1, v2, v3, v4, v5, v6, v7, v8, v9, v10, v11, v12, v13, rfl⟩
      walk_at "go"
      exact q _
end
end EZ
namespace EZ
open PySem L2 ClX

theorem fin {w : World} {K : PySem.W.Frag} {h : Heap} {mg : Str → Option Value} {fa : Addr} (X : K.In h) (G : h.Ns mainGlobals mg) (hfa : mg "law" = some (.ref fa))
    {t_DIGITS : Tok} {C_Tile : Addr} {od_is_integer : Option Addr} {an_is_integer : Option Addr} {sl_is_integer : Array (Option Value)} {f_is_integer : Addr} {oc_is_integer : Value} {kV_is_integer : Value} {dc_is_integer : Value} {pm_is_integer : Value} {cv_is_integer : Value} {ct_is_integer : Value} {od_is_digits : Option Addr} {an_is_digits : Option Addr} {sl_is_digits : Array (Option Value)} {f_is_digits : Addr} {oc_is_digits : Value} {kV_is_digits : Value} {dc_is_digits : Value} {pm_is_digits : Value} {cv_is_digits : Value} {ct_is_digits : Value} {od_is_place : Option Addr} {an_is_place : Option Addr} {sl_is_place : Array (Option Value)} {f_is_place : Addr} {oc_is_place : Value} {kV_is_place : Value} {dc_is_place : Value} {pm_is_place : Value} {cv_is_place : Value} {ct_is_place : Value} {od_key_of : Option Addr} {an_key_of : Option Addr} {sl_key_of : Array (Option Value)} {f_key_of : Addr} {oc_key_of : Value} {kV_key_of : Value} {dc_key_of : Value} {pm_key_of : Value} {cv_key_of : Value} {ct_key_of : Value} {od_part_bits : Option Addr} {an_part_bits : Option Addr} {sl_part_bits : Array (Option Value)} {f_part_bits : Addr} {oc_part_bits : Value} {kV_part_bits : Value} {dc_part_bits : Value} {pm_part_bits : Value} {cv_part_bits : Value} {ct_part_bits : Value} {od_Tile_init : Option Addr} {an_Tile_init : Option Addr} {sl_Tile_init : Array (Option Value)} {f_Tile_init : Addr} {oc_Tile_init : Value} {kV_Tile_init : Value} {dc_Tile_init : Value} {pm_Tile_init : Value} {cv_Tile_init : Value} {ct_Tile_init : Value} {od_Tile_keyed : Option Addr} {an_Tile_keyed : Option Addr} {sl_Tile_keyed : Array (Option Value)} {f_Tile_keyed : Addr} {oc_Tile_keyed : Value} {kV_Tile_keyed : Value} {dc_Tile_keyed : Value} {pm_Tile_keyed : Value} {cv_Tile_keyed : Value} {ct_Tile_keyed : Value} {p_Tile_keyed : Addr} {rs_Tile_keyed : List Value} {od_Tile_of : Option Addr} {an_Tile_of : Option Addr} {sl_Tile_of : Array (Option Value)} {f_Tile_of : Addr} {oc_Tile_of : Value} {kV_Tile_of : Value} {dc_Tile_of : Value} {pm_Tile_of : Value} {cv_Tile_of : Value} {ct_Tile_of : Value} {p_Tile_of : Addr} {rs_Tile_of : List Value} {od_Tile_packed : Option Addr} {an_Tile_packed : Option Addr} {sl_Tile_packed : Array (Option Value)} {f_Tile_packed : Addr} {oc_Tile_packed : Value} {kV_Tile_packed : Value} {dc_Tile_packed : Value} {pm_Tile_packed : Value} {cv_Tile_packed : Value} {ct_Tile_packed : Value} {od_Tile_eq : Option Addr} {an_Tile_eq : Option Addr} {sl_Tile_eq : Array (Option Value)} {f_Tile_eq : Addr} {oc_Tile_eq : Value} {kV_Tile_eq : Value} {dc_Tile_eq : Value} {pm_Tile_eq : Value} {cv_Tile_eq : Value} {ct_Tile_eq : Value} {od_law_box : Option Addr} {an_law_box : Option Addr} {sl_law_box : Array (Option Value)} {f_law_box : Addr} {oc_law_box : Value} {kV_law_box : Value} {dc_law_box : Value} {pm_law_box : Value} {cv_law_box : Value} {ct_law_box : Value} {od_law_take : Option Addr} {an_law_take : Option Addr} {sl_law_take : Array (Option Value)} {f_law_take : Addr} {oc_law_take : Value} {kV_law_take : Value} {dc_law_take : Value} {pm_law_take : Value} {cv_law_take : Value} {ct_law_take : Value} {od_law_digits : Option Addr} {an_law_digits : Option Addr} {sl_law_digits : Array (Option Value)} {f_law_digits : Addr} {oc_law_digits : Value} {kV_law_digits : Value} {dc_law_digits : Value} {pm_law_digits : Value} {cv_law_digits : Value} {ct_law_digits : Value} {od_law_key : Option Addr} {an_law_key : Option Addr} {sl_law_key : Array (Option Value)} {f_law_key : Addr} {oc_law_key : Value} {kV_law_key : Value} {dc_law_key : Value} {pm_law_key : Value} {cv_law_key : Value} {ct_law_key : Value} {od_law_numbers : Option Addr} {an_law_numbers : Option Addr} {sl_law_numbers : Array (Option Value)} {f_law_numbers : Addr} {oc_law_numbers : Value} {kV_law_numbers : Value} {dc_law_numbers : Value} {pm_law_numbers : Value} {cv_law_numbers : Value} {ct_law_numbers : Value} {od_law_key_in : Option Addr} {an_law_key_in : Option Addr} {sl_law_key_in : Array (Option Value)} {f_law_key_in : Addr} {oc_law_key_in : Value} {kV_law_key_in : Value} {dc_law_key_in : Value} {pm_law_key_in : Value} {cv_law_key_in : Value} {ct_law_key_in : Value} {od_law_told : Option Addr} {an_law_told : Option Addr} {sl_law_told : Array (Option Value)} {f_law_told : Addr} {oc_law_told : Value} {kV_law_told : Value} {dc_law_told : Value} {pm_law_told : Value} {cv_law_told : Value} {ct_law_told : Value} {od_law_spoilt : Option Addr} {an_law_spoilt : Option Addr} {sl_law_spoilt : Array (Option Value)} {f_law_spoilt : Addr} {oc_law_spoilt : Value} {kV_law_spoilt : Value} {dc_law_spoilt : Value} {pm_law_spoilt : Value} {cv_law_spoilt : Value} {ct_law_spoilt : Value} {od_law : Option Addr} {an_law : Option Addr} {sl_law : Array (Option Value)} {f_law : Addr} {oc_law : Value} {kV_law : Value} {dc_law : Value} {pm_law : Value} {cv_law : Value} {ct_law : Value} {f_NoTile : Addr} {f_ZoomError : Addr}
    (z_len : PySem.W.nsIn K mainGlobals "len" = some none)
    (z_abs : PySem.W.nsIn K mainGlobals "abs" = some none)
    (z_min : PySem.W.nsIn K mainGlobals "min" = some none)
    (z_max : PySem.W.nsIn K mainGlobals "max" = some none)
    (z_repr : PySem.W.nsIn K mainGlobals "repr" = some none)
    (z_isinstance : PySem.W.nsIn K mainGlobals "isinstance" = some none)
    (z_all : PySem.W.nsIn K mainGlobals "all" = some none)
    (z_range : PySem.W.nsIn K mainGlobals "range" = some none)
    (z_int : PySem.W.nsIn K mainGlobals "int" = some none)
    (z_str : PySem.W.nsIn K mainGlobals "str" = some none)
    (z_bool : PySem.W.nsIn K mainGlobals "bool" = some none)
    (z_bytes : PySem.W.nsIn K mainGlobals "bytes" = some none)
    (z_tuple : PySem.W.nsIn K mainGlobals "tuple" = some none)
    (n_DIGITS : PySem.W.nsIn K mainGlobals "DIGITS" = some (some (.str (Str.ofString "0123") t_DIGITS)))
    (n_Tile : PySem.W.nsIn K mainGlobals "Tile" = some (some (.ref C_Tile)))
    (pg_Tile : PySem.W.plainGet K C_Tile Str.empty = true)
    (hd_Tile : PySem.W.hasDictIn K C_Tile = true)
    (po_Tile : PySem.W.plainOver K C_Tile = true)
    (sa_Tile : PySem.W.findIn K (.ref C_Tile) "__setattr__" = some (some (.builtin "object.__setattr__")))
    (ca_Tile : PySem.W.findIn K (.ref C_Tile) "__class__" = some (some (.builtin "object.__class__")))
    (cb_Tile : PySem.W.specialIn K (.builtin "object.__class__") "__get__" = some (some (.builtin "getset_descriptor.__get__")))
    (cc_Tile : PySem.W.takesIn K (.builtin "object.__class__") = some true)
    (cd_Tile : PySem.W.mroIn K C_Tile (.type "object") = some true)
    (ne_Tile : PySem.W.findIn K (.ref C_Tile) "__ne__" = some (some (.builtin "object.__ne__")))
    (mk_Tile : PySem.W.makesIn K C_Tile = true)
    (kc_Tile : PySem.W.keepIn K (.ref C_Tile) = true)
    (ga_Tile : PySem.W.specialIn K (.ref C_Tile) "__getattribute__" = some (some (.builtin "type.__getattribute__")))
    (rd_Tile : PySem.W.readsIn K C_Tile (.type "type") = true)
    (na_Tile_zoom : PySem.W.findIn K (.ref C_Tile) "zoom" = some none)
    (na_Tile_x : PySem.W.findIn K (.ref C_Tile) "x" = some none)
    (na_Tile_y : PySem.W.findIn K (.ref C_Tile) "y" = some none)
    (na_Tile_key : PySem.W.findIn K (.ref C_Tile) "key" = some none)
    (a_is_integer : PySem.W.nsIn K mainGlobals "is_integer" = some (some (.ref f_is_integer)))
    (l_is_integer : K.lookup f_is_integer = some ⟨oc_is_integer, od_is_integer, .func (PySem.W.fnOf "is_integer" "is_integer" (defArgs s_is_integer) (defBody s_is_integer) (defScope s_is_integer) .none kV_is_integer dc_is_integer pm_is_integer an_is_integer cv_is_integer ct_is_integer), sl_is_integer⟩)
    (c_is_integer : PySem.W.codeIn K cv_is_integer "is_integer" = true)
    (k_is_integer : PySem.W.keepIn K (.ref f_is_integer) = true)
    (a_is_digits : PySem.W.nsIn K mainGlobals "is_digits" = some (some (.ref f_is_digits)))
    (l_is_digits : K.lookup f_is_digits = some ⟨oc_is_digits, od_is_digits, .func (PySem.W.fnOf "is_digits" "is_digits" (defArgs s_is_digits) (defBody s_is_digits) (defScope s_is_digits) .none kV_is_digits dc_is_digits pm_is_digits an_is_digits cv_is_digits ct_is_digits), sl_is_digits⟩)
    (c_is_digits : PySem.W.codeIn K cv_is_digits "is_digits" = true)
    (k_is_digits : PySem.W.keepIn K (.ref f_is_digits) = true)
    (a_is_place : PySem.W.nsIn K mainGlobals "is_place" = some (some (.ref f_is_place)))
    (l_is_place : K.lookup f_is_place = some ⟨oc_is_place, od_is_place, .func (PySem.W.fnOf "is_place" "is_place" (defArgs s_is_place) (defBody s_is_place) (defScope s_is_place) .none kV_is_place dc_is_place pm_is_place an_is_place cv_is_place ct_is_place), sl_is_place⟩)
    (c_is_place : PySem.W.codeIn K cv_is_place "is_place" = true)
    (k_is_place : PySem.W.keepIn K (.ref f_is_place) = true)
    (a_key_of : PySem.W.nsIn K mainGlobals "key_of" = some (some (.ref f_key_of)))
    (l_key_of : K.lookup f_key_of = some ⟨oc_key_of, od_key_of, .func (PySem.W.fnOf "key_of" "key_of" (defArgs s_key_of) (defBody s_key_of) (defScope s_key_of) .none kV_key_of dc_key_of pm_key_of an_key_of cv_key_of ct_key_of), sl_key_of⟩)
    (c_key_of : PySem.W.codeIn K cv_key_of "key_of" = true)
    (k_key_of : PySem.W.keepIn K (.ref f_key_of) = true)
    (a_part_bits : PySem.W.nsIn K mainGlobals "part_bits" = some (some (.ref f_part_bits)))
    (l_part_bits : K.lookup f_part_bits = some ⟨oc_part_bits, od_part_bits, .func (PySem.W.fnOf "part_bits" "part_bits" (defArgs s_part_bits) (defBody s_part_bits) (defScope s_part_bits) .none kV_part_bits dc_part_bits pm_part_bits an_part_bits cv_part_bits ct_part_bits), sl_part_bits⟩)
    (c_part_bits : PySem.W.codeIn K cv_part_bits "part_bits" = true)
    (k_part_bits : PySem.W.keepIn K (.ref f_part_bits) = true)
    (a_Tile_init : PySem.W.findIn K (.ref C_Tile) "__init__" = some (some (.ref f_Tile_init)))
    (i_Tile_init : PySem.W.isFn K (.ref f_Tile_init) = true)
    (l_Tile_init : K.lookup f_Tile_init = some ⟨oc_Tile_init, od_Tile_init, .func (PySem.W.fnOf "__init__" "Tile.__init__" (defArgs s_Tile_init) (defBody s_Tile_init) (defScope s_Tile_init) .none kV_Tile_init dc_Tile_init pm_Tile_init an_Tile_init cv_Tile_init ct_Tile_init), sl_Tile_init⟩)
    (c_Tile_init : PySem.W.codeIn K cv_Tile_init "Tile.__init__" = true)
    (k_Tile_init : PySem.W.keepIn K (.ref f_Tile_init) = true)
    (a_Tile_keyed : PySem.W.findCls K (.ref C_Tile) (.type "type") "keyed" = some (.get (.builtin "classmethod.__get__") (.ref p_Tile_keyed) .none (.ref C_Tile)))
    (rc_Tile_keyed : PySem.W.recIn K p_Tile_keyed "classmethod" = some (.ref f_Tile_keyed :: rs_Tile_keyed))
    (fi_Tile_keyed : PySem.W.fnIn K f_Tile_keyed = true)
    (l_Tile_keyed : K.lookup f_Tile_keyed = some ⟨oc_Tile_keyed, od_Tile_keyed, .func (PySem.W.fnOf "keyed" "Tile.keyed" (defArgs s_Tile_keyed) (defBody s_Tile_keyed) (defScope s_Tile_keyed) .none kV_Tile_keyed dc_Tile_keyed pm_Tile_keyed an_Tile_keyed cv_Tile_keyed ct_Tile_keyed), sl_Tile_keyed⟩)
    (c_Tile_keyed : PySem.W.codeIn K cv_Tile_keyed "Tile.keyed" = true)
    (k_Tile_keyed : PySem.W.keepIn K (.ref f_Tile_keyed) = true)
    (a_Tile_of : PySem.W.findCls K (.ref C_Tile) (.type "type") "of" = some (.get (.builtin "classmethod.__get__") (.ref p_Tile_of) .none (.ref C_Tile)))
    (rc_Tile_of : PySem.W.recIn K p_Tile_of "classmethod" = some (.ref f_Tile_of :: rs_Tile_of))
    (fi_Tile_of : PySem.W.fnIn K f_Tile_of = true)
    (l_Tile_of : K.lookup f_Tile_of = some ⟨oc_Tile_of, od_Tile_of, .func (PySem.W.fnOf "of" "Tile.of" (defArgs s_Tile_of) (defBody s_Tile_of) (defScope s_Tile_of) .none kV_Tile_of dc_Tile_of pm_Tile_of an_Tile_of cv_Tile_of ct_Tile_of), sl_Tile_of⟩)
    (c_Tile_of : PySem.W.codeIn K cv_Tile_of "Tile.of" = true)
    (k_Tile_of : PySem.W.keepIn K (.ref f_Tile_of) = true)
    (a_Tile_packed : PySem.W.findIn K (.ref C_Tile) "packed" = some (some (.ref f_Tile_packed)))
    (i_Tile_packed : PySem.W.isFn K (.ref f_Tile_packed) = true)
    (l_Tile_packed : K.lookup f_Tile_packed = some ⟨oc_Tile_packed, od_Tile_packed, .func (PySem.W.fnOf "packed" "Tile.packed" (defArgs s_Tile_packed) (defBody s_Tile_packed) (defScope s_Tile_packed) .none kV_Tile_packed dc_Tile_packed pm_Tile_packed an_Tile_packed cv_Tile_packed ct_Tile_packed), sl_Tile_packed⟩)
    (c_Tile_packed : PySem.W.codeIn K cv_Tile_packed "Tile.packed" = true)
    (k_Tile_packed : PySem.W.keepIn K (.ref f_Tile_packed) = true)
    (a_Tile_eq : PySem.W.findIn K (.ref C_Tile) "__eq__" = some (some (.ref f_Tile_eq)))
    (i_Tile_eq : PySem.W.isFn K (.ref f_Tile_eq) = true)
    (l_Tile_eq : K.lookup f_Tile_eq = some ⟨oc_Tile_eq, od_Tile_eq, .func (PySem.W.fnOf "__eq__" "Tile.__eq__" (defArgs s_Tile_eq) (defBody s_Tile_eq) (defScope s_Tile_eq) .none kV_Tile_eq dc_Tile_eq pm_Tile_eq an_Tile_eq cv_Tile_eq ct_Tile_eq), sl_Tile_eq⟩)
    (c_Tile_eq : PySem.W.codeIn K cv_Tile_eq "Tile.__eq__" = true)
    (k_Tile_eq : PySem.W.keepIn K (.ref f_Tile_eq) = true)
    (a_law_box : PySem.W.nsIn K mainGlobals "_law_box" = some (some (.ref f_law_box)))
    (l_law_box : K.lookup f_law_box = some ⟨oc_law_box, od_law_box, .func (PySem.W.fnOf "_law_box" "_law_box" (defArgs s_law_box) (defBody s_law_box) (defScope s_law_box) .none kV_law_box dc_law_box pm_law_box an_law_box cv_law_box ct_law_box), sl_law_box⟩)
    (c_law_box : PySem.W.codeIn K cv_law_box "_law_box" = true)
    (k_law_box : PySem.W.keepIn K (.ref f_law_box) = true)
    (a_law_take : PySem.W.nsIn K mainGlobals "_law_take" = some (some (.ref f_law_take)))
    (l_law_take : K.lookup f_law_take = some ⟨oc_law_take, od_law_take, .func (PySem.W.fnOf "_law_take" "_law_take" (defArgs s_law_take) (defBody s_law_take) (defScope s_law_take) .none kV_law_take dc_law_take pm_law_take an_law_take cv_law_take ct_law_take), sl_law_take⟩)
    (c_law_take : PySem.W.codeIn K cv_law_take "_law_take" = true)
    (k_law_take : PySem.W.keepIn K (.ref f_law_take) = true)
    (a_law_digits : PySem.W.nsIn K mainGlobals "_law_digits" = some (some (.ref f_law_digits)))
    (l_law_digits : K.lookup f_law_digits = some ⟨oc_law_digits, od_law_digits, .func (PySem.W.fnOf "_law_digits" "_law_digits" (defArgs s_law_digits) (defBody s_law_digits) (defScope s_law_digits) .none kV_law_digits dc_law_digits pm_law_digits an_law_digits cv_law_digits ct_law_digits), sl_law_digits⟩)
    (c_law_digits : PySem.W.codeIn K cv_law_digits "_law_digits" = true)
    (k_law_digits : PySem.W.keepIn K (.ref f_law_digits) = true)
    (a_law_key : PySem.W.nsIn K mainGlobals "_law_key" = some (some (.ref f_law_key)))
    (l_law_key : K.lookup f_law_key = some ⟨oc_law_key, od_law_key, .func (PySem.W.fnOf "_law_key" "_law_key" (defArgs s_law_key) (defBody s_law_key) (defScope s_law_key) .none kV_law_key dc_law_key pm_law_key an_law_key cv_law_key ct_law_key), sl_law_key⟩)
    (c_law_key : PySem.W.codeIn K cv_law_key "_law_key" = true)
    (k_law_key : PySem.W.keepIn K (.ref f_law_key) = true)
    (a_law_numbers : PySem.W.nsIn K mainGlobals "_law_numbers" = some (some (.ref f_law_numbers)))
    (l_law_numbers : K.lookup f_law_numbers = some ⟨oc_law_numbers, od_law_numbers, .func (PySem.W.fnOf "_law_numbers" "_law_numbers" (defArgs s_law_numbers) (defBody s_law_numbers) (defScope s_law_numbers) .none kV_law_numbers dc_law_numbers pm_law_numbers an_law_numbers cv_law_numbers ct_law_numbers), sl_law_numbers⟩)
    (c_law_numbers : PySem.W.codeIn K cv_law_numbers "_law_numbers" = true)
    (k_law_numbers : PySem.W.keepIn K (.ref f_law_numbers) = true)
    (a_law_key_in : PySem.W.nsIn K mainGlobals "_law_key_in" = some (some (.ref f_law_key_in)))
    (l_law_key_in : K.lookup f_law_key_in = some ⟨oc_law_key_in, od_law_key_in, .func (PySem.W.fnOf "_law_key_in" "_law_key_in" (defArgs s_law_key_in) (defBody s_law_key_in) (defScope s_law_key_in) .none kV_law_key_in dc_law_key_in pm_law_key_in an_law_key_in cv_law_key_in ct_law_key_in), sl_law_key_in⟩)
    (c_law_key_in : PySem.W.codeIn K cv_law_key_in "_law_key_in" = true)
    (k_law_key_in : PySem.W.keepIn K (.ref f_law_key_in) = true)
    (a_law_told : PySem.W.nsIn K mainGlobals "_law_told" = some (some (.ref f_law_told)))
    (l_law_told : K.lookup f_law_told = some ⟨oc_law_told, od_law_told, .func (PySem.W.fnOf "_law_told" "_law_told" (defArgs s_law_told) (defBody s_law_told) (defScope s_law_told) .none kV_law_told dc_law_told pm_law_told an_law_told cv_law_told ct_law_told), sl_law_told⟩)
    (c_law_told : PySem.W.codeIn K cv_law_told "_law_told" = true)
    (k_law_told : PySem.W.keepIn K (.ref f_law_told) = true)
    (a_law_spoilt : PySem.W.nsIn K mainGlobals "_law_spoilt" = some (some (.ref f_law_spoilt)))
    (l_law_spoilt : K.lookup f_law_spoilt = some ⟨oc_law_spoilt, od_law_spoilt, .func (PySem.W.fnOf "_law_spoilt" "_law_spoilt" (defArgs s_law_spoilt) (defBody s_law_spoilt) (defScope s_law_spoilt) .none kV_law_spoilt dc_law_spoilt pm_law_spoilt an_law_spoilt cv_law_spoilt ct_law_spoilt), sl_law_spoilt⟩)
    (c_law_spoilt : PySem.W.codeIn K cv_law_spoilt "_law_spoilt" = true)
    (k_law_spoilt : PySem.W.keepIn K (.ref f_law_spoilt) = true)
    (a_law : PySem.W.nsIn K mainGlobals "law" = some (some (.ref f_law)))
    (l_law : K.lookup f_law = some ⟨oc_law, od_law, .func (PySem.W.fnOf "law" "law" (defArgs s_law) (defBody s_law) (defScope s_law) .none kV_law dc_law pm_law an_law cv_law ct_law), sl_law⟩)
    (c_law : PySem.W.codeIn K cv_law "law" = true)
    (k_law : PySem.W.keepIn K (.ref f_law) = true)
    (n_NoTile : PySem.W.nsIn K mainGlobals "NoTile" = some (some (.ref f_NoTile)))
    (x_NoTile : PySem.W.excIn K f_NoTile [.type "ValueError", .type "Exception", .type "BaseException", .type "object"] "ValueError.__new__" = true)
    (k_NoTile : PySem.W.keepIn K (.ref f_NoTile) = true)
    (b_NoTile : PySem.W.subIn K (.ref f_NoTile) (.type "BaseException") = some true)
    (t_NoTile : PySem.W.typeIn K (.ref f_NoTile) = some (.type "type"))
    (n_ZoomError : PySem.W.nsIn K mainGlobals "ZoomError" = some (some (.ref f_ZoomError)))
    (x_ZoomError : PySem.W.excIn K f_ZoomError [.type "ValueError", .type "Exception", .type "BaseException", .type "object"] "ValueError.__new__" = true)
    (k_ZoomError : PySem.W.keepIn K (.ref f_ZoomError) = true)
    (b_ZoomError : PySem.W.subIn K (.ref f_ZoomError) (.type "BaseException") = some true)
    (t_ZoomError : PySem.W.typeIn K (.ref f_ZoomError) = some (.type "type"))
    (em_NoTile_NoTile : PySem.W.exmOne K (.ref f_NoTile) (.ref f_NoTile) = some true)
    : ∃ fd : FuncData, (∀ (s : Shared) (u : Value), BindsTo s fd ⟨[u], []⟩ [("_law_script", u)]) ∧ ∀ base : Heap, K.In base → base.Ns mainGlobals mg → FnG PySem.Challenge.pw_everyzoom_k07_tiles_as_bytes w K mg base CX0 11 fa fd ["_law_script"] (sp_law K) := by
  have e0 := hfa.symm.trans (PySem.W.mg_of X G a_law)
  cases e0
  let T : Tx K mg := {
    m_len := (PySem.W.mg_none_of X G z_len)
    m_abs := (PySem.W.mg_none_of X G z_abs)
    m_min := (PySem.W.mg_none_of X G z_min)
    m_max := (PySem.W.mg_none_of X G z_max)
    m_repr := (PySem.W.mg_none_of X G z_repr)
    m_isinstance := (PySem.W.mg_none_of X G z_isinstance)
    m_all := (PySem.W.mg_none_of X G z_all)
    m_range := (PySem.W.mg_none_of X G z_range)
    m_int := (PySem.W.mg_none_of X G z_int)
    m_str := (PySem.W.mg_none_of X G z_str)
    m_bool := (PySem.W.mg_none_of X G z_bool)
    m_bytes := (PySem.W.mg_none_of X G z_bytes)
    m_tuple := (PySem.W.mg_none_of X G z_tuple)
    u_DIGITS := (.str (Str.ofString "0123") t_DIGITS)
    g_DIGITS := (PySem.W.mg_of X G n_DIGITS)
    r_DIGITS := (⟨_, rfl⟩)
    na_Tile_zoom := (na_Tile_zoom)
    na_Tile_x := (na_Tile_x)
    na_Tile_y := (na_Tile_y)
    na_Tile_key := (na_Tile_key)
    f_Tile := (C_Tile)
    g_Tile := (PySem.W.mg_of X G n_Tile)
    mc_Tile := (.type "type")
    cl_Tile := (⟨pg_Tile, hd_Tile, po_Tile, sa_Tile⟩)
    cr_Tile := (⟨rd_Tile, ga_Tile⟩)
    ca_Tile := (ca_Tile)
    cb_Tile := (cb_Tile)
    cc_Tile := (cc_Tile)
    cd_Tile := (cd_Tile)
    ne_Tile := (ne_Tile)
    f_is_integer := (f_is_integer)
    d_is_integer := (PySem.W.fnOf "is_integer" "is_integer" (defArgs s_is_integer) (defBody s_is_integer) (defScope s_is_integer) .none kV_is_integer dc_is_integer pm_is_integer an_is_integer cv_is_integer ct_is_integer)
    F_is_integer := (fun_mk (st := s_is_integer) l_is_integer c_is_integer k_is_integer)
    b_is_integer := ((fun_mk (st := s_is_integer) l_is_integer c_is_integer k_is_integer).binds (ps := ["value"]) fun _ _ _ _ _ _ us hl => match us, hl with | [_], _ => rfl)
    g_is_integer := (PySem.W.mg_of X G a_is_integer)
    f_is_digits := (f_is_digits)
    d_is_digits := (PySem.W.fnOf "is_digits" "is_digits" (defArgs s_is_digits) (defBody s_is_digits) (defScope s_is_digits) .none kV_is_digits dc_is_digits pm_is_digits an_is_digits cv_is_digits ct_is_digits)
    F_is_digits := (fun_mk (st := s_is_digits) l_is_digits c_is_digits k_is_digits)
    b_is_digits := ((fun_mk (st := s_is_digits) l_is_digits c_is_digits k_is_digits).binds (ps := ["value"]) fun _ _ _ _ _ _ us hl => match us, hl with | [_], _ => rfl)
    g_is_digits := (PySem.W.mg_of X G a_is_digits)
    f_is_place := (f_is_place)
    d_is_place := (PySem.W.fnOf "is_place" "is_place" (defArgs s_is_place) (defBody s_is_place) (defScope s_is_place) .none kV_is_place dc_is_place pm_is_place an_is_place cv_is_place ct_is_place)
    F_is_place := (fun_mk (st := s_is_place) l_is_place c_is_place k_is_place)
    b_is_place := ((fun_mk (st := s_is_place) l_is_place c_is_place k_is_place).binds (ps := ["value", "zoom"]) fun _ _ _ _ _ _ us hl => match us, hl with | [_, _], _ => rfl)
    g_is_place := (PySem.W.mg_of X G a_is_place)
    f_key_of := (f_key_of)
    d_key_of := (PySem.W.fnOf "key_of" "key_of" (defArgs s_key_of) (defBody s_key_of) (defScope s_key_of) .none kV_key_of dc_key_of pm_key_of an_key_of cv_key_of ct_key_of)
    F_key_of := (fun_mk (st := s_key_of) l_key_of c_key_of k_key_of)
    b_key_of := ((fun_mk (st := s_key_of) l_key_of c_key_of k_key_of).binds (ps := ["zoom", "x", "y"]) fun _ _ _ _ _ _ us hl => match us, hl with | [_, _, _], _ => rfl)
    g_key_of := (PySem.W.mg_of X G a_key_of)
    f_part_bits := (f_part_bits)
    d_part_bits := (PySem.W.fnOf "part_bits" "part_bits" (defArgs s_part_bits) (defBody s_part_bits) (defScope s_part_bits) .none kV_part_bits dc_part_bits pm_part_bits an_part_bits cv_part_bits ct_part_bits)
    F_part_bits := (fun_mk (st := s_part_bits) l_part_bits c_part_bits k_part_bits)
    b_part_bits := ((fun_mk (st := s_part_bits) l_part_bits c_part_bits k_part_bits).binds (ps := ["key", "part"]) fun _ _ _ _ _ _ us hl => match us, hl with | [_, _], _ => rfl)
    g_part_bits := (PySem.W.mg_of X G a_part_bits)
    f_Tile_init := (f_Tile_init)
    d_Tile_init := (PySem.W.fnOf "__init__" "Tile.__init__" (defArgs s_Tile_init) (defBody s_Tile_init) (defScope s_Tile_init) .none kV_Tile_init dc_Tile_init pm_Tile_init an_Tile_init cv_Tile_init ct_Tile_init)
    F_Tile_init := (fun_mk (st := s_Tile_init) l_Tile_init c_Tile_init k_Tile_init)
    b_Tile_init := ((fun_mk (st := s_Tile_init) l_Tile_init c_Tile_init k_Tile_init).binds (ps := ["self", "zoom", "x", "y"]) fun _ _ _ _ _ _ us hl => match us, hl with | [_, _, _, _], _ => rfl)
    me_Tile_init := (⟨a_Tile_init, i_Tile_init, k_Tile_init⟩)
    f_Tile_keyed := (f_Tile_keyed)
    d_Tile_keyed := (PySem.W.fnOf "keyed" "Tile.keyed" (defArgs s_Tile_keyed) (defBody s_Tile_keyed) (defScope s_Tile_keyed) .none kV_Tile_keyed dc_Tile_keyed pm_Tile_keyed an_Tile_keyed cv_Tile_keyed ct_Tile_keyed)
    F_Tile_keyed := (fun_mk (st := s_Tile_keyed) l_Tile_keyed c_Tile_keyed k_Tile_keyed)
    b_Tile_keyed := ((fun_mk (st := s_Tile_keyed) l_Tile_keyed c_Tile_keyed k_Tile_keyed).binds (ps := ["cls", "key"]) fun _ _ _ _ _ _ us hl => match us, hl with | [_, _], _ => rfl)
    p_Tile_keyed := (p_Tile_keyed)
    cm_Tile_keyed := (⟨a_Tile_keyed, ⟨_, rc_Tile_keyed⟩, fi_Tile_keyed⟩)
    f_Tile_of := (f_Tile_of)
    d_Tile_of := (PySem.W.fnOf "of" "Tile.of" (defArgs s_Tile_of) (defBody s_Tile_of) (defScope s_Tile_of) .none kV_Tile_of dc_Tile_of pm_Tile_of an_Tile_of cv_Tile_of ct_Tile_of)
    F_Tile_of := (fun_mk (st := s_Tile_of) l_Tile_of c_Tile_of k_Tile_of)
    b_Tile_of := ((fun_mk (st := s_Tile_of) l_Tile_of c_Tile_of k_Tile_of).binds (ps := ["cls", "data"]) fun _ _ _ _ _ _ us hl => match us, hl with | [_, _], _ => rfl)
    p_Tile_of := (p_Tile_of)
    cm_Tile_of := (⟨a_Tile_of, ⟨_, rc_Tile_of⟩, fi_Tile_of⟩)
    f_Tile_packed := (f_Tile_packed)
    d_Tile_packed := (PySem.W.fnOf "packed" "Tile.packed" (defArgs s_Tile_packed) (defBody s_Tile_packed) (defScope s_Tile_packed) .none kV_Tile_packed dc_Tile_packed pm_Tile_packed an_Tile_packed cv_Tile_packed ct_Tile_packed)
    F_Tile_packed := (fun_mk (st := s_Tile_packed) l_Tile_packed c_Tile_packed k_Tile_packed)
    b_Tile_packed := ((fun_mk (st := s_Tile_packed) l_Tile_packed c_Tile_packed k_Tile_packed).binds (ps := ["self"]) fun _ _ _ _ _ _ us hl => match us, hl with | [_], _ => rfl)
    me_Tile_packed := (⟨a_Tile_packed, i_Tile_packed, k_Tile_packed⟩)
    f_Tile_eq := (f_Tile_eq)
    d_Tile_eq := (PySem.W.fnOf "__eq__" "Tile.__eq__" (defArgs s_Tile_eq) (defBody s_Tile_eq) (defScope s_Tile_eq) .none kV_Tile_eq dc_Tile_eq pm_Tile_eq an_Tile_eq cv_Tile_eq ct_Tile_eq)
    F_Tile_eq := (fun_mk (st := s_Tile_eq) l_Tile_eq c_Tile_eq k_Tile_eq)
    b_Tile_eq := ((fun_mk (st := s_Tile_eq) l_Tile_eq c_Tile_eq k_Tile_eq).binds (ps := ["self", "other"]) fun _ _ _ _ _ _ us hl => match us, hl with | [_, _], _ => rfl)
    me_Tile_eq := (⟨a_Tile_eq, i_Tile_eq, k_Tile_eq⟩)
    f_law_box := (f_law_box)
    d_law_box := (PySem.W.fnOf "_law_box" "_law_box" (defArgs s_law_box) (defBody s_law_box) (defScope s_law_box) .none kV_law_box dc_law_box pm_law_box an_law_box cv_law_box ct_law_box)
    F_law_box := (fun_mk (st := s_law_box) l_law_box c_law_box k_law_box)
    b_law_box := ((fun_mk (st := s_law_box) l_law_box c_law_box k_law_box).binds (ps := ["_law_script", "_law_k"]) fun _ _ _ _ _ _ us hl => match us, hl with | [_, _], _ => rfl)
    g_law_box := (PySem.W.mg_of X G a_law_box)
    f_law_take := (f_law_take)
    d_law_take := (PySem.W.fnOf "_law_take" "_law_take" (defArgs s_law_take) (defBody s_law_take) (defScope s_law_take) .none kV_law_take dc_law_take pm_law_take an_law_take cv_law_take ct_law_take)
    F_law_take := (fun_mk (st := s_law_take) l_law_take c_law_take k_law_take)
    b_law_take := ((fun_mk (st := s_law_take) l_law_take c_law_take k_law_take).binds (ps := ["_law_box_here", "_law_many"]) fun _ _ _ _ _ _ us hl => match us, hl with | [_, _], _ => rfl)
    g_law_take := (PySem.W.mg_of X G a_law_take)
    f_law_digits := (f_law_digits)
    d_law_digits := (PySem.W.fnOf "_law_digits" "_law_digits" (defArgs s_law_digits) (defBody s_law_digits) (defScope s_law_digits) .none kV_law_digits dc_law_digits pm_law_digits an_law_digits cv_law_digits ct_law_digits)
    F_law_digits := (fun_mk (st := s_law_digits) l_law_digits c_law_digits k_law_digits)
    b_law_digits := ((fun_mk (st := s_law_digits) l_law_digits c_law_digits k_law_digits).binds (ps := ["_law_box_here", "_law_many"]) fun _ _ _ _ _ _ us hl => match us, hl with | [_, _], _ => rfl)
    g_law_digits := (PySem.W.mg_of X G a_law_digits)
    f_law_key := (f_law_key)
    d_law_key := (PySem.W.fnOf "_law_key" "_law_key" (defArgs s_law_key) (defBody s_law_key) (defScope s_law_key) .none kV_law_key dc_law_key pm_law_key an_law_key cv_law_key ct_law_key)
    F_law_key := (fun_mk (st := s_law_key) l_law_key c_law_key k_law_key)
    b_law_key := ((fun_mk (st := s_law_key) l_law_key c_law_key k_law_key).binds (ps := ["_law_box_here", "_law_most"]) fun _ _ _ _ _ _ us hl => match us, hl with | [_, _], _ => rfl)
    g_law_key := (PySem.W.mg_of X G a_law_key)
    f_law_numbers := (f_law_numbers)
    d_law_numbers := (PySem.W.fnOf "_law_numbers" "_law_numbers" (defArgs s_law_numbers) (defBody s_law_numbers) (defScope s_law_numbers) .none kV_law_numbers dc_law_numbers pm_law_numbers an_law_numbers cv_law_numbers ct_law_numbers)
    F_law_numbers := (fun_mk (st := s_law_numbers) l_law_numbers c_law_numbers k_law_numbers)
    b_law_numbers := ((fun_mk (st := s_law_numbers) l_law_numbers c_law_numbers k_law_numbers).binds (ps := ["_law_key_here"]) fun _ _ _ _ _ _ us hl => match us, hl with | [_], _ => rfl)
    g_law_numbers := (PySem.W.mg_of X G a_law_numbers)
    f_law_key_in := (f_law_key_in)
    d_law_key_in := (PySem.W.fnOf "_law_key_in" "_law_key_in" (defArgs s_law_key_in) (defBody s_law_key_in) (defScope s_law_key_in) .none kV_law_key_in dc_law_key_in pm_law_key_in an_law_key_in cv_law_key_in ct_law_key_in)
    F_law_key_in := (fun_mk (st := s_law_key_in) l_law_key_in c_law_key_in k_law_key_in)
    b_law_key_in := ((fun_mk (st := s_law_key_in) l_law_key_in c_law_key_in k_law_key_in).binds (ps := ["_law_numbers_here"]) fun _ _ _ _ _ _ us hl => match us, hl with | [_], _ => rfl)
    g_law_key_in := (PySem.W.mg_of X G a_law_key_in)
    f_law_told := (f_law_told)
    d_law_told := (PySem.W.fnOf "_law_told" "_law_told" (defArgs s_law_told) (defBody s_law_told) (defScope s_law_told) .none kV_law_told dc_law_told pm_law_told an_law_told cv_law_told ct_law_told)
    F_law_told := (fun_mk (st := s_law_told) l_law_told c_law_told k_law_told)
    b_law_told := ((fun_mk (st := s_law_told) l_law_told c_law_told k_law_told).binds (ps := ["_law_value"]) fun _ _ _ _ _ _ us hl => match us, hl with | [_], _ => rfl)
    g_law_told := (PySem.W.mg_of X G a_law_told)
    f_law_spoilt := (f_law_spoilt)
    d_law_spoilt := (PySem.W.fnOf "_law_spoilt" "_law_spoilt" (defArgs s_law_spoilt) (defBody s_law_spoilt) (defScope s_law_spoilt) .none kV_law_spoilt dc_law_spoilt pm_law_spoilt an_law_spoilt cv_law_spoilt ct_law_spoilt)
    F_law_spoilt := (fun_mk (st := s_law_spoilt) l_law_spoilt c_law_spoilt k_law_spoilt)
    b_law_spoilt := ((fun_mk (st := s_law_spoilt) l_law_spoilt c_law_spoilt k_law_spoilt).binds (ps := ["_law_box_here", "_law_row", "_law_other"]) fun _ _ _ _ _ _ us hl => match us, hl with | [_, _, _], _ => rfl)
    g_law_spoilt := (PySem.W.mg_of X G a_law_spoilt)
    f_law := (fa)
    d_law := (PySem.W.fnOf "law" "law" (defArgs s_law) (defBody s_law) (defScope s_law) .none kV_law dc_law pm_law an_law cv_law ct_law)
    F_law := (fun_mk (st := s_law) l_law c_law k_law)
    b_law := ((fun_mk (st := s_law) l_law c_law k_law).binds (ps := ["_law_script"]) fun _ _ _ _ _ _ us hl => match us, hl with | [_], _ => rfl)
    g_law := (PySem.W.mg_of X G a_law)
    mk_Tile := (⟨mk_Tile, a_Tile_init, i_Tile_init, kc_Tile⟩)
    bt_law := (fun s v => .of_eq rfl)
    f_NoTile := (f_NoTile)
    g_NoTile := (PySem.W.mg_of X G n_NoTile)
    x_NoTile := (x_NoTile)
    k_NoTile := (k_NoTile)
    b_NoTile := (b_NoTile)
    t_NoTile := (t_NoTile)
    f_ZoomError := (f_ZoomError)
    g_ZoomError := (PySem.W.mg_of X G n_ZoomError)
    x_ZoomError := (x_ZoomError)
    k_ZoomError := (k_ZoomError)
    b_ZoomError := (b_ZoomError)
    t_ZoomError := (t_ZoomError)
    em_NoTile_NoTile := (em_NoTile_NoTile)
  }
  exact ⟨T.d_law, T.bt_law, fun base _ _ => ok_law T⟩
end EZ
open PySem PySem.W PyProof.Rows in
set_option maxRecDepth 100000 in
set_option maxHeartbeats 0 in
theorem PySem.Challenge.cw_everyzoom_k07_tiles_as_bytes_holds : PySem.Challenge.rw_everyzoom_k07_tiles_as_bytes.Holds := by
  w_on; o_law; k_head; (case hw => w_witness2)
  k_fill
  refine EZ.walk_G (l := PySem.Challenge.rw_everyzoom_k07_tiles_as_bytes) (n := 63) (k := 11) (x := "_law_script") (sp := EZ.sp_law) rfl (by decide) rfl ⟨rfl, by decide, by decide⟩ (fun w h Y => PySem.W.kIn_of Y) ?F EZ.law_want
  case F =>
    intro w mg fa h KX G hmg
    refine' EZ.fin KX G hmg ?z_len ?z_abs ?z_min ?z_max ?z_repr ?z_isinstance ?z_all ?z_range ?z_int ?z_str ?z_bool ?z_bytes ?z_tuple ?n_DIGITS ?n_Tile ?pg_Tile ?hd_Tile ?po_Tile ?sa_Tile ?ca_Tile ?cb_Tile ?cc_Tile ?cd_Tile ?ne_Tile ?mk_Tile ?kc_Tile ?ga_Tile ?rd_Tile ?na_Tile_zoom ?na_Tile_x ?na_Tile_y ?na_Tile_key ?a_is_integer ?l_is_integer ?c_is_integer ?k_is_integer ?a_is_digits ?l_is_digits ?c_is_digits ?k_is_digits ?a_is_place ?l_is_place ?c_is_place ?k_is_place ?a_key_of ?l_key_of ?c_key_of ?k_key_of ?a_part_bits ?l_part_bits ?c_part_bits ?k_part_bits ?a_Tile_init ?i_Tile_init ?l_Tile_init ?c_Tile_init ?k_Tile_init ?a_Tile_keyed ?rc_Tile_keyed ?fi_Tile_keyed ?l_Tile_keyed ?c_Tile_keyed ?k_Tile_keyed ?a_Tile_of ?rc_Tile_of ?fi_Tile_of ?l_Tile_of ?c_Tile_of ?k_Tile_of ?a_Tile_packed ?i_Tile_packed ?l_Tile_packed ?c_Tile_packed ?k_Tile_packed ?a_Tile_eq ?i_Tile_eq ?l_Tile_eq ?c_Tile_eq ?k_Tile_eq ?a_law_box ?l_law_box ?c_law_box ?k_law_box ?a_law_take ?l_law_take ?c_law_take ?k_law_take ?a_law_digits ?l_law_digits ?c_law_digits ?k_law_digits ?a_law_key ?l_law_key ?c_law_key ?k_law_key ?a_law_numbers ?l_law_numbers ?c_law_numbers ?k_law_numbers ?a_law_key_in ?l_law_key_in ?c_law_key_in ?k_law_key_in ?a_law_told ?l_law_told ?c_law_told ?k_law_told ?a_law_spoilt ?l_law_spoilt ?c_law_spoilt ?k_law_spoilt ?a_law ?l_law ?c_law ?k_law ?n_NoTile ?x_NoTile ?k_NoTile ?b_NoTile ?t_NoTile ?n_ZoomError ?x_ZoomError ?k_ZoomError ?b_ZoomError ?t_ZoomError ?em_NoTile_NoTile
    (case z_len => first | k_is | k_exc | exact fun _ => ⟨_, rfl⟩ | rfl | decide +kernel)
    (case z_abs => first | k_is | k_exc | exact fun _ => ⟨_, rfl⟩ | rfl | decide +kernel)
    (case z_min => first | k_is | k_exc | exact fun _ => ⟨_, rfl⟩ | rfl | decide +kernel)
    (case z_max => first | k_is | k_exc | exact fun _ => ⟨_, rfl⟩ | rfl | decide +kernel)
    (case z_repr => first | k_is | k_exc | exact fun _ => ⟨_, rfl⟩ | rfl | decide +kernel)
    (case z_isinstance => first | k_is | k_exc | exact fun _ => ⟨_, rfl⟩ | rfl | decide +kernel)
    (case z_all => first | k_is | k_exc | exact fun _ => ⟨_, rfl⟩ | rfl | decide +kernel)
    (case z_range => first | k_is | k_exc | exact fun _ => ⟨_, rfl⟩ | rfl | decide +kernel)
    (case z_int => first | k_is | k_exc | exact fun _ => ⟨_, rfl⟩ | rfl | decide +kernel)
    (case z_str => first | k_is | k_exc | exact fun _ => ⟨_, rfl⟩ | rfl | decide +kernel)
    (case z_bool => first | k_is | k_exc | exact fun _ => ⟨_, rfl⟩ | rfl | decide +kernel)
    (case z_bytes => first | k_is | k_exc | exact fun _ => ⟨_, rfl⟩ | rfl | decide +kernel)
    (case z_tuple => first | k_is | k_exc | exact fun _ => ⟨_, rfl⟩ | rfl | decide +kernel)
    (case n_DIGITS => first | k_is | k_exc | exact fun _ => ⟨_, rfl⟩ | rfl | decide +kernel)
    (case n_Tile => first | k_is | k_exc | exact fun _ => ⟨_, rfl⟩ | rfl | decide +kernel)
    (case pg_Tile => first | k_is | k_exc | exact fun _ => ⟨_, rfl⟩ | rfl | decide +kernel)
    (case hd_Tile => first | k_is | k_exc | exact fun _ => ⟨_, rfl⟩ | rfl | decide +kernel)
    (case po_Tile => first | k_is | k_exc | exact fun _ => ⟨_, rfl⟩ | rfl | decide +kernel)
    (case sa_Tile => first | k_is | k_exc | exact fun _ => ⟨_, rfl⟩ | rfl | decide +kernel)
    (case ca_Tile => first | k_is | k_exc | exact fun _ => ⟨_, rfl⟩ | rfl | decide +kernel)
    (case cb_Tile => first | k_is | k_exc | exact fun _ => ⟨_, rfl⟩ | rfl | decide +kernel)
    (case cc_Tile => first | k_is | k_exc | exact fun _ => ⟨_, rfl⟩ | rfl | decide +kernel)
    (case cd_Tile => first | k_is | k_exc | exact fun _ => ⟨_, rfl⟩ | rfl | decide +kernel)
    (case ne_Tile => first | k_is | k_exc | exact fun _ => ⟨_, rfl⟩ | rfl | decide +kernel)
    (case mk_Tile => first | k_is | k_exc | exact fun _ => ⟨_, rfl⟩ | rfl | decide +kernel)
    (case kc_Tile => first | k_is | k_exc | exact fun _ => ⟨_, rfl⟩ | rfl | decide +kernel)
    (case ga_Tile => first | k_is | k_exc | exact fun _ => ⟨_, rfl⟩ | rfl | decide +kernel)
    (case rd_Tile => first | k_is | k_exc | exact fun _ => ⟨_, rfl⟩ | rfl | decide +kernel)
    (case na_Tile_zoom => first | k_is | k_exc | exact fun _ => ⟨_, rfl⟩ | rfl | decide +kernel)
    (case na_Tile_x => first | k_is | k_exc | exact fun _ => ⟨_, rfl⟩ | rfl | decide +kernel)
    (case na_Tile_y => first | k_is | k_exc | exact fun _ => ⟨_, rfl⟩ | rfl | decide +kernel)
    (case na_Tile_key => first | k_is | k_exc | exact fun _ => ⟨_, rfl⟩ | rfl | decide +kernel)
    (case a_is_integer => first | k_is | k_exc | exact fun _ => ⟨_, rfl⟩ | rfl | decide +kernel)
    (case l_is_integer => first | k_is | k_exc | exact fun _ => ⟨_, rfl⟩ | rfl | decide +kernel)
    (case c_is_integer => first | k_is | k_exc | exact fun _ => ⟨_, rfl⟩ | rfl | decide +kernel)
    (case k_is_integer => first | k_is | k_exc | exact fun _ => ⟨_, rfl⟩ | rfl | decide +kernel)
    (case a_is_digits => first | k_is | k_exc | exact fun _ => ⟨_, rfl⟩ | rfl | decide +kernel)
    (case l_is_digits => first | k_is | k_exc | exact fun _ => ⟨_, rfl⟩ | rfl | decide +kernel)
    (case c_is_digits => first | k_is | k_exc | exact fun _ => ⟨_, rfl⟩ | rfl | decide +kernel)
    (case k_is_digits => first | k_is | k_exc | exact fun _ => ⟨_, rfl⟩ | rfl | decide +kernel)
    (case a_is_place => first | k_is | k_exc | exact fun _ => ⟨_, rfl⟩ | rfl | decide +kernel)
    (case l_is_place => first | k_is | k_exc | exact fun _ => ⟨_, rfl⟩ | rfl | decide +kernel)
    (case c_is_place => first | k_is | k_exc | exact fun _ => ⟨_, rfl⟩ | rfl | decide +kernel)
    (case k_is_place => first | k_is | k_exc | exact fun _ => ⟨_, rfl⟩ | rfl | decide +kernel)
    (case a_key_of => first | k_is | k_exc | exact fun _ => ⟨_, rfl⟩ | rfl | decide +kernel)
    (case l_key_of => first | k_is | k_exc | exact fun _ => ⟨_, rfl⟩ | rfl | decide +kernel)
    (case c_key_of => first | k_is | k_exc | exact fun _ => ⟨_, rfl⟩ | rfl | decide +kernel)
    (case k_key_of => first | k_is | k_exc | exact fun _ => ⟨_, rfl⟩ | rfl | decide +kernel)
    (case a_part_bits => first | k_is | k_exc | exact fun _ => ⟨_, rfl⟩ | rfl | decide +kernel)
    (case l_part_bits => first | k_is | k_exc | exact fun _ => ⟨_, rfl⟩ | rfl | decide +kernel)
    (case c_part_bits => first | k_is | k_exc | exact fun _ => ⟨_, rfl⟩ | rfl | decide +kernel)
    (case k_part_bits => first | k_is | k_exc | exact fun _ => ⟨_, rfl⟩ | rfl | decide +kernel)
    (case a_Tile_init => first | k_is | k_exc | exact fun _ => ⟨_, rfl⟩ | rfl | decide +kernel)
    (case i_Tile_init => first | k_is | k_exc | exact fun _ => ⟨_, rfl⟩ | rfl | decide +kernel)
    (case l_Tile_init => first | k_is | k_exc | exact fun _ => ⟨_, rfl⟩ | rfl | decide +kernel)
    (case c_Tile_init => first | k_is | k_exc | exact fun _ => ⟨_, rfl⟩ | rfl | decide +kernel)
    (case k_Tile_init => first | k_is | k_exc | exact fun _ => ⟨_, rfl⟩ | rfl | decide +kernel)
    (case a_Tile_keyed => first | k_is | k_exc | exact fun _ => ⟨_, rfl⟩ | rfl | decide +kernel)
    (case rc_Tile_keyed => first | k_is | k_exc | exact fun _ => ⟨_, rfl⟩ | rfl | decide +kernel)
    (case fi_Tile_keyed => first | k_is | k_exc | exact fun _ => ⟨_, rfl⟩ | rfl | decide +kernel)
    (case l_Tile_keyed => first | k_is | k_exc | exact fun _ => ⟨_, rfl⟩ | rfl | decide +kernel)
    (case c_Tile_keyed => first | k_is | k_exc | exact fun _ => ⟨_, rfl⟩ | rfl | decide +kernel)
    (case k_Tile_keyed => first | k_is | k_exc | exact fun _ => ⟨_, rfl⟩ | rfl | decide +kernel)
    (case a_Tile_of => first | k_is | k_exc | exact fun _ => ⟨_, rfl⟩ | rfl | decide +kernel)
    (case rc_Tile_of => first | k_is | k_exc | exact fun _ => ⟨_, rfl⟩ | rfl | decide +kernel)
    (case fi_Tile_of => first | k_is | k_exc | exact fun _ => ⟨_, rfl⟩ | rfl | decide +kernel)
    (case l_Tile_of => first | k_is | k_exc | exact fun _ => ⟨_, rfl⟩ | rfl | decide +kernel)
    (case c_Tile_of => first | k_is | k_exc | exact fun _ => ⟨_, rfl⟩ | rfl | decide +kernel)
    (case k_Tile_of => first | k_is | k_exc | exact fun _ => ⟨_, rfl⟩ | rfl | decide +kernel)
    (case a_Tile_packed => first | k_is | k_exc | exact fun _ => ⟨_, rfl⟩ | rfl | decide +kernel)
    (case i_Tile_packed => first | k_is | k_exc | exact fun _ => ⟨_, rfl⟩ | rfl | decide +kernel)
    (case l_Tile_packed => first | k_is | k_exc | exact fun _ => ⟨_, rfl⟩ | rfl | decide +kernel)
    (case c_Tile_packed => first | k_is | k_exc | exact fun _ => ⟨_, rfl⟩ | rfl | decide +kernel)
    (case k_Tile_packed => first | k_is | k_exc | exact fun _ => ⟨_, rfl⟩ | rfl | decide +kernel)
    (case a_Tile_eq => first | k_is | k_exc | exact fun _ => ⟨_, rfl⟩ | rfl | decide +kernel)
    (case i_Tile_eq => first | k_is | k_exc | exact fun _ => ⟨_, rfl⟩ | rfl | decide +kernel)
    (case l_Tile_eq => first | k_is | k_exc | exact fun _ => ⟨_, rfl⟩ | rfl | decide +kernel)
    (case c_Tile_eq => first | k_is | k_exc | exact fun _ => ⟨_, rfl⟩ | rfl | decide +kernel)
    (case k_Tile_eq => first | k_is | k_exc | exact fun _ => ⟨_, rfl⟩ | rfl | decide +kernel)
    (case a_law_box => first | k_is | k_exc | exact fun _ => ⟨_, rfl⟩ | rfl | decide +kernel)
    (case l_law_box => first | k_is | k_exc | exact fun _ => ⟨_, rfl⟩ | rfl | decide +kernel)
    (case c_law_box => first | k_is | k_exc | exact fun _ => ⟨_, rfl⟩ | rfl | decide +kernel)
    (case k_law_box => first | k_is | k_exc | exact fun _ => ⟨_, rfl⟩ | rfl | decide +kernel)
    (case a_law_take => first | k_is | k_exc | exact fun _ => ⟨_, rfl⟩ | rfl | decide +kernel)
    (case l_law_take => first | k_is | k_exc | exact fun _ => ⟨_, rfl⟩ | rfl | decide +kernel)
    (case c_law_take => first | k_is | k_exc | exact fun _ => ⟨_, rfl⟩ | rfl | decide +kernel)
    (case k_law_take => first | k_is | k_exc | exact fun _ => ⟨_, rfl⟩ | rfl | decide +kernel)
    (case a_law_digits => first | k_is | k_exc | exact fun _ => ⟨_, rfl⟩ | rfl | decide +kernel)
    (case l_law_digits => first | k_is | k_exc | exact fun _ => ⟨_, rfl⟩ | rfl | decide +kernel)
    (case c_law_digits => first | k_is | k_exc | exact fun _ => ⟨_, rfl⟩ | rfl | decide +kernel)
    (case k_law_digits => first | k_is | k_exc | exact fun _ => ⟨_, rfl⟩ | rfl | decide +kernel)
    (case a_law_key => first | k_is | k_exc | exact fun _ => ⟨_, rfl⟩ | rfl | decide +kernel)
    (case l_law_key => first | k_is | k_exc | exact fun _ => ⟨_, rfl⟩ | rfl | decide +kernel)
    (case c_law_key => first | k_is | k_exc | exact fun _ => ⟨_, rfl⟩ | rfl | decide +kernel)
    (case k_law_key => first | k_is | k_exc | exact fun _ => ⟨_, rfl⟩ | rfl | decide +kernel)
    (case a_law_numbers => first | k_is | k_exc | exact fun _ => ⟨_, rfl⟩ | rfl | decide +kernel)
    (case l_law_numbers => first | k_is | k_exc | exact fun _ => ⟨_, rfl⟩ | rfl | decide +kernel)
    (case c_law_numbers => first | k_is | k_exc | exact fun _ => ⟨_, rfl⟩ | rfl | decide +kernel)
    (case k_law_numbers => first | k_is | k_exc | exact fun _ => ⟨_, rfl⟩ | rfl | decide +kernel)
    (case a_law_key_in => first | k_is | k_exc | exact fun _ => ⟨_, rfl⟩ | rfl | decide +kernel)
    (case l_law_key_in => first | k_is | k_exc | exact fun _ => ⟨_, rfl⟩ | rfl | decide +kernel)
    (case c_law_key_in => first | k_is | k_exc | exact fun _ => ⟨_, rfl⟩ | rfl | decide +kernel)
    (case k_law_key_in => first | k_is | k_exc | exact fun _ => ⟨_, rfl⟩ | rfl | decide +kernel)
    (case a_law_told => first | k_is | k_exc | exact fun _ => ⟨_, rfl⟩ | rfl | decide +kernel)
    (case l_law_told => first | k_is | k_exc | exact fun _ => ⟨_, rfl⟩ | rfl | decide +kernel)
    (case c_law_told => first | k_is | k_exc | exact fun _ => ⟨_, rfl⟩ | rfl | decide +kernel)
    (case k_law_told => first | k_is | k_exc | exact fun _ => ⟨_, rfl⟩ | rfl | decide +kernel)
    (case a_law_spoilt => first | k_is | k_exc | exact fun _ => ⟨_, rfl⟩ | rfl | decide +kernel)
    (case l_law_spoilt => first | k_is | k_exc | exact fun _ => ⟨_, rfl⟩ | rfl | decide +kernel)
    (case c_law_spoilt => first | k_is | k_exc | exact fun _ => ⟨_, rfl⟩ | rfl | decide +kernel)
    (case k_law_spoilt => first | k_is | k_exc | exact fun _ => ⟨_, rfl⟩ | rfl | decide +kernel)
    (case a_law => first | k_is | k_exc | exact fun _ => ⟨_, rfl⟩ | rfl | decide +kernel)
    (case l_law => first | k_is | k_exc | exact fun _ => ⟨_, rfl⟩ | rfl | decide +kernel)
    (case c_law => first | k_is | k_exc | exact fun _ => ⟨_, rfl⟩ | rfl | decide +kernel)
    (case k_law => first | k_is | k_exc | exact fun _ => ⟨_, rfl⟩ | rfl | decide +kernel)
    (case n_NoTile => first | k_is | k_exc | exact fun _ => ⟨_, rfl⟩ | rfl | decide +kernel)
    (case x_NoTile => first | k_is | k_exc | exact fun _ => ⟨_, rfl⟩ | rfl | decide +kernel)
    (case k_NoTile => first | k_is | k_exc | exact fun _ => ⟨_, rfl⟩ | rfl | decide +kernel)
    (case b_NoTile => first | k_is | k_exc | exact fun _ => ⟨_, rfl⟩ | rfl | decide +kernel)
    (case t_NoTile => first | k_is | k_exc | exact fun _ => ⟨_, rfl⟩ | rfl | decide +kernel)
    (case n_ZoomError => first | k_is | k_exc | exact fun _ => ⟨_, rfl⟩ | rfl | decide +kernel)
    (case x_ZoomError => first | k_is | k_exc | exact fun _ => ⟨_, rfl⟩ | rfl | decide +kernel)
    (case k_ZoomError => first | k_is | k_exc | exact fun _ => ⟨_, rfl⟩ | rfl | decide +kernel)
    (case b_ZoomError => first | k_is | k_exc | exact fun _ => ⟨_, rfl⟩ | rfl | decide +kernel)
    (case t_ZoomError => first | k_is | k_exc | exact fun _ => ⟨_, rfl⟩ | rfl | decide +kernel)
    (case em_NoTile_NoTile => first | k_is | k_exc | exact fun _ => ⟨_, rfl⟩ | rfl | decide +kernel)
