import PyProof.Rows.All
import Wide.All
import OpenK.AllK
import Wide.FinOn
import HandS.ForMost
import HandS.More
import HandS.WordsExc
import HandS.Defaults
import HandS.TupAny
import HandS.Deep
import HandS.Style
import HandS.Star
import HandS.DictComp
import HandS.Conv
import HandS.Flow
import HandS.HeadEnd
import HandS.Strs
import HandS.Rev
import KE.SortData
import PyProof.ReprRoads
import HandS.DeepEq
import KE.DataCmp
import HandS.Small
import KE.GoesEnum
import KE.GoesZip
import KE.KDictZip
import KE.KTurns
import HandS.IsInst
import HandS.Finally
import PySem.Challenge.RW_calledbest_k16_whole_nested_exactly_by_e
import HandS.Head0
import HandS.Head1
import HandS.Head2
import HandS.HeadHook1
import HandS.HeadHook2
section
set_option Elab.async false
set_option linter.all false
set_option maxRecDepth 100000
/-! DL0: a def's promise where no text of a container is being made (the guards of repr are known). -/
namespace DL
open PySem PySem.Spec PyProof.Rows L2

/-- as HandS's FnOk, asked only where the guards are known to be none -/
structure FnG (P : Program) (w : World) (K : PySem.W.Frag) (mg : Str → Option Value) (base : Heap) (CX : CXT) (k : Nat) (f : Addr) (fd : FuncData) (ps : List Str) (sp : Sp) : Prop where
  ln : ∀ vs H Q E, sp vs H Q E → vs.length = ps.length
  go : ∀ (A : Around) (outer : List PySem.Env) (s : Shared) (H : Hp) (args : Args) (us : List Value) (vs : List V) (Q : VK) (E : XK), A.guards = some [] → Room k A → Env0 P w K mg base A outer s H →
    BindsTo s fd args (ps.zip us) → Vals vs us → sp vs H Q E → codeAny (model P w) A (.call (.ref f) args) (CR CX outer P w H s Q E) s

section
variable {X : Cx} {CX : CXT} {k : Nat} {f : Addr} {fd : FuncData} {ps : List Str} {sp : Sp} {dvs : List V} {ds : List Value} {E : XK} {x : Str} {p pos : Pos} {e : Expr} {es : List Expr} {t : TA}
theorem go_fn (gd : X.A.guards = some []) (G : FnG X.prog X.w X.K X.mg X.base CX k f fd ps sp) (room : Room k X.A) (bd : Binds X.K fd ps ds) (dv : Vals dvs ds) (pass : Passes CX X E) {pn : List (Addr × Obj)} {st : L2.St} {H : Hp} {s : Shared} {Q : VK} {us : List Value} {vs : List V}
    (inv : Inv X pn st H s) (rel : Vals vs us) (want : sp (vs ++ dvs) H Q E) : wpAny (model X.prog X.w) X.A (call (.ref f) us) (EP X pn st Q) X.xe s := by
  have both : Vals (vs ++ dvs) (us ++ ds) := Vals.append rel dv
  have len : (us ++ ds).length = ps.length := both.length ▸ G.ln _ _ _ _ want
  have ran := G.go X.A X.stack s H ⟨us, []⟩ (us ++ ds) (vs ++ dvs) Q E gd room inv.env0 (bd s us inv.kIn len) both want
  refine wpAny_call (codeAny_mono ran fun res s' got => ?_)
  match res, got with
  | .error e, got => exact pass pn st H s e s' inv got
  | .ok (.ret u), got => exact inv.after got
  | .ok .next, got => exact got.elim
  | .ok .brk, got => exact got.elim
  | .ok .cont, got => exact got.elim
theorem pe_callG (gd : X.A.guards = some []) (G : FnG X.prog X.w X.K X.mg X.base CX k f fd ps sp) (room : Room k X.A) (gl : Gl X x) (at_ : X.mg x = some (.ref f)) (keep : PySem.W.keepIn X.K (.ref f) = true) (bd : Binds X.K fd ps ds) (dv : Vals dvs ds) (pass : Passes CX X E)
    (args : PA X (e :: es) t) (nd : (x == ("__debug__" : Str)) = false := by decide) (h1 : starEach (e :: es) X.env = (false, eval e X.env) :: starEach es X.env := by rfl) (h2 : (backTo pos (starEach es X.env)).any (·.1) = false := by rfl) :
    PE X (.Call (.Name x p) (e :: es) [] pos) (tCall sp dvs E t) := by
  constructor
  intro pn s st H Q inv want
  refine wpAny_Call_Name_kw (ld_glob inv gl at_ (PySem.W.callWith_K (h₀ := X.base) inv.ok.mod.kin keep ?_ h1 h2) nd)
  exact thn (args.run pos pn s st H _ inv want) fun us s1 ⟨vs, H1, inv1, rel, q⟩ => ⟨inv1.kIn, go_fn gd G room bd dv pass inv1 rel q⟩
theorem pe_callG0 (gd : X.A.guards = some []) (G : FnG X.prog X.w X.K X.mg X.base CX k f fd ps sp) (room : Room k X.A) (gl : Gl X x) (at_ : X.mg x = some (.ref f)) (keep : PySem.W.keepIn X.K (.ref f) = true) (bd : Binds X.K fd ps ds) (dv : Vals dvs ds) (pass : Passes CX X E)
    (nd : (x == ("__debug__" : Str)) = false := by decide) : PE X (.Call (.Name x p) [] [] pos) (tCall sp dvs E tNil) := by
  constructor
  intro pn s st H Q inv want
  exact wpAny_Call_Name_kw (ld_glob inv gl at_ (PySem.W.callWith_K0 inv.kIn keep (go_fn (us := []) gd G room bd dv pass inv .nil want)) nd)
end

/-- THE RULE for a def, the guards known -/
theorem FunD.okG {P : Program} {w : World} {K : PySem.W.Frag} {mg : Str → Option Value} {base : Heap} {x qual : Str} {params : Arguments} {body : List Stmt} {scope : Scope} {dvs : List V} {kws : List (Str × V)} {f : Addr} {fd : FuncData} {CX : CXT} {N ps : List Str} {k : Nat} {sp : Sp}
    (F : FunD K x qual params body scope dvs kws f fd) (S : FnScope N ps scope) (ln : ∀ vs H Q E, sp vs H Q E → vs.length = ps.length)
    (bodyOk : ∀ (cdv : Value) (A : Around) (outer : List PySem.Env) (s : Shared) (H : Hp) (vs : List V) (Q : VK) (E : XK), A.guards = some [] → Room k (A.deeper (envOfC qual scope s.heap.objs.size f cdv)) → sp vs H Q E →
      ∃ t, PSs (cxOf CX P w K mg base N qual scope f cdv A outer s H E) body t ∧ t { nx := fun _ H' => Q .non H', rt := Q } (L2.start N vs) H) : FnG P w K mg base CX (k + 1) f fd ps sp := by
  obtain ⟨oc, od, dV, kV, doc, pm, an, cdv, ct, osl, efd, look, code, _⟩ := F.ex
  subst efd
  refine ⟨ln, fun A outer s H args us vs Q E gd room e0 bd rel want => ?_⟩
  have kin : K.In s.heap := e0.mod.kin.keeps fun b o z => (e0.bs b o z).1
  have nolim : s.heap.NoLimit := e0.mod.nolimit.keeps fun b o z => (e0.bs b o z).1
  have kinds : ∀ q ∈ ps.zip us, scope.names.lookup q.1 = some .local ∨ (scope.names.lookup q.1 = some .cell ∧ ((cellsFrom (s.heap.objs.size + 1) scope.names []).lookup q.1).isSome = true) := fun q hq =>
    (S.par q.1 (List.of_mem_zip (a := q.1) (b := q.2) hq).1).imp id fun c => ⟨c, PySem.W.cellsFrom_some _ _ _ (.inl c)⟩
  refine codeAny_call_function room.depth (kin _ _ look) rfl S.co S.gen rfl (PySem.W.codeRec_of kin code) (bd _ _ _ _ (wpAny_newFunctionEnv_cells S.kind kinds fun env ee s1 inC => ?_))
  subst ee
  refine ⟨nolim.keeps inC.toInCall.keep, codeAny_func ?_⟩
  obtain ⟨t, derived, reads⟩ := bodyOk cdv A outer s H vs Q E gd (room.deeper _) want
  have inv : Inv (cxOf CX P w K mg base N qual scope f cdv A outer s H E) [] (L2.start N vs) H s1 := inv_start S room.hd e0 (ln _ _ _ _ want) rel inC
  refine wpAny_mono (derived.run [] s1 (L2.start N vs) H _ inv reads) (fun fl s' got => ?_) fun _ _ z => z
  match fl, got with
  | .ret u, ⟨v, _, H', J, rv, q⟩ => exact ⟨v, H', J.os, J.bare, J.base, J.hok, rv, q⟩
  | .next, ⟨_, H', J, q⟩ => exact ⟨V.non, H', J.os, J.bare, J.base, J.hok, rfl, q⟩
  | .brk, ⟨_, _, _, q⟩ => exact q.elim
  | .cont, ⟨_, _, _, q⟩ => exact q.elim

/-- the script's list, as it stands for good -/
def Scr (K : PySem.W.Frag) (H : Hp) (a : Addr) (ns : List Int) : Prop := (∃ o, H a = some (.frz o (.lst (ns.map V.int)))) ∨ SqL K (fun _ => none) a (ns.map V.int)
theorem Scr.sq {K : PySem.W.Frag} {H : Hp} {a : Addr} {ns : List Int} (h : Scr K H a ns) : SqL K H a (ns.map V.int) := by
  rcases h with ⟨o, h⟩ | (h | ⟨o, h⟩) | h
  · exact .inl (.inr ⟨o, h⟩)
  · cases h
  · cases h
  · exact .inr h
/-- the law's call, from nothing but the script -/
theorem law_callG {P : Program} {w : World} {K : PySem.W.Frag} {mg mb : Str → Option Value} {CX : CXT} {k : Nat} {fa a : Addr} {fd : FuncData} {x : Str} {sp : Sp} {s1 : Shared} {vs : List Value} {ns : List Int}
    (kin : K.In s1.heap) (ng : s1.heap.Ns mainGlobals mg) (nb : s1.heap.Ns builtinsNs mb) (boot : ∀ y : Str, y ≠ "__name__" → mb y = bootBuiltins y) (nolim : s1.heap.NoLimit) (gens : s1.gens = #[])
    (obj : s1.heap.get? a = some { cls := .type "list", data := .seq vs.toArray }) (cells : IntsAre vs ns) (len : ns.length ≤ sizeLine) (room : Room k callerA)
    (F : ∀ base : Heap, K.In base → base.Ns mainGlobals mg → FnG P w K mg base CX k fa fd [x] sp) (bd : ∀ (s : Shared) (u : Value), BindsTo s fd ⟨[u], []⟩ [(x, u)])
    (want : ∀ H : Hp, (∀ b, b ≠ a → H b = none) → Scr K H a ns → sp [.ref a] H (fun v _ => v = .bl true) fun _ _ _ => False)
    (noX : ∀ H e s', CX [] H s1 (fun _ _ _ => False) e s' → False) :
    codeAny (model P w) callerA (.call (.ref fa) ⟨[.ref a], []⟩) (fun r s' => r = .ok (.ret (.bool true)) ∧ OldK s1.heap s'.heap ∧ s'.os = s1.os ∧ AllBare s'.gens) s1 := by
  have rv := vals_ints cells
  let ob : Obj := { cls := .type "list", data := .seq vs.toArray }
  have core : ∀ H : Hp, (∀ b, b ≠ a → H b = none) → (H a = none ∨ H a = some (.frz ob (.lst (ns.map V.int))) ∧ K.lookup a = none) → Scr K H a ns →
      codeAny (model P w) callerA (.call (.ref fa) ⟨[.ref a], []⟩) (fun r s' => r = .ok (.ret (.bool true)) ∧ OldK s1.heap s'.heap ∧ s'.os = s1.os ∧ AllBare s'.gens) s1 := by
    intro H Hn Ha hS
    have hok : HOk P w H s1.heap := fun b o hb => by
      by_cases eb : b = a
      · subst eb
        rcases Ha with z | ⟨z, _⟩
        · rw [z] at hb; cases hb
        · rw [z] at hb
          cases hb
          exact ⟨obj, by rw [List.length_map]; exact len, vs, 0, rv, obj⟩
      · rw [Hn b eb] at hb; cases hb
    have plainD : ∀ {b : Addr} {o : Obj} {es : Array DictEntry} {ep : Nat}, s1.heap.get? b = some o → o.data = .dict es ep → H b = none := fun {b o es ep} h1 h2 => Hn b fun eb => by
      subst eb
      rw [obj] at h1
      cases h1
      cases h2
    have nsK : ∀ {b : Addr} {m : Str → Option Value}, s1.heap.Ns b m → (hidT s1.heap H).Ns b m := fun {b m} ⟨o, es, ep, h1, h2, r⟩ => ⟨o, es, ep, hidT_get h1 (plainD h1 h2), h2, r⟩
    have kinB : K.In (hidT s1.heap H) := fun b o hb => hidT_get (kin b o hb) (by
      by_cases eb : b = a
      · rcases Ha with z | ⟨_, z⟩
        · rw [eb]; exact z
        · rw [eb, z] at hb; cases hb
      · exact Hn b eb)
    have md : Mod K mg (hidT s1.heap H) := ⟨kinB, nsK ng, ⟨mb, nsK nb, boot⟩, let ⟨mc, l1, l2⟩ := nolim; ⟨mc, nsK l1, l2⟩⟩
    have noB : ∀ (b : Addr) (q : b ∈ ([] : List Addr)), False := fun _ q => nomatch q
    have e0 : Env0 P w K mg (hidT s1.heap H) callerA [] s1 H := ⟨rfl, md, fun _ _ z => of_hidT z, Nat.le_of_eq (hidT_size _ _), trivial, fun b hb => (noB b hb).elim, hok, .of_eq gens⟩
    have ran := (F _ kinB (nsK ng)).go callerA [] s1 H ⟨[.ref a], []⟩ [.ref a] [.ref a] _ _ rfl room e0 (bd s1 (.ref a)) (.cons rfl .nil) (want H Hn hS)
    refine codeAny_mono ran fun res s' got => ?_
    match res, got with
    | .error e, got => exact (noX H e s' got).elim
    | .ok .next, got => exact False.elim got
    | .ok .brk, got => exact False.elim got
    | .ok .cont, got => exact False.elim got
    | .ok (.ret u), ⟨v, H', os, bare, un, hok', rel, q⟩ =>
      have q : v = .bl true := q
      subst q
      obtain rfl : u = Value.bool true := rel
      refine ⟨rfl, OldK.of_keep fun b o hb => ?_, os, bare⟩
      by_cases eb : b = a
      · subst eb
        rcases Ha with z | ⟨z, _⟩
        · exact un.keep b o hb z (fun q => noB b q) (fun q => noB b q)
        · have z := hok' b _ (un.frzs b ob _ z)
          rw [obj] at hb
          cases hb
          exact z.1
      · exact un.keep b o hb (Hn b eb) (fun q => noB b q) (fun q => noB b q)
  cases look : K.lookup a with
  | none => exact core (fun b => if b = a then some (.frz ob (.lst (ns.map V.int))) else none) (fun b h => if_neg h) (.inr ⟨if_pos rfl, look⟩) (.inl ⟨ob, if_pos rfl⟩)
  | some o =>
    have same := kin a o look
    rw [obj] at same
    cases same
    exact core (fun _ => none) (fun _ _ => rfl) (.inl rfl) (.inr (.inr ⟨_, vs.toArray, _, look, rfl, rfl, rfl, by rw [List.size_toArray, cells.length]; exact len, by simpa using rv⟩))
/-- a law over a head by facts -/
theorem walk_ofG {l : PySem.W.OpenLaw} {n k : Nat} {q : Program} {loose : List Str} {XP : (Str → Option Value) → Heap → Prop} {YP : World → Heap → Prop} {d : DefRec} {CX : CXT} {x : Str}
    (most : l.most = some n) (small : n ≤ sizeLine) (nodef : d.params.defaults = []) (room : Room k callerA)
    (F : ∀ (w : World) (mg : Str → Option Value) (fa : Addr) (h : Heap), YP w h → h.Ns mainGlobals mg → mg d.name = some (.ref fa) →
      ∃ (K : PySem.W.Frag) (fd : FuncData) (sp : Sp), K.In h ∧ (∀ (s : Shared) (u : Value), BindsTo s fd ⟨[u], []⟩ [(x, u)]) ∧
        (∀ (H : Hp) (a : Addr) (ns : List Int), ns.length ≤ n → (∀ b, b ≠ a → H b = none) → Scr K H a ns → sp [.ref a] H (fun v _ => v = .bl true) fun _ _ _ => False) ∧
        ∀ base : Heap, K.In base → base.Ns mainGlobals mg → FnG l.prog w K mg base CX k fa fd [x] sp)
    (noX : ∀ (H : Hp) (s : Shared) (e : Value) (s' : Shared), CX [] H s (fun _ _ _ => False) e s' → False) :
    PySem.W.WalkO q loose XP YP l.row.toRowW d [] (fun f vs => PySem.call f vs) := by
  refine Att.attach_call most nodef fun w s0 s1 mg mb fa o pm cd doc a vs ns G Y h1 h2 h3 h4 obj cells len gens => ?_
  obtain ⟨K, fd, sp, kin, bd, want, fns⟩ := F w mg fa _ Y G.T.g h4
  exact law_callG kin G.T.g G.T.b G.T.builtins G.T.nolimit gens obj cells (Nat.le_trans len small) room fns bd (fun H Hn hS => want H a ns len Hn hS) fun H e s' => noX H s1 e s'
end DL
end
section
set_option Elab.async false
set_option linter.all false
set_option maxRecDepth 100000
set_option maxHeartbeats 4000000
/-! DLT: tuples that are known to the object (no dict of their own), so that their methods may be called. -/
namespace DL
open PySem PySem.Spec L2 HT

/-- a known tuple -/
def TpAt (H : Hp) (a : Addr) (xs : List V) : Prop := ∃ o : Obj, o.dict = none ∧ H a = some (.frz o (.tup xs))
theorem TpAt.sq {K : PySem.W.Frag} {H : Hp} {a : Addr} {xs : List V} (h : TpAt H a xs) : SqT K H a xs := by
  obtain ⟨o, _, e⟩ := h
  exact .inl (.inr ⟨o, e⟩)
/-- what follows a new known tuple -/
def NewT (xs : List V) (H : Hp) (Q : VK) : Prop := ∀ (p : Addr) (o : Obj), o.dict = none → H p = none → Q (.ref p) (upd H p (.frz o (.tup xs)))
section
variable {X : Cx} {pins : List (Addr × Obj)} {σ : L2.St} {H : Hp} {s : Shared}
theorem ep_tup {xs : List V} {its : List Value} {Q : VK} (I : Inv X pins σ H s) (r : Vals xs its) (hz : xs.length ≤ sizeLine) (q : NewT xs H Q) :
    EP X pins σ Q (.ref s.heap.objs.size) { s with heap := s.heap.push { cls := .type "tuple", data := .seq its.toArray } } :=
  ⟨.ref s.heap.objs.size, upd H s.heap.objs.size (.frz { cls := .type "tuple", data := .seq its.toArray } (.tup xs)),
    I.laid (t' := s.toks) (fun b u e => Heap.get?_push_of_some _ e) (Nat.le_refl _)
      (show ObjOk X.prog X.w _ _ _ (.frz _ (.tup xs)) from ⟨Heap.get?_push_size _ rfl, hz, its, r, PyProof.Rows.IsTup.new _ _⟩), rfl, q _ _ rfl (I.hok.fresh (Nat.le_refl _))⟩
end
section
variable {X : Cx} {e : Expr} {es : List Expr} {te : TE} {t : TA} {pos : Pos}
def tTupK (t : TA) : TE := fun σ H Q => t σ H fun xs H1 => xs.length ≤ sizeLine ∧ NewT xs H1 Q
theorem pe_tupK {x1} (h : PA X es t) : PE X (.Tuple es x1 pos) (tTupK t) :=
  ⟨fun pins s σ H Q I hq => wpAny_Tuple_spliced (thn (h.run pos pins s σ H _ I hq) fun us s1 ⟨xs, H1, I1, r, z, q⟩ => ⟨by rw [← r.length]; exact z, ep_tup I1 r z q⟩)⟩
/-- t + u -/
def rCatK (K : PySem.W.Frag) : R2 := fun x y H Q => ∃ a b xs ys, x = .ref a ∧ y = .ref b ∧ SqT K H a xs ∧ SqT K H b ys ∧ xs.length + ys.length ≤ sizeLine ∧
  (xs = [] → Q (.ref b) H) ∧ (xs ≠ [] → ys = [] → Q (.ref a) H) ∧ (xs ≠ [] → ys ≠ [] → NewT (xs ++ ys) H Q)
theorem op_catK : OpR X (binaryOp .Add) (rCatK X.K) := by
  intro pins s σ H x y v u Q I rx ry h
  obtain ⟨a, b, xs, ys, rfl, rfl, ha, hb, hz, q0, q1, q2⟩ := h
  cases rx
  cases ry
  obtain ⟨its, r1, p1, _⟩ := I.tuple ha
  obtain ⟨its2, r2, p2, _⟩ := I.tuple hb
  by_cases hx : xs = []
  · subst hx
    cases r1
    exact cat_tup0 p1 p2 ⟨.ref b, H, I, rfl, q0 rfl⟩
  · exact HT.cat_tup p1 p2 (fun z => hx (r1.nil_iff.mp z)) (fun z => ⟨.ref a, H, I, rfl, q1 hx (r2.nil_iff.mp z)⟩)
      (fun z => ep_tup I (r1.append r2) (by rw [List.length_append]; exact hz) (q2 hx fun w => z (r2.nil_iff.mpr w))) (by rw [← r1.length, ← r2.length]; exact hz)
/-- t[lo:hi] -/
def rSlK (K : PySem.W.Frag) : V → Option Int → Option Int → Hp → VK → Prop := fun x lo hi H Q => ∃ a xs, x = .ref a ∧ SqT K H a xs ∧
  (HT.sIx xs.length 0 lo = 0 ∧ HT.sIx xs.length xs.length hi = xs.length → Q (.ref a) H) ∧ (¬ (HT.sIx xs.length 0 lo = 0 ∧ HT.sIx xs.length xs.length hi = xs.length) → NewT (cutV xs lo hi) H Q)
theorem sl_tupK : SlR X (rSlK X.K) := by
  intro pins s σ H x v vl vu lo hi sl Q I rx hs pl pu h
  obtain ⟨a, xs, rfl, hx, q1, q2⟩ := h
  cases rx
  obtain ⟨its, r, ht, hz⟩ := I.tuple hx
  have hlen : its.toArray.size = xs.length := by rw [List.size_toArray]; exact r.length.symm
  refine ⟨"tuple", _, PyProof.Rows.slot_tuple_getitem.lookup, ht.typeIs, ?_⟩
  by_cases hw : HT.sIx xs.length 0 lo = 0 ∧ HT.sIx xs.length xs.length hi = xs.length
  · exact getItem_tuple_whole ht hs pl pu (by rw [hlen]; exact hw) ⟨.ref a, H, I, rfl, q1 hw⟩
  · refine HT.getItem_tuple_cut ht hs pl pu (by rw [hlen]; exact hw) ?_ (by rw [hlen]; exact hz)
    rw [hlen]
    exact ep_tup I ((r.drop (HT.sIx xs.length 0 lo)).take (HT.sIx xs.length xs.length hi - HT.sIx xs.length 0 lo)) (Nat.le_trans (cutV_length xs lo hi) hz) (q2 hw)
/-- tuple(x), x a list or a tuple -/
def rTupleK (K : PySem.W.Frag) : List V → Hp → VK → Prop := fun xs H Q => ∃ p ys, xs = [.ref p] ∧ ((SqL K H p ys ∧ NewT ys H Q) ∨ (SqT K H p ys ∧ Q (.ref p) H))
theorem call_tupleK : CallR X (.type "tuple") (rTupleK X.K) := by
  intro pins s σ H xs us Q I r h
  obtain ⟨p, ys, rfl, h⟩ := h
  obtain ⟨u, rfl, rx⟩ := vals1 r
  cases rx
  rcases h with ⟨hq, q⟩ | ⟨hq, q⟩
  · obtain ⟨its, r', pl, hz⟩ := I.list hq
    have hlen := r'.length
    refine call_tuple_list pl.isList (fun h' kp => ?_) (by simp only [List.size_toArray] <;> omega)
    have I1 : Inv X pins σ H { s with heap := h' } := I.kept (t' := s.toks) kp
    exact ep_tup I1 r' hz q
  · obtain ⟨its, r', pl, hz⟩ := I.tuple hq
    exact call_tuple_same pl ⟨.ref p, H, I, rfl, q⟩
/-- tuple(range(..)) -/
def tTupRgK (te : L2.St → Hp → (Int → Int → Hp → Prop) → Prop) : TE := fun σ H Q => te σ H fun a b H1 => RgOk a b ∧ NewT (rgV a b) H1 Q
theorem pe_tupRgK {te : L2.St → Hp → (Int → Int → Hp → Prop) → Prop} {p pos : Pos} (hc : X.calm = true) (hg : Gl X "tuple") (hm : X.mg "tuple" = none) (he : PRg X e te) (na : starEach [e] X.env = (false, eval e X.env) :: starEach [] X.env := by rfl) : PE X (.Call (.Name "tuple" p) [e] [] pos) (tTupRgK te) := by
  refine ⟨fun pins s σ H Q I h => ?_⟩
  refine PyProof.Rows.Call_ (ld_blt I hg hm PyProof.Rows.boot_tuple (PyProof.Rows.callWith_type1 (PyProof.Rows.args_cons (thn (he pins s σ H _ I h) fun x s1 ⟨r, a, b, t, u, v, H1, ex, hr, I1, ok, q⟩ => PyProof.Rows.args_nil ?_) na) na))
  subst ex
  obtain ⟨b1, b2, b3, b4, b5⟩ := ok
  refine call_tuple_range (n := (b - a).toNat) (I1.ok.hd hc) hr (small_one b1 b2 b3 b4) (PyProof.Rows.rangeSize_nat a b) b5 fun h' tk acc hk hi => ?_
  have I2 : Inv X pins σ H1 { s1 with heap := h', toks := tk } := I1.kept hk
  have := ep_tup (Q := Q) I2 (vals_rg hi) (by rw [rgV_length, sizeLine_eq]; omega) q
  rw [Array.toArray_toList] at this
  exact this
end

/-! ### methods of a known tuple -/
section
variable {X : Cx} {pins : List (Addr × Obj)} {σ : L2.St} {H : Hp} {s : Shared} {o e : Expr} {es : List Expr} {to : TE} {t : TA} {name : Str} {apos cpos : Pos} {id : String} {r : V → List V → Hp → VK → Prop}
theorem TpAt.is {a : Addr} {xs : List V} (h : TpAt H a xs) (I : Inv X pins σ H s) : s.TypeIs (.ref a) "tuple" ∧ ∀ b, (.ref a : Value) = .ref b → ∃ ob, s.heap.get? b = some ob ∧ ob.dict = none := by
  obtain ⟨ob, hd, e⟩ := h
  obtain ⟨h1, _, its, _, ob', h2, hc, _⟩ := (show ObjOk X.prog X.w H s.heap a (.frz ob (.tup xs)) from I.hok a _ e)
  rw [h1] at h2; cases h2
  exact ⟨⟨ob, h1, hc⟩, fun b z => by cases z; exact ⟨ob, h1, hd⟩⟩
def tTM (r : V → List V → Hp → VK → Prop) (to : TE) (t : TA) : TE := fun σ H Q => to σ H fun x H1 => (∃ a xs, x = .ref a ∧ TpAt H1 a xs) ∧ t σ H1 fun xs H2 => r x xs H2 Q
theorem pe_tm (pa : PlainAttrs "tuple") (slot : Slot "tuple" name id) (hty : typeOf (.builtin id) = pure (.type "method_descriptor")) (hm : MtR X id r) (ho : PE X o to) (ha : PA X (e :: es) t)
    (hbase : attributeBase o name X.env (eval o X.env) = eval o X.env := by rfl)
    (hfew : ((backTo cpos (starEach (e :: es) X.env)).all (fun x => !x.1) && (backToKw cpos (keywordEach [] X.env)).all (fun x => x.1.isSome)
      && decide ((e :: es).length + ([] : List Keyword).length + (if ([] : List Keyword).isEmpty then 0 else 1) < 30)) = true := by rfl)
    (hline : (apos.endLine == cpos.line) = true := by rfl) (hs : starEach (e :: es) X.env = (false, eval e X.env) :: starEach es X.env := by rfl) (hplain : (backTo cpos (starEach es X.env)).any (·.1) = false := by rfl) :
    PE X (.Call (.Attribute o name apos) (e :: es) [] cpos) (tTM r to t) := by
  refine ⟨fun pins s σ H Q I h => ?_⟩
  refine wpAny_Call_method_late hbase hfew hline rfl (thn (ho.run pins s σ H _ I h) fun v s1 ⟨x, H1, I1, r1, ⟨a, ws, ex, ta⟩, q1⟩ => ?_)
  subst ex
  cases (show v = .ref a from r1)
  obtain ⟨h1, h2⟩ := ta.is I1
  refine ⟨"tuple", id, pa, slot, hty, h1, h2, ?_⟩
  have hA := ha.run cpos pins s1 σ H1 _ I1 q1
  rw [hs] at hA ⊢
  refine Calls.callWith_builtin (by show (false || (backTo cpos (starEach es X.env)).any (·.1)) = false; rw [hplain] <;> rfl) (Calls.evalArgs_plain ?_)
  exact thn hA fun us s2 ⟨vs, H2, I2, r2, q2⟩ => hm pins s2 σ H2 _ vs _ us Q I2 r1 r2 q2
end
end DL
end
section
set_option Elab.async false
set_option linter.all false
set_option maxRecDepth 100000
/-! DL1: data in slots; the heap hidden. Definitions, stability. -/
namespace DL
open PySem PySem.Spec L2

abbrev D := PyData
def keyD : Key → D
  | .inl i => .int i
  | .inr x => .str x

/-- a dict that is tracked at a: its keys and values, in order -/
def DicAt (H : Hp) (a : Addr) (ks : List D) (vs : List V) : Prop :=
  ∃ l : List (Key × V), Rd H a (.dK l) ∧ ks = l.map (fun p => keyD p.1) ∧ vs = l.map (·.2)
/-- the same, of a dict that may be written -/
def DicW (H : Hp) (a : Addr) (ks : List D) (vs : List V) : Prop :=
  ∃ l : List (Key × V), H a = some (.dK l) ∧ ks = l.map (fun p => keyD p.1) ∧ vs = l.map (·.2)
theorem DicW.r {H : Hp} {a : Addr} {ks : List D} {vs : List V} (h : DicW H a ks vs) : DicAt H a ks vs := by
  obtain ⟨l, h, r⟩ := h
  exact ⟨l, .of h, r⟩

/-- the lists and dicts that are read alone from now on -/
abbrev Fz := Addr → Prop

mutual
inductive Rp (K : PySem.W.Frag) (H : Hp) (F : Fz) : D → V → Prop
  | non : Rp K H F .none .non
  | bl (b : Bool) : Rp K H F (.bool b) (.bl b)
  | int (i : Int) : Rp K H F (.int i) (.int i)
  | str (x : Str) : Rp K H F (.str x) (.str x)
  | tup {a : Addr} {xs : List V} {ds : List D} : TpAt H a xs → RpL K H F ds xs → Rp K H F (.tuple ds) (.ref a)
  | lst {a : Addr} {xs : List V} {ds : List D} : F a → H a = some (.lst xs) → RpL K H F ds xs → Rp K H F (.list ds) (.ref a)
  | dic {a : Addr} {kvs : List (D × D)} {vs : List V} : F a → DicAt H a (kvs.map Prod.fst) vs → RpL K H F (kvs.map Prod.snd) vs → Rp K H F (.dict kvs) (.ref a)
inductive RpL (K : PySem.W.Frag) (H : Hp) (F : Fz) : List D → List V → Prop
  | nil : RpL K H F [] []
  | cons {d : D} {ds : List D} {x : V} {xs : List V} : Rp K H F d x → RpL K H F ds xs → RpL K H F (d :: ds) (x :: xs)
end

/-- what Rp leans on stays -/
structure Ext (H : Hp) (F : Fz) (H' : Hp) (F' : Fz) : Prop where
  f : ∀ a, F a → F' a
  fo : ∀ a o, F a → H a = some o → H' a = some o
  tu : ∀ a xs, H a = some (.tup xs) → H' a = some (.tup xs)
  fr : ∀ a o u, H a = some (.frz o u) → H' a = some (.frz o u)
theorem Ext.refl {H : Hp} {F : Fz} : Ext H F H F := ⟨fun _ h => h, fun _ _ _ h => h, fun _ _ h => h, fun _ _ _ h => h⟩
theorem Ext.trans {H H1 H2 : Hp} {F F1 F2 : Fz} (a : Ext H F H1 F1) (b : Ext H1 F1 H2 F2) : Ext H F H2 F2 :=
  ⟨fun x h => b.f x (a.f x h), fun x o h e => b.fo x o (a.f x h) (a.fo x o h e), fun x xs h => b.tu x xs (a.tu x xs h), fun x o u h => b.fr x o u (a.fr x o u h)⟩

section
variable {K : PySem.W.Frag} {H H' : Hp} {F F' : Fz}
theorem DicAt.ext {a : Addr} {ks : List D} {vs : List V} (h : DicAt H a ks vs) (e : ∀ o, H a = some o → H' a = some o) : DicAt H' a ks vs := by
  obtain ⟨l, h, r⟩ := h
  exact ⟨l, h.imp (e _) fun ⟨o, h⟩ => ⟨o, e _ h⟩, r⟩
theorem DicW.ext {a : Addr} {ks : List D} {vs : List V} (h : DicW H a ks vs) (e : ∀ o, H a = some o → H' a = some o) : DicW H' a ks vs := by
  obtain ⟨l, h, r⟩ := h
  exact ⟨l, e _ h, r⟩
theorem TpAt.ext {a : Addr} {xs : List V} (h : TpAt H a xs) (e : Ext H F H' F') : TpAt H' a xs := by
  obtain ⟨o, hd, h⟩ := h
  exact ⟨o, hd, e.fr _ _ _ h⟩
mutual
theorem Rp.ext (e : Ext H F H' F') : ∀ {d : D} {v : V}, Rp K H F d v → Rp K H' F' d v
  | _, _, .non => .non
  | _, _, .bl b => .bl b
  | _, _, .int i => .int i
  | _, _, .str x => .str x
  | _, _, .tup h r => .tup (TpAt.ext h e) (RpL.ext e r)
  | _, _, .lst h q r => .lst (e.f _ h) (e.fo _ _ h q) (RpL.ext e r)
  | _, _, .dic h q r => .dic (e.f _ h) (DicAt.ext q fun o z => e.fo _ _ h z) (RpL.ext e r)
theorem RpL.ext (e : Ext H F H' F') : ∀ {ds : List D} {xs : List V}, RpL K H F ds xs → RpL K H' F' ds xs
  | _, _, .nil => .nil
  | _, _, .cons h r => .cons (Rp.ext e h) (RpL.ext e r)
end
theorem RpL.length : ∀ {ds : List D} {xs : List V}, RpL K H F ds xs → ds.length = xs.length
  | _, _, .nil => rfl
  | _, _, .cons _ r => congrArg (· + 1) (RpL.length r)
theorem RpL.append : ∀ {ds es : List D} {xs ys : List V}, RpL K H F ds xs → RpL K H F es ys → RpL K H F (ds ++ es) (xs ++ ys)
  | _, _, _, _, .nil, s => s
  | _, _, _, _, .cons h r, s => .cons h (RpL.append r s)
theorem RpL.take : ∀ {ds : List D} {xs : List V} (n : Nat), RpL K H F ds xs → RpL K H F (ds.take n) (xs.take n)
  | _, _, 0, _ => .nil
  | _, _, _ + 1, .nil => .nil
  | _, _, n + 1, .cons h r => .cons h (RpL.take n r)
theorem RpL.drop : ∀ {ds : List D} {xs : List V} (n : Nat), RpL K H F ds xs → RpL K H F (ds.drop n) (xs.drop n)
  | _, _, 0, r => r
  | _, _, _ + 1, .nil => .nil
  | _, _, n + 1, .cons h r => RpL.drop n r
theorem RpL.get : ∀ {ds : List D} {xs : List V} {i : Nat} {d : D}, RpL K H F ds xs → ds[i]? = some d → ∃ x, xs[i]? = some x ∧ Rp K H F d x
  | _, _, _, _, .nil, e => by simp at e
  | _, _, 0, _, .cons h _, e => by simp at e; subst e; exact ⟨_, rfl, h⟩
  | _, _, i + 1, d, .cons _ r, e => by
    obtain ⟨x, h1, h2⟩ := RpL.get (i := i) (d := d) r (by simpa using e)
    exact ⟨x, by simpa using h1, h2⟩
theorem RpL.getV : ∀ {ds : List D} {xs : List V} {i : Nat} {x : V}, RpL K H F ds xs → xs[i]? = some x → ∃ d, ds[i]? = some d ∧ Rp K H F d x
  | _, _, _, _, .nil, e => by simp at e
  | _, _, 0, _, .cons h _, e => by simp at e; subst e; exact ⟨_, rfl, h⟩
  | _, _, i + 1, x, .cons _ r, e => by
    obtain ⟨d, h1, h2⟩ := RpL.getV (i := i) (x := x) r (by simpa using e)
    exact ⟨d, by simpa using h1, h2⟩
theorem RpL.set : ∀ {ds : List D} {xs : List V} (i : Nat) {d : D} {x : V}, Rp K H F d x → RpL K H F ds xs → RpL K H F (ds.set i d) (xs.set i x)
  | _, _, _, _, _, _, .nil => .nil
  | _, _, 0, _, _, h, .cons _ r => .cons h r
  | _, _, i + 1, _, _, h, .cons q r => .cons q (RpL.set i h r)
theorem RpL.reverse {ds : List D} {xs : List V} (h : RpL K H F ds xs) : RpL K H F ds.reverse xs.reverse := by
  match h with
  | .nil => exact .nil
  | .cons h r => rw [List.reverse_cons, List.reverse_cons]; exact (RpL.reverse r).append (.cons h .nil)
theorem RpL.dropLast : ∀ {ds : List D} {xs : List V}, RpL K H F ds xs → RpL K H F ds.dropLast xs.dropLast
  | _, _, .nil => .nil
  | _, _, .cons h .nil => .nil
  | _, _, .cons h (.cons h2 r) => .cons h (RpL.dropLast (.cons h2 r))
theorem RpL.eraseIdx : ∀ {ds : List D} {xs : List V} (i : Nat), RpL K H F ds xs → RpL K H F (ds.eraseIdx i) (xs.eraseIdx i)
  | _, _, _, .nil => .nil
  | _, _, 0, .cons _ r => r
  | _, _, i + 1, .cons h r => .cons h (RpL.eraseIdx i r)
theorem RpL.one {d : D} {x : V} (h : Rp K H F d x) : RpL K H F [d] [x] := .cons h .nil
theorem RpL.ints : ∀ ns : List Int, RpL K H F (ns.map .int) (ns.map V.int)
  | [] => .nil
  | n :: r => .cons (.int n) (RpL.ints r)
theorem RpL.intsV : ∀ {ns : List Int} {xs : List V}, RpL K H F (ns.map .int) xs → xs = ns.map V.int
  | [], _, .nil => rfl
  | n :: r, _, .cons (.int _) h => by rw [RpL.intsV h]; rfl
theorem RpL.strsV : ∀ {ns : List Str} {xs : List V}, RpL K H F (ns.map .str) xs → xs = ns.map V.str
  | [], _, .nil => rfl
  | n :: r, _, .cons (.str _) h => by rw [RpL.strsV h]; rfl
theorem RpL.boolsV : ∀ {ns : List Bool} {xs : List V}, RpL K H F (ns.map .bool) xs → xs = ns.map V.bl
  | [], _, .nil => rfl
  | n :: r, _, .cons (.bl _) h => by rw [RpL.boolsV h]; rfl
end

/-! ### slots -/
inductive Slot where
  | un
  | fz (d : D)
  | ow (p : Bool) (d : D)
  | sc (ns : List Int)
abbrev SEnv := List Slot
/-- what an expression gives: data that is read alone, a new list or dict that nothing else holds, the list or dict of an owned slot, the script -/
inductive O where
  | fz (d : D)
  | nw (d : D)
  | al (i : Nat)
  | sc (ns : List Int)

/-- the object of a list or a dict, its items read alone -/
def Top (K : PySem.W.Frag) (H : Hp) (F : Fz) (a : Addr) : D → Prop
  | .list ds => ∃ xs, H a = some (.lst xs) ∧ RpL K H F ds xs
  | .dict kvs => ∃ vs, DicW H a (kvs.map Prod.fst) vs ∧ RpL K H F (kvs.map Prod.snd) vs
  | _ => False
/-- the addresses of the owned slots -/
def AOf (σ : St) (env : SEnv) : Addr → Prop := fun a => ∃ (i : Nat) (p : Bool) (d : D), env[i]? = some (.ow p d) ∧ σ[i]? = some (some (V.ref a))

structure ER (K : PySem.W.Frag) (σ : St) (H : Hp) (F : Fz) (env : SEnv) : Prop where
  len : env.length = σ.length
  fz : ∀ (i : Nat) d, env[i]? = some (.fz d) → ∃ v, σ[i]? = some (some v) ∧ Rp K H F d v
  ow : ∀ (i : Nat) p d, env[i]? = some (.ow p d) → ∃ a, σ[i]? = some (some (V.ref a)) ∧ ¬ F a ∧ Top K H F a d
  sc : ∀ (i : Nat) ns, env[i]? = some (.sc ns) → ∃ a, σ[i]? = some (some (V.ref a)) ∧ Scr K H a ns
  dis : ∀ (i j : Nat) p d q e a, env[i]? = some (.ow p d) → env[j]? = some (.ow q e) → σ[i]? = some (some (V.ref a)) → σ[j]? = some (some (V.ref a)) → i = j
  liv : ∀ a, F a → H a ≠ none

structure StepE (H : Hp) (F : Fz) (A : Addr → Prop) (H' : Hp) (F' : Fz) : Prop where
  f : ∀ a, F a → F' a
  keep : ∀ a o, H a = some o → ¬ A a → H' a = some o
  new : ∀ a, F' a → F a ∨ H a = none
  live : ∀ a, H' a = none → H a = none

/-- the slots behind an expression: owned ones may hold other things -/
def Shape (env env' : SEnv) : Prop := ∀ i : Nat, env'[i]? = env[i]? ∨ ∃ p d d', env[i]? = some (.ow p d) ∧ env'[i]? = some (.ow p d')
theorem Shape.refl {env : SEnv} : Shape env env := fun _ => .inl rfl
theorem Shape.trans {e e1 e2 : SEnv} (a : Shape e e1) (b : Shape e1 e2) : Shape e e2 := fun i => by
  rcases a i with h | ⟨p, d, d', h, h'⟩
  · rcases b i with q | ⟨p, d, d', q, q'⟩
    · exact .inl (q.trans h)
    · exact .inr ⟨p, d, d', h ▸ q, q'⟩
  · rcases b i with q | ⟨p2, d2, d2', q, q'⟩
    · exact .inr ⟨p, d, d', h, q.trans h'⟩
    · rw [h'] at q
      cases q
      exact .inr ⟨p, d, d2', h, q'⟩
theorem Shape.ow {e e1 : SEnv} (a : Shape e e1) {i : Nat} {p : Bool} {d : D} (h : e[i]? = some (.ow p d)) : ∃ d', e1[i]? = some (.ow p d') := by
  rcases a i with q | ⟨p2, d2, d', q, q'⟩
  · exact ⟨d, q.trans h⟩
  · rw [h] at q; cases q; exact ⟨d', q'⟩
theorem Shape.ow' {e e1 : SEnv} (a : Shape e e1) {i : Nat} {p : Bool} {d : D} (h : e1[i]? = some (.ow p d)) : ∃ d', e[i]? = some (.ow p d') := by
  rcases a i with q | ⟨p2, d2, d', q, q'⟩
  · exact ⟨d, q.symm.trans h⟩
  · rw [h] at q'; cases q'; exact ⟨d2, q⟩
theorem Shape.same {e e1 : SEnv} (a : Shape e e1) {i : Nat} {s : Slot} (h : e[i]? = some s) (n : ∀ p d, s ≠ .ow p d) : e1[i]? = some s := by
  rcases a i with q | ⟨p2, d2, d', q, q'⟩
  · exact q.trans h
  · rw [h] at q; cases q; exact absurd rfl (n p2 d2)
theorem Shape.a {e e1 : SEnv} (a : Shape e e1) {σ : St} {b : Addr} : AOf σ e1 b ↔ AOf σ e b :=
  ⟨fun ⟨i, p, d, h, q⟩ => let ⟨d', h'⟩ := a.ow' h; ⟨i, p, d', h', q⟩, fun ⟨i, p, d, h, q⟩ => let ⟨d', h'⟩ := a.ow h; ⟨i, p, d', h', q⟩⟩

section
variable {K : PySem.W.Frag} {σ : St} {H H' H1 H2 : Hp} {F F' F1 F2 : Fz} {env env' : SEnv}
theorem Top.obj {a : Addr} {d : D} (h : Top K H F a d) : ∃ o, H a = some o ∧ (∀ xs, o ≠ .tup xs) ∧ ∀ u x, o ≠ .frz u x := by
  cases d with
  | list ds => obtain ⟨xs, h, _⟩ := h; exact ⟨_, h, (fun _ z => nomatch z), (fun _ _ z => nomatch z)⟩
  | dict kvs =>
    obtain ⟨vs, ⟨l, h, _⟩, _⟩ := h
    exact ⟨_, h, (fun _ z => nomatch z), (fun _ _ z => nomatch z)⟩
  | _ => exact h.elim
theorem ER.aof (er : ER K σ H F env) {a : Addr} (h : AOf σ env a) : ¬ F a ∧ ∃ o, H a = some o ∧ (∀ xs, o ≠ .tup xs) ∧ ∀ u x, o ≠ .frz u x := by
  obtain ⟨i, p, d, h, q⟩ := h
  obtain ⟨b, e, n, t⟩ := er.ow i p d h
  rw [q] at e; cases e
  exact ⟨n, t.obj⟩
theorem StepE.ext (st : StepE H F (AOf σ env) H' F') (er : ER K σ H F env) : Ext H F H' F' where
  f := st.f
  fo := fun a o h e => st.keep a o e fun z => (er.aof z).1 h
  tu := fun a xs h => st.keep a _ h fun z => by
    obtain ⟨_, o, e, n, _⟩ := er.aof z
    rw [h] at e; cases e; exact n xs rfl
  fr := fun a u x h => st.keep a _ h fun z => by
    obtain ⟨_, o, e, _, n⟩ := er.aof z
    rw [h] at e; cases e; exact n u x rfl
theorem StepE.refl {A : Addr → Prop} : StepE H F A H F := ⟨fun _ h => h, fun _ _ h _ => h, fun _ h => .inl h, fun _ h => h⟩
theorem StepE.trans {A : Addr → Prop} (a : StepE H F A H1 F1) (b : StepE H1 F1 A H2 F2) : StepE H F A H2 F2 where
  f := fun x h => b.f x (a.f x h)
  keep := fun x o h n => b.keep x o (a.keep x o h n) n
  new := fun x h => by
    rcases b.new x h with h | h
    · exact a.new x h
    · exact .inr (a.live x h)
  live := fun x h => a.live x (b.live x h)
theorem StepE.cast {A A' : Addr → Prop} (a : StepE H F A H1 F1) (h : ∀ x, A x → A' x) : StepE H F A' H1 F1 :=
  ⟨a.f, fun x o e n => a.keep x o e fun z => n (h x z), a.new, a.live⟩
theorem StepE.shape {e1 : SEnv} (a : StepE H F (AOf σ env) H1 F1) (sh : Shape e1 env) : StepE H F (AOf σ e1) H1 F1 := a.cast fun x z => sh.a.mp z
theorem Top.ext (e : Ext H F H' F') {a : Addr} {d : D} (h : Top K H F a d) (k : ∀ o, H a = some o → H' a = some o) : Top K H' F' a d := by
  cases d with
  | list ds => obtain ⟨xs, h, r⟩ := h; exact ⟨xs, k _ h, RpL.ext e r⟩
  | dict kvs => obtain ⟨vs, h, r⟩ := h; exact ⟨vs, h.ext k, RpL.ext e r⟩
  | _ => exact h.elim
theorem Scr.ext (e : Ext H F H' F') {a : Addr} {ns : List Int} (h : Scr K H a ns) : Scr K H' a ns := h.imp (fun ⟨o, h⟩ => ⟨o, e.fr _ _ _ h⟩) id
/-- all that stands is kept: the slots too -/
theorem ER.kept (er : ER K σ H F env) (k : ∀ a o, H a = some o → H' a = some o) (f : ∀ a, F a → F' a) (n : ∀ a, AOf σ env a → ¬ F' a) (l : ∀ a, F' a → H' a ≠ none) : ER K σ H' F' env := by
  have e : Ext H F H' F' := ⟨f, fun a o _ h => k a o h, fun a _ h => k a _ h, fun a _ _ h => k a _ h⟩
  refine ⟨er.len, fun i d h => ?_, fun i p d h => ?_, fun i ns h => ?_, er.dis, l⟩
  · obtain ⟨v, q, r⟩ := er.fz i d h
    exact ⟨v, q, r.ext e⟩
  · obtain ⟨a, q, m, t⟩ := er.ow i p d h
    exact ⟨a, q, n a ⟨i, p, d, h, q⟩, t.ext e fun o z => k a o z⟩
  · obtain ⟨a, q, t⟩ := er.sc i ns h
    exact ⟨a, q, t.ext e⟩
end

/-! ### what an expression gives -/
def RO (K : PySem.W.Frag) (H0 : Hp) (σ : St) (H : Hp) (F : Fz) (env : SEnv) (v : V) : O → Prop
  | .fz d => Rp K H F d v
  | .nw d => ∃ a, v = .ref a ∧ H0 a = none ∧ ¬ F a ∧ Top K H F a d
  | .al i => σ[i]? = some (some v) ∧ ∃ p d, env[i]? = some (.ow p d)
  | .sc ns => ∃ a, v = .ref a ∧ Scr K H a ns
/-- the same, ready for use: a new thing is read alone -/
def Opd (K : PySem.W.Frag) (σ : St) (H : Hp) (F : Fz) (env : SEnv) (v : V) : O → Prop
  | .fz d => Rp K H F d v
  | .nw d => Rp K H F d v
  | .al i => σ[i]? = some (some v) ∧ ∃ p d, env[i]? = some (.ow p d)
  | .sc ns => ∃ a, v = .ref a ∧ Scr K H a ns
/-- its data -/
def O.get (env : SEnv) : O → Option D
  | .fz d => some d
  | .nw d => some d
  | .al i => match env[i]? with
    | some (.ow _ d) => some d
    | _ => none
  | .sc _ => none
/-- the value's data, as seen now -/
def Ob (K : PySem.W.Frag) (H : Hp) (F : Fz) (v : V) (d : D) : Prop := Rp K H F d v ∨ ∃ a, v = .ref a ∧ Top K H F a d
section
variable {K : PySem.W.Frag} {σ : St} {H0 H H' : Hp} {F F' : Fz} {env env' : SEnv} {v : V} {o : O}
theorem Opd.step (h : Opd K σ H F env v o) (er : ER K σ H F env) (st : StepE H F (AOf σ env) H' F') (sh : Shape env env') : Opd K σ H' F' env' v o := by
  cases o with
  | fz d => exact Rp.ext (st.ext er) h
  | nw d => exact Rp.ext (st.ext er) h
  | al i => obtain ⟨h, p, d, q⟩ := h; exact ⟨h, p, sh.ow q⟩
  | sc ns => obtain ⟨a, e, h⟩ := h; exact ⟨a, e, h.ext (st.ext er)⟩
theorem Opd.ob (h : Opd K σ H F env v o) (er : ER K σ H F env) {d : D} (g : o.get env = some d) : Ob K H F v d := by
  cases o with
  | fz d => cases g; exact .inl h
  | nw d => cases g; exact .inl h
  | al i =>
    obtain ⟨h, p, e, q⟩ := h
    unfold O.get at g
    simp only [q] at g
    cases g
    obtain ⟨a, q, _, t⟩ := er.ow i p d q
    rw [h] at q; cases q
    exact .inr ⟨a, rfl, t⟩
  | sc ns => cases g
/-- a new thing is read alone from now on -/
theorem RO.opd (h : RO K H0 σ H F env v o) (er : ER K σ H F env) (h0 : ∀ a, AOf σ env a → H0 a ≠ none) :
    ∃ F', (∀ a, F a → F' a) ∧ (∀ a, F' a → F a ∨ H0 a = none) ∧ ER K σ H F' env ∧ Opd K σ H F' env v o := by
  cases o with
  | fz d => exact ⟨F, fun _ h => h, fun _ h => .inl h, er, h⟩
  | al i => exact ⟨F, fun _ h => h, fun _ h => .inl h, er, h⟩
  | sc ns => exact ⟨F, fun _ h => h, fun _ h => .inl h, er, h⟩
  | nw d =>
    obtain ⟨a, rfl, n0, nf, t⟩ := h
    obtain ⟨o, ho, _⟩ := t.obj
    have e : Ext H F H (fun b => F b ∨ b = a) := ⟨fun _ h => .inl h, fun _ _ _ h => h, fun _ _ h => h, fun _ _ _ h => h⟩
    refine ⟨fun b => F b ∨ b = a, fun _ h => .inl h, fun b h => by rcases h with h | rfl; exact .inl h; exact .inr n0, er.kept (fun _ _ h => h) (fun _ h => .inl h) (fun b hb z => ?_) (fun b z => ?_), ?_⟩
    · rcases z with z | rfl
      · exact (er.aof hb).1 z
      · exact h0 _ hb n0
    · rcases z with z | rfl
      · exact er.liv b z
      · rw [ho]; exact fun z => nomatch z
    · cases d with
      | list ds => obtain ⟨xs, hx, r⟩ := t; exact .lst (.inr rfl) hx (r.ext e)
      | dict kvs => obtain ⟨vs, hx, r⟩ := t; exact .dic (.inr rfl) hx.r (r.ext e)
      | _ => exact t.elim
end
end DL
end
section
set_option Elab.async false
set_option linter.all false
set_option maxRecDepth 100000
/-! DL2: the judgement of expressions; names, constants, operators, displays. -/
namespace DL
open PySem PySem.Spec L2

abbrev DT := SEnv → (O → SEnv → Prop) → Prop
abbrev DB := SEnv → (Bool → SEnv → Prop) → Prop
/-- where a reading stands: all since the start, and now -/
structure Cur (K : PySem.W.Frag) (σ : L2.St) (H0 : Hp) (F0 : Fz) (env0 : SEnv) (H : Hp) (F : Fz) (env : SEnv) : Prop where
  er0 : ER K σ H0 F0 env0
  st : StepE H0 F0 (AOf σ env0) H F
  sh : Shape env0 env
  er : ER K σ H F env
section
variable {K : PySem.W.Frag} {σ : L2.St} {H0 H H' : Hp} {F0 F F' : Fz} {env0 env env' : SEnv} {v : V} {o : O}
theorem Cur.refl (er : ER K σ H F env) : Cur K σ H F env H F env := ⟨er, StepE.refl, Shape.refl, er⟩
theorem ER.live (er : ER K σ H F env) {a : Addr} (h : AOf σ env a) : H a ≠ none := by
  obtain ⟨_, o, e, _⟩ := er.aof h
  rw [e]; exact fun z => nomatch z
theorem Cur.step (c : Cur K σ H0 F0 env0 H F env) (st : StepE H F (AOf σ env) H' F') (sh : Shape env env') (er : ER K σ H' F' env') : Cur K σ H0 F0 env0 H' F' env' :=
  ⟨c.er0, c.st.trans (st.cast fun _ z => c.sh.a.mp z), c.sh.trans sh, er⟩
theorem Cur.trans {H1 : Hp} {F1 : Fz} {env1 : SEnv} (a : Cur K σ H0 F0 env0 H1 F1 env1) (b : Cur K σ H1 F1 env1 H F env) : Cur K σ H0 F0 env0 H F env := a.step b.st b.sh b.er
/-- a new thing read alone -/
theorem Cur.opd (c : Cur K σ H0 F0 env0 H F env) (r : RO K H0 σ H F env v o) : ∃ F', Cur K σ H0 F0 env0 H F' env ∧ Opd K σ H F' env v o ∧ StepE H0 F0 (AOf σ env0) H F' := by
  obtain ⟨F', f, n, er, op⟩ := r.opd c.er fun a h => c.er0.live (c.sh.a.mp h)
  have st : StepE H0 F0 (AOf σ env0) H F' := ⟨fun a h => f a (c.st.f a h), c.st.keep, fun a h => by
    rcases n a h with h | h
    · exact c.st.new a h
    · exact .inr h, c.st.live⟩
  exact ⟨F', ⟨c.er0, st, c.sh, er⟩, op, st⟩
theorem RO.back (c : Cur K σ H0 F0 env0 H F env) (r : RO K H σ H' F' env' v o) : RO K H0 σ H' F' env' v o := by
  cases o with
  | nw d => obtain ⟨a, e, n, q⟩ := r; exact ⟨a, e, c.st.live a n, q⟩
  | _ => exact r
theorem Opd.cur (h : Opd K σ H0 F0 env0 v o) (c : Cur K σ H0 F0 env0 H F env) : Opd K σ H F env v o := h.step c.er0 c.st c.sh
end

/-! ### the judgement -/
def liftE (K : PySem.W.Frag) (t : DT) : TE := fun σ H Q => ∃ F env R, ER K σ H F env ∧ t env R ∧
  ∀ o env' v H' F', R o env' → Cur K σ H F env H' F' env' → RO K H σ H' F' env' v o → Q v H'
def liftT (K : PySem.W.Frag) (t : DB) : TT := fun σ H Q => ∃ F env R, ER K σ H F env ∧ t env R ∧
  ∀ b env' H' F', R b env' → Cur K σ H F env H' F' env' → Q b H'
def DE (X : Cx) (e : Expr) (t : DT) : Prop := PE X e (liftE X.K t)
def DTe (X : Cx) (e : Expr) (t : DB) : Prop := PT X e (liftT X.K t)
theorem PE.imp {X : Cx} {e : Expr} {t t' : TE} (h : PE X e t) (i : ∀ σ H Q, t' σ H Q → t σ H Q) : PE X e t' := ⟨fun pins s σ H Q I q => h.run pins s σ H Q I (i σ H Q q)⟩
theorem PT.imp {X : Cx} {e : Expr} {t t' : TT} (h : PT X e t) (i : ∀ σ H Q, t' σ H Q → t σ H Q) : PT X e t' := ⟨fun pins s σ H Q I q => h.run pins s σ H Q I (i σ H Q q)⟩
section
variable {K : PySem.W.Frag} {σ : L2.St} {H0 H : Hp} {F0 F : Fz} {env0 env : SEnv} {Q : VK} {QB : Bool → Hp → Prop}
/-- an operand is read; then go on -/
theorem lift_op {ta : DT} {R : O → SEnv → Prop} (c : Cur K σ H0 F0 env0 H F env) (ht : ta env R)
    (k : ∀ o e1 v H1 F1, R o e1 → Cur K σ H0 F0 env0 H1 F1 e1 → Cur K σ H F env H1 F1 e1 → Opd K σ H1 F1 e1 v o → Q v H1) : liftE K ta σ H Q := by
  refine ⟨F, env, R, c.er, ht, fun o e1 v H1 F1 hR c1 ro => ?_⟩
  obtain ⟨F2, c2, op, st⟩ := c1.opd ro
  exact k o e1 v H1 F2 hR (c.trans c2) c2 op
/-- a value is read as it comes -/
theorem lift_val {ta : DT} {R : O → SEnv → Prop} (c : Cur K σ H0 F0 env0 H F env) (ht : ta env R)
    (k : ∀ o e1 v H1 F1, R o e1 → Cur K σ H0 F0 env0 H1 F1 e1 → RO K H0 σ H1 F1 e1 v o → Q v H1) : liftE K ta σ H Q :=
  ⟨F, env, R, c.er, ht, fun o e1 v H1 F1 hR c1 ro => k o e1 v H1 F1 hR (c.trans c1) (ro.back c)⟩
theorem lift_tst {tb : DB} {R : Bool → SEnv → Prop} (c : Cur K σ H0 F0 env0 H F env) (ht : tb env R)
    (k : ∀ b e1 H1 F1, R b e1 → Cur K σ H0 F0 env0 H1 F1 e1 → QB b H1) : liftT K tb σ H QB :=
  ⟨F, env, R, c.er, ht, fun b e1 H1 F1 hR c1 => k b e1 H1 F1 hR (c.trans c1)⟩
end
/-- an end: whatever is given, it may be gone on with -/
abbrev Fin (K : PySem.W.Frag) (σ : L2.St) (H : Hp) (F : Fz) (env : SEnv) (Q : VK) (o : O) : Prop :=
  ∀ v H' F', Cur K σ H F env H' F' env → RO K H σ H' F' env v o → Q v H'
section
variable {K : PySem.W.Frag} {σ : L2.St} {H0 H : Hp} {F0 F : Fz} {env0 env : SEnv} {Q : VK} {o : O}
theorem Cur.fin (c : Cur K σ H0 F0 env0 H F env) {R : O → SEnv → Prop} (q : R o env)
    (k : ∀ o env' v H' F', R o env' → Cur K σ H0 F0 env0 H' F' env' → RO K H0 σ H' F' env' v o → Q v H') : Fin K σ H F env Q o :=
  fun v H' F' c' ro => k o env v H' F' q (c.trans c') (ro.back c)
/-- a plain thing that stands -/
theorem Fin.fz {d : D} {v : V} (f : Fin K σ H F env Q (.fz d)) (er : ER K σ H F env) (r : Rp K H F d v) : Q v H := f v H F (.refl er) r
/-- a new object -/
theorem laid_cur {p : Addr} {u : HO} (er : ER K σ H F env) (n : H p = none) : Cur K σ H F env (upd H p u) F env := by
  have k : ∀ a o, H a = some o → upd H p u a = some o := fun a o h => by rw [upd_ne (ne_of_none h n)]; exact h
  have er' := er.kept (H' := upd H p u) (F' := F) k (fun _ h => h) (fun a h => (er.aof h).1) (fun a h z => er.liv a h (by
    by_cases e : a = p
    · rw [e]; exact n
    · rw [upd_ne e] at z; exact z))
  exact ⟨er, ⟨fun _ h => h, fun a o h _ => k a o h, fun _ h => .inl h, fun a h => by
    by_cases e : a = p
    · rw [e]; exact n
    · rw [upd_ne e] at h; exact h⟩, Shape.refl, er'⟩
theorem Cur.e (c : Cur K σ H0 F0 env0 H F env) : Ext H0 F0 H F := c.st.ext c.er0
theorem Fin.tup {ds : List D} {xs : List V} (f : Fin K σ H F env Q (.fz (.tuple ds))) (er : ER K σ H F env) (r : RpL K H F ds xs) : NewT xs H Q := fun p o hd n => by
  have c := laid_cur (u := .frz o (.tup xs)) er n
  exact f _ _ _ c (Rp.tup ⟨o, hd, upd_same⟩ (r.ext c.e))
theorem Fin.lst {ds : List D} {xs : List V} (f : Fin K σ H F env Q (.nw (.list ds))) (er : ER K σ H F env) (r : RpL K H F ds xs) : ∀ p, H p = none → Q (.ref p) (upd H p (.lst xs)) := fun p n => by
  have c := laid_cur (u := .lst xs) er n
  exact f _ _ _ c ⟨p, rfl, n, fun z => er.liv p z n, xs, upd_same, r.ext c.e⟩
theorem Fin.dic {kvs : List (D × D)} {vs : List V} {u : HO} (f : Fin K σ H F env Q (.nw (.dict kvs))) (er : ER K σ H F env) (r : RpL K H F (kvs.map Prod.snd) vs) {p : Addr} (n : H p = none) (hd : DicW (upd H p u) p (kvs.map Prod.fst) vs) : Q (.ref p) (upd H p u) := by
  have c := laid_cur (u := u) er n
  exact f _ _ _ c ⟨p, rfl, n, fun z => er.liv p z n, vs, hd, r.ext c.e⟩
end

/-! ### what is seen -/
section
variable {K : PySem.W.Frag} {H : Hp} {F : Fz} {v : V}
theorem Ob.int {i : Int} (h : Ob K H F v (.int i)) : v = .int i := by
  rcases h with h | ⟨a, _, h⟩
  · cases h; rfl
  · exact h.elim
theorem Ob.bool {i : Bool} (h : Ob K H F v (.bool i)) : v = .bl i := by
  rcases h with h | ⟨a, _, h⟩
  · cases h; rfl
  · exact h.elim
theorem Ob.str {i : Str} (h : Ob K H F v (.str i)) : v = .str i := by
  rcases h with h | ⟨a, _, h⟩
  · cases h; rfl
  · exact h.elim
theorem Ob.none (h : Ob K H F v .none) : v = .non := by
  rcases h with h | ⟨a, _, h⟩
  · cases h; rfl
  · exact h.elim
theorem Ob.list {ds : List D} (h : Ob K H F v (.list ds)) : ∃ a xs, v = .ref a ∧ H a = some (.lst xs) ∧ RpL K H F ds xs := by
  rcases h with h | ⟨a, e, xs, h, r⟩
  · cases h with
    | lst h q r => exact ⟨_, _, rfl, q, r⟩
  · exact ⟨a, xs, e, h, r⟩
theorem Ob.tuple {ds : List D} (h : Ob K H F v (.tuple ds)) : ∃ a xs, v = .ref a ∧ TpAt H a xs ∧ RpL K H F ds xs := by
  rcases h with h | ⟨a, e, h⟩
  · cases h with
    | tup q r => exact ⟨_, _, rfl, q, r⟩
  · exact h.elim
theorem Ob.dict {kvs : List (D × D)} (h : Ob K H F v (.dict kvs)) : ∃ a vs, v = .ref a ∧ DicAt H a (kvs.map Prod.fst) vs ∧ RpL K H F (kvs.map Prod.snd) vs := by
  rcases h with h | ⟨a, e, vs, h, r⟩
  · cases h with
    | dic h q r => exact ⟨_, _, rfl, q, r⟩
  · exact ⟨a, vs, e, h.r, r⟩
mutual
/-- data without dicts -/
theorem Rp.dp : ∀ {d : D} {v : V}, Rp K H F d v → SeqAt.shaped d = true ∨ d.canLay0 = true → Dp K H v d
  | _, _, .non, _ => .non
  | _, _, .bl b, _ => .bl b
  | _, _, .int i, _ => .int i
  | _, _, .str x, _ => .str x
  | _, _, .tup h r, s => .tup h.sq (RpL.dp r (by
      rcases s with s | s
      · simp only [SeqAt.shaped, Bool.and_eq_true, PyData.canLay0] at s; exact s.1
      · simpa only [PyData.canLay0] using s))
  | _, _, .lst h q r, s => .lst (.inl (.inl q)) (RpL.dp r (by
      rcases s with s | s
      · simp only [SeqAt.shaped, Bool.and_eq_true, PyData.canLay0] at s; exact s.1
      · simpa only [PyData.canLay0] using s))
  | _, _, .dic h q r, s => by
      rcases s with s | s
      · simp [SeqAt.shaped, PyData.canLay0] at s
      · simp [PyData.canLay0] at s
theorem RpL.dp : ∀ {ds : List D} {xs : List V}, RpL K H F ds xs → PyData.canLayAll0 ds = true → DpAll K H xs ds
  | _, _, .nil, _ => .nil
  | _, _, .cons h r, s => by
      simp only [PyData.canLayAll0, Bool.and_eq_true] at s
      exact .cons (Rp.dp h (.inr s.1)) (RpL.dp r s.2)
end
theorem Ob.dp {d : D} (h : Ob K H F v d) (s : SeqAt.shaped d = true) : Dp K H v d := by
  rcases h with h | ⟨a, e, h⟩
  · exact h.dp (.inl s)
  · subst e
    cases d with
    | list ds =>
      obtain ⟨xs, h, r⟩ := h
      simp only [SeqAt.shaped, Bool.and_eq_true, PyData.canLay0] at s
      exact .lst (.inl (.inl h)) (r.dp s.1)
    | dict kvs => simp [SeqAt.shaped, PyData.canLay0] at s
    | _ => exact h.elim
theorem RpL.flat {ds : List D} {xs : List V} (r : RpL K H F ds xs) : True := trivial
end

/-! ### names, constants -/
def dVar (i : Nat) : DT := fun env Q => match env[i]? with
  | some (.fz d) => Q (.fz d) env
  | some (.ow _ _) => Q (.al i) env
  | some (.sc ns) => Q (.sc ns) env
  | _ => False
def dC (d : D) : DT := fun env Q => Q (.fz d) env
section
variable {X : Cx} {pos : Pos}
theorem dv (i : Nat) {x : Str} (hN : X.N[i]? = some x := by rfl) (hv : Vis X.env.scope x := by first | exact Or.inl rfl | exact Or.inr (Or.inl rfl) | exact Or.inr (Or.inr rfl)) (hd : (x == ("__debug__" : Str)) = false := by decide)
    (hcd : (x == ("__classdict__" : Str)) = false := by decide) : DE X (.Name x pos) (dVar i) := by
  refine PE.imp (pe_var hN hv hd hcd) fun σ H Q h => ?_
  obtain ⟨F, env, R, er, ht, k⟩ := h
  unfold dVar at ht
  split at ht
  · rename_i d h
    obtain ⟨v, q, r⟩ := er.fz i d h
    exact ⟨v, q, k _ _ v H F ht (.refl er) r⟩
  · rename_i p d h
    obtain ⟨a, q, _, _⟩ := er.ow i p d h
    exact ⟨_, q, k _ _ _ H F ht (.refl er) ⟨q, p, d, h⟩⟩
  · rename_i ns h
    obtain ⟨a, q, s⟩ := er.sc i ns h
    exact ⟨_, q, k _ _ _ H F ht (.refl er) ⟨a, rfl, s⟩⟩
  · exact ht.elim
theorem lift_c {K : PySem.W.Frag} {d : D} {v : V} (r : ∀ H F, Rp K H F d v) : ∀ σ H Q, liftE K (dC d) σ H Q → tC v σ H Q := fun σ H Q h => by
  obtain ⟨F, env, R, er, ht, k⟩ := h
  exact k _ _ v H F ht (.refl er) (r H F)
theorem de_int {i j} : DE X (.Constant (.int i) j pos) (dC (.int i)) := PE.imp pe_int (lift_c fun _ _ => .int i)
theorem de_bl {b j} : DE X (.Constant (.bool b) j pos) (dC (.bool b)) := PE.imp pe_bl (lift_c fun _ _ => .bl b)
theorem de_non {j} : DE X (.Constant .none j pos) (dC .none) := PE.imp pe_non (lift_c fun _ _ => .non)
theorem de_str {x j} : DE X (.Constant (.str x) j pos) (dC (.str x)) := PE.imp pe_str (lift_c fun _ _ => .str x)
end

/-! ### operators -/
/-- two data, one given -/
def dBin (g : D → D → Option O) (ta tb : DT) : DT := fun env Q => ta env fun o1 e1 => tb e1 fun o2 e2 => ∃ a b o, o1.get e2 = some a ∧ o2.get e2 = some b ∧ g a b = some o ∧ Q o e2
def dUn (g : D → Option O) (ta : DT) : DT := fun env Q => ta env fun o1 e1 => ∃ a o, o1.get e1 = some a ∧ g a = some o ∧ Q o e1
/-- a rule by values serves g -/
def R2Ok (K : PySem.W.Frag) (r : R2) (g : D → D → Option O) : Prop := ∀ σ H F env x y a b o Q, ER K σ H F env → Ob K H F x a → Ob K H F y b → g a b = some o → Fin K σ H F env Q o → r x y H Q
def R1Ok (K : PySem.W.Frag) (r : V → Hp → VK → Prop) (g : D → Option O) : Prop := ∀ σ H F env x a o Q, ER K σ H F env → Ob K H F x a → g a = some o → Fin K σ H F env Q o → r x H Q
section
variable {X : Cx} {a b : Expr} {ta tb : DT} {pos : Pos}
theorem lift_bin {K : PySem.W.Frag} {r : R2} {g : D → D → Option O} (hg : R2Ok K r g) : ∀ σ H Q, liftE K (dBin g ta tb) σ H Q → tOp r (liftE K ta) (liftE K tb) σ H Q := fun σ H Q h => by
  obtain ⟨F, env, R, er, ht, k⟩ := h
  refine lift_op (.refl er) ht fun o1 e1 x H1 F1 h1 c1 _ p1 => ?_
  refine lift_op c1 h1 fun o2 e2 y H2 F2 h2 c2 c12 p2 => ?_
  obtain ⟨d1, d2, o, g1, g2, hgo, q⟩ := h2
  exact hg σ H2 F2 e2 x y d1 d2 o Q c2.er ((p1.cur c12).ob c2.er g1) (p2.ob c2.er g2) hgo (c2.fin q k)
theorem de_bin {op : Operator} {r : R2} {g : D → D → Option O} (ho : OpR X (binaryOp op) r) (hg : R2Ok X.K r g) (ha : DE X a ta) (hb : DE X b tb) : DE X (.BinOp a op b pos) (dBin g ta tb) :=
  PE.imp (pe_op ho ha hb) (lift_bin hg)
theorem de_cmp {op : CmpOp} {r : R2} {g : D → D → Option O} (ho : OpR X (compareOp op) r) (hg : R2Ok X.K r g) (ha : DE X a ta) (hb : DE X b tb) (hm : behindInMarks op b = false) : DE X (.Compare a [op] [b] pos) (dBin g ta tb) :=
  PE.imp (pe_cmpR ho ha hb hm) (lift_bin hg)
theorem lift_un {K : PySem.W.Frag} {r : V → Hp → VK → Prop} {g : D → Option O} (hg : R1Ok K r g) : ∀ σ H Q, liftE K (dUn g ta) σ H Q → tUn r (liftE K ta) σ H Q := fun σ H Q h => by
  obtain ⟨F, env, R, er, ht, k⟩ := h
  refine lift_op (.refl er) ht fun o1 e1 x H1 F1 h1 c1 _ p1 => ?_
  obtain ⟨d1, o, g1, hgo, q⟩ := h1
  exact hg σ H1 F1 e1 x d1 o Q c1.er (p1.ob c1.er g1) hgo (c1.fin q k)
theorem de_un {op : UnaryOp} {r : V → Hp → VK → Prop} {g : D → Option O} (ho : UnR X (unaryOp op) r) (hg : R1Ok X.K r g) (ha : DE X a ta) : DE X (.UnaryOp op a pos) (dUn g ta) :=
  PE.imp (pe_un ho ha) (lift_un hg)
end
theorem R2Ok.or {K : PySem.W.Frag} {r r' : R2} {g g' : D → D → Option O} (h : R2Ok K r g) (h' : R2Ok K r' g') : R2Ok K (fun x y H Q => r x y H Q ∨ r' x y H Q) (fun a b => (g a b).or (g' a b)) := by
  intro σ H F env x y a b o Q er oa ob hg f
  have hg : (g a b).or (g' a b) = some o := hg
  cases e : g a b with
  | some o' =>
    rw [e] at hg; cases hg
    exact .inl (h σ H F env x y a b _ Q er oa ob e f)
  | none =>
    rw [e] at hg
    exact .inr (h' σ H F env x y a b o Q er oa ob hg f)

/-- + -/
def gAdd : D → D → Option O
  | .int i, .int j => some (.fz (.int (i + j)))
  | .list xs, .list ys => if xs.length + ys.length ≤ sizeLine then some (.nw (.list (xs ++ ys))) else none
  | .tuple xs, .tuple ys => if xs.length + ys.length ≤ sizeLine then some (.fz (.tuple (xs ++ ys))) else none
  | .str x, .str y => if x.length + y.length ≤ sizeLine then some (.fz (.str (x ++ y))) else none
  | _, _ => none
def rAddD (K : PySem.W.Frag) : R2 := fun x y H Q => (rI0 fun i j => .int (i + j)) x y H Q ∨ rCat x y H Q ∨ rCatK K x y H Q ∨ (∃ i j, x = .str i ∧ y = .str j ∧ i.length + j.length ≤ sizeLine ∧ Q (.str (i ++ j)) H)
theorem op_addD {X : Cx} : OpR X (binaryOp .Add) (rAddD X.K) := OpR.or op_add (OpR.or op_cat (OpR.or op_catK op_add_str))
theorem gAdd_ok {K : PySem.W.Frag} : R2Ok K (rAddD K) gAdd := by
  intro σ H F env x y a b o Q er oa ob hg f
  unfold gAdd at hg
  split at hg
  · cases hg
    cases oa.int; cases ob.int
    exact .inl ⟨_, _, rfl, rfl, f.fz er (.int _)⟩
  · split at hg
    · rename_i hl
      cases hg
      obtain ⟨p, xs, rfl, h1, r1⟩ := oa.list
      obtain ⟨q, ys, rfl, h2, r2⟩ := ob.list
      exact .inr (.inl ⟨p, q, xs, ys, rfl, rfl, h1, h2, by rw [← r1.length, ← r2.length]; exact hl, f.lst er (r1.append r2)⟩)
    · cases hg
  · split at hg
    · rename_i hl
      cases hg
      obtain ⟨p, xs, rfl, h1, r1⟩ := oa.tuple
      obtain ⟨q, ys, rfl, h2, r2⟩ := ob.tuple
      refine .inr (.inr (.inl ⟨p, q, xs, ys, rfl, rfl, h1.sq, h2.sq, by rw [← r1.length, ← r2.length]; exact hl, fun e => ?_, fun _ e => ?_, fun _ _ => f.tup er (r1.append r2)⟩))
      · subst e
        cases r1
        exact f.fz er (.tup h2 r2)
      · subst e
        cases r2
        rw [List.append_nil] at f
        exact f.fz er (.tup h1 r1)
    · cases hg
  · split at hg
    · rename_i hl
      cases hg
      cases oa.str; cases ob.str
      exact .inr (.inr (.inr ⟨_, _, rfl, rfl, hl, f.fz er (.str _)⟩))
    · cases hg
  · cases hg
section
variable {X : Cx} {a b : Expr} {ta tb : DT} {pos : Pos}
theorem de_add (ha : DE X a ta) (hb : DE X b tb) : DE X (.BinOp a .Add b pos) (dBin gAdd ta tb) := de_bin op_addD gAdd_ok ha hb
end
/-- two ints -/
def gI2 (C : Int → Int → Bool) (g : Int → Int → Int) : D → D → Option O
  | .int i, .int j => if C i j then some (.fz (.int (g i j))) else none
  | _, _ => none
theorem gI2_ok {K : PySem.W.Frag} {P : Int → Int → Prop} {C : Int → Int → Bool} {g : Int → Int → Int} (h : ∀ i j, C i j = true → P i j) : R2Ok K (rI P fun i j => .int (g i j)) (gI2 C g) := by
  intro σ H F env x y a b o Q er oa ob hg f
  unfold gI2 at hg
  split at hg
  · split at hg
    · rename_i hc
      cases hg
      cases oa.int; cases ob.int
      exact ⟨_, _, rfl, rfl, h _ _ hc, f.fz er (.int _)⟩
    · cases hg
  · cases hg
theorem gI0_ok {K : PySem.W.Frag} {g : Int → Int → Int} : R2Ok K (rI0 fun i j => .int (g i j)) (gI2 (fun _ _ => true) g) := by
  intro σ H F env x y a b o Q er oa ob hg f
  unfold gI2 at hg
  split at hg
  · cases hg
    cases oa.int; cases ob.int
    exact ⟨_, _, rfl, rfl, f.fz er (.int _)⟩
  · cases hg
def gSub := gI2 (fun _ _ => true) fun i j => i - j
/-- one factor small; a list times an int -/
def smallF (i : Int) : Bool := decide (-(2 ^ 64) < i ∧ i < 2 ^ 64)
def gMul : D → D → Option O
  | .int i, .int j => if smallF i || smallF j then some (.fz (.int (i * j))) else none
  | .list xs, .int k => if -(2 ^ 63) ≤ k ∧ k < 2 ^ 63 ∧ xs.length * k.toNat ≤ sizeLine then some (.nw (.list (List.replicate k.toNat xs).flatten)) else none
  | _, _ => none
theorem RpL.rep {K : PySem.W.Frag} {H : Hp} {F : Fz} {ds : List D} {xs : List V} (h : RpL K H F ds xs) : ∀ k : Nat, RpL K H F (List.replicate k ds).flatten (List.replicate k xs).flatten
  | 0 => .nil
  | k + 1 => by
    rw [List.replicate_succ, List.replicate_succ, List.flatten_cons, List.flatten_cons]
    exact h.append (RpL.rep h k)
theorem op_mulD {X : Cx} : OpR X (binaryOp .Mult) (fun x y H Q => (rI CMul fun i j => .int (i * j)) x y H Q ∨ rRep x y H Q) := OpR.or op_mul op_rep
theorem gMul_ok {K : PySem.W.Frag} : R2Ok K (fun x y H Q => (rI CMul fun i j => .int (i * j)) x y H Q ∨ rRep x y H Q) gMul := by
  intro σ H F env x y a b o Q er oa ob hg f
  unfold gMul at hg
  split at hg
  · split at hg
    · rename_i hc
      cases hg
      cases oa.int; cases ob.int
      refine .inl ⟨_, _, rfl, rfl, ?_, f.fz er (.int _)⟩
      unfold smallF at hc
      rcases Bool.or_eq_true_iff.mp hc with hc | hc
      · exact .inl (of_decide_eq_true hc)
      · exact .inr (of_decide_eq_true hc)
    · cases hg
  · split at hg
    · rename_i hc
      cases hg
      obtain ⟨p, xs, rfl, h1, r1⟩ := oa.list
      cases ob.int
      exact .inr ⟨p, _, xs, rfl, rfl, h1, hc.1, hc.2.1, by rw [← r1.length]; exact hc.2.2, f.lst er (r1.rep _)⟩
    · cases hg
  · cases hg
/-- // and % by a positive number -/
def gFdiv := gI2 (fun _ j => decide (0 < j ∧ j < 1073741824)) fun i j => i / j
def gMod := gI2 (fun _ j => decide (0 < j)) fun i j => i % j
def gPow := gI2 (fun i j => decide (0 ≤ j ∧ j ≤ 1000000 ∧ i.natAbs < 2 ^ 64)) fun i j => i ^ j.toNat
section
variable {X : Cx} {a b : Expr} {ta tb : DT} {pos : Pos}
theorem de_sub (ha : DE X a ta) (hb : DE X b tb) : DE X (.BinOp a .Sub b pos) (dBin gSub ta tb) := de_bin op_sub gI0_ok ha hb
theorem de_mul (ha : DE X a ta) (hb : DE X b tb) : DE X (.BinOp a .Mult b pos) (dBin gMul ta tb) := de_bin op_mulD gMul_ok ha hb
theorem de_fdiv (ha : DE X a ta) (hb : DE X b tb) : DE X (.BinOp a .FloorDiv b pos) (dBin gFdiv ta tb) := de_bin op_fdiv (gI2_ok (P := CDiv) fun i j h => by simpa [CDiv, CPow] using h) ha hb
theorem de_mod (ha : DE X a ta) (hb : DE X b tb) : DE X (.BinOp a .Mod b pos) (dBin gMod ta tb) := de_bin op_mod (gI2_ok (P := fun _ j => 0 < j) fun i j h => by simpa [CDiv, CPow] using h) ha hb
theorem de_pow (ha : DE X a ta) (hb : DE X b tb) : DE X (.BinOp a .Pow b pos) (dBin gPow ta tb) := de_bin op_pow (gI2_ok (P := CPow) fun i j h => by simpa [CDiv, CPow] using h) ha hb
end
end DL
end
section
set_option Elab.async false
set_option linter.all false
set_option maxRecDepth 100000
set_option maxHeartbeats 4000000
/-! DLE: == of two tuples within one model: what the items' comparisons tell, it tells. -/
namespace DL
open PySem PySem.Spec
open PySem.W PySem.SeqAt PySem.AutoSeq1 PySem.MeetsSeq PySem.MeetsSeq2 PySem.MeetsSeq3 PySem.SeqRoads2
variable {prog : Program} {w : World}
theorem tup_eq_in (p q : Addr) (xs ys : Array Value) (m n : Nat) (d1 d2 : Option Addr) (t1 t2 : Array (Option Value)) (g : Nat → Bool) :
    MeetsIn prog w (Builtin.«tuple.__eq__» ⟨[.ref p, .ref q], []⟩)
      (fun A R s => s.heap.get? p = some { cls := .type "tuple", dict := d1, data := .seq xs m, slots := t1 } ∧ s.heap.get? q = some { cls := .type "tuple", dict := d2, data := .seq ys n, slots := t2 } ∧
        (∀ j (a : j < xs.size) (b : j < ys.size), EqP prog w A.in1 s xs[j] ys[j] (g j)) ∧
        R (.ok (.ret (.bool ((List.range (min xs.size ys.size)).all g && xs.size == ys.size)))) s) :=
  .of_wp fun A R s h => by
    obtain ⟨hp, gs, dd, tk, os⟩ := s
    obtain ⟨ho1, ho2, each, fin⟩ := h
    have st := AutoSeq1.sub_tuple_tuple
    have len : (xs.toList.zip ys.toList).length = min xs.size ys.size := by simp
    wp_walk using wpAny_loadPart' ho1, wpAny_loadPart' ho2, wpAny_forIn_list _ (fun rest b s' => b.1 = none ∧ s' = ⟨hp, gs, dd, tk, os⟩ ∧ ∃ i, rest = (xs.toList.zip ys.toList).drop i ∧
      R (.ok (.ret (.bool (((List.range (min xs.size ys.size)).drop i).all g && xs.size == ys.size)))) ⟨hp, gs, dd, tk, os⟩) _
    case turn =>
      rintro ⟨y, x⟩ rest b s' ⟨hb', rfl, i, hz, done⟩
      have hlt : i < (xs.toList.zip ys.toList).length := Nat.lt_of_not_le fun z => by rw [List.drop_of_length_le z] at hz; cases hz
      have both : i < min xs.size ys.size := len ▸ hlt
      have k1 : i < xs.size := by omega
      have k2 : i < ys.size := by omega
      rw [List.drop_eq_getElem_cons hlt] at hz
      injection hz with here more
      obtain rfl : y = xs[i] := by have := congrArg Prod.fst here; simpa using this
      obtain rfl : x = ys[i] := by have := congrArg Prod.snd here; simpa using this
      have rng : (List.range (min xs.size ys.size)).drop i = i :: (List.range (min xs.size ys.size)).drop (i + 1) := by simp [List.drop_eq_getElem_cons, both]
      rw [rng, List.all_cons] at done
      refine wpAny_bind (each i k1 k2 _ _ ?_)
      cases hy : g i with
      | true =>
        rw [hy] at done
        wp_walk
        exact ⟨rfl, rfl, i + 1, more, by simpa using done⟩
      | false =>
        rw [hy] at done
        wp_walk
        exact ⟨_, rfl, by simpa using done⟩
    case fin =>
      rintro ⟨b1, b2⟩ s' ⟨hb', rfl, i, hz, done⟩
      obtain rfl : b1 = none := hb'
      have past : min xs.size ys.size ≤ i := Nat.le_of_not_lt fun z => by
        rw [List.drop_eq_getElem_cons (len ▸ z)] at hz; cases hz
      rw [List.drop_of_length_le (by simpa using past)] at done
      wp_walk
      exact ⟨_, rfl, by simpa [Builtin.Tuple.tupleCompareSizes] using done⟩
    case h => exact ⟨rfl, rfl, 0, rfl, by simpa using fin⟩
theorem rcP_tuples {A : Around} {s : Shared} {p q : Addr} {xs ys : Array Value} {g : Nat → Bool} (hp : s.heap.IsTuple p xs) (hq : s.heap.IsTuple q ys) (hu : A.units < cLine)
    (each : ∀ j (a : j < xs.size) (b : j < ys.size), EqP prog w A.in1 s xs[j] ys[j] (g j)) (E Q : Value → Shared → Prop) (h : Q (.bool ((List.range (min xs.size ys.size)).all g && xs.size == ys.size)) s) : wpAny (model prog w) A (richCompare .Eq (.ref p) (.ref q)) Q E s := by
  obtain ⟨⟨c1, d1, a1, t1⟩, o1, e1, m, f1⟩ := id hp
  obtain ⟨⟨c2, d2, a2, t2⟩, o2, e2, n, f2⟩ := id hq
  simp only at e1 f1 e2 f2
  subst e1 f1 e2 f2
  have ta : s.TypeIs (.ref p) "tuple" := ⟨_, o1, rfl⟩
  have tb : s.TypeIs (.ref q) "tuple" := ⟨_, o2, rfl⟩
  refine wpAny_richCompare_same_room (op := .Eq) ta tb PySem.F.slot_tuple_eq (call_meetsIn PySem.F.slot_tuple_eq ta PySem.F.entry_tuple_eq (PySem.F.args_tuple_eq_2 _ _) (tup_eq_in p q xs ys m n d1 d2 t1 t2 g) ⟨o1, o2, each, ?_⟩) hu
  exact ⟨(fun z => nomatch z), h⟩
section
variable {κ : Type} [DecidableEq κ] {knd : PySem.KeyKind prog w κ} {A : Around} {s : Shared}
/-- a != b, two dicts -/
theorem neP_dicts {p q : Addr} {kp kq : List (κ × Value)} {r : Bool} (np : (p == sysModules) = false) (nq : (q == sysModules) = false)
    (dp : s.heap.DictOf knd p kp) (dq : s.heap.DictOf knd q kq) (hu : A.units < cLine) (hits : kp.length = kq.length → PySem.W.KeqHitsP prog w A.in1 s kq kp r) (E Q : Value → Shared → Prop) (h : Q (.bool (!(kp.length == kq.length && r))) s) :
    wpAny (model prog w) A (richCompare .NotEq (.ref p) (.ref q)) Q E s := by
  have body : wpAny (model prog w) A.in1 (Builtin.«dict.__ne__» ⟨[.ref p, .ref q], []⟩) (fun f s' => ∃ v, f = .done (.ret v) ∧ v ≠ .notImplemented ∧ Q v s') E s := by
    show wpAny _ _ (Builtin.Dict.dictSlotArgs "__ne__" ⟨[.ref p, .ref q], []⟩ >>= _) _ _ s
    refine wpAny_bind ?_
    unfold Builtin.Dict.dictSlotArgs
    refine wpAny_bind (wpAny_notOrdered_dict dp.typeIs ?_)
    show wpAny _ _ (pure (Value.ref p, Value.ref q)) _ _ s
    refine wpAny_pure (wpAny_bind (wpAny_isInstance (T := "dict") dq.typeIs PySem.F.sub_dict_dict ?_))
    simp only [Bool.not_true, Bool.false_eq_true, if_false]
    refine wpAny_bind (wpAny_pure (wpAny_bind (wpAny_pure (wpAny_bind (PySem.W.samePairsP np nq dp dq hits (wpAny_pure ⟨_, rfl, (fun z => nomatch z), ?_⟩))))))
    simpa using h
  exact wpAny_richCompare_same_room (op := .NotEq) dp.typeIs dq.typeIs PySem.F.slot_dict_ne (wpAny_call_entry PySem.F.slot_dict_ne dp.typeIs PySem.F.entry_dict_ne body (PySem.F.args_dict_ne_2 _ _)) hu
end
end DL
end
section
set_option Elab.async false
set_option linter.all false
set_option maxRecDepth 100000
set_option maxHeartbeats 4000000
/-! DL2b: dicts by their keys; == and repr of data with dicts. -/
namespace DL
open PySem PySem.Spec L2
/-! ### dicts by keys -/
/-- data that may be a key -/
def keyK : D → Option Key
  | .int i => some (.inl i)
  | .str x => some (.inr x)
  | _ => none
/-- what a dict holds at a key -/
def dget (kvs : List (D × D)) (k : D) : Option D := (kvs.find? fun p => PyData.eqv p.1 k).map (·.2)
theorem keyK_eq : ∀ {d : D} {k : Key}, keyK d = some k → d = keyD k
  | .int i, _, h => by cases h; rfl
  | .str x, _, h => by cases h; rfl
theorem eqv_key (a b : Key) : PyData.eqv (keyD a) (keyD b) = decide (a = b) := by
  cases a with
  | inl a => cases b with
    | inl b => rw [show keyD (.inl a) = .int a from rfl, show keyD (.inl b) = .int b from rfl]; simp only [PyData.eqv, Sum.inl.injEq]; exact Bool.beq_eq_decide_eq a b
    | inr b => simp [keyD, PyData.eqv]
  | inr a => cases b with
    | inl b => simp [keyD, PyData.eqv]
    | inr b => simp only [keyD, PyData.eqv, Sum.inr.injEq]; exact Bool.beq_eq_decide_eq a b
/-! ### what a dict holds -/
section
variable {K : PySem.W.Frag} {H : Hp} {F : Fz}
theorem dget_nil {k : D} : dget [] k = none := rfl
theorem look_ok {κ : Type} [DecidableEq κ] {enc : κ → D} (he : ∀ a b : κ, PyData.eqv (enc a) (enc b) = decide (a = b)) : ∀ {l : List (κ × V)} {kvs : List (D × D)}, kvs.map Prod.fst = l.map (fun p => enc p.1) → RpL K H F (kvs.map Prod.snd) (l.map (·.2)) → ∀ k : κ,
    (∀ d, dget kvs (enc k) = some d → ∃ v, valV l k = some v ∧ Rp K H F d v) ∧ (dget kvs (enc k) = none → valV l k = none)
  | [], [], _, _, k => ⟨fun _ h => (nomatch h), fun _ => rfl⟩
  | [], _ :: _, h, _, _ => by simp at h
  | _ :: _, [], h, _, _ => by simp at h
  | (k', v) :: l, (d', e) :: kvs, h, r, k => by
    simp only [List.map_cons, List.cons.injEq] at h
    obtain ⟨rfl, h⟩ := h
    cases r with
    | cons r1 r2 =>
      have ih := look_ok he h r2 k
      by_cases q : k' = k
      · subst q
        have e1 : dget ((enc k', e) :: kvs) (enc k') = some e := by simp [dget, List.find?_cons, he]
        refine ⟨fun d hd => ?_, fun hd => ?_⟩
        · rw [e1] at hd; cases hd
          exact ⟨v, valV_pos rfl, r1⟩
        · rw [e1] at hd; cases hd
      · have e1 : dget ((enc k', e) :: kvs) (enc k) = dget kvs (enc k) := by simp [dget, List.find?_cons, he, q]
        rw [e1, valV_neg (p := (k', v)) q]
        exact ih
theorem keyD_kV {v : V} {k : Key} (h : Rp K H F (keyD k) v) : v = kV k := by
  cases k with
  | inl i => cases (show Rp K H F (.int i) v from h); rfl
  | inr x => cases (show Rp K H F (.str x) v from h); rfl
/-- a key, seen -/
theorem Ob.key {v : V} {d : D} {k : Key} (h : Ob K H F v d) (e : keyK d = some k) : v = kV k := by
  cases d with
  | int i => cases e; exact h.int
  | str x => cases e; exact h.str
  | _ => simp [keyK] at e
/-- a dict, seen, asked at a key -/
theorem dic_get {a : Addr} {kvs : List (D × D)} {vs : List V} (hd : DicAt H a (kvs.map Prod.fst) vs) (r : RpL K H F (kvs.map Prod.snd) vs) {k : D} {s : Key} {x : V} (ok : Ob K H F x k) (e : keyK k = some s) :
    ∃ o, DGet H a x o ∧ (∀ d, dget kvs k = some d → ∃ v, o = some v ∧ Rp K H F d v) ∧ (dget kvs k = none → o = none) := by
  obtain ⟨l, hl, e1, e2⟩ := hd
  subst e2
  have hx := ok.key e
  subst hx
  rw [keyK_eq e]
  have := look_ok (enc := keyD) eqv_key e1 r s
  exact ⟨_, .inl ⟨l, s, hl, rfl, rfl⟩, this.1, this.2⟩
end


/-! ### data, read off the heap -/
theorem pairs_reads {P : Program} {w : World} {h : Heap} : ∀ {es : List DictEntry} {kb : List (Key × Value)}, PySem.Pairs (mixKind P w) es kb → ReadsAll h (es.map (·.key)) (kb.map fun q => keyD q.1) [] ∧ es.map (·.val) = kb.map (·.2)
  | _, _, .nil => ⟨.nil, rfl⟩
  | e :: es, kv :: kb, .cons k v r => by
    obtain ⟨r1, r2⟩ := pairs_reads r
    refine ⟨?_, by simp only [List.map_cons]; rw [v, r2]⟩
    have one : Reads h e.key (keyD kv.1) [] := by
      rcases keyIs_shape (show keyIs kv.1 e.key = true from k) with ⟨i, t, e1, e2⟩ | ⟨x, t, e1, e2⟩
      · rw [e1, e2]; exact .int i t
      · rw [e1, e2]; exact .str x t
    exact (ReadsAll.cons one r1 : ReadsAll h _ _ ([] ++ []))
theorem kv_keys : ∀ {l : List (Key × V)} {kb : List (Key × Value)}, KV l kb → kb.map (fun q => keyD q.1) = l.map (fun p => keyD p.1) ∧ Vals (l.map (·.2)) (kb.map (·.2))
  | _, _, .nil => ⟨rfl, .nil⟩
  | _, _, .cons h t => by
    obtain ⟨r1, r2⟩ := kv_keys t
    exact ⟨by simp only [List.map_cons]; rw [r1, h.1], .cons h.2 r2⟩
section
variable {X : Cx} {pins : List (Addr × Obj)} {σ : L2.St} {H : Hp} {s : Shared} {F : Fz}
theorem dic_obj (I : Inv X pins σ H s) {a : Addr} {l : List (Key × V)} (h : Rd H a (.dK l)) : ∃ o es ep kb, s.heap.get? a = some o ∧ o.cls = .type "dict" ∧ o.data = .dict es ep ∧ KV l kb ∧
    ReadsAll s.heap (es.toList.map (·.key)) (l.map fun p => keyD p.1) [] ∧ es.toList.map (·.val) = kb.map (·.2) ∧ (a == sysModules) = false := by
  obtain ⟨_, hy, kb, rb, o, es, ep, h1, h2, h3, h4, h5, h6⟩ := (show ObjOk X.prog X.w H s.heap a (.dK l) from h.ok I.hok)
  obtain ⟨k1, k2⟩ := pairs_reads (h := s.heap) h5
  exact ⟨o, es, ep, kb, h1, h2.1, h3, rb, by rw [← (kv_keys rb).1]; exact k1, k2, hy⟩
mutual
theorem Rp.reads (I : Inv X pins σ H s) : ∀ {d : D} {v : V} {u : Value}, Rp X.K H F d v → RelV v u → ∃ as, Reads s.heap u d as
  | _, _, _, .non, q => by cases q; exact ⟨_, .none⟩
  | _, _, _, .bl b, q => by cases q; exact ⟨_, .bool b⟩
  | _, _, _, .int i, q => by obtain ⟨t, rfl⟩ := q; exact ⟨_, .int i t⟩
  | _, _, _, .str x, q => by obtain ⟨t, rfl⟩ := q; exact ⟨_, .str x t⟩
  | _, _, _, .tup h r, q => by
    cases q
    obtain ⟨its, rv, ⟨o, h1, h2, n, h3⟩, _⟩ := I.tuple h.sq
    obtain ⟨as, ra⟩ := RpL.reads I r rv
    exact ⟨_, .tuple h1 h2 h3 (by simpa using ra)⟩
  | _, _, _, .lst _ h r, q => by
    cases q
    obtain ⟨its, rv, ⟨o, n, h1, h2, _, h3⟩, _⟩ := I.list (.of h)
    obtain ⟨as, ra⟩ := RpL.reads I r rv
    exact ⟨_, .list h1 h2 h3 (by simpa using ra)⟩
  | _, _, _, .dic _ ⟨l, h, e1, e2⟩ r, q => by
    cases q
    obtain ⟨o, es, ep, kb, h1, h2, h3, rb, k1, k2, _⟩ := dic_obj I h
    obtain ⟨as, ra⟩ := RpL.reads I r (show Vals _ (kb.map (·.2)) by rw [e2]; exact (kv_keys rb).2)
    exact ⟨_, .dict h1 h2 h3 (by rw [← e1] at k1; exact k1) (by rw [k2]; exact ra)⟩
theorem RpL.reads (I : Inv X pins σ H s) : ∀ {ds : List D} {xs : List V} {us : List Value}, RpL X.K H F ds xs → Vals xs us → ∃ as, ReadsAll s.heap us ds as
  | _, _, _, .nil, .nil => ⟨_, .nil⟩
  | _, _, _, .cons h r, .cons q t => by
    obtain ⟨as, r1⟩ := Rp.reads I h q
    obtain ⟨bs, r2⟩ := RpL.reads I r t
    exact ⟨_, .cons r1 r2⟩
end

/-! ### repr of data with dicts -/
theorem up_le {h : Heap} {m n : Nat} {bs : List Addr} (k : m ≤ n) (q : ReadAtMost h m bs) : ReadAtMost h n bs := q.mono k
mutual
theorem Rp.shows (I : Inv X pins σ H s) : ∀ {d : D} {v : V} {u : Value}, Rp X.K H F d v → RelV v u → d.showable = true → d.shown.length ≤ sizeLine →
    ∃ bs, ReadAtMost s.heap d.depth bs ∧ ReprK X.prog X.w bs s.heap d.depth u d.shown
  | _, _, _, .non, q, _, _ => by cases q; exact ⟨[], (fun _ z => nomatch z), by simp only [PyData.shown]; exact .of_is .none _ _ _⟩
  | _, _, _, .bl b, q, _, _ => by cases q; exact ⟨[], (fun _ z => nomatch z), by simp only [PyData.shown]; exact .of_is (.bool b) _ _ _⟩
  | _, _, _, .int i, q, sw, _ => by
    obtain ⟨t, rfl⟩ := q
    exact ⟨[], (fun _ z => nomatch z), by simp only [PyData.shown]; exact .of_is (.int t (by simpa [PyData.showable] using sw)) _ _ _⟩
  | _, _, _, .str x, q, _, sz => by
    obtain ⟨t, rfl⟩ := q
    exact ⟨[], (fun _ z => nomatch z), by simp only [PyData.shown]; exact .of_is (.str x t (by simpa only [PyData.shown] using sz)) _ _ _⟩
  | _, _, _, .tup (ds := ds) h r, q, sw, sz => by
    obtain ⟨as, rd⟩ := Rp.reads I (.tup h r) q
    cases q
    obtain ⟨its, rv, ⟨o, h1, h2, n, h3⟩, _⟩ := I.tuple h.sq
    have sz1 : (tupleText (PyData.shownAll ds)).length ≤ sizeLine := by simpa only [PyData.shown] using sz
    obtain ⟨bs, low, each⟩ := RpL.shows I r rv (by simpa [PyData.showable] using sw) fun t m => Nat.le_trans (tupleText_mem_le m) sz1
    have deep : PyData.depthAll ds < (PyData.tuple ds).depth := by simp only [PyData.depth]; omega
    refine ⟨_ :: bs, .cons rd (Nat.le_of_lt deep) low, ?_⟩
    simp only [PyData.depth, PyData.shown]
    exact .tuple h1 h2 h3 (not_mem_of_deeper rd deep low) (by simpa using each)
  | _, _, _, .lst (ds := ds) f h r, q, sw, sz => by
    obtain ⟨as, rd⟩ := Rp.reads I (.lst f h r) q
    cases q
    obtain ⟨its, rv, ⟨o, n, h1, h2, _, h3⟩, _⟩ := I.list (.of h)
    have sz1 : (listText (PyData.shownAll ds)).length ≤ sizeLine := by simpa only [PyData.shown] using sz
    obtain ⟨bs, low, each⟩ := RpL.shows I r rv (by simpa [PyData.showable] using sw) fun t m => Nat.le_trans (listText_mem_le m) sz1
    have deep : PyData.depthAll ds < (PyData.list ds).depth := by simp only [PyData.depth]; omega
    refine ⟨_ :: bs, .cons rd (Nat.le_of_lt deep) low, ?_⟩
    simp only [PyData.depth, PyData.shown]
    cases r with
    | nil =>
      cases rv
      simp only [PyData.shownAll, listText_nil]
      exact .listEmpty h1 h2 h3
    | cons r1 r2 =>
      cases rv with
      | cons q1 q2 => exact .list h1 h2 h3 (not_mem_of_deeper rd deep low) (by simpa using each.length_eq) fun i y e => each.item i y (by simpa using e)
  | _, _, _, .dic (kvs := kvs) f dd r, q, sw, sz => by
    obtain ⟨as, rd⟩ := Rp.reads I (.dic f dd r) q
    cases q
    obtain ⟨l, h, e1, e2⟩ := dd
    obtain ⟨o, es, ep, kb, h1, h2, h3, rb, k1, k2, hy⟩ := dic_obj I h
    have sz1 : (dictText (PyData.shownKv kvs)).length ≤ sizeLine := by simpa only [PyData.shown] using sz
    obtain ⟨w1, w2⟩ := PyData.showableKv_split kvs (by simpa [PyData.showable] using sw)
    rw [← e1] at k1
    obtain ⟨b1, l1, s1⟩ := ReprAllK.of_readsAll (prog := X.prog) (w := X.w) k1 w1 (fun _ z => nomatch z) fun t m => let ⟨p, hp, hl⟩ := PyData.shownKv_key_le kvs t m; Nat.le_trans hl (Nat.le_trans (dictText_mem_le hp) sz1)
    obtain ⟨b2, l2, s2⟩ := RpL.shows I r (show Vals _ (kb.map (·.2)) by rw [e2]; exact (kv_keys rb).2) w2 fun t m => let ⟨p, hp, hl⟩ := PyData.shownKv_val_le kvs t m; Nat.le_trans hl (Nat.le_trans (dictText_mem_le hp) sz1)
    have low : ReadAtMost s.heap (PyData.depthKv kvs) (b1 ++ b2) := (up_le (PyData.depthAll_keys_le kvs) l1).append (up_le (PyData.depthAll_vals_le kvs) l2)
    have deep : PyData.depthKv kvs < (PyData.dict kvs).depth := by simp only [PyData.depth]; omega
    refine ⟨_ :: (b1 ++ b2), .cons rd (Nat.le_of_lt deep) low, ?_⟩
    simp only [PyData.depth, PyData.shown, PyData.shownKv_eq]
    rw [← k2] at s2
    exact .dict h1 h2 h3 hy (not_mem_of_deeper rd deep low) (ReprEntriesK.of_two es.toList _ _ (s1.more_le (fun b m => List.mem_append_left _ m) (PyData.depthAll_keys_le kvs)) (s2.more_le (fun b m => List.mem_append_right _ m) (PyData.depthAll_vals_le kvs)))
theorem RpL.shows (I : Inv X pins σ H s) : ∀ {ds : List D} {xs : List V} {us : List Value}, RpL X.K H F ds xs → Vals xs us → PyData.showableAll ds = true → (∀ t ∈ PyData.shownAll ds, t.length ≤ sizeLine) →
    ∃ bs, ReadAtMost s.heap (PyData.depthAll ds) bs ∧ ReprAllK X.prog X.w bs s.heap (PyData.depthAll ds) us (PyData.shownAll ds)
  | _, _, _, .nil, .nil, _, _ => ⟨[], (fun _ z => nomatch z), by simp only [PyData.shownAll]; exact .nil⟩
  | d :: ds, _, _, .cons h r, .cons q t, sw, sz => by
    have w2 : d.showable = true ∧ PyData.showableAll ds = true := by simpa [PyData.showableAll] using sw
    obtain ⟨b1, l1, s1⟩ := Rp.shows I h q w2.1 (sz _ (by simp only [PyData.shownAll]; exact List.mem_cons_self))
    obtain ⟨b2, l2, s2⟩ := RpL.shows I r t w2.2 fun y m => sz y (by simp only [PyData.shownAll]; exact List.mem_cons_of_mem _ m)
    refine ⟨b1 ++ b2, ?_, ?_⟩
    · simp only [PyData.depthAll]
      exact (up_le (Nat.le_max_left _ _) l1).append (up_le (Nat.le_max_right _ _) l2)
    · simp only [PyData.depthAll, PyData.shownAll]
      exact .cons ((s1.more fun b m => List.mem_append_left _ m).level_le (Nat.le_max_left _ _)) (s2.more_le (fun b m => List.mem_append_right _ m) (Nat.le_max_right _ _))
end

/-- what a seen list shows -/
theorem shows_list (I : Inv X pins σ H s) {a : Addr} {xs : List V} {ds : List D} (h : H a = some (.lst xs)) (r : RpL X.K H F ds xs) (sw : (PyData.list ds).showable = true) (sz : (PyData.list ds).shown.length ≤ sizeLine) : ShowsBy X.prog X.w s.heap a (.list ds) "list" "list.__repr__" := by
  obtain ⟨its, rv, ⟨o, n, h1, h2, _, h3⟩, _⟩ := I.list (.of h)
  obtain ⟨as, ra⟩ := RpL.reads I r rv
  have rd : Reads s.heap (.ref a) (.list ds) (a :: as) := .list h1 h2 h3 (by simpa using ra)
  have sz1 : (listText (PyData.shownAll ds)).length ≤ sizeLine := by simpa only [PyData.shown] using sz
  obtain ⟨bs, low, each⟩ := RpL.shows I r rv (by simpa [PyData.showable] using sw) fun t m => Nat.le_trans (listText_mem_le m) sz1
  have hn : a ∉ bs := not_mem_of_deeper rd (by simp only [PyData.depth]; omega) low
  refine ⟨PySem.F.slot_list_repr.toG, PySem.F.slot_list_str, PySem.F.slot_list_format, fun t k => ⟨o, k _ _ h1, h2⟩, fun A E t Q hg hu k q => ?_⟩
  simp only [PyData.depth] at hu
  simp only [PyData.shown] at q
  cases r with
  | nil =>
    cases rv
    simp only [PyData.shownAll, listText_nil] at q
    exact call_list_repr_empty ⟨o, k _ _ h1, h2⟩ (k _ _ h1) h3 (q t.heap _ _ fun _ _ e => e)
  | cons r1 r2 =>
    cases rv with
    | cons q1 q2 => exact call_list_reprK h1 h2 h3 hn (by simpa using each.length_eq) (fun i y e => each.item i y (by simpa using e)) hg (fun b _ => .nil b) hu k q sz1
theorem shows_tup (I : Inv X pins σ H s) {a : Addr} {xs : List V} {ds : List D} (h : TpAt H a xs) (r : RpL X.K H F ds xs) (sw : (PyData.tuple ds).showable = true) (sz : (PyData.tuple ds).shown.length ≤ sizeLine) : ShowsBy X.prog X.w s.heap a (.tuple ds) "tuple" "tuple.__repr__" := by
  obtain ⟨its, rv, ⟨o, h1, h2, n, h3⟩, _⟩ := I.tuple h.sq
  obtain ⟨as, ra⟩ := RpL.reads I r rv
  have rd : Reads s.heap (.ref a) (.tuple ds) as := .tuple h1 h2 h3 (by simpa using ra)
  have sz1 : (tupleText (PyData.shownAll ds)).length ≤ sizeLine := by simpa only [PyData.shown] using sz
  obtain ⟨bs, low, each⟩ := RpL.shows I r rv (by simpa [PyData.showable] using sw) fun t m => Nat.le_trans (tupleText_mem_le m) sz1
  have hn : a ∉ bs := not_mem_of_deeper rd (by simp only [PyData.depth]; omega) low
  refine ⟨PySem.F.slot_tuple_repr, PySem.F.slot_tuple_str, PySem.F.slot_tuple_format, fun t k => ⟨o, k _ _ h1, h2⟩, fun A E t Q hg hu k q => ?_⟩
  simp only [PyData.depth] at hu
  simp only [PyData.shown] at q
  exact call_tuple_reprK h1 h2 h3 hn (by simpa using each) hg (fun b _ => .nil b) hu k q sz1
theorem shows_dict (I : Inv X pins σ H s) {a : Addr} {kvs : List (D × D)} {vs : List V} (h : DicAt H a (kvs.map Prod.fst) vs) (r : RpL X.K H F (kvs.map Prod.snd) vs) (sw : (PyData.dict kvs).showable = true) (sz : (PyData.dict kvs).shown.length ≤ sizeLine) : ShowsBy X.prog X.w s.heap a (.dict kvs) "dict" "dict.__repr__" := by
  obtain ⟨l, h, e1, e2⟩ := h
  obtain ⟨o, es, ep, kb, h1, h2, h3, rb, k1, k2, hy⟩ := dic_obj I h
  have rv : Vals vs (kb.map (·.2)) := by rw [e2]; exact (kv_keys rb).2
  rw [← e1] at k1
  obtain ⟨as, ra⟩ := RpL.reads I r rv
  have rd : Reads s.heap (.ref a) (.dict kvs) (a :: [] ++ as) := .dict h1 h2 h3 k1 (by rw [k2]; exact ra)
  have sz1 : (dictText (PyData.shownKv kvs)).length ≤ sizeLine := by simpa only [PyData.shown] using sz
  obtain ⟨w1, w2⟩ := PyData.showableKv_split kvs (by simpa [PyData.showable] using sw)
  obtain ⟨b1, l1, s1⟩ := ReprAllK.of_readsAll (prog := X.prog) (w := X.w) k1 w1 (fun _ z => nomatch z) fun t m => let ⟨p, hp, hl⟩ := PyData.shownKv_key_le kvs t m; Nat.le_trans hl (Nat.le_trans (dictText_mem_le hp) sz1)
  obtain ⟨b2, l2, s2⟩ := RpL.shows I r rv w2 fun t m => let ⟨p, hp, hl⟩ := PyData.shownKv_val_le kvs t m; Nat.le_trans hl (Nat.le_trans (dictText_mem_le hp) sz1)
  have low : ReadAtMost s.heap (PyData.depthKv kvs) (b1 ++ b2) := (up_le (PyData.depthAll_keys_le kvs) l1).append (up_le (PyData.depthAll_vals_le kvs) l2)
  have hn : a ∉ b1 ++ b2 := not_mem_of_deeper rd (by simp only [PyData.depth]; omega) low
  rw [← k2] at s2
  refine ⟨PySem.F.slot_dict_repr, PySem.F.slot_dict_str, PySem.F.slot_dict_format, fun t k => ⟨o, k _ _ h1, h2⟩, fun A E t Q hg hu k q => ?_⟩
  simp only [PyData.depth] at hu
  simp only [PyData.shown, PyData.shownKv_eq] at q
  exact call_dict_reprK h1 h2 h3 hy hn (ReprEntriesK.of_two es.toList _ _ (s1.more_le (fun b m => List.mem_append_left _ m) (PyData.depthAll_keys_le kvs)) (s2.more_le (fun b m => List.mem_append_right _ m) (PyData.depthAll_vals_le kvs))) hg (fun b _ => .nil b) hu k q (by rw [← PyData.shownKv_eq]; exact sz1)
theorem Ob.shows (I : Inv X pins σ H s) {v : V} {d : D} {a : Addr} (h : Ob X.K H F v d) (e : v = .ref a) (sw : d.showable = true) (sz : d.shown.length ≤ sizeLine) : ∃ T idr, ShowsBy X.prog X.w s.heap a d T idr := by
  subst e
  rcases h with h | ⟨b, e, t⟩
  · cases h with
    | tup h r => exact ⟨_, _, shows_tup I h r sw sz⟩
    | lst f h r => exact ⟨_, _, shows_list I h r sw sz⟩
    | dic f h r => exact ⟨_, _, shows_dict I h r sw sz⟩
  · cases e
    cases d with
    | list ds => obtain ⟨xs, h, r⟩ := t; exact ⟨_, _, shows_list I h r sw sz⟩
    | dict kvs => obtain ⟨vs, h, r⟩ := t; exact ⟨_, _, shows_dict I h.r r sw sz⟩
    | _ => exact t.elim
end

/-! ### == of data with dicts -/
/-- different keys -/
def kOk : List (D × D) → Bool
  | [] => true
  | p :: r => PyData.eqv p.1 p.1 && (r.all fun q => !PyData.eqv p.1 q.1 && !PyData.eqv q.1 p.1) && kOk r
def allX : List (Option Bool) → Option Bool
  | [] => some true
  | some b :: r => (allX r).map (b && ·)
  | none :: _ => none
def eqX : Nat → D → D → Option Bool
  | 0, _, _ => none
  | n + 1, a, b => if SeqAt.shaped a && SeqAt.shaped b then some (PyData.eqv a b) else match a, b with
    | .dict xs, .dict ys => if kOk xs then (if xs.length = ys.length then allX (xs.map fun p => match dget ys p.1 with
      | none => some false
      | some e => eqX n p.2 e) else some false) else none
    | .list xs, .list ys => if xs.length = ys.length then allX (xs.zipWith (eqX n) ys) else none
    | .tuple xs, .tuple ys => if xs.length = ys.length then allX (xs.zipWith (eqX n) ys) else none
    | _, _ => none
theorem allX_true : ∀ {l : List (Option Bool)} {b : Bool}, allX l = some b → (∀ o ∈ l, ∀ c, o = some c → c = true) → b = true
  | [], _, h, _ => by cases h; rfl
  | none :: r, b, h, _ => by cases h
  | some c :: r, b, h, k => by
    obtain ⟨d, h1, rfl⟩ := Option.map_eq_some_iff.mp (show (allX r).map (c && ·) = some b from h)
    rw [k _ List.mem_cons_self c rfl, allX_true h1 fun o ho => k o (List.mem_cons_of_mem _ ho)]; rfl
theorem dget_self : ∀ {xs : List (D × D)} {p : D × D}, kOk xs = true → p ∈ xs → dget xs p.1 = some p.2
  | q :: r, p, h, hp => by
    unfold kOk at h
    rw [Bool.and_eq_true, Bool.and_eq_true] at h
    obtain ⟨⟨h1, h2⟩, h3⟩ := h
    rcases List.mem_cons.mp hp with rfl | hp
    · simp [dget, List.find?_cons, h1]
    · have := List.all_eq_true.mp h2 p hp
      rw [Bool.and_eq_true] at this
      have e1 : PyData.eqv q.1 p.1 = false := by simpa using this.1
      have ih := dget_self h3 hp
      simpa [dget, List.find?_cons, e1] using ih
theorem zip_same {n : Nat} (f : D → D → Option Bool) : ∀ {xs : List D}, (∀ x ∈ xs, ∀ c, f x x = some c → c = true) → ∀ o ∈ xs.zipWith f xs, ∀ c, o = some c → c = true
  | [], _, o, ho, _, _ => by simp at ho
  | x :: xs, h, o, ho, c, e => by
    rw [List.zipWith_cons_cons] at ho
    rcases List.mem_cons.mp ho with rfl | ho
    · exact h x List.mem_cons_self c e
    · exact zip_same (n := n) f (fun y hy => h y (List.mem_cons_of_mem _ hy)) o ho c e
mutual
theorem eqv_refl : ∀ (d : D), d.canLay0 = true → PyData.eqv d d = true
  | .none, _ => by simp [PyData.eqv]
  | .bool b, _ => by simp [PyData.eqv]
  | .int i, _ => by simp [PyData.eqv]
  | .str x, _ => by simp [PyData.eqv]
  | .list xs, h => by simp only [PyData.canLay0] at h; simpa only [PyData.eqv] using eqvs_refl xs h
  | .tuple xs, h => by simp only [PyData.canLay0] at h; simpa only [PyData.eqv] using eqvs_refl xs h
  | .dict _, h => by simp [PyData.canLay0] at h
theorem eqvs_refl : ∀ (ds : List D), PyData.canLayAll0 ds = true → PyData.eqvAll ds ds = true
  | [], _ => by simp [PyData.eqvAll]
  | x :: xs, h => by
    simp only [PyData.canLayAll0, Bool.and_eq_true] at h
    simp only [PyData.eqvAll, eqv_refl x h.1, eqvs_refl xs h.2, Bool.and_self]
end
theorem shaped_lay {d : D} (h : SeqAt.shaped d = true) : d.canLay0 = true := by
  unfold SeqAt.shaped at h
  exact (Bool.and_eq_true_iff.mp h).1
theorem eqX_same : ∀ (n : Nat) (d : D) (c : Bool), eqX n d d = some c → c = true
  | 0, _, _, h => by cases h
  | n + 1, d, c, h => by
    unfold eqX at h
    split at h
    · rename_i hs
      cases h
      exact eqv_refl d (shaped_lay (Bool.and_eq_true_iff.mp hs).1)
    · split at h
      · split at h
        · rename_i hk
          rw [if_pos rfl] at h
          refine allX_true h fun o ho c' e => ?_
          obtain ⟨p, hp, rfl⟩ := List.mem_map.mp ho
          rw [dget_self hk hp] at e
          exact eqX_same n p.2 c' e
        · cases h
      · rw [if_pos rfl] at h
        exact allX_true h (zip_same (n := n) _ fun x _ c' e => eqX_same n x c' e)
      · rw [if_pos rfl] at h
        exact allX_true h (zip_same (n := n) _ fun x _ c' e => eqX_same n x c' e)
      · cases h
/-- what a value stands for is one -/
theorem DicAt.fn {H : Hp} {a : Addr} {k1 k2 : List D} {v1 v2 : List V} (h : DicAt H a k1 v1) (g : DicAt H a k2 v2) : k1 = k2 ∧ v1 = v2 := by
  obtain ⟨l, h, e1, e2⟩ := h
  obtain ⟨m, g, f1, f2⟩ := g
  have : l = m := by
    rcases h with h | ⟨o, h⟩ <;> rcases g with g | ⟨o2, g⟩ <;> rw [h] at g <;> cases g <;> rfl
  subst this
  exact ⟨e1.trans f1.symm, e2.trans f2.symm⟩
theorem DicAt.no {H : Hp} {a : Addr} {ks : List D} {vs : List V} {u : HO} (h : DicAt H a ks vs) (e : H a = some u) : (∀ xs, u ≠ .lst xs) ∧ ∀ o xs, u ≠ .frz o (.tup xs) := by
  obtain ⟨l, h, _⟩ := h
  rcases h with h | ⟨o, h⟩ <;> rw [h] at e <;> cases e <;> exact ⟨(fun _ z => nomatch z), fun _ _ z => nomatch z⟩
theorem pairs_ext : ∀ {xs ys : List (D × D)}, xs.map Prod.fst = ys.map Prod.fst → xs.map Prod.snd = ys.map Prod.snd → xs = ys
  | [], [], _, _ => rfl
  | [], _ :: _, h, _ => by simp at h
  | _ :: _, [], h, _ => by simp at h
  | (a, b) :: xs, (c, d) :: ys, h, g => by
    simp only [List.map_cons, List.cons.injEq] at h g
    rw [h.1, g.1, pairs_ext h.2 g.2]
section
variable {K : PySem.W.Frag} {H : Hp} {F : Fz}
mutual
theorem Rp.fn : ∀ {d : D} {v : V}, Rp K H F d v → ∀ {e : D}, Rp K H F e v → d = e
  | _, _, .non, _, q => by cases q; rfl
  | _, _, .bl b, _, q => by cases q; rfl
  | _, _, .int i, _, q => by cases q; rfl
  | _, _, .str x, _, q => by cases q; rfl
  | _, _, .tup ⟨o, _, h⟩ r, _, q => by
    cases q with
    | tup g r2 =>
      obtain ⟨o2, _, g⟩ := g
      rw [h] at g
      cases g
      rw [RpL.fn r r2]
    | lst _ g _ => rw [h] at g; cases g
    | dic _ g _ => exact absurd rfl ((g.no h).2 _ _)
  | _, _, .lst _ h r, _, q => by
    cases q with
    | tup g _ => obtain ⟨_, _, g⟩ := g; rw [h] at g; cases g
    | lst _ g r2 =>
      rw [h] at g
      cases g
      rw [RpL.fn r r2]
    | dic _ g _ => exact absurd rfl ((g.no h).1 _)
  | _, _, .dic _ h r, _, q => by
    cases q with
    | tup g _ => obtain ⟨_, _, g⟩ := g; exact absurd rfl ((h.no g).2 _ _)
    | lst _ g _ => exact absurd rfl ((h.no g).1 _)
    | dic _ g r2 =>
      obtain ⟨e1, e2⟩ := h.fn g
      subst e2
      rw [pairs_ext e1 (RpL.fn r r2)]
theorem RpL.fn : ∀ {ds : List D} {vs : List V}, RpL K H F ds vs → ∀ {es : List D}, RpL K H F es vs → ds = es
  | _, _, .nil, _, q => by cases q; rfl
  | _, _, .cons h r, _, q => by
    cases q with
    | cons g t => rw [Rp.fn h g, RpL.fn r t]
end
end
section
variable {X : Cx} {pins : List (Addr × Obj)} {σ : L2.St} {H : Hp} {s : Shared} {F : Fz}
open PySem.SeqAt in
/-- the items of two rows, compared one by one -/
theorem zip_run {A : Around} {n : Nat} {ds es : List D} {xs ys : List V} {us ws : List Value} {k : Bool} (hl : ds.length = es.length)
    (one : ∀ {a b x y v u c}, Rp X.K H F a x → Rp X.K H F b y → RelV x v → RelV y u → eqX n a b = some c → EqP X.prog X.w A s v u c)
    (r1 : RpL X.K H F ds xs) (r2 : RpL X.K H F es ys) (q1 : Vals xs us) (q2 : Vals ys ws) (h : allX (ds.zipWith (eqX n) es) = some k) :
    ∃ g : Nat → Bool, (∀ j (a : j < us.length) (b : j < ws.length), EqP X.prog X.w A s us[j] ws[j] (g j)) ∧ (List.range us.length).all g = k := by
  induction ds generalizing es xs ys us ws k with
  | nil =>
    cases r1; cases q1
    cases es with
    | cons e es => cases hl
    | nil => cases h; exact ⟨fun _ => true, fun j a => absurd a (Nat.not_lt_zero j), rfl⟩
  | cons d ds ih =>
    cases es with
    | nil => cases hl
    | cons e es =>
      cases r1 with
      | cons a1 b1 =>
        cases r2 with
        | cons a2 b2 =>
          cases q1 with
          | cons c1 d1 =>
            cases q2 with
            | cons c2 d2 =>
              rw [List.zipWith_cons_cons] at h
              cases hx : eqX n d e with
              | none => rw [hx] at h; cases h
              | some c =>
                rw [hx] at h
                obtain ⟨k', hk, rfl⟩ := Option.map_eq_some_iff.mp (show (allX _).map (c && ·) = some k from h)
                obtain ⟨g, g1, g2⟩ := ih (Nat.succ.inj hl) b1 b2 d1 d2 hk
                refine ⟨fun j => match j with
                  | 0 => c
                  | j + 1 => g j, fun j a b => ?_, ?_⟩
                · cases j with
                  | zero => exact one a1 a2 c1 c2 hx
                  | succ j => exact g1 j (Nat.lt_of_succ_lt_succ a) (Nat.lt_of_succ_lt_succ b)
                · rw [List.length_cons, List.range_succ_eq_map, List.all_cons, List.all_map, ← g2]
                  rfl
open PySem.SeqAt in
/-- the values of two dicts, compared key by key -/
theorem hits_X {A : Around} {n : Nat} {ys : List (D × D)} {m : List (Key × V)} {kb : List (Key × Value)} (e1 : ys.map Prod.fst = m.map fun p => keyD p.1) (r2 : RpL X.K H F (ys.map Prod.snd) (m.map (·.2))) (q2 : KV m kb)
    (one : ∀ {a b x y v u c}, Rp X.K H F a x → Rp X.K H F b y → RelV x v → RelV y u → eqX n a b = some c → EqP X.prog X.w A s v u c) :
    ∀ {xs : List (D × D)} {l : List (Key × V)} {ka : List (Key × Value)} {k : Bool}, xs.map Prod.fst = l.map (fun p => keyD p.1) → RpL X.K H F (xs.map Prod.snd) (l.map (·.2)) → KV l ka →
      allX (xs.map fun p => match dget ys p.1 with
        | none => some false
        | some e => eqX n p.2 e) = some k → PySem.W.KeqHitsP X.prog X.w A s kb ka k
  | [], [], _, k, _, _, .nil, h => by cases h; exact .nil
  | [], _ :: _, _, _, h, _, _, _ => by simp at h
  | _ :: _, [], _, _, h, _, _, _ => by simp at h
  | (d, e) :: xs, (c, v) :: l, _, k, h, r, .cons q t, hk => by
    simp only [List.map_cons, List.cons.injEq] at h
    obtain ⟨rfl, h⟩ := h
    cases r with
    | cons ra rb =>
      rename_i kv ka
      obtain ⟨key, val⟩ := kv
      obtain ⟨rfl, q⟩ := (show c = key ∧ RelV v val from q)
      have look := look_ok (enc := keyD) eqv_key e1 r2 c
      have rr : RelO (valV m c) (PySem.valueAt kb c) := q2.val c
      simp only [List.map_cons] at hk
      cases hd : dget ys (keyD c) with
      | none =>
        rw [hd] at hk
        obtain ⟨k', hk', rfl⟩ := Option.map_eq_some_iff.mp (show (allX _).map (false && ·) = some k from hk)
        rw [look.2 hd] at rr
        have hv : PySem.valueAt kb c = none := rr.none_of
        exact .miss hv
      | some e' =>
        rw [hd] at hk
        obtain ⟨v2, h1, h2⟩ := look.1 e' hd
        rw [h1] at rr
        obtain ⟨u2, hu, ru⟩ := rr.some_of
        cases hx : eqX n e e' with
        | none => simp only [hx] at hk; cases hk
        | some b =>
          simp only [hx] at hk
          obtain ⟨k', hk', rfl⟩ := Option.map_eq_some_iff.mp (show (allX _).map (b && ·) = some k from hk)
          exact .hit hu (one ra h2 (show RelV v val from q.2) ru hx) (hits_X e1 r2 q2 one h rb t hk')

open PySem.SeqAt in
theorem eqX_rc (I : Inv X pins σ H s) {A : Around} {n : Nat} (hu : A.units < cLine) (one : ∀ {a b x y v u c}, Rp X.K H F a x → Rp X.K H F b y → RelV x v → RelV y u → eqX n a b = some c → EqP X.prog X.w A.in1 s v u c)
    {a b : D} {x y : V} {v u : Value} {c : Bool} (ha : Ob X.K H F x a) (hb : Ob X.K H F y b) (rx : RelV x v) (ry : RelV y u) (ns : ¬ (SeqAt.shaped a && SeqAt.shaped b) = true) (h : eqX (n + 1) a b = some c) :
    (∃ p q, v = .ref p ∧ u = .ref q) ∧ ∀ (E Q : Value → Shared → Prop), Q (.bool c) s → wpAny (model X.prog X.w) A (richCompare .Eq v u) Q E s := by
  unfold eqX at h
  rw [if_neg ns] at h
  split at h
  · rename_i xs ys
    split at h
    · rename_i hk
      obtain ⟨p, vs, rfl, ⟨l, h1, f1, f2⟩, r1⟩ := ha.dict
      obtain ⟨q, ws, rfl, ⟨m, h2, g1, g2⟩, r2⟩ := hb.dict
      subst f2 g2
      cases (show v = Value.ref p from rx)
      cases (show u = Value.ref q from ry)
      obtain ⟨_, ya, ka, ra, da⟩ := (show ObjOk X.prog X.w H s.heap p (.dK l) from h1.ok I.hok)
      obtain ⟨_, yb, kb, rb, db⟩ := (show ObjOk X.prog X.w H s.heap q (.dK m) from h2.ok I.hok)
      have e1 : ka.length = xs.length := by
        have := congrArg List.length f1
        simp only [List.length_map] at this
        rw [← ra.length]; exact this.symm
      have e2 : kb.length = ys.length := by
        have := congrArg List.length g1
        simp only [List.length_map] at this
        rw [← rb.length]; exact this.symm
      refine ⟨⟨p, q, rfl, rfl⟩, fun E Q hq => ?_⟩
      split at h
      · rename_i hl
        refine PySem.W.rcP_dicts (knd := mixKind X.prog X.w) (r := c) ya yb da db hu (fun _ => hits_X g1 r2 rb one f1 r1 ra h) E Q ?_
        rw [show (ka.length == kb.length && c) = c from by rw [e1, e2, hl]; simp]
        exact hq
      · rename_i hl
        cases h
        refine PySem.W.rcP_dicts (knd := mixKind X.prog X.w) (r := false) ya yb da db hu (fun z => absurd (by rw [← e1, ← e2]; exact z) hl) E Q ?_
        rw [show (ka.length == kb.length && false) = false from Bool.and_false _]
        exact hq
    · cases h
  · split at h
    · rename_i hl
      obtain ⟨p, vs, rfl, h1, r1⟩ := ha.list
      obtain ⟨q, ws, rfl, h2, r2⟩ := hb.list
      cases (show v = Value.ref p from rx)
      cases (show u = Value.ref q from ry)
      obtain ⟨us, q1, p1, _⟩ := I.list (.of h1)
      obtain ⟨ts, q2, p2, _⟩ := I.list (.of h2)
      obtain ⟨g, g1, g2⟩ := zip_run hl one r1 r2 q1 q2 h
      have hsz : us.toArray.size = ts.toArray.size := by
        rw [List.size_toArray, List.size_toArray, ← q1.length, ← q2.length, ← r1.length, ← r2.length, hl]
      refine ⟨⟨p, q, rfl, rfl⟩, fun E Q hq => PySem.SeqAt.rcP_lists (e := g) p1.isList p2.isList hsz hu (fun j a b => ?_) E Q ?_⟩
      · simpa using g1 j (by simpa using a) (by simpa using b)
      · rw [List.size_toArray, g2]; exact hq
    · cases h
  · split at h
    · rename_i hl
      obtain ⟨p, vs, rfl, h1, r1⟩ := ha.tuple
      obtain ⟨q, ws, rfl, h2, r2⟩ := hb.tuple
      cases (show v = Value.ref p from rx)
      cases (show u = Value.ref q from ry)
      obtain ⟨us, q1, p1, _⟩ := I.tuple h1.sq
      obtain ⟨ts, q2, p2, _⟩ := I.tuple h2.sq
      obtain ⟨g, g1, g2⟩ := zip_run hl one r1 r2 q1 q2 h
      have hsz : us.toArray.size = ts.toArray.size := by
        rw [List.size_toArray, List.size_toArray, ← q1.length, ← q2.length, ← r1.length, ← r2.length, hl]
      refine ⟨⟨p, q, rfl, rfl⟩, fun E Q hq => rcP_tuples (g := g) p1 p2 hu (fun j a b => ?_) E Q ?_⟩
      · simpa using g1 j (by simpa using a) (by simpa using b)
      · rw [← hsz, Nat.min_self, List.size_toArray, g2]
        simpa using hq
    · cases h
  · cases h
open PySem.SeqAt in
theorem eqX_run (I : Inv X pins σ H s) : ∀ (n : Nat) (A : Around), A.units + n + 64 < cLine → ∀ {a b : D} {x y : V} {v u : Value} {c : Bool}, Rp X.K H F a x → Rp X.K H F b y → RelV x v → RelV y u → eqX n a b = some c → EqP X.prog X.w A s v u c
  | 0, _, _, _, _, _, _, _, _, _, _, _, _, _, h => by cases h
  | n + 1, A, hu, a, b, x, y, v, u, c, ra, rb, rx, ry, h => by
    by_cases hs : (SeqAt.shaped a && SeqAt.shaped b) = true
    · have hb := Bool.and_eq_true_iff.mp hs
      unfold eqX at h
      rw [if_pos hs] at h
      cases h
      obtain ⟨as, r1⟩ := ra.reads I rx
      obtain ⟨bs, r2⟩ := rb.reads I ry
      have dp : a.depth ≤ 64 := by
        have := hb.1
        unfold SeqAt.shaped at this
        exact of_decide_eq_true (Bool.and_eq_true_iff.mp this).2
      exact (PySem.SeqAt.eqAt_reads a b A s v u as bs r1 r2 (shaped_lay hb.1) (shaped_lay hb.2) (by have := Nat.min_le_left a.depth b.depth; omega)).eqP
    · obtain ⟨⟨p, q, rfl, rfl⟩, rc⟩ := eqX_rc I (A := A) (by omega) (fun h1 h2 h3 h4 h5 => eqX_run I n A.in1 (by show A.units + 1 + n + 64 < cLine; omega) h1 h2 h3 h4 h5) (.inl ra) (.inl rb) rx ry hs h
      by_cases e : p = q
      · subst e
        have : x = y := by
          cases ra <;> cases rb <;> first | rfl | (cases rx; cases ry; rfl) | (cases rx; done) | (cases ry; done) | (obtain ⟨t, z⟩ := rx; cases z) | (obtain ⟨t, z⟩ := ry; cases z)
        subst this
        cases ra.fn rb
        cases eqX_same _ _ _ h
        exact (PySem.SeqAt.EqAt.same _).eqP
      · exact PySem.SeqAt.eqP_refs e rc
end
section
variable {X : Cx}
/-- a == b, a != b: data with dicts -/
def rEqX (K : PySem.W.Frag) : R2 := fun x y H Q => ∃ F a b c, Ob K H F x a ∧ Ob K H F y b ∧ ¬ (SeqAt.shaped a && SeqAt.shaped b) = true ∧ eqX 9 a b = some c ∧ Q (.bl c) H
def isDicD : D → Bool
  | .dict _ => true
  | _ => false
def rNeX (K : PySem.W.Frag) : R2 := fun x y H Q => ∃ F a b c, Ob K H F x a ∧ Ob K H F y b ∧ isDicD a = true ∧ isDicD b = true ∧ eqX 9 a b = some c ∧ Q (.bl (!c)) H
theorem op_eqX (hu : X.A.units + 64 + 16 < cLine) : OpR X (compareOp .Eq) (rEqX X.K) := by
  intro pins s σ H x y v u Q I rx ry h
  obtain ⟨F, a, b, c, ha, hb, ns, e, q⟩ := h
  exact (eqX_rc I (A := X.A) (by omega) (fun h1 h2 h3 h4 h5 => eqX_run I 8 X.A.in1 (by show X.A.units + 1 + 8 + 64 < cLine; omega) h1 h2 h3 h4 h5) ha hb rx ry ns e).2 _ _ ⟨.bl c, H, I, rfl, q⟩
theorem op_neX (hu : X.A.units + 64 + 16 < cLine) : OpR X (compareOp .NotEq) (rNeX X.K) := by
  intro pins s σ H x y v u Q I rx ry h
  obtain ⟨F, a, b, c, ha, hb, da, db, e, q⟩ := h
  cases a <;> first | cases da | skip
  cases b <;> first | cases db | skip
  rename_i xs ys
  have ns : ¬ (SeqAt.shaped (PyData.dict xs) && SeqAt.shaped (PyData.dict ys)) = true := by
    intro z
    have := shaped_lay (Bool.and_eq_true_iff.mp z).1
    simp [PyData.canLay0] at this
  unfold eqX at e
  rw [if_neg ns] at e
  simp only at e
  split at e
  · rename_i hk
    obtain ⟨p, vs, rfl, ⟨l, h1, f1, f2⟩, r1⟩ := ha.dict
    obtain ⟨q', ws, rfl, ⟨m, h2, g1, g2⟩, r2⟩ := hb.dict
    subst f2 g2
    cases (show v = Value.ref p from rx)
    cases (show u = Value.ref q' from ry)
    obtain ⟨_, ya, ka, ra, da⟩ := (show ObjOk X.prog X.w H s.heap p (.dK l) from h1.ok I.hok)
    obtain ⟨_, yb, kb, rb, db⟩ := (show ObjOk X.prog X.w H s.heap q' (.dK m) from h2.ok I.hok)
    have e1 : ka.length = xs.length := by
      have := congrArg List.length f1
      simp only [List.length_map] at this
      rw [← ra.length]; exact this.symm
    have e2 : kb.length = ys.length := by
      have := congrArg List.length g1
      simp only [List.length_map] at this
      rw [← rb.length]; exact this.symm
    have go : ∀ {c'}, c = (ka.length == kb.length && c') → (ka.length = kb.length → PySem.W.KeqHitsP X.prog X.w X.A.in1 s kb ka c') → wpAny (model X.prog X.w) X.A (richCompare .NotEq (.ref p) (.ref q')) (EP X pins σ Q) X.xe s := fun {c'} ec hits =>
      neP_dicts (knd := mixKind X.prog X.w) (r := c') ya yb da db (by omega) hits _ _ ⟨.bl (!c), H, I, by rw [ec]; rfl, q⟩
    split at e
    · rename_i hl
      exact go (c' := c) (by rw [e1, e2, hl]; simp) fun _ => hits_X g1 r2 rb (fun h1 h2 h3 h4 h5 => eqX_run I 8 X.A.in1 (by show X.A.units + 1 + 8 + 64 < cLine; omega) h1 h2 h3 h4 h5) f1 r1 ra e
    · rename_i hl
      cases e
      exact go (c' := false) (by simp) fun z => absurd (by rw [← e1, ← e2]; exact z) hl
  · cases e
end
end DL
end
section
set_option Elab.async false
set_option linter.all false
set_option maxRecDepth 100000
/-! DL3: comparisons, tests, displays, subscripts. -/
namespace DL
open PySem PySem.Spec L2

/-! ### == and != of data without dicts -/
def gEq : D → D → Option O
  | .str x, .str y => some (.fz (.bool (x == y)))
  | a, b => if SeqAt.shaped a && SeqAt.shaped b then some (.fz (.bool (PyData.eqv a b))) else (eqX 9 a b).map fun c => .fz (.bool c)
def gNe : D → D → Option O
  | .str x, .str y => some (.fz (.bool (!(x == y))))
  | a, b => if SeqAt.shaped a && SeqAt.shaped b then some (.fz (.bool (!PyData.eqv a b))) else if isDicD a && isDicD b then (eqX 9 a b).map fun c => .fz (.bool (!c)) else none
def rEqE (K : PySem.W.Frag) : R2 := fun x y H Q => rEqD K x y H Q ∨ rEq x y H Q ∨ rEqX K x y H Q
def rNeE (K : PySem.W.Frag) : R2 := fun x y H Q => rNeD K x y H Q ∨ rNe x y H Q ∨ rNeX K x y H Q
theorem op_eqE {X : Cx} (hu : X.A.units + 80 < cLine) : OpR X (compareOp .Eq) (rEqE X.K) := OpR.or (op_eqD (by omega)) (OpR.or op_eq (op_eqX hu))
theorem op_neE {X : Cx} (hu : X.A.units + 80 < cLine) : OpR X (compareOp .NotEq) (rNeE X.K) := OpR.or (op_neD (by omega)) (OpR.or op_ne (op_neX hu))
theorem strV_eq (x y : Str) : decide (V.str x = V.str y) = (x == y) := by
  rw [Bool.beq_eq_decide_eq]
  exact decide_eq_decide.mpr ⟨fun h => by cases h; rfl, fun h => by rw [h]⟩
section
variable {K : PySem.W.Frag}
theorem gEq_ok : R2Ok K (rEqE K) gEq := by
  intro σ H F env x y a b o Q er oa ob hg f
  unfold gEq at hg
  split at hg
  · cases hg
    cases oa.str; cases ob.str
    refine .inr (.inl ⟨rfl, ?_⟩)
    rw [strV_eq]
    exact f.fz er (.bl _)
  · split at hg
    · rename_i h
      cases hg
      have h := Bool.and_eq_true_iff.mp h
      exact .inl ⟨a, b, oa.dp h.1, ob.dp h.2, h.1, h.2, f.fz er (.bl _)⟩
    · rename_i h
      obtain ⟨c, hc, rfl⟩ := Option.map_eq_some_iff.mp hg
      exact .inr (.inr ⟨F, a, b, c, oa, ob, h, hc, f.fz er (.bl _)⟩)
theorem gNe_ok : R2Ok K (rNeE K) gNe := by
  intro σ H F env x y a b o Q er oa ob hg f
  unfold gNe at hg
  split at hg
  · cases hg
    cases oa.str; cases ob.str
    refine .inr (.inl ⟨rfl, ?_⟩)
    rw [strV_eq]
    exact f.fz er (.bl _)
  · split at hg
    · rename_i h
      cases hg
      have h := Bool.and_eq_true_iff.mp h
      exact .inl ⟨a, b, oa.dp h.1, ob.dp h.2, h.1, h.2, f.fz er (.bl _)⟩
    · split at hg
      · rename_i h
        have h := Bool.and_eq_true_iff.mp h
        obtain ⟨c, hc, rfl⟩ := Option.map_eq_some_iff.mp hg
        exact .inr (.inr ⟨F, a, b, c, oa, ob, h.1, h.2, hc, f.fz er (.bl _)⟩)
      · cases hg
end
section
variable {X : Cx} {a b : Expr} {ta tb : DT} {pos : Pos}
theorem de_eq (hu : X.A.units + 80 < cLine) (ha : DE X a ta) (hb : DE X b tb) : DE X (.Compare a [.Eq] [b] pos) (dBin gEq ta tb) := de_cmp (op_eqE hu) gEq_ok ha hb (nomark _)
theorem de_ne (hu : X.A.units + 80 < cLine) (ha : DE X a ta) (hb : DE X b tb) : DE X (.Compare a [.NotEq] [b] pos) (dBin gNe ta tb) := de_cmp (op_neE hu) gNe_ok ha hb (nomark _)
end

/-! ### order of ints (and <, of data) -/
def isNoneX : D → Bool
  | .none => true
  | _ => false

def gOrd (g : Int → Int → Bool) : D → D → Option O
  | .int i, .int j => some (.fz (.bool (g i j)))
  | _, _ => none
theorem gOrd_ok {K : PySem.W.Frag} {g : Int → Int → Bool} : R2Ok K (rI0 fun i j => .bl (g i j)) (gOrd g) := by
  intro σ H F env x y a b o Q er oa ob hg f
  unfold gOrd at hg
  split at hg
  · cases hg
    cases oa.int; cases ob.int
    exact ⟨_, _, rfl, rfl, f.fz er (.bl _)⟩
  · cases hg
def gLt : D → D → Option O
  | .int i, .int j => some (.fz (.bool (decide (i < j))))
  | a, b => if PySem.W.alike a b && SeqAt.shaped a && SeqAt.shaped b && !isNoneX a then some (.fz (.bool (PySem.W.dataLt a b))) else none
def gLe := gOrd fun i j => decide (i ≤ j)
def gGt := gOrd fun i j => decide (j < i)
def gGe := gOrd fun i j => decide (j ≤ i)
section
variable {X : Cx} {a b : Expr} {ta tb : DT} {pos : Pos}
def rLtD (K : PySem.W.Frag) : R2 := fun x y H Q => (rI0 fun i j => .bl (decide (i < j))) x y H Q ∨ ∃ F a b, Ob K H F x a ∧ Ob K H F y b ∧ PySem.W.alike a b = true ∧ SeqAt.shaped a = true ∧ SeqAt.shaped b = true ∧ a ≠ .none ∧ Q (.bl (PySem.W.dataLt a b)) H
theorem op_ltD (hu : X.A.units + 80 < cLine) : OpR X (compareOp .Lt) (rLtD X.K) := OpR.or op_lt fun pins s σ H x y v u Q I rx ry h => by
  obtain ⟨F, a, b, oa, ob, al, sa, sb, na, q⟩ := h
  obtain ⟨as, r1⟩ := Dp.reads I a x v (oa.dp sa) rx
  obtain ⟨bs, r2⟩ := Dp.reads I b y u (ob.dp sb) ry
  exact PySem.W.lt_data r1 r2 al na (by have := SeqAt.depth_of_shaped sa; have := Nat.min_le_left a.depth b.depth; omega) ⟨.bl _, H, I, rfl, q⟩
theorem gLt_ok {K : PySem.W.Frag} : R2Ok K (rLtD K) gLt := by
  intro σ H F env x y a b o Q er oa ob hg f
  unfold gLt at hg
  split at hg
  · cases hg
    cases oa.int; cases ob.int
    exact .inl ⟨_, _, rfl, rfl, f.fz er (.bl _)⟩
  · split at hg
    · rename_i h
      cases hg
      simp only [Bool.and_eq_true] at h
      obtain ⟨⟨⟨h1, h2⟩, h3⟩, h4⟩ := h
      exact .inr ⟨F, a, b, oa, ob, h1, h2, h3, (fun z => by rw [z] at h4; cases h4), f.fz er (.bl _)⟩
    · cases hg
theorem de_lt (hu : X.A.units + 80 < cLine) (ha : DE X a ta) (hb : DE X b tb) : DE X (.Compare a [.Lt] [b] pos) (dBin gLt ta tb) := de_cmp (op_ltD hu) gLt_ok ha hb (nomark _)
theorem de_le (ha : DE X a ta) (hb : DE X b tb) : DE X (.Compare a [.LtE] [b] pos) (dBin gLe ta tb) := de_cmp op_le gOrd_ok ha hb (nomark _)
theorem de_gt (ha : DE X a ta) (hb : DE X b tb) : DE X (.Compare a [.Gt] [b] pos) (dBin gGt ta tb) := de_cmp op_gt gOrd_ok ha hb (nomark _)
theorem de_ge (ha : DE X a ta) (hb : DE X b tb) : DE X (.Compare a [.GtE] [b] pos) (dBin gGe ta tb) := de_cmp op_ge gOrd_ok ha hb (nomark _)
end

/-! ### is None -/
def isNoneD : D → Bool
  | .none => true
  | _ => false
def gIs (neg : Bool) : D → D → Option O
  | a, .none => some (.fz (.bool (isNoneD a != neg)))
  | _, _ => none
theorem Ob.isNone {K : PySem.W.Frag} {H : Hp} {F : Fz} {v : V} {d : D} (h : Ob K H F v d) : decide (v = .non) = isNoneD d := by
  cases d with
  | none => cases h.none; rfl
  | bool b => cases h.bool; rfl
  | int b => cases h.int; rfl
  | str b => cases h.str; rfl
  | list b => obtain ⟨a, xs, rfl, _⟩ := h.list; rfl
  | tuple b => obtain ⟨a, xs, rfl, _⟩ := h.tuple; rfl
  | dict b => obtain ⟨a, xs, rfl, _⟩ := h.dict; rfl
theorem gIs_ok {K : PySem.W.Frag} {neg : Bool} : R2Ok K (fun x y H Q => y = .non ∧ Q (.bl (decide (x = .non) != neg)) H) (gIs neg) := by
  intro σ H F env x y a b o Q er oa ob hg f
  unfold gIs at hg
  split at hg
  · cases hg
    refine ⟨ob.none, ?_⟩
    rw [oa.isNone]
    exact f.fz er (.bl _)
  · cases hg
section
variable {X : Cx} {a b : Expr} {ta tb : DT} {pos : Pos}
theorem de_isN (ha : DE X a ta) (hb : DE X b tb) : DE X (.Compare a [.Is] [b] pos) (dBin (gIs false) ta tb) :=
  de_cmp (r := fun x y H Q => y = .non ∧ Q (.bl (decide (x = .non) != false)) H) (fun pins s σ H x y v u Q I rx ry h => op_isN pins s σ H x y v u Q I rx ry ⟨h.1, by have := h.2; simpa using this⟩) gIs_ok ha hb (nomark _)
theorem de_notN (ha : DE X a ta) (hb : DE X b tb) : DE X (.Compare a [.IsNot] [b] pos) (dBin (gIs true) ta tb) :=
  de_cmp (r := fun x y H Q => y = .non ∧ Q (.bl (decide (x = .non) != true)) H) (fun pins s σ H x y v u Q I rx ry h => op_notN pins s σ H x y v u Q I rx ry ⟨h.1, by have := h.2; simpa using this⟩) gIs_ok ha hb (nomark _)
end

/-! ### in, not in: lists, tuples -/
def gInS (neg : Bool) : D → D → Option O
  | d, .list ds => if SeqAt.shaped d && SeqAt.shaped (.list ds) then some (.fz (.bool ((ds.any fun z => PyData.eqv z d) != neg))) else none
  | d, .tuple ds => if SeqAt.shaped d && SeqAt.shaped (.tuple ds) then some (.fz (.bool ((ds.any fun z => PyData.eqv z d) != neg))) else none
  | _, _ => none
def rInS (K : PySem.W.Frag) (neg : Bool) : R2 := fun x y H Q => ∃ d ds, Dp K H x d ∧ (Dp K H y (.list ds) ∧ SeqAt.shaped (.list ds) = true ∨ Dp K H y (.tuple ds) ∧ SeqAt.shaped (.tuple ds) = true) ∧ SeqAt.shaped d = true ∧ Q (.bl ((ds.any fun z => PyData.eqv z d) != neg)) H
theorem canLay_tup {ds : List D} (h : SeqAt.shaped (.tuple ds) = true) : PyData.canLayAll0 ds = true := by
  simp only [SeqAt.shaped, Bool.and_eq_true, PyData.canLay0] at h; exact h.1
section
variable {X : Cx}
theorem op_inS (hu : X.A.units + 65 < cLine) : OpR X (compareOp .In) (rInS X.K false) := by
  intro pins s σ H x y v u Q I rx ry h
  obtain ⟨d, ds, hd, he, sd, q⟩ := h
  rw [Bool.bne_false] at q
  obtain ⟨as, r1⟩ := Dp.reads I d x v hd rx
  rcases he with ⟨he, se⟩ | ⟨he, se⟩
  · obtain ⟨bs, r2⟩ := Dp.reads I (.list ds) y u he ry
    exact SeqAt.in_list_reads r2 r1 (SeqAt.canLay_of_shaped se) (SeqAt.canLay_of_shaped sd) (PyProof.Rows.room_in_shaped sd hu) ⟨.bl _, H, I, rfl, q⟩
  · obtain ⟨bs, r2⟩ := Dp.reads I (.tuple ds) y u he ry
    exact SeqAt.in_tuple_reads r2 r1 (canLay_tup se) (SeqAt.canLay_of_shaped sd) (PyProof.Rows.room_in_shaped sd hu) ⟨.bl _, H, I, rfl, q⟩
theorem op_notInS (hu : X.A.units + 65 < cLine) : OpR X (compareOp .NotIn) (rInS X.K true) := by
  intro pins s σ H x y v u Q I rx ry h
  obtain ⟨d, ds, hd, he, sd, q⟩ := h
  rw [Bool.bne_true] at q
  obtain ⟨as, r1⟩ := Dp.reads I d x v hd rx
  rcases he with ⟨he, se⟩ | ⟨he, se⟩
  · obtain ⟨bs, r2⟩ := Dp.reads I (.list ds) y u he ry
    exact SeqAt.notIn_list_reads r2 r1 (SeqAt.canLay_of_shaped se) (SeqAt.canLay_of_shaped sd) (PyProof.Rows.room_in_shaped sd hu) ⟨.bl _, H, I, rfl, q⟩
  · obtain ⟨bs, r2⟩ := Dp.reads I (.tuple ds) y u he ry
    exact SeqAt.notIn_tuple_reads r2 r1 (canLay_tup se) (SeqAt.canLay_of_shaped sd) (PyProof.Rows.room_in_shaped sd hu) ⟨.bl _, H, I, rfl, q⟩
theorem gInS_ok {K : PySem.W.Frag} {neg : Bool} : R2Ok K (rInS K neg) (gInS neg) := by
  intro σ H F env x y a b o Q er oa ob hg f
  unfold gInS at hg
  split at hg
  · split at hg
    · rename_i h
      cases hg
      have h := Bool.and_eq_true_iff.mp h
      exact ⟨a, _, oa.dp h.1, .inl ⟨ob.dp h.2, h.2⟩, h.1, f.fz er (.bl _)⟩
    · cases hg
  · split at hg
    · rename_i h
      cases hg
      have h := Bool.and_eq_true_iff.mp h
      exact ⟨a, _, oa.dp h.1, .inr ⟨ob.dp h.2, h.2⟩, h.1, f.fz er (.bl _)⟩
    · cases hg
  · cases hg
end

end DL
end
section
set_option Elab.async false
set_option linter.all false
set_option maxRecDepth 100000
/-! DL4: dicts read, truth values, displays, subscripts. -/
namespace DL
open PySem PySem.Spec L2

/-- in, not in: a dict -/
def gInD (neg : Bool) : D → D → Option O
  | k, .dict kvs => match keyK k with
    | some _ => some (.fz (.bool ((dget kvs k).isSome != neg)))
    | none => none
  | _, _ => none
def rInDD (neg : Bool) : R2 := fun x y H Q => ∃ (a : Addr) (o : Option V), y = .ref a ∧ DGet H a x o ∧ Q (.bl (o.isSome != neg)) H
section
variable {X : Cx}
theorem op_inDD (hu : X.A.units + 1 < cLine) : OpR X (compareOp .In) (rInDD false) := by
  intro pins s σ H x y v u Q I rx ry h
  obtain ⟨a, o, rfl, g, q⟩ := h
  cases ry
  rw [Bool.bne_false] at q
  exact d_in hu I g rx fun s' I' => ⟨.bl _, H, I', rfl, q⟩
theorem op_notInDD (hu : X.A.units + 1 < cLine) : OpR X (compareOp .NotIn) (rInDD true) := by
  intro pins s σ H x y v u Q I rx ry h
  obtain ⟨a, o, rfl, g, q⟩ := h
  cases ry
  rw [Bool.bne_true] at q
  exact d_notIn hu I g rx fun s' I' => ⟨.bl _, H, I', rfl, q⟩
theorem gInD_ok {K : PySem.W.Frag} {neg : Bool} : R2Ok K (rInDD neg) (gInD neg) := by
  intro σ H F env x y a b o Q er oa ob hg f
  unfold gInD at hg
  split at hg
  · rename_i kvs
    cases e : keyK a with
    | none => rw [e] at hg; cases hg
    | some s =>
      rw [e] at hg
      cases hg
      obtain ⟨p, vs, rfl, hd, r⟩ := ob.dict
      obtain ⟨o, g, h1, h2⟩ := dic_get hd r oa e
      refine ⟨p, o, rfl, g, ?_⟩
      have : (dget kvs a).isSome = o.isSome := by
        cases q : dget kvs a with
        | none => rw [h2 q]; rfl
        | some d => obtain ⟨v, rfl, _⟩ := h1 d q; rfl
      rw [← this]
      exact f.fz er (.bl _)
  · cases hg
end

/-- in, not in: anything that is served -/
def gIn (neg : Bool) : D → D → Option O
  | k, .dict kvs => gInD neg k (.dict kvs)
  | d, e => gInS neg d e
theorem gIn_ok {K : PySem.W.Frag} {neg : Bool} : R2Ok K (fun x y H Q => rInDD neg x y H Q ∨ rInS K neg x y H Q) (gIn neg) := by
  intro σ H F env x y a b o Q er oa ob hg f
  unfold gIn at hg
  split at hg
  · exact .inl (gInD_ok σ H F env x y _ _ o Q er oa ob hg f)
  · exact .inr (gInS_ok σ H F env x y _ _ o Q er oa ob hg f)
theorem units1 {n : Nat} (h : n + 65 < cLine) : n + 1 < cLine := by omega
section
variable {X : Cx} {a b : Expr} {ta tb : DT} {pos : Pos}
theorem de_in (hu : X.A.units + 65 < cLine) (ha : DE X a ta) (hb : DE X b tb) (hm : behindInMarks .In b = false := by rfl) : DE X (.Compare a [.In] [b] pos) (dBin (gIn false) ta tb) :=
  de_cmp ((op_inDD (units1 hu)).or (op_inS hu)) gIn_ok ha hb hm
theorem de_notin (hu : X.A.units + 65 < cLine) (ha : DE X a ta) (hb : DE X b tb) (hm : behindInMarks .NotIn b = false := by rfl) : DE X (.Compare a [.NotIn] [b] pos) (dBin (gIn true) ta tb) :=
  de_cmp ((op_notInDD (units1 hu)).or (op_notInS hu)) gIn_ok ha hb hm
end

/-! ### truth values -/
def dAnd (ta tb : DT) : DT := fun env Q => ta env fun o e1 => ∃ c, o = .fz (.bool c) ∧ if c = true then tb e1 Q else Q (.fz (.bool false)) e1
def dOr (ta tb : DT) : DT := fun env Q => ta env fun o e1 => ∃ c, o = .fz (.bool c) ∧ if c = true then Q (.fz (.bool true)) e1 else tb e1 Q
def dNot (ta : DT) : DT := fun env Q => ta env fun o e1 => ∃ c, o = .fz (.bool c) ∧ Q (.fz (.bool (!c))) e1
def dIf (t : DB) (ta tb : DT) : DT := fun env Q => t env fun c e1 => if c = true then ta e1 Q else tb e1 Q
/-- tests -/
def bVal (ta : DT) : DB := fun env Q => ta env fun o e1 => ∃ c, o = .fz (.bool c) ∧ Q c e1
def bAnd (ta tb : DB) : DB := fun env Q => ta env fun c e1 => if c = true then tb e1 Q else Q false e1
def bOr (ta tb : DB) : DB := fun env Q => ta env fun c e1 => if c = true then Q true e1 else tb e1 Q
def bNot (ta : DB) : DB := fun env Q => ta env fun c e1 => Q (!c) e1
/-- the truth of data -/
def truD : D → Option Bool
  | .none => some false
  | .bool b => some b
  | .int i => some (i != 0)
  | .str x => if x.length ≤ sizeLine then some ((x.length : Int) != 0) else none
  | .list xs => some (!xs.isEmpty)
  | .tuple xs => some (!xs.isEmpty)
  | .dict _ => none
def bTru (ta : DT) : DB := fun env Q => ta env fun o e1 => ∃ d c, o.get e1 = some d ∧ truD d = some c ∧ Q c e1
section
variable {X : Cx} {a b c e : Expr} {rest : List Expr} {ta tb : DT} {ba bb : DB} {pos : Pos}
theorem RO.opdv {K : PySem.W.Frag} {H0 : Hp} {σ : L2.St} {H : Hp} {F : Fz} {env : SEnv} {v : V} {d : D} (r : RO K H0 σ H F env v (.fz d)) : Rp K H F d v := r
theorem de_and (ha : DE X a ta) (hb : DE X (.BoolOp .And (b :: rest) pos) tb) : DE X (.BoolOp .And (a :: b :: rest) pos) (dAnd ta tb) := by
  refine PE.imp (pe_and ha hb) fun σ H Q h => ?_
  obtain ⟨F, env, R, er, ht, k⟩ := h
  refine lift_val (.refl er) ht fun o1 e1 x H1 F1 h1 c1 p1 => ?_
  obtain ⟨c, rfl, q⟩ := h1
  cases (show Rp _ _ _ _ _ from p1)
  refine ⟨c, rfl, ?_⟩
  cases c with
  | true => exact lift_val c1 q k
  | false => exact k _ _ _ _ _ q c1 (Rp.bl false)
theorem de_or (ha : DE X a ta) (hb : DE X (.BoolOp .Or (b :: rest) pos) tb) : DE X (.BoolOp .Or (a :: b :: rest) pos) (dOr ta tb) := by
  refine PE.imp (pe_or ha hb) fun σ H Q h => ?_
  obtain ⟨F, env, R, er, ht, k⟩ := h
  refine lift_val (.refl er) ht fun o1 e1 x H1 F1 h1 c1 p1 => ?_
  obtain ⟨c, rfl, q⟩ := h1
  cases (show Rp _ _ _ _ _ from p1)
  refine ⟨c, rfl, ?_⟩
  cases c with
  | false => exact lift_val c1 q k
  | true => exact k _ _ _ _ _ q c1 (Rp.bl true)
theorem de_one {op} (h : DE X a ta) : DE X (.BoolOp op [a] pos) ta := pe_one h
theorem de_not (ha : DE X a ta) : DE X (.UnaryOp .Not a pos) (dNot ta) := by
  refine PE.imp (pe_not ha) fun σ H Q h => ?_
  obtain ⟨F, env, R, er, ht, k⟩ := h
  refine lift_val (.refl er) ht fun o1 e1 x H1 F1 h1 c1 p1 => ?_
  obtain ⟨c, rfl, q⟩ := h1
  cases (show Rp _ _ _ _ _ from p1)
  exact ⟨c, rfl, k _ _ _ _ _ q c1 (Rp.bl _)⟩
theorem de_if (hc : DTe X c ba) (ha : DE X a ta) (hb : DE X b tb) : DE X (.IfExp c a b pos) (dIf ba ta tb) := by
  refine PE.imp (pe_ifExp hc ha hb) fun σ H Q h => ?_
  obtain ⟨F, env, R, er, ht, k⟩ := h
  refine lift_tst (.refl er) ht fun c e1 H1 F1 h1 c1 => ?_
  cases c with
  | true => exact lift_val c1 h1 k
  | false => exact lift_val c1 h1 k
theorem dt_val (ha : DE X e ta) (he : ∀ whole, isTrue e X.env whole = (do let v ← whole; standAt e.pos; holding [v] (truthy v)) := by intro _; rfl) : DTe X e (bVal ta) := by
  refine PT.imp (pt_val ha he) fun σ H Q h => ?_
  obtain ⟨F, env, R, er, ht, k⟩ := h
  refine lift_val (.refl er) ht fun o1 e1 x H1 F1 h1 c1 p1 => ?_
  obtain ⟨c, rfl, q⟩ := h1
  cases (show Rp _ _ _ _ _ from p1)
  exact ⟨c, rfl, k _ _ _ _ q c1⟩
/-- a comparison as a test -/
theorem dt_cmp {op : CmpOp} {r : R2} {g : D → D → Option O} (ho : OpR X (compareOp op) r) (hg : R2Ok X.K r g) (ha : DE X a ta) (hb : DE X b tb) (hm : behindInMarks op b = false) : DTe X (.Compare a [op] [b] pos) (bVal (dBin g ta tb)) := by
  refine PT.imp (pt_cmpR ho ha hb hm) fun σ H Q h => ?_
  obtain ⟨F, env, R, er, ht, k⟩ := h
  refine lift_bin hg σ H _ ⟨F, env, _, er, ht, fun o1 e1 x H1 F1 h1 c1 p1 => ?_⟩
  obtain ⟨c, rfl, q⟩ := h1
  cases (show Rp _ _ _ _ _ from p1)
  exact ⟨c, rfl, k _ _ _ _ q c1⟩
theorem dt_not (ha : DTe X a ba) : DTe X (.UnaryOp .Not a pos) (bNot ba) := by
  refine PT.imp (pt_not ha) fun σ H Q h => ?_
  obtain ⟨F, env, R, er, ht, k⟩ := h
  exact lift_tst (.refl er) ht fun c e1 H1 F1 h1 c1 => k _ _ _ _ h1 c1
/-- and, or as tests -/
def DW (X : Cx) (e : Expr) (t : DB) : Prop := PW X e (liftT X.K t)
theorem PW.imp {X : Cx} {e : Expr} {t t' : TT} (h : PW X e t) (i : ∀ σ H Q, t' σ H Q → t σ H Q) : PW X e t' := ⟨fun wh pins s σ H Q I q => h.run wh pins s σ H Q I (i σ H Q q)⟩
theorem dw_and1 (ha : DTe X a ba) : DW X (.BoolOp .And [a] pos) ba := pw_and1 ha
theorem dw_or1 (ha : DTe X a ba) : DW X (.BoolOp .Or [a] pos) ba := pw_or1 ha
theorem dw_and (ha : DTe X a ba) (hb : DW X (.BoolOp .And (b :: rest) pos) bb) : DW X (.BoolOp .And (a :: b :: rest) pos) (bAnd ba bb) := by
  refine PW.imp (pw_and ha hb) fun σ H Q h => ?_
  obtain ⟨F, env, R, er, ht, k⟩ := h
  refine lift_tst (.refl er) ht fun c e1 H1 F1 h1 c1 => ?_
  cases c with
  | true => exact lift_tst c1 h1 k
  | false => exact k _ _ _ _ h1 c1
theorem dw_or (ha : DTe X a ba) (hb : DW X (.BoolOp .Or (b :: rest) pos) bb) : DW X (.BoolOp .Or (a :: b :: rest) pos) (bOr ba bb) := by
  refine PW.imp (pw_or ha hb) fun σ H Q h => ?_
  obtain ⟨F, env, R, er, ht, k⟩ := h
  refine lift_tst (.refl er) ht fun c e1 H1 F1 h1 c1 => ?_
  cases c with
  | false => exact lift_tst c1 h1 k
  | true => exact k _ _ _ _ h1 c1
theorem dt_w (h : DW X e ba) : DTe X e ba := h.pt
theorem dt_tru (ha : DE X e ta) (he : ∀ whole, isTrue e X.env whole = (do let v ← whole; standAt e.pos; holding [v] (truthy v)) := by intro _; rfl) : DTe X e (bTru ta) := by
  refine PT.imp (pt_truth ha he) fun σ H Q h => ?_
  obtain ⟨F, env, R, er, ht, k⟩ := h
  refine lift_op (.refl er) ht fun o1 e1 x H1 F1 h1 c1 _ p1 => ?_
  obtain ⟨d, c, hd, hc, q⟩ := h1
  have ob := p1.ob c1.er hd
  refine ⟨c, ?_, k _ _ _ _ q c1⟩
  cases d with
  | none => cases ob.none; cases hc; rfl
  | bool b => cases ob.bool; cases hc; rfl
  | int i => cases ob.int; cases hc; rfl
  | str y =>
    cases ob.str
    have hc : (if y.length ≤ sizeLine then some ((y.length : Int) != 0) else Option.none) = some c := hc
    split at hc
    · rename_i hl; cases hc; exact ⟨hl, rfl⟩
    · cases hc
  | list xs =>
    obtain ⟨a, ys, rfl, h, r⟩ := ob.list
    cases hc
    exact .inl ⟨ys, .of h, by cases r <;> rfl⟩
  | tuple xs =>
    obtain ⟨a, ys, rfl, h, r⟩ := ob.tuple
    cases hc
    exact .inr (.inl ⟨ys, h.sq, by cases r <;> rfl⟩)
  | dict _ => cases hc
end

/-! ### argument lists, displays -/
abbrev DA := SEnv → (List O → SEnv → Prop) → Prop
/-- each is read alone -/
def liftA (K : PySem.W.Frag) (t : DA) : TA := fun σ H Q => ∃ F env R, ER K σ H F env ∧ t env R ∧
  ∀ os env' vs H' F', R os env' → Cur K σ H F env H' F' env' → Paired (fun v o => Opd K σ H' F' env' v o) vs os → Q vs H'
def DAr (X : Cx) (es : List Expr) (t : DA) : Prop := PA X es (liftA X.K t)
theorem PA.imp {X : Cx} {es : List Expr} {t t' : TA} (h : PA X es t) (i : ∀ σ H Q, t' σ H Q → t σ H Q) : PA X es t' := ⟨fun pos pins s σ H Q I q => h.run pos pins s σ H Q I (i σ H Q q)⟩
def aNil : DA := fun env Q => Q [] env
def aCons (t : DT) (u : DA) : DA := fun env Q => t env fun o e1 => u e1 fun os e2 => Q (o :: os) e2
/-- the items of a list or tuple -/
def seqD : D → Option (List D)
  | .list ds => some ds
  | .tuple ds => some ds
  | _ => none
def aStar (t : DT) (u : DA) : DA := fun env Q => t env fun o e1 => ∃ d ds, o.get e1 = some d ∧ seqD d = some ds ∧ u e1 fun os e2 => Q (ds.map O.fz ++ os) e2
section
variable {X : Cx} {e : Expr} {es : List Expr} {t : DT} {u : DA} {pos p : Pos}
theorem lift_arg {K : PySem.W.Frag} {σ : L2.St} {H0 H : Hp} {F0 F : Fz} {env0 env : SEnv} {Q : List V → Hp → Prop} {ta : DA} {R : List O → SEnv → Prop} (c : Cur K σ H0 F0 env0 H F env) (ht : ta env R)
    (k : ∀ os e1 vs H1 F1, R os e1 → Cur K σ H0 F0 env0 H1 F1 e1 → Cur K σ H F env H1 F1 e1 → Paired (fun v o => Opd K σ H1 F1 e1 v o) vs os → Q vs H1) : liftA K ta σ H Q :=
  ⟨F, env, R, c.er, ht, fun os e1 vs H1 F1 hR c1 r => k os e1 vs H1 F1 hR (c.trans c1) c1 r⟩
theorem opds_map {K : PySem.W.Frag} {σ : L2.St} {H : Hp} {F : Fz} {env : SEnv} : ∀ {ds : List D} {xs : List V}, RpL K H F ds xs → Paired (fun v o => Opd K σ H F env v o) xs (ds.map O.fz)
  | _, _, .nil => .nil
  | _, _, .cons h r => .cons h (opds_map r)
theorem Paired.app {α β : Type} {P : α → β → Prop} : ∀ {a c : List α} {b d : List β}, Paired P a b → Paired P c d → Paired P (a ++ c) (b ++ d)
  | _, _, _, _, .nil, s => s
  | _, _, _, _, .cons r t, s => .cons r (Paired.app t s)
theorem da_nil : DAr X [] aNil := PA.imp pa_nil fun σ H Q h => by
  obtain ⟨F, env, R, er, ht, k⟩ := h
  exact k _ _ [] H F ht (.refl er) .nil
theorem da_cons (he : DE X e t) (hr : DAr X es u) (hs : starEach (e :: es) X.env = (false, eval e X.env) :: starEach es X.env := by rfl) : DAr X (e :: es) (aCons t u) := PA.imp (pa_cons he hr hs) fun σ H Q h => by
  obtain ⟨F, env, R, er, ht, k⟩ := h
  refine lift_op (.refl er) ht fun o1 e1 x H1 F1 h1 c1 _ p1 => ?_
  refine lift_arg c1 h1 fun os e2 vs H2 F2 h2 c2 c12 r => ?_
  exact k _ _ (x :: vs) H2 F2 h2 c2 (.cons (p1.cur c12) r)
theorem da_star (he : DE X e t) (hr : DAr X es u) (hs : starEach (.Starred e p :: es) X.env = (true, eval e X.env) :: starEach es X.env := by rfl) : DAr X (.Starred e p :: es) (aStar t u) := PA.imp (StX.pa_star he hr hs) fun σ H Q h => by
  obtain ⟨F, env, R, er, ht, k⟩ := h
  refine lift_op (.refl er) ht fun o1 e1 x H1 F1 h1 c1 _ p1 => ?_
  obtain ⟨d, ds, hd, hs, h1⟩ := h1
  have ob := p1.ob c1.er hd
  have key : ∃ a xs, x = V.ref a ∧ (SqT X.K H1 a xs ∨ SqL X.K H1 a xs) ∧ RpL X.K H1 F1 ds xs := by
    cases d with
    | list ds' => cases hs; obtain ⟨a, xs, e, h, r⟩ := ob.list; exact ⟨a, xs, e, .inr (.of h), r⟩
    | tuple ds' => cases hs; obtain ⟨a, xs, e, h, r⟩ := ob.tuple; exact ⟨a, xs, e, .inl h.sq, r⟩
    | _ => cases hs
  obtain ⟨a, xs, ex, hx, r0⟩ := key
  refine ⟨a, xs, ex, hx, ?_⟩
  refine lift_arg c1 h1 fun os e2 vs H2 F2 h2 c2 c12 r => ?_
  exact k _ _ (xs ++ vs) H2 F2 h2 c2 (Paired.app (opds_map (r0.ext c12.e)) r)
end
/-- data that is read alone -/
def O.val : O → Option D
  | .fz d => some d
  | .nw d => some d
  | _ => none
def valsO : List O → Option (List D)
  | [] => some []
  | o :: os => match o.val, valsO os with
    | some d, some ds => some (d :: ds)
    | _, _ => none
theorem opds_rp {K : PySem.W.Frag} {σ : L2.St} {H : Hp} {F : Fz} {env : SEnv} : ∀ {os : List O} {ds : List D} {xs : List V}, Paired (fun v o => Opd K σ H F env v o) xs os → valsO os = some ds → RpL K H F ds xs
  | _, _, _, .nil, h => by cases h; exact .nil
  | o :: os, ds, _, (.cons h r), e => by
    unfold valsO at e
    cases q : o.val with
    | none => rw [q] at e; simp at e
    | some d =>
      cases q2 : valsO os with
      | none => rw [q, q2] at e; simp at e
      | some ds' =>
        rw [q, q2] at e
        simp only [Option.some.injEq] at e
        subst e
        refine .cons ?_ (opds_rp r q2)
        cases o with
        | fz d' => cases q; exact h
        | nw d' => cases q; exact h
        | _ => cases q
def dTup (t : DA) : DT := fun env Q => t env fun os e1 => ∃ ds, valsO os = some ds ∧ ds.length ≤ sizeLine ∧ Q (.fz (.tuple ds)) e1
def dLst (t : DA) : DT := fun env Q => t env fun os e1 => ∃ ds, valsO os = some ds ∧ ds.length ≤ sizeLine ∧ Q (.nw (.list ds)) e1
section
variable {X : Cx} {es : List Expr} {t : DA} {pos : Pos}
theorem de_tup {x1} (h : DAr X es t) : DE X (.Tuple es x1 pos) (dTup t) := PE.imp (pe_tupK h) fun σ H Q h => by
  obtain ⟨F, env, R, er, ht, k⟩ := h
  refine lift_arg (.refl er) ht fun os e1 vs H1 F1 h1 c1 _ r => ?_
  obtain ⟨ds, hd, hl, q⟩ := h1
  have r' := opds_rp r hd
  exact ⟨by rw [← r'.length]; exact hl, (c1.fin q k).tup c1.er r'⟩
theorem de_lst (h : DAr X es t) : DE X (.List es pos) (dLst t) := PE.imp (pe_lst h) fun σ H Q h => by
  obtain ⟨F, env, R, er, ht, k⟩ := h
  refine lift_arg (.refl er) ht fun os e1 vs H1 F1 h1 c1 _ r => ?_
  obtain ⟨ds, hd, hl, q⟩ := h1
  have r' := opds_rp r hd
  exact ⟨by rw [← r'.length]; exact hl, (c1.fin q k).lst c1.er r'⟩
end

/-! ### subscripts -/
def gIx : D → D → Option O
  | .list ds, .int i => (atI ds i).map .fz
  | .tuple ds, .int i => (atI ds i).map .fz
  | .str z, .int i => if z.length ≤ sizeLine then (atI z.cps.toList i).map fun c => .fz (.str ⟨#[c]⟩) else none
  | .dict kvs, k => match keyK k with
    | some _ => (dget kvs k).map .fz
    | none => none
  | _, _ => none
theorem RpL.atI {K : PySem.W.Frag} {H : Hp} {F : Fz} {ds : List D} {xs : List V} (r : RpL K H F ds xs) {i : Int} {d : D} (h : atI ds i = some d) : ∃ x, L2.atI xs i = some x ∧ Rp K H F d x := by
  unfold L2.atI at h ⊢
  rw [← r.length]
  cases e : ixN ds.length i with
  | none => rw [e] at h; cases h
  | some j =>
    rw [e] at h
    exact r.get h
def rIxDD : R2 := fun x y H Q => ∃ a v, x = .ref a ∧ DGet H a y (some v) ∧ Q v H
section
variable {X : Cx} {a b : Expr} {ta tb : DT} {pos : Pos}
theorem ix_dd (hu : X.A.units + 1 < cLine) : IxR X rIxDD := by
  intro value slice pins s σ H x y v u Q I rx ry h hs
  obtain ⟨a, z, rfl, g, q⟩ := h
  cases rx
  exact PyProof.Rows.tail_any (dict_typeIs I g) PySem.F.slot_dict_getitem.lookup (d_getItem hu I g ry fun w' s' I' rw' => ⟨z, H, I', rw', q⟩) hs
theorem gIx_ok {K : PySem.W.Frag} : R2Ok K (fun x y H Q => rIx K x y H Q ∨ rIxDD x y H Q) gIx := by
  intro σ H F env x y a b o Q er oa ob hg f
  unfold gIx at hg
  split at hg
  · cases ob.int
    obtain ⟨p, xs, rfl, h, r⟩ := oa.list
    obtain ⟨d, hd, rfl⟩ := Option.map_eq_some_iff.mp hg
    obtain ⟨z, hz, rz⟩ := r.atI hd
    exact .inl (.inl ⟨p, xs, _, z, rfl, rfl, .of h, hz, f.fz er rz⟩)
  · cases ob.int
    obtain ⟨p, xs, rfl, h, r⟩ := oa.tuple
    obtain ⟨d, hd, rfl⟩ := Option.map_eq_some_iff.mp hg
    obtain ⟨z, hz, rz⟩ := r.atI hd
    exact .inl (.inr (.inl ⟨p, xs, _, z, rfl, rfl, h.sq, hz, f.fz er rz⟩))
  · cases ob.int
    cases oa.str
    split at hg
    · rename_i hl
      obtain ⟨d, hd, rfl⟩ := Option.map_eq_some_iff.mp hg
      exact .inl (.inr (.inr ⟨_, _, d, rfl, rfl, hl, hd, f.fz er (.str _)⟩))
    · cases hg
  · rename_i kvs
    cases e : keyK b with
    | none => rw [e] at hg; cases hg
    | some s =>
      rw [e] at hg
      obtain ⟨d, hd, rfl⟩ := Option.map_eq_some_iff.mp hg
      obtain ⟨p, vs, rfl, hdi, r⟩ := oa.dict
      obtain ⟨o, g, h1, h2⟩ := dic_get hdi r ob e
      obtain ⟨v, rfl, rv⟩ := h1 d hd
      exact .inr ⟨p, v, rfl, g, f.fz er rv⟩
  · cases hg
theorem de_ix (hu : X.A.units + 1 < cLine) (ha : DE X a ta) (hb : DE X b tb) (hs : PlainIx b := by exact fun _ _ => rfl) : DE X (.Subscript a b pos) (dBin gIx ta tb) := PE.imp (pe_ix (ix_seq.or (ix_dd hu)) ha hb hs) (lift_bin gIx_ok)
end
/-! ### slices -/
abbrev DP := SEnv → (Option Int → SEnv → Prop) → Prop
def liftP (K : PySem.W.Frag) (t : DP) : TO := fun σ H Q => ∃ F env R, ER K σ H F env ∧ t env R ∧ ∀ o env' H' F', R o env' → Cur K σ H F env H' F' env' → Q o H'
def DPa (X : Cx) (e : Option Expr) (t : DP) : Prop := PO X e (liftP X.K t)
def pNo : DP := fun env Q => Q none env
def pAt (t : DT) : DP := fun env Q => t env fun o e1 => ∃ i, o = .fz (.int i) ∧ Q (some i) e1
def cutD (ds : List D) (lo hi : Option Int) : List D := (ds.drop (HT.sIx ds.length 0 lo)).take (HT.sIx ds.length ds.length hi - HT.sIx ds.length 0 lo)
def gSl (lo hi : Option Int) : O → SEnv → Option O
  | .sc ns, _ => some (.nw (.list (cutD (ns.map .int) lo hi)))
  | o, env => match o.get env with
    | some (.list ds) => some (.nw (.list (cutD ds lo hi)))
    | some (.tuple ds) => some (.fz (.tuple (cutD ds lo hi)))
    | _ => none
def dSl (t : DT) (l h : DP) : DT := fun env Q => t env fun o e1 => l e1 fun lo e2 => h e2 fun hi e3 => ∃ z, gSl lo hi o e3 = some z ∧ Q z e3
theorem PO.imp {X : Cx} {e : Option Expr} {t t' : TO} (h : PO X e t) (i : ∀ σ H Q, t' σ H Q → t σ H Q) : PO X e t' := ⟨fun pins s σ H Q I q => h.run pins s σ H Q I (i σ H Q q)⟩
theorem RpL.cut {K : PySem.W.Frag} {H : Hp} {F : Fz} {ds : List D} {xs : List V} (r : RpL K H F ds xs) (lo hi : Option Int) : RpL K H F (cutD ds lo hi) (cutV xs lo hi) := by
  unfold cutD cutV
  rw [r.length]
  exact (r.drop _).take _
section
variable {X : Cx} {e : Expr} {lo hi : Option Expr} {t : DT} {tl th : DP} {pos p2 : Pos}
theorem dp_no : DPa X none pNo := PO.imp po_none fun σ H Q h => by
  obtain ⟨F, env, R, er, ht, k⟩ := h
  exact k _ _ H F ht (.refl er)
theorem dp_at (h : DE X e t) : DPa X (some e) (pAt t) := PO.imp (po_some h) fun σ H Q h => by
  obtain ⟨F, env, R, er, ht, k⟩ := h
  refine lift_val (.refl er) ht fun o1 e1 x H1 F1 h1 c1 p1 => ?_
  obtain ⟨c, rfl, q⟩ := h1
  cases (show Rp _ _ _ _ _ from p1)
  exact ⟨c, rfl, k _ _ _ _ q c1⟩
theorem lift_prt {K : PySem.W.Frag} {σ : L2.St} {H0 H : Hp} {F0 F : Fz} {env0 env : SEnv} {Q : Option Int → Hp → Prop} {ta : DP} {R : Option Int → SEnv → Prop} (c : Cur K σ H0 F0 env0 H F env) (ht : ta env R)
    (k : ∀ o e1 H1 F1, R o e1 → Cur K σ H0 F0 env0 H1 F1 e1 → Cur K σ H F env H1 F1 e1 → Q o H1) : liftP K ta σ H Q :=
  ⟨F, env, R, c.er, ht, fun o e1 H1 F1 hR c1 => k o e1 H1 F1 hR (c.trans c1) c1⟩
theorem whole_cut {ds : List D} {lo hi : Option Int} (h : HT.sIx ds.length 0 lo = 0 ∧ HT.sIx ds.length ds.length hi = ds.length) : cutD ds lo hi = ds := by
  unfold cutD
  rw [h.1, h.2]
  simp
theorem de_sl (he : DE X e t) (hl : DPa X lo tl) (hh : DPa X hi th) : DE X (.Subscript e (.Slice lo hi none p2) pos) (dSl t tl th) := PE.imp (pe_slice (sl_list.or sl_tupK) he hl hh) fun σ H Q h => by
  obtain ⟨F, env, R, er, ht, k⟩ := h
  refine lift_op (.refl er) ht fun o1 e1 x H1 F1 h1 c1 _ p1 => ?_
  refine lift_prt c1 h1 fun l e2 H2 F2 h2 c2 c12 => ?_
  refine lift_prt c2 h2 fun u e3 H3 F3 h3 c3 c23 => ?_
  obtain ⟨z, hz, q⟩ := h3
  have p3 := p1.cur (c12.trans c23)
  have f := c3.fin q k
  have norm : ∀ d, o1.get e3 = some d → (match (some d : Option D) with
    | some (.list ds) => some (O.nw (.list (cutD ds l u)))
    | some (.tuple ds) => some (O.fz (.tuple (cutD ds l u)))
    | _ => none) = some z → (∃ a xs, x = V.ref a ∧ SqL X.K H3 a xs ∧ ∀ p, H3 p = none → Q (.ref p) (upd H3 p (.lst (cutV xs l u)))) ∨ rSlK X.K x l u H3 Q := fun d hd hz => by
    have ob := p3.ob c3.er hd
    cases d with
    | list ds =>
      cases hz
      obtain ⟨a, xs, rfl, h, r⟩ := ob.list
      exact .inl ⟨a, xs, rfl, .of h, f.lst c3.er (r.cut l u)⟩
    | tuple ds =>
      cases hz
      obtain ⟨a, xs, rfl, h, r⟩ := ob.tuple
      refine .inr ⟨a, xs, rfl, h.sq, fun w => ?_, fun _ => f.tup c3.er (r.cut l u)⟩
      rw [← r.length] at w
      rw [whole_cut w] at f
      exact f.fz c3.er (.tup h r)
    | _ => cases hz
  cases o1 with
  | sc ns =>
    cases hz
    obtain ⟨a, rfl, h⟩ := p3
    exact .inl ⟨a, _, rfl, h.sq, f.lst c3.er ((RpL.ints ns).cut l u)⟩
  | fz d => exact norm d rfl hz
  | nw d => exact norm d rfl hz
  | al i =>
    have hz' : (match O.get e3 (.al i) with
      | some (.list ds) => some (O.nw (.list (cutD ds l u)))
      | some (.tuple ds) => some (O.fz (.tuple (cutD ds l u)))
      | _ => none) = some z := hz
    cases g : O.get e3 (.al i) with
    | none => rw [g] at hz'; cases hz'
    | some d => rw [g] at hz'; exact norm d g hz'
end
end DL
end
section
set_option Elab.async false
set_option linter.all false
set_option maxRecDepth 100000
/-! DL5: statements, blocks, assignments, loops, a def's promise. -/
namespace DL
open PySem PySem.Spec L2

structure SE where
  nx : SEnv → Prop
  rt : O → SEnv → Prop
  bk : SEnv → Prop := fun _ => False
  ct : SEnv → Prop := fun _ => False
abbrev DS := SEnv → SE → Prop

structure StepS (σ : L2.St) (H : Hp) (F : Fz) (env : SEnv) (σ' : L2.St) (H' : Hp) (F' : Fz) (env' : SEnv) : Prop where
  f : ∀ a, F a → F' a
  keep : ∀ a o, H a = some o → ¬ AOf σ env a → H' a = some o
  new : ∀ a, F' a → F a ∨ H a = none ∨ AOf σ env a
  live : ∀ a, H' a = none → H a = none
  own : ∀ a, AOf σ' env' a → AOf σ env a ∨ H a = none
  pin : ∀ (i : Nat) d, env[i]? = some (.ow true d) → σ'[i]? = σ[i]? ∧ ∃ d', env'[i]? = some (.ow true d')
  len : σ'.length = σ.length
structure CurS (K : PySem.W.Frag) (σ0 : L2.St) (H0 : Hp) (F0 : Fz) (env0 : SEnv) (σ : L2.St) (H : Hp) (F : Fz) (env : SEnv) : Prop where
  er0 : ER K σ0 H0 F0 env0
  st : StepS σ0 H0 F0 env0 σ H F env
  er : ER K σ H F env
section
variable {K : PySem.W.Frag} {σ0 σ σ1 : L2.St} {H0 H H1 H' : Hp} {F0 F F1 F' : Fz} {env0 env env1 env' : SEnv} {v : V} {o : O}
theorem Cur.s (c : Cur K σ H0 F0 env0 H F env) : CurS K σ H0 F0 env0 σ H F env :=
  ⟨c.er0, ⟨c.st.f, c.st.keep, fun a h => by
    rcases c.st.new a h with h | h
    · exact .inl h
    · exact .inr (.inl h), c.st.live, fun a h => .inl (c.sh.a.mp h), fun i d h => ⟨rfl, c.sh.ow h⟩, rfl⟩, c.er⟩
theorem CurS.refl (er : ER K σ H F env) : CurS K σ H F env σ H F env := (Cur.refl er).s
theorem CurS.trans (a : CurS K σ0 H0 F0 env0 σ1 H1 F1 env1) (b : CurS K σ1 H1 F1 env1 σ H F env) : CurS K σ0 H0 F0 env0 σ H F env where
  er0 := a.er0
  er := b.er
  st :=
    { f := fun x h => b.st.f x (a.st.f x h)
      keep := fun x o h n => b.st.keep x o (a.st.keep x o h n) fun z => by
        rcases a.st.own x z with z | z
        · exact n z
        · rw [h] at z; cases z
      new := fun x h => by
        rcases b.st.new x h with h | h | h
        · exact a.st.new x h
        · exact .inr (.inl (a.st.live x h))
        · rcases a.st.own x h with h | h
          · exact .inr (.inr h)
          · exact .inr (.inl h)
      live := fun x h => a.st.live x (b.st.live x h)
      own := fun x h => by
        rcases b.st.own x h with h | h
        · exact a.st.own x h
        · exact .inr (a.st.live x h)
      pin := fun i d h => by
        obtain ⟨e1, d1, h1⟩ := a.st.pin i d h
        obtain ⟨e2, d2, h2⟩ := b.st.pin i d1 h1
        exact ⟨e2.trans e1, d2, h2⟩
      len := b.st.len.trans a.st.len }
theorem RO.backS (c : CurS K σ0 H0 F0 env0 σ1 H F env) (r : RO K H σ H' F' env' v o) : RO K H0 σ H' F' env' v o := by
  cases o with
  | nw d => obtain ⟨a, e, n, q⟩ := r; exact ⟨a, e, c.st.live a n, q⟩
  | _ => exact r
theorem CurS.e (c : CurS K σ0 H0 F0 env0 σ H F env) : Ext H0 F0 H F where
  f := c.st.f
  fo := fun a o h e => c.st.keep a o e fun z => (c.er0.aof z).1 h
  tu := fun a xs h => c.st.keep a _ h fun z => by
    obtain ⟨_, o, e, n, _⟩ := c.er0.aof z
    rw [h] at e; cases e; exact n xs rfl
  fr := fun a u x h => c.st.keep a _ h fun z => by
    obtain ⟨_, o, e, _, n⟩ := c.er0.aof z
    rw [h] at e; cases e; exact n u x rfl
end

structure EndsOk (K : PySem.W.Frag) (σ : L2.St) (H : Hp) (F : Fz) (env : SEnv) (E : SE) (Dn : Ends) : Prop where
  nx : ∀ env' σ' H' F', E.nx env' → CurS K σ H F env σ' H' F' env' → Dn.nx σ' H'
  rt : ∀ o env' v σ' H' F', E.rt o env' → CurS K σ H F env σ' H' F' env' → RO K H σ' H' F' env' v o → Dn.rt v H'
  bk : ∀ env' σ' H' F', E.bk env' → CurS K σ H F env σ' H' F' env' → Dn.bk σ' H'
  ct : ∀ env' σ' H' F', E.ct env' → CurS K σ H F env σ' H' F' env' → Dn.ct σ' H'
def liftS (K : PySem.W.Frag) (t : DS) : TS := fun Dn σ H => ∃ F env E, ER K σ H F env ∧ t env E ∧ EndsOk K σ H F env E Dn
def DSt (X : Cx) (st : Stmt) (t : DS) : Prop := PS X st (liftS X.K t)
def DSs (X : Cx) (st : List Stmt) (t : DS) : Prop := PSs X st (liftS X.K t)
theorem PS.imp {X : Cx} {e : Stmt} {t t' : TS} (h : PS X e t) (i : ∀ D σ H, t' D σ H → t D σ H) : PS X e t' := ⟨fun pins s σ H D I q => h.run pins s σ H D I (i D σ H q)⟩
theorem PSs.imp {X : Cx} {e : List Stmt} {t t' : TS} (h : PSs X e t) (i : ∀ D σ H, t' D σ H → t D σ H) : PSs X e t' := ⟨fun pins s σ H D I q => h.run pins s σ H D I (i D σ H q)⟩
section
variable {K : PySem.W.Frag} {σ0 σ : L2.St} {H0 H : Hp} {F0 F : Fz} {env0 env : SEnv} {E : SE} {Dn : Ends}
theorem EndsOk.from (k : EndsOk K σ0 H0 F0 env0 E Dn) (c : CurS K σ0 H0 F0 env0 σ H F env) : EndsOk K σ H F env E Dn :=
  ⟨fun env' σ' H' F' q c' => k.nx _ _ _ _ q (c.trans c'), fun o env' v σ' H' F' q c' r => k.rt _ _ _ _ _ _ q (c.trans c') (r.backS c), fun env' σ' H' F' q c' => k.bk _ _ _ _ q (c.trans c'), fun env' σ' H' F' q c' => k.ct _ _ _ _ q (c.trans c')⟩
theorem EndsOk.at {c : CurS K σ0 H0 F0 env0 σ H F env} (k : EndsOk K σ0 H0 F0 env0 E Dn) {t : DS} (q : t env E) : liftS K t Dn σ H := ⟨F, env, E, c.er, q, k.from c⟩
end
def sNext : DS := fun env E => E.nx env
def sSeq (t u : DS) : DS := fun env E => t env { E with nx := fun e1 => u e1 E }
section
variable {X : Cx} {st : Stmt} {rest : List Stmt} {t u : DS} {e : Expr} {te : DT} {pos : Pos}
theorem ds_nil : DSs X [] sNext := PSs.imp pss_nil fun D σ H h => by
  obtain ⟨F, env, E, er, q, k⟩ := h
  exact k.nx _ _ _ _ q (.refl er)
theorem seq_ends {K : PySem.W.Frag} {σ : L2.St} {H : Hp} {F : Fz} {env : SEnv} {E : SE} {Dn : Ends} (k : EndsOk K σ H F env E Dn) : EndsOk K σ H F env { E with nx := fun e1 => u e1 E } { Dn with nx := liftS K u Dn } :=
  ⟨fun env' σ' H' F' q c => ⟨F', env', E, c.er, q, k.from c⟩, k.rt, k.bk, k.ct⟩
theorem ds_cons (h1 : DSt X st t) (h2 : DSs X rest u) : DSs X (st :: rest) (sSeq t u) := PSs.imp (pss_cons h1 h2) fun D σ H h => by
  obtain ⟨F, env, E, er, q, k⟩ := h
  exact ⟨F, env, _, er, q, seq_ends k⟩
theorem ds_last (h1 : DSt X st t) : DSs X [st] t := pss_one h1
def sBreak : DS := fun env E => E.bk env
def sCont : DS := fun env E => E.ct env
theorem ds_pass : DSt X (.Pass pos) sNext := PS.imp ps_pass fun D σ H h => by
  obtain ⟨F, env, E, er, q, k⟩ := h
  exact k.nx _ _ _ _ q (.refl er)
theorem ds_break : DSt X (.Break pos) sBreak := PS.imp ps_break fun D σ H h => by
  obtain ⟨F, env, E, er, q, k⟩ := h
  exact k.bk _ _ _ _ q (.refl er)
theorem ds_continue : DSt X (.Continue pos) sCont := PS.imp ps_continue fun D σ H h => by
  obtain ⟨F, env, E, er, q, k⟩ := h
  exact k.ct _ _ _ _ q (.refl er)
def sNever : DS := fun _ _ => False
theorem ds_never : DSt X st sNever := PS.imp ps_never fun D σ H h => by
  obtain ⟨F, env, E, er, q, k⟩ := h
  exact q
/-- an owned slot is read alone from now on -/
def sFreeze (i : Nat) (t : DS) : DS := fun env E => ∃ d, env[i]? = some (.ow false d) ∧ t (env.set i (.fz d)) E
theorem getElem?_set' {l : List Slot} {i j : Nat} {s : Slot} (h : (l.set i s)[j]? = some r) : (j = i ∧ r = s) ∨ (j ≠ i ∧ l[j]? = some r) := by
  by_cases e : j = i
  · subst e
    by_cases hl : j < l.length
    · rw [List.getElem?_set_self hl] at h; cases h; exact .inl ⟨rfl, rfl⟩
    · rw [List.getElem?_eq_none (by simpa using hl)] at h; cases h
  · rw [List.getElem?_set_ne (Ne.symm e)] at h
    exact .inr ⟨e, h⟩
theorem freeze_cur {K : PySem.W.Frag} {σ : L2.St} {H : Hp} {F : Fz} {env : SEnv} {i : Nat} {d : D} (er : ER K σ H F env) (h : env[i]? = some (.ow false d)) : ∃ F', CurS K σ H F env σ H F' (env.set i (.fz d)) := by
  obtain ⟨a, ea, nf, t⟩ := er.ow i _ d h
  obtain ⟨o, ho, _⟩ := t.obj
  have e : Ext H F H (fun b => F b ∨ b = a) := ⟨fun _ h => .inl h, fun _ _ _ h => h, fun _ _ h => h, fun _ _ _ h => h⟩
  have hA : AOf σ env a := ⟨i, _, d, h, ea⟩
  refine ⟨fun b => F b ∨ b = a, er, ⟨fun _ h => .inl h, fun _ _ h _ => h, fun b hb => ?_, fun _ h => h, fun b hb => .inl ?_, fun j d' hj => ⟨rfl, d', ?_⟩, rfl⟩, ⟨by simpa using er.len, fun j d' hj => ?_, fun j p d' hj => ?_, fun j ns hj => ?_, fun j l p d1 q d2 b h1 h2 => ?_, fun b hb => ?_⟩⟩
  · rcases hb with hb | rfl
    · exact .inl hb
    · exact .inr (.inr hA)
  · obtain ⟨j, p, d', hj, q⟩ := hb
    rcases getElem?_set' hj with ⟨_, z⟩ | ⟨_, z⟩
    · cases z
    · exact ⟨j, p, d', z, q⟩
  · rw [List.getElem?_set_ne (fun z => by subst z; rw [h] at hj; cases hj)]
    exact hj
  · rcases getElem?_set' hj with ⟨rfl, z⟩ | ⟨_, z⟩
    · cases z
      refine ⟨_, ea, ?_⟩
      cases d with
      | list ds => obtain ⟨xs, hx, r⟩ := t; exact .lst (.inr rfl) hx (r.ext e)
      | dict kvs => obtain ⟨vs, hx, r⟩ := t; exact .dic (.inr rfl) hx.r (r.ext e)
      | _ => exact t.elim
    · obtain ⟨v, q, r⟩ := er.fz j d' z
      exact ⟨v, q, r.ext e⟩
  · rcases getElem?_set' hj with ⟨_, z⟩ | ⟨nj, z⟩
    · cases z
    · obtain ⟨b, q, nb, r⟩ := er.ow j p d' z
      refine ⟨b, q, fun y => ?_, r.ext e fun _ y => y⟩
      rcases y with y | rfl
      · exact nb y
      · exact nj (er.dis j i _ _ _ _ _ z h q ea)
  · rcases getElem?_set' hj with ⟨_, z⟩ | ⟨_, z⟩
    · cases z
    · exact er.sc j ns z
  · rcases getElem?_set' h1 with ⟨_, z⟩ | ⟨_, z⟩
    · cases z
    · rcases getElem?_set' h2 with ⟨_, y⟩ | ⟨_, y⟩
      · cases y
      · exact er.dis j l _ _ _ _ _ z y
  · rcases hb with hb | rfl
    · exact er.liv b hb
    · rw [ho]; exact fun z => nomatch z
theorem ds_freeze (i : Nat) {sts : List Stmt} (h : DSs X sts t) : DSs X sts (sFreeze i t) := PSs.imp h fun D σ H h => by
  obtain ⟨F, env, E, er, ⟨d, hd, q⟩, k⟩ := h
  obtain ⟨F', c⟩ := freeze_cur er hd
  exact ⟨F', _, E, c.er, q, k.from c⟩

/-! ### small statements -/
def sDrop (te : DT) : DS := fun env E => te env fun _ e1 => E.nx e1
theorem ds_expr (he : DE X e te) (hs : swapsWith e none pos.line X.env = pure false := by rfl) : DSt X (.Expr e pos) (sDrop te) := PS.imp (ps_expr he hs) fun D σ H h => by
  obtain ⟨F, env, E, er, q, k⟩ := h
  exact lift_val (.refl er) q fun o e1 v H1 F1 h1 c1 _ => k.nx _ _ _ _ h1 c1.s
def sRet (te : DT) : DS := fun env E => te env fun o e1 => E.rt o e1
theorem ds_ret (he : DE X e te) : DSt X (.Return (some e) pos) (sRet te) := PS.imp (ps_ret he) fun D σ H h => by
  obtain ⟨F, env, E, er, q, k⟩ := h
  exact lift_val (.refl er) q fun o e1 v H1 F1 h1 c1 r => k.rt _ _ _ _ _ _ h1 c1.s r
def sRetN : DS := fun env E => E.rt (.fz .none) env
theorem ds_retN : DSt X (.Return none pos) sRetN := PS.imp ps_retN fun D σ H h => by
  obtain ⟨F, env, E, er, q, k⟩ := h
  exact k.rt _ _ _ _ _ _ q (.refl er) Rp.non
def sIf (c : DB) (t u : DS) : DS := fun env E => c env fun b e1 => if b = true then t e1 E else u e1 E
theorem ds_if {c : Expr} {a b : List Stmt} {tc : DB} (hc : DTe X c tc) (ha : DSs X a t) (hb : DSs X b u) : DSt X (.If c a b pos) (sIf tc t u) := PS.imp (ps_if hc ha hb) fun D σ H h => by
  obtain ⟨F, env, E, er, q, k⟩ := h
  refine lift_tst (.refl er) q fun c e1 H1 F1 h1 c1 => ?_
  cases c with
  | true => exact ⟨F1, e1, E, c1.er, h1, k.from c1.s⟩
  | false => exact ⟨F1, e1, E, c1.er, h1, k.from c1.s⟩
end

/-! ### stores into slots -/
def O.slot : O → Option Slot
  | .fz d => some (.fz d)
  | .nw d => some (.ow false d)
  | _ => none
def O.slotF : O → Option Slot
  | .fz d => some (.fz d)
  | .nw d => some (.fz d)
  | _ => none
def notPin (env : SEnv) (i : Nat) : Bool := match env[i]? with
  | some (.ow true _) => false
  | some _ => true
  | none => false
section
variable {K : PySem.W.Frag} {σ : L2.St} {H0 H : Hp} {F0 F : Fz} {env0 env : SEnv} {i : Nat} {v : V} {o : O} {s : Slot}
theorem notPin_ok (h : notPin env i = true) : i < env.length ∧ ∀ d, env[i]? ≠ some (.ow true d) := by
  unfold notPin at h
  split at h
  · cases h
  · rename_i s' hn hs
    refine ⟨(List.getElem?_eq_some_iff.mp hs).1, fun d z => ?_⟩
    rw [hs] at z
    cases z
    exact hn d rfl
  · cases h
/-- slot i holds what came -/
theorem set_cur (c : CurS K σ0 H0 F0 env0 σ H F env) (r : RO K H0 σ H F env v o) (nd : ∀ d a, o = .nw d → v = .ref a → ¬ AOf σ env a) (hs : o.slot = some s) (hp : notPin env i = true) :
    CurS K σ0 H0 F0 env0 (σ.set i (some v)) H F (env.set i s) := by
  obtain ⟨hi, np⟩ := notPin_ok hp
  have hiσ : i < σ.length := c.er.len ▸ hi
  have hv : (σ.set i (some v))[i]? = some (some v) := List.getElem?_set_self hiσ
  have ows : ∀ p d, s = .ow p d → ∃ a, o = .nw d ∧ v = .ref a ∧ H0 a = none ∧ ¬ F a ∧ Top K H F a d := fun p d e => by
    subst e
    cases o with
    | nw d' => cases hs; obtain ⟨a, e, q⟩ := r; exact ⟨a, rfl, e, q⟩
    | _ => cases hs
  have fzs : ∀ d, s = .fz d → Rp K H F d v := fun d e => by
    subst e
    cases o with
    | fz d' => cases hs; exact r
    | _ => cases hs
  have scs : ∀ ns, s ≠ .sc ns := fun ns e => by
    subst e
    cases o <;> cases hs
  refine ⟨c.er0, ⟨c.st.f, c.st.keep, c.st.new, c.st.live, fun a ha => ?_, fun j d hj => ?_, by rw [List.length_set]; exact c.st.len⟩, ⟨by simpa using c.er.len, fun j d hj => ?_, fun j p d hj => ?_, fun j ns hj => ?_, fun j l p d1 q d2 b h1 h2 e1 e2 => ?_, c.er.liv⟩⟩
  · obtain ⟨j, p, d, hj, q⟩ := ha
    rcases getElem?_set' hj with ⟨rfl, z⟩ | ⟨nj, z⟩
    · rw [hv] at q
      cases q
      obtain ⟨a', _, e, n, _⟩ := ows _ _ z.symm
      cases e
      exact .inr n
    · rw [List.getElem?_set_ne (Ne.symm nj)] at q
      exact c.st.own a ⟨j, p, d, z, q⟩
  · obtain ⟨e, d', h'⟩ := c.st.pin j d hj
    have nj : j ≠ i := fun z => by subst z; exact np d' h'
    rw [List.getElem?_set_ne (Ne.symm nj), List.getElem?_set_ne (Ne.symm nj)]
    exact ⟨e, d', h'⟩
  · rcases getElem?_set' hj with ⟨rfl, z⟩ | ⟨nj, z⟩
    · exact ⟨v, hv, fzs d z.symm⟩
    · rw [List.getElem?_set_ne (Ne.symm nj)]
      exact c.er.fz j d z
  · rcases getElem?_set' hj with ⟨rfl, z⟩ | ⟨nj, z⟩
    · obtain ⟨a', _, rfl, _, nf, t⟩ := ows _ _ z.symm
      exact ⟨a', hv, nf, t⟩
    · rw [List.getElem?_set_ne (Ne.symm nj)]
      exact c.er.ow j p d z
  · rcases getElem?_set' hj with ⟨rfl, z⟩ | ⟨nj, z⟩
    · exact absurd z.symm (scs ns)
    · rw [List.getElem?_set_ne (Ne.symm nj)]
      exact c.er.sc j ns z
  · rcases getElem?_set' h1 with ⟨rfl, z⟩ | ⟨nj, z⟩
    · rcases getElem?_set' h2 with ⟨rfl, y⟩ | ⟨nl, y⟩
      · rfl
      · rw [hv] at e1
        cases e1
        rw [List.getElem?_set_ne (Ne.symm nl)] at e2
        obtain ⟨a', eo, e, _⟩ := ows _ _ z.symm
        cases e
        exact absurd ⟨l, q, d2, y, e2⟩ (nd _ _ eo rfl)
    · rcases getElem?_set' h2 with ⟨rfl, y⟩ | ⟨nl, y⟩
      · rw [hv] at e2
        cases e2
        rw [List.getElem?_set_ne (Ne.symm nj)] at e1
        obtain ⟨a', eo, e, _⟩ := ows _ _ y.symm
        cases e
        exact absurd ⟨j, p, d1, z, e1⟩ (nd _ _ eo rfl)
      · rw [List.getElem?_set_ne (Ne.symm nj)] at e1
        rw [List.getElem?_set_ne (Ne.symm nl)] at e2
        exact c.er.dis j l _ _ _ _ _ z y e1 e2
theorem RO.nd (c : Cur K σ H0 F0 env0 H F env) (r : RO K H0 σ H F env v o) : ∀ d a, o = .nw d → v = .ref a → ¬ AOf σ env a := fun d a e e' h => by
  subst e
  obtain ⟨a', e2, n, _⟩ := r
  rw [e'] at e2
  cases e2
  exact c.er0.live (c.sh.a.mp h) n
/-- the same, read alone -/
theorem RO.frz (c : Cur K σ H0 F0 env0 H F env) (r : RO K H0 σ H F env v o) (hs : o.slotF = some s) : ∃ F' d, Cur K σ H0 F0 env0 H F' env ∧ s = .fz d ∧ RO K H0 σ H F' env v (.fz d) := by
  obtain ⟨F', c', op, _⟩ := c.opd r
  cases o with
  | fz d => cases hs; exact ⟨F', d, c', rfl, op⟩
  | nw d => cases hs; exact ⟨F', d, c', rfl, op⟩
  | _ => cases hs
end
def sSet (i : Nat) (te : DT) : DS := fun env E => te env fun o e1 => ∃ s, o.slot = some s ∧ notPin e1 i = true ∧ E.nx (e1.set i s)
def sSetF (i : Nat) (te : DT) : DS := fun env E => te env fun o e1 => ∃ s, o.slotF = some s ∧ notPin e1 i = true ∧ E.nx (e1.set i s)
section
variable {X : Cx} {e : Expr} {te : DT} {pos pos' : Pos}
theorem lift_set (i : Nat) : ∀ Dn σ H, liftS X.K (sSet i te) Dn σ H → tAsg (liftE X.K te) (gName i) Dn σ H := fun Dn σ H h => by
  obtain ⟨F, env, E, er, q, k⟩ := h
  refine lift_val (.refl er) q fun o e1 v H1 F1 h1 c1 r => ?_
  obtain ⟨s, hs, hp, q1⟩ := h1
  exact k.nx _ _ _ _ q1 (set_cur c1.s r (RO.nd c1 r) hs hp)
theorem lift_setF (i : Nat) : ∀ Dn σ H, liftS X.K (sSetF i te) Dn σ H → tAsg (liftE X.K te) (gName i) Dn σ H := fun Dn σ H h => by
  obtain ⟨F, env, E, er, q, k⟩ := h
  refine lift_val (.refl er) q fun o e1 v H1 F1 h1 c1 r => ?_
  obtain ⟨s, hs, hp, q1⟩ := h1
  obtain ⟨F2, d, c2, rfl, r2⟩ := RO.frz c1 r hs
  exact k.nx _ _ _ _ q1 (set_cur c2.s r2 (RO.nd c2 r2) rfl hp)
theorem ds_set (i : Nat) {x : Str} (hN : X.N.Nodup) (he : DE X e te) (hi : X.N[i]? = some x := by rfl) (hx : Loc X.env.scope x := by first | exact .inl rfl | exact .inr rfl) (hs : swapsWith e (some (.Name x pos')) pos.line X.env = pure false := by rfl)
    (hf : X.fn x = true ∨ X.env.scope.names.lookup x = some .local := by first | exact .inl rfl | exact .inr rfl) : DSt X (.Assign [.Name x pos'] e pos) (sSet i te) := PS.imp (ps_set hN hi hx he hs hf) (lift_set i)
theorem ds_setF (i : Nat) {x : Str} (hN : X.N.Nodup) (he : DE X e te) (hi : X.N[i]? = some x := by rfl) (hx : Loc X.env.scope x := by first | exact .inl rfl | exact .inr rfl) (hs : swapsWith e (some (.Name x pos')) pos.line X.env = pure false := by rfl)
    (hf : X.fn x = true ∨ X.env.scope.names.lookup x = some .local := by first | exact .inl rfl | exact .inr rfl) : DSt X (.Assign [.Name x pos'] e pos) (sSetF i te) := PS.imp (ps_set hN hi hx he hs hf) (lift_setF i)
end

/-! ### targets -/
abbrev DG := D → SEnv → (SEnv → Prop) → Prop
abbrev DGs := List D → SEnv → (SEnv → Prop) → Prop
/-- only the slots in wr are written -/
structure Wr (wr : List Nat) (σ : L2.St) (env : SEnv) (σ' : L2.St) (env' : SEnv) : Prop where
  s : ∀ j, j ∉ wr → σ'[j]? = σ[j]?
  e : ∀ j, j ∉ wr → env'[j]? = env[j]?
def liftG (K : PySem.W.Frag) (wr : List Nat) (t : DG) : TG := fun v σ H Q => ∃ F env d R, ER K σ H F env ∧ Rp K H F d v ∧ t d env R ∧ ∀ env' σ' H' F', R env' → CurS K σ H F env σ' H' F' env' → Wr wr σ env σ' env' → Q σ' H'
def liftGs (K : PySem.W.Frag) (wr : List Nat) (t : DGs) : TGs := fun vs σ H Q => ∃ F env ds R, ER K σ H F env ∧ RpL K H F ds vs ∧ t ds env R ∧ ∀ env' σ' H' F', R env' → CurS K σ H F env σ' H' F' env' → Wr wr σ env σ' env' → Q σ' H'
def DGt (X : Cx) (e : Expr) (wr : List Nat) (t : DG) : Prop := PG X e (liftG X.K wr t)
def DGst (X : Cx) (es : List Expr) (wr : List Nat) (t : DGs) : Prop := PGs X es (liftGs X.K wr t)
theorem PG.imp {X : Cx} {e : Expr} {t t' : TG} (h : PG X e t) (i : ∀ v σ H Q, t' v σ H Q → t v σ H Q) : PG X e t' := ⟨fun pins s σ H v u Q I r q => h.run pins s σ H v u Q I r (i v σ H Q q)⟩
theorem PGs.imp {X : Cx} {e : List Expr} {t t' : TGs} (h : PGs X e t) (i : ∀ v σ H Q, t' v σ H Q → t v σ H Q) : PGs X e t' := ⟨fun pins s σ H v u Q I r q => h.run pins s σ H v u Q I r (i v σ H Q q)⟩
def gN (i : Nat) : DG := fun d env Q => notPin env i = true ∧ Q (env.set i (.fz d))
def gNil : DGs := fun ds env Q => ds = [] ∧ Q env
def gCons (t : DG) (u : DGs) : DGs := fun ds env Q => ∃ d r, ds = d :: r ∧ t d env fun e1 => u r e1 Q
def gT (n : Nat) (t : DGs) : DG := fun d env Q => ∃ ds, d = .tuple ds ∧ ds.length = n ∧ t ds env Q
section
variable {X : Cx} {pos : Pos} {e : Expr} {es : List Expr} {t : DG} {u : DGs} {w1 w2 : List Nat}
theorem dg_name (i : Nat) {x : Str} (hN : X.N.Nodup) (hi : X.N[i]? = some x := by rfl) (hx : Loc X.env.scope x := by first | exact .inl rfl | exact .inr rfl) (hf : X.fn x = true ∨ X.env.scope.names.lookup x = some .local := by first | exact .inl rfl | exact .inr rfl) : DGt X (.Name x pos) [i] (gN i) :=
  PG.imp (pg_name hN hi hx hf) fun v σ H Q h => by
    obtain ⟨F, env, d, R, er, r, ⟨hp, q⟩, k⟩ := h
    refine k _ _ _ _ q (set_cur (o := .fz d) (.refl er) r (fun _ _ z => nomatch z) rfl hp) ⟨fun j hj => ?_, fun j hj => ?_⟩
    · exact List.getElem?_set_ne (fun z => hj (by simp [z]))
    · exact List.getElem?_set_ne (fun z => hj (by simp [z]))
theorem dgs_nil : DGst X [] [] gNil := PGs.imp pgs_nil fun vs σ H Q h => by
  obtain ⟨F, env, ds, R, er, r, ⟨rfl, q⟩, k⟩ := h
  cases r
  exact ⟨rfl, k _ _ _ _ q (.refl er) ⟨fun _ _ => rfl, fun _ _ => rfl⟩⟩
theorem dgs_cons (h1 : DGt X e w1 t) (h2 : DGst X es w2 u) (hs : (assignEach (e :: es) X.env).map (·.2) = assign e X.env :: (assignEach es X.env).map (·.2) := by rfl) : DGst X (e :: es) (w1 ++ w2) (gCons t u) := PGs.imp (pgs_cons h1 h2 hs) fun vs σ H Q h => by
  obtain ⟨F, env, ds, R, er, r, ⟨d, rd, rfl, q⟩, k⟩ := h
  cases r with
  | cons r1 r2 =>
    refine ⟨_, _, rfl, F, env, d, _, er, r1, q, fun env' σ' H' F' h' c' w' => ?_⟩
    exact ⟨F', env', rd, R, c'.er, r2.ext c'.e, h', fun env2 σ2 H2 F2 q2 c2 w2 => k _ _ _ _ q2 (c'.trans c2)
      ⟨fun j hj => (w2.s j fun z => hj (List.mem_append_right _ z)).trans (w'.s j fun z => hj (List.mem_append_left _ z)), fun j hj => (w2.e j fun z => hj (List.mem_append_right _ z)).trans (w'.e j fun z => hj (List.mem_append_left _ z))⟩⟩
theorem dg_tup {k : Nat} {n : Nat} (hc : X.calm = true) (h : DGst X es w1 u) (hn : (assignEach es X.env).length = n := by rfl) (hst : (assignEach es X.env).findIdx? (·.1) = none := by rfl) : DGt X (.Tuple es k pos) w1 (gT n u) := PG.imp (pg_tup hc h hn hst) fun v σ H Q h => by
  obtain ⟨F, env, d, R, er, r, ⟨ds, rfl, hl, q⟩, k⟩ := h
  cases r with
  | tup ha r => exact ⟨_, _, rfl, ha.sq, by rw [← r.length]; exact hl, F, env, ds, R, er, r, q, k⟩
end
/-- target = value, the value read alone -/
def sAsg (te : DT) (g : DG) : DS := fun env E => te env fun o e1 => ∃ d, o.val = some d ∧ g d e1 E.nx
section
variable {X : Cx} {e tg : Expr} {te : DT} {g : DG} {pos : Pos} {wr : List Nat}
theorem Opd.val {K : PySem.W.Frag} {σ : L2.St} {H : Hp} {F : Fz} {env : SEnv} {v : V} {o : O} {d : D} (h : Opd K σ H F env v o) (e : o.val = some d) : Rp K H F d v := by
  cases o with
  | fz d' => cases e; exact h
  | nw d' => cases e; exact h
  | _ => cases e
theorem ds_asg (he : DE X e te) (hg : DGt X tg wr g) (hs : swapsWithSole [tg] e pos.line X.env = pure false := by rfl) (hw : swappedStores [tg] e X.env = pure none := by rfl)
    (h1 : (assignEach [tg] X.env).map (·.2) = [assign tg X.env] := by rfl) : DSt X (.Assign [tg] e pos) (sAsg te g) := PS.imp (ps_asg he hg hs hw h1) fun Dn σ H h => by
  obtain ⟨F, env, E, er, q, k⟩ := h
  refine lift_op (.refl er) q fun o1 e1 v H1 F1 h1 c1 _ p1 => ?_
  obtain ⟨d, hd, q1⟩ := h1
  exact ⟨F1, e1, d, _, c1.er, p1.val hd, q1, fun env' σ' H' F' q2 c2 _ => k.nx _ _ _ _ q2 (c1.s.trans c2)⟩
end

/-! ### a, b = x, y -/
def sPar (i j : Nat) (ta tb : DT) : DS := fun env E => ta env fun o1 e1 => tb e1 fun o2 e2 => ∃ s1 s2, o1.slot = some s1 ∧ o2.slot = some s2 ∧ notPin e2 i = true ∧ notPin e2 j = true ∧ E.nx ((e2.set i s1).set j s2)
section
variable {K : PySem.W.Frag} {σ : L2.St} {H0 H1 H2 : Hp} {F0 F1 F2 : Fz} {env0 e1 e2 : SEnv} {v w : V} {o1 o2 : O}
theorem RO.cur (r : RO K H0 σ H1 F1 e1 v o1) (c0 : Cur K σ H0 F0 env0 H1 F1 e1) (c : Cur K σ H1 F1 e1 H2 F2 e2) : RO K H0 σ H2 F2 e2 v o1 := by
  cases o1 with
  | fz d => exact Rp.ext c.e r
  | al i => obtain ⟨h, p, d, q⟩ := r; exact ⟨h, p, c.sh.ow q⟩
  | sc ns => obtain ⟨a, e, h⟩ := r; exact ⟨a, e, h.ext c.e⟩
  | nw d =>
    have nd := RO.nd c0 r
    obtain ⟨a, e, n, nf, t⟩ := r
    obtain ⟨o, ho, _⟩ := t.obj
    refine ⟨a, e, n, fun z => ?_, t.ext c.e fun o' h' => c.st.keep a o' h' (nd d a rfl e)⟩
    rcases c.st.new a z with z | z
    · exact nf z
    · rw [ho] at z; cases z
theorem par_cur {i j : Nat} {s1 s2 : Slot} (hij : i ≠ j) (c1 : Cur K σ H0 F0 env0 H1 F1 e1) (r1 : RO K H0 σ H1 F1 e1 v o1) (c2 : Cur K σ H1 F1 e1 H2 F2 e2) (r2 : RO K H1 σ H2 F2 e2 w o2)
    (h1 : o1.slot = some s1) (h2 : o2.slot = some s2) (p1 : notPin e2 i = true) (p2 : notPin e2 j = true) : CurS K σ H0 F0 env0 ((σ.set i (some v)).set j (some w)) H2 F2 ((e2.set i s1).set j s2) := by
  have c := c1.trans c2
  have r1' : RO K H0 σ H2 F2 e2 v o1 := r1.cur c1 c2
  have s := set_cur c.s r1' (RO.nd c r1') h1 p1
  have r2' : RO K H0 (σ.set i (some v)) H2 F2 (e2.set i s1) w o2 := by
    cases o2 with
    | fz d => exact r2
    | nw d => obtain ⟨a, e, n, q⟩ := r2; exact ⟨a, e, c1.st.live a n, q⟩
    | _ => cases h2
  refine set_cur s r2' (fun d a eo ea h => ?_) h2 ?_
  · obtain ⟨k, p, d', hk, q⟩ := h
    rcases getElem?_set' hk with ⟨rfl, z⟩ | ⟨nk, z⟩
    · subst eo
      obtain ⟨a2, e2', n2, _⟩ := r2
      rw [ea] at e2'; cases e2'
      cases o1 with
      | nw d1 =>
        obtain ⟨a1, e1', _, _, t1⟩ := r1
        rw [List.getElem?_set_self (by rw [← c.er.len]; exact (notPin_ok p1).1)] at q
        cases q
        cases e1'
        obtain ⟨o, ho, _⟩ := t1.obj
        rw [ho] at n2; cases n2
      | fz d1 => cases h1; cases z
      | _ => cases h1
    · rw [List.getElem?_set_ne (Ne.symm nk)] at q
      exact RO.nd c2 r2 d a eo ea ⟨k, p, d', z, q⟩
  · unfold notPin at p2 ⊢
    rw [List.getElem?_set_ne hij]
    exact p2
end
section
variable {X : Cx} {a b : Expr} {ta tb : DT} {pos px py pt pt2 : Pos}
theorem pa_two (ha : PE X a t1) (hb : PE X b t2) (hs : starEach [a, b] X.env = (false, eval a X.env) :: starEach [b] X.env := by rfl) (hs2 : starEach [b] X.env = (false, eval b X.env) :: starEach [] X.env := by rfl) : PA X [a, b] (tCons t1 (tCons t2 tNil)) := pa_cons ha (pa_cons hb pa_nil hs2) hs
theorem ds_par (i j : Nat) {x y : Str} {kt k2} (hc : X.calm = true) (hN : X.N.Nodup) (ha : DE X a ta) (hb : DE X b tb) (hi : X.N[i]? = some x := by rfl) (hj : X.N[j]? = some y := by rfl) (hij : i ≠ j := by decide)
    (hx : X.env.scope.names.lookup x = some .local := by rfl) (hy : X.env.scope.names.lookup y = some .local := by rfl)
    (hw : swappedStores [.Tuple [.Name x px, .Name y py] kt pt] (.Tuple [a, b] k2 pt2) X.env = pure (some [x, y]) := by rfl)
    (hs : swapsWithSole [.Tuple [.Name x px, .Name y py] kt pt] (.Tuple [a, b] k2 pt2) pos.line X.env = pure false := by rfl)
    (h1 : starEach [a, b] X.env = (false, eval a X.env) :: starEach [b] X.env := by rfl) (h2 : starEach [b] X.env = (false, eval b X.env) :: starEach [] X.env := by rfl) :
    DSt X (.Assign [.Tuple [.Name x px, .Name y py] kt pt] (.Tuple [a, b] k2 pt2) pos) (sPar i j ta tb) := PS.imp (ps_par hc hN hi hj hij hx hy (pa_two ha hb h1 h2) hw hs) fun Dn σ H h => by
  obtain ⟨F, env, E, er, q, k⟩ := h
  refine lift_val (.refl er) q fun o1 e1 v H1 F1 h1 c1 r1 => ?_
  refine lift_val (.refl c1.er) h1 fun o2 e2 w H2 F2 h2 c2 r2 => ?_
  obtain ⟨s1, s2, hs1, hs2, p1, p2, q2⟩ := h2
  exact ⟨v, w, rfl, k.nx _ _ _ _ q2 (par_cur hij c1 r1 c2 r2 hs1 hs2 p1 p2)⟩
/-- the same where a name is a cell: by a pair -/
theorem ds_par2 (i j : Nat) {x y : Str} {kt k2} (hc : X.calm = true) (hN : X.N.Nodup) (ha : DE X a ta) (hb : DE X b tb) (hi : X.N[i]? = some x := by rfl) (hj : X.N[j]? = some y := by rfl) (hij : i ≠ j := by decide)
    (hx : Loc X.env.scope x := by first | exact .inl rfl | exact .inr rfl) (hy : Loc X.env.scope y := by first | exact .inl rfl | exact .inr rfl)
    (hfx : X.fn x = true ∨ X.env.scope.names.lookup x = some .local := by first | exact .inl rfl | exact .inr rfl) (hfy : X.fn y = true ∨ X.env.scope.names.lookup y = some .local := by first | exact .inl rfl | exact .inr rfl)
    (hw : swappedStores [.Tuple [.Name x px, .Name y py] kt pt] (.Tuple [a, b] k2 pt2) X.env = pure none := by rfl)
    (hs : swapsWithSole [.Tuple [.Name x px, .Name y py] kt pt] (.Tuple [a, b] k2 pt2) pos.line X.env = pure false := by rfl)
    (hq : (assignEach [.Tuple [.Name x px, .Name y py] kt pt] X.env).map (·.2) = [assign (.Tuple [.Name x px, .Name y py] kt pt) X.env] := by rfl)
    (hn : (assignEach [.Name x px, .Name y py] X.env).length = 2 := by rfl) (hst : (assignEach [.Name x px, .Name y py] X.env).findIdx? (·.1) = none := by rfl)
    (hg1 : (assignEach [.Name x px, .Name y py] X.env).map (·.2) = assign (.Name x px) X.env :: (assignEach [.Name y py] X.env).map (·.2) := by rfl)
    (hg2 : (assignEach [.Name y py] X.env).map (·.2) = assign (.Name y py) X.env :: (assignEach [] X.env).map (·.2) := by rfl)
    (h1 : starEach [a, b] X.env = (false, eval a X.env) :: starEach [b] X.env := by rfl) (h2 : starEach [b] X.env = (false, eval b X.env) :: starEach [] X.env := by rfl) :
    DSt X (.Assign [.Tuple [.Name x px, .Name y py] kt pt] (.Tuple [a, b] k2 pt2) pos) (sPar i j ta tb) :=
  PS.imp (ps_asg (pe_tup (pa_two ha hb h1 h2)) (pg_tup hc (pgs_cons (pg_name hN hi hx hfx) (pgs_cons (pg_name hN hj hy hfy) pgs_nil hg2) hg1) hn hst) hs hw hq) fun Dn σ H h => by
  obtain ⟨F, env, E, er, q, k⟩ := h
  refine lift_val (.refl er) q fun o1 e1 v H1 F1 h1 c1 r1 => ?_
  refine lift_val (.refl c1.er) h1 fun o2 e2 w H2 F2 h2 c2 r2 => ?_
  obtain ⟨s1, s2, hs1, hs2, p1, p2, q2⟩ := h2
  refine ⟨(by show 2 ≤ sizeLine; decide), fun p np => ⟨p, [v, w], rfl, .of upd_same, rfl, v, [w], rfl, w, [], rfl, rfl, ?_⟩⟩
  have c3 := laid_cur (u := .tup [v, w]) c2.er np
  have r1' := r1.cur c1 c2
  exact k.nx _ _ _ _ q2 (par_cur hij c1 r1 (c2.trans c3) (r2.cur c2 c3) hs1 hs2 p1 p2)
end
end DL
end
section
set_option Elab.async false
set_option linter.all false
set_option maxRecDepth 100000
/-! DL6: what is walked; for, while; a def's promise; calls of defs. -/
namespace DL
open PySem PySem.Spec L2

/-! ### iterables -/
/-- a turn lays nothing, or one thing -/
def Lay (H H' : Hp) : Prop := H' = H ∨ ∃ p u, H p = none ∧ H' = upd H p u
/-- the walk J tells the items, as long as what is read alone stands -/
def JF (K : PySem.W.Frag) (J : It) (H : Hp) (F : Fz) (items : List D) : Prop :=
  ∀ (i : Nat) H1 F1, Ext H F H1 F1 → (∀ d, items[i]? = some d → J.go i H1 ∧ ∀ x H2, J.yld i H1 x H2 → Lay H1 H2 ∧ Rp K H2 F1 d x) ∧ (items.length = i → J.stop i H1)
/-- the walk of the list of an owned slot -/
def JA (K : PySem.W.Frag) (σ : L2.St) (J : It) (i : Nat) : Prop := ∃ a, σ[i]? = some (some (V.ref a)) ∧ J = Itl K a
def JR (K : PySem.W.Frag) (σ : L2.St) (J : It) (H : Hp) (F : Fz) (items : List D) : Option Nat → Prop
  | none => JF K J H F items
  | some i => JA K σ J i
/-- how an owned slot's list stands -/
def alOk (al : Option Nat) (items : List D) (env : SEnv) : Prop := match al with
  | none => True
  | some i => ∃ p, env[i]? = some (.ow p (.list items))
abbrev DI := SEnv → (List D → Option Nat → SEnv → Prop) → Prop
def liftI (K : PySem.W.Frag) (t : DI) : TI := fun σ H R => ∃ F env RI, ER K σ H F env ∧ t env RI ∧
  ∀ items al env' H' F' J, RI items al env' → Cur K σ H F env H' F' env' → JR K σ J H' F' items al → R J H'
def DIt (X : Cx) (tg e : Expr) (t : DI) : Prop := PI X tg e (liftI X.K t)
theorem PI.imp {X : Cx} {tg e : Expr} {t t' : TI} (h : PI X tg e t) (i : ∀ σ H R, t' σ H R → t σ H R) : PI X tg e t' := ⟨fun pins s σ H R I q => h.run pins s σ H R I (i σ H R q)⟩
section
variable {K : PySem.W.Frag} {H H1 H2 : Hp} {F F1 : Fz} {env : SEnv} {σ : L2.St}
theorem Lay.cur (l : Lay H1 H2) (er : ER K σ H1 F env) : Cur K σ H1 F env H2 F env := by
  rcases l with rfl | ⟨p, u, n, rfl⟩
  · exact .refl er
  · exact laid_cur er n
theorem Rp.lst' {ds : List D} {v : V} (r : Rp K H F (.list ds) v) : ∃ a xs, v = .ref a ∧ F a ∧ H a = some (.lst xs) ∧ RpL K H F ds xs := by
  cases r with
  | lst f h r => exact ⟨_, _, rfl, f, h, r⟩
theorem Rp.tup' {ds : List D} {v : V} (r : Rp K H F (.tuple ds) v) : ∃ a xs, v = .ref a ∧ TpAt H a xs ∧ RpL K H F ds xs := by
  cases r with
  | tup h r => exact ⟨_, _, rfl, h, r⟩
theorem jf_list {a : Addr} {xs : List V} {ds : List D} (f : F a) (h : H a = some (.lst xs)) (r : RpL K H F ds xs) : JF K (Itl K a) H F ds := fun i H1 F1 e => by
  have h1 := e.fo _ _ f h
  refine ⟨fun d hd => ?_, fun hl => ⟨xs, .of h1, by rw [← r.length]; exact Nat.le_of_eq hl⟩⟩
  obtain ⟨x, hx, rx⟩ := r.get hd
  refine ⟨⟨xs, x, .of h1, hx⟩, fun y H2 ⟨e2, hy⟩ => ?_⟩
  subst e2
  have e3 := hy xs (.of h1)
  rw [hx] at e3
  cases e3
  exact ⟨.inl rfl, rx.ext e⟩
theorem jf_tup {a : Addr} {xs : List V} {ds : List D} (h : TpAt H a xs) (r : RpL K H F ds xs) : JF K (Itt K a) H F ds := fun i H1 F1 e => by
  have h1 := h.ext e
  refine ⟨fun d hd => ?_, fun hl => ⟨xs, h1.sq, by rw [← r.length]; exact Nat.le_of_eq hl⟩⟩
  obtain ⟨x, hx, rx⟩ := r.get hd
  refine ⟨⟨xs, x, h1.sq, hx⟩, fun y H2 ⟨e2, hy⟩ => ?_⟩
  subst e2
  have e3 := hy xs h1.sq
  rw [hx] at e3
  cases e3
  exact ⟨.inl rfl, rx.ext e⟩
end
/-- a list or a tuple -/
def iSeqV (K : PySem.W.Frag) (tl : TE) : TI := fun σ H R => tl σ H fun x H1 => ∃ a, x = .ref a ∧ (((∃ xs, SqL K H1 a xs) ∧ R (Itl K a) H1) ∨ ((∃ xs, SqT K H1 a xs) ∧ R (Itt K a) H1))
theorem pi_seqV {X : Cx} {tg l : Expr} {tl : TE} (hl : PE X l tl) : PI X tg l (iSeqV X.K tl) := by
  refine ⟨fun pins s σ H R I hw => ?_⟩
  refine thn (hl.run pins s σ H _ I hw) fun val s1 ⟨x, H1, I1, rel, a, ex, alt⟩ => ?_
  subst ex
  cases rel
  have fp : ∀ b ∈ [s1.heap.objs.size], FpOk X pins H1 b := fun b hb => by
    rw [List.mem_singleton.mp hb]
    exact I1.fpOk (Nat.le_refl _) (I1.hok.fresh (Nat.le_refl _))
  have kp : ∀ (o : Obj), Inv X pins σ H1 { s1 with heap := s1.heap.push o } := fun o => I1.kept (t' := s1.toks) fun b ob z => Heap.get?_push_of_some _ z
  rcases alt with ⟨⟨xs, hq⟩, q⟩ | ⟨⟨xs, hq⟩, q⟩
  · obtain ⟨its, _, pl, _⟩ := I1.list hq
    exact wpAny_pyIter_list pl.isList ⟨_, [_], _, _, H1, rfl, kp _, turn_list a _, ⟨_, Heap.get?_push_size _ rfl, rfl, rfl⟩, fp, q⟩
  · obtain ⟨its, _, pl, _⟩ := I1.tuple hq
    exact wpAny_pyIter_tuple (show s1.heap.IsTuple a its.toArray from pl) ⟨_, [_], _, _, H1, rfl, kp _, turn_tuple a _, ⟨_, Heap.get?_push_size _ rfl, rfl, rfl⟩, fp, q⟩
def iSeq (t : DT) : DI := fun env Q => t env fun o e1 => ∃ d ds, o.val = some d ∧ seqD d = some ds ∧ Q ds none e1
/-- the list of an owned slot, by its name -/
def iAl (t : DT) : DI := fun env Q => t env fun o e1 => ∃ i p ds, o = .al i ∧ e1[i]? = some (.ow p (.list ds)) ∧ Q ds (some i) e1
def rngD (lo : Int) (n : Nat) : List D := (List.range n).map fun i : Nat => .int (lo + (i : Int))
def iR1 (t : DT) : DI := fun env Q => t env fun o e1 => ∃ j, o = .fz (.int j) ∧ -(2 ^ 62) ≤ j ∧ j < 2 ^ 62 ∧ Q (rngD 0 j.toNat) none e1
def iR2 (t u : DT) : DI := fun env Q => t env fun o e1 => u e1 fun o2 e2 => ∃ i j, o = .fz (.int i) ∧ o2 = .fz (.int j) ∧ (-(2 ^ 62) ≤ i ∧ i < 2 ^ 62 ∧ -(2 ^ 62) ≤ j ∧ j < 2 ^ 62) ∧ Q (rngD i (j - i).toNat) none e2
theorem jf_rng {K : PySem.W.Frag} {H : Hp} {F : Fz} {lo : Int} {n : Nat} : JF K (Itr lo n) H F (rngD lo n) := fun i H1 F1 e => by
  refine ⟨fun d hd => ?_, fun hl => by
    unfold rngD at hl
    exact (show n ≤ i from Nat.le_of_eq (by simpa using hl))⟩
  unfold rngD at hd
  rw [List.getElem?_map] at hd
  by_cases hi : i < n
  · rw [List.getElem?_eq_getElem (by simpa using hi)] at hd
    simp at hd
    subst hd
    refine ⟨hi, fun x H2 ⟨e1, e2⟩ => ?_⟩
    subst e1 e2
    exact ⟨.inl rfl, .int _⟩
  · rw [List.getElem?_eq_none (by simpa using hi)] at hd
    cases hd
section
variable {X : Cx} {tg e a b : Expr} {t u : DT} {p pos : Pos}
theorem di_seq (he : DE X e t) : DIt X tg e (iSeq t) := PI.imp (pi_seqV he) fun σ H R h => by
  obtain ⟨F, env, RI, er, q, k⟩ := h
  refine lift_op (.refl er) q fun o1 e1 x H1 F1 h1 c1 _ p1 => ?_
  obtain ⟨d, ds, hv, hs, q1⟩ := h1
  have r := p1.val hv
  cases d with
  | list ds' =>
    cases hs
    obtain ⟨a, xs, rfl, f, h, r⟩ := r.lst'
    exact ⟨a, rfl, .inl ⟨⟨xs, .of h⟩, k _ _ _ _ _ _ q1 c1 (jf_list f h r)⟩⟩
  | tuple ds' =>
    cases hs
    obtain ⟨a, xs, rfl, h, r⟩ := r.tup'
    exact ⟨a, rfl, .inr ⟨⟨xs, h.sq⟩, k _ _ _ _ _ _ q1 c1 (jf_tup h r)⟩⟩
  | _ => cases hs
theorem di_al (he : DE X e t) : DIt X tg e (iAl t) := PI.imp (pi_seqV he) fun σ H R h => by
  obtain ⟨F, env, RI, er, q, k⟩ := h
  refine lift_op (.refl er) q fun o1 e1 x H1 F1 h1 c1 _ p1 => ?_
  obtain ⟨i, p, ds, rfl, hi, q1⟩ := h1
  obtain ⟨hx, _⟩ := p1
  obtain ⟨a, ea, _, xs, h, _⟩ := c1.er.ow i _ _ hi
  rw [hx] at ea
  cases ea
  exact ⟨a, rfl, .inl ⟨⟨xs, .of h⟩, k _ _ _ _ _ _ q1 c1 ⟨a, hx, rfl⟩⟩⟩
theorem di_r1 (hg : Gl X "range") (hm : X.mg "range" = none) (ha : DE X a t) (h1 : starEach [a] X.env = (false, eval a X.env) :: starEach [] X.env := by rfl) (hs : starEach [a] X.env = [(false, eval a X.env)] := by rfl) : DIt X tg (.Call (.Name "range" p) [a] [] pos) (iR1 t) :=
  PI.imp (pi_range1 hg hm (pa_cons ha pa_nil h1) hs) fun σ H R h => by
  obtain ⟨F, env, RI, er, q, k⟩ := h
  refine lift_val (.refl er) q fun o1 e1 x H1 F1 h1 c1 p1 => ?_
  obtain ⟨j, rfl, b1, b2, q1⟩ := h1
  cases (show Rp _ _ _ _ _ from p1)
  exact ⟨j, rfl, b1, b2, k _ _ _ _ _ _ q1 c1 jf_rng⟩
theorem di_r2 (hg : Gl X "range") (hm : X.mg "range" = none) (ha : DE X a t) (hb : DE X b u) (h1 : starEach [a, b] X.env = (false, eval a X.env) :: starEach [b] X.env := by rfl) (h2 : starEach [b] X.env = (false, eval b X.env) :: starEach [] X.env := by rfl)
    (hs : starEach [a, b] X.env = [(false, eval a X.env), (false, eval b X.env)] := by rfl) (hs2 : starEach [b] X.env = [(false, eval b X.env)] := by rfl) : DIt X tg (.Call (.Name "range" p) [a, b] [] pos) (iR2 t u) :=
  PI.imp (pi_range2 hg hm (pa_cons ha (pa_cons hb pa_nil h2) h1) hs hs2) fun σ H R h => by
  obtain ⟨F, env, RI, er, q, k⟩ := h
  refine lift_val (.refl er) q fun o1 e1 x H1 F1 h1 c1 p1 => ?_
  refine lift_op c1 h1 fun o2 e2 y H2 F2 h2 c2 c12 p2 => ?_
  obtain ⟨i, j, rfl, rfl, bd, q2⟩ := h2
  cases (show Rp _ _ _ _ _ from p1)
  cases (show Rp _ _ _ _ _ from p2)
  exact ⟨i, j, rfl, bd, k _ _ _ _ _ _ q2 c2 jf_rng⟩
end

/-! ### for -/
def forGo (g : DG) (tb : DS) : List D → DS
  | [], env, E => E.nx env
  | d :: ds, env, E => g d env fun e1 => tb e1 { E with nx := fun e2 => forGo g tb ds e2 E, ct := fun e2 => forGo g tb ds e2 E, bk := E.nx }
def sFor (ti : DI) (g : DG) (tb : DS) : DS := fun env E => ti env fun items al e1 => al = none ∧ forGo g tb items e1 E
section
variable {X : Cx} {tg iter : Expr} {body : List Stmt} {ti : DI} {g : DG} {tb : DS} {pos : Pos} {wr : List Nat}
theorem lift_for {K : PySem.W.Frag} : ∀ Dn σ H, liftS K (sFor ti g tb) Dn σ H → tFor (liftI K ti) (liftG K wr g) (liftS K tb) Dn σ H := fun Dn σ H h => by
  obtain ⟨F, env, E, er, q, k⟩ := h
  refine ⟨F, env, _, er, q, fun items al e1 H1 F1 J h1 c1 jr => ?_⟩
  obtain ⟨rfl, h1⟩ := h1
  have jf : JF K J H1 F1 items := jr
  refine ⟨fun i m σ' H' => ∃ F' env', CurS K σ H F env σ' H' F' env' ∧ Ext H1 F1 H' F' ∧ m = items.length - i ∧ i ≤ items.length ∧ forGo g tb (items.drop i) env' E, ⟨items.length, F1, e1, c1.s, .refl, by omega, Nat.zero_le _, h1⟩, fun i m σ2 H2 hW => ?_⟩
  obtain ⟨F2, env2, c2, x2, rfl, hi, q2⟩ := hW
  by_cases hlt : i < items.length
  · obtain ⟨d, hd⟩ : ∃ d, items[i]? = some d := ⟨_, List.getElem?_eq_getElem hlt⟩
    obtain ⟨go, yl⟩ := (jf i H2 F2 x2).1 d hd
    have hdr : items.drop i = d :: items.drop (i + 1) := by
      rw [List.drop_eq_getElem_cons hlt]
      rw [List.getElem?_eq_getElem hlt] at hd
      cases hd; rfl
    rw [hdr] at q2
    have step : ∀ σ' H' F' env', CurS K σ H F env σ' H' F' env' → Ext H1 F1 H' F' → forGo g tb (items.drop (i + 1)) env' E →
        ∃ F' env', CurS K σ H F env σ' H' F' env' ∧ Ext H1 F1 H' F' ∧ items.length - (i + 1) = items.length - (i + 1) ∧ i + 1 ≤ items.length ∧ forGo g tb (items.drop (i + 1)) env' E :=
      fun σ' H' F' env' c' x' q' => ⟨F', env', c', x', rfl, hlt, q'⟩
    refine .inr ⟨go, fun σ' H' => ∃ F' env', CurS K σ H F env σ' H' F' env' ∧ Ext H1 F1 H' F' ∧ items.length - (i + 1) = items.length - (i + 1) ∧ i + 1 ≤ items.length ∧ forGo g tb (items.drop (i + 1)) env' E,
      fun σ' H' hn => ⟨items.length - (i + 1), by omega, hn⟩, fun x H3 hy => ?_⟩
    obtain ⟨lay, rx⟩ := yl x H3 hy
    have c3 := c2.trans (lay.cur c2.er).s
    have x3 := x2.trans (lay.cur c2.er).e
    refine ⟨F2, env2, d, _, c3.er, rx, q2, fun env4 σ4 H4 F4 q4 c4 _ => ?_⟩
    have c04 := c3.trans c4
    have x4 := x3.trans c4.e
    refine ⟨F4, env4, _, c4.er, q4, ⟨fun env5 σ5 H5 F5 q5 c5 => ?_, fun o env5 v σ5 H5 F5 q5 c5 r5 => ?_, fun env5 σ5 H5 F5 q5 c5 => ?_, fun env5 σ5 H5 F5 q5 c5 => ?_⟩⟩
    · exact step _ _ _ _ (c04.trans c5) (x4.trans c5.e) q5
    · exact k.rt _ _ _ _ _ _ q5 (c04.trans c5) (r5.backS c04)
    · exact k.nx _ _ _ _ q5 (c04.trans c5)
    · exact step _ _ _ _ (c04.trans c5) (x4.trans c5.e) q5
  · have e : i = items.length := by omega
    subst e
    rw [List.drop_length] at q2
    exact .inl ⟨(jf _ H2 F2 x2).2 rfl, k.nx _ _ _ _ q2 c2⟩
theorem ds_for (hp : PassesOwn (model X.prog X.w) X.A X.env X.xe) (hc : X.calm = true) (hi : DIt X tg iter ti) (hg : DGt X tg wr g) (hb : DSs X body tb) (hs : ∀ x, foldedSetIterable iter X.env x = pure x := by intro _; rfl) :
    DSt X (.For tg iter body [] pos) (sFor ti g tb) := PS.imp (ps_for hp hc hi hg hb hs) lift_for
end

/-! ### while -/
def whGo (c : DB) (tb : DS) : Nat → DS
  | 0, _, _ => False
  | n + 1, env, E => c env fun b e1 => if b = true then tb e1 { E with nx := fun e2 => whGo c tb n e2 E, ct := fun e2 => whGo c tb n e2 E, bk := E.nx } else E.nx e1
def sWhile (c : DB) (tb : DS) : DS := fun env E => ∃ n, whGo c tb n env E
section
variable {X : Cx} {c : Expr} {body : List Stmt} {tc : DB} {tb : DS} {pos : Pos}
theorem lift_while {K : PySem.W.Frag} : ∀ Dn σ H, liftS K (sWhile tc tb) Dn σ H → tWhile (liftT K tc) (liftS K tb) Dn σ H := fun Dn σ H h => by
  obtain ⟨F, env, E, er, ⟨n, q⟩, k⟩ := h
  refine ⟨fun m σ' H' => ∃ F' env', CurS K σ H F env σ' H' F' env' ∧ whGo tc tb m env' E, ⟨n, F, env, .refl er, q⟩, fun m σ2 H2 hW => ?_⟩
  obtain ⟨F2, env2, c2, q2⟩ := hW
  cases m with
  | zero => exact q2.elim
  | succ m =>
    refine lift_tst (.refl c2.er) q2 fun b e3 H3 F3 h3 c3 => ?_
    have c03 := c2.trans c3.s
    cases b with
    | false => exact k.nx _ _ _ _ h3 c03
    | true =>
      refine ⟨fun σ' H' => ∃ F' env', CurS K σ H F env σ' H' F' env' ∧ whGo tc tb m env' E, fun σ' H' hn => ⟨m, Nat.lt_succ_self m, hn⟩, ?_⟩
      refine ⟨F3, e3, _, c3.er, h3, ⟨fun env5 σ5 H5 F5 q5 c5 => ?_, fun o env5 v σ5 H5 F5 q5 c5 r5 => ?_, fun env5 σ5 H5 F5 q5 c5 => ?_, fun env5 σ5 H5 F5 q5 c5 => ?_⟩⟩
      · exact ⟨F5, env5, c03.trans c5, q5⟩
      · exact k.rt _ _ _ _ _ _ q5 (c03.trans c5) (r5.backS c03)
      · exact k.nx _ _ _ _ q5 (c03.trans c5)
      · exact ⟨F5, env5, c03.trans c5, q5⟩
theorem ds_while (hp : PassesOwn (model X.prog X.w) X.A X.env X.xe) (hc : DTe X c tc) (hb : DSs X body tb) : DSt X (.While c body [] pos) (sWhile tc tb) := PS.imp (ps_while hp hc hb) lift_while
end

/-! ### a def's promise over data -/
abbrev SpD := List Slot → (O → List Slot → Prop) → Prop
def liftF (K : PySem.W.Frag) (sp : SpD) : Sp := fun vs H Q _ => ∃ F args R, ER K (vs.map some) H F args ∧ sp args R ∧
  ∀ o args' v H' F', R o args' → Cur K (vs.map some) H F args H' F' args' → RO K H (vs.map some) H' F' args' v o → Q v H'
/-- what comes back of the slots that were handed in -/
def outs : List Slot → SEnv → List Slot
  | [], _ => []
  | .ow _ _ :: r, s :: env => s :: outs r env
  | a :: r, _ :: env => a :: outs r env
  | a :: r, [] => a :: r
/-- what is handed back -/
def retO (env : SEnv) : O → Option O
  | .fz d => some (.fz d)
  | .nw d => some (.nw d)
  | .al i => match env[i]? with
    | some (.ow false d) => some (.nw d)
    | _ => none
  | .sc _ => none
def pins : List Slot → Bool
  | [] => true
  | .ow p _ :: r => p && pins r
  | _ :: r => pins r
def fnEnds (args : List Slot) (R : O → List Slot → Prop) : SE :=
  { nx := fun env => R (.fz .none) (outs args env)
    rt := fun o env => ∃ o', retO env o = some o' ∧ R o' (outs args env) }
/-- the body serves the promise -/
def Serves (N ps : List Str) (t : DS) (sp : SpD) : Prop := ∀ args R, sp args R → args.length = ps.length ∧ pins args = true ∧ t (args ++ List.replicate (N.length - ps.length) .un) (fnEnds args R)
theorem outs_get : ∀ {args : List Slot} {env : SEnv} {i : Nat}, args.length ≤ env.length → (outs args env)[i]? = match args[i]? with
    | some (.ow _ _) => env[i]?
    | s => s
  | [], _, _, _ => by simp [outs]
  | a :: r, [], _, h => by simp at h
  | a :: r, s :: env, 0, h => by cases a <;> simp [outs]
  | a :: r, s :: env, i + 1, h => by
    have ih := outs_get (args := r) (env := env) (i := i) (by simpa using h)
    cases a <;> simpa [outs] using ih
theorem pins_get : ∀ {args : List Slot} {i : Nat} {p : Bool} {d : D}, pins args = true → args[i]? = some (.ow p d) → p = true
  | [], _, _, _, _, h => by simp at h
  | a :: r, 0, p, d, hp, h => by
    simp at h; subst h
    simp [pins] at hp; exact hp.1
  | a :: r, i + 1, p, d, hp, h => by
    have : pins r = true := by cases a <;> simp [pins] at hp <;> first | exact hp | exact hp.2
    exact pins_get (i := i) this (by simpa using h)
section
variable {K : PySem.W.Frag} {vs : List V} {H H' : Hp} {F F' : Fz} {args : List Slot} {σ' : L2.St} {env' : SEnv} {n : Nat} {v : V} {o o' : O}
theorem start_get {N : List Str} {i : Nat} (h : i < vs.length) : (L2.start N vs)[i]? = (vs.map some)[i]? := by
  unfold L2.start
  rw [List.getElem?_append_left (by simpa using h)]
theorem args_get {i : Nat} {s : Slot} (h : (args ++ List.replicate n Slot.un)[i]? = some s) : args[i]? = some s ∨ s = .un := by
  by_cases hi : i < args.length
  · rw [List.getElem?_append_left hi] at h
    exact .inl h
  · rw [List.getElem?_append_right (by omega), List.getElem?_replicate] at h
    split at h
    · cases h; exact .inr rfl
    · cases h
theorem er_start {N : List Str} (er : ER K (vs.map some) H F args) (hN : vs.length ≤ N.length) : ER K (L2.start N vs) H F (args ++ List.replicate (N.length - vs.length) .un) := by
  have la : args.length = vs.length := by simpa using er.len
  have at' : ∀ {i : Nat} {s : Slot}, (args ++ List.replicate (N.length - vs.length) Slot.un)[i]? = some s → s ≠ .un → args[i]? = some s ∧ (L2.start N vs)[i]? = (vs.map some)[i]? := fun {i s} h ne => by
    rcases args_get h with h | h
    · exact ⟨h, start_get (by rw [← la]; exact (List.getElem?_eq_some_iff.mp h).1)⟩
    · exact absurd h ne
  refine ⟨by unfold L2.start; simp [la], fun i d h => ?_, fun i p d h => ?_, fun i ns h => ?_, fun i j p d q e a h1 h2 e1 e2 => ?_, er.liv⟩
  · obtain ⟨h, e⟩ := at' h (fun z => nomatch z)
    rw [e]; exact er.fz i d h
  · obtain ⟨h, e⟩ := at' h (fun z => nomatch z)
    rw [e]; exact er.ow i p d h
  · obtain ⟨h, e⟩ := at' h (fun z => nomatch z)
    rw [e]; exact er.sc i ns h
  · obtain ⟨h1, r1⟩ := at' h1 (fun z => nomatch z)
    obtain ⟨h2, r2⟩ := at' h2 (fun z => nomatch z)
    rw [r1] at e1; rw [r2] at e2
    exact er.dis i j p d q e a h1 h2 e1 e2
theorem fn_end {N : List Str} (er : ER K (vs.map some) H F args) (hN : vs.length ≤ N.length) (hp : pins args = true) (c : CurS K (L2.start N vs) H F (args ++ List.replicate (N.length - vs.length) .un) σ' H' F' env')
    (r : RO K H σ' H' F' env' v o) (ho : retO env' o = some o') : Cur K (vs.map some) H F args H' F' (outs args env') ∧ RO K H (vs.map some) H' F' (outs args env') v o' := by
  have la : args.length = vs.length := by simpa using er.len
  have sl : ∀ {i : Nat} {s : Slot}, args[i]? = some s → (L2.start N vs)[i]? = (vs.map some)[i]? ∧ (args ++ List.replicate (N.length - vs.length) Slot.un)[i]? = some s := fun {i s} h => by
    have hi := (List.getElem?_eq_some_iff.mp h).1
    exact ⟨start_get (by rw [← la]; exact hi), by rw [List.getElem?_append_left hi]; exact h⟩
  -- an owned one
  have ow : ∀ {i : Nat} {p : Bool} {d : D}, args[i]? = some (.ow p d) → p = true ∧ σ'[i]? = (vs.map some)[i]? ∧ ∃ d', env'[i]? = some (.ow true d') := fun {i p d} h => by
    have e := pins_get hp h
    subst e
    obtain ⟨h1, h2⟩ := sl h
    obtain ⟨e1, d', h'⟩ := c.st.pin i d h2
    exact ⟨rfl, e1.trans h1, d', h'⟩
  have aof : ∀ a, AOf (L2.start N vs) (args ++ List.replicate (N.length - vs.length) .un) a ↔ AOf (vs.map some) args a := fun a => by
    constructor
    · rintro ⟨i, p, d, h, q⟩
      rcases args_get h with h | h
      · exact ⟨i, p, d, h, by rw [← (sl h).1]; exact q⟩
      · cases h
    · rintro ⟨i, p, d, h, q⟩
      exact ⟨i, p, d, (sl h).2, by rw [(sl h).1]; exact q⟩
  have le : args.length ≤ env'.length := by
    have e1 := c.er.len
    have e2 : (L2.start N vs).length = N.length := by unfold L2.start; simp; omega
    rw [e1, c.st.len, e2, la]
    exact hN
  have og : ∀ i : Nat, (outs args env')[i]? = match args[i]? with
    | some (.ow _ _) => env'[i]?
    | s => s := fun i => outs_get le
  have gout : ∀ {i : Nat} {s : Slot}, (outs args env')[i]? = some s → (args[i]? = some s ∧ ∀ p d, s ≠ .ow p d) ∨ ∃ d d', args[i]? = some (.ow true d) ∧ s = .ow true d' ∧ env'[i]? = some s := fun {i s} h => by
    rw [og i] at h
    cases e : args[i]? with
    | none => rw [e] at h; cases h
    | some a =>
      rw [e] at h
      cases a with
      | ow p d =>
        obtain ⟨rfl, _, d', h'⟩ := ow e
        have h : env'[i]? = some s := h
        rw [h'] at h
        cases h
        exact .inr ⟨d, d', rfl, rfl, h'⟩
      | _ => cases h; exact .inl ⟨rfl, fun _ _ z => nomatch z⟩
  have nf : ∀ a, AOf (vs.map some) args a → ¬ F' a := fun a ⟨i, p, d, h, q⟩ => by
    obtain ⟨_, e1, d', h'⟩ := ow h
    obtain ⟨b, e2, n, _⟩ := c.er.ow i _ _ h'
    rw [e1, q] at e2; cases e2
    exact n
  have st : StepE H F (AOf (vs.map some) args) H' F' := ⟨c.st.f, fun a o h n => c.st.keep a o h fun z => n ((aof a).mp z), fun a h => by
    rcases c.st.new a h with z | z | z
    · exact .inl z
    · exact .inr z
    · exact absurd h (nf a ((aof a).mp z)), c.st.live⟩
  have ex : Ext H F H' F' := st.ext er
  have sh : Shape args (outs args env') := fun i => by
    rw [og i]
    cases e : args[i]? with
    | none => exact .inl rfl
    | some a =>
      cases a with
      | ow p d =>
        obtain ⟨rfl, _, d', h'⟩ := ow e
        exact .inr ⟨true, d, d', rfl, h'⟩
      | _ => exact .inl rfl
  have er' : ER K (vs.map some) H' F' (outs args env') := by
    refine ⟨?_, fun i d h => ?_, fun i p d h => ?_, fun i ns h => ?_, fun i j p d q e a h1 h2 e1 e2 => ?_, c.er.liv⟩
    · have : ∀ (l : List Slot) (m : SEnv), (outs l m).length = l.length := by
        intro l
        induction l with
        | nil => intro m; rfl
        | cons x l ih => intro m; cases m <;> cases x <;> simp [outs, ih]
      rw [this]; exact er.len
    · rcases gout h with ⟨h, _⟩ | ⟨_, _, _, z, _⟩
      · obtain ⟨v, q, r⟩ := er.fz i d h
        exact ⟨v, q, r.ext ex⟩
      · cases z
    · rcases gout h with ⟨_, z⟩ | ⟨d1, d2, h1, z, h2⟩
      · exact absurd rfl (z p d)
      · cases z
        obtain ⟨_, e1, _⟩ := ow h1
        obtain ⟨b, q, r⟩ := c.er.ow i _ _ h2
        exact ⟨b, by rw [← e1]; exact q, r⟩
    · rcases gout h with ⟨h, _⟩ | ⟨_, _, _, z, _⟩
      · obtain ⟨a, q, r⟩ := er.sc i ns h
        exact ⟨a, q, r.ext ex⟩
      · cases z
    · obtain ⟨d1, h1'⟩ := sh.ow' h1
      obtain ⟨d2, h2'⟩ := sh.ow' h2
      exact er.dis i j _ _ _ _ a h1' h2' e1 e2
  refine ⟨⟨er, st, sh, er'⟩, ?_⟩
  cases o with
  | fz d => cases ho; exact r
  | nw d => cases ho; exact r
  | sc ns => cases ho
  | al i =>
    obtain ⟨hv, p, d, h⟩ := r
    unfold retO at ho
    simp only [h] at ho
    cases p with
    | true => cases ho
    | false =>
      cases ho
      obtain ⟨a, e, n, t⟩ := c.er.ow i _ _ h
      rw [hv] at e
      cases e
      refine ⟨a, rfl, ?_, n, t⟩
      rcases c.st.own a ⟨i, false, d, h, hv⟩ with z | z
      · obtain ⟨j, p, d2, hj, q⟩ := (aof a).mp z
        obtain ⟨_, e1, d', h'⟩ := ow hj
        have := c.er.dis i j _ _ _ _ a h h' hv (e1.trans q)
        subst this
        rw [h] at h'
        cases h'
      · exact z
end
end DL
end
section
set_option Elab.async false
set_option linter.all false
set_option maxRecDepth 100000
/-! DL7: the rule for a def, its calls. -/
namespace DL
open PySem PySem.Spec L2

section
variable {P : Program} {w : World} {K : PySem.W.Frag} {mg : Str → Option Value} {base : Heap}
/-- THE RULE for a def that lets nothing out -/
theorem fn_ok {x qual : Str} {params : Arguments} {body : List Stmt} {scope : Scope} {f : Addr} {fd : FuncData} {N ps : List Str} {k : Nat} {sp : SpD} {t : DS} (F : FunD K x qual params body scope [] [] f fd) (S : FnScope N ps scope)
    (hb : ∀ (cdv : Value) (A : Around) (outer : List PySem.Env) (s : Shared) (H : Hp) (E : XK), A.guards = some [] → Room k (A.deeper (PyProof.Rows.envOfC qual scope s.heap.objs.size f cdv)) → DSs (cxOf CX0 P w K mg base N qual scope f cdv A outer s H E).nox body t)
    (hs : Serves N ps t sp) : FnG P w K mg base CX0 (k + 1) f fd ps (liftF K sp) := by
  have pl : ps.length ≤ N.length := by
    have := congrArg List.length S.pre
    rw [List.length_take] at this
    omega
  have ln : ∀ vs H Q E, liftF K sp vs H Q E → vs.length = ps.length := fun vs H Q E h => by
    obtain ⟨F, args, R, er, q, _⟩ := h
    have := er.len
    rw [List.length_map] at this
    rw [← this]
    exact (hs args R q).1
  refine FunD.okG F S ln fun cdv A outer s H vs Q E gd hr h => ⟨_, PSs.nox (hb cdv A outer s H E gd hr), ?_⟩
  have hl := ln vs H Q E h
  obtain ⟨F1, args, R, er, q, k⟩ := h
  obtain ⟨la, hp, q⟩ := hs args R q
  have hN : vs.length ≤ N.length := by omega
  have er0 := er_start (N := N) er hN
  rw [← hl] at q
  refine ⟨F1, _, _, er0, q, ⟨fun env' σ' H' F' q' c => ?_, fun o env' v σ' H' F' q' c r => ?_, fun env' σ' H' F' q' c => (False.elim q'), fun env' σ' H' F' q' c => (False.elim q')⟩⟩
  · obtain ⟨c', r'⟩ := fn_end (o := .fz .none) (o' := .fz .none) er hN hp c (Rp.non : Rp K H' F' .none .non) rfl
    exact k _ _ _ _ _ q' c' r'
  · obtain ⟨o', ho, q'⟩ := q'
    obtain ⟨c', r'⟩ := fn_end er hN hp c r ho
    exact k _ _ _ _ _ q' c' r'
end

/-! ### calls -/
def argS (env : SEnv) : O → Option Slot
  | .fz d => some (.fz d)
  | .nw d => some (.fz d)
  | .al i => match env[i]? with
    | some (.ow _ d) => some (.ow true d)
    | _ => none
  | .sc ns => some (.sc ns)
def argsS (env : SEnv) : List O → Option (List Slot)
  | [] => some []
  | o :: os => match argS env o, argsS env os with
    | some s, some ss => some (s :: ss)
    | _, _ => none
def alsO : List O → List Nat
  | [] => []
  | .al i :: os => i :: alsO os
  | _ :: os => alsO os
def putO (env : SEnv) (i : Nat) (d : D) : SEnv := match env[i]? with
  | some (.ow p _) => env.set i (.ow p d)
  | _ => env
def back : List O → List Slot → SEnv → SEnv
  | .al i :: os, .ow _ d :: ss, env => back os ss (putO env i d)
  | _ :: os, _ :: ss, env => back os ss env
  | _, _, env => env
def O.ret : O → Bool
  | .fz _ => true
  | .nw _ => true
  | _ => false
def dCall (sp : SpD) (ta : DA) : DT := fun env Q => ta env fun os e1 => ∃ args, argsS e1 os = some args ∧ (alsO os).Nodup ∧ sp args fun o args' => o.ret = true ∧ Q o (back os args' e1)
theorem argsS_get {env : SEnv} : ∀ {os : List O} {args : List Slot} {k : Nat}, argsS env os = some args → (∀ o, os[k]? = some o → ∃ s, args[k]? = some s ∧ argS env o = some s) ∧ (∀ s, args[k]? = some s → ∃ o, os[k]? = some o ∧ argS env o = some s)
  | [], args, k, h => by cases h; simp
  | o :: os, args, k, h => by
    unfold argsS at h
    cases e1 : argS env o with
    | none => rw [e1] at h; simp at h
    | some s =>
      cases e2 : argsS env os with
      | none => rw [e1, e2] at h; simp at h
      | some ss =>
        rw [e1, e2] at h
        simp only [Option.some.injEq] at h
        subst h
        cases k with
        | zero => exact ⟨fun o' h => by simp at h; subst h; exact ⟨s, by simp, e1⟩, fun s' h => by simp at h; subst h; exact ⟨o, by simp, e1⟩⟩
        | succ k =>
          have ih := argsS_get (k := k) e2
          exact ⟨fun o' h => by simpa using ih.1 o' (by simpa using h), fun s' h => by simpa using ih.2 s' (by simpa using h)⟩
theorem argsS_len {env : SEnv} : ∀ {os : List O} {args : List Slot}, argsS env os = some args → args.length = os.length
  | [], args, h => by cases h; rfl
  | o :: os, args, h => by
    unfold argsS at h
    cases e1 : argS env o with
    | none => rw [e1] at h; simp at h
    | some s =>
      cases e2 : argsS env os with
      | none => rw [e1, e2] at h; simp at h
      | some ss =>
        rw [e1, e2] at h
        simp only [Option.some.injEq] at h
        subst h
        simp [argsS_len e2]
theorem mem_als {i : Nat} : ∀ {os : List O} {k : Nat}, os[k]? = some (.al i) → i ∈ alsO os
  | [], k, h => by simp at h
  | o :: os, 0, h => by simp at h; subst h; simp [alsO]
  | o :: os, k + 1, h => by
    have : i ∈ alsO os := mem_als (k := k) (by simpa using h)
    cases o <;> simp [alsO, this]
theorem als_inj {i : Nat} : ∀ {os : List O} {k l : Nat}, (alsO os).Nodup → os[k]? = some (.al i) → os[l]? = some (.al i) → k = l
  | [], k, l, _, h, _ => by simp at h
  | o :: os, 0, 0, _, _, _ => rfl
  | o :: os, 0, l + 1, n, h1, h2 => by
    simp at h1; subst h1
    simp only [alsO, List.nodup_cons] at n
    exact absurd (mem_als (k := l) (by simpa using h2)) n.1
  | o :: os, k + 1, 0, n, h1, h2 => by
    simp at h2; subst h2
    simp only [alsO, List.nodup_cons] at n
    exact absurd (mem_als (k := k) (by simpa using h1)) n.1
  | o :: os, k + 1, l + 1, n, h1, h2 => by
    have n' : (alsO os).Nodup := by
      cases o <;> simp only [alsO, List.nodup_cons] at n <;> first | exact n | exact n.2
    rw [als_inj (k := k) (l := l) n' (by simpa using h1) (by simpa using h2)]
theorem putO_ne {env : SEnv} {i j : Nat} {d : D} (h : j ≠ i) : (putO env i d)[j]? = env[j]? := by
  unfold putO
  split
  · rw [List.getElem?_set_ne (Ne.symm h)]
  · rfl
theorem putO_at {env : SEnv} {i : Nat} {p : Bool} {d e : D} (h : env[i]? = some (.ow p e)) : (putO env i d)[i]? = some (.ow p d) := by
  unfold putO
  simp only [h]
  rw [List.getElem?_set_self (List.getElem?_eq_some_iff.mp h).1]
theorem back_out {j : Nat} : ∀ {os : List O} {ss : List Slot} {env : SEnv}, j ∉ alsO os → (back os ss env)[j]? = env[j]?
  | [], ss, env, _ => by cases ss <;> rfl
  | o :: os, [], env, _ => by cases o <;> rfl
  | o :: os, s :: ss, env, h => by
    cases o with
    | al i =>
      simp only [alsO, List.mem_cons, not_or] at h
      cases s with
      | ow p d =>
        show (back os ss (putO env i d))[j]? = _
        rw [back_out h.2, putO_ne h.1]
      | _ => exact back_out (os := os) (ss := ss) h.2
    | _ => exact back_out (os := os) (ss := ss) (by simpa [alsO] using h)
theorem back_in {j : Nat} : ∀ {os : List O} {ss : List Slot} {env : SEnv} {k : Nat} {q p : Bool} {d e : D}, (alsO os).Nodup → os[k]? = some (.al j) → ss[k]? = some (.ow q d) → env[j]? = some (.ow p e) → (back os ss env)[j]? = some (.ow p d)
  | [], _, _, _, _, _, _, _, _, h, _, _ => by simp at h
  | _ :: _, [], _, _, _, _, _, _, _, _, h, _ => by simp at h
  | o :: os, s :: ss, env, 0, q, p, d, e, n, h1, h2, h3 => by
    simp at h1 h2; subst h1; subst h2
    simp only [alsO, List.nodup_cons] at n
    show (back os ss (putO env j d))[j]? = _
    rw [back_out n.1]
    exact putO_at h3
  | o :: os, s :: ss, env, k + 1, q, p, d, e, n, h1, h2, h3 => by
    have h1' : os[k]? = some (.al j) := by simpa using h1
    have h2' : ss[k]? = some (.ow q d) := by simpa using h2
    cases o with
    | al i =>
      simp only [alsO, List.nodup_cons] at n
      have nj : j ≠ i := fun z => n.1 (z ▸ mem_als h1')
      cases s with
      | ow p' d' =>
        show (back os ss (putO env i d'))[j]? = _
        exact back_in n.2 h1' h2' (by rw [putO_ne nj]; exact h3)
      | _ => exact back_in (os := os) (ss := ss) n.2 h1' h2' h3
    | _ => exact back_in (os := os) (ss := ss) (by simpa [alsO] using n) h1' h2' h3
theorem back_len : ∀ {os : List O} {ss : List Slot} {env : SEnv}, (back os ss env).length = env.length
  | [], ss, env => by cases ss <;> rfl
  | o :: os, [], env => by cases o <;> rfl
  | o :: os, s :: ss, env => by
    have pl : ∀ i d, (putO env i d).length = env.length := fun i d => by unfold putO; split <;> simp
    cases o with
    | al i =>
      cases s with
      | ow p d => show (back os ss (putO env i d)).length = _; rw [back_len, pl]
      | _ => exact back_len (os := os) (ss := ss)
    | _ => exact back_len (os := os) (ss := ss)
section
variable {K : PySem.W.Frag} {σ : L2.St} {H H' : Hp} {F F' : Fz} {env : SEnv} {vs : List V} {os : List O} {args args' : List Slot}
theorem opd_at {vs : List V} {os : List O} (r : Paired (fun v o => Opd K σ H F env v o) vs os) {k : Nat} {o : O} (h : os[k]? = some o) : ∃ v, vs[k]? = some v ∧ Opd K σ H F env v o := by
  induction r generalizing k with
  | nil => simp at h
  | cons r t ih =>
    cases k with
    | zero => simp at h; subst h; exact ⟨_, rfl, r⟩
    | succ k =>
      obtain ⟨v, hv, q⟩ := ih (k := k) (by simpa using h)
      exact ⟨v, by simpa using hv, q⟩
theorem call_er (er : ER K σ H F env) (r : Paired (fun v o => Opd K σ H F env v o) vs os) (ha : argsS env os = some args) (hn : (alsO os).Nodup) :
    ER K (vs.map some) H F args ∧ ∀ a, AOf (vs.map some) args a → AOf σ env a := by
  have ow : ∀ {k : Nat} {p : Bool} {d : D}, args[k]? = some (.ow p d) → ∃ i q a, os[k]? = some (.al i) ∧ env[i]? = some (.ow q d) ∧ σ[i]? = some (some (V.ref a)) ∧ (vs.map some)[k]? = some (some (V.ref a)) ∧ ¬ F a ∧ Top K H F a d := fun {k p d} h => by
    obtain ⟨o, ho, hs⟩ := (argsS_get (k := k) ha).2 _ h
    obtain ⟨v, hv, op⟩ := opd_at r ho
    cases o with
    | al i =>
      obtain ⟨e, p', d', hi⟩ := op
      unfold argS at hs
      simp only [hi] at hs
      cases hs
      obtain ⟨a, e2, nf, t⟩ := er.ow i _ _ hi
      rw [e] at e2
      cases e2
      exact ⟨i, p', a, ho, hi, e, by rw [List.getElem?_map, hv]; rfl, nf, t⟩
    | _ => cases hs
  refine ⟨⟨by rw [argsS_len ha, List.length_map, ← Paired.length r], fun k d h => ?_, fun k p d h => ?_, fun k ns h => ?_, fun k l p d q e a h1 h2 e1 e2 => ?_, er.liv⟩, fun a ⟨k, p, d, h, q⟩ => ?_⟩
  · obtain ⟨o, ho, hs⟩ := (argsS_get (k := k) ha).2 _ h
    obtain ⟨v, hv, op⟩ := opd_at r ho
    refine ⟨v, by rw [List.getElem?_map, hv]; rfl, ?_⟩
    cases o with
    | fz d' => cases hs; exact op
    | nw d' => cases hs; exact op
    | sc ns => cases hs
    | al i =>
      obtain ⟨e, p', d', hi⟩ := op
      unfold argS at hs
      simp only [hi] at hs
      cases hs
  · obtain ⟨i, q, a, _, _, _, h4, h5⟩ := ow h
    exact ⟨a, h4, h5⟩
  · obtain ⟨o, ho, hs⟩ := (argsS_get (k := k) ha).2 _ h
    obtain ⟨v, hv, op⟩ := opd_at r ho
    cases o with
    | sc ns' =>
      cases hs
      obtain ⟨a, rfl, s⟩ := op
      exact ⟨a, by rw [List.getElem?_map, hv]; rfl, s⟩
    | al i =>
      obtain ⟨e, p', d', hi⟩ := op
      unfold argS at hs
      simp only [hi] at hs
      cases hs
    | _ => cases hs
  · obtain ⟨i, _, a1, o1, i1, s1, v1, _⟩ := ow h1
    obtain ⟨j, _, a2, o2, i2, s2, v2, _⟩ := ow h2
    rw [v1] at e1; cases e1
    rw [v2] at e2; cases e2
    have := er.dis i j _ _ _ _ _ i1 i2 s1 s2
    subst this
    exact als_inj hn o1 o2
  · obtain ⟨i, q', a', _, h2, h3, h4, _⟩ := ow h
    rw [h4] at q; cases q
    exact ⟨i, q', d, h2, h3⟩
theorem call_back (er : ER K σ H F env) (r : Paired (fun v o => Opd K σ H F env v o) vs os) (ha : argsS env os = some args) (hn : (alsO os).Nodup) (c : Cur K (vs.map some) H F args H' F' args') :
    Cur K σ H F env H' F' (back os args' env) := by
  obtain ⟨er1, sub⟩ := call_er er r ha hn
  have st : StepE H F (AOf σ env) H' F' := c.st.cast sub
  have ex : Ext H F H' F' := st.ext er
  -- an owned slot that is handed in
  have inn : ∀ {k i : Nat}, os[k]? = some (.al i) → ∃ p d d' a, env[i]? = some (.ow p d) ∧ args[k]? = some (.ow true d) ∧ args'[k]? = some (.ow true d') ∧ σ[i]? = some (some (V.ref a)) ∧ (vs.map some)[k]? = some (some (V.ref a)) := fun {k i} h => by
    obtain ⟨s, hs, e⟩ := (argsS_get (k := k) ha).1 _ h
    obtain ⟨v, hv, ev, p, d, hi⟩ := opd_at r h
    unfold argS at e
    simp only [hi] at e
    cases e
    obtain ⟨d', h'⟩ := c.sh.ow hs
    obtain ⟨a, ea, _⟩ := er.ow i _ _ hi
    rw [ev] at ea
    cases ea
    exact ⟨p, d, d', a, hi, hs, h', ev, by rw [List.getElem?_map, hv]; rfl⟩
  have cls : ∀ i : Nat, (∃ k : Nat, os[k]? = some (.al i)) ∨ (back os args' env)[i]? = env[i]? := fun i => by
    by_cases h : i ∈ alsO os
    · have : ∀ (l : List O), i ∈ alsO l → ∃ k : Nat, l[k]? = some (.al i) := by
        intro l
        induction l with
        | nil => intro h; cases h
        | cons o l ih =>
          intro h
          have go : i ∈ alsO l → ∃ k : Nat, (o :: l)[k]? = some (.al i) := fun h => by
            obtain ⟨k, hk⟩ := ih h
            exact ⟨k + 1, by simpa using hk⟩
          cases o with
          | al j =>
            rcases List.mem_cons.mp h with rfl | h
            · exact ⟨0, rfl⟩
            · exact go h
          | _ => exact go h
      exact .inl (this os h)
    · exact .inr (back_out h)
  have sh : Shape env (back os args' env) := fun i => by
    rcases cls i with ⟨k, hk⟩ | h
    · obtain ⟨p, d, d', a, h1, _, h3, _⟩ := inn hk
      exact .inr ⟨p, d, d', h1, back_in hn hk h3 h1⟩
    · exact .inl h
  refine ⟨er, st, sh, ⟨by rw [back_len]; exact er.len, fun i d h => ?_, fun i p d h => ?_, fun i ns h => ?_, fun i j p d q e a h1 h2 e1 e2 => ?_, c.er.liv⟩⟩
  · have h0 : env[i]? = some (.fz d) := by
      rcases sh i with z | ⟨_, _, _, _, z⟩
      · rw [← z]; exact h
      · rw [h] at z; cases z
    obtain ⟨v, q, rp⟩ := er.fz i d h0
    exact ⟨v, q, rp.ext ex⟩
  · rcases cls i with ⟨k, hk⟩ | z
    · obtain ⟨p', d0, d', a, h1, _, h3, h4, h5⟩ := inn hk
      rw [back_in hn hk h3 h1] at h
      cases h
      obtain ⟨b, e, nf, t⟩ := c.er.ow k _ _ h3
      rw [h5] at e
      cases e
      exact ⟨a, h4, nf, t⟩
    · rw [z] at h
      obtain ⟨a, e, nf, t⟩ := er.ow i p d h
      obtain ⟨o, ho, _⟩ := t.obj
      by_cases hA : AOf (vs.map some) args a
      · obtain ⟨k, p2, d2, hk, q2⟩ := hA
        obtain ⟨o2, ho2, hs2⟩ := (argsS_get (k := k) ha).2 _ hk
        obtain ⟨v2, hv2, op2⟩ := opd_at r ho2
        cases o2 with
        | al j =>
          obtain ⟨p3, d3, d4, a3, h1, h2, h3, h4, h5⟩ := inn ho2
          rw [q2] at h5; cases h5
          have := er.dis i j _ _ _ _ _ h h1 e h4
          subst this
          have hb := back_in hn ho2 h3 h1
          rw [z, h] at hb
          cases hb
          obtain ⟨b, e5, nf5, t5⟩ := c.er.ow k _ _ h3
          rw [q2] at e5
          cases e5
          exact ⟨_, e, nf5, t5⟩
        | fz d5 => cases hs2
        | nw d5 => cases hs2
        | sc d5 => cases hs2
      · refine ⟨a, e, fun y => ?_, t.ext ex fun o' h' => c.st.keep a o' h' hA⟩
        rcases c.st.new a y with y | y
        · exact nf y
        · rw [ho] at y; cases y
  · have h0 : env[i]? = some (.sc ns) := by
      rcases sh i with z | ⟨_, _, _, _, z⟩
      · rw [← z]; exact h
      · rw [h] at z; cases z
    obtain ⟨a, q, s⟩ := er.sc i ns h0
    exact ⟨a, q, s.ext ex⟩
  · obtain ⟨d1, h1'⟩ := sh.ow' h1
    obtain ⟨d2, h2'⟩ := sh.ow' h2
    exact er.dis i j _ _ _ _ a h1' h2' e1 e2
end
section
variable {X : Cx} {k : Nat} {f : Addr} {fd : FuncData} {ps : List Str} {sp : SpD} {x : Str} {p pos : Pos} {e : Expr} {es : List Expr} {ta : DA}
theorem lift_call {K : PySem.W.Frag} {E : XK} : ∀ σ H Q, liftE K (dCall sp ta) σ H Q → tCall (liftF K sp) [] E (liftA K ta) σ H Q := fun σ H Q h => by
  obtain ⟨F, env, R, er, q, kk⟩ := h
  refine lift_arg (.refl er) q fun os e1 vs H1 F1 h1 c1 _ r => ?_
  obtain ⟨args, ha, hn, q1⟩ := h1
  rw [List.append_nil]
  refine ⟨F1, args, _, (call_er c1.er r ha hn).1, q1, fun o args' v H' F' h2 c2 ro => ?_⟩
  obtain ⟨ret, h2⟩ := h2
  have c3 := call_back c1.er r ha hn c2
  refine kk _ _ _ _ _ h2 (c1.trans c3) (RO.back c1 ?_)
  cases o with
  | fz d => exact ro
  | nw d => exact ro
  | _ => cases ret
theorem de_call (gd : X.A.guards = some []) (F : FnG X.prog X.w X.K X.mg X.base CX0 k f fd ps (liftF X.K sp)) (hr : Room k X.A) (hm : X.mg x = some (.ref f)) (hk : PySem.W.keepIn X.K (.ref f) = true) (hb : Binds X.K fd ps [])
    (ha : DAr X (e :: es) ta) (hg : Gl X x := by rfl) (hdb : (x == ("__debug__" : Str)) = false := by decide) (he : starEach (e :: es) X.env = (false, eval e X.env) :: starEach es X.env := by rfl) (hpl : (backTo pos (starEach es X.env)).any (·.1) = false := by rfl) :
    DE X (.Call (.Name x p) (e :: es) [] pos) (dCall sp ta) := PE.imp (pe_callG gd F hr hg hm hk hb .nil pass0 ha hdb he hpl) lift_call
end
end DL
end
section
set_option Elab.async false
set_option linter.all false
set_option maxRecDepth 100000
/-! DLS: sorting tuples of which some are empty. -/
namespace DL
open PySem PySem.Calls PyProof.Rows PySem.SeqAt PySem.W
section
variable {prog : Program} {w : World} {A : Around} {E : Value → Shared → Prop} {s : Shared}
/-- x.__lt__(y) of two tuples -/
theorem call_tuple_lt {Q : Value → Shared → Prop} {l b : Addr} {xs ys : Array Value} {e r : Nat → Bool} (hl : s.heap.IsTuple l xs) (hb : s.heap.IsTuple b ys)
    (he : ∀ j (h1 : j < xs.size) (h2 : j < ys.size), EqAt A.in1 s xs[j] ys[j] (e j)) (hr : ∀ j (h1 : j < xs.size) (h2 : j < ys.size), e j = false → RcLt A.in1 s xs[j] ys[j] (r j))
    (h : Q (.bool (firstLt e r (decide (xs.size < ys.size)) (List.range (min xs.size ys.size)))) s) : wpAny (model prog w) A (call (.builtin "tuple.__lt__") [.ref l, .ref b]) Q E s := by
  obtain ⟨⟨c1, d1, x1, s1⟩, o1, t1, n1, q1⟩ := id hl
  obtain ⟨⟨c2, d2, x2, s2⟩, o2, t2, n2, q2⟩ := id hb
  simp only at t1 q1 t2 q2
  subst t1 q1 t2 q2
  exact call_meets PySem.F.slot_tuple_lt ⟨_, o1, rfl⟩ PySem.F.entry_tuple_lt (PySem.F.args_tuple_lt_2 _ _) (tuple_ltAt l b xs ys n1 n2 d1 d2 s1 s2 e r) ⟨o1, o2, he, hr, h⟩
/-- two keys that are tuples, by the type's own __lt__ -/
theorem oneLt_tuple {xs ys : List PyData} {a b : Value} {as bs : List Addr} {Q : Bool → Shared → Prop} (ra : Reads s.heap a (.tuple xs) as) (rb : Reads s.heap b (.tuple ys) bs) (h : alike (.tuple xs) (.tuple ys) = true)
    (hu : A.units + min (PyData.depth (.tuple xs)) (PyData.depth (.tuple ys)) < cLine) (hq : Q (dataLt (.tuple xs) (.tuple ys)) s) : wpAny (model prog w) A (oneLt' true a b) Q E s := by
  have hal : alikeAll xs ys = true := by simpa [alike] using h
  cases ra with
  | @tuple l o vs n _ as1 h1 h2 h3 h4 =>
    cases rb with
    | @tuple l' o' ws n' _ bs1 k1 k2 k3 k4 =>
      have n1 : vs.size = xs.length := by simpa using ReadsAll.length _ _ _ h4
      have n2 : ws.size = ys.length := by simpa using ReadsAll.length _ _ _ k4
      rw [dataLt_tuple, ← firstLt_toks xs ys hal, ← n1, ← n2] at hq
      rw [oneLt'_eq]
      simp only [if_true]
      refine wpAny_bind (wpAny_cRoomFor (room_here hu) ?_)
      refine wpAny_bind (wpAny_callSpecialIfBound?_slot (T := "tuple") ⟨_, h1, h2⟩ PySem.F.slot_tuple_lt (call_tuple_lt (e := pairEq xs ys) (r := fun j => dataLt (xs.getD j .none) (ys.getD j .none)) ⟨_, h1, h2, _, h3⟩ ⟨_, k1, k2, _, k3⟩ (fun j j1 j2 => ?_) (fun j j1 j2 hj => ?_) ?_))
      · have := eqAt_alikeAll xs ys A.in1 s vs.toList ws.toList _ _ h4 k4 hal (room_in hu) j (by simpa using j1) (by simpa using j2)
        simpa using this
      · have := rcLt_alikeAll xs ys A.in1 s vs.toList ws.toList _ _ h4 k4 hal (room_in hu) j (by simpa using j1) (by simpa using j2) hj
        simpa using this
      · exact wpAny_truthy_bool hq
/-- the first items -/
theorem first_tuple {v : Value} {xs : List PyData} {as : List Addr} {Q : Option Value → Shared → Prop} (r : Reads s.heap v (.tuple xs) as) (h : ∀ o, o.isSome = !xs.isEmpty → Q o s) : wpAny (model prog w) A (firstOfTuple' v) Q E s := by
  cases r with
  | @tuple l o vs n _ as1 h1 h2 h3 h4 =>
    rw [kas_first_eq]
    refine wpAny_bind (wpAny_typeOf (T := "tuple") ⟨_, h1, h2⟩ ?_)
    rw [if_neg (by decide)]
    refine wpAny_bind ?_
    unfold Builtin.List.listItems
    refine wpAny_bind (wpAny_seqItems h1 h3 (wpAny_pure ?_))
    refine wpAny_pure (h _ ?_)
    have n1 : vs.size = xs.length := by simpa using ReadsAll.length _ _ _ h4
    cases xs with
    | nil => simp at n1; simp [n1]
    | cons x r => 
      have : 0 < vs.size := by rw [n1]; exact Nat.succ_pos _
      simp [this]
theorem firsts_tuples : ∀ {vs : List Value} {ds : List PyData} {Q : List (Option Value) → Shared → Prop}, EachIs (fun v d => ∃ as, Reads s.heap v d as) vs ds → (∀ d ∈ ds, ∃ xs, d = .tuple xs) →
    (∀ os : List (Option Value), EachIs (fun (o : Option Value) d => ∃ xs, d = PyData.tuple xs ∧ o.isSome = !xs.isEmpty) os ds → Q os s) → wpAny (model prog w) A (vs.mapM firstOfTuple') Q E s
  | _, _, _, .nil, _, h => by
    rw [List.mapM_nil]
    exact wpAny_pure (h [] .nil)
  | _, _, _, .cons (b := d) ⟨as, r⟩ t, ht, h => by
    obtain ⟨xs, rfl⟩ := ht d List.mem_cons_self
    rw [List.mapM_cons]
    refine wpAny_bind (first_tuple r fun o ho => ?_)
    refine wpAny_bind (firsts_tuples t (fun d hd => ht d (List.mem_cons_of_mem _ hd)) fun os hos => ?_)
    exact wpAny_pure (h _ (.cons ⟨xs, rfl, ho⟩ hos))
theorem each_right {α β : Type} {R : α → β → Prop} : ∀ {as : List α} {bs : List β}, EachIs R as bs → ∀ b ∈ bs, ∃ a ∈ as, R a b
  | _, _, .nil, _, h => by cases h
  | _, _, .cons r t, b, h => by
    rcases List.mem_cons.mp h with rfl | h
    · exact ⟨_, List.mem_cons_self, r⟩
    · obtain ⟨a, ha, q⟩ := each_right t b h
      exact ⟨a, List.mem_cons_of_mem _ ha, q⟩
theorem sortsAt_tuples {vs : List Value} {ds : List PyData} (e : EachIs (fun v d => ∃ as, Reads s.heap v d as) vs ds) (hal : AllAlike ds) (ht : ∀ d ∈ ds, ∃ xs, d = .tuple xs) (hu : ∀ d, d ∈ ds → A.units + d.depth < cLine) : SortsAt prog w A s (dataKind s.heap ds) vs := by
  by_cases hne : ∀ d ∈ ds, ∃ x r, d = PyData.tuple (x :: r)
  · exact SortsAt.data e hal (.inl hne) hu
  · have hex : ∃ d ∈ ds, d = PyData.tuple [] := by
      refine Classical.byContradiction fun hn => hne fun d hd => ?_
      obtain ⟨xs, rfl⟩ := ht d hd
      cases xs with
      | nil => exact absurd ⟨_, hd, rfl⟩ hn
      | cons x r => exact ⟨x, r, rfl⟩
    have room : ∀ {d d' : PyData}, d ∈ ds → A.units + min d.depth d'.depth < cLine := fun {d d'} hd => Nat.lt_of_le_of_lt (Nat.add_le_add_left (Nat.min_le_left _ _) _) (hu d hd)
    refine ⟨fun v hv => ?_, ?_⟩
    · obtain ⟨d, hd, as, r⟩ := e.left v hv
      exact ⟨_, dataKind_some hal hd r⟩
    · have noall : ∀ os : List (Option Value), EachIs (fun (o : Option Value) d => ∃ xs, d = PyData.tuple xs ∧ o.isSome = !xs.isEmpty) os ds → (os.toArray.all fun x => x.isSome) = false := fun os hos => by
        obtain ⟨d, hd, rfl⟩ := hex
        obtain ⟨o, ho, xs, e1, e2⟩ := each_right hos _ hd
        cases e1
        rw [Bool.eq_false_iff]
        intro hall
        simp only [List.all_toArray, List.all_eq_true] at hall
        have := hall o ho
        rw [e2] at this
        cases this
      cases ds with
      | nil => obtain ⟨_, h, _⟩ := hex; cases h
      | cons d0 ds0 =>
        obtain ⟨xs0, e0⟩ := ht d0 List.mem_cons_self
        cases xs0 with
        | nil =>
          refine ⟨oneType', ?_, fun h2 E Q hq => ?_⟩
          · intro E x y a b Q ha hb hq
            obtain ⟨d, as, hd, ra, rfl⟩ := dataKind_inv ha
            obtain ⟨d', as', hd', rb, rfl⟩ := dataKind_inv hb
            have hdd := hal d hd d' hd'
            have hroom := room (d' := d') hd
            obtain ⟨x1, rfl⟩ := ht d hd
            obtain ⟨x2, rfl⟩ := ht d' hd'
            rw [keyLt'_oneType]
            exact oneLt_tuple ra rb hdd hroom hq
          · rw [keyKind'_eq, List.mapM_toArray, map_eq_pure_bind]
            refine wpAny_bind (wpAny_bind (firsts_tuples e ht fun os hos => wpAny_pure ?_))
            rw [if_neg (by rw [noall os hos]; exact Bool.false_ne_true)]
            have first : ((os.toArray[0]?).bind id).isSome = false := by
              cases hos with
              | cons h1 _ =>
                obtain ⟨xs, q1, q2⟩ := h1
                rw [e0] at q1; cases q1
                rename_i o _ _
                cases o with
                | none => rfl
                | some _ => cases q2
            rw [if_neg (by rw [first]; exact Bool.false_ne_true)]
            rw [oneTypeOnly'_eq, List.mapM_toArray, map_eq_pure_bind]
            refine wpAny_bind (wpAny_bind (wpAny_bind (kas_mapM (r := Value.type "tuple") _ (fun v hv Q' hq => ?_) (wpAny_pure ?_))))
            · obtain ⟨d, hd, as, r⟩ := e.left v hv
              obtain ⟨xs, rfl⟩ := ht d hd
              exact (looks_reads r).here hq
            · have hall : ((List.map (fun _ => Value.type "tuple") vs).toArray.all fun x => x == Value.type "tuple") = true := by
                simp only [List.all_toArray, List.all_map, List.all_eq_true]
                intro _ _
                exact beq_self_eq_true _
              cases vs with
              | nil => cases e
              | cons v0 vs0 =>
                have h0 : (List.map (fun _ => Value.type "tuple") (v0 :: vs0)).toArray[0]? = some (Value.type "tuple") := by simp
                rw [h0]
                simp only [hall, if_true]
                exact wpAny_pure (wpAny_pure hq)
        | cons x0 r0 =>
          refine ⟨general', ?_, fun h2 E Q hq => ?_⟩
          · intro E x y a b Q ha hb hq
            obtain ⟨d, as, hd, ra, rfl⟩ := dataKind_inv ha
            obtain ⟨d', as', hd', rb, rfl⟩ := dataKind_inv hb
            have hn : d ≠ .none := by obtain ⟨xs, rfl⟩ := ht d hd; exact fun z => nomatch z
            show wpAny _ _ (oneLt' false x y) _ _ _
            exact oneLt_alike (fun z => nomatch z) ra rb (hal d hd d' hd') hn (room hd) hq
          · rw [keyKind'_eq, List.mapM_toArray, map_eq_pure_bind]
            refine wpAny_bind (wpAny_bind (firsts_tuples e ht fun os hos => wpAny_pure ?_))
            rw [if_neg (by rw [noall os hos]; exact Bool.false_ne_true)]
            have first : ((os.toArray[0]?).bind id).isSome = true := by
              cases hos with
              | cons h1 _ =>
                obtain ⟨xs, q1, q2⟩ := h1
                rw [e0] at q1; cases q1
                rename_i o _ _
                cases o with
                | none => cases q2
                | some _ => rfl
            rw [if_pos first]
            exact wpAny_pure hq
/-- sorted(xs), xs a list of tuples -/
theorem sorted_tuples {β : Type} {R : Value → β → Prop} {enc : β → PyData} {vs : List Value} {bs : List β} {l : Addr} {Q : Value → Shared → Prop} (hl : s.heap.IsList l vs.toArray) (e : EachIs R vs bs) (er : EachIs (fun v b => ∃ as, Reads s.heap v (enc b) as) vs bs) (hal : AllAlike (bs.map enc)) (hk : ∀ d ∈ bs.map enc, ∃ xs, d = .tuple xs) (hL : bs.length ≤ sizeLine)
    (hu : ∀ b, b ∈ bs → A.units + 2 + (enc b).depth < cLine) (h : ∀ out, out.length = bs.length → EachIs R out (bs.mergeSort (dataLe false enc)) → Q (.ref (s.heap.objs.size + 1)) { s with heap := sortedAll s.heap vs (List.toArray out) }) :
    wpAny (model prog w) A (call (.builtin "sorted") [.ref l]) Q E s := by
  have er' : EachIs (fun v b => ∃ as, Reads (sortingHeap (copyHeap s.heap vs) (s.heap.objs.size + 1) vs) v (enc b) as) vs bs := er.mono fun _ _ ⟨as, r⟩ => ⟨as, PyProof.Rows.Reads.keeps (fun _ _ => sorting_copy_old) r⟩
  refine sorted_vals hl (sortsAt_tuples (s := { s with heap := sortingHeap (copyHeap s.heap vs) (s.heap.objs.size + 1) vs }) (each_map (R := fun v d => ∃ as, Reads (sortingHeap (copyHeap s.heap vs) (s.heap.objs.size + 1) vs) v d as) enc er') hal hk (bound_map hu)) (by rw [e.length]; exact hL) (h _ (by rw [sortVals_length false rfl]; exact e.length) (sortVals_data false e er' hal))

/-- the items of a tuple, gathered -/
theorem gather_tup {p : Addr} {vs : List Value} {Q : List Value → Shared → Prop} (hp : s.heap.IsTuple p vs.toArray) (sz : vs.length ≤ sizeLine)
    (h : Q vs { s with heap := (s.heap.push (seqObj "list" #[] 0)).update s.heap.objs.size (Obj.mapSeq (· ++ vs.toArray)) }) : wpAny (model prog w) A (collect (.ref p)) Q E s := by
  obtain ⟨ob, at0, ty0, m, dat⟩ := id hp
  unfold collect
  refine wpAny_bind (wpAny_runValue (codeAny_builtin entry_proto_collect' ?_))
  show wpAny _ _ (do again (.builtin "list.__iadd__" ⟨[← newList [], .ref p], []⟩)) _ _ s
  refine wpAny_bind (wpAny_newList (wpAny_pure ⟨Code.quiet_builtin _ (by decide +kernel), codeAny_builtin entry_list_iadd' ?_⟩))
  show wpAny _ _ (Builtin.List.listExtendWith (.ref s.heap.objs.size) (.ref p) (.ref s.heap.objs.size)) _ _ { s with heap := s.heap.push (seqObj "list" #[] 0) }
  unfold Builtin.List.listExtendWith
  have at1 : (s.heap.push (seqObj "list" #[] 0)).get? p = some ob := Heap.get?_push_of_some _ at0
  refine wpAny_bind (wpAny_typeOf (T := "tuple") ⟨ob, at1, ty0⟩ ?_)
  rw [if_pos (by rw [show (Value.type "tuple" == Value.type "tuple") = true from rfl]; simp)]
  refine wpAny_bind (listItems_at at1 dat ?_)
  refine wpAny_bind (listItems_at (xs := #[]) (n := 0) (Heap.get?_push_size _ rfl) rfl ?_)
  rw [if_neg (by simp)]
  refine wpAny_bind (listUpdate_at (xs := #[]) (n := 0) (Heap.get?_push_size _ rfl) rfl (wpAny_pure ?_) (Nat.zero_le _) (by
    show (#[] ++ vs.toArray).size ≤ sizeLine + 1
    rw [Array.size_append, List.size_toArray, List.size_toArray, List.length_nil]; omega))
  show wpAny (model prog w) A (do
      let o ← load s.heap.objs.size
      match o.data with
      | .seq ys _ => pure ys.toList
      | _ => unsupported "internal:collect") Q E { s with heap := (s.heap.push (seqObj "list" #[] 0)).update s.heap.objs.size (Obj.mapSeq (· ++ vs.toArray)) }
  refine wpAny_bind (wpAny_load (get?_update_seq (Heap.get?_push_size _ rfl) _) ?_)
  show wpAny _ _ (pure ((#[] : Array Value) ++ vs.toArray).toList) Q E _
  rw [show ((#[] : Array Value) ++ vs.toArray).toList = vs from by simp]
  exact wpAny_pure h
/-- sorted(t), t a tuple -/
theorem sorted_tup {β : Type} {R : Value → β → Prop} {enc : β → PyData} {vs : List Value} {bs : List β} {p : Addr} {Q : Value → Shared → Prop} (hp : s.heap.IsTuple p vs.toArray) (e : EachIs R vs bs) (er : EachIs (fun v b => ∃ as, Reads s.heap v (enc b) as) vs bs) (al : AllAlike (bs.map enc)) (ln : bs.length ≤ sizeLine)
    (S : ∀ h' : Heap, EachIs (fun v d => ∃ as, Reads h' v d as) vs (bs.map enc) → SortsAt prog w A.in1.in1 { s with heap := h' } (dataKind h' (bs.map enc)) vs) (fin : ∀ out, out.length = bs.length → EachIs R out (bs.mergeSort (dataLe false enc)) → Q (.ref (s.heap.objs.size + 1)) { s with heap := sortedAll s.heap vs (List.toArray out) }) :
    wpAny (model prog w) A (call (.builtin "sorted") [.ref p]) Q E s := by
  have later : EachIs (fun v b => ∃ as, Reads (sortingHeap (copyHeap s.heap vs) (s.heap.objs.size + 1) vs) v (enc b) as) vs bs := er.mono fun _ _ ⟨as, r⟩ => ⟨as, PyProof.Rows.Reads.keeps (fun _ _ => sorting_copy_old) r⟩
  have lv : vs.length ≤ sizeLine := by rw [e.length]; exact ln
  replace S := S _ (each_map (R := fun v d => ∃ as, Reads (sortingHeap (copyHeap s.heap vs) (s.heap.objs.size + 1) vs) v d as) enc later)
  refine call_function_entry_kw kind_sorted plain_sorted entry_sorted (args_sorted1 _) ?_
  unfold Builtin.«sorted»
  refine wpAny_bind (m := checkCount "sorted" 1 1 _) (wpAny_pure ?_)
  refine wpAny_bind (gather_tup hp lv (wpAny_bind (wpAny_newList ?_ lv)))
  have size1 : ((s.heap.push (seqObj "list" #[] 0)).update s.heap.objs.size (Obj.mapSeq (· ++ vs.toArray))).objs.size = s.heap.objs.size + 1 := by rw [Heap.size_update, size_push']
  show wpAny _ _ _ _ _ { s with heap := copyHeap s.heap vs }
  rw [size1]
  have core : ∀ E' : Value → Shared → Prop, wpAny (model prog w) A.in1.in1 (Builtin.«list.sort» ⟨[.ref (s.heap.objs.size + 1)], []⟩) (fun f s' => f = .done (.ret .none) ∧ Q (.ref (s.heap.objs.size + 1)) s') E' { s with heap := copyHeap s.heap vs } := fun E' =>
    list_sort_vals (s := { s with heap := copyHeap s.heap vs }) (copyHeap_at s.heap vs) S lv ⟨rfl, fin _ (by rw [sortVals_length false rfl]; exact e.length) (sortVals_data false e later al)⟩
  refine wpAny_bind (wpAny_holding (wpAny_call_entry_kw slot_list_sort ⟨_, copyHeap_at s.heap vs, rfl⟩ entry_list_sort ?_ (args_list_sort _)))
  refine wpAny_mono (core _) (fun f s' hf => ?_) fun _ _ z => z
  obtain ⟨rfl, hq⟩ := hf
  exact ⟨_, rfl, wpAny_pure ⟨_, rfl, hq⟩⟩
end
end DL
end
section
set_option Elab.async false
set_option linter.all false
set_option maxRecDepth 100000
/-! DL8: built-in functions, methods. -/
namespace DL
open PySem PySem.Spec L2

/-! ### calls of built-ins -/
def getsO (env : SEnv) : List O → Option (List D)
  | [] => some []
  | o :: os => match o.get env, getsO env os with
    | some d, some ds => some (d :: ds)
    | _, _ => none
def dB (g : List D → Option O) (ta : DA) : DT := fun env Q => ta env fun os e1 => ∃ ds o, getsO e1 os = some ds ∧ g ds = some o ∧ Q o e1
def CROk (K : PySem.W.Frag) (r : List V → Hp → VK → Prop) (g : List D → Option O) : Prop := ∀ σ H F env vs ds o Q, ER K σ H F env → Paired (fun v d => Ob K H F v d) vs ds → g ds = some o → Fin K σ H F env Q o → r vs H Q
theorem gets_ob {K : PySem.W.Frag} {σ : L2.St} {H : Hp} {F : Fz} {env : SEnv} (er : ER K σ H F env) : ∀ {os : List O} {vs : List V} {ds : List D}, Paired (fun v o => Opd K σ H F env v o) vs os → getsO env os = some ds → Paired (fun v d => Ob K H F v d) vs ds
  | _, _, _, .nil, h => by cases h; exact .nil
  | o :: os, _, ds, .cons r t, h => by
    unfold getsO at h
    cases e1 : o.get env with
    | none => rw [e1] at h; simp at h
    | some d =>
      cases e2 : getsO env os with
      | none => rw [e1, e2] at h; simp at h
      | some ds' =>
        rw [e1, e2] at h
        simp only [Option.some.injEq] at h
        subst h
        exact .cons (r.ob er e1) (gets_ob er t e2)
section
variable {X : Cx} {x : Str} {p pos : Pos} {e : Expr} {es : List Expr} {ta : DA} {id T : String} {r : List V → Hp → VK → Prop} {g : List D → Option O}
theorem lift_B {K : PySem.W.Frag} (hg : CROk K r g) : ∀ σ H Q, liftE K (dB g ta) σ H Q → tCB r (liftA K ta) σ H Q := fun σ H Q h => by
  obtain ⟨F, env, R, er, q, k⟩ := h
  refine lift_arg (.refl er) q fun os e1 vs H1 F1 h1 c1 _ rr => ?_
  obtain ⟨ds, o, hd, ho, q1⟩ := h1
  exact hg σ H1 F1 e1 vs ds o Q c1.er (gets_ob c1.er rr hd) ho (c1.fin q1 k)
theorem de_B (hc : CallR X (.builtin id) r) (hg : CROk X.K r g) (hm : X.mg x = none) (hv : bootBuiltins x = some (.builtin id)) (ha : DAr X (e :: es) ta) (gl : Gl X x := by rfl) (hn : x ≠ "__name__" := by decide) (hdb : (x == ("__debug__" : Str)) = false := by decide)
    (he : starEach (e :: es) X.env = (false, eval e X.env) :: starEach es X.env := by rfl) (hpl : (backTo pos (starEach es X.env)).any (·.1) = false := by rfl) : DE X (.Call (.Name x p) (e :: es) [] pos) (dB g ta) :=
  PE.imp (pe_callB hc gl hm hv ha hn hdb he hpl) (lift_B hg)
theorem de_Ty (hc : CallR X (.type T) r) (hg : CROk X.K r g) (hm : X.mg x = none) (hv : bootBuiltins x = some (.type T)) (ha : DAr X (e :: es) ta) (gl : Gl X x := by rfl) (hn : x ≠ "__name__" := by decide) (hdb : (x == ("__debug__" : Str)) = false := by decide)
    (he : starEach (e :: es) X.env = (false, eval e X.env) :: starEach es X.env := by rfl) (hpl : (backTo pos (starEach es X.env)).any (·.1) = false := by rfl) : DE X (.Call (.Name x p) (e :: es) [] pos) (dB g ta) :=
  PE.imp (pe_callTy hc gl hm hv ha hn hdb he hpl) (lift_B hg)
end
/-- one argument -/
theorem ob1 {K : PySem.W.Frag} {H : Hp} {F : Fz} {vs : List V} {d : D} (h : Paired (fun v d => Ob K H F v d) vs [d]) : ∃ v, vs = [v] ∧ Ob K H F v d := by
  cases h with
  | cons r t => cases t; exact ⟨_, rfl, r⟩
theorem ob2 {K : PySem.W.Frag} {H : Hp} {F : Fz} {vs : List V} {d e : D} (h : Paired (fun v d => Ob K H F v d) vs [d, e]) : ∃ v w, vs = [v, w] ∧ Ob K H F v d ∧ Ob K H F w e := by
  cases h with
  | cons r t => cases t with
    | cons r2 t => cases t; exact ⟨_, _, rfl, r, r2⟩

/-! ### len, list, tuple, int, abs, min, max -/
def gLen : List D → Option O
  | [.list ds] => some (.fz (.int ds.length))
  | [.tuple ds] => some (.fz (.int ds.length))
  | [.str x] => if x.length ≤ sizeLine then some (.fz (.int x.length)) else none
  | _ => none
def gList : List D → Option O
  | [.list ds] => some (.nw (.list ds))
  | [.tuple ds] => some (.nw (.list ds))
  | [.dict kvs] => some (.nw (.list (kvs.map Prod.fst)))
  | _ => none
def gTuple : List D → Option O
  | [.list ds] => some (.fz (.tuple ds))
  | [.tuple ds] => some (.fz (.tuple ds))
  | _ => none
def gInt : List D → Option O
  | [.int i] => some (.fz (.int i))
  | [.bool b] => some (.fz (.int (if b then 1 else 0)))
  | _ => none
def gAbs : List D → Option O
  | [.int i] => some (.fz (.int (if i < 0 then -i else i)))
  | _ => none
def gMin : List D → Option O
  | [.int i, .int j] => some (.fz (.int (if j < i then j else i)))
  | _ => none
def gMax : List D → Option O
  | [.int i, .int j] => some (.fz (.int (if j > i then j else i)))
  | _ => none
def boolsD : List D → Option (List Bool)
  | [] => some []
  | .bool b :: r => (boolsD r).map (b :: ·)
  | _ => none
def intsD : List D → Option (List Int)
  | [] => some []
  | .int b :: r => (intsD r).map (b :: ·)
  | _ => none
def gAll : List D → Option O
  | [.list ds] => (boolsD ds).map fun bs => .fz (.bool (bs.all id))
  | _ => none
def gAny : List D → Option O
  | [.list ds] => (boolsD ds).map fun bs => .fz (.bool (bs.any id))
  | _ => none
def gSum : List D → Option O
  | [.list ds] => (intsD ds).map fun bs => .fz (.int bs.sum)
  | _ => none
section
variable {K : PySem.W.Frag} {H : Hp} {F : Fz}
theorem boolsD_eq : ∀ {ds : List D} {bs : List Bool}, boolsD ds = some bs → ds = bs.map .bool
  | [], bs, h => by cases h; rfl
  | .bool b :: r, bs, h => by
    obtain ⟨l, h1, rfl⟩ := Option.map_eq_some_iff.mp (show (boolsD r).map (b :: ·) = some bs from h)
    rw [boolsD_eq h1]; rfl
theorem intsD_eq : ∀ {ds : List D} {bs : List Int}, intsD ds = some bs → ds = bs.map .int
  | [], bs, h => by cases h; rfl
  | .int b :: r, bs, h => by
    obtain ⟨l, h1, rfl⟩ := Option.map_eq_some_iff.mp (show (intsD r).map (b :: ·) = some bs from h)
    rw [intsD_eq h1]; rfl
def rLenD (K : PySem.W.Frag) : List V → Hp → VK → Prop := fun vs H Q => (∃ x n, vs = [x] ∧ LenV K x H n ∧ Q (.int n) H) ∨ (∃ a kvs, vs = [V.ref a] ∧ H a = some (.dK kvs) ∧ Q (.int kvs.length) H)
def rListD2 (K : PySem.W.Frag) : List V → Hp → VK → Prop := fun xs H Q => ∃ p ys, xs = [.ref p] ∧ (SqL K H p ys ∨ SqT K H p ys) ∧ ∀ l, H l = none → Q (.ref l) (upd H l (.lst ys))
def rListD3 (K : PySem.W.Frag) : List V → Hp → VK → Prop := fun xs H Q => rListD2 K xs H Q ∨ ∃ (a : Addr) (kvs : List (Key × V)), xs = [.ref a] ∧ Rd H a (.dK kvs) ∧ ∀ p, H p = none → Q (.ref p) (upd H p (.lst (kvs.map fun kv => kV kv.1)))
theorem rp_keys {K : PySem.W.Frag} {H : Hp} {F : Fz} : ∀ (l : List (Key × V)), RpL K H F (l.map fun p => keyD p.1) (l.map fun p => kV p.1)
  | [] => .nil
  | (.inl i, _) :: r => .cons (.int i) (rp_keys r)
  | (.inr x, _) :: r => .cons (.str x) (rp_keys r)
end
section
variable {X : Cx}
theorem call_lenV : CallR X (.builtin "len") (fun vs H Q => (∃ x n, vs = [x] ∧ LenV X.K x H n ∧ Q (.int n) H) ∨ (∃ a kvs, vs = [V.ref a] ∧ H a = some (.dK kvs) ∧ Q (.int kvs.length) H)) := CallR.or call_len call_lenD
theorem gLen_ok {K : PySem.W.Frag} : CROk K (rLenD K) gLen := by
  intro σ H F env vs ds o Q er ob hg f
  · unfold gLen at hg
    split at hg
    · cases hg
      obtain ⟨v, rfl, r⟩ := ob1 ob
      obtain ⟨a, xs, rfl, h, r⟩ := r.list
      refine .inl ⟨_, xs.length, rfl, .inl ⟨xs, .of h, rfl⟩, ?_⟩
      rw [← r.length]; exact f.fz er (.int _)
    · cases hg
      obtain ⟨v, rfl, r⟩ := ob1 ob
      obtain ⟨a, xs, rfl, h, r⟩ := r.tuple
      refine .inl ⟨_, xs.length, rfl, .inr ⟨xs, h.sq, rfl⟩, ?_⟩
      rw [← r.length]; exact f.fz er (.int _)
    · split at hg
      · rename_i hl
        cases hg
        obtain ⟨v, rfl, r⟩ := ob1 ob
        cases r.str
        exact .inl ⟨_, _, rfl, ⟨hl, rfl⟩, f.fz er (.int _)⟩
      · cases hg
    · cases hg
theorem gList_ok {K : PySem.W.Frag} : CROk K (rListD3 K) gList := by
  intro σ H F env vs ds o Q er ob hg f
  unfold gList at hg
  split at hg
  · cases hg
    obtain ⟨v, rfl, r⟩ := ob1 ob
    obtain ⟨a, xs, rfl, h, r⟩ := r.list
    exact .inl ⟨a, xs, rfl, .inl (.of h), f.lst er r⟩
  · cases hg
    obtain ⟨v, rfl, r⟩ := ob1 ob
    obtain ⟨a, xs, rfl, h, r⟩ := r.tuple
    exact .inl ⟨a, xs, rfl, .inr h.sq, f.lst er r⟩
  · cases hg
    obtain ⟨v, rfl, r⟩ := ob1 ob
    obtain ⟨a, vs, rfl, ⟨l, h, e1, e2⟩, r⟩ := r.dict
    refine .inr ⟨a, l, rfl, h, ?_⟩
    rw [e1] at f
    exact f.lst er (rp_keys l)
  · cases hg
theorem gTuple_ok {K : PySem.W.Frag} : CROk K (rTupleK K) gTuple := by
  intro σ H F env vs ds o Q er ob hg f
  unfold gTuple at hg
  split at hg
  · cases hg
    obtain ⟨v, rfl, r⟩ := ob1 ob
    obtain ⟨a, xs, rfl, h, r⟩ := r.list
    exact ⟨a, xs, rfl, .inl ⟨.of h, f.tup er r⟩⟩
  · cases hg
    obtain ⟨v, rfl, r⟩ := ob1 ob
    obtain ⟨a, xs, rfl, h, r⟩ := r.tuple
    exact ⟨a, xs, rfl, .inr ⟨h.sq, f.fz er (.tup h r)⟩⟩
  · cases hg
theorem gInt_ok {K : PySem.W.Frag} : CROk K (fun xs H Q => (∃ i, xs = [.int i] ∧ Q (.int i) H) ∨ ∃ k, xs = [.bl k] ∧ Q (.int (if k then 1 else 0)) H) gInt := by
  intro σ H F env vs ds o Q er ob hg f
  unfold gInt at hg
  split at hg
  · cases hg
    obtain ⟨v, rfl, r⟩ := ob1 ob
    cases r.int
    exact .inl ⟨_, rfl, f.fz er (.int _)⟩
  · cases hg
    obtain ⟨v, rfl, r⟩ := ob1 ob
    cases r.bool
    exact .inr ⟨_, rfl, f.fz er (.int _)⟩
  · cases hg
theorem gAbs_ok {K : PySem.W.Frag} : CROk K (fun xs H Q => ∃ i, xs = [.int i] ∧ Q (.int (if i < 0 then -i else i)) H) gAbs := by
  intro σ H F env vs ds o Q er ob hg f
  unfold gAbs at hg
  split at hg
  · cases hg
    obtain ⟨v, rfl, r⟩ := ob1 ob
    cases r.int
    exact ⟨_, rfl, f.fz er (.int _)⟩
  · cases hg
theorem gMin_ok {K : PySem.W.Frag} : CROk K (fun xs H Q => ∃ i j, xs = [.int i, .int j] ∧ Q (.int (if j < i then j else i)) H) gMin := by
  intro σ H F env vs ds o Q er ob hg f
  unfold gMin at hg
  split at hg
  · cases hg
    obtain ⟨v, w, rfl, r1, r2⟩ := ob2 ob
    cases r1.int; cases r2.int
    exact ⟨_, _, rfl, f.fz er (.int _)⟩
  · cases hg
theorem gMax_ok {K : PySem.W.Frag} : CROk K (fun xs H Q => ∃ i j, xs = [.int i, .int j] ∧ Q (.int (if j > i then j else i)) H) gMax := by
  intro σ H F env vs ds o Q er ob hg f
  unfold gMax at hg
  split at hg
  · cases hg
    obtain ⟨v, w, rfl, r1, r2⟩ := ob2 ob
    cases r1.int; cases r2.int
    exact ⟨_, _, rfl, f.fz er (.int _)⟩
  · cases hg
theorem gAll_ok {K : PySem.W.Frag} : CROk K (rAll K) gAll := by
  intro σ H F env vs ds o Q er ob hg f
  unfold gAll at hg
  split at hg
  · obtain ⟨bs, hb, rfl⟩ := Option.map_eq_some_iff.mp hg
    obtain ⟨v, rfl, r⟩ := ob1 ob
    obtain ⟨a, xs, rfl, h, r⟩ := r.list
    rw [boolsD_eq hb] at r
    rw [r.boolsV] at h
    exact ⟨a, bs, rfl, .of h, f.fz er (.bl _)⟩
  · cases hg
theorem gAny_ok {K : PySem.W.Frag} : CROk K (rAny K) gAny := by
  intro σ H F env vs ds o Q er ob hg f
  unfold gAny at hg
  split at hg
  · obtain ⟨bs, hb, rfl⟩ := Option.map_eq_some_iff.mp hg
    obtain ⟨v, rfl, r⟩ := ob1 ob
    obtain ⟨a, xs, rfl, h, r⟩ := r.list
    rw [boolsD_eq hb] at r
    rw [r.boolsV] at h
    exact ⟨a, bs, rfl, .of h, f.fz er (.bl _)⟩
  · cases hg
theorem gSum_ok {K : PySem.W.Frag} : CROk K (rSum K) gSum := by
  intro σ H F env vs ds o Q er ob hg f
  unfold gSum at hg
  split at hg
  · obtain ⟨bs, hb, rfl⟩ := Option.map_eq_some_iff.mp hg
    obtain ⟨v, rfl, r⟩ := ob1 ob
    obtain ⟨a, xs, rfl, h, r⟩ := r.list
    rw [intsD_eq hb] at r
    rw [r.intsV] at h
    exact ⟨a, bs, rfl, .of h, f.fz er (.int _)⟩
  · cases hg
end
section
variable {X : Cx} {p pos : Pos} {e : Expr} {es : List Expr} {ta : DA}
theorem de_len (hm : X.mg "len" = none) (ha : DAr X (e :: es) ta) (gl : Gl X "len" := by rfl) (he : starEach (e :: es) X.env = (false, eval e X.env) :: starEach es X.env := by rfl) (hpl : (backTo pos (starEach es X.env)).any (·.1) = false := by rfl) : DE X (.Call (.Name "len" p) (e :: es) [] pos) (dB gLen ta) :=
  de_B call_lenV gLen_ok hm PySem.boot_len ha gl (by decide) (by decide) he hpl
theorem de_list (hc : X.calm = true) (hm : X.mg "list" = none) (ha : DAr X (e :: es) ta) (gl : Gl X "list" := by rfl) (he : starEach (e :: es) X.env = (false, eval e X.env) :: starEach es X.env := by rfl) (hpl : (backTo pos (starEach es X.env)).any (·.1) = false := by rfl) : DE X (.Call (.Name "list" p) (e :: es) [] pos) (dB gList ta) :=
  de_Ty (CallR.or call_list_of (call_listD hc)) gList_ok hm (by decide +kernel) ha gl (by decide) (by decide) he hpl
theorem de_tuple (hm : X.mg "tuple" = none) (ha : DAr X (e :: es) ta) (gl : Gl X "tuple" := by rfl) (he : starEach (e :: es) X.env = (false, eval e X.env) :: starEach es X.env := by rfl) (hpl : (backTo pos (starEach es X.env)).any (·.1) = false := by rfl) : DE X (.Call (.Name "tuple" p) (e :: es) [] pos) (dB gTuple ta) :=
  de_Ty call_tupleK gTuple_ok hm (by decide +kernel) ha gl (by decide) (by decide) he hpl
theorem de_int' (hm : X.mg "int" = none) (ha : DAr X (e :: es) ta) (gl : Gl X "int" := by rfl) (he : starEach (e :: es) X.env = (false, eval e X.env) :: starEach es X.env := by rfl) (hpl : (backTo pos (starEach es X.env)).any (·.1) = false := by rfl) : DE X (.Call (.Name "int" p) (e :: es) [] pos) (dB gInt ta) :=
  de_Ty call_int1 gInt_ok hm (by decide +kernel) ha gl (by decide) (by decide) he hpl
theorem de_abs (hm : X.mg "abs" = none) (ha : DAr X (e :: es) ta) (gl : Gl X "abs" := by rfl) (he : starEach (e :: es) X.env = (false, eval e X.env) :: starEach es X.env := by rfl) (hpl : (backTo pos (starEach es X.env)).any (·.1) = false := by rfl) : DE X (.Call (.Name "abs" p) (e :: es) [] pos) (dB gAbs ta) :=
  de_B call_abs gAbs_ok hm (by decide +kernel) ha gl (by decide) (by decide) he hpl
theorem de_min (hc : X.calm = true) (hm : X.mg "min" = none) (ha : DAr X (e :: es) ta) (gl : Gl X "min" := by rfl) (he : starEach (e :: es) X.env = (false, eval e X.env) :: starEach es X.env := by rfl) (hpl : (backTo pos (starEach es X.env)).any (·.1) = false := by rfl) : DE X (.Call (.Name "min" p) (e :: es) [] pos) (dB gMin ta) :=
  de_B (call_min2 hc) gMin_ok hm (by decide +kernel) ha gl (by decide) (by decide) he hpl
theorem de_max (hc : X.calm = true) (hm : X.mg "max" = none) (ha : DAr X (e :: es) ta) (gl : Gl X "max" := by rfl) (he : starEach (e :: es) X.env = (false, eval e X.env) :: starEach es X.env := by rfl) (hpl : (backTo pos (starEach es X.env)).any (·.1) = false := by rfl) : DE X (.Call (.Name "max" p) (e :: es) [] pos) (dB gMax ta) :=
  de_B (call_max2 hc) gMax_ok hm (by decide +kernel) ha gl (by decide) (by decide) he hpl
theorem de_all (hc : X.calm = true) (hm : X.mg "all" = none) (ha : DAr X (e :: es) ta) (gl : Gl X "all" := by rfl) (he : starEach (e :: es) X.env = (false, eval e X.env) :: starEach es X.env := by rfl) (hpl : (backTo pos (starEach es X.env)).any (·.1) = false := by rfl) : DE X (.Call (.Name "all" p) (e :: es) [] pos) (dB gAll ta) :=
  de_B (cr_all hc) gAll_ok hm (by decide +kernel) ha gl (by decide) (by decide) he hpl
theorem de_any (hc : X.calm = true) (hm : X.mg "any" = none) (ha : DAr X (e :: es) ta) (gl : Gl X "any" := by rfl) (he : starEach (e :: es) X.env = (false, eval e X.env) :: starEach es X.env := by rfl) (hpl : (backTo pos (starEach es X.env)).any (·.1) = false := by rfl) : DE X (.Call (.Name "any" p) (e :: es) [] pos) (dB gAny ta) :=
  de_B (cr_any hc) gAny_ok hm (by decide +kernel) ha gl (by decide) (by decide) he hpl
theorem de_sum (hc : X.calm = true) (hm : X.mg "sum" = none) (ha : DAr X (e :: es) ta) (gl : Gl X "sum" := by rfl) (he : starEach (e :: es) X.env = (false, eval e X.env) :: starEach es X.env := by rfl) (hpl : (backTo pos (starEach es X.env)).any (·.1) = false := by rfl) : DE X (.Call (.Name "sum" p) (e :: es) [] pos) (dB gSum ta) :=
  de_B (cr_sum hc) gSum_ok hm (by decide +kernel) ha gl (by decide) (by decide) he hpl
end

/-! ### list(range(..)), tuple(range(..)) -/
section
variable {X : Cx} {a b : Expr} {t u : DT} {p p2 pos pos2 : Pos}
def dRngL (mk : List D → O) (t : DT) : DT := fun env Q => t env fun o e1 => ∃ j, o = .fz (.int j) ∧ RgOk 0 j ∧ Q (mk (rngD 0 j.toNat)) e1
def dRngL2 (mk : List D → O) (t u : DT) : DT := fun env Q => t env fun o1 e1 => u e1 fun o2 e2 => ∃ i j, o1 = .fz (.int i) ∧ o2 = .fz (.int j) ∧ RgOk i j ∧ Q (mk (rngD i (j - i).toNat)) e2
def mkL (ds : List D) : O := .nw (.list ds)
def mkT (ds : List D) : O := .fz (.tuple ds)
theorem rp_rng {K : PySem.W.Frag} {H : Hp} {F : Fz} {i j : Int} : RpL K H F (rngD i (j - i).toNat) (rgV i j) := by
  unfold rngD rgV
  generalize List.range (j - i).toNat = l
  induction l with
  | nil => exact .nil
  | cons x r ih => exact .cons (.int _) ih
theorem de_listRg (hc : X.calm = true) (hm : X.mg "list" = none) (hr : X.mg "range" = none) (ha : DE X a t) (gl : Gl X "list" := by rfl) (gr : Gl X "range" := by rfl) (na : starEach [a] X.env = (false, eval a X.env) :: starEach [] X.env := by rfl)
    (nb : starEach [.Call (.Name "range" p2) [a] [] pos2] X.env = (false, eval (.Call (.Name "range" p2) [a] [] pos2) X.env) :: starEach [] X.env := by rfl) : DE X (.Call (.Name "list" p) [.Call (.Name "range" p2) [a] [] pos2] [] pos) (dRngL mkL t) :=
  PE.imp (pe_listRg hc gl hm (prg_1 gr hr ha na) nb) fun σ H Q h => by
  obtain ⟨F, env, R, er, q, k⟩ := h
  refine lift_val (.refl er) q fun o1 e1 x H1 F1 h1 c1 p1 => ?_
  obtain ⟨j, rfl, b1, q1⟩ := h1
  cases (show Rp _ _ _ _ _ from p1)
  have r : RpL X.K H1 F1 (rngD 0 (j - 0).toNat) (rgV 0 j) := rp_rng
  rw [Int.sub_zero] at r
  exact ⟨j, rfl, b1, (c1.fin q1 k).lst c1.er r⟩
theorem de_listRg2 (hc : X.calm = true) (hm : X.mg "list" = none) (hr : X.mg "range" = none) (ha : DE X a t) (hb : DE X b u) (gl : Gl X "list" := by rfl) (gr : Gl X "range" := by rfl) (na : starEach [a, b] X.env = (false, eval a X.env) :: starEach [b] X.env := by rfl) (na2 : starEach [b] X.env = (false, eval b X.env) :: starEach [] X.env := by rfl)
    (np : (backTo pos2 (starEach [b] X.env)).any (·.1) = false := by rfl) (nb : starEach [.Call (.Name "range" p2) [a, b] [] pos2] X.env = (false, eval (.Call (.Name "range" p2) [a, b] [] pos2) X.env) :: starEach [] X.env := by rfl) : DE X (.Call (.Name "list" p) [.Call (.Name "range" p2) [a, b] [] pos2] [] pos) (dRngL2 mkL t u) :=
  PE.imp (pe_listRg hc gl hm (prg_2 gr hr ha hb na na2 np) nb) fun σ H Q h => by
  obtain ⟨F, env, R, er, q, k⟩ := h
  refine lift_val (.refl er) q fun o1 e1 x H1 F1 h1 c1 p1 => ?_
  refine lift_op c1 h1 fun o2 e2 y H2 F2 h2 c2 c12 p2 => ?_
  obtain ⟨i, j, rfl, rfl, bd, q2⟩ := h2
  cases (show Rp _ _ _ _ _ from p1)
  cases (show Rp _ _ _ _ _ from p2)
  exact ⟨i, j, rfl, rfl, bd, (c2.fin q2 k).lst c2.er rp_rng⟩
theorem de_tupRg (hc : X.calm = true) (hm : X.mg "tuple" = none) (hr : X.mg "range" = none) (ha : DE X a t) (gl : Gl X "tuple" := by rfl) (gr : Gl X "range" := by rfl) (na : starEach [a] X.env = (false, eval a X.env) :: starEach [] X.env := by rfl)
    (nb : starEach [.Call (.Name "range" p2) [a] [] pos2] X.env = (false, eval (.Call (.Name "range" p2) [a] [] pos2) X.env) :: starEach [] X.env := by rfl) : DE X (.Call (.Name "tuple" p) [.Call (.Name "range" p2) [a] [] pos2] [] pos) (dRngL mkT t) :=
  PE.imp (pe_tupRgK hc gl hm (prg_1 gr hr ha na) nb) fun σ H Q h => by
  obtain ⟨F, env, R, er, q, k⟩ := h
  refine lift_val (.refl er) q fun o1 e1 x H1 F1 h1 c1 p1 => ?_
  obtain ⟨j, rfl, b1, q1⟩ := h1
  cases (show Rp _ _ _ _ _ from p1)
  have r : RpL X.K H1 F1 (rngD 0 (j - 0).toNat) (rgV 0 j) := rp_rng
  rw [Int.sub_zero] at r
  exact ⟨j, rfl, b1, (c1.fin q1 k).tup c1.er r⟩
end

/-! ### sorted -/
def sortOk (ds : List D) : Bool := (ds.all fun d => ds.all fun e => PySem.W.alike d e) && ((ds.all fun d => match d with | .tuple _ => true | _ => false) || ds.all fun d => match d with | .tuple _ => false | .none => false | _ => true) && ds.all SeqAt.shaped
def sortD (ds : List D) : List D := ds.mergeSort (PySem.W.dataLe false id)
def gSorted : List D → Option O
  | [.list ds] => if sortOk ds then some (.nw (.list (sortD ds))) else none
  | [.tuple ds] => if sortOk ds then some (.nw (.list (sortD ds))) else none
  | _ => none
end DL
end
section
set_option Elab.async false
set_option linter.all false
set_option maxRecDepth 100000
/-! DL9: sorted, repr; methods; stores into owned lists and dicts. -/
namespace DL
open PySem PySem.Spec L2

/-! ### sorted -/
def rSortD (K : PySem.W.Frag) : List V → Hp → VK → Prop := fun vs H Q => ∃ (a : Addr) (xs : List V) (ds : List D) (F : Fz), vs = [.ref a] ∧ (SqL K H a xs ∨ SqT K H a xs) ∧ RpL K H F ds xs ∧ sortOk ds = true ∧
  ∀ p ys, H p = none → RpL K H F (sortD ds) ys → Q (.ref p) (upd H p (.lst ys))
section
variable {X : Cx}
theorem each_rp {K : PySem.W.Frag} {H : Hp} {F : Fz} : ∀ {ds : List D} {xs : List V} {us : List Value}, RpL K H F ds xs → Vals xs us → PySem.W.EachIs (fun v d => ∃ x, RelV x v ∧ Rp K H F d x) us ds
  | _, _, _, .nil, .nil => .nil
  | _, _, _, .cons h r, .cons q t => .cons ⟨_, q, h⟩ (each_rp r t)
theorem rp_each {K : PySem.W.Frag} {H : Hp} {F : Fz} : ∀ {ds : List D} {us : List Value}, PySem.W.EachIs (fun v d => ∃ x, RelV x v ∧ Rp K H F d x) us ds → ∃ xs, Vals xs us ∧ RpL K H F ds xs
  | _, _, .nil => ⟨[], .nil, .nil⟩
  | _, _, .cons ⟨x, q, h⟩ t => let ⟨xs, r1, r2⟩ := rp_each t; ⟨x :: xs, .cons q r1, .cons h r2⟩
theorem each_reads {pins : List (Addr × Obj)} {σ : L2.St} {H : Hp} {s : Shared} {F : Fz} (I : Inv X pins σ H s) : ∀ {ds : List D} {us : List Value}, PySem.W.EachIs (fun v d => ∃ x, RelV x v ∧ Rp X.K H F d x) us ds → (∀ d ∈ ds, SeqAt.shaped d = true) → PySem.W.EachIs (fun v d => ∃ as, Reads s.heap v (id d) as) us ds
  | _, _, .nil, _ => .nil
  | d :: _, _, .cons ⟨x, q, h⟩ t, sh => .cons (Dp.reads I d x _ (h.dp (.inl (sh d List.mem_cons_self))) q) (each_reads I t fun e he => sh e (List.mem_cons_of_mem _ he))
theorem call_sortD (hu : X.A.units + 80 < cLine) : CallR X (.builtin "sorted") (rSortD X.K) := by
  intro pins s σ H xs us Q I r h
  obtain ⟨a, zs, ds, F, rfl, hz, rz, ok, q⟩ := h
  obtain ⟨u, rfl, ru⟩ := vals1 r
  cases ru
  obtain ⟨its, rv, pl, hl⟩ : ∃ its, Vals zs its ∧ (s.heap.IsList a its.toArray ∨ s.heap.IsTuple a its.toArray) ∧ zs.length ≤ sizeLine := by
    rcases hz with hz | hz
    · obtain ⟨its, rv, pl, hl⟩ := I.list hz
      exact ⟨its, rv, .inl pl.isList, hl⟩
    · obtain ⟨its, rv, pl, hl⟩ := I.tuple hz
      exact ⟨its, rv, .inr pl, hl⟩
  unfold sortOk at ok
  rw [Bool.and_eq_true, Bool.and_eq_true] at ok
  obtain ⟨⟨o1, o2⟩, o3⟩ := ok
  have e0 := each_rp rz rv
  have sh : ∀ d ∈ ds, SeqAt.shaped d = true := List.all_eq_true.mp o3
  have al : PySem.W.AllAlike (ds.map id) := fun d hd e he => by
    rw [List.map_id] at hd he
    exact List.all_eq_true.mp (List.all_eq_true.mp o1 d hd) e he
  have ln : ds.length ≤ sizeLine := by rw [rz.length]; exact hl
  have bound : ∀ d, d ∈ ds → X.A.units + 2 + (id d).depth < cLine := fun d hd => by
    have := sh d hd
    unfold SeqAt.shaped at this
    rw [Bool.and_eq_true] at this
    have := of_decide_eq_true this.2
    show X.A.units + 2 + d.depth < cLine
    omega
  have fin : ∀ out : List Value, out.length = ds.length → PySem.W.EachIs (fun v d => ∃ x, RelV x v ∧ Rp X.K H F d x) out (ds.mergeSort (PySem.W.dataLe false id)) → EP X pins σ Q (.ref (s.heap.objs.size + 1)) { s with heap := PyProof.Rows.sortedAll s.heap its (List.toArray out) } := fun out ho eo => by
    obtain ⟨ys, r1, r2⟩ := rp_each eo
    have hf : H (s.heap.objs.size + 1) = none := I.hok.fresh (Nat.le_succ _)
    obtain ⟨c, hc⟩ := PyProof.Rows.sortedAll_at s.heap its (List.toArray out)
    have hl2 : ys.length ≤ sizeLine := by rw [r1.length, ho]; exact ln
    exact ⟨.ref (s.heap.objs.size + 1), _, I.laid (a := s.heap.objs.size + 1) (o := .lst ys) (t' := s.toks) (fun b u e => PyProof.Rows.sortedAll_old e) (Nat.le_succ _) ⟨hl2, out, c, r1, hc⟩, rfl, q _ ys hf r2⟩
  have bm : ∀ d, d ∈ ds.map id → X.A.in1.in1.units + d.depth < cLine := fun d hd => by
    rw [List.map_id] at hd
    have := bound d hd
    show X.A.units + 1 + 1 + d.depth < cLine
    have e : (id d : D).depth = d.depth := rfl
    omega
  rcases Bool.or_eq_true_iff.mp o2 with o2 | o2
  · have tt : ∀ d ∈ ds.map id, ∃ xs, d = .tuple xs := fun d hd => by
      rw [List.map_id] at hd
      have := List.all_eq_true.mp o2 d hd
      split at this
      · exact ⟨_, rfl⟩
      · cases this
    rcases pl with pl | pl
    · exact sorted_tuples (R := fun v d => ∃ x, RelV x v ∧ Rp X.K H F d x) pl e0 (each_reads I e0 sh) al tt ln bound fin
    · exact sorted_tup (R := fun v d => ∃ x, RelV x v ∧ Rp X.K H F d x) pl e0 (each_reads I e0 sh) al ln (fun h' er => sortsAt_tuples (s := { s with heap := h' }) er al tt bm) fin
  · have so : PySem.W.Sortable (ds.map id) := .inr fun d hd => by
      rw [List.map_id] at hd
      have := List.all_eq_true.mp o2 d hd
      split at this
      · cases this
      · cases this
      · rename_i h1 h2; exact ⟨h2, fun xs => h1 xs⟩
    rcases pl with pl | pl
    · exact PySem.W.sorted_data (R := fun v d => ∃ x, RelV x v ∧ Rp X.K H F d x) pl e0 (each_reads I e0 sh) al so ln bound fin
    · exact sorted_tup (R := fun v d => ∃ x, RelV x v ∧ Rp X.K H F d x) pl e0 (each_reads I e0 sh) al ln (fun h' er => PySem.W.SortsAt.data (s := { s with heap := h' }) er al so bm) fin
theorem gSorted_ok {K : PySem.W.Frag} : CROk K (rSortD K) gSorted := by
  intro σ H F env vs ds o Q er ob hg f
  unfold gSorted at hg
  split at hg
  · split at hg
    · rename_i ok
      cases hg
      obtain ⟨v, rfl, r⟩ := ob1 ob
      obtain ⟨a, xs, rfl, h, r⟩ := r.list
      exact ⟨a, xs, _, F, rfl, .inl (.of h), r, ok, fun p ys hp ry => f.lst er ry p hp⟩
    · cases hg
  · split at hg
    · rename_i ok
      cases hg
      obtain ⟨v, rfl, r⟩ := ob1 ob
      obtain ⟨a, xs, rfl, h, r⟩ := r.tuple
      exact ⟨a, xs, _, F, rfl, .inr h.sq, r, ok, fun p ys hp ry => f.lst er ry p hp⟩
    · cases hg
  · cases hg
theorem de_sorted {p pos : Pos} {e : Expr} {es : List Expr} {ta : DA} (hu : X.A.units + 80 < cLine) (hm : X.mg "sorted" = none) (ha : DAr X (e :: es) ta) (gl : Gl X "sorted" := by rfl) (he : starEach (e :: es) X.env = (false, eval e X.env) :: starEach es X.env := by rfl) (hpl : (backTo pos (starEach es X.env)).any (·.1) = false := by rfl) :
    DE X (.Call (.Name "sorted" p) (e :: es) [] pos) (dB gSorted ta) := de_B (call_sortD hu) gSorted_ok hm (by decide +kernel) ha gl (by decide) (by decide) he hpl
end

/-! ### repr -/
def gRepr : List D → Option O
  | [d] => if d.showable && SeqAt.shaped d && decide (d.shown.length ≤ sizeLine) then some (.fz (.str d.shown)) else if d.showable && decide (d.depth ≤ 64) && decide (d.shown.length ≤ sizeLine) then some (.fz (.str d.shown)) else none
  | _ => none
def rRepr (K : PySem.W.Frag) : List V → Hp → VK → Prop := fun vs H Q => ∃ x d F, vs = [x] ∧ Ob K H F x d ∧ d.showable = true ∧ d.depth ≤ 64 ∧ d.shown.length ≤ sizeLine ∧ Q (.str d.shown) H
mutual
theorem noDict_of_shaped : ∀ {d : D}, d.canLay0 = true → d.hasDict = false
  | .none, _ => rfl
  | .bool _, _ => rfl
  | .int _, _ => rfl
  | .str _, _ => rfl
  | .list xs, h => by simp only [PyData.canLay0] at h; simpa only [PyData.hasDict] using noDicts h
  | .tuple xs, h => by simp only [PyData.canLay0] at h; simpa only [PyData.hasDict] using noDicts h
  | .dict _, h => by simp [PyData.canLay0] at h
theorem noDicts : ∀ {ds : List D}, PyData.canLayAll0 ds = true → PyData.hasDictAll ds = false
  | [], _ => rfl
  | x :: xs, h => by
    simp only [PyData.canLayAll0, Bool.and_eq_true] at h
    simp only [PyData.hasDictAll, noDict_of_shaped h.1, noDicts h.2, Bool.or_self]
end
section
variable {X : Cx}
theorem call_reprD (gd : X.A.guards = some []) (hu : X.A.units + 80 < cLine) : CallR X (.builtin "repr") (rRepr X.K) := by
  intro pins s σ H xs us Q I r h
  obtain ⟨x, d, F, rfl, hd, sw, dp, sz, q⟩ := h
  obtain ⟨u, rfl, ru⟩ := vals1 r
  have box : ∀ a, x = .ref a → wpAny (model X.prog X.w) X.A (call (.builtin "repr") [u]) (EP X pins σ Q) X.xe s := fun a e => by
    obtain ⟨T, idr, S⟩ := Ob.shows I hd e sw sz
    subst e
    cases (show u = Value.ref a from ru)
    refine call_repr_slot (by omega) (S.typeIs s fun _ _ z => z) S.slotRepr (S.call X.A.in1 X.xe s _ gd (by show X.A.units + 1 + d.depth < cLine; omega) (fun _ _ z => z) fun h' t tk k => ⟨_, _, rfl, ?_⟩)
    exact ⟨.str d.shown, H, I.kept k, ⟨t, rfl⟩, q⟩
  cases d with
  | none => cases hd.none; cases ru; exact PySem.P.repr_of_none ⟨.str _, H, I.tok _, ⟨_, rfl⟩, q⟩
  | bool b => cases hd.bool; cases ru; exact PySem.P.repr_of_bool ⟨.str _, H, I.tok _, ⟨_, rfl⟩, by cases b <;> exact q⟩
  | int i =>
    cases hd.int
    obtain ⟨t, rfl⟩ := ru
    exact PySem.P.repr_of_int (of_decide_eq_true (by simpa [PyData.showable] using sw)) ⟨.str _, H, I.tok _, ⟨_, rfl⟩, q⟩
  | str y =>
    cases hd.str
    obtain ⟨t, rfl⟩ := ru
    exact PySem.P.repr_of_str ⟨.str _, H, I.tok _, ⟨_, rfl⟩, q⟩ sz
  | list _ => obtain ⟨a, _, e, _⟩ := hd.list; exact box a e
  | tuple _ => obtain ⟨a, _, e, _⟩ := hd.tuple; exact box a e
  | dict _ => obtain ⟨a, _, e, _⟩ := hd.dict; exact box a e
theorem gRepr_ok {K : PySem.W.Frag} : CROk K (rRepr K) gRepr := by
  intro σ H F env vs ds o Q er ob hg f
  unfold gRepr at hg
  split at hg
  · split at hg
    · rename_i d ok
      cases hg
      rw [Bool.and_eq_true, Bool.and_eq_true] at ok
      obtain ⟨v, rfl, r⟩ := ob1 ob
      exact ⟨v, d, F, rfl, r, ok.1.1, SeqAt.depth_of_shaped ok.1.2, of_decide_eq_true ok.2, f.fz er (.str _)⟩
    · split at hg
      · rename_i d _ ok
        cases hg
        rw [Bool.and_eq_true, Bool.and_eq_true] at ok
        obtain ⟨v, rfl, r⟩ := ob1 ob
        exact ⟨v, d, F, rfl, r, ok.1.1, of_decide_eq_true ok.1.2, of_decide_eq_true ok.2, f.fz er (.str _)⟩
      · cases hg
  · cases hg
theorem de_repr {p pos : Pos} {e : Expr} {es : List Expr} {ta : DA} (gd : X.A.guards = some []) (hu : X.A.units + 80 < cLine) (hm : X.mg "repr" = none) (ha : DAr X (e :: es) ta) (gl : Gl X "repr" := by rfl) (he : starEach (e :: es) X.env = (false, eval e X.env) :: starEach es X.env := by rfl) (hpl : (backTo pos (starEach es X.env)).any (·.1) = false := by rfl) :
    DE X (.Call (.Name "repr" p) (e :: es) [] pos) (dB gRepr ta) := de_B (call_reprD gd hu) gRepr_ok hm (by decide +kernel) ha gl (by decide) (by decide) he hpl
end

/-! ### an owned object changes -/
section
variable {K : PySem.W.Frag} {σ : L2.St} {H : Hp} {F : Fz} {env : SEnv} {i : Nat} {p : Bool} {d d' : D} {a : Addr} {u : HO}
theorem mut_cur (er : ER K σ H F env) (h : env[i]? = some (.ow p d)) (ha : σ[i]? = some (some (V.ref a))) (t : Ext H F (upd H a u) F → Top K (upd H a u) F a d') : Cur K σ H F env (upd H a u) F (env.set i (.ow p d')) := by
  have hA : AOf σ env a := ⟨i, p, d, h, ha⟩
  have hi : i < env.length := (List.getElem?_eq_some_iff.mp h).1
  obtain ⟨nf, o, ho, _⟩ := er.aof hA
  have st : StepE H F (AOf σ env) (upd H a u) F := ⟨fun _ z => z, fun b o' hb n => by
    rw [upd_ne (fun z => n (by rw [z]; exact hA))]; exact hb, fun _ z => .inl z, fun b hb => by
    by_cases e : b = a
    · subst e; rw [upd_same] at hb; cases hb
    · rw [upd_ne e] at hb; exact hb⟩
  have ex := st.ext er
  have sh : Shape env (env.set i (.ow p d')) := fun j => by
    by_cases e : j = i
    · subst e; exact .inr ⟨p, d, d', h, List.getElem?_set_self hi⟩
    · rw [List.getElem?_set_ne (Ne.symm e)]; exact .inl rfl
  refine ⟨er, st, sh, ⟨by simpa using er.len, fun j e hj => ?_, fun j q e hj => ?_, fun j ns hj => ?_, fun j l q d1 r d2 b h1 h2 e1 e2 => ?_, fun b hb => ?_⟩⟩
  · rcases getElem?_set' hj with ⟨_, z⟩ | ⟨_, z⟩
    · cases z
    · obtain ⟨v, q, r⟩ := er.fz j e z
      exact ⟨v, q, r.ext ex⟩
  · rcases getElem?_set' hj with ⟨rfl, z⟩ | ⟨nj, z⟩
    · cases z
      exact ⟨a, ha, nf, t ex⟩
    · obtain ⟨b, e1, nb, t2⟩ := er.ow j q e z
      refine ⟨b, e1, nb, t2.ext ex fun o' hb => ?_⟩
      rw [upd_ne (fun y => nj (er.dis j i _ _ _ _ b z h e1 (by rw [y]; exact ha)))]
      exact hb
  · rcases getElem?_set' hj with ⟨_, z⟩ | ⟨_, z⟩
    · cases z
    · obtain ⟨b, q, r⟩ := er.sc j ns z
      exact ⟨b, q, r.ext ex⟩
  · obtain ⟨_, h1'⟩ := sh.ow' h1
    obtain ⟨_, h2'⟩ := sh.ow' h2
    exact er.dis j l _ _ _ _ b h1' h2' e1 e2
  · by_cases e : b = a
    · subst e; rw [upd_same]; exact fun z => nomatch z
    · rw [upd_ne e]; exact er.liv b hb
theorem mut_lst {ds' : List D} {xs' : List V} (er : ER K σ H F env) (h : env[i]? = some (.ow p d)) (ha : σ[i]? = some (some (V.ref a))) (r : RpL K H F ds' xs') : Cur K σ H F env (upd H a (.lst xs')) F (env.set i (.ow p (.list ds'))) :=
  mut_cur er h ha fun e => ⟨xs', upd_same, r.ext e⟩
end
/-- slot i holds an owned list -/
def owL (env : SEnv) (i : Nat) : Option (List D) := match env[i]? with
  | some (.ow _ (.list ds)) => some ds
  | _ => none
def owD (env : SEnv) (i : Nat) : Option (List (D × D)) := match env[i]? with
  | some (.ow _ (.dict ds)) => some ds
  | _ => none
theorem owL_ok {env : SEnv} {i : Nat} {ds : List D} (h : owL env i = some ds) : ∃ p, env[i]? = some (.ow p (.list ds)) := by
  unfold owL at h
  split at h
  · rename_i p ds' e; cases h; exact ⟨p, e⟩
  · cases h
theorem owD_ok {env : SEnv} {i : Nat} {ds : List (D × D)} (h : owD env i = some ds) : ∃ p, env[i]? = some (.ow p (.dict ds)) := by
  unfold owD at h
  split at h
  · rename_i p ds' e; cases h; exact ⟨p, e⟩
  · cases h
/-- x.m(..), x an owned list: the list and the arguments' data give what is told and the list behind -/
def dMutL (i : Nat) (g : List D → List D → Option (O × List D)) (ta : DA) : DT := fun env Q => ∃ ds0, owL env i = some ds0 ∧ ta env fun os e1 => ∃ ds es o ds', owL e1 i = some ds ∧ valsO os = some es ∧ g ds es = some (o, ds') ∧ Q o (putO e1 i (.list ds'))
/-- a method's rule serves g -/
def MLOk (K : PySem.W.Frag) (r : V → List V → Hp → VK → Prop) (g : List D → List D → Option (O × List D)) : Prop :=
  ∀ H F a xs ds vs es o ds' Q, H a = some (.lst xs) → RpL K H F ds xs → RpL K H F es vs → g ds es = some (o, ds') → (∀ v xs', (∃ d, o = .fz d ∧ Rp K H F d v) → RpL K H F ds' xs' → Q v (upd H a (.lst xs'))) → r (.ref a) vs H Q
section
variable {X : Cx} {x m : Str} {apos pos p : Pos} {es : List Expr} {e : Expr} {ta : DA} {id : String} {r : V → List V → Hp → VK → Prop} {g : List D → List D → Option (O × List D)}
theorem lift_mutL {K : PySem.W.Frag} (i : Nat) (hg : MLOk K r g) : ∀ σ H Q, liftE K (dMutL i g ta) σ H Q → tBM K "list" r (tVar i) (liftA K ta) σ H Q := fun σ H Q h => by
  obtain ⟨F, env, R, er, ⟨ds0, h0, q⟩, k⟩ := h
  obtain ⟨p0, h0⟩ := owL_ok h0
  obtain ⟨a, ea, nf, xs0, hx0, _⟩ := er.ow i _ _ h0
  refine ⟨.ref a, ea, .inl ⟨rfl, xs0, .of hx0⟩, ?_⟩
  refine lift_arg (.refl er) q fun os e1 vs H1 F1 h1 c1 _ rr => ?_
  obtain ⟨ds, es, o, ds', hd, hv, hgo, q1⟩ := h1
  obtain ⟨p1, hd⟩ := owL_ok hd
  obtain ⟨b, eb, _, xs, hx, rx⟩ := c1.er.ow i _ _ hd
  rw [ea] at eb
  cases eb
  refine hg H1 F1 a xs ds vs es o ds' Q hx rx (opds_rp rr hv) hgo fun v xs' ⟨d, eo, rd⟩ rx' => ?_
  have c2 := mut_lst c1.er hd ea rx'
  have : putO e1 i (.list ds') = e1.set i (.ow p1 (.list ds')) := by unfold putO; rw [hd]
  rw [this] at q1
  subst eo
  exact k _ _ _ _ _ q1 (c1.trans c2) (rd.ext c2.e)
end
def gAppend : List D → List D → Option (O × List D)
  | ds, [d] => if ds.length < sizeLine then some (.fz .none, ds ++ [d]) else none
  | _, _ => none
def gExtend : List D → List D → Option (O × List D)
  | ds, [.list es] => if ds.length + es.length ≤ sizeLine then some (.fz .none, ds ++ es) else none
  | _, _ => none
def gInsert : List D → List D → Option (O × List D)
  | ds, [.int i, d] => if ds.length < sizeLine ∧ 0 ≤ i ∧ i < 2 ^ 63 then some (.fz .none, ds.take i.toNat ++ [d] ++ ds.drop i.toNat) else none
  | _, _ => none
def gPop : List D → List D → Option (O × List D)
  | ds, [] => (ds[ds.length - 1]?).map fun d => (.fz d, ds.dropLast)
  | _, _ => none
def gReverse : List D → List D → Option (O × List D)
  | ds, [] => some (.fz .none, ds.reverse)
  | _, _ => none
def gClear : List D → List D → Option (O × List D)
  | _, [] => some (.fz .none, [])
  | _, _ => none
section
variable {K : PySem.W.Frag}
theorem rp_one {H : Hp} {F : Fz} {d : D} {vs : List V} (h : RpL K H F [d] vs) : ∃ v, vs = [v] ∧ Rp K H F d v := by
  cases h with
  | cons h r => cases r; exact ⟨_, rfl, h⟩
theorem gAppend_ok : MLOk K rAppend gAppend := by
  intro H F a xs ds vs es o ds' Q hx rx re hg k
  unfold gAppend at hg
  split at hg
  · split at hg
    · rename_i hl
      cases hg
      obtain ⟨v, rfl, rv⟩ := rp_one re
      exact ⟨a, xs, v, rfl, rfl, hx, by rw [← rx.length]; exact hl, k _ _ ⟨_, rfl, .non⟩ (rx.append (.one rv))⟩
    · cases hg
  · cases hg
theorem gExtend_ok : MLOk K rExtend gExtend := by
  intro H F a xs ds vs es o ds' Q hx rx re hg k
  unfold gExtend at hg
  split at hg
  · split at hg
    · rename_i hl
      cases hg
      obtain ⟨v, rfl, rv⟩ := rp_one re
      obtain ⟨b, ys, rfl, _, hb, ry⟩ := rv.lst'
      exact ⟨a, b, xs, ys, rfl, rfl, hx, hb, by rw [← rx.length, ← ry.length]; exact hl, k _ _ ⟨_, rfl, .non⟩ (rx.append ry)⟩
    · cases hg
  · cases hg
def rInsert : V → List V → Hp → VK → Prop := fun x vs H Q => ∃ (l : Addr) (xs : List V) (i : Int) (y : V), x = .ref l ∧ vs = [.int i, y] ∧ H l = some (.lst xs) ∧ xs.length < sizeLine ∧ 0 ≤ i ∧ i < 2 ^ 63 ∧
    Q .non (upd H l (.lst (xs.take i.toNat ++ [y] ++ xs.drop i.toNat)))
theorem gInsert_ok : MLOk K rInsert gInsert := by
  intro H F a xs ds vs es o ds' Q hx rx re hg k
  unfold gInsert at hg
  split at hg
  · split at hg
    · rename_i hl
      cases hg
      cases re with
      | cons r1 r2 =>
        cases r1
        obtain ⟨v, rfl, rv⟩ := rp_one r2
        exact ⟨a, xs, _, v, rfl, rfl, hx, by rw [← rx.length]; exact hl.1, hl.2.1, hl.2.2, k _ _ ⟨_, rfl, .non⟩ (((rx.take _).append (.one rv)).append (rx.drop _))⟩
    · cases hg
  · cases hg
theorem gPop_ok : MLOk K rPop gPop := by
  intro H F a xs ds vs es o ds' Q hx rx re hg k
  unfold gPop at hg
  split at hg
  · cases re
    obtain ⟨d, hd, e⟩ := Option.map_eq_some_iff.mp hg
    cases e
    obtain ⟨y, hy, ry⟩ := rx.get hd
    exact ⟨a, xs, y, rfl, rfl, hx, by rw [← rx.length]; exact hy, k _ _ ⟨_, rfl, ry⟩ rx.dropLast⟩
  · cases hg
theorem gReverse_ok : MLOk K rReverse gReverse := by
  intro H F a xs ds vs es o ds' Q hx rx re hg k
  unfold gReverse at hg
  split at hg
  · cases re
    cases hg
    exact ⟨a, xs, rfl, rfl, hx, k _ _ ⟨_, rfl, .non⟩ rx.reverse⟩
  · cases hg
theorem gClear_ok : MLOk K rClear gClear := by
  intro H F a xs ds vs es o ds' Q hx rx re hg k
  unfold gClear at hg
  split at hg
  · cases re
    cases hg
    exact ⟨a, xs, rfl, rfl, hx, k _ _ ⟨_, rfl, .non⟩ .nil⟩
  · cases hg
end
end DL
end
section
set_option Elab.async false
set_option linter.all false
set_option maxRecDepth 100000
/-! DL10: list comprehensions. -/
namespace DL
open PySem PySem.Spec L2

def wipeE : List Nat → SEnv → SEnv
  | [], env => env
  | v :: vs, env => (wipeE vs env).set v .un
/-- the slots vs as they were -/
def rst (vs : List Nat) (env e : SEnv) : SEnv := match vs with
  | [] => e
  | v :: vs => (rst vs env e).set v (env.getD v .un)
def notOw (vs : List Nat) (env : SEnv) : Bool := vs.all fun v => match env[v]? with
  | some (.ow _ _) => false
  | some _ => true
  | none => false
theorem wipeE_len : ∀ {vs : List Nat} {env : SEnv}, (wipeE vs env).length = env.length
  | [], _ => rfl
  | v :: vs, env => by unfold wipeE; rw [List.length_set, wipeE_len]
theorem rst_len : ∀ {vs : List Nat} {env e : SEnv}, (rst vs env e).length = e.length
  | [], _, _ => rfl
  | v :: vs, env, e => by unfold rst; rw [List.length_set, rst_len]
theorem wipeE_out {j : Nat} : ∀ {vs : List Nat} {env : SEnv}, j ∉ vs → (wipeE vs env)[j]? = env[j]?
  | [], _, _ => rfl
  | v :: vs, env, h => by
    simp only [List.mem_cons, not_or] at h
    unfold wipeE
    rw [List.getElem?_set_ne (Ne.symm h.1), wipeE_out h.2]
theorem wipeE_in {j : Nat} : ∀ {vs : List Nat} {env : SEnv}, j ∈ vs → j < env.length → (wipeE vs env)[j]? = some .un
  | [], _, h, _ => by cases h
  | v :: vs, env, h, hl => by
    unfold wipeE
    by_cases e : j = v
    · subst e; rw [List.getElem?_set_self (by rw [wipeE_len]; exact hl)]
    · rw [List.getElem?_set_ne (Ne.symm e)]
      exact wipeE_in ((List.mem_cons.mp h).resolve_left e) hl
theorem rst_out {j : Nat} : ∀ {vs : List Nat} {env e : SEnv}, j ∉ vs → (rst vs env e)[j]? = e[j]?
  | [], _, _, _ => rfl
  | v :: vs, env, e, h => by
    simp only [List.mem_cons, not_or] at h
    unfold rst
    rw [List.getElem?_set_ne (Ne.symm h.1), rst_out h.2]
theorem rst_in {j : Nat} : ∀ {vs : List Nat} {env e : SEnv}, j ∈ vs → j < env.length → j < e.length → (rst vs env e)[j]? = env[j]?
  | [], _, _, h, _, _ => by cases h
  | v :: vs, env, e, h, hl, hl2 => by
    unfold rst
    by_cases q : j = v
    · subst q
      rw [List.getElem?_set_self (by rw [rst_len]; exact hl2), List.getD_eq_getElem?_getD, List.getElem?_eq_getElem hl]
      rfl
    · rw [List.getElem?_set_ne (Ne.symm q)]
      exact rst_in ((List.mem_cons.mp h).resolve_left q) hl hl2
theorem wipe_in' {σ : L2.St} {j : Nat} : ∀ {vs : List Nat}, j ∈ vs → j < σ.length → (wipe σ vs)[j]? = some none
  | [], h, _ => by cases h
  | v :: vs, h, hl => by
    unfold wipe
    by_cases e : j = v
    · subst e; rw [List.getElem?_set_self (by rw [wipe_length]; exact hl)]
    · rw [List.getElem?_set_ne (Ne.symm e)]
      exact wipe_in' ((List.mem_cons.mp h).resolve_left e) hl
theorem wipe_same {σ σ2 : L2.St} {vs wr : List Nat} (hl : σ2.length = σ.length) (hs : ∀ w ∈ wr, w ∈ vs) (h : ∀ j, j ∉ wr → σ2[j]? = (wipe σ vs)[j]?) : wipe σ2 vs = wipe σ vs := by
  refine List.ext_getElem? fun j => ?_
  by_cases hj : j ∈ vs
  · by_cases hlt : j < σ.length
    · rw [wipe_in' hj hlt, wipe_in' hj (by omega)]
    · rw [List.getElem?_eq_none (by rw [wipe_length]; omega), List.getElem?_eq_none (by rw [wipe_length]; omega)]
  · rw [wipe_out hj, h j fun z => hj (hs j z)]
section
variable {K : PySem.W.Frag} {σ σ2 : L2.St} {H H2 H4 : Hp} {F F4 : Fz} {env e3 : SEnv} {vs wr : List Nat}
theorem notOw_ok (h : notOw vs env = true) {j : Nat} (hj : j ∈ vs) : j < env.length ∧ ∀ p d, env[j]? ≠ some (.ow p d) := by
  have := List.all_eq_true.mp h j hj
  split at this
  · cases this
  · rename_i s hn e
    refine ⟨(List.getElem?_eq_some_iff.mp e).1, fun p d z => ?_⟩
    rw [e] at z; cases z
    exact hn p d rfl
  · cases this
/-- into the block -/
theorem blk_in (er : ER K σ H F env) (h : notOw vs env = true) : ER K (wipe σ vs) H F (wipeE vs env) ∧ ∀ a, AOf (wipe σ vs) (wipeE vs env) a ↔ AOf σ env a := by
  have g : ∀ {j : Nat} {s : Slot}, (wipeE vs env)[j]? = some s → s ≠ .un → j ∉ vs ∧ env[j]? = some s := fun {j s} hj hn => by
    by_cases hv : j ∈ vs
    · rw [wipeE_in hv (notOw_ok h hv).1] at hj
      cases hj; exact absurd rfl hn
    · rw [wipeE_out hv] at hj
      exact ⟨hv, hj⟩
  refine ⟨⟨by rw [wipeE_len, wipe_length]; exact er.len, fun j d hj => ?_, fun j p d hj => ?_, fun j ns hj => ?_, fun i j p d q e a h1 h2 e1 e2 => ?_, er.liv⟩, fun a => ⟨fun ⟨j, p, d, hj, q⟩ => ?_, fun ⟨j, p, d, hj, q⟩ => ?_⟩⟩
  · obtain ⟨hv, hj⟩ := g hj (fun z => nomatch z)
    rw [wipe_out hv]; exact er.fz j d hj
  · obtain ⟨hv, hj⟩ := g hj (fun z => nomatch z)
    rw [wipe_out hv]; exact er.ow j p d hj
  · obtain ⟨hv, hj⟩ := g hj (fun z => nomatch z)
    rw [wipe_out hv]; exact er.sc j ns hj
  · obtain ⟨v1, h1⟩ := g h1 (fun z => nomatch z)
    obtain ⟨v2, h2⟩ := g h2 (fun z => nomatch z)
    rw [wipe_out v1] at e1
    rw [wipe_out v2] at e2
    exact er.dis i j p d q e a h1 h2 e1 e2
  · obtain ⟨hv, hj⟩ := g hj (fun z => nomatch z)
    rw [wipe_out hv] at q
    exact ⟨j, p, d, hj, q⟩
  · have hv : j ∉ vs := fun hv => (notOw_ok h hv).2 p d hj
    exact ⟨j, p, d, by rw [wipeE_out hv]; exact hj, by rw [wipe_out hv]; exact q⟩
/-- out of the block -/
theorem blk_out {H1 : Hp} {F1 : Fz} {e1 : SEnv} (er : ER K σ H F env) (h : notOw vs env = true) (ws : ∀ w ∈ wr, w ∈ vs) (c1 : CurS K (wipe σ vs) H F (wipeE vs env) σ2 H1 F1 e1) (w1 : Wr wr (wipe σ vs) (wipeE vs env) σ2 e1) (c2 : Cur K σ2 H1 F1 e1 H4 F4 e3) :
    Cur K σ H F env H4 F4 (rst vs env e3) := by
  obtain ⟨er0, ao⟩ := blk_in er h
  have c := c1.trans c2.s
  have so : ∀ {j : Nat}, j ∉ vs → σ2[j]? = σ[j]? := fun {j} hj => by rw [w1.s j (fun z => hj (ws j z)), wipe_out hj]
  have eo : ∀ {j : Nat}, j ∉ vs → e1[j]? = env[j]? := fun {j} hj => by rw [w1.e j (fun z => hj (ws j z)), wipeE_out hj]
  have l3 : e3.length = env.length := by
    rw [c2.er.len, c1.st.len, wipe_length, er.len]
  have ro : ∀ {j : Nat}, j ∉ vs → (rst vs env e3)[j]? = e3[j]? := fun hj => rst_out hj
  have ri : ∀ {j : Nat}, j ∈ vs → (rst vs env e3)[j]? = env[j]? := fun hj => rst_in hj (notOw_ok h hj).1 (by rw [l3]; exact (notOw_ok h hj).1)
  have sh : Shape env (rst vs env e3) := fun j => by
    by_cases hj : j ∈ vs
    · exact .inl (ri hj)
    · rw [ro hj, ← eo hj]; exact c2.sh j
  have st : StepE H F (AOf σ env) H4 F4 := ⟨c.st.f, fun a o ho n => c.st.keep a o ho fun z => n ((ao a).mp z), fun a ha => by
    rcases c.st.new a ha with z | z | z
    · exact .inl z
    · exact .inr z
    · obtain ⟨j, p, d, hj, q⟩ := (ao a).mp z
      have hv : j ∉ vs := fun hv => (notOw_ok h hv).2 p d hj
      obtain ⟨d', h3⟩ := c2.sh.ow (show e1[j]? = some (.ow p d) by rw [eo hv]; exact hj)
      obtain ⟨b, e5, nf, _⟩ := c2.er.ow j _ _ h3
      rw [so hv, q] at e5
      cases e5
      exact absurd ha nf, c.st.live⟩
  have ex := st.ext er
  refine ⟨er, st, sh, ⟨by rw [rst_len, l3]; exact er.len, fun j d hj => ?_, fun j p d hj => ?_, fun j ns hj => ?_, fun i j p d q e a h1 h2 q1 q2 => ?_, c2.er.liv⟩⟩
  · by_cases hv : j ∈ vs
    · rw [ri hv] at hj
      obtain ⟨v, q, r⟩ := er.fz j d hj
      exact ⟨v, q, r.ext ex⟩
    · rw [ro hv] at hj
      obtain ⟨v, q, r⟩ := c2.er.fz j d hj
      exact ⟨v, by rw [← so hv]; exact q, r⟩
  · by_cases hv : j ∈ vs
    · rw [ri hv] at hj
      exact absurd hj ((notOw_ok h hv).2 p d)
    · rw [ro hv] at hj
      obtain ⟨b, q, r⟩ := c2.er.ow j p d hj
      exact ⟨b, by rw [← so hv]; exact q, r⟩
  · by_cases hv : j ∈ vs
    · rw [ri hv] at hj
      obtain ⟨v, q, r⟩ := er.sc j ns hj
      exact ⟨v, q, r.ext ex⟩
    · rw [ro hv] at hj
      obtain ⟨v, q, r⟩ := c2.er.sc j ns hj
      exact ⟨v, by rw [← so hv]; exact q, r⟩
  · obtain ⟨_, h1'⟩ := sh.ow' h1
    obtain ⟨_, h2'⟩ := sh.ow' h2
    exact er.dis i j _ _ _ _ a h1' h2' q1 q2
end

/-- one turn after another; K: what is done with the list -/
def lcGo (vs : List Nat) (al : Option Nat) (all : List D) (g : DG) (tt : DB) (te : DT) : List D → List D → SEnv → (List D → SEnv → Prop) → Prop
  | [], acc, env, K => alOk al all env ∧ K acc env
  | d :: ds, acc, env, K => alOk al all env ∧ notOw vs env = true ∧ g d (wipeE vs env) fun e1 => tt e1 fun b e2 =>
      if b = true then te e2 fun o e3 => ∃ x, o.val = some x ∧ lcGo vs al all g tt te ds (acc ++ [x]) (rst vs env e3) K
      else lcGo vs al all g tt te ds acc (rst vs env e2) K
def dLc (vs : List Nat) (ti : DI) (g : DG) (tt : DB) (te : DT) : DT := fun env Q => ti env fun items al e1 => items.length ≤ sizeLine ∧ lcGo vs al items g tt te items [] e1 fun acc e2 => Q (.nw (.list acc)) e2
def bYes : DB := fun env Q => Q true env
def DTs (X : Cx) (ifs : List Expr) (t : DB) : Prop := PTs X ifs (liftT X.K t)
theorem PTs.imp {X : Cx} {e : List Expr} {t t' : TT} (h : PTs X e t) (i : ∀ σ H Q, t' σ H Q → t σ H Q) : PTs X e t' := ⟨fun pins s σ H Q I q => h.run pins s σ H Q I (i σ H Q q)⟩
section
variable {X : Cx} {elt tg iter c : Expr} {ifs : List Expr} {scope : Scope} {own : List (Str × Nat)} {pos : Pos} {ti : DI} {g : DG} {tt : DB} {te : DT} {wr : List Nat}
theorem dts_nil : DTs X [] bYes := PTs.imp pts_nil fun σ H Q h => by
  obtain ⟨F, env, R, er, q, k⟩ := h
  exact k _ _ _ _ q (.refl er)
theorem dts_one (h : DTe X c tt) : DTs X [c] tt := pts_one h
/-- what a walk of an owned slot's list tells -/
theorem ja_turn {K : PySem.W.Frag} {σ : L2.St} {J : It} {i : Nat} {items : List D} {H1 : Hp} {F1 : Fz} {env1 : SEnv} (ja : JA K σ J i) (er : ER K σ H1 F1 env1) (ok : alOk (some i) items env1) (m : Nat) :
    (∀ d, items[m]? = some d → J.go m H1 ∧ ∀ x H2, J.yld m H1 x H2 → Lay H1 H2 ∧ Rp K H2 F1 d x) ∧ (items.length = m → J.stop m H1) := by
  obtain ⟨a, ea, rfl⟩ := ja
  obtain ⟨p, hp⟩ := ok
  obtain ⟨b, eb, _, xs, hx, r⟩ := er.ow i _ _ hp
  rw [ea] at eb
  cases eb
  refine ⟨fun d hd => ?_, fun hl => ⟨xs, .of hx, by rw [← r.length]; exact Nat.le_of_eq hl⟩⟩
  obtain ⟨x, hx2, rx⟩ := r.get hd
  refine ⟨⟨xs, x, .of hx, hx2⟩, fun y H2 ⟨e2, hy⟩ => ?_⟩
  subst e2
  have e3 := hy xs (.of hx)
  rw [hx2] at e3
  cases e3
  exact ⟨.inl rfl, rx⟩
theorem lift_lc {K : PySem.W.Frag} {vs : List Nat} (ws : ∀ w ∈ wr, w ∈ vs) : ∀ σ H Q, liftE K (dLc vs ti g tt te) σ H Q → tLc (liftI K ti) (liftG K wr g) (liftT K tt) (liftE K te) vs σ H Q := fun σ H Q h => by
  obtain ⟨F, env, R, er, q, k⟩ := h
  refine ⟨F, env, _, er, q, fun items al e1 H1 F1 J h1 c1 jr L hL => ?_⟩
  obtain ⟨hlen, h1⟩ := h1
  have cL := laid_cur (u := .lst []) c1.er hL
  let Kt : List D → SEnv → Prop := fun acc e2 => R (.nw (.list acc)) e2
  refine ⟨fun i m H' => ∃ F' env' acc xs, Cur K σ H1 F1 e1 H' F' env' ∧ H' L = some (.lst xs) ∧ ¬ F' L ∧ RpL K H' F' acc xs ∧ xs.length ≤ i ∧ m = items.length - i ∧ i ≤ items.length ∧ lcGo vs al items g tt te (items.drop i) acc env' Kt,
    ⟨items.length, F1, e1, [], [], cL, upd_same, fun z => c1.er.liv L z hL, .nil, Nat.zero_le _, by omega, Nat.zero_le _, h1⟩, fun i m H2 hW => ?_⟩
  obtain ⟨F2, env2, acc, xs, c2, h2, n2, r2, l2, rfl, hi, q2⟩ := hW
  have nA : ¬ AOf σ env2 L := fun z => by
    have z1 := c2.sh.a.mp z
    exact c1.er.live z1 hL
  have turn : alOk al items env2 → (∀ d, items[i]? = some d → J.go i H2 ∧ ∀ x H3, J.yld i H2 x H3 → Lay H2 H3 ∧ Rp K H3 F2 d x) ∧ (items.length = i → J.stop i H2) := fun ok => by
    cases al with
    | none => exact jr i H2 F2 c2.e
    | some j => exact ja_turn jr c2.er ok i
  by_cases hlt : i < items.length
  · obtain ⟨d, hd⟩ : ∃ d, items[i]? = some d := ⟨_, List.getElem?_eq_getElem hlt⟩
    have hdr : items.drop i = d :: items.drop (i + 1) := by
      rw [List.drop_eq_getElem_cons hlt]
      rw [List.getElem?_eq_getElem hlt] at hd
      cases hd; rfl
    rw [hdr] at q2
    obtain ⟨ok, no, q2⟩ := q2
    obtain ⟨go, yl⟩ := (turn ok).1 d hd
    refine .inr ⟨go, fun H' => ∃ F' env' acc xs, Cur K σ H1 F1 e1 H' F' env' ∧ H' L = some (.lst xs) ∧ ¬ F' L ∧ RpL K H' F' acc xs ∧ xs.length ≤ i + 1 ∧ items.length - (i + 1) = items.length - (i + 1) ∧ i + 1 ≤ items.length ∧ lcGo vs al items g tt te (items.drop (i + 1)) acc env' Kt,
      fun H' hn => ⟨items.length - (i + 1), by omega, hn⟩, fun x H3 hy => ?_⟩
    obtain ⟨lay, rx⟩ := yl x H3 hy
    have c3 := lay.cur c2.er
    have h3 : H3 L = some (.lst xs) := c3.st.keep L _ h2 nA
    have r3 := r2.ext c3.e
    obtain ⟨erB, aoB⟩ := blk_in c3.er no
    refine ⟨F2, _, d, _, erB, rx, q2, fun e4 σ4 H4 F4 q4 c4 w4 => ⟨wipe_same (by rw [c4.st.len, wipe_length]) ws w4.s, ?_⟩⟩
    refine lift_tst (.refl c4.er) q4 fun b e5 H5 F5 q5 c5 => ?_
    have cO := blk_out c3.er no ws c4 w4 c5
    have nA3 : ¬ AOf σ env2 L := nA
    cases b with
    | false =>
      have cT := c3.trans cO
      have hh := cT.st.keep L _ h2 nA
      have nF : ¬ F5 L := fun z => by
        rcases cT.st.new L z with z | z
        · exact n2 z
        · rw [h2] at z; cases z
      exact ⟨F5, _, acc, xs, c2.trans cT, hh, nF, r2.ext cT.e, by omega, rfl, hlt, q5⟩
    | true =>
      rw [if_pos rfl] at q5 ⊢
      refine lift_op (.refl c5.er) q5 fun o e6 y H6 F6 q6 c6 _ p6 => ?_
      obtain ⟨z, hz, q6⟩ := q6
      have cT := c3.trans (blk_out c3.er no ws c4 w4 (c5.trans c6))
      have hh := cT.st.keep L _ h2 nA
      have nF : ¬ F6 L := fun z => by
        rcases cT.st.new L z with z | z
        · exact n2 z
        · rw [h2] at z; cases z
      have rz := p6.val hz
      refine ⟨xs, hh, by omega, F6, rst vs env2 e6, acc ++ [z], xs ++ [y], ?_, upd_same, nF, ?_, by rw [List.length_append, List.length_singleton]; omega, rfl, hlt, q6⟩
      · -- the list that grows is nobody's
        have c7 := c2.trans cT
        have nA7 : ¬ AOf σ (rst vs env2 e6) L := fun z => nA (cT.sh.a.mp z)
        have ek : Ext H6 F6 (upd H6 L (.lst (xs ++ [y]))) F6 := ⟨fun _ h => h, fun a o ha ho => by rw [upd_ne (fun z => nF (by rw [← z]; exact ha))]; exact ho,
          fun a ys ha => by rw [upd_ne (ne_of ha hh (fun z => nomatch z))]; exact ha, fun a o u ha => by rw [upd_ne (ne_of ha hh (fun z => nomatch z))]; exact ha⟩
        refine ⟨c7.er0, ⟨c7.st.f, fun a o ha na => ?_, c7.st.new, fun a ha => ?_⟩, c7.sh, ⟨c7.er.len, fun j d' hj => ?_, fun j p d' hj => ?_, fun j ns hj => ?_, c7.er.dis, fun a ha => ?_⟩⟩
        · have na' : a ≠ L := fun z => by subst z; rw [hL] at ha; cases ha
          rw [upd_ne na']
          exact c7.st.keep a o ha na
        · by_cases e : a = L
          · subst e; rw [upd_same] at ha; cases ha
          · rw [upd_ne e] at ha; exact c7.st.live a ha
        · obtain ⟨v, q, r⟩ := c7.er.fz j d' hj
          exact ⟨v, q, r.ext ek⟩
        · obtain ⟨b, q, nb, t⟩ := c7.er.ow j p d' hj
          refine ⟨b, q, nb, t.ext ek fun o ho => ?_⟩
          rw [upd_ne (fun z => nA7 ⟨j, p, d', hj, by rw [← z]; exact q⟩)]
          exact ho
        · obtain ⟨v, q, r⟩ := c7.er.sc j ns hj
          exact ⟨v, q, r.ext ek⟩
        · by_cases e : a = L
          · subst e; rw [upd_same]; exact fun z => nomatch z
          · rw [upd_ne e]; exact c7.er.liv a ha
      · have ek : Ext H6 F6 (upd H6 L (.lst (xs ++ [y]))) F6 := ⟨fun _ h => h, fun a o ha ho => by rw [upd_ne (fun z => nF (by rw [← z]; exact ha))]; exact ho,
          fun a ys ha => by rw [upd_ne (ne_of ha hh (fun z => nomatch z))]; exact ha, fun a o u ha => by rw [upd_ne (ne_of ha hh (fun z => nomatch z))]; exact ha⟩
        exact ((r2.ext cT.e).append (.one rz)).ext ek
  · have e : i = items.length := by omega
    subst e
    rw [List.drop_length] at q2
    obtain ⟨ok, q2⟩ := q2
    refine .inl ⟨(turn ok).2 rfl, ?_⟩
    have c := c1.trans c2
    exact k _ _ _ _ _ q2 c ⟨L, rfl, c1.st.live L hL, n2, xs, h2, r2⟩
theorem de_lc (hc : X.calm = true) (hN : X.N.Nodup) (hi : DIt X tg iter ti) (ok : BlkOk X.N X.env.scope scope own)
    (hg : ∀ (s : Shared) (H : Hp) (C : Addr) (cl : List (Str × Addr)) (fp : List Addr), DGt (X.blk s H scope (compEnvC scope cl C X.env) fp) tg wr g) (ht : ∀ (s : Shared) (H : Hp) (C : Addr) (cl : List (Str × Addr)) (fp : List Addr), DTs (X.blk s H scope (compEnvC scope cl C X.env) fp) ifs tt)
    (he : ∀ (s : Shared) (H : Hp) (C : Addr) (cl : List (Str × Addr)) (fp : List Addr), DE (X.blk s H scope (compEnvC scope cl C X.env) fp) elt te) (ws : ∀ w ∈ wr, w ∈ own.map (·.2) := by decide) (hs : ∀ x, foldedSetIterable iter X.env x = pure x := by intro _; rfl) :
    DE X (.ListComp elt [⟨tg, iter, ifs, 0⟩] scope pos) (dLc (own.map (·.2)) ti g tt te) := PE.imp (pe_lc (wi := liftI X.K ti) (g := liftG X.K wr g) (tt := liftT X.K tt) (te := liftE X.K te) hc hN hi ok hg ht he hs) (lift_lc ws)
/-- name = [..] on one line, the name a local -/
theorem ds_setLc (i : Nat) {y : Str} {py spos : Pos} (hc : X.calm = true) (hN : X.N.Nodup) (hi : DIt X tg iter ti) (ok : BlkOk X.N X.env.scope scope own)
    (hg : ∀ (s : Shared) (H : Hp) (C : Addr) (cl : List (Str × Addr)) (fp : List Addr), DGt (X.blk s H scope (compEnvC scope cl C X.env) fp) tg wr g) (ht : ∀ (s : Shared) (H : Hp) (C : Addr) (cl : List (Str × Addr)) (fp : List Addr), DTs (X.blk s H scope (compEnvC scope cl C X.env) fp) ifs tt)
    (he : ∀ (s : Shared) (H : Hp) (C : Addr) (cl : List (Str × Addr)) (fp : List Addr), DE (X.blk s H scope (compEnvC scope cl C X.env) fp) elt te) (hsw : swapsWith (.ListComp elt [⟨tg, iter, ifs, 0⟩] scope pos) (some (.Name y py)) spos.line X.env = pure true)
    (hy : X.N[i]? = some y := by rfl) (hyl : X.env.scope.names.lookup y = some .local := by rfl) (ws : ∀ w ∈ wr, w ∈ own.map (·.2) := by decide) (hs : ∀ x, foldedSetIterable iter X.env x = pure x := by intro _; rfl) :
    DSt X (.Assign [.Name y py] (.ListComp elt [⟨tg, iter, ifs, 0⟩] scope pos) spos) (sSet i (dLc (own.map (·.2)) ti g tt te)) :=
  PS.imp (ps_setLc (wi := liftI X.K ti) (g := liftG X.K wr g) (tt := liftT X.K tt) (te := liftE X.K te) hc hN hy hyl hsw hi ok hg ht he hs) fun Dn σ H h => by
    have := lift_set (X := X) (te := dLc (own.map (·.2)) ti g tt te) i Dn σ H h
    exact lift_lc ws σ H _ this
theorem ds_setLcF (i : Nat) {y : Str} {py spos : Pos} (hc : X.calm = true) (hN : X.N.Nodup) (hi : DIt X tg iter ti) (ok : BlkOk X.N X.env.scope scope own)
    (hg : ∀ (s : Shared) (H : Hp) (C : Addr) (cl : List (Str × Addr)) (fp : List Addr), DGt (X.blk s H scope (compEnvC scope cl C X.env) fp) tg wr g) (ht : ∀ (s : Shared) (H : Hp) (C : Addr) (cl : List (Str × Addr)) (fp : List Addr), DTs (X.blk s H scope (compEnvC scope cl C X.env) fp) ifs tt)
    (he : ∀ (s : Shared) (H : Hp) (C : Addr) (cl : List (Str × Addr)) (fp : List Addr), DE (X.blk s H scope (compEnvC scope cl C X.env) fp) elt te) (hsw : swapsWith (.ListComp elt [⟨tg, iter, ifs, 0⟩] scope pos) (some (.Name y py)) spos.line X.env = pure true)
    (hy : X.N[i]? = some y := by rfl) (hyl : X.env.scope.names.lookup y = some .local := by rfl) (ws : ∀ w ∈ wr, w ∈ own.map (·.2) := by decide) (hs : ∀ x, foldedSetIterable iter X.env x = pure x := by intro _; rfl) :
    DSt X (.Assign [.Name y py] (.ListComp elt [⟨tg, iter, ifs, 0⟩] scope pos) spos) (sSetF i (dLc (own.map (·.2)) ti g tt te)) :=
  PS.imp (ps_setLc (wi := liftI X.K ti) (g := liftG X.K wr g) (tt := liftT X.K tt) (te := liftE X.K te) hc hN hy hyl hsw hi ok hg ht he hs) fun Dn σ H h => by
    have := lift_setF (X := X) (te := dLc (own.map (·.2)) ti g tt te) i Dn σ H h
    exact lift_lc ws σ H _ this
end
end DL
end
section
set_option Elab.async false
set_option linter.all false
set_option maxRecDepth 100000
/-! DL12: what the generated text uses. -/
namespace DL
open PySem PySem.Spec L2

section
variable {X : Cx} {a b e o : Expr} {ta tb : DT} {pos apos : Pos}
/-! comparisons as tests -/
theorem dt_eq (hu : X.A.units + 80 < cLine) (ha : DE X a ta) (hb : DE X b tb) : DTe X (.Compare a [.Eq] [b] pos) (bVal (dBin gEq ta tb)) := dt_cmp (op_eqE hu) gEq_ok ha hb (nomark _)
theorem dt_ne (hu : X.A.units + 80 < cLine) (ha : DE X a ta) (hb : DE X b tb) : DTe X (.Compare a [.NotEq] [b] pos) (bVal (dBin gNe ta tb)) := dt_cmp (op_neE hu) gNe_ok ha hb (nomark _)
theorem dt_lt (hu : X.A.units + 80 < cLine) (ha : DE X a ta) (hb : DE X b tb) : DTe X (.Compare a [.Lt] [b] pos) (bVal (dBin gLt ta tb)) := dt_cmp (op_ltD hu) gLt_ok ha hb (nomark _)
theorem dt_le (ha : DE X a ta) (hb : DE X b tb) : DTe X (.Compare a [.LtE] [b] pos) (bVal (dBin gLe ta tb)) := dt_cmp op_le gOrd_ok ha hb (nomark _)
theorem dt_gt (ha : DE X a ta) (hb : DE X b tb) : DTe X (.Compare a [.Gt] [b] pos) (bVal (dBin gGt ta tb)) := dt_cmp op_gt gOrd_ok ha hb (nomark _)
theorem dt_ge (ha : DE X a ta) (hb : DE X b tb) : DTe X (.Compare a [.GtE] [b] pos) (bVal (dBin gGe ta tb)) := dt_cmp op_ge gOrd_ok ha hb (nomark _)
theorem dt_in (hu : X.A.units + 65 < cLine) (ha : DE X a ta) (hb : DE X b tb) (hm : behindInMarks .In b = false := by rfl) : DTe X (.Compare a [.In] [b] pos) (bVal (dBin (gIn false) ta tb)) := dt_cmp ((op_inDD (units1 hu)).or (op_inS hu)) gIn_ok ha hb hm
theorem dt_notin (hu : X.A.units + 65 < cLine) (ha : DE X a ta) (hb : DE X b tb) (hm : behindInMarks .NotIn b = false := by rfl) : DTe X (.Compare a [.NotIn] [b] pos) (bVal (dBin (gIn true) ta tb)) := dt_cmp ((op_notInDD (units1 hu)).or (op_notInS hu)) gIn_ok ha hb hm
theorem dt_isN (ha : DE X a ta) (hb : DE X b tb) : DTe X (.Compare a [.Is] [b] pos) (bVal (dBin (gIs false) ta tb)) :=
  dt_cmp (r := fun x y H Q => y = .non ∧ Q (.bl (decide (x = .non) != false)) H) (fun pins s σ H x y v u Q I rx ry h => op_isN pins s σ H x y v u Q I rx ry ⟨h.1, by have := h.2; simpa using this⟩) gIs_ok ha hb (nomark _)
theorem dt_notN (ha : DE X a ta) (hb : DE X b tb) : DTe X (.Compare a [.IsNot] [b] pos) (bVal (dBin (gIs true) ta tb)) :=
  dt_cmp (r := fun x y H Q => y = .non ∧ Q (.bl (decide (x = .non) != true)) H) (fun pins s σ H x y v u Q I rx ry h => op_notN pins s σ H x y v u Q I rx ry ⟨h.1, by have := h.2; simpa using this⟩) gIs_ok ha hb (nomark _)
/-! minus -/
def gNeg : D → Option O
  | .int i => some (.fz (.int (-i)))
  | _ => none
theorem gNeg_ok {K : PySem.W.Frag} : R1Ok K (rU fun i => .int (-i)) gNeg := by
  intro σ H F env x a o Q er oa hg f
  unfold gNeg at hg
  split at hg
  · cases hg
    cases oa.int
    exact ⟨_, rfl, f.fz er (.int _)⟩
  · cases hg
theorem de_neg (ha : DE X a ta) : DE X (.UnaryOp .USub a pos) (dUn gNeg ta) := de_un un_neg gNeg_ok ha
end

/-! ### methods of built-in types that only read -/
def dMt (g : D → List D → Option O) (ck : D → Bool) (te : DT) (ta : DA) : DT := fun env Q => te env fun o e1 => ∃ d0, o.get e1 = some d0 ∧ ck d0 = true ∧ ta e1 fun os e2 => ∃ d ds z, o.get e2 = some d ∧ getsO e2 os = some ds ∧ g d ds = some z ∧ Q z e2
def MOk (K : PySem.W.Frag) (r : V → List V → Hp → VK → Prop) (g : D → List D → Option O) : Prop := ∀ σ H F env x d vs ds o Q, ER K σ H F env → Ob K H F x d → Paired (fun v d => Ob K H F v d) vs ds → g d ds = some o → Fin K σ H F env Q o → r x vs H Q
def isTupD : D → Bool
  | .tuple _ => true
  | _ => false
def isLstD : D → Bool
  | .list _ => true
  | _ => false
def isStrD : D → Bool
  | .str _ => true
  | _ => false
theorem lift_mt {K : PySem.W.Frag} {T : String} {r : V → List V → Hp → VK → Prop} {g : D → List D → Option O} {ck : D → Bool} {te : DT} {ta : DA} (hg : MOk K r g) (hty : ∀ H F v d, Ob K H F v d → ck d = true → tyV K T v H) : ∀ σ H Q, liftE K (dMt g ck te ta) σ H Q → tBM K T r (liftE K te) (liftA K ta) σ H Q := fun σ H Q h => by
  obtain ⟨F, env, R, er, q, k⟩ := h
  refine lift_op (.refl er) q fun o1 e1 x H1 F1 h1 c1 _ p1 => ?_
  obtain ⟨d0, g0, hc, q1⟩ := h1
  refine ⟨hty _ _ _ _ (p1.ob c1.er g0) hc, ?_⟩
  refine lift_arg c1 q1 fun os e2 vs H2 F2 h2 c2 c12 rr => ?_
  obtain ⟨d, ds, z, gd, gs, gz, q2⟩ := h2
  exact hg σ H2 F2 e2 x d vs ds z Q c2.er ((p1.cur c12).ob c2.er gd) (gets_ob c2.er rr gs) gz (c2.fin q2 k)
theorem ty_lst {K : PySem.W.Frag} : ∀ H F v d, Ob K H F v d → isLstD d = true → tyV K "list" v H := fun H F v d h c => by
  cases d <;> first | (cases c; done) | skip
  obtain ⟨a, xs, rfl, ha, _⟩ := h.list
  exact .inl ⟨rfl, xs, .of ha⟩
theorem lift_tm {K : PySem.W.Frag} {r : V → List V → Hp → VK → Prop} {g : D → List D → Option O} {te : DT} {ta : DA} (hg : MOk K r g) : ∀ σ H Q, liftE K (dMt g isTupD te ta) σ H Q → tTM r (liftE K te) (liftA K ta) σ H Q := fun σ H Q h => by
  obtain ⟨F, env, R, er, q, k⟩ := h
  refine lift_op (.refl er) q fun o1 e1 x H1 F1 h1 c1 _ p1 => ?_
  obtain ⟨d0, g0, hc, q1⟩ := h1
  refine ⟨by
    have ob := p1.ob c1.er g0
    cases d0 <;> first | (cases hc; done) | skip
    obtain ⟨a, xs, e, ha, _⟩ := ob.tuple
    exact ⟨a, xs, e, ha⟩, ?_⟩
  refine lift_arg c1 q1 fun os e2 vs H2 F2 h2 c2 c12 rr => ?_
  obtain ⟨d, ds, z, gd, gs, gz, q2⟩ := h2
  exact hg σ H2 F2 e2 x d vs ds z Q c2.er ((p1.cur c12).ob c2.er gd) (gets_ob c2.er rr gs) gz (c2.fin q2 k)

/-! t.index(x), texts in a tuple -/
def strsD : List D → Option (List Str)
  | [] => some []
  | .str b :: r => (strsD r).map (b :: ·)
  | _ => none
theorem strsD_eq : ∀ {ds : List D} {bs : List Str}, strsD ds = some bs → ds = bs.map .str
  | [], bs, h => by cases h; rfl
  | .str b :: r, bs, h => by
    obtain ⟨l, h1, rfl⟩ := Option.map_eq_some_iff.mp (show (strsD r).map (b :: ·) = some bs from h)
    rw [strsD_eq h1]; rfl
theorem strsD_map : ∀ bs : List Str, strsD (bs.map .str) = some bs
  | [] => rfl
  | b :: r => by show (strsD (r.map .str)).map (b :: ·) = _; rw [strsD_map r]; rfl
def gIndexT : D → List D → Option O
  | .tuple ds, [.str z] => match strsD ds with
    | some ys => (ys.findIdx? fun y => decide (y = z)).map fun j => .fz (.int (j : Nat))
    | none => none
  | _, _ => none
def rIndexT (K : PySem.W.Frag) : V → List V → Hp → VK → Prop := fun x xs H Q => ∃ p, ∃ ys : List Str, ∃ z j, x = .ref p ∧ xs = [.str z] ∧ SqT K H p (ys.map V.str) ∧ ys[j]? = some z ∧ (∀ m, m < j → ys[m]? ≠ some z) ∧ Q (.int (j : Nat)) H
theorem gIndexT_ok {K : PySem.W.Frag} : MOk K (rIndexT K) gIndexT := by
  intro σ H F env x d vs ds o Q er od os hg f
  unfold gIndexT at hg
  split at hg
  · rename_i ds' z
    cases e : strsD ds' with
    | none => rw [e] at hg; cases hg
    | some ys =>
      rw [e] at hg
      obtain ⟨j, hj, rfl⟩ := Option.map_eq_some_iff.mp hg
      obtain ⟨v, rfl, rv⟩ := ob1 os
      cases rv.str
      obtain ⟨a, xs, rfl, ha, r⟩ := od.tuple
      rw [strsD_eq e] at r
      rw [r.strsV] at ha
      obtain ⟨h1, h2, h3⟩ := List.findIdx?_eq_some_iff_getElem.mp hj
      refine ⟨a, ys, z, j, rfl, rfl, ha.sq, ?_, fun m hm hz => ?_, f.fz er (.int _)⟩
      · rw [List.getElem?_eq_getElem h1, of_decide_eq_true h2]
      · have hl : m < ys.length := by omega
        rw [List.getElem?_eq_getElem hl] at hz
        have := h3 m hm
        simp only [Option.some.injEq] at hz
        simp [hz] at this
  · cases hg

/-! ### a def by its name -/
structure Fn (P : Program) (w : World) (K : PySem.W.Frag) (mg : Str → Option Value) (base : Heap) (lvl : Nat) (x : Str) (ps : List Str) (sp : SpD) : Prop where
  ex : ∃ f fd, mg x = some (.ref f) ∧ PySem.W.keepIn K (.ref f) = true ∧ Binds K fd ps [] ∧ FnG P w K mg base CX0 lvl f fd ps (liftF K sp)
theorem FnG.mono {P : Program} {w : World} {K : PySem.W.Frag} {mg : Str → Option Value} {base : Heap} {CX : CXT} {j k : Nat} {f : Addr} {fd : FuncData} {ps : List Str} {sp : Sp} (F : FnG P w K mg base CX j f fd ps sp) (h : j ≤ k) : FnG P w K mg base CX k f fd ps sp :=
  ⟨F.ln, fun A outer s H args us vs Q E gd hr => F.go A outer s H args us vs Q E gd (hr.mono h)⟩
section
variable {X : Cx} {j k : Nat} {x : Str} {ps : List Str} {sp : SpD} {p pos : Pos} {e : Expr} {es : List Expr} {ta : DA}
theorem de_fn (F : Fn X.prog X.w X.K X.mg X.base j x ps sp) (gd : X.A.guards = some []) (hr : Room k X.A) (ha : DAr X (e :: es) ta) (hjk : j ≤ k := by decide) (hg : Gl X x := by rfl) (hdb : (x == ("__debug__" : Str)) = false := by decide)
    (he : starEach (e :: es) X.env = (false, eval e X.env) :: starEach es X.env := by rfl) (hpl : (backTo pos (starEach es X.env)).any (·.1) = false := by rfl) : DE X (.Call (.Name x p) (e :: es) [] pos) (dCall sp ta) := by
  obtain ⟨f, fd, h1, h2, h3, h4⟩ := F.ex
  exact de_call gd h4 (hr.mono hjk) h1 h2 h3 ha hg hdb he hpl
end
/-- the built-ins' names are not bound by the module -/
structure Blt (mg : Str → Option Value) : Prop where
  all : ∀ x ∈ (["len", "list", "tuple", "int", "abs", "min", "max", "all", "any", "sum", "range", "sorted", "repr", "dict", "enumerate", "zip", "isinstance", "set", "str", "bool"] : List Str), mg x = none
theorem Room.u64 {k : Nat} {A : Around} (r : Room k A) : A.units + 64 < cLine := by have := r.un; omega
theorem Room.u65 {k : Nat} {A : Around} (r : Room k A) : A.units + 65 < cLine := by have := r.un; omega
theorem Room.u80 {k : Nat} {A : Around} (r : Room k A) : A.units + 80 < cLine := by have := r.un; omega
theorem Room.u1 {k : Nat} {A : Around} (r : Room k A) : A.units + 1 < cLine := by have := r.un; omega
end DL
end
section
set_option Elab.async false
set_option linter.all false
set_option maxRecDepth 100000
/-! DL11: owned lists and dicts written to; names op= ..; methods without arguments. -/
namespace DL
open PySem PySem.Spec L2

/-! ### x.m() -/
section
variable {X : Cx} {r : V → List V → Hp → VK → Prop} {g : List D → List D → Option (O × List D)}
theorem lift_mutL0 {K : PySem.W.Frag} (i : Nat) (hg : MLOk K r g) : ∀ σ H Q, liftE K (dMutL i g aNil) σ H Q → tBM0 K "list" r (tVar i) σ H Q := fun σ H Q h => by
  obtain ⟨F, env, R, er, ⟨ds0, h0, q⟩, k⟩ := h
  obtain ⟨ds, es, o, ds', hd, hv, hgo, q1⟩ := (show ∃ ds es o ds', _ from q)
  obtain ⟨p1, hd⟩ := owL_ok hd
  obtain ⟨a, ea, nf, xs, hx, rx⟩ := er.ow i _ _ hd
  refine ⟨.ref a, ea, .inl ⟨rfl, xs, .of hx⟩, ?_⟩
  cases hv
  refine hg H F a xs ds [] [] o ds' Q hx rx .nil hgo fun v xs' ⟨d, eo, rd⟩ rx' => ?_
  have c2 := mut_lst er hd ea rx'
  have : putO env i (.list ds') = env.set i (.ow p1 (.list ds')) := by unfold putO; rw [hd]
  rw [this] at q1
  subst eo
  exact k _ _ _ _ _ q1 c2 (rd.ext c2.e)
end

/-! ### x[k] = v -/
/-- a dict's data written to -/
def dset (kvs : List (D × D)) (k v : D) : List (D × D) :=
  if (kvs.any fun p => PyData.eqv p.1 k) = true then kvs.map (fun p => if PyData.eqv p.1 k = true then (p.1, v) else p) else kvs ++ [(k, v)]
def gSto : D → D → D → Option D
  | .list ds, .int i, v => (ixN ds.length i).map fun j => .list (ds.set j v)
  | .dict kvs, k, v => match keyK k with
    | some _ => if kvs.length < sizeLine then some (.dict (dset kvs k v)) else none
    | none => none
  | _, _, _ => none
/-- what slot i owns -/
def owC (env : SEnv) (i : Nat) : Option D := match env[i]? with
  | some (.ow _ d) => some d
  | _ => none
theorem owC_ok {env : SEnv} {i : Nat} {d : D} (h : owC env i = some d) : ∃ p, env[i]? = some (.ow p d) := by
  unfold owC at h
  split at h
  · rename_i p d' e; cases h; exact ⟨p, e⟩
  · cases h
def rSet2 : TSet := fun o i v H Q => rSetL o i v H Q ∨ rSetD o i v H Q
theorem set_two {X : Cx} (hu : X.A.units + 1 < cLine) : PSet X rSet2 := by
  intro pins s σ H o i v ov iv u Q I ro ri rv h
  rcases h with h | h
  · exact set_list pins s σ H o i v ov iv u Q I ro ri rv h
  · exact set_dict hu pins s σ H o i v ov iv u Q I ro ri rv h
section
variable {K : PySem.W.Frag} {H : Hp} {F : Fz}
theorem dic_put_keys {kvs : List (D × D)} {l : List (Key × V)} (e : kvs.map Prod.fst = l.map (fun p => keyD p.1)) (k : Key) (d : D) (v : V) : (dset kvs (keyD k) d).map Prod.fst = (putK l k v).map (fun p => keyD p.1) := by
  have ha : ∀ (kvs : List (D × D)) (l : List (Key × V)), kvs.map Prod.fst = l.map (fun p => keyD p.1) → (kvs.any fun p => PyData.eqv p.1 (keyD k)) = (l.any fun p => decide (p.1 = k)) := by
    intro kvs
    induction kvs with
    | nil => intro l e; cases l <;> simp at e ⊢
    | cons p r ih =>
      intro l e
      cases l with
      | nil => simp at e
      | cons q l =>
        simp only [List.map_cons, List.cons.injEq] at e
        rw [List.any_cons, List.any_cons, ih l e.2, e.1, eqv_key]
  have hm1 : (kvs.map (fun p => if PyData.eqv p.1 (keyD k) = true then (p.1, d) else p)).map Prod.fst = kvs.map Prod.fst := by
    rw [List.map_map]
    exact List.map_congr_left fun p _ => by simp only [Function.comp]; split <;> rfl
  have hm2 : (l.map (fun kv => if kv.1 = k then (kv.1, v) else kv)).map (fun p => keyD p.1) = l.map (fun p => keyD p.1) := by
    rw [List.map_map]
    exact List.map_congr_left fun p _ => by simp only [Function.comp]; split <;> rfl
  unfold dset putK
  rw [ha kvs l e]
  split
  · rw [hm1, hm2, e]
  · rw [List.map_append, List.map_append, e]; rfl
theorem dic_put_vals {k : Key} {d : D} {v : V} (rv : Rp K H F d v) : ∀ {kvs : List (D × D)} {l : List (Key × V)}, kvs.map Prod.fst = l.map (fun p => keyD p.1) → RpL K H F (kvs.map Prod.snd) (l.map (·.2)) → RpL K H F ((dset kvs (keyD k) d).map Prod.snd) ((putK l k v).map (·.2)) := by
  intro kvs l e r
  have ha : ∀ (kvs : List (D × D)) (l : List (Key × V)), kvs.map Prod.fst = l.map (fun p => keyD p.1) → (kvs.any fun p => PyData.eqv p.1 (keyD k)) = (l.any fun p => decide (p.1 = k)) := by
    intro kvs
    induction kvs with
    | nil => intro l e; cases l <;> simp at e ⊢
    | cons p r ih =>
      intro l e
      cases l with
      | nil => simp at e
      | cons q l =>
        simp only [List.map_cons, List.cons.injEq] at e
        rw [List.any_cons, List.any_cons, ih l e.2, e.1, eqv_key]
  have hm : ∀ (kvs : List (D × D)) (l : List (Key × V)), kvs.map Prod.fst = l.map (fun p => keyD p.1) → RpL K H F (kvs.map Prod.snd) (l.map (·.2)) → RpL K H F ((kvs.map (fun p => if PyData.eqv p.1 (keyD k) = true then (p.1, d) else p)).map Prod.snd) ((l.map (fun kv => if kv.1 = k then (kv.1, v) else kv)).map (·.2)) := by
    intro kvs
    induction kvs with
    | nil => intro l e r; cases l <;> simp at e ⊢; exact .nil
    | cons p kvs ih =>
      intro l e r
      cases l with
      | nil => simp at e
      | cons q l =>
        simp only [List.map_cons, List.cons.injEq] at e r ⊢
        cases r with
        | cons r1 r2 =>
          refine .cons ?_ (ih l e.2 r2)
          rw [e.1, eqv_key]
          by_cases h : q.1 = k
          · simp [h]; exact rv
          · simp [h]; exact r1
  unfold dset putK
  rw [ha kvs l e]
  split
  · exact hm kvs l e r
  · rw [List.map_append, List.map_append]
    exact r.append (.cons rv .nil)
/-- the store, by data -/
theorem sto_ok {σ : L2.St} {env : SEnv} {i : Nat} {p : Bool} {c c' k v : D} {a : Addr} {y x : V} {Q : Hp → Prop} (er : ER K σ H F env) (h : env[i]? = some (.ow p c)) (ha : σ[i]? = some (some (V.ref a))) (ok : Ob K H F y k) (rv : Rp K H F v x)
    (hg : gSto c k v = some c') (q : ∀ H', Cur K σ H F env H' F (env.set i (.ow p c')) → Q H') : rSet2 (.ref a) y x H Q := by
  obtain ⟨b, eb, nf, t⟩ := er.ow i _ _ h
  rw [ha] at eb; cases eb
  unfold gSto at hg
  split at hg
  · rename_i ds j
    obtain ⟨n, hn, rfl⟩ := Option.map_eq_some_iff.mp hg
    obtain ⟨xs, hx, r⟩ := t
    cases ok.int
    exact .inl ⟨a, xs, j, n, rfl, rfl, hx, by rw [← r.length]; exact hn, q _ (mut_lst er h ha (r.set n rv))⟩
  · rename_i kvs
    split at hg
    · rename_i kk ek
      split at hg
      · rename_i hl
        cases hg
        obtain ⟨vs, ⟨l, hx, e1, e2⟩, r⟩ := t
        subst e2
        have ey := ok.key ek
        subst ey
        have e3 := keyK_eq ek
        subst e3
        have hl' : l.length < sizeLine := by
          have := congrArg List.length e1
          simp only [List.length_map] at this
          omega
        refine .inr ⟨a, _, rfl, DPut.k hx hl', q _ (mut_cur er h ha fun ex => ⟨_, ⟨putK l kk x, upd_same, dic_put_keys e1 kk v x, rfl⟩, ?_⟩)⟩
        exact (dic_put_vals rv e1 r).ext ex
      · cases hg
    · cases hg
  · cases hg
end
def sSto (i : Nat) (tk tv : DT) : DS := fun env E => tv env fun o e1 => ∃ v, o.val = some v ∧ (owC e1 i).isSome = true ∧ tk e1 fun o2 e2 => ∃ k c c', o2.get e2 = some k ∧ owC e2 i = some c ∧ gSto c k v = some c' ∧ E.nx (putO e2 i c')
section
variable {X : Cx} {x : Str} {p pt pos : Pos} {ek ev : Expr} {tk tv : DT}
theorem ds_sto (i : Nat) (hu : X.A.units + 1 < cLine) (hk : DE X ek tk) (hv : DE X ev tv) (hN : X.N[i]? = some x := by rfl) (hx : Vis X.env.scope x := by first | exact Or.inl rfl | exact Or.inr (Or.inl rfl) | exact Or.inr (Or.inr rfl)) (hd : (x == ("__debug__" : Str)) = false := by decide) (hcd : (x == ("__classdict__" : Str)) = false := by decide)
    (ha : ∀ v, assign (.Subscript (.Name x p) ek pt) X.env v = (do
      let ov ← holding [v] (eval (.Name x p) X.env)
      let iv ← holding [v, ov] (eval ek X.env)
      standAt pt
      holding [v, ov, iv] (setItem ov iv v)
      release [v, ov, iv] []) := by intro _; rfl)
    (hs : swapsWithSole [.Subscript (.Name x p) ek pt] ev pos.line X.env = pure false := by rfl) (hw : swappedStores [.Subscript (.Name x p) ek pt] ev X.env = pure none := by rfl)
    (hq : (assignEach [.Subscript (.Name x p) ek pt] X.env).map (·.2) = [assign (.Subscript (.Name x p) ek pt) X.env] := by rfl) :
    DSt X (.Assign [.Subscript (.Name x p) ek pt] ev pos) (sSto i tk tv) := PS.imp (ps_asg hv (pg_sub (pv i hN hx hd hcd) hk (set_two hu) ha) hs hw hq) fun Dn σ H h => by
  obtain ⟨F, env, E, er, q, k⟩ := h
  refine lift_op (.refl er) q fun o1 e1 v H1 F1 h1 c1 _ p1 => ?_
  obtain ⟨d, hd, ho, q1⟩ := h1
  obtain ⟨c0, hc0⟩ := Option.isSome_iff_exists.mp ho
  obtain ⟨p0, h0⟩ := owC_ok hc0
  obtain ⟨a, ea, _⟩ := c1.er.ow i _ _ h0
  refine ⟨.ref a, ea, ?_⟩
  refine lift_op (.refl c1.er) q1 fun o2 e2 y H2 F2 h2 c2 _ p2 => ?_
  obtain ⟨kk, c, c', gk, gc, gs, q2⟩ := h2
  obtain ⟨p3, h3⟩ := owC_ok gc
  have rv := (p1.cur c2).val hd
  refine sto_ok c2.er h3 ea (p2.ob c2.er gk) rv gs fun H' c3 => ?_
  have : putO e2 i c' = e2.set i (.ow p3 c') := by unfold putO; rw [h3]
  rw [this] at q2
  exact k.nx _ _ _ _ q2 ((c1.trans (c2.trans c3)).s)
/-! x[k] op= v -/
def rGet2 (K : PySem.W.Frag) : V → V → Hp → VK → Prop := fun o i H Q => rIxL K o i H Q ∨ ∃ a v, o = .ref a ∧ DGet H a i (some v) ∧ Q v H
theorem get_two (hu : X.A.units + 1 < cLine) : PGet X (rGet2 X.K) := by
  intro pins s σ H o i ov iv Q I ro ri h
  rcases h with h | ⟨a, v, rfl, g, q⟩
  · obtain ⟨p, xs, i, z, rfl, rfl, hq, he, q⟩ := h
    cases ro
    obtain ⟨t, rfl⟩ := ri
    obtain ⟨its, r, pl, hz⟩ := I.list hq
    obtain ⟨j, h1, h2, h3, h4, h5⟩ := atI_get he
    obtain ⟨w, ew, rw'⟩ := r.get h2
    have hl := r.length
    have hn := line63
    have fin : EP X pins σ Q w s := ⟨z, H, I, rw', q⟩
    by_cases h0 : 0 ≤ i
    · have hj : i.toNat = j := by
        rw [seqIndex_of h0 h5] at h1
        exact Option.some.inj h1
      exact wpAny_getItem_list pl.isList h0 (by omega) (by rw [hj]; simpa using ew) fin
    · have hj : (i + (its.toArray.size : Int)).toNat = j := by
        rw [seqIndex_neg (by omega) h4] at h1
        rw [List.size_toArray, ← hl]
        exact Option.some.inj h1
      exact wpAny_getItem_list_neg pl.isList (by omega) (by rw [List.size_toArray] <;> omega) (by omega) (by rw [hj]; simpa using ew) fin
  · cases ro
    exact d_getItem hu I g ri fun w' s' I' rw' => ⟨v, H, I', rw', q⟩
/-- a value at a key -/
def gAt : D → D → Option D
  | .list ds, .int i => L2.atI ds i
  | .dict kvs, k => match keyK k with
    | some _ => dget kvs k
    | none => none
  | _, _ => none
def sStoA (i : Nat) (f : Int → Int → Int) (tk tv : DT) : DS := fun env E => (owC env i).isSome = true ∧ tk env fun o1 e1 => ∃ k c n, o1.get e1 = some k ∧ owC e1 i = some c ∧ gAt c k = some (.int n) ∧ tv e1 fun o2 e2 => ∃ m c2 c', o2 = .fz (.int m) ∧ o1.get e2 = some k ∧ owC e2 i = some c2 ∧ gSto c2 k (.int (f n m)) = some c' ∧ E.nx (putO e2 i c')
theorem ds_stoA (i : Nat) {op : Operator} {f : Int → Int → Int} (hop : PIp X op (ipI f)) (hu : X.A.units + 1 < cLine) (hk : DE X ek tk) (hv : DE X ev tv) (hN : X.N[i]? = some x := by rfl) (hx : Vis X.env.scope x := by first | exact Or.inl rfl | exact Or.inr (Or.inl rfl) | exact Or.inr (Or.inr rfl)) (hd : (x == ("__debug__" : Str)) = false := by decide) (hcd : (x == ("__classdict__" : Str)) = false := by decide)
    (ha : ∀ ov iv new, augStore ek ov iv new = (do holding [new, ov, iv] (setItem ov iv new); release [new, ov, iv] []; pure .next) := by intros; rfl) :
    DSt X (.AugAssign (.Subscript (.Name x p) ek pt) op ev pos) (sStoA i f tk tv) := PS.imp (ps_augS (pv i hN hx hd hcd) hk (get_two hu) hv hop (set_two hu) ha) fun Dn σ H h => by
  obtain ⟨F, env, E, er, ⟨ho, q⟩, k⟩ := h
  obtain ⟨c0, hc0⟩ := Option.isSome_iff_exists.mp ho
  obtain ⟨p0, h0⟩ := owC_ok hc0
  obtain ⟨a, ea, _⟩ := er.ow i _ _ h0
  refine ⟨.ref a, ea, ?_⟩
  refine lift_op (.refl er) q fun o1 e1 y H1 F1 h1 c1 _ p1 => ?_
  obtain ⟨kk, c, n, gk, gc, gn, q1⟩ := h1
  obtain ⟨p1', h1⟩ := owC_ok gc
  obtain ⟨b, eb, _, t⟩ := c1.er.ow i _ _ h1
  rw [ea] at eb; cases eb
  have ob := p1.ob c1.er gk
  have got : ∀ Q' : VK, Q' (.int n) H1 → rGet2 X.K (.ref a) y H1 Q' := fun Q' hQ => by
    unfold gAt at gn
    split at gn
    · rename_i ds j
      obtain ⟨xs, hx, r⟩ := t
      obtain ⟨z, hz, rz⟩ := r.atI gn
      cases rz
      cases ob.int
      exact .inl ⟨a, xs, _, _, rfl, rfl, .of hx, hz, hQ⟩
    · rename_i kvs
      split at gn
      · rename_i kk2 ek2
        obtain ⟨vs, hx, r⟩ := t
        obtain ⟨o, g, z1, _⟩ := dic_get hx.r r ob ek2
        obtain ⟨w, rfl, rw'⟩ := z1 _ gn
        cases rw'
        exact .inr ⟨a, _, rfl, g, hQ⟩
      · cases gn
    · cases gn
  refine got _ ?_
  refine lift_op (.refl c1.er) q1 fun o2 e2 x2 H2 F2 h2 c2 _ p2 => ?_
  obtain ⟨m, c2', c', rfl, gk2, gc2, gs, q2⟩ := h2
  cases (show Rp _ _ _ _ _ from p2)
  refine ⟨n, m, rfl, rfl, ?_⟩
  obtain ⟨p3, h3⟩ := owC_ok gc2
  refine sto_ok c2.er h3 ea ((p1.cur c2).ob c2.er gk2) (.int _) gs fun H' c3 => ?_
  have : putO e2 i c' = e2.set i (.ow p3 c') := by unfold putO; rw [h3]
  rw [this] at q2
  exact k.nx _ _ _ _ q2 ((c1.trans (c2.trans c3)).s)
/-! name op= v, ints -/
def sAugI (i : Nat) (f : Int → Int → Int) (tv : DT) : DS := fun env E => ∃ n, env[i]? = some (.fz (.int n)) ∧ tv env fun o e1 => ∃ m, o = .fz (.int m) ∧ notPin e1 i = true ∧ E.nx (e1.set i (.fz (.int (f n m))))
theorem ds_augI (i : Nat) {op : Operator} {f : Int → Int → Int} (hop : PIp X op (ipI f)) (hN : X.N.Nodup) (hv : DE X ev tv) (hi : X.N[i]? = some x := by rfl) (hx : Loc X.env.scope x := by first | exact .inl rfl | exact .inr rfl) (hf : X.fn x = true ∨ X.env.scope.names.lookup x = some .local := by first | exact .inl rfl | exact .inr rfl) :
    DSt X (.AugAssign (.Name x p) op ev pos) (sAugI i f tv) := PS.imp (ps_aug hN hi hx hv hop hf) fun Dn σ H h => by
  obtain ⟨F, env, E, er, ⟨n, hn, q⟩, k⟩ := h
  obtain ⟨v, ev, rv⟩ := er.fz i _ hn
  cases rv
  refine ⟨_, ev, ?_⟩
  refine lift_op (.refl er) q fun o2 e1 x2 H1 F1 h1 c1 _ p2 => ?_
  obtain ⟨m, rfl, np, q1⟩ := h1
  cases (show Rp _ _ _ _ _ from p2)
  refine ⟨n, m, rfl, rfl, ?_⟩
  exact k.nx _ _ _ _ q1 (set_cur (o := .fz (.int (f n m))) c1.s (.int _) (fun _ _ z => nomatch z) rfl np)
end
end DL
end
section
set_option Elab.async false
set_option linter.all false
set_option maxRecDepth 100000
/-! DL13: walks of zip(a, b), enumerate(a), a and b lists or tuples that stay. -/
namespace DL
open PySem PySem.Spec L2

/-- what is walked: a list, a tuple -/
inductive Sk where
  | l
  | t
def SkAt (K : PySem.W.Frag) (H : Hp) (a : Addr) (xs : List V) : Sk → Prop
  | .l => SqL K H a xs
  | .t => SqT K H a xs
def SkIt (h : Heap) (it a : Addr) (i : Nat) : Sk → Prop
  | .l => h.IsListIter it a i
  | .t => h.IsTupleIter it a i
def SkPl (h : Heap) (a : Addr) (its : Array Value) : Sk → Prop
  | .l => h.IsList a its
  | .t => h.IsTuple a its
def skObj (a : Addr) : Sk → Obj
  | .l => { cls := .type "list_iterator", data := .fields #[.ref a, .int 0 0] }
  | .t => { cls := .type "tuple_iterator", data := .fields #[.ref a, .int 0 0] }
theorem sk_begins (k : Sk) (a : Addr) (its : Array Value) : Begins (.ref a) (skObj a k) (fun h => SkPl h a its k) := by
  cases k
  · exact begins_list a its
  · exact begins_tuple a its
theorem sk_draws {prog : Program} {w : World} {A : Around} (hh : A.handled = none) (k : Sk) (it a : Addr) (hne : a ≠ it) (its : Array Value) : Draws prog w A it [it, a] its.size (fun i v => its[i]? = some v) (fun i h => SkIt h it a i k ∧ SkPl h a its k) := by
  cases k
  · exact Draws.list hh it a hne its
  · exact Draws.tuple hh it a hne its
theorem sk_first {h : Heap} {it a : Addr} {k : Sk} (e : h.get? it = some (skObj a k)) : SkIt h it a 0 k := by
  cases k
  · exact ⟨_, e, rfl, rfl⟩
  · exact ⟨_, e, rfl, rfl⟩
theorem sk_at {h h' : Heap} {it a : Addr} {i : Nat} {k : Sk} (x : SkIt h it a i k) (e : ∀ o, h.get? it = some o → h'.get? it = some o) : SkIt h' it a i k := by
  cases k
  · exact Heap.IsListIter.at x e
  · exact Heap.IsTupleIter.at x e
theorem sk_obj {h : Heap} {it a : Addr} {i : Nat} {k : Sk} (x : SkIt h it a i k) : ∃ o, h.get? it = some o ∧ ∀ v, o.data ≠ .cell v := by
  cases k <;>
  · obtain ⟨o, e, _, d⟩ := x
    exact ⟨o, e, fun v z => by rw [d] at z; cases z⟩
section
variable {X : Cx} {pins : List (Addr × Obj)} {σ : L2.St} {H : Hp} {s : Shared}
theorem sk_get (I : Inv X pins σ H s) {a : Addr} {xs : List V} {k : Sk} (h : SkAt X.K H a xs k) : ∃ its : List Value, Vals xs its ∧ SkPl s.heap a its.toArray k := by
  cases k
  · obtain ⟨its, r, p, _⟩ := I.list h; exact ⟨its, r, p.isList⟩
  · obtain ⟨its, r, p, _⟩ := I.tuple h; exact ⟨its, r, p⟩
theorem sk_inj (I : Inv X pins σ H s) {a : Addr} {xs ys : List V} {k : Sk} (h : SkAt X.K H a xs k) (h' : SkAt X.K H a ys k) : xs = ys := by
  cases k
  · exact I.list_inj h h'
  · exact I.tuple_inj h h'
theorem sk_lt {h : Heap} {a : Addr} {its : Array Value} {k : Sk} (p : SkPl h a its k) : a < h.objs.size := by
  cases k
  · obtain ⟨_, e, _⟩ := p; exact Heap.lt_size e
  · obtain ⟨_, e, _⟩ := p; exact Heap.lt_size e
end

/-! ### zip -/
def ItzK (K : PySem.W.Frag) (k l : Sk) (a b : Addr) : It where
  go := fun i H => ∃ xs ys, SkAt K H a xs k ∧ SkAt K H b ys l ∧ i < xs.length ∧ i < ys.length
  yld := fun i H v H' => ∃ (T : Addr) (o : Obj) (x y : V), v = .ref T ∧ o.dict = none ∧ H T = none ∧ H' = upd H T (.frz o (.tup [x, y])) ∧ (∀ xs, SkAt K H a xs k → xs[i]? = some x) ∧ ∀ ys, SkAt K H b ys l → ys[i]? = some y
  stop := fun i H => ∃ xs ys, SkAt K H a xs k ∧ SkAt K H b ys l ∧ i = min xs.length ys.length
/-- the cells of such a walk -/
structure ZSep (z p q i j a b : Addr) : Prop where
  s : ZipSep2 z p q i j [i, a] [j, b]
  ai : a ≠ i
  bj : b ≠ j
theorem turn_zipK {P : Program} {w : World} {K : PySem.W.Frag} {es : List Expr} {kk : Nat} {tpos : Pos} {k l : Sk} {a b z p q i j : Addr} (Z : ZSep z p q i j a b) :
    Turn P w K (.Tuple es kk tpos) (ItzK K k l a b) [z, p, q, i, j] z (fun n h => IsZip h z p q .none ∧ IsTupOf2 h p (.ref i) (.ref j) ∧ (∃ x y, IsTupOf2 h q x y) ∧ SkIt h i a n k ∧ SkIt h j b n l) where
  mem := List.mem_cons_self ..
  obj := fun n h st c hc => by
    obtain ⟨hz, hp, ⟨x, y, hq⟩, h1, h2⟩ := st
    have hc : c = z ∨ c = p ∨ c = q ∨ c = i ∨ c = j := by simpa using hc
    rcases hc with rfl | rfl | rfl | rfl | rfl
    · exact ⟨_, hz, fun _ e => nomatch e⟩
    · exact ⟨_, hp, fun _ e => nomatch e⟩
    · exact ⟨_, hq, fun _ e => nomatch e⟩
    · exact sk_obj h1
    · exact sk_obj h2
  keep := fun n h h' st kp => by
    obtain ⟨hz, hp, ⟨x, y, hq⟩, h1, h2⟩ := st
    exact ⟨kp z (by simp) _ hz, kp p (by simp) _ hp, ⟨x, y, kp q (by simp) _ hq⟩, sk_at h1 fun o e => kp i (by simp) o e, sk_at h2 fun o e => kp j (by simp) o e⟩
  item := by
    intro X hP hw hK hc n pins s σ H E I hf st hg
    subst hP hw hK
    obtain ⟨hz, hp, ⟨x0, y0, hq⟩, h1, h2⟩ := st
    obtain ⟨xs, ys, hx, hy, lx, ly⟩ := hg
    obtain ⟨us, ru, pu⟩ := sk_get I hx
    obtain ⟨ws, rw', pw⟩ := sk_get I hy
    have zl : z < s.heap.objs.size := Heap.lt_size hz
    have eu : us.length = xs.length := ru.length.symm
    have ew : ws.length = ys.length := rw'.length.symm
    have D1 := sk_draws (prog := X.prog) (w := X.w) (A := X.A.in1) (I.ok.hd hc) k i a Z.ai us.toArray
    have D2 := sk_draws (prog := X.prog) (w := X.w) (A := X.A.in1) (I.ok.hd hc) l j b Z.bj ws.toArray
    refine wpAny_pyNext_zipD2_item Z.s D1 D2 hz hp hq ⟨h1, pu⟩ ⟨h2, pw⟩ (by rw [List.size_toArray, eu]; exact lx) (by rw [List.size_toArray, ew]; exact ly) fun u1 u2 h' tk y1 y2 b1 b2 d1 d2 b5 b6 b7 => ?_
    refine ⟨_, rfl, wpAny_letOwnedTupleGo_zip (s := { s with heap := h', toks := tk }) b1 fun h2' z2 sb => ?_⟩
    obtain ⟨v1, e1, r1⟩ : ∃ v, xs[n]? = some v ∧ RelV v u1 := by
      obtain ⟨u', hu', r'⟩ := ru.get (List.getElem?_eq_getElem lx)
      rw [List.getElem?_toArray] at y1
      rw [hu'] at y1; cases y1
      exact ⟨_, List.getElem?_eq_getElem lx, r'⟩
    obtain ⟨v2, e2, r2⟩ : ∃ v, ys[n]? = some v ∧ RelV v u2 := by
      obtain ⟨u', hu', r'⟩ := rw'.get (List.getElem?_eq_getElem ly)
      rw [List.getElem?_toArray] at y2
      rw [hu'] at y2; cases y2
      exact ⟨_, List.getElem?_eq_getElem ly, r'⟩
    have new2 : h2'.get? s.heap.objs.size = some { cls := .type "tuple", data := .seq #[u1, u2] } := (sb.2 _ (Nat.ne_of_gt zl)).trans b5
    have I1 := I.turnedNew (t' := tk) (ch := [z, p, q, i, j]) (h' := h2') (ob := .frz { cls := .type "tuple", data := .seq #[u1, u2] } (.tup [v1, v2]))
      (fun c o hb e => (sb.2 c fun e' => hb (by simp [e'])).trans (b7 c o (fun e' => hb (by simp [e'])) (fun e' => hb (by simp [e'])) (fun e' => hb (by simp [e'])) (fun e' => hb (by simp [e'])) e)) hf (Nat.le_refl _)
      ⟨new2, (by show 2 ≤ sizeLine; decide), [u1, u2], .cons r1 (.cons r2 .nil), ⟨_, new2, rfl, _, rfl⟩⟩
    refine ⟨.ref s.heap.objs.size, _, I1, rfl, ⟨_, _, v1, v2, rfl, rfl, I.hok.fresh (Nat.le_refl _), rfl, fun zs hs => by rw [sk_inj I hs hx]; exact e1, fun zs hs => by rw [sk_inj I hs hy]; exact e2⟩, ⟨z2, ?_, ⟨u1, u2, ?_⟩, ?_, ?_⟩, fun c hcm => ?_⟩
    · exact (sb.2 _ Z.s.TIz).trans (b7 _ _ Z.s.TIz Z.s.TITO Z.s.TIi1 Z.s.TIi2 hp)
    · exact (sb.2 _ Z.s.TOz).trans b2
    · exact sk_at d1.1 fun o e => (sb.2 _ (Ne.symm Z.s.zi1)).trans e
    · exact sk_at d2.1 fun o e => (sb.2 _ (Ne.symm Z.s.zi2)).trans e
    · have ok := hf c hcm
      have lt : c < s.heap.objs.size := by
        have hc : c = z ∨ c = p ∨ c = q ∨ c = i ∨ c = j := by simpa using hcm
        rcases hc with rfl | rfl | rfl | rfl | rfl
        · exact zl
        · exact Heap.lt_size hp
        · exact Heap.lt_size hq
        · obtain ⟨_, e, _⟩ := sk_obj h1; exact Heap.lt_size e
        · obtain ⟨_, e, _⟩ := sk_obj h2; exact Heap.lt_size e
      rw [upd_ne (Nat.ne_of_lt lt)]
      exact ok.1
  done := by
    intro X hP hw hK hc n pins s σ H E I hf st hg
    subst hP hw hK
    obtain ⟨hz, hp, ⟨x0, y0, hq⟩, h1, h2⟩ := st
    obtain ⟨xs, ys, hx, hy, hn⟩ := hg
    obtain ⟨us, ru, pu⟩ := sk_get I hx
    obtain ⟨ws, rw', pw⟩ := sk_get I hy
    have eu : us.toArray.size = xs.length := by rw [List.size_toArray]; exact ru.length.symm
    have ew : ws.toArray.size = ys.length := by rw [List.size_toArray]; exact rw'.length.symm
    have D1 := sk_draws (prog := X.prog) (w := X.w) (A := X.A.in1) (I.ok.hd hc) k i a Z.ai us.toArray
    have D2 := sk_draws (prog := X.prog) (w := X.w) (A := X.A.in1) (I.ok.hd hc) l j b Z.bj ws.toArray
    refine wpAny_pyNext_zipD2_end Z.s D1 D2 hz hp hq ⟨h1, pu⟩ ⟨h2, pw⟩ (by omega) (by omega) (by omega) fun h' tk kp => ⟨rfl, I.turnedL (t' := tk) (ch := [z, p, q, i, j]) (fun c o hb e => ?_) hf⟩
    exact kp c o (fun e' => hb (by simp [e'])) (fun e' => hb (by simp [e'])) (fun e' => hb (by simp [e'])) (fun e' => hb (by simp [e'])) e
  self := fun A n s Q E st h => wpAny_pyIter_zip st.1 h

/-! ### enumerate -/
def IteK (K : PySem.W.Frag) (k : Sk) (a : Addr) : It where
  go := fun i H => ∃ xs, SkAt K H a xs k ∧ i < xs.length
  yld := fun i H v H' => ∃ (T : Addr) (o : Obj) (x : V), v = .ref T ∧ o.dict = none ∧ H T = none ∧ H' = upd H T (.frz o (.tup [.int (i : Nat), x])) ∧ ∀ xs, SkAt K H a xs k → xs[i]? = some x
  stop := fun i H => ∃ xs, SkAt K H a xs k ∧ i = xs.length
theorem turn_enumK {P : Program} {w : World} {K : PySem.W.Frag} {es : List Expr} {kk : Nat} {tpos : Pos} {k : Sk} {a e i : Addr} (hei : e ≠ i) (hea : e ≠ a) (hai : a ≠ i) :
    Turn P w K (.Tuple es kk tpos) (IteK K k a) [e, i] e (fun n h => (∃ old, IsEnum h e i ((n : Nat) : Int) old) ∧ SkIt h i a n k) where
  mem := List.mem_cons_self ..
  obj := fun n h st c hc => by
    obtain ⟨⟨old, he⟩, h1⟩ := st
    have hc : c = e ∨ c = i := by simpa using hc
    rcases hc with rfl | rfl
    · exact ⟨_, he, fun _ e => nomatch e⟩
    · exact sk_obj h1
  keep := fun n h h' st kp => by
    obtain ⟨⟨old, he⟩, h1⟩ := st
    exact ⟨⟨old, kp e (by simp) _ he⟩, sk_at h1 fun o x => kp i (by simp) o x⟩
  item := by
    intro X hP hw hK hc n pins s σ H E I hf st hg
    subst hP hw hK
    obtain ⟨⟨old, he⟩, h1⟩ := st
    obtain ⟨xs, hx, lx⟩ := hg
    obtain ⟨us, ru, pu⟩ := sk_get I hx
    have el : e < s.heap.objs.size := Heap.lt_size he
    have eu : us.length = xs.length := ru.length.symm
    have D := sk_draws (prog := X.prog) (w := X.w) (A := X.A.in1) (I.ok.hd hc) k i a hai us.toArray
    refine wpAny_pyNext_enum_itemD D he ⟨h1, pu⟩ (by rw [List.size_toArray, eu]; exact lx) hei (by simp [hei, hea]) fun u1 h' tk y1 b1 d1 b5 b6 b7 => ?_
    refine ⟨_, rfl, wpAny_letOwnedTupleGo_enum (s := { s with heap := h', toks := tk + 1 }) b1 fun h2' z2 sb => ?_⟩
    obtain ⟨v1, e1, r1⟩ : ∃ v, xs[n]? = some v ∧ RelV v u1 := by
      obtain ⟨u', hu', r'⟩ := ru.get (List.getElem?_eq_getElem lx)
      rw [List.getElem?_toArray] at y1
      rw [hu'] at y1; cases y1
      exact ⟨_, List.getElem?_eq_getElem lx, r'⟩
    have new2 : h2'.get? s.heap.objs.size = some { cls := .type "tuple", data := .seq #[.int n tk, u1] } := (sb.2 _ (Nat.ne_of_gt el)).trans b5
    have I1 := I.turnedNew (t' := tk + 1) (ch := [e, i]) (h' := h2') (ob := .frz { cls := .type "tuple", data := .seq #[.int n tk, u1] } (.tup [.int (n : Nat), v1]))
      (fun c o hb x => (sb.2 c fun e' => hb (by simp [e'])).trans (b7 c o (fun e' => hb (by simp [e'])) (fun e' => hb (by simp [e'])) x)) hf (Nat.le_refl _)
      ⟨new2, (by show 2 ≤ sizeLine; decide), [.int n tk, u1], .cons ⟨_, rfl⟩ (.cons r1 .nil), ⟨_, new2, rfl, _, rfl⟩⟩
    refine ⟨.ref s.heap.objs.size, _, I1, rfl, ⟨_, _, v1, rfl, rfl, I.hok.fresh (Nat.le_refl _), rfl, fun zs hs => by rw [sk_inj I hs hx]; exact e1⟩, ⟨⟨u1, ?_⟩, sk_at d1.1 fun o x => (sb.2 _ (Ne.symm hei)).trans x⟩, fun c hcm => ?_⟩
    · have e1 : ((n + 1 : Nat) : Int) = (n : Int) + 1 := by omega
      rw [e1]; exact z2
    · have ok := hf c hcm
      have lt : c < s.heap.objs.size := by
        have hc : c = e ∨ c = i := by simpa using hcm
        rcases hc with rfl | rfl
        · exact el
        · obtain ⟨_, e, _⟩ := sk_obj h1; exact Heap.lt_size e
      rw [upd_ne (Nat.ne_of_lt lt)]
      exact ok.1
  done := by
    intro X hP hw hK hc n pins s σ H E I hf st hg
    subst hP hw hK
    obtain ⟨⟨old, he⟩, h1⟩ := st
    obtain ⟨xs, hx, hn⟩ := hg
    obtain ⟨us, ru, pu⟩ := sk_get I hx
    have eu : us.toArray.size = n := by rw [List.size_toArray, hn]; exact ru.length.symm
    have D := sk_draws (prog := X.prog) (w := X.w) (A := X.A.in1) (I.ok.hd hc) k i a hai us.toArray
    rw [eu] at D
    exact wpAny_pyNext_enum_endD D he ⟨h1, pu⟩ fun h' eb => ⟨rfl, I.turnedL (t' := s.toks) (ch := [e, i]) (fun c o hb x => eb c o (fun e' => hb (by simp [e'])) x) hf⟩
  self := fun A n s Q E st h => by
    obtain ⟨⟨old, he⟩, _⟩ := st
    exact wpAny_pyIter_enum he h

/-! ### enumerate(v): its cells -/
set_option maxHeartbeats 1000000 in
theorem meets_enum1 {v : Value} {o : Obj} {H : Heap → Prop} (B : Begins v o H) :
    Meets (Builtin.«enumerate.__new__» ⟨[.type "enumerate", v], []⟩) (fun _ R s => H s.heap ∧
      R (.ok (.ret (.ref (s.heap.push o).objs.size))) { s with heap := (s.heap.push o).push { cls := .type "enumerate", data := .fields #[.none, .bool false, .ref s.heap.objs.size, rawInt 0, .none, .none] } }) :=
  .of_wp fun prog w A R s h => by
    obtain ⟨hp, g, d, tk, os⟩ := s
    obtain ⟨h1, h⟩ := h
    have hsub := sub_enumerate
    have it1 : ∀ {A' : Around} {E : Value → Shared → Prop} {Q : Value → Shared → Prop}, Q (.ref hp.objs.size) ⟨hp.push o, g, d, tk, os⟩ → wpAny (model prog w) A' (pyIter v) Q E ⟨hp, g, d, tk, os⟩ :=
      fun q => B.iter prog w _ _ ⟨hp, g, d, tk, os⟩ _ h1 q
    wp_walk using it1
    refine wpAny_stack_any fun st => wpAny_pure ?_
    split
    · rename_i c _ _ _ _ _
      cases (c == Value.type "enumerate") <;>
      · wp_walk using it1
        exact ⟨_, rfl, h⟩
    · wp_walk using it1
      exact ⟨_, rfl, h⟩
theorem enum1_begins {prog : Program} {w : World} {A : Around} {E : Value → Shared → Prop} {s : Shared} {v : Value} {o : Obj} {H : Heap → Prop} {Q : Value → Shared → Prop} (B : Begins v o H) (h1 : H s.heap)
    (h : ∀ h', IsEnum h' (s.heap.objs.size + 1) s.heap.objs.size 0 .none → h'.get? s.heap.objs.size = some o → (∀ b o, s.heap.get? b = some o → h'.get? b = some o) → Q (.ref (s.heap.objs.size + 1)) { s with heap := h' }) :
    wpAny (model prog w) A (call (.type "enumerate") [v]) Q E s := by
  refine callType_new F.called_enumerate (by decide) (F.typeCall_enumerate_1 _) (F.newCall_enumerate_1 _) (fun obj => F.args_object_init_2 obj _) F.entry_enumerate_new (meets_enum1 B) ⟨h1, ?_⟩
  have sz : (s.heap.push o).objs.size = s.heap.objs.size + 1 := Heap.size_push ..
  have he := Heap.get?_push_size (s.heap.push o) (o := { cls := .type "enumerate", data := .fields #[.none, .bool false, .ref s.heap.objs.size, rawInt 0, .none, .none] }) rfl
  show _ ∧ _
  rw [sz] at he ⊢
  exact ⟨⟨_, he, rfl⟩, h _ he (Heap.get?_push_of_some _ (Heap.get?_push_size _ B.free)) fun b o x => Heap.get?_push_of_some _ (Heap.get?_push_of_some _ x)⟩

theorem zsep (n a b : Nat) (la : a < n) (lb : b < n) : ZSep (n + 4) (n + 2) (n + 3) n (n + 1) a b := by
  have ne : ∀ {x y : Nat}, (x < y ∨ y < x) → @Ne Addr x y := fun h e => by
    rcases h with h | h
    · exact absurd (show _ from e) (Nat.ne_of_lt h)
    · exact absurd (show _ from e.symm) (Nat.ne_of_lt h)
  have no : ∀ {x y z : Nat}, (x < y ∨ y < x) → (x < z ∨ z < x) → ¬ @List.Mem Addr x [y, z] := fun h h' e => by
    rcases List.mem_cons.mp e with e | e
    · exact ne h e
    · exact ne h' (List.mem_singleton.mp e)
  exact ⟨⟨ne (by omega), ne (by omega), ne (by omega), ne (by omega), List.mem_cons_self .., no (by omega) (by omega), no (by omega) (by omega), ne (by omega), List.mem_cons_self .., no (by omega) (by omega), no (by omega) (by omega), no (by omega) (by omega), no (by omega) (by omega)⟩, ne (by omega), ne (by omega)⟩
/-! ### for a, b in zip(..), enumerate(..) -/
def iZipK (K : PySem.W.Frag) (ta : TA) : TI := fun σ H R => ta σ H fun vs H1 => ∃ a b xs ys k l, vs = [.ref a, .ref b] ∧ SkAt K H1 a xs k ∧ SkAt K H1 b ys l ∧ R (ItzK K k l a b) H1
def iEnumK (K : PySem.W.Frag) (ta : TA) : TI := fun σ H R => ta σ H fun vs H1 => ∃ a xs k, vs = [.ref a] ∧ SkAt K H1 a xs k ∧ R (IteK K k a) H1
section
variable {X : Cx} {e e2 : Expr} {ta : TA} {p pos tpos : Pos} {es : List Expr} {kk : Nat}
theorem pi_zipK (hg : Gl X "zip") (hm : X.mg "zip" = none) (ha : PA X [e, e2] ta) (hs : starEach [e, e2] X.env = (false, eval e X.env) :: starEach [e2] X.env := by rfl) (hpl : (backTo pos (starEach [e2] X.env)).any (·.1) = false := by rfl) :
    PI X (.Tuple es kk tpos) (.Call (.Name "zip" p) [e, e2] [] pos) (iZipK X.K ta) := by
  refine ⟨fun pins s σ H R I h => ?_⟩
  refine PyProof.Rows.Call_ (ld_blt I hg hm PyProof.Rows.boot_zip (PyProof.Rows.callWith_type1 (thn (ha.run pos pins s σ H _ I h) fun us s1 ⟨vs, H1, I1, r1, a, b, xs, ys, k, l, ev, hx, hy, q⟩ => ?_) hs hpl))
  subst ev
  cases r1 with
  | cons ra rr =>
    cases rr with
    | cons rb rr =>
      cases rr
      cases ra
      cases rb
      obtain ⟨us, _, pu⟩ := sk_get I1 hx
      obtain ⟨ws, _, pw⟩ := sk_get I1 hy
      have la := sk_lt pu
      have lb := sk_lt pw
      refine zip_begins2 (sk_begins k a us.toArray) (sk_begins l b ws.toArray) pu pw fun h' hz hT hO g1 g2 sz kp => wpAny_pyIter_zip hz ?_
      refine ⟨_, [s1.heap.objs.size + 4, s1.heap.objs.size + 2, s1.heap.objs.size + 3, s1.heap.objs.size, s1.heap.objs.size + 1], _, _, H1, rfl, I1.kept (t' := s1.toks) kp, turn_zipK (k := k) (l := l) (a := a) (b := b) (zsep _ a b la lb), ⟨hz, hT, ⟨_, _, hO⟩, sk_first g1, sk_first g2⟩, fun c hc => ?_, q⟩
      have hc : c = s1.heap.objs.size + 4 ∨ c = s1.heap.objs.size + 2 ∨ c = s1.heap.objs.size + 3 ∨ c = s1.heap.objs.size ∨ c = s1.heap.objs.size + 1 := by simpa using hc
      have hle : s1.heap.objs.size ≤ c := by
        rcases hc with e | e | e | e | e <;> rw [e] <;> first | exact Nat.le_add_right _ _ | exact Nat.le_refl _
      exact I1.fpOk hle (I1.hok.fresh hle)
theorem pi_enumK (hg : Gl X "enumerate") (hm : X.mg "enumerate" = none) (ha : PA X [e] ta) (hs : starEach [e] X.env = [(false, eval e X.env)] := by rfl) :
    PI X (.Tuple es kk tpos) (.Call (.Name "enumerate" p) [e] [] pos) (iEnumK X.K ta) := by
  refine ⟨fun pins s σ H R I h => ?_⟩
  refine PyProof.Rows.Call_ (ld_blt I hg hm PyProof.Rows.boot_enumerate (PyProof.Rows.callWith_type1 (thn (ha.run pos pins s σ H _ I h) fun us s1 ⟨vs, H1, I1, r1, a, xs, k, ev, hx, q⟩ => ?_) hs rfl))
  subst ev
  cases r1 with
  | cons ra rr =>
    cases rr
    cases ra
    obtain ⟨us, _, pu⟩ := sk_get I1 hx
    have la := sk_lt pu
    refine enum1_begins (sk_begins k a us.toArray) pu fun h' he g1 kp => wpAny_pyIter_enum he ?_
    refine ⟨_, [s1.heap.objs.size + 1, s1.heap.objs.size], _, _, H1, rfl, I1.kept (t' := s1.toks) kp, turn_enumK (k := k) (a := a) (Nat.succ_ne_self _) (Nat.ne_of_gt (Nat.lt_succ_of_lt la)) (Nat.ne_of_lt la), ⟨⟨.none, he⟩, sk_first g1⟩, fun c hc => ?_, q⟩
    have hc : c = s1.heap.objs.size + 1 ∨ c = s1.heap.objs.size := by simpa using hc
    have hle : s1.heap.objs.size ≤ c := by
      rcases hc with e | e <;> rw [e] <;> first | exact Nat.le_add_right _ _ | exact Nat.le_refl _
    exact I1.fpOk hle (I1.hok.fresh hle)
end

/-! ### by data -/
def zipD (xs ys : List D) : List D := (xs.zip ys).map fun p => .tuple [p.1, p.2]
def enumD (xs : List D) : List D := xs.mapIdx fun i x => .tuple [.int (i : Nat), x]
def iZip (t u : DT) : DI := fun env Q => t env fun o e1 => u e1 fun o2 e2 => ∃ d ds d2 ds2, o.val = some d ∧ seqD d = some ds ∧ o2.val = some d2 ∧ seqD d2 = some ds2 ∧ Q (zipD ds ds2) none e2
def iEnum (t : DT) : DI := fun env Q => t env fun o e1 => ∃ d ds, o.val = some d ∧ seqD d = some ds ∧ Q (enumD ds) none e1
section
variable {K : PySem.W.Frag} {H : Hp} {F : Fz}
/-- a list or tuple that stays -/
def Stays (K : PySem.W.Frag) (H : Hp) (F : Fz) (a : Addr) (xs : List V) : Sk → Prop
  | .l => F a ∧ H a = some (.lst xs)
  | .t => TpAt H a xs
theorem Stays.at {a : Addr} {xs : List V} {k : Sk} (h : Stays K H F a xs k) : SkAt K H a xs k := by
  cases k
  · exact SqL.of h.2
  · exact TpAt.sq h
theorem Stays.ext {a : Addr} {xs : List V} {k : Sk} {H' : Hp} {F' : Fz} (h : Stays K H F a xs k) (e : Ext H F H' F') : Stays K H' F' a xs k := by
  cases k
  · exact ⟨e.f _ h.1, e.fo _ _ h.1 h.2⟩
  · exact TpAt.ext h e
theorem Rp.stays {d : D} {ds : List D} {v : V} (r : Rp K H F d v) (h : seqD d = some ds) : ∃ a xs k, v = .ref a ∧ Stays K H F a xs k ∧ RpL K H F ds xs := by
  cases d with
  | list ds' => cases h; obtain ⟨a, xs, rfl, f, h, r⟩ := r.lst'; exact ⟨a, xs, .l, rfl, ⟨f, h⟩, r⟩
  | tuple ds' => cases h; obtain ⟨a, xs, rfl, h, r⟩ := r.tup'; exact ⟨a, xs, .t, rfl, h, r⟩
  | _ => cases h
theorem new_tup {T : Addr} {o : Obj} {xs : List V} {ds : List D} (hd : o.dict = none) (n : H T = none) (r : RpL K H F ds xs) : Rp K (upd H T (.frz o (.tup xs))) F (.tuple ds) (.ref T) := by
  have k : ∀ a u, H a = some u → upd H T (.frz o (.tup xs)) a = some u := fun a u h => by rw [upd_ne (ne_of_none h n)]; exact h
  exact .tup ⟨o, hd, upd_same⟩ (r.ext ⟨fun _ h => h, fun a u _ h => k a u h, fun a _ h => k a _ h, fun a _ _ h => k a _ h⟩)
theorem jf_zip {a b : Addr} {xs ys : List V} {ds es : List D} {k l : Sk} (ha : Stays K H F a xs k) (hb : Stays K H F b ys l) (ra : RpL K H F ds xs) (rb : RpL K H F es ys) : JF K (ItzK K k l a b) H F (zipD ds es) := fun i H1 F1 e => by
  have ha1 := ha.ext e
  have hb1 := hb.ext e
  have la := ra.length
  have lb := rb.length
  refine ⟨fun d hd => ?_, fun hl => ⟨xs, ys, ha1.at, hb1.at, ?_⟩⟩
  · unfold zipD at hd
    rw [List.getElem?_map] at hd
    obtain ⟨p, hp, rfl⟩ := Option.map_eq_some_iff.mp hd
    obtain ⟨h1, h2⟩ := List.getElem?_zip_eq_some.mp hp
    obtain ⟨x, hx, rx⟩ := ra.get h1
    obtain ⟨y, hy, ry⟩ := rb.get h2
    refine ⟨⟨xs, ys, ha1.at, hb1.at, (List.getElem?_eq_some_iff.mp hx).1, (List.getElem?_eq_some_iff.mp hy).1⟩, fun v H2 ⟨T, o, x', y', ev, hd, n, eH, f1, f2⟩ => ?_⟩
    subst ev eH
    have e1 := f1 xs ha1.at
    have e2 := f2 ys hb1.at
    rw [hx] at e1; rw [hy] at e2
    cases e1; cases e2
    exact ⟨.inr ⟨T, _, n, rfl⟩, new_tup hd n (.cons (rx.ext e) (.cons (ry.ext e) .nil))⟩
  · unfold zipD at hl
    rw [List.length_map, List.length_zip] at hl
    omega
theorem jf_enum {a : Addr} {xs : List V} {ds : List D} {k : Sk} (ha : Stays K H F a xs k) (ra : RpL K H F ds xs) : JF K (IteK K k a) H F (enumD ds) := fun i H1 F1 e => by
  have ha1 := ha.ext e
  have la := ra.length
  refine ⟨fun d hd => ?_, fun hl => ⟨xs, ha1.at, ?_⟩⟩
  · unfold enumD at hd
    rw [List.getElem?_mapIdx] at hd
    obtain ⟨p, hp, rfl⟩ := Option.map_eq_some_iff.mp hd
    obtain ⟨x, hx, rx⟩ := ra.get hp
    refine ⟨⟨xs, ha1.at, (List.getElem?_eq_some_iff.mp hx).1⟩, fun v H2 ⟨T, o, x', ev, hd, n, eH, f1⟩ => ?_⟩
    subst ev eH
    have e1 := f1 xs ha1.at
    rw [hx] at e1
    cases e1
    exact ⟨.inr ⟨T, _, n, rfl⟩, new_tup hd n (.cons (.int _) (.cons (rx.ext e) .nil))⟩
  · unfold enumD at hl
    rw [List.length_mapIdx] at hl
    omega
end
section
variable {X : Cx} {e e2 : Expr} {t u : DT} {p pos tpos : Pos} {es : List Expr} {kk : Nat}
theorem di_zip (hm : X.mg "zip" = none) (ha : DE X e t) (hb : DE X e2 u) (hg : Gl X "zip" := by rfl) (h1 : starEach [e, e2] X.env = (false, eval e X.env) :: starEach [e2] X.env := by rfl) (h2 : starEach [e2] X.env = (false, eval e2 X.env) :: starEach [] X.env := by rfl) (hpl : (backTo pos (starEach [e2] X.env)).any (·.1) = false := by rfl) :
    DIt X (.Tuple es kk tpos) (.Call (.Name "zip" p) [e, e2] [] pos) (iZip t u) := PI.imp (pi_zipK hg hm (pa_two ha hb h1 h2) h1 hpl) fun σ H R h => by
  obtain ⟨F, env, RI, er, q, k⟩ := h
  refine lift_op (.refl er) q fun o1 e1 x H1 F1 h1 c1 _ p1 => ?_
  refine lift_op c1 h1 fun o2 e2 y H2 F2 h2 c2 c12 p2 => ?_
  obtain ⟨d, ds, d2, ds2, g1, g2, g3, g4, q2⟩ := h2
  obtain ⟨a, xs, ka, rfl, ha, ra⟩ := ((p1.cur c12).val g1).stays g2
  obtain ⟨b, ys, kb, rfl, hb, rb⟩ := (p2.val g3).stays g4
  exact ⟨a, b, xs, ys, ka, kb, rfl, ha.at, hb.at, k _ _ _ _ _ _ q2 c2 (jf_zip ha hb ra rb)⟩
theorem di_enum (hm : X.mg "enumerate" = none) (ha : DE X e t) (hg : Gl X "enumerate" := by rfl) (h1 : starEach [e] X.env = (false, eval e X.env) :: starEach [] X.env := by rfl) (hs : starEach [e] X.env = [(false, eval e X.env)] := by rfl) :
    DIt X (.Tuple es kk tpos) (.Call (.Name "enumerate" p) [e] [] pos) (iEnum t) := PI.imp (pi_enumK hg hm (pa_cons ha pa_nil h1) hs) fun σ H R h => by
  obtain ⟨F, env, RI, er, q, k⟩ := h
  refine lift_op (.refl er) q fun o1 e1 x H1 F1 h1 c1 _ p1 => ?_
  obtain ⟨d, ds, g1, g2, q2⟩ := h1
  obtain ⟨a, xs, ka, rfl, ha, ra⟩ := (p1.val g1).stays g2
  exact ⟨a, xs, ka, rfl, ha.at, k _ _ _ _ _ _ q2 c1 (jf_enum ha ra)⟩
end
end DL
end
section
set_option Elab.async false
set_option linter.all false
set_option maxRecDepth 100000
/-! DL14: dict comprehensions, dict displays; dict(list(zip(..))). -/
namespace DL
open PySem PySem.Spec L2

section
variable {K : PySem.W.Frag} {σ : L2.St} {H0 H : Hp} {F0 F : Fz} {env0 env : SEnv} {L : Addr} {u u' : HO}
/-- a thing that grows and is nobody's -/
theorem grow_cur (c : Cur K σ H0 F0 env0 H F env) (n : H0 L = none) (hh : H L = some u) (nt : ∀ xs, u ≠ .tup xs) (nf : ∀ o x, u ≠ .frz o x) (nF : ¬ F L) : Cur K σ H0 F0 env0 (upd H L u') F env ∧ Ext H F (upd H L u') F := by
  have nA0 : ¬ AOf σ env0 L := fun z => c.er0.live z n
  have nA : ¬ AOf σ env L := fun z => nA0 (c.sh.a.mp z)
  have ek : Ext H F (upd H L u') F := ⟨fun _ h => h, fun a o ha ho => by rw [upd_ne (fun z => nF (by rw [← z]; exact ha))]; exact ho,
    fun a ys ha => by rw [upd_ne (ne_of ha hh (fun z => nt _ z.symm))]; exact ha, fun a o x ha => by rw [upd_ne (ne_of ha hh (fun z => nf _ _ z.symm))]; exact ha⟩
  refine ⟨⟨c.er0, ⟨c.st.f, fun a o ha na => ?_, c.st.new, fun a ha => ?_⟩, c.sh, ⟨c.er.len, fun j d' hj => ?_, fun j p d' hj => ?_, fun j ns hj => ?_, c.er.dis, fun a ha => ?_⟩⟩, ek⟩
  · have na' : a ≠ L := fun z => by subst z; rw [n] at ha; cases ha
    rw [upd_ne na']
    exact c.st.keep a o ha na
  · by_cases e : a = L
    · subst e; rw [upd_same] at ha; cases ha
    · rw [upd_ne e] at ha; exact c.st.live a ha
  · obtain ⟨v, q, r⟩ := c.er.fz j d' hj
    exact ⟨v, q, r.ext ek⟩
  · obtain ⟨b, q, nb, t⟩ := c.er.ow j p d' hj
    refine ⟨b, q, nb, t.ext ek fun o ho => ?_⟩
    rw [upd_ne (fun z => nA ⟨j, p, d', hj, by rw [← z]; exact q⟩)]
    exact ho
  · obtain ⟨v, q, r⟩ := c.er.sc j ns hj
    exact ⟨v, q, r.ext ek⟩
  · by_cases e : a = L
    · subst e; rw [upd_same]; exact fun z => nomatch z
    · rw [upd_ne e]; exact c.er.liv a ha
end

/-! ### {k: v for target in ..} -/
def dcGo (vs : List Nat) (al : Option Nat) (all : List D) (g : DG) (tt : DB) (tk tv : DT) : List D → List (D × D) → SEnv → (List (D × D) → SEnv → Prop) → Prop
  | [], acc, env, K => alOk al all env ∧ K acc env
  | d :: ds, acc, env, K => alOk al all env ∧ notOw vs env = true ∧ g d (wipeE vs env) fun e1 => tt e1 fun b e2 =>
      if b = true then tk e2 fun o e3 => tv e3 fun o2 e4 => ∃ k v, o.val = some k ∧ (keyK k).isSome = true ∧ o2.val = some v ∧ dcGo vs al all g tt tk tv ds (dset acc k v) (rst vs env e4) K
      else dcGo vs al all g tt tk tv ds acc (rst vs env e2) K
def dDc (vs : List Nat) (ti : DI) (g : DG) (tt : DB) (tk tv : DT) : DT := fun env Q => ti env fun items al e1 => items.length ≤ sizeLine ∧ dcGo vs al items g tt tk tv items [] e1 fun acc e2 => Q (.nw (.dict acc)) e2
/-- a tracked dict and its data -/
def DcAt (K : PySem.W.Frag) (H : Hp) (F : Fz) (acc : List (D × D)) (l : List (Key × V)) : Prop := acc.map Prod.fst = l.map (fun p => keyD p.1) ∧ RpL K H F (acc.map Prod.snd) (l.map (·.2))
section
variable {K : PySem.W.Frag} {H : Hp} {F : Fz}
theorem DcAt.put {acc : List (D × D)} {l : List (Key × V)} {d k : D} {kk : Key} {v : V} (h : DcAt K H F acc l) (ek : keyK k = some kk) (r : Rp K H F d v) : DcAt K H F (dset acc k d) (putK l kk v) := by
  have e := keyK_eq ek
  subst e
  exact ⟨dic_put_keys h.1 kk d v, dic_put_vals r h.1 h.2⟩
theorem DcAt.ext {acc : List (D × D)} {l : List (Key × V)} {H' : Hp} {F' : Fz} (h : DcAt K H F acc l) (e : Ext H F H' F') : DcAt K H' F' acc l := ⟨h.1, h.2.ext e⟩
theorem DcAt.len {acc : List (D × D)} {l : List (Key × V)} (h : DcAt K H F acc l) : acc.length = l.length := by
  have := congrArg List.length h.1
  simpa using this
theorem DcAt.top {acc : List (D × D)} {l : List (Key × V)} {a : Addr} (h : DcAt K H F acc l) (e : H a = some (.dK l)) : Top K H F a (.dict acc) := ⟨_, ⟨l, e, h.1, rfl⟩, h.2⟩
end
section
variable {X : Cx} {kx vx tg iter : Expr} {ifs : List Expr} {scope : Scope} {own : List (Str × Nat)} {pos : Pos} {ti : DI} {g : DG} {tt : DB} {tk tv : DT} {wr : List Nat}
theorem lift_dc {K : PySem.W.Frag} {vs : List Nat} (ws : ∀ w ∈ wr, w ∈ vs) : ∀ σ H Q, liftE K (dDc vs ti g tt tk tv) σ H Q → tDc (liftI K ti) (liftG K wr g) (liftT K tt) (liftE K tk) (liftE K tv) vs σ H Q := fun σ H Q h => by
  obtain ⟨F, env, R, er, q, k⟩ := h
  refine ⟨F, env, _, er, q, fun items al e1 H1 F1 J h1 c1 jr L hL => ?_⟩
  obtain ⟨hlen, h1⟩ := h1
  have cL := laid_cur (u := .dK []) c1.er hL
  let Kt : List (D × D) → SEnv → Prop := fun acc e2 => R (.nw (.dict acc)) e2
  refine ⟨fun i m H' => ∃ F' env' acc xs, Cur K σ H1 F1 e1 H' F' env' ∧ H' L = some (.dK xs) ∧ ¬ F' L ∧ DcAt K H' F' acc xs ∧ xs.length ≤ i ∧ m = items.length - i ∧ i ≤ items.length ∧ dcGo vs al items g tt tk tv (items.drop i) acc env' Kt,
    ⟨items.length, F1, e1, [], [], cL, upd_same, fun z => c1.er.liv L z hL, ⟨rfl, .nil⟩, Nat.zero_le _, by omega, Nat.zero_le _, h1⟩, fun i m H2 hW => ?_⟩
  obtain ⟨F2, env2, acc, xs, c2, h2, n2, r2, l2, rfl, hi, q2⟩ := hW
  have nA : ¬ AOf σ env2 L := fun z => c1.er.live (c2.sh.a.mp z) hL
  have turn : alOk al items env2 → (∀ d, items[i]? = some d → J.go i H2 ∧ ∀ x H3, J.yld i H2 x H3 → Lay H2 H3 ∧ Rp K H3 F2 d x) ∧ (items.length = i → J.stop i H2) := fun ok => by
    cases al with
    | none => exact jr i H2 F2 c2.e
    | some j => exact ja_turn jr c2.er ok i
  by_cases hlt : i < items.length
  · have hd : items[i]? = some items[i] := List.getElem?_eq_getElem hlt
    rw [List.drop_eq_getElem_cons hlt] at q2
    obtain ⟨ok, no, q2⟩ := q2
    obtain ⟨go, yl⟩ := (turn ok).1 _ hd
    refine .inr ⟨go, fun H' => ∃ F' env' acc xs, Cur K σ H1 F1 e1 H' F' env' ∧ H' L = some (.dK xs) ∧ ¬ F' L ∧ DcAt K H' F' acc xs ∧ xs.length ≤ i + 1 ∧ dcGo vs al items g tt tk tv (items.drop (i + 1)) acc env' Kt,
      fun H' ⟨F', env', acc, xs, a1, a2, a3, a4, a5, a6⟩ => ⟨items.length - (i + 1), by omega, F', env', acc, xs, a1, a2, a3, a4, a5, rfl, hlt, a6⟩, fun x H3 hy => ?_⟩
    obtain ⟨lay, rx⟩ := yl x H3 hy
    have c3 := lay.cur c2.er
    obtain ⟨erB, aoB⟩ := blk_in c3.er no
    refine ⟨F2, _, _, _, erB, rx, q2, fun e4 σ4 H4 F4 q4 c4 w4 => ⟨wipe_same (by rw [c4.st.len, wipe_length]) ws w4.s, ?_⟩⟩
    refine lift_tst (.refl c4.er) q4 fun b e5 H5 F5 q5 c5 => ?_
    cases b with
    | false =>
      have cT := c3.trans (blk_out c3.er no ws c4 w4 c5)
      have nF : ¬ F5 L := fun z => (cT.st.new L z).elim n2 fun z => by rw [h2] at z; cases z
      exact ⟨F5, _, acc, xs, c2.trans cT, cT.st.keep L _ h2 nA, nF, r2.ext cT.e, by omega, q5⟩
    | true =>
      rw [if_pos rfl] at q5 ⊢
      refine lift_op (.refl c5.er) q5 fun o e6 y H6 F6 q6 c6 _ p6 => ?_
      refine lift_op (.refl c6.er) q6 fun o2 e7 z H7 F7 q7 c7 _ p7 => ?_
      obtain ⟨kk, v, gk, sk, gv, q7⟩ := q7
      obtain ⟨kk', ek⟩ := Option.isSome_iff_exists.mp sk
      have ey := ((p6.cur c7).val gk)
      have ey := Ob.key (.inl ey) ek
      have cT := c3.trans (blk_out c3.er no ws c4 w4 (c5.trans (c6.trans c7)))
      have hh := cT.st.keep L _ h2 nA
      have nF : ¬ F7 L := fun z => (cT.st.new L z).elim n2 fun z => by rw [h2] at z; cases z
      have rz := p7.val gv
      obtain ⟨cg, eg⟩ := grow_cur (u' := .dK (putK xs kk' z)) (c2.trans cT) hL hh (fun _ z => nomatch z) (fun _ _ z => nomatch z) nF
      refine ⟨xs, kk', ey, hh, by omega, F7, rst vs env2 e7, dset acc kk v, putK xs kk' z, cg, upd_same, nF, ((r2.ext cT.e).put ek rz).ext eg, ?_, q7⟩
      have := length_putK xs kk' z
      omega
  · have e : i = items.length := by omega
    subst e
    rw [List.drop_length] at q2
    obtain ⟨ok, q2⟩ := q2
    refine .inl ⟨(turn ok).2 rfl, ?_⟩
    have c := c1.trans c2
    exact k _ _ _ _ _ q2 c ⟨L, rfl, c1.st.live L hL, n2, r2.top h2⟩
theorem de_dc (hc : X.calm = true) (hN : X.N.Nodup) (hi : DIt X tg iter ti) (ok : BlkOk X.N X.env.scope scope own)
    (hg : ∀ (s : Shared) (H : Hp) (C : Addr) (cl : List (Str × Addr)) (fp : List Addr), DGt (X.blk s H scope (compEnvC scope cl C X.env) fp) tg wr g) (ht : ∀ (s : Shared) (H : Hp) (C : Addr) (cl : List (Str × Addr)) (fp : List Addr), DTs (X.blk s H scope (compEnvC scope cl C X.env) fp) ifs tt)
    (hk : ∀ (s : Shared) (H : Hp) (C : Addr) (cl : List (Str × Addr)) (fp : List Addr), DE (X.blk s H scope (compEnvC scope cl C X.env) fp) kx tk)
    (he : ∀ (s : Shared) (H : Hp) (C : Addr) (cl : List (Str × Addr)) (fp : List Addr), DE (X.blk s H scope (compEnvC scope cl C X.env) fp) vx tv) (ws : ∀ w ∈ wr, w ∈ own.map (·.2) := by decide) (hs : ∀ x, foldedSetIterable iter X.env x = pure x := by intro _; rfl) :
    DE X (.DictComp kx vx [⟨tg, iter, ifs, 0⟩] scope pos) (dDc (own.map (·.2)) ti g tt tk tv) := PE.imp (pe_dc (wi := liftI X.K ti) (g := liftG X.K wr g) (tt := liftT X.K tt) (tk := liftE X.K tk) (tv := liftE X.K tv) hc hN hi ok hg ht hk he hs) (lift_dc ws)
end
end DL
end
section
set_option Elab.async false
set_option linter.all false
set_option maxRecDepth 100000
/-! DLZ: turns of a zip whose pairs are kept by others, over any two walks. -/
namespace DL
open PySem PySem.Spec L2 PySem.W
section
variable {prog : Program} {w : World} {A : Around} {E : Value → Shared → Prop} {s : Shared} {z p q i j T : Addr} {f : Bool} {oT : Obj} {fp1 fp2 : List Addr} {n1 n2 : Nat} {P1 P2 : Nat → Value → Prop} {S1 S2 : Nat → Heap → Prop}
theorem held_item {k : Nat} {Q : Value → Shared → Prop} (Z : ZipSep2 z p q i j fp1 fp2) (D1 : Draws prog w A i fp1 n1 P1 S1) (D2 : Draws prog w A j fp2 n2 P2 S2)
    (hz : IsZipHeld s.heap z p q T f) (hT : s.heap.get? T = some oT) (hp : IsPair s.heap p (.ref i) (.ref j)) (st1 : S1 k s.heap) (st2 : S2 k s.heap) (l1 : k < n1) (l2 : k < n2)
    (go : ∀ x y h' tk, P1 k x → P2 k y → IsZipHeld h' z p q T true → S1 (k + 1) h' → S2 (k + 1) h' → IsPair h' s.heap.objs.size x y → h'.objs.size = s.heap.objs.size + 1 →
      (∀ c o, c ≠ z → c ≠ i → c ≠ j → s.heap.get? c = some o → h'.get? c = some o) → Q (.ref s.heap.objs.size) { s with heap := h', toks := tk }) :
    wpAny (model prog w) A (Builtin.«zip.__next__» ⟨[.ref z], []⟩) (fun fin s' => ∃ v, fin = .done (.ret v) ∧ Q v s') E s := by
  obtain ⟨hp0, gs, dr, tk0, os⟩ := s
  show wpAny _ _ (field (.ref z) 2 >>= _) _ _ _
  refine wpAny_bind (wpAny_field hz rfl (x := .bool false) rfl ?_)
  show wpAny _ _ (field (.ref z) 3 >>= _) _ _ _
  refine wpAny_bind (wpAny_field hz rfl (x := .ref p) rfl (wpAny_bind (wpAny_seqItems hp rfl ?_)))
  show wpAny _ _ (Builtin.SmallTypes.ownedTupleIsFree (.ref z) >>= _) _ _ _
  refine wpAny_bind (wpAny_tupleHeld_zip hz hT fun g1 z1 b1 => ?_)
  replace b1 : Heap.SameBut z hp0 g1 := b1
  simp only [Bool.false_eq_true, if_false]
  refine wpAny_bind ?_
  rw [← Array.forIn_toList]
  simp only [List.forIn_cons, List.forIn_nil]
  refine wpAny_bind (wpAny_bind (wpAny_holding ?_))
  show wpAny _ _ (Builtin.SmallTypes.nextOf (.ref i) >>= _) _ _ ⟨g1, gs, dr, tk0, os⟩
  have over : ∀ {fp : List Addr} {S : Nat → Heap → Prop} {m : Nat} {c : Addr} {h h' : Heap}, (∀ a h h', S a h → (∀ b ∈ fp, ∀ o, h.get? b = some o → h'.get? b = some o) → S a h') → S m h → Heap.SameBut c h h' → c ∉ fp → S m h' := fun fr st sb nc => fr _ _ _ st fun b hb o e => sb.extBut _ _ (fun y => nc (y ▸ hb)) e
  refine wpAny_bind (D1.item k _ _ _ l1 (over D1.frame st1 b1 Z.zf1) fun x g2 tk1 px sn1 b2 => wpAny_pure (wpAny_pure ?_))
  replace b2 : Heap.SameBut i g1 g2 := b2
  refine wpAny_bind (wpAny_bind (wpAny_holding ?_))
  show wpAny _ _ (Builtin.SmallTypes.nextOf (.ref j) >>= _) _ _ ⟨g2, gs, dr, tk1, os⟩
  refine wpAny_bind (D2.item k _ _ _ l2 (over D2.frame (over D2.frame st2 b1 Z.zf2) b2 Z.sep1_2) fun y g3 tk2 py sn2 b3 => wpAny_pure (wpAny_pure (wpAny_pure ?_)))
  replace b3 : Heap.SameBut j g2 g3 := b3
  show wpAny _ _ (newTuple [x, y] >>= _) _ _ _
  refine wpAny_bind (wpAny_newTuple (wpAny_pure ⟨_, rfl, ?_⟩))
  have zi : z ≠ i := fun e => Z.zf1 (e ▸ Z.mem1)
  have zj : z ≠ j := fun e => Z.zf2 (e ▸ Z.mem2)
  have size : g3.objs.size = hp0.objs.size := by rw [b3.1, b2.1, b1.1]
  have z3 : IsZipHeld g3 z p q T true := b3.extBut _ _ zj (b2.extBut _ _ zi z1)
  have pair : IsPair (g3.push { cls := .type "tuple", data := .seq #[x, y] }) g3.objs.size x y := Heap.get?_push_size _ rfl
  have size2 : (g3.push { cls := .type "tuple", data := .seq #[x, y] }).objs.size = g3.objs.size + 1 := Heap.size_push ..
  rw [size] at pair size2
  show Q (.ref g3.objs.size) _
  rw [size]
  exact go x y _ tk2 px py (Heap.get?_push_of_some _ z3) (D1.frame _ _ _ (over D1.frame sn1 b3 Z.sep2_1) fun b _ o e => Heap.get?_push_of_some _ e) (D2.frame _ _ _ sn2 fun b _ o e => Heap.get?_push_of_some _ e) pair size2
    fun c o c1 c2 c3 e => Heap.get?_push_of_some _ (b3.extBut _ _ c3 (b2.extBut _ _ c2 (b1.extBut _ _ c1 e)))
theorem held_end {k : Nat} {Q : PySem.Fin → Shared → Prop} (Z : ZipSep2 z p q i j fp1 fp2) (D1 : Draws prog w A i fp1 n1 P1 S1) (D2 : Draws prog w A j fp2 n2 P2 S2)
    (hz : IsZipHeld s.heap z p q T f) (hT : s.heap.get? T = some oT) (hp : IsPair s.heap p (.ref i) (.ref j)) (st1 : S1 k s.heap) (st2 : S2 k s.heap) (l1 : k ≤ n1) (l2 : k ≤ n2) (stop : k = n1 ∨ k = n2)
    (go : ∀ h' tk e, (∀ c o, c ≠ z → c ≠ i → c ≠ j → s.heap.get? c = some o → h'.get? c = some o) → (∃ o, h'.get? e = some o ∧ o.cls = .type "StopIteration") → E (.ref e) { s with heap := h', toks := tk }) :
    wpAny (model prog w) A (Builtin.«zip.__next__» ⟨[.ref z], []⟩) Q E s := by
  obtain ⟨hp0, gs, dr, tk0, os⟩ := s
  show wpAny _ _ (field (.ref z) 2 >>= _) _ _ _
  refine wpAny_bind (wpAny_field hz rfl (x := .bool false) rfl ?_)
  show wpAny _ _ (field (.ref z) 3 >>= _) _ _ _
  refine wpAny_bind (wpAny_field hz rfl (x := .ref p) rfl (wpAny_bind (wpAny_seqItems hp rfl ?_)))
  show wpAny _ _ (Builtin.SmallTypes.ownedTupleIsFree (.ref z) >>= _) _ _ _
  refine wpAny_bind (wpAny_tupleHeld_zip hz hT fun g1 z1 b1 => ?_)
  replace b1 : Heap.SameBut z hp0 g1 := b1
  simp only [Bool.false_eq_true, if_false]
  refine wpAny_bind ?_
  rw [← Array.forIn_toList]
  simp only [List.forIn_cons, List.forIn_nil]
  refine wpAny_bind (wpAny_bind (wpAny_holding ?_))
  show wpAny _ _ (Builtin.SmallTypes.nextOf (.ref i) >>= _) _ _ ⟨g1, gs, dr, tk0, os⟩
  have over : ∀ {fp : List Addr} {S : Nat → Heap → Prop} {m : Nat} {c : Addr} {h h' : Heap}, (∀ a h h', S a h → (∀ b ∈ fp, ∀ o, h.get? b = some o → h'.get? b = some o) → S a h') → S m h → Heap.SameBut c h h' → c ∉ fp → S m h' := fun fr st sb nc => fr _ _ _ st fun b hb o e => sb.extBut _ _ (fun y => nc (y ▸ hb)) e
  by_cases lt : k < n1
  · refine wpAny_bind (D1.item k _ _ _ lt (over D1.frame st1 b1 Z.zf1) fun x g2 tk1 px sn1 b2 => wpAny_pure (wpAny_pure ?_))
    replace b2 : Heap.SameBut i g1 g2 := b2
    refine wpAny_bind (wpAny_bind (wpAny_holding ?_))
    show wpAny _ _ (Builtin.SmallTypes.nextOf (.ref j) >>= _) _ _ ⟨g2, gs, dr, tk1, os⟩
    have e2 : k = n2 := by omega
    refine wpAny_bind (D2.done ⟨g2, gs, dr, tk1, os⟩ _ _ (by rw [← e2]; exact over D2.frame (over D2.frame st2 b1 Z.zf2) b2 Z.sep1_2) fun g3 e b3 he => ?_)
    replace b3 : Heap.ExtBut j g2 g3 := b3
    exact go g3 tk1 e (fun c o c1 c2 c3 h => b3 _ _ c3 (b2.extBut _ _ c2 (b1.extBut _ _ c1 h))) he
  · have e1 : k = n1 := by omega
    refine wpAny_bind (D1.done ⟨g1, gs, dr, tk0, os⟩ _ _ (by rw [← e1]; exact over D1.frame st1 b1 Z.zf1) fun g2 e b2 he => ?_)
    replace b2 : Heap.ExtBut i g1 g2 := b2
    exact go g2 tk0 e (fun c o c1 c2 c3 h => b2 _ _ c2 (b1.extBut _ _ c1 h)) he
theorem next_held_item {k : Nat} {Q : Option Value → Shared → Prop} (Z : ZipSep2 z p q i j fp1 fp2) (D1 : Draws prog w A.in1 i fp1 n1 P1 S1) (D2 : Draws prog w A.in1 j fp2 n2 P2 S2)
    (hz : IsZipHeld s.heap z p q T f) (hT : s.heap.get? T = some oT) (hp : IsPair s.heap p (.ref i) (.ref j)) (st1 : S1 k s.heap) (st2 : S2 k s.heap) (l1 : k < n1) (l2 : k < n2)
    (go : ∀ x y h' tk, P1 k x → P2 k y → IsZipHeld h' z p q T true → S1 (k + 1) h' → S2 (k + 1) h' → IsPair h' s.heap.objs.size x y → h'.objs.size = s.heap.objs.size + 1 →
      (∀ c o, c ≠ z → c ≠ i → c ≠ j → s.heap.get? c = some o → h'.get? c = some o) → Q (some (.ref s.heap.objs.size)) { s with heap := h', toks := tk }) :
    wpAny (model prog w) A (pyNext (.ref z)) Q E s := by
  have ty : s.TypeIs (.ref z) "zip" := ⟨_, hz, rfl⟩
  unfold pyNext
  exact wpAny_bind (wpAny_attempt (wpAny_callSpecial?_slot (name := Str.ofString "__next__") ty PySem.F.slot_zip_next (wpAny_call_entry PySem.F.slot_zip_next ty PySem.F.entry_zip_next
    (held_item Z D1 D2 hz hT hp st1 st2 l1 l2 fun x y h' tk a1 a2 a3 a4 a5 a6 a7 a8 => wpAny_pure (go x y h' tk a1 a2 a3 a4 a5 a6 a7 a8)) (PySem.F.args_zip_next_1 _))))
theorem next_held_end {k : Nat} {Q : Option Value → Shared → Prop} (Z : ZipSep2 z p q i j fp1 fp2) (D1 : Draws prog w A.in1 i fp1 n1 P1 S1) (D2 : Draws prog w A.in1 j fp2 n2 P2 S2)
    (hz : IsZipHeld s.heap z p q T f) (hT : s.heap.get? T = some oT) (hp : IsPair s.heap p (.ref i) (.ref j)) (st1 : S1 k s.heap) (st2 : S2 k s.heap) (l1 : k ≤ n1) (l2 : k ≤ n2) (stop : k = n1 ∨ k = n2)
    (go : ∀ h' tk, (∀ c o, c ≠ z → c ≠ i → c ≠ j → s.heap.get? c = some o → h'.get? c = some o) → Q none { s with heap := h', toks := tk }) : wpAny (model prog w) A (pyNext (.ref z)) Q E s := by
  have ty : s.TypeIs (.ref z) "zip" := ⟨_, hz, rfl⟩
  unfold pyNext
  refine wpAny_bind (wpAny_attempt (wpAny_callSpecial?_slot (name := Str.ofString "__next__") ty PySem.F.slot_zip_next (wpAny_call_entry PySem.F.slot_zip_next ty PySem.F.entry_zip_next
    (held_end Z D1 D2 hz hT hp st1 st2 l1 l2 stop fun h' tk e kp he => ?_) (PySem.F.args_zip_next_1 _))))
  obtain ⟨o, ho, hc⟩ := he
  exact wpAny_bind (wpAny_isInstance (T := "StopIteration") (b := true) ⟨o, ho, hc⟩ isSubtype_stop (wpAny_pure (go _ _ kp)))
end
end DL
end
section
set_option Elab.async false
set_option linter.all false
set_option maxRecDepth 100000
/-! DL15: list(zip(a, b)), a and b lists; dict(pairs). -/
namespace DL
open PySem PySem.Spec L2

/-- a list or a tuple that stands -/
def SkH (H : Hp) (a : Addr) (xs : List V) : Sk → Prop
  | .l => H a = some (.lst xs)
  | .t => TpAt H a xs
theorem SkH.at {K : PySem.W.Frag} {H : Hp} {a : Addr} {xs : List V} {k : Sk} (h : SkH H a xs k) : SkAt K H a xs k := by
  cases k
  · exact SqL.of h
  · exact TpAt.sq h
theorem SkH.some {H : Hp} {a : Addr} {xs : List V} {k : Sk} (h : SkH H a xs k) : ∃ u, H a = some u := by
  cases k
  · exact ⟨_, h⟩
  · obtain ⟨o, _, h⟩ := h; exact ⟨_, h⟩
theorem SkH.upd {H : Hp} {a T : Addr} {xs : List V} {u : HO} {k : Sk} (h : SkH H a xs k) (n : a ≠ T) : SkH (L2.upd H T u) a xs k := by
  cases k
  · exact (upd_ne n).trans h
  · obtain ⟨o, hd, h⟩ := h
    exact ⟨o, hd, (upd_ne n).trans h⟩
theorem SkH.ne {H : Hp} {a T : Addr} {xs : List V} {k : Sk} (h : SkH H a xs k) (n : H T = none) : a ≠ T := fun e => by
  obtain ⟨u, h⟩ := h.some
  rw [e, n] at h
  cases h
theorem Ob.skH {K : PySem.W.Frag} {H : Hp} {F : Fz} {d : D} {ds : List D} {v : V} (r : Ob K H F v d) (h : seqD d = Option.some ds) : ∃ a xs k, v = .ref a ∧ SkH H a xs k ∧ RpL K H F ds xs := by
  cases d with
  | list ds' => cases h; obtain ⟨a, xs, rfl, h, r⟩ := r.list; exact ⟨a, xs, .l, rfl, h, r⟩
  | tuple ds' => cases h; obtain ⟨a, xs, rfl, h, r⟩ := r.tuple; exact ⟨a, xs, .t, rfl, h, r⟩
  | _ => cases h
/-- a zip between two turns, its pairs kept by others -/
def ZSt (h : Heap) (z p q i j S : Addr) : Prop := (∃ a b, IsZip h z p q .none ∧ IsPair h q a b) ∨ ∃ T f oT, IsZipHeld h z p q T f ∧ h.get? T = some oT ∧ T ≠ z ∧ T ≠ q ∧ T ≠ i ∧ T ≠ j ∧ T ≠ S
section
variable {prog : Program} {w : World} {A : Around} {E : Value → Shared → Prop} {s : Shared} {z p q i j a b S : Addr} {n : Nat} {xs ys : Array Value} {k l : Sk} {x y : Value} {Q : Option Value → Shared → Prop}
theorem zst_item (hh : A.handled = none) (Z : ZSep z p q i j a b) (st : ZSt s.heap z p q i j S) (hS : S < s.heap.objs.size) (hp : IsPair s.heap p (.ref i) (.ref j)) (h1 : SkIt s.heap i a n k) (h2 : SkIt s.heap j b n l) (ha : SkPl s.heap a xs k) (hb : SkPl s.heap b ys l) (hx : xs[n]? = some x) (hy : ys[n]? = some y)
    (hQ : ∀ h' tk, ZSt h' z p q i j S → SkIt h' i a (n + 1) k → SkIt h' j b (n + 1) l → IsPair h' s.heap.objs.size x y → h'.objs.size = s.heap.objs.size + 1 → (∀ c o, c ≠ z → c ≠ q → c ≠ i → c ≠ j → s.heap.get? c = some o → h'.get? c = some o) → Q (some (.ref s.heap.objs.size)) { s with heap := h', toks := tk }) :
    wpAny (model prog w) A (pyNext (.ref z)) Q E s := by
  have lt : ∀ {c : Addr} {o : Obj}, s.heap.get? c = some o → s.heap.objs.size ≠ c := fun e => Nat.ne_of_gt (Heap.lt_size e)
  have li : s.heap.objs.size ≠ i := by obtain ⟨_, e, _⟩ := sk_obj h1; exact lt e
  have lj : s.heap.objs.size ≠ j := by obtain ⟨_, e, _⟩ := sk_obj h2; exact lt e
  have l1 : n < xs.size := (Array.getElem?_eq_some_iff.mp hx).1
  have l2 : n < ys.size := (Array.getElem?_eq_some_iff.mp hy).1
  have D1 := sk_draws (prog := prog) (w := w) (A := A.in1) hh k i a Z.ai xs
  have D2 := sk_draws (prog := prog) (w := w) (A := A.in1) hh l j b Z.bj ys
  rcases st with ⟨u, v, hz, hq⟩ | ⟨T, f, oT, hz, hT, n1, n2, n3, n4, n5⟩
  · refine wpAny_pyNext_zipD2_item Z.s D1 D2 hz hp hq ⟨h1, ha⟩ ⟨h2, hb⟩ l1 l2 fun u1 u2 h' tk y1 y2 z2 q2 i2 j2 t2 sz kp => ?_
    rw [hx] at y1; cases y1
    rw [hy] at y2; cases y2
    exact hQ h' tk (.inr ⟨_, false, _, z2, t2, lt hz, lt hq, li, lj, Nat.ne_of_gt hS⟩) i2.1 j2.1 t2 sz kp
  · refine next_held_item Z.s D1 D2 hz hT hp ⟨h1, ha⟩ ⟨h2, hb⟩ l1 l2 fun u1 u2 h' tk y1 y2 z2 i2 j2 t2 sz kp => ?_
    rw [hx] at y1; cases y1
    rw [hy] at y2; cases y2
    exact hQ h' tk (.inr ⟨T, true, oT, z2, kp T oT n1 n3 n4 hT, n1, n2, n3, n4, n5⟩) i2.1 j2.1 t2 sz fun c o c1 _ c3 c4 e => kp c o c1 c3 c4 e
theorem zst_end (hh : A.handled = none) (Z : ZSep z p q i j a b) (st : ZSt s.heap z p q i j S) (hp : IsPair s.heap p (.ref i) (.ref j)) (h1 : SkIt s.heap i a n k) (h2 : SkIt s.heap j b n l) (ha : SkPl s.heap a xs k) (hb : SkPl s.heap b ys l) (l1 : n ≤ xs.size) (l2 : n ≤ ys.size) (he : n = xs.size ∨ n = ys.size)
    (hQ : ∀ h' tk, (∀ c o, c ≠ z → c ≠ q → c ≠ i → c ≠ j → s.heap.get? c = some o → h'.get? c = some o) → Q none { s with heap := h', toks := tk }) : wpAny (model prog w) A (pyNext (.ref z)) Q E s := by
  have D1 := sk_draws (prog := prog) (w := w) (A := A.in1) hh k i a Z.ai xs
  have D2 := sk_draws (prog := prog) (w := w) (A := A.in1) hh l j b Z.bj ys
  rcases st with ⟨u, v, hz, hq⟩ | ⟨T, f, oT, hz, hT, n1, n2, n3, n4, n5⟩
  · exact wpAny_pyNext_zipD2_end Z.s D1 D2 hz hp hq ⟨h1, ha⟩ ⟨h2, hb⟩ l1 l2 he hQ
  · exact next_held_end Z.s D1 D2 hz hT hp ⟨h1, ha⟩ ⟨h2, hb⟩ l1 l2 he fun h' tk kp => hQ h' tk fun c o c1 _ c3 c4 e => kp c o c1 c3 c4 e
end

section
variable {X : Cx} {pins : List (Addr × Obj)} {σ : L2.St} {H1 : Hp} {F1 : Fz} {e1 : SEnv} {z p q i j a b S : Addr} {xs ys : List V} {ds es : List D}
theorem fpUpd {H : Hp} {c T : Addr} {u : HO} (h : FpOk X pins H c) (n : c ≠ T) : FpOk X pins (upd H T u) c := ⟨by rw [upd_ne n]; exact h.1, h.2⟩
theorem push_seq (its : List Value) (n : Nat) (u : Value) : ∃ n', Obj.mapSeq (·.push u) { cls := .type "list", data := .seq its.toArray n } = { cls := .type "list", data := .seq (its ++ [u]).toArray n' } := ⟨_, by
  simp only [Obj.mapSeq, List.push_toArray]
  rfl⟩
/-- the turns of list(zip(a, b)) -/
theorem zl_loop {A : Around} {R : Result → Shared → Prop} (hh : A.handled = none) (D : ZSep z p q i j a b) {kx ky : Sk} (ra : RpL X.K H1 F1 ds xs) (rb : RpL X.K H1 F1 es ys) (hl : (zipD ds es).length ≤ sizeLine) (nS : H1 S = none) (nF : ¬ F1 S) (hSc : S ∉ [z, p, q, i, j]) (hSa : S ≠ a) (hSb : S ≠ b)
       (hR : ∀ H' s' acc, Inv X pins σ H' s' → Cur X.K σ H1 F1 e1 H' F1 e1 → H' S = some (.lst acc) → RpL X.K H' F1 (zipD ds es) acc → R (.ok (.ret .none)) s') :
    ∀ (m k : Nat) (s : Shared) (H2 : Hp) (acc : List V), (zipD ds es).length - k = m → k ≤ (zipD ds es).length → Inv X pins σ H2 s → Cur X.K σ H1 F1 e1 H2 F1 e1 → H2 S = some (.lst acc) → RpL X.K H2 F1 ((zipD ds es).take k) acc → SkH H2 a xs kx → SkH H2 b ys ky →
      (∀ c ∈ [z, p, q, i, j], FpOk X pins H2 c) → ZSt s.heap z p q i j S → IsPair s.heap p (.ref i) (.ref j) → SkIt s.heap i a k kx → SkIt s.heap j b k ky → (∀ c ∈ [z, p, q, i, j], c < s.heap.objs.size) →
      codeAny (model X.prog X.w) A (.builtin "list.extend.loop" ⟨[.ref S, .ref z, .none], []⟩) R s
  | 0, k, s, H2, acc, hm, hk, I, c2, h2, r2, ha, hb, fp, st, hp, h1, h3, lc => by
    have ek : k = (zipD ds es).length := by omega
    rw [ek, List.take_length] at r2
    obtain ⟨us, ru, pu⟩ := sk_get I ha.at
    obtain ⟨ws, rw', pw⟩ := sk_get I hb.at
    refine codeAny_builtin PySem.F.entry_extend_loop ?_
    rw [Around.under_plainId PySem.F.plain_extend_loop _]
    show wpAny _ A.in1 (pyNext (.ref z) >>= _) _ _ s
    have e1 := ru.length
    have e2 := rw'.length
    have e3 := ra.length
    have e4 := rb.length
    have ez : k = min ds.length es.length := by rw [ek]; unfold zipD; rw [List.length_map, List.length_zip]
    refine wpAny_bind (zst_end (A := A.in1) hh D st hp h1 h3 pu pw (by rw [List.size_toArray]; omega) (by rw [List.size_toArray]; omega) (by simp only [List.size_toArray]; omega) fun h' tk kp => ?_)
    exact wpAny_pure (hR H2 _ acc (I.turnedL (t' := tk) (ch := [z, p, q, i, j]) (fun c o hc e => kp c o (fun y => hc (by simp [y])) (fun y => hc (by simp [y])) (fun y => hc (by simp [y])) (fun y => hc (by simp [y])) e) fp) c2 h2 r2)
  | m + 1, k, s, H2, acc, hm, hk, I, c2, h2, r2, ha, hb, fp, st, hp, h1, h3, lc => by
    have hlt : k < (zipD ds es).length := by omega
    obtain ⟨us, ru, pu⟩ := sk_get I ha.at
    obtain ⟨ws, rw', pw⟩ := sk_get I hb.at
    have ez : (zipD ds es).length = min ds.length es.length := by unfold zipD; rw [List.length_map, List.length_zip]
    have e3 := ra.length
    have e4 := rb.length
    have lk : k < ds.length := by omega
    have lk2 : k < es.length := by omega
    obtain ⟨x, hx, rx⟩ := ra.get (List.getElem?_eq_getElem lk)
    obtain ⟨y, hy, ry⟩ := rb.get (List.getElem?_eq_getElem lk2)
    obtain ⟨u, hu, rxu⟩ := ru.get hx
    obtain ⟨v, hv, ryv⟩ := rw'.get hy
    have hSl : S < s.heap.objs.size := I.hok.lt h2
    refine codeAny_builtin PySem.F.entry_extend_loop ?_
    rw [Around.under_plainId PySem.F.plain_extend_loop _]
    show wpAny _ A.in1 (pyNext (.ref z) >>= _) _ _ s
    refine wpAny_bind (zst_item (A := A.in1) hh D st hSl hp h1 h3 pu pw (x := u) (y := v) (by simpa using hu) (by simpa using hv) fun h' tk st' i' j' t' sz kp => ?_)
    have nT : H2 s.heap.objs.size = none := I.hok.fresh (Nat.le_refl _)
    have cT : ∀ c, c ∈ [z, p, q, i, j] → c ≠ s.heap.objs.size := fun c hc => Nat.ne_of_lt (lc c hc)
    have nST : S ≠ s.heap.objs.size := Nat.ne_of_lt hSl
    -- the pair is tracked
    have I1 := I.turnedNew (t' := tk) (ch := [z, p, q, i, j]) (h' := h') (ob := .frz { cls := .type "tuple", data := .seq #[u, v] } (.tup [x, y]))
      (fun c o hc e => kp c o (fun y => hc (by simp [y])) (fun y => hc (by simp [y])) (fun y => hc (by simp [y])) (fun y => hc (by simp [y])) e) fp (Nat.le_refl _)
      ⟨t', (by show 2 ≤ sizeLine; decide), [u, v], .cons rxu (.cons ryv .nil), ⟨_, t', rfl, _, rfl⟩⟩
    have cA := laid_cur (u := .frz { cls := .type "tuple", data := .seq #[u, v] } (.tup [x, y])) c2.er nT
    have hSA : upd H2 s.heap.objs.size (.frz { cls := .type "tuple", data := .seq #[u, v] } (.tup [x, y])) S = some (.lst acc) := by rw [upd_ne nST]; exact h2
    have rT := new_tup (o := { cls := .type "tuple", data := .seq #[u, v] }) (T := s.heap.objs.size) rfl nT (.cons (rx.ext c2.e) (.cons (ry.ext c2.e) .nil))
    -- it is put at the list's end
    obtain ⟨its, n, rv, hS, hz⟩ := I1.lst hSA
    obtain ⟨n', hpu⟩ := push_seq its n (.ref s.heap.objs.size)
    have elen : acc.length = k := by
      have := r2.length
      rw [List.length_take] at this
      omega
    have hsz : (acc ++ [V.ref s.heap.objs.size]).length ≤ sizeLine := by rw [List.length_append, List.length_singleton]; omega
    have I2 := I1.lstUpd hSA hS hpu (rv.append (.cons (show RelV (.ref s.heap.objs.size) (.ref s.heap.objs.size) from rfl) .nil)) hsz tk
    obtain ⟨cB, eB⟩ := grow_cur (u' := .lst (acc ++ [.ref s.heap.objs.size])) (c2.trans cA) nS hSA (fun _ z => nomatch z) (fun _ _ z => nomatch z) nF
    show wpAny _ A.in1 (updateSeq S (·.push (.ref s.heap.objs.size)) >>= _) _ _ _
    have il := rv.length
    refine wpAny_bind (wpAny_updateSeq hS rfl (wpAny_pure ⟨plainId_quiet PySem.F.plain_extend_loop _, ?_⟩) (by simp only [List.size_toArray]; omega) (by simp only [Array.size_push, List.size_toArray]; omega))
    have kS : ∀ c o, c ≠ S → h'.get? c = some o → (h'.update S (Obj.mapSeq (·.push (.ref s.heap.objs.size)))).get? c = some o := fun c o hc e => (Heap.get?_update_other _ _ (Ne.symm hc)).trans e
    have nc : ∀ c, c ∈ [z, p, q, i, j] → c ≠ S := fun c hc e => hSc (e ▸ hc)
    have take : (zipD ds es).take (k + 1) = (zipD ds es).take k ++ [.tuple [ds[k], es[k]]] := by
      rw [List.take_succ, List.getElem?_eq_getElem hlt]
      congr 1
      simp [zipD]
    refine zl_loop (kx := kx) (ky := ky) hh D ra rb hl nS nF hSc hSa hSb hR m (k + 1) _ _ _ (by omega) hlt I2 cB upd_same ?_ ?_ ?_ ?_ ?_ ?_ ?_ ?_ ?_
    · rw [take]
      exact ((r2.ext cA.e).append (.one rT)).ext eB
    · exact (ha.upd (ha.ne nT)).upd (Ne.symm hSa)
    · exact (hb.upd (hb.ne nT)).upd (Ne.symm hSb)
    · exact fun c hc => fpUpd (fpUpd (fp c hc) (cT c hc)) (nc c hc)
    · rcases st' with ⟨a', b', z1, z2⟩ | ⟨T, f, oT, z1, z2, n1, n2, n3, n4, n5⟩
      · exact .inl ⟨a', b', kS _ _ (nc z (by simp)) z1, kS _ _ (nc q (by simp)) z2⟩
      · exact .inr ⟨T, f, oT, kS _ _ (nc z (by simp)) z1, kS _ _ n5 z2, n1, n2, n3, n4, n5⟩
    · exact kS _ _ (nc p (by simp)) (kp _ _ D.s.TIz D.s.TITO D.s.TIi1 D.s.TIi2 hp)
    · exact sk_at i' fun o e => kS _ _ (nc i (by simp)) e
    · exact sk_at j' fun o e => kS _ _ (nc j (by simp)) e
    · intro c hc
      have := lc c hc
      show c < (h'.update S (Obj.mapSeq (·.push (.ref s.heap.objs.size)))).objs.size
      rw [Heap.size_update, sz]
      exact Nat.lt_succ_of_lt this
end

theorem zip_no_len : typeLookup (.type "zip") "__len__" = pure none := am_miss_of_fast (by decide +kernel)
theorem zip_no_hint : typeLookup (.type "zip") "__length_hint__" = pure none := am_miss_of_fast (by decide +kernel)
section
variable {X : Cx} {e e2 : Expr} {t u : DT} {p1 p2 pos pos2 : Pos}
def dLZip (t u : DT) : DT := fun env Q => t env fun o e1 => u e1 fun o2 e2 => ∃ d e ds es, o.get e2 = some d ∧ o2.get e2 = some e ∧ seqD d = some ds ∧ seqD e = some es ∧ Q (.nw (.list (zipD ds es))) e2
theorem de_listZip (hc : X.calm = true) (hl : X.mg "list" = none) (hz : X.mg "zip" = none) (ha : DE X e t) (hb : DE X e2 u) (gl : Gl X "list" := by rfl) (gz : Gl X "zip" := by rfl) (h1 : starEach [e, e2] X.env = (false, eval e X.env) :: starEach [e2] X.env := by rfl) (h2 : starEach [e2] X.env = (false, eval e2 X.env) :: starEach [] X.env := by rfl)
    (hpl : (backTo pos2 (starEach [e2] X.env)).any (·.1) = false := by rfl) (nb : starEach [.Call (.Name "zip" p2) [e, e2] [] pos2] X.env = (false, eval (.Call (.Name "zip" p2) [e, e2] [] pos2) X.env) :: starEach [] X.env := by rfl) :
    DE X (.Call (.Name "list" p1) [.Call (.Name "zip" p2) [e, e2] [] pos2] [] pos) (dLZip t u) := by
  refine ⟨fun pins s σ H Q I h => ?_⟩
  refine PyProof.Rows.Call_ (ld_blt I gl hl PyProof.Rows.boot_list (PyProof.Rows.callWith_type1 (PyProof.Rows.args_cons ?_ nb) nb))
  refine PyProof.Rows.Call_ (ld_blt I gz hz PyProof.Rows.boot_zip (PyProof.Rows.callWith_type1 ?_ h1 hpl))
  have both := (pa_two ha hb h1 h2).run pos2 pins s σ H (fun vs H' => ∃ a b xs ys ds es F' env' kx ky, vs = [.ref a, .ref b] ∧ Cur X.K σ H' F' env' H' F' env' ∧ SkH H' a xs kx ∧ SkH H' b ys ky ∧ RpL X.K H' F' ds xs ∧ RpL X.K H' F' es ys ∧ Fin X.K σ H' F' env' Q (.nw (.list (zipD ds es)))) I (by
    obtain ⟨F, env, R, er, q, k⟩ := h
    refine lift_op (.refl er) q fun o1 e1 x H1 F1 q1 c1 _ p1 => ?_
    refine lift_op c1 q1 fun o2 e2 y H2 F2 q2 c2 c12 p2 => ?_
    obtain ⟨dd, ee, ds, es, g1, g2, s1, s2, q2⟩ := q2
    obtain ⟨a, xs, kx, rfl, hx, ra⟩ := ((p1.cur c12).ob c2.er g1).skH s1
    obtain ⟨b, ys, ky, rfl, hy, rb⟩ := (p2.ob c2.er g2).skH s2
    exact ⟨a, b, xs, ys, ds, es, F2, e2, kx, ky, rfl, .refl c2.er, hx, hy, ra, rb, c2.fin q2 k⟩)
  refine thn both fun us s1 ⟨vs, H1, I1, r1, a, b, xs, ys, ds, es, F1, env1, kx, ky, ev, c1, hx, hy, ra, rb, fin⟩ => ?_
  subst ev
  cases r1 with
  | cons ra' rr =>
    cases rr with
    | cons rb' rr =>
      cases rr
      cases ra'
      cases rb'
      obtain ⟨us, ru, pu⟩ := sk_get I1 hx.at
      obtain ⟨ws, rw', pw⟩ := sk_get I1 hy.at
      have la : a < s1.heap.objs.size := sk_lt pu
      have lb : b < s1.heap.objs.size := sk_lt pw
      have zu : xs.length ≤ sizeLine := by
        cases kx
        · obtain ⟨_, _, _, z⟩ := I1.list (SqL.of hx); exact z
        · obtain ⟨_, _, _, z⟩ := I1.tuple (TpAt.sq hx); exact z
      have ez : (zipD ds es).length = min ds.length es.length := by unfold zipD; rw [List.length_map, List.length_zip]
      have hlen : (zipD ds es).length ≤ sizeLine := by have := ra.length; omega
      refine zip_begins2 (sk_begins kx a us.toArray) (sk_begins ky b ws.toArray) pu pw fun h' hz' hT hO g1 g2 sz kp => PyProof.Rows.args_nil ?_
      -- list(z)
      have I2 : Inv X pins σ H1 { s1 with heap := h' } := I1.kept (t' := s1.toks) kp
      have fp : ∀ c ∈ [s1.heap.objs.size + 4, s1.heap.objs.size + 2, s1.heap.objs.size + 3, s1.heap.objs.size, s1.heap.objs.size + 1], FpOk X pins H1 c ∧ c < h'.objs.size := fun c hc => by
        have hc : c = s1.heap.objs.size + 4 ∨ c = s1.heap.objs.size + 2 ∨ c = s1.heap.objs.size + 3 ∨ c = s1.heap.objs.size ∨ c = s1.heap.objs.size + 1 := by simpa using hc
        have hle : s1.heap.objs.size ≤ c := by
          rcases hc with e | e | e | e | e <;> rw [e] <;> first | exact Nat.le_add_right _ _ | exact Nat.le_refl _
        refine ⟨I1.fpOk hle (I1.hok.fresh hle), ?_⟩
        rw [sz]
        have lt5 : ∀ n : Nat, n + 4 < n + 5 ∧ n + 2 < n + 5 ∧ n + 3 < n + 5 ∧ n < n + 5 ∧ n + 1 < n + 5 := fun n => by omega
        obtain ⟨l1, l2, l3, l4, l5⟩ := lt5 s1.heap.objs.size
        rcases hc with e | e | e | e | e <;> rw [e] <;> assumption
      have D := zsep s1.heap.objs.size a b la lb
      have nS : H1 h'.objs.size = none := I2.hok.fresh (Nat.le_refl _)
      have hS : (h'.push { cls := .type "list", data := .seq #[] }).get? h'.objs.size = some { cls := .type "list", data := .seq #[] } := Heap.get?_push_size _ rfl
      refine callType_codes (Q₁ := fun obj s₁ => obj = .ref h'.objs.size ∧ s₁ = { s1 with heap := h'.push { cls := .type "list", data := .seq #[] } }) PySem.F.called_list (PySem.F.typeCall_list_1 _) PySem.F.entry_list_init
        (code_list_new _ ⟨rfl, rfl⟩) fun obj s₁ h₁ => ?_
      obtain ⟨rfl, rfl⟩ := h₁
      refine ⟨⟨_, hS, rfl⟩, PySem.F.args_list_init_2 _ _, ?_⟩
      show wpAny _ _ (do let old ← Builtin.List.listItems (.ref h'.objs.size); Builtin.List.listUpdate (.ref h'.objs.size) (fun _ => #[]); letGo old.toList.reverse; Builtin.List.listExtendWith (.ref h'.objs.size) (.ref (s1.heap.objs.size + 4)) .none) _ _ _
      refine wpAny_bind ?_
      unfold Builtin.List.listItems
      refine wpAny_bind (wpAny_seqItems hS rfl (wpAny_pure ?_))
      show wpAny _ _ (updateSeq h'.objs.size (fun _ => #[]) >>= fun _ => letGo (#[] : Array Value).toList.reverse >>= fun _ => Builtin.List.listExtendWith (.ref h'.objs.size) (.ref (s1.heap.objs.size + 4)) .none) _ _ _
      refine wpAny_bind (wpAny_updateSeq hS rfl ?_)
      have hS2 := Heap.get?_update_self (Obj.mapSeq (fun _ => (#[] : Array Value))) hS rfl
      refine wpAny_bind (wpAny_letGo ?_)
      have up1 : ∀ c o, c ≠ h'.objs.size → h'.get? c = some o → ((h'.push { cls := .type "list", data := .seq #[] }).update h'.objs.size (Obj.mapSeq (fun _ => (#[] : Array Value)))).get? c = some o :=
        fun c o hc e => (Heap.get?_update_other _ _ (Ne.symm hc)).trans (Heap.get?_push_of_some _ e)
      have nz : s1.heap.objs.size + 4 ≠ h'.objs.size := by rw [sz]; exact Nat.ne_of_lt (Nat.lt_succ_self _)
      have zz := up1 _ _ nz hz'
      have tz : ∀ {hh : Heap}, hh.get? (s1.heap.objs.size + 4) = some { cls := .type "zip", dict := none, data := .fields #[.none, .bool false, .bool false, .ref (s1.heap.objs.size + 2), .ref (s1.heap.objs.size + 3)], slots := #[] } → ({ s1 with heap := hh } : Shared).TypeIs (.ref (s1.heap.objs.size + 4)) "zip" := fun e => ⟨_, e, rfl⟩
      unfold Builtin.List.listExtendWith
      refine wpAny_bind (wpAny_typeOf (tz zz) ?_)
      have k1 : Builtin.List.listSameRef (.ref h'.objs.size) (.ref (s1.heap.objs.size + 4)) = false := by simp [Builtin.List.listSameRef]; exact fun y => nz y.symm
      have k2 : (Value.type "zip" == Value.type "list") = false := by decide
      have k3 : (Value.type "zip" == Value.type "tuple") = false := by decide
      simp only [k1, k2, k3, Bool.or_false, Bool.false_eq_true, if_false]
      refine wpAny_bind (wpAny_pyIter_zip zz ?_)
      refine wpAny_bind (wpAny_holding ?_)
      unfold Builtin.List.listLengthHint
      refine wpAny_bind (wpAny_specialOf (tz zz) zip_no_len ?_)
      show wpAny _ _ (specialOf (Value.ref (s1.heap.objs.size + 4)) (Str.ofString "__length_hint__") >>= _) _ _ _
      refine wpAny_bind (wpAny_specialOf (tz zz) zip_no_hint ?_)
      refine wpAny_pure ?_
      show wpAny _ _ (rule "list.extend.makes-room" >>= fun _ => Builtin.List.listTouch (.ref h'.objs.size) >>= fun _ => again (.builtin "list.extend.loop" ⟨[.ref h'.objs.size, .ref (s1.heap.objs.size + 4), .none], []⟩)) _ _ _
      refine wpAny_bind (wpAny_rule ?_)
      refine wpAny_bind ?_
      show wpAny _ _ (updateSeq h'.objs.size (·.push .none) >>= fun _ => updateSeq h'.objs.size (·.pop)) _ _ _
      refine wpAny_bind (wpAny_updateSeq hS2 rfl ?_)
      have hS3 := Heap.get?_update_self (Obj.mapSeq (·.push Value.none)) hS2 rfl
      refine wpAny_updateSeq (hz := by seq_fits) hS3 rfl ?_
      have hS4 := Heap.get?_update_self (Obj.mapSeq (·.pop)) hS3 rfl
      have up : ∀ c o, c ≠ h'.objs.size → h'.get? c = some o → ((((h'.push { cls := .type "list", data := .seq #[] }).update h'.objs.size (Obj.mapSeq (fun _ => (#[] : Array Value)))).update h'.objs.size (Obj.mapSeq (·.push Value.none))).update h'.objs.size (Obj.mapSeq (·.pop))).get? c = some o :=
        fun c o hc e => (Heap.get?_update_other _ _ (Ne.symm hc)).trans ((Heap.get?_update_other _ _ (Ne.symm hc)).trans (up1 c o hc e))
      have upk : ∀ c o, h'.get? c = some o → ((((h'.push { cls := .type "list", data := .seq #[] }).update h'.objs.size (Obj.mapSeq (fun _ => (#[] : Array Value)))).update h'.objs.size (Obj.mapSeq (·.push Value.none))).update h'.objs.size (Obj.mapSeq (·.pop))).get? c = some o :=
        fun c o e => up c o (Nat.ne_of_lt (Heap.lt_size e)) e
      have I3 := I2.laid (t' := s1.toks) (o := .lst []) upk (Nat.le_refl _) (show ObjOk X.prog X.w _ _ _ (.lst []) from ⟨Nat.zero_le _, [], _, .nil, hS4⟩)
      have cS := laid_cur (u := .lst []) c1.er nS
      have cl : ∀ c, c ∈ [s1.heap.objs.size + 4, s1.heap.objs.size + 2, s1.heap.objs.size + 3, s1.heap.objs.size, s1.heap.objs.size + 1] → c ≠ h'.objs.size := fun c hc => Nat.ne_of_lt (fp c hc).2
      refine wpAny_pure ⟨plainId_quiet PySem.F.plain_extend_loop _, zl_loop (X := X) (A := X.A.in1) (kx := kx) (ky := ky) (I.ok.hd hc) D ra rb hlen nS (fun z => c1.er.liv _ z nS) (fun y => cl _ y rfl) (Ne.symm (hx.ne nS)) (Ne.symm (hy.ne nS)) (fun H' s' acc I' c' hA rA => ?_) _ 0 _ _ [] rfl (Nat.zero_le _) I3 cS upd_same (by rw [List.take_zero]; exact .nil) ?_ ?_ (fun c hc => fpUpd (fp c hc).1 (cl c hc)) (.inl ⟨_, _, up _ _ nz hz', up _ _ (cl _ (by simp)) hO⟩) (up _ _ (cl _ (by simp)) hT) (sk_at (sk_first (k := kx) g1) fun o e => up _ _ (cl _ (by simp)) e) (sk_at (sk_first (k := ky) g2) fun o e => up _ _ (cl _ (by simp)) e) (fun c hc => ?_)⟩
      · exact ⟨rfl, .ref h'.objs.size, H', I', rfl, fin _ _ _ c' ⟨_, rfl, nS, fun z => c'.er.liv _ z (by
          have := c1.er.liv _ z
          exact absurd nS this), acc, hA, rA⟩⟩
      · exact hx.upd (hx.ne nS)
      · exact hy.upd (hy.ne nS)
      · have := (fp c hc).2
        show c < ((((h'.push { cls := .type "list", data := .seq #[] }).update h'.objs.size (Obj.mapSeq (fun _ => (#[] : Array Value)))).update h'.objs.size (Obj.mapSeq (·.push Value.none))).update h'.objs.size (Obj.mapSeq (·.pop))).objs.size
        rw [Heap.size_update, Heap.size_update, Heap.size_update, Heap.size_push]
        exact Nat.lt_succ_of_lt this
end


/-! ### dict(pairs), dict(d) -/
def pairsD : List D → Option (List (D × D))
  | [] => some []
  | .tuple [k, v] :: r => match keyK k with
    | some _ => (pairsD r).map ((k, v) :: ·)
    | none => none
  | _ => none
def dmerge (acc ps : List (D × D)) : List (D × D) := ps.foldl (fun a p => dset a p.1 p.2) acc
def gDict : List D → Option O
  | [.list ds] => (pairsD ds).map fun ps => .nw (.dict (dmerge [] ps))
  | [.dict kvs] => some (.nw (.dict kvs))
  | _ => none
def rDictP (K : PySem.W.Frag) : List V → Hp → VK → Prop := fun xs H Q => ∃ (a : Addr) (ps : List Addr) (kvs : List (Key × V)), xs = [.ref a] ∧ SqL K H a (ps.map V.ref) ∧ Paired (fun p kv => SqT K H p [kV kv.1, kv.2]) ps kvs ∧ ∀ p, H p = none → Q (.ref p) (upd H p (.dK (mergeK [] kvs)))
def rDictC : List V → Hp → VK → Prop := fun xs H Q => ∃ a kvs, xs = [.ref a] ∧ Rd H a (.dK kvs) ∧ ∀ p, H p = none → Q (.ref p) (upd H p (.dK kvs))
theorem call_dict2 {X : Cx} (hc : X.calm = true) : CallR X (.type "dict") (fun xs H Q => rDictP X.K xs H Q ∨ rDictC xs H Q) := CallR.or (call_dictP hc) (by
  intro pins s σ H xs us Q I r ⟨a, kvs, e, hk, q⟩
  subst e
  obtain ⟨u, rfl, rx⟩ := vals1 r
  cases rx
  exact d_copyOf I hk fun p s' n I' => ⟨.ref p, _, I', rfl, q p n⟩)
theorem dc_merge {K : PySem.W.Frag} {H : Hp} {F : Fz} : ∀ {ps : List (D × D)} {kvs : List (Key × V)} {acc : List (D × D)} {l : List (Key × V)}, Paired (fun p kv => keyK p.1 = some kv.1 ∧ Rp K H F p.2 kv.2) ps kvs → DcAt K H F acc l → DcAt K H F (dmerge acc ps) (mergeK l kvs)
  | _, _, _, _, .nil, h => h
  | _, _, _, _, .cons r t, h => by
    have := dc_merge t (h.put r.1 r.2)
    exact this
theorem pairs_ok {K : PySem.W.Frag} {H : Hp} {F : Fz} : ∀ {ds : List D} {xs : List V} {ps : List (D × D)}, RpL K H F ds xs → pairsD ds = some ps → ∃ (as : List Addr) (kvs : List (Key × V)), xs = as.map V.ref ∧ Paired (fun p kv => SqT K H p [kV kv.1, kv.2]) as kvs ∧ Paired (fun p kv => keyK p.1 = some kv.1 ∧ Rp K H F p.2 kv.2) ps kvs
  | [], _, ps, .nil, h => by cases h; exact ⟨[], [], rfl, .nil, .nil⟩
  | d :: ds, _, ps, .cons r t, h => by
    unfold pairsD at h
    split at h
    · rename_i e; cases e
    · rename_i k v r' e
      cases e
      cases ek : keyK k with
      | none => rw [ek] at h; cases h
      | some kk =>
        rw [ek] at h
        obtain ⟨ps', h1, rfl⟩ := Option.map_eq_some_iff.mp h
        obtain ⟨as, kvs, rfl, p1, p2⟩ := pairs_ok t h1
        cases r with
        | tup ha rr =>
          cases rr with
          | cons ra rr => cases rr with
            | cons rb rr =>
              cases rr
              have ex := Ob.key (.inl ra) ek
              subst ex
              exact ⟨_ :: as, (kk, _) :: kvs, rfl, .cons ha.sq p1, .cons ⟨ek, rb⟩ p2⟩
    · cases h
theorem gDict_ok {K : PySem.W.Frag} : CROk K (fun xs H Q => rDictP K xs H Q ∨ rDictC xs H Q) gDict := by
  intro σ H F env vs ds o Q er ob hg f
  unfold gDict at hg
  split at hg
  · obtain ⟨ps, hp, rfl⟩ := Option.map_eq_some_iff.mp hg
    obtain ⟨v, rfl, r⟩ := ob1 ob
    obtain ⟨a, xs, rfl, h, r⟩ := r.list
    obtain ⟨as, kvs, rfl, p1, p2⟩ := pairs_ok r hp
    refine .inl ⟨a, as, kvs, rfl, .of h, p1, fun p n => ?_⟩
    have dc : DcAt K H F (dmerge [] ps) (mergeK [] kvs) := dc_merge p2 ⟨rfl, .nil⟩
    exact f.dic er dc.2 n ⟨_, upd_same, dc.1, rfl⟩
  · cases hg
    obtain ⟨v, rfl, r⟩ := ob1 ob
    obtain ⟨a, vs, rfl, ⟨l, hl, e1, e2⟩, r⟩ := r.dict
    refine .inr ⟨a, l, rfl, hl, fun p n => ?_⟩
    exact f.dic er r n ⟨l, upd_same, e1, e2⟩
  · cases hg
theorem de_dict {X : Cx} {p pos : Pos} {e : Expr} {es : List Expr} {ta : DA} (hc : X.calm = true) (hm : X.mg "dict" = none) (ha : DAr X (e :: es) ta) (gl : Gl X "dict" := by rfl) (he : starEach (e :: es) X.env = (false, eval e X.env) :: starEach es X.env := by rfl) (hpl : (backTo pos (starEach es X.env)).any (·.1) = false := by rfl) : DE X (.Call (.Name "dict" p) (e :: es) [] pos) (dB gDict ta) :=
  de_Ty (call_dict2 hc) gDict_ok hm (by decide +kernel) ha gl (by decide) (by decide) he hpl
end DL
end
section
set_option Elab.async false
set_option linter.all false
set_option maxRecDepth 100000
/-! DL16: the forms that the printed derivations use (printed by mkDL16.py). -/
namespace DL
open PySem PySem.Spec L2
theorem MtM.mr {X : Cx} {id : String} {r : V → List V → Hp → VK → Prop} (h : MtM X id r) : MtR X id r := h
section
variable {X : Cx} {x : Str} {e o : Expr} {es : List Expr} {ta : DA} {to : DT} {p apos cpos : Pos}

theorem de_append (i : Nat) (ha : DAr X (e :: es) ta) (hN : X.N[i]? = some x := by rfl) (hx : Vis X.env.scope x := by first | exact Or.inl rfl | exact Or.inr (Or.inl rfl) | exact Or.inr (Or.inr rfl)) (hd : (x == ("__debug__" : Str)) = false := by decide) (hcd : (x == ("__classdict__" : Str)) = false := by decide)
    (hbase : attributeBase (.Name x p) "append" X.env (eval (.Name x p) X.env) = eval (.Name x p) X.env := by rfl)
    (hfew : ((backTo cpos (starEach (e :: es) X.env)).all (fun x => !x.1) && (backToKw cpos (keywordEach [] X.env)).all (fun x => x.1.isSome) && decide ((e :: es).length + ([] : List Keyword).length + (if ([] : List Keyword).isEmpty then 0 else 1) < 30)) = true := by rfl)
    (hline : (apos.endLine == cpos.line) = true := by rfl) (hs : starEach (e :: es) X.env = (false, eval e X.env) :: starEach es X.env := by rfl) (hpl : (backTo cpos (starEach es X.env)).any (·.1) = false := by rfl) :
    DE X (.Call (.Attribute (.Name x p) "append" apos) (e :: es) [] cpos) (dMutL i gAppend ta) :=
  PE.imp (pe_bm PySem.F.plainAttrs_list PySem.F.slot_list_append PySem.F.type_list_append mt_append (pv i hN hx hd hcd) ha hbase hfew hline hs hpl) (lift_mutL i gAppend_ok)

theorem de_extend (i : Nat) (ha : DAr X (e :: es) ta) (hN : X.N[i]? = some x := by rfl) (hx : Vis X.env.scope x := by first | exact Or.inl rfl | exact Or.inr (Or.inl rfl) | exact Or.inr (Or.inr rfl)) (hd : (x == ("__debug__" : Str)) = false := by decide) (hcd : (x == ("__classdict__" : Str)) = false := by decide)
    (hbase : attributeBase (.Name x p) "extend" X.env (eval (.Name x p) X.env) = eval (.Name x p) X.env := by rfl)
    (hfew : ((backTo cpos (starEach (e :: es) X.env)).all (fun x => !x.1) && (backToKw cpos (keywordEach [] X.env)).all (fun x => x.1.isSome) && decide ((e :: es).length + ([] : List Keyword).length + (if ([] : List Keyword).isEmpty then 0 else 1) < 30)) = true := by rfl)
    (hline : (apos.endLine == cpos.line) = true := by rfl) (hs : starEach (e :: es) X.env = (false, eval e X.env) :: starEach es X.env := by rfl) (hpl : (backTo cpos (starEach es X.env)).any (·.1) = false := by rfl) :
    DE X (.Call (.Attribute (.Name x p) "extend" apos) (e :: es) [] cpos) (dMutL i gExtend ta) :=
  PE.imp (pe_bm PySem.F.plainAttrs_list PySem.F.slot_list_extend PySem.F.type_list_extend mt_extend (pv i hN hx hd hcd) ha hbase hfew hline hs hpl) (lift_mutL i gExtend_ok)

theorem de_insert (i : Nat) (ha : DAr X (e :: es) ta) (hN : X.N[i]? = some x := by rfl) (hx : Vis X.env.scope x := by first | exact Or.inl rfl | exact Or.inr (Or.inl rfl) | exact Or.inr (Or.inr rfl)) (hd : (x == ("__debug__" : Str)) = false := by decide) (hcd : (x == ("__classdict__" : Str)) = false := by decide)
    (hbase : attributeBase (.Name x p) "insert" X.env (eval (.Name x p) X.env) = eval (.Name x p) X.env := by rfl)
    (hfew : ((backTo cpos (starEach (e :: es) X.env)).all (fun x => !x.1) && (backToKw cpos (keywordEach [] X.env)).all (fun x => x.1.isSome) && decide ((e :: es).length + ([] : List Keyword).length + (if ([] : List Keyword).isEmpty then 0 else 1) < 30)) = true := by rfl)
    (hline : (apos.endLine == cpos.line) = true := by rfl) (hs : starEach (e :: es) X.env = (false, eval e X.env) :: starEach es X.env := by rfl) (hpl : (backTo cpos (starEach es X.env)).any (·.1) = false := by rfl) :
    DE X (.Call (.Attribute (.Name x p) "insert" apos) (e :: es) [] cpos) (dMutL i gInsert ta) :=
  PE.imp (pe_bm PySem.F.plainAttrs_list PySem.F.slot_list_insert PySem.F.type_list_insert mt_insert (pv i hN hx hd hcd) ha hbase hfew hline hs hpl) (lift_mutL i gInsert_ok)

theorem de_pop (i : Nat) (hN : X.N[i]? = some x := by rfl) (hx : Vis X.env.scope x := by first | exact Or.inl rfl | exact Or.inr (Or.inl rfl) | exact Or.inr (Or.inr rfl)) (hd : (x == ("__debug__" : Str)) = false := by decide) (hcd : (x == ("__classdict__" : Str)) = false := by decide)
    (hbase : attributeBase (.Name x p) "pop" X.env (eval (.Name x p) X.env) = eval (.Name x p) X.env := by rfl) (hline : (apos.endLine == cpos.line) = true := by rfl) :
    DE X (.Call (.Attribute (.Name x p) "pop" apos) [] [] cpos) (dMutL i gPop aNil) :=
  PE.imp (pe_bm0 PySem.F.plainAttrs_list PySem.F.slot_list_pop PySem.F.type_list_pop mt_pop (pv i hN hx hd hcd) hbase hline) (lift_mutL0 i gPop_ok)

theorem de_reverse (i : Nat) (hN : X.N[i]? = some x := by rfl) (hx : Vis X.env.scope x := by first | exact Or.inl rfl | exact Or.inr (Or.inl rfl) | exact Or.inr (Or.inr rfl)) (hd : (x == ("__debug__" : Str)) = false := by decide) (hcd : (x == ("__classdict__" : Str)) = false := by decide)
    (hbase : attributeBase (.Name x p) "reverse" X.env (eval (.Name x p) X.env) = eval (.Name x p) X.env := by rfl) (hline : (apos.endLine == cpos.line) = true := by rfl) :
    DE X (.Call (.Attribute (.Name x p) "reverse" apos) [] [] cpos) (dMutL i gReverse aNil) :=
  PE.imp (pe_bm0 PySem.F.plainAttrs_list PySem.F.slot_list_reverse PySem.F.type_list_reverse mt_reverse (pv i hN hx hd hcd) hbase hline) (lift_mutL0 i gReverse_ok)

theorem de_clear (i : Nat) (hN : X.N[i]? = some x := by rfl) (hx : Vis X.env.scope x := by first | exact Or.inl rfl | exact Or.inr (Or.inl rfl) | exact Or.inr (Or.inr rfl)) (hd : (x == ("__debug__" : Str)) = false := by decide) (hcd : (x == ("__classdict__" : Str)) = false := by decide)
    (hbase : attributeBase (.Name x p) "clear" X.env (eval (.Name x p) X.env) = eval (.Name x p) X.env := by rfl) (hline : (apos.endLine == cpos.line) = true := by rfl) :
    DE X (.Call (.Attribute (.Name x p) "clear" apos) [] [] cpos) (dMutL i gClear aNil) :=
  PE.imp (pe_bm0 PySem.F.plainAttrs_list PySem.F.slot_list_clear PySem.F.type_list_clear mt_clear (pv i hN hx hd hcd) hbase hline) (lift_mutL0 i gClear_ok)

theorem de_tindex (ho : DE X o to) (ha : DAr X (e :: es) ta)
    (hbase : attributeBase o "index" X.env (eval o X.env) = eval o X.env := by rfl)
    (hfew : ((backTo cpos (starEach (e :: es) X.env)).all (fun x => !x.1) && (backToKw cpos (keywordEach [] X.env)).all (fun x => x.1.isSome) && decide ((e :: es).length + ([] : List Keyword).length + (if ([] : List Keyword).isEmpty then 0 else 1) < 30)) = true := by rfl)
    (hline : (apos.endLine == cpos.line) = true := by rfl) (hs : starEach (e :: es) X.env = (false, eval e X.env) :: starEach es X.env := by rfl) (hpl : (backTo cpos (starEach es X.env)).any (·.1) = false := by rfl) :
    DE X (.Call (.Attribute o "index" apos) (e :: es) [] cpos) (dMt gIndexT isTupD to ta) :=
  PE.imp (pe_tm PySem.F.plainAttrs_tuple PySem.F.slot_tuple_index PySem.F.type_tuple_index mt_tup_index ho ha hbase hfew hline hs hpl) (lift_tm gIndexT_ok)
end
end DL
end
section
set_option Elab.async false
set_option linter.all false
set_option maxRecDepth 100000
/-! DL17: a freeze that may find nothing to do; the built-ins' names. -/
namespace DL
open PySem PySem.Spec L2
def sFrz (i : Nat) (t : DS) : DS := fun env E => match env[i]? with
  | some (.ow false d) => t (env.set i (.fz d)) E
  | _ => t env E
theorem ds_frz {X : Cx} (i : Nat) {sts : List Stmt} {t : DS} (h : DSs X sts t) : DSs X sts (sFrz i t) := ⟨fun pins s σ H Dn I q => by
  obtain ⟨F, env, E, er, q, k⟩ := q
  unfold sFrz at q
  split at q
  · rename_i d hd
    exact (ds_freeze i h).run pins s σ H Dn I ⟨F, env, E, er, ⟨d, hd, q⟩, k⟩
  · exact h.run pins s σ H Dn I ⟨F, env, E, er, q, k⟩⟩
section
variable {mg : Str → Option Value}
theorem Blt.len (B : Blt mg) : mg "len" = none := B.all _ (by decide)
theorem Blt.list (B : Blt mg) : mg "list" = none := B.all _ (by decide)
theorem Blt.tuple (B : Blt mg) : mg "tuple" = none := B.all _ (by decide)
theorem Blt.int (B : Blt mg) : mg "int" = none := B.all _ (by decide)
theorem Blt.abs (B : Blt mg) : mg "abs" = none := B.all _ (by decide)
theorem Blt.min (B : Blt mg) : mg "min" = none := B.all _ (by decide)
theorem Blt.max (B : Blt mg) : mg "max" = none := B.all _ (by decide)
theorem Blt.all' (B : Blt mg) : mg "all" = none := B.all _ (by decide)
theorem Blt.any (B : Blt mg) : mg "any" = none := B.all _ (by decide)
theorem Blt.sum (B : Blt mg) : mg "sum" = none := B.all _ (by decide)
theorem Blt.range (B : Blt mg) : mg "range" = none := B.all _ (by decide)
theorem Blt.sorted (B : Blt mg) : mg "sorted" = none := B.all _ (by decide)
theorem Blt.repr (B : Blt mg) : mg "repr" = none := B.all _ (by decide)
theorem Blt.dict (B : Blt mg) : mg "dict" = none := B.all _ (by decide)
theorem Blt.enumerate (B : Blt mg) : mg "enumerate" = none := B.all _ (by decide)
theorem Blt.zip (B : Blt mg) : mg "zip" = none := B.all _ (by decide)
theorem Blt.isinstance (B : Blt mg) : mg "isinstance" = none := B.all _ (by decide)
theorem Blt.str (B : Blt mg) : mg "str" = none := B.all _ (by decide)
theorem Blt.bool (B : Blt mg) : mg "bool" = none := B.all _ (by decide)
theorem Blt.set (B : Blt mg) : mg "set" = none := B.all _ (by decide)
end
end DL
end
section
set_option Elab.async false
set_option linter.all false
set_option maxRecDepth 100000
/-! DL18: what is never reached; three names at once. -/
namespace DL
open PySem PySem.Spec PyProof.Rows L2

/-- an expression that no data reaches -/
def dNo : DT := fun _ _ => False
theorem de_no {X : Cx} {e : Expr} : DE X e dNo := ⟨fun pins s σ H Q I q => by
  obtain ⟨F, env, R, er, h, k⟩ := q
  exact h.elim⟩
def sNo : DS := fun _ _ => False
theorem ds_no {X : Cx} {st : Stmt} : DSt X st sNo := ⟨fun pins s σ H D I q => by
  obtain ⟨F, env, E, er, h, k⟩ := q
  exact h.elim⟩
theorem dss_no {X : Cx} {sts : List Stmt} : DSs X sts sNo := ⟨fun pins s σ H D I q => by
  obtain ⟨F, env, E, er, h, k⟩ := q
  exact h.elim⟩

/-! ### a, b, c = x, y, z -/
def sPar3 (i j l : Nat) (ta tb tc : DT) : DS := fun env E => ta env fun o1 e1 => tb e1 fun o2 e2 => tc e2 fun o3 e3 =>
  ∃ s1 s2 s3, o1.slot = some s1 ∧ o2.slot = some s2 ∧ o3.slot = some s3 ∧ notPin e3 i = true ∧ notPin e3 j = true ∧ notPin e3 l = true ∧ E.nx (((e3.set i s1).set j s2).set l s3)
section
variable {K : PySem.W.Frag} {σ : L2.St} {H0 H1 H2 H3 : Hp} {F0 F1 F2 F3 : Fz} {env0 e1 e2 e3 : SEnv} {v w u : V} {o1 o2 o3 : O}
theorem nw_at {o : O} {s : Slot} {H H' : Hp} {F' : Fz} {e : SEnv} {v : V} {p : Bool} {d : D} {a : Addr} (r : RO K H σ H' F' e v o) (hs : o.slot = some s) (es : s = .ow p d) (ev : v = .ref a) : ∃ x, H' a = some x := by
  subst es
  cases o with
  | nw d1 =>
    obtain ⟨a1, e1', _, _, t1⟩ := r
    rw [ev] at e1'; cases e1'
    obtain ⟨o, ho, _⟩ := t1.obj
    exact ⟨o, ho⟩
  | fz d1 => cases hs
  | _ => cases hs
theorem par_cur3 {i j l : Nat} {s1 s2 s3 : Slot} (hij : i ≠ j) (hil : i ≠ l) (hjl : j ≠ l) (c1 : Cur K σ H0 F0 env0 H1 F1 e1) (r1 : RO K H0 σ H1 F1 e1 v o1) (c2 : Cur K σ H1 F1 e1 H2 F2 e2) (r2 : RO K H1 σ H2 F2 e2 w o2) (c3 : Cur K σ H2 F2 e2 H3 F3 e3) (r3 : RO K H2 σ H3 F3 e3 u o3)
    (h1 : o1.slot = some s1) (h2 : o2.slot = some s2) (h3 : o3.slot = some s3) (p1 : notPin e3 i = true) (p2 : notPin e3 j = true) (p3 : notPin e3 l = true) : CurS K σ H0 F0 env0 (((σ.set i (some v)).set j (some w)).set l (some u)) H3 F3 (((e3.set i s1).set j s2).set l s3) := by
  have s := par_cur hij c1 r1 (c2.trans c3) (r2.cur c2 c3) h1 h2 p1 p2
  have c := (c1.trans c2).trans c3
  have r3' : RO K H0 ((σ.set i (some v)).set j (some w)) H3 F3 ((e3.set i s1).set j s2) u o3 := by
    cases o3 with
    | fz d => exact r3
    | nw d => obtain ⟨a, e, n, q⟩ := r3; exact ⟨a, e, (c1.trans c2).st.live a n, q⟩
    | _ => cases h3
  refine set_cur s r3' (fun d a eo ea h => ?_) h3 ?_
  · obtain ⟨k, p, d', hk, q⟩ := h
    have n3 : H2 a = none := by
      subst eo
      obtain ⟨a2, e2', n2, _⟩ := r3
      rw [ea] at e2'; cases e2'
      exact n2
    rcases getElem?_set' hk with ⟨rfl, z⟩ | ⟨nk, z⟩
    · rw [List.getElem?_set_self (by rw [List.length_set, ← c.er.len]; exact (notPin_ok p2).1)] at q
      cases q
      obtain ⟨x, hx⟩ := nw_at r2 h2 z.symm rfl
      rw [hx] at n3; cases n3
    · rcases getElem?_set' z with ⟨rfl, z2⟩ | ⟨nk2, z2⟩
      · rw [List.getElem?_set_ne (Ne.symm nk), List.getElem?_set_self (by rw [← c.er.len]; exact (notPin_ok p1).1)] at q
        cases q
        obtain ⟨x, hx⟩ := nw_at (r1.cur c1 c2) h1 z2.symm rfl
        rw [hx] at n3; cases n3
      · rw [List.getElem?_set_ne (Ne.symm nk), List.getElem?_set_ne (Ne.symm nk2)] at q
        exact RO.nd c3 r3 d a eo ea ⟨k, p, d', z2, q⟩
  · unfold notPin at p3 ⊢
    rw [List.getElem?_set_ne hjl, List.getElem?_set_ne hil]
    exact p3
end
section
variable {X : Cx} {a b c : Expr} {ta tb tc : DT} {pos px py pz pt pt2 : Pos}
theorem pa_three (ha : PE X a t1) (hb : PE X b t2) (hc : PE X c t3) (hs : starEach [a, b, c] X.env = (false, eval a X.env) :: starEach [b, c] X.env := by rfl) (hs2 : starEach [b, c] X.env = (false, eval b X.env) :: starEach [c] X.env := by rfl) (hs3 : starEach [c] X.env = (false, eval c X.env) :: starEach [] X.env := by rfl) : PA X [a, b, c] (tCons t1 (tCons t2 (tCons t3 tNil))) := pa_cons ha (pa_cons hb (pa_cons hc pa_nil hs3) hs2) hs
theorem ds_par3 (i j l : Nat) {x y z : Str} {kt k2} (hc : X.calm = true) (hN : X.N.Nodup) (ha : DE X a ta) (hb : DE X b tb) (hcc : DE X c tc) (hi : X.N[i]? = some x := by rfl) (hj : X.N[j]? = some y := by rfl) (hl : X.N[l]? = some z := by rfl) (hij : i ≠ j := by decide) (hil : i ≠ l := by decide) (hjl : j ≠ l := by decide)
    (hx : X.env.scope.names.lookup x = some .local := by rfl) (hy : X.env.scope.names.lookup y = some .local := by rfl) (hz : X.env.scope.names.lookup z = some .local := by rfl)
    (hw : swappedStores [.Tuple [.Name x px, .Name y py, .Name z pz] kt pt] (.Tuple [a, b, c] k2 pt2) X.env = pure (some [x, y, z]) := by rfl)
    (hs : swapsWithSole [.Tuple [.Name x px, .Name y py, .Name z pz] kt pt] (.Tuple [a, b, c] k2 pt2) pos.line X.env = pure false := by rfl)
    (h1 : starEach [a, b, c] X.env = (false, eval a X.env) :: starEach [b, c] X.env := by rfl) (h2 : starEach [b, c] X.env = (false, eval b X.env) :: starEach [c] X.env := by rfl) (h3 : starEach [c] X.env = (false, eval c X.env) :: starEach [] X.env := by rfl) :
    DSt X (.Assign [.Tuple [.Name x px, .Name y py, .Name z pz] kt pt] (.Tuple [a, b, c] k2 pt2) pos) (sPar3 i j l ta tb tc) := PS.imp (ps_par3 hc hN hi hj hl hij hil hjl hx hy hz (pa_three ha hb hcc h1 h2 h3) hw hs) fun Dn σ H h => by
  obtain ⟨F, env, E, er, q, k⟩ := h
  refine lift_val (.refl er) q fun o1 e1 v H1 F1 h1 c1 r1 => ?_
  refine lift_val (.refl c1.er) h1 fun o2 e2 w H2 F2 h2 c2 r2 => ?_
  refine lift_val (.refl c2.er) h2 fun o3 e3 u H3 F3 h3 c3 r3 => ?_
  obtain ⟨s1, s2, s3, hs1, hs2, hs3, p1, p2, p3, q2⟩ := h3
  exact ⟨v, w, u, rfl, k.nx _ _ _ _ q2 (par_cur3 hij hil hjl c1 r1 c2 r2 c3 r3 hs1 hs2 hs3 p1 p2 p3)⟩
/-- the same where a name is a cell: by a tuple -/
theorem ds_par32 (i j l : Nat) {x y z : Str} {kt k2} (hc : X.calm = true) (hN : X.N.Nodup) (ha : DE X a ta) (hb : DE X b tb) (hcc : DE X c tc) (hi : X.N[i]? = some x := by rfl) (hj : X.N[j]? = some y := by rfl) (hl : X.N[l]? = some z := by rfl) (hij : i ≠ j := by decide) (hil : i ≠ l := by decide) (hjl : j ≠ l := by decide)
    (hx : Loc X.env.scope x := by first | exact .inl rfl | exact .inr rfl) (hy : Loc X.env.scope y := by first | exact .inl rfl | exact .inr rfl) (hz : Loc X.env.scope z := by first | exact .inl rfl | exact .inr rfl)
    (hfx : X.fn x = true ∨ X.env.scope.names.lookup x = some .local := by first | exact .inl rfl | exact .inr rfl) (hfy : X.fn y = true ∨ X.env.scope.names.lookup y = some .local := by first | exact .inl rfl | exact .inr rfl) (hfz : X.fn z = true ∨ X.env.scope.names.lookup z = some .local := by first | exact .inl rfl | exact .inr rfl)
    (hw : swappedStores [.Tuple [.Name x px, .Name y py, .Name z pz] kt pt] (.Tuple [a, b, c] k2 pt2) X.env = pure none := by rfl)
    (hs : swapsWithSole [.Tuple [.Name x px, .Name y py, .Name z pz] kt pt] (.Tuple [a, b, c] k2 pt2) pos.line X.env = pure false := by rfl)
    (hq : (assignEach [.Tuple [.Name x px, .Name y py, .Name z pz] kt pt] X.env).map (·.2) = [assign (.Tuple [.Name x px, .Name y py, .Name z pz] kt pt) X.env] := by rfl)
    (hn : (assignEach [.Name x px, .Name y py, .Name z pz] X.env).length = 3 := by rfl) (hst : (assignEach [.Name x px, .Name y py, .Name z pz] X.env).findIdx? (·.1) = none := by rfl)
    (hg1 : (assignEach [.Name x px, .Name y py, .Name z pz] X.env).map (·.2) = assign (.Name x px) X.env :: (assignEach [.Name y py, .Name z pz] X.env).map (·.2) := by rfl)
    (hg2 : (assignEach [.Name y py, .Name z pz] X.env).map (·.2) = assign (.Name y py) X.env :: (assignEach [.Name z pz] X.env).map (·.2) := by rfl)
    (hg3 : (assignEach [.Name z pz] X.env).map (·.2) = assign (.Name z pz) X.env :: (assignEach [] X.env).map (·.2) := by rfl)
    (h1 : starEach [a, b, c] X.env = (false, eval a X.env) :: starEach [b, c] X.env := by rfl) (h2 : starEach [b, c] X.env = (false, eval b X.env) :: starEach [c] X.env := by rfl) (h3 : starEach [c] X.env = (false, eval c X.env) :: starEach [] X.env := by rfl) :
    DSt X (.Assign [.Tuple [.Name x px, .Name y py, .Name z pz] kt pt] (.Tuple [a, b, c] k2 pt2) pos) (sPar3 i j l ta tb tc) :=
  PS.imp (ps_asg (pe_tup (pa_three ha hb hcc h1 h2 h3)) (pg_tup hc (pgs_cons (pg_name hN hi hx hfx) (pgs_cons (pg_name hN hj hy hfy) (pgs_cons (pg_name hN hl hz hfz) pgs_nil hg3) hg2) hg1) hn hst) hs hw hq) fun Dn σ H h => by
  obtain ⟨F, env, E, er, q, k⟩ := h
  refine lift_val (.refl er) q fun o1 e1 v H1 F1 h1 c1 r1 => ?_
  refine lift_val (.refl c1.er) h1 fun o2 e2 w H2 F2 h2 c2 r2 => ?_
  refine lift_val (.refl c2.er) h2 fun o3 e3 u H3 F3 h3 c3 r3 => ?_
  obtain ⟨s1, s2, s3, hs1, hs2, hs3, p1, p2, p3, q2⟩ := h3
  refine ⟨(by show 3 ≤ sizeLine; decide), fun p np => ⟨p, [v, w, u], rfl, .of upd_same, rfl, v, [w, u], rfl, w, [u], rfl, u, [], rfl, rfl, ?_⟩⟩
  have c4 := laid_cur (u := .tup [v, w, u]) c3.er np
  exact k.nx _ _ _ _ q2 (par_cur3 hij hil hjl c1 r1 c2 r2 (c3.trans c4) (r3.cur c3 c4) hs1 hs2 hs3 p1 p2 p3)
end
end DL
end
section
set_option Elab.async false
set_option linter.all false
set_option maxRecDepth 100000
/-! DL19: x[::-1] of lists and tuples. -/
namespace DL
open PySem PySem.Spec PyProof.Rows L2 HT

section
variable {prog : Program} {w : World} {A : Around} {E : Value → Shared → Prop} {s : Shared}
theorem places_back (n : Nat) : Builtin.Slice.slicePlaces ((n : Int) - 1) (-1) (-1) = n := by
  unfold Builtin.Slice.slicePlaces
  rw [if_neg (by decide)]
  by_cases h : (n : Int) - 1 > -1
  · rw [if_pos h, show (-(-1) : Int) = 1 by decide, Int.ediv_one]; omega
  · rw [if_neg h]; simp; omega
theorem applied_back {sl : Addr} {vl vu vs : Value} {n : Nat} {Q : Int × Int × Nat → Shared → Prop} (hs : s.heap.IsSliceOf sl vl vu vs) (pl : IsPart vl none) (pu : IsPart vu none) (ps : IsPart vs (some (-1)))
    (h : Q ((n : Int) - 1, -1, n) s) : wpAny (model prog w) A (Builtin.Slice.sliceApplied (.ref sl) (pure (n : Int))) Q E s := by
  obtain ⟨ob, h1, h2, h3⟩ := hs
  unfold Builtin.Slice.sliceApplied Builtin.Slice.sliceFields
  refine wpAny_bind (wpAny_bind (wpAny_field h1 h3 (x := vl) rfl (wpAny_bind (wpAny_field h1 h3 (x := vu) rfl (wpAny_bind (wpAny_field h1 h3 (x := vs) rfl (wpAny_pure ?_)))))))
  refine wpAny_bind (slicePart_ ps ?_)
  refine (show wpAny _ _ (if ((-1 : Int) == 0) = true then _ else _) _ _ s from ?_)
  rw [if_neg (by decide)]
  refine wpAny_bind (slicePart_ pl (wpAny_bind (slicePart_ pu (wpAny_bind (wpAny_pure ?_)))))
  refine (show wpAny _ _ (pure ((n : Int) - 1, (-1 : Int), Builtin.Slice.slicePlaces ((n : Int) - 1) (-1) (-1))) _ _ s from ?_)
  rw [places_back]
  exact wpAny_pure h
theorem fm_congr {f g : Nat → Option Value} : ∀ {l : List Nat}, (∀ m ∈ l, f m = g m) → l.filterMap f = l.filterMap g
  | [], _ => rfl
  | m :: l, h => by rw [List.filterMap_cons, List.filterMap_cons, h m List.mem_cons_self, fm_congr fun m' hm' => h m' (List.mem_cons_of_mem _ hm')]
theorem pick_back (xs : Array Value) : ((List.range xs.size).filterMap fun (m : Nat) => xs[(((xs.size : Int) - 1) + (m : Int) * (-1)).toNat]?).toArray = xs.toList.reverse.toArray := by
  congr 1
  have e : (List.range xs.size).filterMap (fun (m : Nat) => xs[(((xs.size : Int) - 1) + (m : Int) * (-1)).toNat]?) = (List.range xs.size).filterMap (fun m => xs.toList.reverse[m]?) := by
    refine fm_congr fun m hm => ?_
    have := List.mem_range.mp hm
    rw [List.getElem?_reverse (by rw [Array.length_toList]; exact this), Array.length_toList, Array.getElem?_toList]
    congr 1
    omega
  rw [e]
  have all : ∀ l : List Value, (List.range l.length).filterMap (fun m => l[m]?) = l := by
    intro l
    induction l with
    | nil => rfl
    | cons a l ih =>
      rw [List.length_cons, List.range_succ_eq_map, List.filterMap_cons]
      simp only [List.getElem?_cons_zero, List.filterMap_map]
      congr 1
  have := all xs.toList.reverse
  rw [List.length_reverse, Array.length_toList] at this
  exact this
theorem item_back {t sl : Addr} {items : Array Value} {vl vu vs : Value} {Q : Value → Shared → Prop} (ht : IsTup s.heap t items) (hs : s.heap.IsSliceOf sl vl vu vs) (pl : IsPart vl none) (pu : IsPart vu none) (ps : IsPart vs (some (-1)))
    (h : Q (.ref s.heap.objs.size) { s with heap := s.heap.push { cls := .type "tuple", data := .seq items.toList.reverse.toArray } })
    (hsz : items.size ≤ sizeLine) : wpAny (model prog w) A (getItem (.ref t) (.ref sl)) Q E s := by
  have fit : sizeOk (.seq items.toList.reverse.toArray) := by
    show items.toList.reverse.toArray.size ≤ sizeLine
    rw [List.size_toArray, List.length_reverse, Array.length_toList]
    exact hsz
  have isl : s.TypeIs (.ref sl) "slice" := by
    obtain ⟨ob, h1, h2, h3⟩ := hs
    exact ⟨ob, h1, h2⟩
  unfold getItem
  try with_reducible refine wpAny_holding ?_
  first | refine wpAny_bind (wpAny_pure ?_) | skip
  refine wpAny_bind (wpAny_sequenceKey ht.typeIs (by decide) ?_)
  refine wpAny_bind (wpAny_callSpecial?_slot (name := Str.ofString "__getitem__") ht.typeIs PyProof.Rows.slot_tuple_getitem (wpAny_call_entry PyProof.Rows.slot_tuple_getitem ht.typeIs entry_tuple_getitem ?_ (args_tuple_getitem _ _)))
  refine (show wpAny _ _ (Builtin.Tuple.tupleItemsOf (.ref t) >>= _) _ _ s from ?_)
  refine wpAny_bind (tupleItemsOf_ ht (wpAny_bind (wpAny_typeOf isl ?_)))
  rw [if_pos (by decide)]
  refine wpAny_bind (applied_back hs pl pu ps ?_)
  have no : ¬ ((((items.size : Int) - 1 == 0) && ((-1 : Int) == 1) && (items.size == items.size)) = true) := by
    intro q
    rw [Bool.and_eq_true, Bool.and_eq_true] at q
    exact absurd q.1.2 (by decide)
  refine (show wpAny _ _ (if (((items.size : Int) - 1 == 0) && ((-1 : Int) == 1) && (items.size == items.size)) = true then _ else _) _ _ s from ?_)
  rw [if_neg no, pick_back]
  first
    | exact wpAny_bind (m := Builtin.Tuple.tupleExact _) (wpAny_newObj_type (wpAny_pure ⟨_, rfl, wpAny_pure h⟩) fit)
    | exact wpAny_bind (m := Builtin.Tuple.tupleExact _) (wpAny_newObj_type (wpAny_bind (wpAny_pure (wpAny_pure ⟨_, rfl, wpAny_pure h⟩))) fit)
    | exact wpAny_bind (wpAny_bind (m := Builtin.Tuple.tupleExact _) (wpAny_newObj_type (wpAny_pure (wpAny_pure ⟨_, rfl, wpAny_pure h⟩)) fit))
    | exact wpAny_bind (wpAny_bind (m := Builtin.Tuple.tupleExact _) (wpAny_newObj_type (wpAny_pure ⟨_, rfl, wpAny_pure h⟩) fit))
end
def tBack (K : PySem.W.Frag) (te : TE) : TE := fun σ H Q => te σ H fun x H1 => ∃ a xs, x = .ref a ∧ ((SqL K H1 a xs ∧ ∀ p, H1 p = none → Q (.ref p) (upd H1 p (.lst xs.reverse))) ∨ (SqT K H1 a xs ∧ NewT xs.reverse H1 Q))
section
variable {X : Cx}
theorem pe_back {e : Expr} {te : TE} {k : Nat} {p1 p2 p3 pos : Pos} (he : PE X e te) : PE X (.Subscript e (.Slice none none (some (.UnaryOp .USub (.Constant (.int 1) k p1) p2)) p3) pos) (tBack X.K te) := by
  refine ⟨fun pins s σ H Q I h => ?_⟩
  refine Subscript_ (thn (he.run pins s σ H _ I h) fun v s1 ⟨x, H1, I1, r1, a, xs, ex, q⟩ => ?_)
  subst ex
  cases r1
  have stp : PO X (some (.UnaryOp .USub (.Constant (.int 1) k p1) p2)) (tPart (tUn (rU fun i => .int (-i)) (tC (.int 1)))) := po_some (pe_un un_neg pe_int)
  refine wpAny_Slice (thn (po_none.run pins s1 σ H1 (fun o J => o = none ∧ J = H1) I1 ⟨rfl, rfl⟩) fun vl s2 ⟨l, H2, I2, pl, el, e2⟩ => ?_)
  subst el e2
  refine thn (po_none.run pins s2 σ H2 (fun o J => o = none ∧ J = H2) I2 ⟨rfl, rfl⟩) fun vu s3 ⟨u, H3, I3, pu, eu, e3⟩ => ?_
  subst eu e3
  refine thn (stp.run pins s3 σ H3 (fun o J => o = some (-1) ∧ J = H3) I3 ⟨1, rfl, -1, rfl, rfl, rfl⟩) fun vs s4 ⟨o, H4, I4, ps, eo, e4⟩ => ?_
  subst eo e4
  generalize hsl : ({ cls := .type "slice", data := .fields #[vl, vu, vs] } : Obj) = slo
  have I5 : Inv X pins σ H4 { s4 with heap := s4.heap.push slo } := I4.kept (t' := s4.toks) fun b ob q => Heap.get?_push_of_some _ q
  have isl : (s4.heap.push slo).IsSliceOf s4.heap.objs.size vl vu vs := by rw [← hsl]; exact Heap.IsSliceOf.new _ vl vu vs
  rcases q with ⟨hx, q⟩ | ⟨hx, q⟩
  · obtain ⟨its, r, ht, hz⟩ := I5.list hx
    have hlen := r.length
    refine (show wpAny (model X.prog X.w) X.A (subscriptTail e _ (.ref a) (.ref s4.heap.objs.size)) (EP X pins σ Q) X.xe { s4 with heap := s4.heap.push slo } from ?_)
    refine tail_any (ops := [.ref a, .ref s4.heap.objs.size]) ht.isList.typeIs (PySem.slot_list_getitem.lookup) ?_ (by with_unfolding_all rfl)
    refine wpAny_getItem_list_slice ht.isList isl pl pu ps (by decide) ?_ (by rw [List.size_toArray]; omega)
    rw [PySem.W.krv_pick]
    refine ⟨.ref _, _, I5.laid (t' := s4.toks) (o := .lst xs.reverse) (fun b ob q => Heap.get?_push_of_some _ q) (Nat.le_refl _) ?_, rfl, q _ (I5.hok.fresh (Nat.le_refl _))⟩
    exact ⟨by rw [List.length_reverse]; exact hz, _, 0, r.reverse, Heap.get?_push_size _ rfl⟩
  · obtain ⟨its, r, ht, hz⟩ := I5.tuple hx
    have hlen := r.length
    refine (show wpAny (model X.prog X.w) X.A (subscriptTail e _ (.ref a) (.ref s4.heap.objs.size)) (EP X pins σ Q) X.xe { s4 with heap := s4.heap.push slo } from ?_)
    refine tail_any (ops := [.ref a, .ref s4.heap.objs.size]) ht.typeIs (PyProof.Rows.slot_tuple_getitem.lookup) ?_ (by with_unfolding_all rfl)
    refine item_back ht isl pl pu ps ?_ (by rw [List.size_toArray]; omega)
    exact ep_tup I5 r.reverse (by rw [List.length_reverse]; exact hz) q
end
def gBack : O → SEnv → Option O
  | .sc ns, _ => some (.nw (.list (ns.map .int).reverse))
  | o, env => match o.get env with
    | some (.list ds) => some (.nw (.list ds.reverse))
    | some (.tuple ds) => some (.fz (.tuple ds.reverse))
    | _ => none
def dBack (t : DT) : DT := fun env Q => t env fun o e1 => ∃ z, gBack o e1 = some z ∧ Q z e1
section
variable {X : Cx} {e : Expr} {t : DT} {pos p1 p2 p3 : Pos} {k : Nat}
theorem de_back (he : DE X e t) : DE X (.Subscript e (.Slice none none (some (.UnaryOp .USub (.Constant (.int 1) k p1) p2)) p3) pos) (dBack t) := PE.imp (pe_back he) fun σ H Q h => by
  obtain ⟨F, env, R, er, ht, k⟩ := h
  refine lift_op (.refl er) ht fun o1 e1 x H1 F1 h1 c1 _ p1 => ?_
  obtain ⟨z, hz, q⟩ := h1
  have f := c1.fin q k
  have norm : ∀ d, o1.get e1 = some d → (match (some d : Option D) with
    | some (.list ds) => some (O.nw (.list ds.reverse))
    | some (.tuple ds) => some (O.fz (.tuple ds.reverse))
    | _ => none) = some z → ∃ a xs, x = V.ref a ∧ ((SqL X.K H1 a xs ∧ ∀ p, H1 p = none → Q (.ref p) (upd H1 p (.lst xs.reverse))) ∨ (SqT X.K H1 a xs ∧ NewT xs.reverse H1 Q)) := fun d hd hz => by
    have ob := p1.ob c1.er hd
    cases d with
    | list ds =>
      cases hz
      obtain ⟨a, xs, rfl, h, r⟩ := ob.list
      exact ⟨a, xs, rfl, .inl ⟨.of h, f.lst c1.er r.reverse⟩⟩
    | tuple ds =>
      cases hz
      obtain ⟨a, xs, rfl, h, r⟩ := ob.tuple
      exact ⟨a, xs, rfl, .inr ⟨h.sq, f.tup c1.er r.reverse⟩⟩
    | _ => cases hz
  cases o1 with
  | sc ns =>
    cases hz
    obtain ⟨a, rfl, h⟩ := p1
    exact ⟨a, _, rfl, .inl ⟨h.sq, f.lst c1.er (RpL.ints ns).reverse⟩⟩
  | fz d => exact norm d rfl hz
  | nw d => exact norm d rfl hz
  | al i =>
    have hz' : (match O.get e1 (.al i) with
      | some (.list ds) => some (O.nw (.list ds.reverse))
      | some (.tuple ds) => some (O.fz (.tuple ds.reverse))
      | _ => none) = some z := hz
    cases g : O.get e1 (.al i) with
    | none => rw [g] at hz'; cases hz'
    | some d => rw [g] at hz'; exact norm d g hz'
end
end DL
end
section
set_option Elab.async false
set_option linter.all false
set_option maxRecDepth 100000
/-! DL20: comprehensions with two clauses. -/
namespace DL
open PySem PySem.Spec L2

/-- the heap without the list that grows -/
def off (L : Addr) (H : Hp) : Hp := fun a => if a = L then none else H a
theorem off_at {L : Addr} {H : Hp} : off L H L = none := if_pos rfl
theorem off_ne {L a : Addr} {H : Hp} (h : a ≠ L) : off L H a = H a := if_neg h
theorem off_upd {L : Addr} {H : Hp} {u : HO} : off L (upd H L u) = off L H := funext fun a => by
  by_cases h : a = L
  · subst h; rw [off_at, off_at]
  · rw [off_ne h, off_ne h, upd_ne h]
theorem off_same {L : Addr} {H : Hp} (h : H L = none) : off L H = H := funext fun a => by
  by_cases e : a = L
  · subst e; rw [off_at, h]
  · rw [off_ne e]
theorem off_some {L a : Addr} {H : Hp} {o : HO} (h : off L H a = some o) : a ≠ L ∧ H a = some o := by
  by_cases e : a = L
  · subst e; rw [off_at] at h; cases h
  · rw [off_ne e] at h; exact ⟨e, h⟩
section
variable {K : PySem.W.Frag} {σ σ' : L2.St} {H H' H1 : Hp} {F F' F1 : Fz} {env env' e1 : SEnv} {L : Addr} {xs : List V}
theorem off_ext (hL : H L = some (.lst xs)) (nF : ¬ F L) : Ext H F (off L H) F where
  f := fun _ h => h
  fo := fun a o h e => by rw [off_ne fun z => nF (by rw [← z]; exact h)]; exact e
  tu := fun a ys h => by rw [off_ne (fun z => by subst z; rw [hL] at h; cases h)]; exact h
  fr := fun a o u h => by rw [off_ne (fun z => by subst z; rw [hL] at h; cases h)]; exact h
theorem ext_on : Ext (off L H) F H F := ⟨fun _ h => h, fun a o _ e => (off_some e).2, fun a ys h => (off_some h).2, fun a o u h => (off_some h).2⟩
theorem ER.offL (er : ER K σ H F env) (hL : H L = some (.lst xs)) (nF : ¬ F L) (nA : ¬ AOf σ env L) : ER K σ (off L H) F env := by
  have e := off_ext hL nF
  refine ⟨er.len, fun i d h => ?_, fun i p d h => ?_, fun i ns h => ?_, er.dis, fun a h => ?_⟩
  · obtain ⟨v, q, r⟩ := er.fz i d h
    exact ⟨v, q, r.ext e⟩
  · obtain ⟨a, q, m, t⟩ := er.ow i p d h
    exact ⟨a, q, m, t.ext e fun o z => by rw [off_ne fun w => nA (by rw [← w]; exact ⟨i, p, d, h, q⟩)]; exact z⟩
  · obtain ⟨a, q, t⟩ := er.sc i ns h
    exact ⟨a, q, t.ext e⟩
  · rw [off_ne fun z => nF (by rw [← z]; exact h)]
    exact er.liv a h
theorem ER.on (er : ER K σ (off L H) F env) : ER K σ H F env :=
  er.kept (fun a o h => (off_some h).2) (fun _ h => h) (fun a h => (er.aof h).1) (fun a h z => er.liv a h (by
    by_cases e : a = L
    · subst e; exact off_at
    · rw [off_ne e]; exact z))
theorem Cur.offL (c : Cur K σ H F env H' F' env') (hL : H L = some (.lst xs)) (nF : ¬ F L) (nA : ¬ AOf σ env L) : Cur K σ (off L H) F env (off L H') F' env' ∧ H' L = some (.lst xs) ∧ ¬ F' L ∧ ¬ AOf σ env' L := by
  have h1 := c.st.keep L _ hL nA
  have h2 : ¬ F' L := fun z => by
    rcases c.st.new L z with z | z
    · exact nF z
    · rw [hL] at z; cases z
  have h3 : ¬ AOf σ env' L := fun z => nA (c.sh.a.mp z)
  refine ⟨⟨c.er0.offL hL nF nA, ⟨c.st.f, fun a o h n => ?_, fun a h => ?_, fun a h => ?_⟩, c.sh, c.er.offL h1 h2 h3⟩, h1, h2, h3⟩
  · obtain ⟨e, h⟩ := off_some h
    rw [off_ne e]; exact c.st.keep a o h n
  · by_cases e : a = L
    · subst e; exact .inr off_at
    · rw [off_ne e]; exact c.st.new a h
  · by_cases e : a = L
    · subst e; exact off_at
    · rw [off_ne e] at h ⊢; exact c.st.live a h
theorem CurS.offL (c : CurS K σ H F env σ' H' F' env') (hL : H L = some (.lst xs)) (nF : ¬ F L) (nA : ¬ AOf σ env L) : CurS K σ (off L H) F env σ' (off L H') F' env' ∧ H' L = some (.lst xs) ∧ ¬ F' L ∧ ¬ AOf σ' env' L := by
  have h1 := c.st.keep L _ hL nA
  have h2 : ¬ F' L := fun z => by
    rcases c.st.new L z with z | z | z
    · exact nF z
    · rw [hL] at z; cases z
    · exact nA z
  have h3 : ¬ AOf σ' env' L := fun z => by
    rcases c.st.own L z with z | z
    · exact nA z
    · rw [hL] at z; cases z
  refine ⟨⟨c.er0.offL hL nF nA, ⟨c.st.f, fun a o h n => ?_, fun a h => ?_, fun a h => ?_, fun a h => ?_, c.st.pin, c.st.len⟩, c.er.offL h1 h2 h3⟩, h1, h2, h3⟩
  · obtain ⟨e, h⟩ := off_some h
    rw [off_ne e]; exact c.st.keep a o h n
  · by_cases e : a = L
    · subst e; exact .inr (.inl off_at)
    · rw [off_ne e]; exact c.st.new a h
  · by_cases e : a = L
    · subst e; exact off_at
    · rw [off_ne e] at h ⊢; exact c.st.live a h
  · by_cases e : a = L
    · subst e; exact .inr off_at
    · rw [off_ne e]; exact c.st.own a h
/-- the list that grows, with what else stands -/
structure Hld (K : PySem.W.Frag) (σ : L2.St) (B : Hp) (F1 : Fz) (e1 : SEnv) (L : Addr) (H : Hp) (F : Fz) (env : SEnv) (acc : List D) : Prop where
  cur : Cur K σ B F1 e1 (off L H) F env
  at_ : ∃ xs, H L = some (.lst xs) ∧ RpL K (off L H) F acc xs
  nF : ¬ F L
  nA : ¬ AOf σ env L
variable {B : Hp} {acc : List D}
theorem Hld.step (h : Hld K σ B F1 e1 L H F env acc) (c : Cur K σ H F env H' F' env') : Hld K σ B F1 e1 L H' F' env' acc := by
  obtain ⟨xs, hx, r⟩ := h.at_
  obtain ⟨c', h1, h2, h3⟩ := c.offL hx h.nF h.nA
  exact ⟨h.cur.trans c', ⟨xs, h1, r.ext c'.e⟩, h2, h3⟩
theorem Hld.er (h : Hld K σ B F1 e1 L H F env acc) : ER K σ H F env := h.cur.er.on
theorem Hld.push {d : D} {y : V} {xs : List V} (h : Hld K σ B F1 e1 L H F env acc) (hx : H L = some (.lst xs)) (r : Rp K H F d y) : Hld K σ B F1 e1 L (upd H L (.lst (xs ++ [y]))) F env (acc ++ [d]) := by
  obtain ⟨xs', hx', rs⟩ := h.at_
  rw [hx] at hx'; cases hx'
  exact ⟨by rw [off_upd]; exact h.cur, ⟨_, upd_same, by rw [off_upd]; exact rs.append (.one (r.ext (off_ext hx h.nF)))⟩, h.nF, h.nA⟩
theorem Hld.len (h : Hld K σ B F1 e1 L H F env acc) {xs : List V} (hx : H L = some (.lst xs)) : xs.length = acc.length := by
  obtain ⟨xs', hx', rs⟩ := h.at_
  rw [hx] at hx'; cases hx'
  exact rs.length.symm
end

def lcIn (vs : List Nat) (g : DG) (tt : DB) (te : DT) : List D → List D → SEnv → (List D → SEnv → Prop) → Prop
  | [], acc, env, K => K acc env
  | d :: ds, acc, env, K => notOw vs env = true ∧ g d (wipeE vs env) fun e1 => tt e1 fun b e2 =>
      if b = true then te e2 fun o e3 => ∃ x, o.val = some x ∧ acc.length < sizeLine ∧ lcIn vs g tt te ds (acc ++ [x]) (rst vs env e3) K
      else lcIn vs g tt te ds acc (rst vs env e2) K
def lcOut (vs vs1 : List Nat) (g : DG) (tt : DB) (ti1 : DI) (g1 : DG) (tt1 : DB) (te : DT) : List D → List D → SEnv → (List D → SEnv → Prop) → Prop
  | [], acc, env, K => K acc env
  | d :: ds, acc, env, K => notOw vs env = true ∧ g d (wipeE vs env) fun e1 => tt e1 fun b e2 =>
      if b = true then ti1 e2 fun items al e3 => al = none ∧ lcIn vs1 g1 tt1 te items acc e3 fun acc' e4 => lcOut vs vs1 g tt ti1 g1 tt1 te ds acc' (rst vs env e4) K
      else lcOut vs vs1 g tt ti1 g1 tt1 te ds acc (rst vs env e2) K
def dLc2 (vs vs1 : List Nat) (ti : DI) (g : DG) (tt : DB) (ti1 : DI) (g1 : DG) (tt1 : DB) (te : DT) : DT := fun env Q => ti env fun items al e1 => al = none ∧ lcOut vs vs1 g tt ti1 g1 tt1 te items [] e1 fun acc e2 => Q (.nw (.list acc)) e2
section
variable {K : PySem.W.Frag} {vs vs1 wr wr1 : List Nat} {ti ti1 : DI} {g g1 : DG} {tt tt1 : DB} {te : DT}
theorem lift_lc2 (ws : ∀ w ∈ wr, w ∈ vs) (ws1 : ∀ w ∈ wr1, w ∈ vs1) : ∀ σ H Q, liftE K (dLc2 vs vs1 ti g tt ti1 g1 tt1 te) σ H Q → tLc2 (liftI K ti) (liftG K wr g) (liftT K tt) (liftI K ti1) (liftG K wr1 g1) (liftT K tt1) (liftE K te) vs vs1 σ H Q := fun σ H Q h => by
  obtain ⟨F, env, R, er, q, k⟩ := h
  refine ⟨F, env, _, er, q, fun items al e1 H1 F1 J h1 c1 jr L hL => ?_⟩
  obtain ⟨rfl, h1⟩ := h1
  let Kt : List D → SEnv → Prop := fun acc e2 => R (.nw (.list acc)) e2
  refine ⟨fun i m H' => ∃ F' env' acc, Hld K σ H1 F1 e1 L H' F' env' acc ∧ m = items.length - i ∧ i ≤ items.length ∧ lcOut vs vs1 g tt ti1 g1 tt1 te (items.drop i) acc env' Kt,
    ⟨items.length, F1, e1, [], ⟨by rw [off_upd, off_same hL]; exact .refl c1.er, ⟨[], upd_same, .nil⟩, fun z => c1.er.liv L z hL, fun z => by obtain ⟨_, o, ho, _⟩ := c1.er.aof z; rw [hL] at ho; cases ho⟩, by omega, Nat.zero_le _, h1⟩, fun i m H2 hW => ?_⟩
  obtain ⟨F2, env2, acc, hl, rfl, hi, q2⟩ := hW
  have turn := jr i H2 F2 (hl.cur.e.trans ext_on)
  by_cases hlt : i < items.length
  · obtain ⟨d, hd⟩ : ∃ d, items[i]? = some d := ⟨_, List.getElem?_eq_getElem hlt⟩
    have hdr : items.drop i = d :: items.drop (i + 1) := by
      rw [List.drop_eq_getElem_cons hlt]
      rw [List.getElem?_eq_getElem hlt] at hd
      cases hd; rfl
    rw [hdr] at q2
    obtain ⟨no, q2⟩ := q2
    obtain ⟨go, yl⟩ := turn.1 d hd
    refine .inr ⟨go, fun H' => ∃ F' env' acc, Hld K σ H1 F1 e1 L H' F' env' acc ∧ lcOut vs vs1 g tt ti1 g1 tt1 te (items.drop (i + 1)) acc env' Kt,
      fun H' ⟨F', env', acc', a, b⟩ => ⟨items.length - (i + 1), by omega, F', env', acc', a, rfl, hlt, b⟩, fun x H3 hy => ?_⟩
    obtain ⟨lay, rx⟩ := yl x H3 hy
    have hl3 := hl.step (lay.cur hl.er)
    obtain ⟨xs3, hx3, rs3⟩ := hl3.at_
    obtain ⟨erB, aoB⟩ := blk_in hl3.er no
    refine ⟨F2, _, d, _, erB, rx, q2, fun e4 σ4 H4 F4 q4 c4 w4 => ⟨wipe_same (by rw [c4.st.len, wipe_length]) ws w4.s, ?_⟩⟩
    refine lift_tst (.refl c4.er) q4 fun b e5 H5 F5 q5 c5 => ?_
    cases b with
    | false => exact ⟨F5, _, acc, hl3.step (blk_out hl3.er no ws c4 w4 c5), q5⟩
    | true =>
      rw [if_pos rfl] at q5 ⊢
      refine ⟨F5, e5, _, c5.er, q5, fun items1 al1 e6 H6 F6 J1 h6 c6 jr1 => ?_⟩
      obtain ⟨rfl, h6⟩ := h6
      have hl6 := hl3.step (blk_out hl3.er no ws c4 w4 (c5.trans c6))
      obtain ⟨c4f, x4, n4, a4⟩ := c4.offL hx3 hl3.nF (fun z => hl3.nA ((aoB L).mp z))
      obtain ⟨c6f, x6, n6, a6⟩ := (c5.trans c6).offL x4 n4 a4
      have rs6 : RpL K (off L H6) F6 acc xs3 := by
        obtain ⟨xs', hx', rs'⟩ := hl6.at_
        rw [x6] at hx'; cases hx'; exact rs'
      refine ⟨fun j m H' => ∃ F' env' acc', Hld K σ4 (off L H6) F6 e6 L H' F' env' acc' ∧ m = items1.length - j ∧ j ≤ items1.length ∧ lcIn vs1 g1 tt1 te (items1.drop j) acc' env' fun acc' e4 => lcOut vs vs1 g tt ti1 g1 tt1 te (items.drop (i + 1)) acc' (rst vs env2 e4) Kt,
        ⟨items1.length, F6, e6, acc, ⟨.refl c6f.er, ⟨xs3, x6, rs6⟩, n6, a6⟩, by omega, Nat.zero_le _, h6⟩, fun j m H7 hW => ?_⟩
      obtain ⟨F7, e7, acc7, hl7, rfl, hj, q7⟩ := hW
      have turn1 := jr1 j H7 F7 (((off_ext x6 n6).trans hl7.cur.e).trans ext_on)
      by_cases hlt1 : j < items1.length
      · obtain ⟨d1, hd1⟩ : ∃ d, items1[j]? = some d := ⟨_, List.getElem?_eq_getElem hlt1⟩
        have hdr1 : items1.drop j = d1 :: items1.drop (j + 1) := by
          rw [List.drop_eq_getElem_cons hlt1]
          rw [List.getElem?_eq_getElem hlt1] at hd1
          cases hd1; rfl
        rw [hdr1] at q7
        obtain ⟨no1, q7⟩ := q7
        obtain ⟨go1, yl1⟩ := turn1.1 d1 hd1
        refine .inr ⟨go1, fun H' => ∃ F' env' acc', Hld K σ4 (off L H6) F6 e6 L H' F' env' acc' ∧ lcIn vs1 g1 tt1 te (items1.drop (j + 1)) acc' env' fun acc' e4 => lcOut vs vs1 g tt ti1 g1 tt1 te (items.drop (i + 1)) acc' (rst vs env2 e4) Kt,
          fun H' ⟨F', env', acc', a, b⟩ => ⟨items1.length - (j + 1), by omega, F', env', acc', a, rfl, hlt1, b⟩, fun x1 H8 hy1 => ?_⟩
        obtain ⟨lay1, rx1⟩ := yl1 x1 H8 hy1
        have hl8 := hl7.step (lay1.cur hl7.er)
        obtain ⟨erB1, aoB1⟩ := blk_in hl8.er no1
        refine ⟨F7, _, d1, _, erB1, rx1, q7, fun e9 σ9 H9 F9 q9 c9 w9 => ⟨wipe_same (by rw [c9.st.len, wipe_length]) ws1 w9.s, ?_⟩⟩
        refine lift_tst (.refl c9.er) q9 fun b e10 H10 F10 q10 c10 => ?_
        cases b with
        | false => exact ⟨F10, _, acc7, hl8.step (blk_out hl8.er no1 ws1 c9 w9 c10), q10⟩
        | true =>
          rw [if_pos rfl] at q10 ⊢
          refine lift_op (.refl c10.er) q10 fun o e11 y H11 F11 q11 c11 _ p11 => ?_
          obtain ⟨z, hz, hlen, q11⟩ := q11
          have hl11 := hl8.step (blk_out hl8.er no1 ws1 c9 w9 (c10.trans c11))
          obtain ⟨xs, hx, _⟩ := hl11.at_
          exact ⟨xs, hx, by rw [hl11.len hx]; exact hlen, F11, _, acc7 ++ [z], hl11.push hx (p11.val hz), q11⟩
      · have e : j = items1.length := by omega
        subst e
        rw [List.drop_length] at q7
        obtain ⟨xs7, hx7, rs7⟩ := hl7.at_
        have cO := blk_out hl3.cur.er no ws c4f w4 (c6f.trans hl7.cur)
        exact .inl ⟨turn1.2 rfl, F7, _, acc7, ⟨hl3.cur.trans cO, ⟨xs7, hx7, rs7⟩, hl7.nF, fun z => hl3.nA (cO.sh.a.mp z)⟩, q7⟩
  · have e : i = items.length := by omega
    subst e
    rw [List.drop_length] at q2
    refine .inl ⟨turn.2 rfl, ?_⟩
    obtain ⟨xs, hx, rs⟩ := hl.at_
    have cL : Cur K σ (off L H2) F2 env2 H2 F2 env2 := by
      have := laid_cur (u := .lst xs) hl.cur.er (p := L) off_at
      have e : upd (off L H2) L (.lst xs) = H2 := funext fun a => by
        by_cases z : a = L
        · subst z; rw [upd_same, hx]
        · rw [upd_ne z, off_ne z]
      rw [e] at this
      exact this
    have c := c1.trans (hl.cur.trans cL)
    exact k _ _ _ _ _ q2 c ⟨L, rfl, c1.st.live L hL, hl.nF, xs, hx, rs.ext cL.e⟩
end
section
variable {X : Cx} {elt tg iter tg1 iter1 : Expr} {ifs ifs1 : List Expr} {scope : Scope} {own : List (Str × Nat)} {pos : Pos} {ti ti1 : DI} {g g1 : DG} {tt tt1 : DB} {te : DT} {wr wr1 vs1 : List Nat}
theorem de_lc2 (hc : X.calm = true) (hN : X.N.Nodup) (hi : DIt X tg iter ti) (ok : BlkOk X.N X.env.scope scope own)
    (hg : ∀ (s : Shared) (H : Hp) (C : Addr) (cl : List (Str × Addr)) (fp : List Addr), DGt (X.blk s H scope (compEnvC scope cl C X.env) fp) tg wr g) (ht : ∀ (s : Shared) (H : Hp) (C : Addr) (cl : List (Str × Addr)) (fp : List Addr), DTs (X.blk s H scope (compEnvC scope cl C X.env) fp) ifs tt)
    (hi1 : ∀ (s : Shared) (H : Hp) (C : Addr) (cl : List (Str × Addr)) (fp : List Addr), DIt (X.blk s H scope (compEnvC scope cl C X.env) fp) tg1 iter1 ti1)
    (hg1 : ∀ (s : Shared) (H : Hp) (C : Addr) (cl : List (Str × Addr)) (fp : List Addr), DGt (X.blk s H scope (compEnvC scope cl C X.env) fp) tg1 wr1 g1) (ht1 : ∀ (s : Shared) (H : Hp) (C : Addr) (cl : List (Str × Addr)) (fp : List Addr), DTs (X.blk s H scope (compEnvC scope cl C X.env) fp) ifs1 tt1)
    (he : ∀ (s : Shared) (H : Hp) (C : Addr) (cl : List (Str × Addr)) (fp : List Addr), DE (X.blk s H scope (compEnvC scope cl C X.env) fp) elt te) (hv : ∀ i ∈ vs1, i ∈ own.map (·.2) := by decide) (ws : ∀ w ∈ wr, w ∈ own.map (·.2) := by decide) (ws1 : ∀ w ∈ wr1, w ∈ vs1 := by decide) (hs : ∀ x, foldedSetIterable iter X.env x = pure x := by intro _; rfl) (hs1 : ∀ env x, foldedSetIterable iter1 env x = pure x := by intro _ _; rfl) :
    DE X (.ListComp elt [⟨tg, iter, ifs, 0⟩, ⟨tg1, iter1, ifs1, 0⟩] scope pos) (dLc2 (own.map (·.2)) vs1 ti g tt ti1 g1 tt1 te) :=
  PE.imp (pe_lc2 (wi := liftI X.K ti) (g := liftG X.K wr g) (tt := liftT X.K tt) (wi1 := liftI X.K ti1) (g1 := liftG X.K wr1 g1) (tt1 := liftT X.K tt1) (te := liftE X.K te) hc hN hi ok hv hg ht hi1 hg1 ht1 he hs hs1) (lift_lc2 ws ws1)
end
end DL
end
section
set_option Elab.async false
set_option linter.all false
set_option maxRecDepth 100000
/-! DL21: name = {k: v for ..}; name = [.. for .. for ..]. -/
namespace DL
open PySem PySem.Spec PyProof.Rows L2

section
variable {X : Cx}
theorem swd_true {kx vx : Expr} {gs : List Comprehension} {scope : Scope} {pos py : Pos} {y : Str} {l : Nat} {env : Env} (hk : env.scope.kind = .function) (hy : env.scope.names.lookup y = some .local) (hl : (py.line == pos.line) = true)
    (ha : (scope.names.any fun (n, k) => n == y && (k == .local || k == .cell)) = false) : swapsWith (.DictComp kx vx gs scope pos) (some (.Name y py)) l env = pure true := by
  have q1 : env.kindOf y = some .local := hy
  have q2 : env.blockKind = .function := by unfold Env.blockKind; rw [hk]; rfl
  unfold swapsWith
  simp only [q2, q1, ha, Expr.pos, hl]
  rfl
theorem ps_setDc {i : Nat} {y : Str} {py : Pos} {kx vx tg iter : Expr} {ifs : List Expr} {scope : Scope} {own : List (Str × Nat)} {pos spos : Pos} {wi : TI} {g : TG} {tt : TT} {tk tv : TE} (hc : X.calm = true) (hN : X.N.Nodup) (hy : X.N[i]? = some y) (hyl : X.env.scope.names.lookup y = some .local)
    (hsw : swapsWith (.DictComp kx vx [⟨tg, iter, ifs, 0⟩] scope pos) (some (.Name y py)) spos.line X.env = pure true) (hi : PI X tg iter wi) (ok : BlkOk X.N X.env.scope scope own)
    (hg : ∀ (s1 : Shared) (H1 : Hp) (C : Addr) (cl : List (Str × Addr)) (fp : List Addr), PG (X.blk s1 H1 scope (compEnvC scope cl C X.env) fp) tg g) (ht : ∀ (s1 : Shared) (H1 : Hp) (C : Addr) (cl : List (Str × Addr)) (fp : List Addr), PTs (X.blk s1 H1 scope (compEnvC scope cl C X.env) fp) ifs tt)
    (hk : ∀ (s1 : Shared) (H1 : Hp) (C : Addr) (cl : List (Str × Addr)) (fp : List Addr), PE (X.blk s1 H1 scope (compEnvC scope cl C X.env) fp) kx tk)
    (he : ∀ (s1 : Shared) (H1 : Hp) (C : Addr) (cl : List (Str × Addr)) (fp : List Addr), PE (X.blk s1 H1 scope (compEnvC scope cl C X.env) fp) vx tv) (hs : ∀ x, foldedSetIterable iter X.env x = pure x) :
    PS X (.Assign [.Name y py] (.DictComp kx vx [⟨tg, iter, ifs, 0⟩] scope pos) spos) (tAsg (tDc wi g tt tk tv (own.map (·.2))) (gName i)) := by
  refine ⟨fun pins s0 σ H D I w => ?_⟩
  rw [exec_Assign_Name_used _ _ _ _ hsw]
  refine wpAny_bind (wpAny_standAt (wpAny_bind ?_))
  refine (show wpAny _ X.A (do let _ ← comprehension (.DictComp kx vx [⟨tg, iter, ifs, 0⟩] scope pos) scope X.env (firstIterPos [⟨tg, iter, ifs, 0⟩] pos) newDict false (eval iter X.env) (some (assign (.Name y py) X.env))) _ _ s0 from ?_)
  have w2 : tDc wi g tt tk tv (own.map (·.2)) σ H (fun x H1 => gName i x σ H1 D.nx) := w
  refine wpAny_bind (thn (dc_core (Qf := fun _ s9 => SP X pins D .next s9) hc hN I hi ok hg ht hk he hs w2 fun L C s9 m H9 I9 q hn fresh => ?_) fun _ s9 hq => wpAny_pure (wpAny_pure hq))
  refine (show wpAny _ _ (assign (.Name y py) X.env (.ref L)) _ _ _ from ?_)
  obtain ⟨f0, f1, f2, f3, f4, f5⟩ := fresh
  refine wpAny_assign_Name (store_ok2 (v := V.ref L) I9 hN hy (.inl hyl) rfl (fun s2 I2 ⟨a, sb, ha⟩ => ?_) (.inr hyl))
  have apart : C ≠ a := ha.elim (fun z => by rw [z]; exact f1) fun z e => f4 y a z e.symm
  exact ⟨m, hn.sameBut sb apart, fun h3 sb3 => ⟨_, H9, I2.turned (t' := s2.toks) (fun b o hb e => (sb3.2 b hb).trans e) f0 f1 f3 f4 f5, q⟩⟩
end
section
variable {X : Cx} {kx vx tg iter : Expr} {ifs : List Expr} {scope : Scope} {own : List (Str × Nat)} {pos : Pos} {ti : DI} {g : DG} {tt : DB} {tk tv : DT} {wr : List Nat}
theorem ds_setDc (i : Nat) {y : Str} {py spos : Pos} (hc : X.calm = true) (hN : X.N.Nodup) (hi : DIt X tg iter ti) (ok : BlkOk X.N X.env.scope scope own)
    (hg : ∀ (s : Shared) (H : Hp) (C : Addr) (cl : List (Str × Addr)) (fp : List Addr), DGt (X.blk s H scope (compEnvC scope cl C X.env) fp) tg wr g) (ht : ∀ (s : Shared) (H : Hp) (C : Addr) (cl : List (Str × Addr)) (fp : List Addr), DTs (X.blk s H scope (compEnvC scope cl C X.env) fp) ifs tt)
    (hk : ∀ (s : Shared) (H : Hp) (C : Addr) (cl : List (Str × Addr)) (fp : List Addr), DE (X.blk s H scope (compEnvC scope cl C X.env) fp) kx tk)
    (he : ∀ (s : Shared) (H : Hp) (C : Addr) (cl : List (Str × Addr)) (fp : List Addr), DE (X.blk s H scope (compEnvC scope cl C X.env) fp) vx tv) (hsw : swapsWith (.DictComp kx vx [⟨tg, iter, ifs, 0⟩] scope pos) (some (.Name y py)) spos.line X.env = pure true)
    (hy : X.N[i]? = some y := by rfl) (hyl : X.env.scope.names.lookup y = some .local := by rfl) (ws : ∀ w ∈ wr, w ∈ own.map (·.2) := by decide) (hs : ∀ x, foldedSetIterable iter X.env x = pure x := by intro _; rfl) :
    DSt X (.Assign [.Name y py] (.DictComp kx vx [⟨tg, iter, ifs, 0⟩] scope pos) spos) (sSet i (dDc (own.map (·.2)) ti g tt tk tv)) :=
  PS.imp (ps_setDc (wi := liftI X.K ti) (g := liftG X.K wr g) (tt := liftT X.K tt) (tk := liftE X.K tk) (tv := liftE X.K tv) hc hN hy hyl hsw hi ok hg ht hk he hs) fun Dn σ H h => by
    have := lift_set (X := X) (te := dDc (own.map (·.2)) ti g tt tk tv) i Dn σ H h
    exact lift_dc ws σ H _ this
theorem ds_setDcF (i : Nat) {y : Str} {py spos : Pos} (hc : X.calm = true) (hN : X.N.Nodup) (hi : DIt X tg iter ti) (ok : BlkOk X.N X.env.scope scope own)
    (hg : ∀ (s : Shared) (H : Hp) (C : Addr) (cl : List (Str × Addr)) (fp : List Addr), DGt (X.blk s H scope (compEnvC scope cl C X.env) fp) tg wr g) (ht : ∀ (s : Shared) (H : Hp) (C : Addr) (cl : List (Str × Addr)) (fp : List Addr), DTs (X.blk s H scope (compEnvC scope cl C X.env) fp) ifs tt)
    (hk : ∀ (s : Shared) (H : Hp) (C : Addr) (cl : List (Str × Addr)) (fp : List Addr), DE (X.blk s H scope (compEnvC scope cl C X.env) fp) kx tk)
    (he : ∀ (s : Shared) (H : Hp) (C : Addr) (cl : List (Str × Addr)) (fp : List Addr), DE (X.blk s H scope (compEnvC scope cl C X.env) fp) vx tv) (hsw : swapsWith (.DictComp kx vx [⟨tg, iter, ifs, 0⟩] scope pos) (some (.Name y py)) spos.line X.env = pure true)
    (hy : X.N[i]? = some y := by rfl) (hyl : X.env.scope.names.lookup y = some .local := by rfl) (ws : ∀ w ∈ wr, w ∈ own.map (·.2) := by decide) (hs : ∀ x, foldedSetIterable iter X.env x = pure x := by intro _; rfl) :
    DSt X (.Assign [.Name y py] (.DictComp kx vx [⟨tg, iter, ifs, 0⟩] scope pos) spos) (sSetF i (dDc (own.map (·.2)) ti g tt tk tv)) :=
  PS.imp (ps_setDc (wi := liftI X.K ti) (g := liftG X.K wr g) (tt := liftT X.K tt) (tk := liftE X.K tk) (tv := liftE X.K tv) hc hN hy hyl hsw hi ok hg ht hk he hs) fun Dn σ H h => by
    have := lift_setF (X := X) (te := dDc (own.map (·.2)) ti g tt tk tv) i Dn σ H h
    exact lift_dc ws σ H _ this
end
end DL
end
section
set_option Elab.async false
set_option linter.all false
set_option maxRecDepth 100000
set_option maxHeartbeats 4000000
/-! DL22: constants of the program; isinstance; clear of dicts; an owned thing read within one expression; walks over dicts in comprehensions. -/
namespace DL
open PySem PySem.Spec L2

/-! ### constants of a module -/
structure Cst (mg : Str → Option Value) (x : Str) (d : D) : Prop where
  ex : ∃ v u, mg x = some u ∧ RelV v u ∧ ∀ (K : PySem.W.Frag) (H : Hp) (F : Fz), Rp K H F d v
theorem Cst.ofStr {mg : Str → Option Value} {x z : Str} (h : ∃ t, mg x = some (.str z t)) : Cst mg x (.str z) := by
  obtain ⟨t, h⟩ := h
  exact ⟨.str z, _, h, ⟨t, rfl⟩, fun _ _ _ => .str z⟩
theorem Cst.ofInt {mg : Str → Option Value} {x : Str} {i : Int} (h : ∃ t, mg x = some (.int i t)) : Cst mg x (.int i) := by
  obtain ⟨t, h⟩ := h
  exact ⟨.int i, _, h, ⟨t, rfl⟩, fun _ _ _ => .int i⟩
theorem de_cst {X : Cx} {x : Str} {d : D} {pos : Pos} (c : Cst X.mg x d) (gl : Gl X x := by rfl) (hd : (x == ("__debug__" : Str)) = false := by decide) : DE X (.Name x pos) (dC d) := by
  obtain ⟨v, u, h1, h2, h3⟩ := c.ex
  exact PE.imp (pe_glob gl h1 h2 hd) (lift_c fun H F => h3 _ H F)

/-! ### isinstance -/
def tyD : D → String
  | .none => "NoneType"
  | .bool _ => "bool"
  | .int _ => "int"
  | .str _ => "str"
  | .list _ => "list"
  | .tuple _ => "tuple"
  | .dict _ => "dict"
def isiD (T : String) (d : D) : Bool := tyD d == T || (T == "int" && tyD d == "bool")
def dIsi (T : String) (te : DT) : DT := fun env Q => te env fun o e1 => ∃ d, o.get e1 = some d ∧ Q (.fz (.bool (isiD T d))) e1
theorem Ob.ty {K : PySem.W.Frag} {H : Hp} {F : Fz} {v : V} {d : D} (h : Ob K H F v d) : TyX K H v (.type (tyD d)) := by
  cases d with
  | none => cases h.none; exact .base .non
  | bool b => cases h.bool; exact .base (.bl b)
  | int i => cases h.int; exact .base (.int i)
  | str x => cases h.str; exact .base (.str x)
  | list ds => obtain ⟨a, xs, rfl, h, _⟩ := h.list; exact .base (.lst h)
  | tuple ds => obtain ⟨a, xs, rfl, ⟨o, _, h⟩, _⟩ := h.tuple; exact .fTuple h
  | dict kvs =>
    obtain ⟨a, vs, rfl, ⟨l, h, _⟩, _⟩ := h.dict
    rcases h with h | ⟨o, h⟩
    · exact .base (.dK h)
    · exact .fDict h
section
variable {X : Cx} {e : Expr} {te : DT} {p p2 pos : Pos} {n : Str} {T : String}
theorem de_isi (hm : X.mg "isinstance" = none) (hn : X.mg n = none) (he : DE X e te) (T : String) (hv : bootBuiltins n = some (.type T)) (kit : ∀ d : D, PySem.W.kitOne X.K (.type (tyD d)) (.type T) = some (isiD T d))
    (gl : Gl X "isinstance" := by rfl) (gn : Gl X n := by rfl) (n1 : n ≠ "__name__" := by decide) (n2 : (n == ("__debug__" : Str)) = false := by decide)
    (h1 : starEach [e, .Name n p2] X.env = (false, eval e X.env) :: starEach [.Name n p2] X.env := by rfl) (h2 : starEach [.Name n p2] X.env = (false, eval (.Name n p2) X.env) :: starEach [] X.env := by rfl) (hpl : (backTo pos (starEach [.Name n p2] X.env)).any (·.1) = false := by rfl) :
    DE X (.Call (.Name "isinstance" p) [e, .Name n p2] [] pos) (dIsi T te) :=
  PE.imp (pe_callB call_isi gl hm (by decide +kernel) (pa_cons he (pa_cons (pe_bltn (v := .ty T) gn hn hv rfl n1 n2) pa_nil h2) h1) (by decide) (by decide) h1 hpl) fun σ H Q h => by
    obtain ⟨F, env, R, er, q, k⟩ := h
    refine lift_op (.refl er) q fun o1 e1 x H1 F1 q1 c1 _ p1 => ?_
    obtain ⟨d, g, q1⟩ := q1
    exact ⟨x, .ty T, _, .type T, _, rfl, .ty T, (p1.ob c1.er g).ty, kit d, k _ _ _ _ _ q1 c1 (Rp.bl _)⟩
end
theorem kit_dict (K : PySem.W.Frag) (d : D) : PySem.W.kitOne K (.type (tyD d)) (.type "dict") = some (isiD "dict" d) := by cases d <;> rfl
theorem kit_int (K : PySem.W.Frag) (d : D) : PySem.W.kitOne K (.type (tyD d)) (.type "int") = some (isiD "int" d) := by cases d <;> rfl
theorem kit_bool (K : PySem.W.Frag) (d : D) : PySem.W.kitOne K (.type (tyD d)) (.type "bool") = some (isiD "bool" d) := by cases d <;> rfl
theorem kit_str (K : PySem.W.Frag) (d : D) : PySem.W.kitOne K (.type (tyD d)) (.type "str") = some (isiD "str" d) := by cases d <;> rfl
theorem kit_tuple (K : PySem.W.Frag) (d : D) : PySem.W.kitOne K (.type (tyD d)) (.type "tuple") = some (isiD "tuple" d) := by cases d <;> rfl
theorem kit_list (K : PySem.W.Frag) (d : D) : PySem.W.kitOne K (.type (tyD d)) (.type "list") = some (isiD "list" d) := by cases d <;> rfl

/-! ### x.clear(), x a list or a dict -/
theorem PE.or {X : Cx} {e : Expr} {t u : TE} (h : PE X e t) (g : PE X e u) : PE X e (fun σ H Q => t σ H Q ∨ u σ H Q) := ⟨fun pins s σ H Q I q => q.elim (h.run pins s σ H Q I) (g.run pins s σ H Q I)⟩
def emptyD : D → Option D
  | .list _ => some (.list [])
  | .dict _ => some (.dict [])
  | _ => none
def dClr (i : Nat) : DT := fun env Q => ∃ p d d', env[i]? = some (.ow p d) ∧ emptyD d = some d' ∧ Q (.fz .none) (env.set i (.ow p d'))
section
variable {X : Cx} {x : Str} {p apos cpos : Pos}
theorem de_clr (i : Nat) (hN : X.N[i]? = some x := by rfl) (hx : Vis X.env.scope x := by first | exact Or.inl rfl | exact Or.inr (Or.inl rfl) | exact Or.inr (Or.inr rfl)) (hd : (x == ("__debug__" : Str)) = false := by decide) (hcd : (x == ("__classdict__" : Str)) = false := by decide)
    (hbase : attributeBase (.Name x p) "clear" X.env (eval (.Name x p) X.env) = eval (.Name x p) X.env := by rfl) (hline : (apos.endLine == cpos.line) = true := by rfl) :
    DE X (.Call (.Attribute (.Name x p) "clear" apos) [] [] cpos) (dClr i) :=
  PE.imp (PE.or (pe_bm0 PySem.F.plainAttrs_list PySem.F.slot_list_clear PySem.F.type_list_clear mt_clear (pv i hN hx hd hcd) hbase hline) (pe_dclear (pv i hN hx hd hcd) hbase hline)) fun σ H Q h => by
    obtain ⟨F, env, R, er, ⟨p, d, d', hi, hd, q⟩, k⟩ := h
    obtain ⟨a, ha, nf, t⟩ := er.ow i p d hi
    cases d with
    | list ds =>
      cases hd
      obtain ⟨xs, h, r⟩ := t
      refine .inl ⟨_, ha, .inl ⟨rfl, xs, .of h⟩, a, xs, rfl, rfl, h, ?_⟩
      exact k _ _ .non _ F q (mut_cur er hi ha fun _ => ⟨[], upd_same, .nil⟩) Rp.non
    | dict kvs =>
      cases hd
      obtain ⟨vs, ⟨l, h, e1, e2⟩, r⟩ := t
      refine .inr ⟨_, ha, .inr (.inr (.inl ⟨rfl, .inl ⟨l, h⟩⟩)), a, l, rfl, rfl, h, ?_⟩
      exact k _ _ .non _ F q (mut_cur er hi ha fun _ => ⟨[], ⟨[], upd_same, rfl, rfl⟩, .nil⟩) Rp.non
    | _ => cases hd
end

/-! ### an owned thing, read within one expression -/
def hide1 : Slot → Slot
  | .ow _ _ => .un
  | s => s
def hide (env : SEnv) : SEnv := env.map hide1
def scal : D → Bool
  | .none => true
  | .bool _ => true
  | .int _ => true
  | .str _ => true
  | _ => false
def bMask (i : Nat) (t : DB) : DB := fun env Q => ∃ d, env[i]? = some (.ow false d) ∧ t ((hide env).set i (.fz d)) fun b _ => Q b env
def dMask (i : Nat) (t : DT) : DT := fun env Q => ∃ d, env[i]? = some (.ow false d) ∧ t ((hide env).set i (.fz d)) fun o _ => ∃ c, o = .fz c ∧ scal c = true ∧ Q (.fz c) env
section
variable {K : PySem.W.Frag} {σ : L2.St} {H H' : Hp} {F F' : Fz} {env e' : SEnv} {i : Nat} {p : Bool} {d : D}
theorem hide_get {j : Nat} : (hide env)[j]? = env[j]?.map hide1 := by unfold hide; rw [List.getElem?_map]
theorem mask_er (er : ER K σ H F env) (h : env[i]? = some (.ow p d)) : ∃ F1 : Fz, (∀ a, F a → F1 a) ∧ ER K σ H F1 ((hide env).set i (.fz d)) ∧ ∀ a, ¬ AOf σ ((hide env).set i (.fz d)) a := by
  obtain ⟨a, ha, nf, t⟩ := er.ow i p d h
  obtain ⟨o, ho, _⟩ := t.obj
  have hi : i < (hide env).length := by rw [hide, List.length_map]; exact (List.getElem?_eq_some_iff.mp h).1
  have e : Ext H F H (fun b => F b ∨ b = a) := ⟨fun _ h => .inl h, fun _ _ _ h => h, fun _ _ h => h, fun _ _ _ h => h⟩
  have get : ∀ {j : Nat} {s : Slot}, ((hide env).set i (.fz d))[j]? = some s → (j = i ∧ s = .fz d) ∨ (j ≠ i ∧ env[j]?.map hide1 = some s) := fun {j s} hj => by
    rcases getElem?_set' hj with ⟨rfl, z⟩ | ⟨nj, z⟩
    · exact .inl ⟨rfl, z⟩
    · exact .inr ⟨nj, by rw [← hide_get]; exact z⟩
  have noOw : ∀ {j : Nat} {q : Bool} {d' : D}, ((hide env).set i (.fz d))[j]? ≠ some (.ow q d') := fun {j q d'} hj => by
    rcases get hj with ⟨_, z⟩ | ⟨_, z⟩
    · cases z
    · obtain ⟨s, _, hs⟩ := Option.map_eq_some_iff.mp z
      cases s <;> cases hs
  refine ⟨fun b => F b ∨ b = a, fun _ h => .inl h, ⟨by rw [List.length_set, hide, List.length_map]; exact er.len, fun j d' hj => ?_, fun j q d' hj => absurd hj noOw, fun j ns hj => ?_, fun j l q d1 q2 d2 b h1 _ _ _ => absurd h1 noOw, fun b hb => ?_⟩, fun b ⟨j, q, d', hj, _⟩ => noOw hj⟩
  · rcases get hj with ⟨rfl, z⟩ | ⟨_, z⟩
    · cases z
      refine ⟨_, ha, ?_⟩
      cases d with
      | list ds => obtain ⟨xs, hx, r⟩ := t; exact .lst (.inr rfl) hx (r.ext e)
      | dict kvs => obtain ⟨vs, hx, r⟩ := t; exact .dic (.inr rfl) hx.r (r.ext e)
      | _ => exact t.elim
    · obtain ⟨s, h1, hs⟩ := Option.map_eq_some_iff.mp z
      cases s <;> cases hs
      obtain ⟨v, q, r⟩ := er.fz j _ h1
      exact ⟨v, q, r.ext e⟩
  · rcases get hj with ⟨_, z⟩ | ⟨_, z⟩
    · cases z
    · obtain ⟨s, h1, hs⟩ := Option.map_eq_some_iff.mp z
      cases s <;> cases hs
      exact er.sc j _ h1
  · rcases hb with hb | rfl
    · exact er.liv b hb
    · rw [ho]; exact fun z => nomatch z
theorem mask_cur {F1 : Fz} {em : SEnv} (er : ER K σ H F env) (na : ∀ a, ¬ AOf σ em a) (c : Cur K σ H F1 em H' F' e') : Cur K σ H F env H' F env := by
  have kept : ∀ a o, H a = some o → H' a = some o := fun a o h => c.st.keep a o h (na a)
  refine ⟨er, ⟨fun _ h => h, fun a o h _ => kept a o h, fun _ h => .inl h, c.st.live⟩, Shape.refl, er.kept kept (fun _ h => h) (fun a h => (er.aof h).1) fun a h => ?_⟩
  cases e : H a with
  | none => exact absurd e (er.liv a h)
  | some o => rw [kept a o e]; exact fun z => nomatch z
end
section
variable {X : Cx} {e : Expr} {te : DT} {tb : DB}
theorem dt_mask (i : Nat) (h : DTe X e tb) : DTe X e (bMask i tb) := PT.imp h fun σ H Q q => by
  obtain ⟨F, env, R, er, ⟨d, hi, q⟩, k⟩ := q
  obtain ⟨F1, f, er1, na⟩ := mask_er er hi
  exact ⟨F1, _, _, er1, q, fun b env' H' F' hb c => k _ _ _ _ hb (mask_cur er na c)⟩
theorem scal_rp {K : PySem.W.Frag} {H H' : Hp} {F F' : Fz} {c : D} {v : V} (h : scal c = true) (r : Rp K H F c v) : Rp K H' F' c v := by
  cases c <;> first | cases h | skip
  · cases r; exact .non
  · cases r; exact .bl _
  · cases r; exact .int _
  · cases r; exact .str _
theorem de_mask (i : Nat) (h : DE X e te) : DE X e (dMask i te) := PE.imp h fun σ H Q q => by
  obtain ⟨F, env, R, er, ⟨d, hi, q⟩, k⟩ := q
  obtain ⟨F1, f, er1, na⟩ := mask_er er hi
  refine ⟨F1, _, _, er1, q, fun o env' v H' F' hb c r => ?_⟩
  obtain ⟨c', rfl, hs, q1⟩ := hb
  exact k _ _ _ _ _ q1 (mask_cur er na c) (scal_rp hs r)
end

/-! ### [.. for k in d ..] -/
/-- d's dict is held by the object, or no longer -/
structure Lk (d : Addr) (H H' : Hp) : Prop where
  o : ∀ b, b ≠ d → H' b = H b
  d : ∃ l : List (Key × V), Rd H d (.dK l) ∧ Rd H' d (.dK l)
section
variable {K : PySem.W.Frag} {σ : L2.St} {H H' : Hp} {F : Fz} {env : SEnv} {d : Addr}
theorem Lk.ne (l : Lk d H H') {a : Addr} {u : HO} (h : H a = some u) (n1 : ∀ l, u ≠ .dK l) (n2 : ∀ o l, u ≠ .frz o (.dK l)) : H' a = some u := by
  by_cases e : a = d
  · subst e
    obtain ⟨l, r, _⟩ := l.d
    rcases r with r | ⟨o, r⟩ <;> rw [h] at r <;> cases r
    · exact absurd rfl (n1 _)
    · exact absurd rfl (n2 _ _)
  · rw [l.o a e]; exact h
theorem Lk.dic (l : Lk d H H') {a : Addr} {ks : List D} {vs : List V} (h : DicAt H a ks vs) : DicAt H' a ks vs := by
  obtain ⟨m, h, r⟩ := h
  by_cases e : a = d
  · subst e
    obtain ⟨l, r1, r2⟩ := l.d
    have : l = m := by
      rcases h with h | ⟨o, h⟩ <;> rcases r1 with g | ⟨o2, g⟩ <;> rw [h] at g <;> cases g <;> rfl
    subst this
    exact ⟨_, r2, r⟩
  · exact ⟨m, h.imp (fun z => by rw [l.o a e]; exact z) fun ⟨o, z⟩ => ⟨o, by rw [l.o a e]; exact z⟩, r⟩
mutual
theorem Rp.lk (l : Lk d H H') : ∀ {x : D} {v : V}, Rp K H F x v → Rp K H' F x v
  | _, _, .non => .non
  | _, _, .bl b => .bl b
  | _, _, .int i => .int i
  | _, _, .str x => .str x
  | _, _, .tup ⟨o, hd, h⟩ r => .tup ⟨o, hd, l.ne h (fun _ z => nomatch z) (fun _ _ z => nomatch z)⟩ (RpL.lk l r)
  | _, _, .lst f h r => .lst f (l.ne h (fun _ z => nomatch z) (fun _ _ z => nomatch z)) (RpL.lk l r)
  | _, _, .dic f h r => .dic f (l.dic h) (RpL.lk l r)
theorem RpL.lk (l : Lk d H H') : ∀ {xs : List D} {vs : List V}, RpL K H F xs vs → RpL K H' F xs vs
  | _, _, .nil => .nil
  | _, _, .cons h r => .cons (Rp.lk l h) (RpL.lk l r)
end
theorem Top.lk (l : Lk d H H') {a : Addr} (n : a ≠ d) : ∀ {x : D}, Top K H F a x → Top K H' F a x
  | .list ds, ⟨xs, h, r⟩ => ⟨xs, by rw [l.o a n]; exact h, r.lk l⟩
  | .dict kvs, ⟨vs, ⟨m, h, e⟩, r⟩ => ⟨vs, ⟨m, by rw [l.o a n]; exact h, e⟩, r.lk l⟩
theorem Scr.lk (l : Lk d H H') {a : Addr} {ns : List Int} (h : Scr K H a ns) : Scr K H' a ns := h.imp (fun ⟨o, h⟩ => ⟨o, l.ne h (fun _ z => nomatch z) (fun _ _ z => nomatch z)⟩) id
theorem ER.lk (er : ER K σ H F env) (l : Lk d H H') (f : F d) : ER K σ H' F env := by
  refine ⟨er.len, fun i x h => ?_, fun i p x h => ?_, fun i ns h => ?_, er.dis, fun a ha => ?_⟩
  · obtain ⟨v, q, r⟩ := er.fz i x h
    exact ⟨v, q, r.lk l⟩
  · obtain ⟨a, q, nf, t⟩ := er.ow i p x h
    exact ⟨a, q, nf, t.lk l fun e => nf (by rw [e]; exact f)⟩
  · obtain ⟨a, q, s⟩ := er.sc i ns h
    exact ⟨a, q, s.lk l⟩
  · by_cases e : a = d
    · subst e
      obtain ⟨_, _, r⟩ := l.d
      rcases r with r | ⟨o, r⟩ <;> rw [r] <;> exact fun z => nomatch z
    · rw [l.o a e]; exact er.liv a ha
end
/-- the items, told beforehand -/
def iC (items : List D) : DI := fun env Q => Q items none env
/-- [.. for k in d ..], d the name in slot j -/
def dLcK (j : Nat) (vs : List Nat) (g : DG) (tt : DB) (te : DT) : DT := fun env Q => ∃ kvs, env[j]? = some (.fz (.dict kvs)) ∧ dLc vs (iC (kvs.map Prod.fst)) g tt te env Q
section
variable {X : Cx} {elt tg c : Expr} {ifs : List Expr} {scope : Scope} {own : List (Str × Nat)} {pos px : Pos} {g : DG} {tt : DB} {te : DT} {wr : List Nat} {x : Str}
theorem jf_keys {K : PySem.W.Frag} {H : Hp} {F : Fz} {d : Addr} {od : Obj} {l : List (Key × V)} (h : H d = some (.frz od (.dK l))) : JF K (Itk d od l) H F (l.map fun p => keyD p.1) := fun i H1 F1 e => by
  have h1 := e.fr _ _ _ h
  refine ⟨fun x hx => ?_, fun hl => ⟨h1, by rw [← hl, List.length_map]; exact Nat.le_refl _⟩⟩
  rw [List.getElem?_map] at hx
  obtain ⟨⟨k, v⟩, hk, rfl⟩ := Option.map_eq_some_iff.mp hx
  refine ⟨⟨h1, (List.getElem?_eq_some_iff.mp hk).1⟩, fun y H2 ⟨e2, k2, v2, hk2, ey⟩ => ?_⟩
  subst e2 ey
  rw [hk] at hk2
  cases hk2
  refine ⟨.inl rfl, ?_⟩
  cases k with
  | inl i => exact .int i
  | inr z => exact .str z
theorem lift_lcK {K : PySem.W.Frag} {j : Nat} {vs : List Nat} (ws : ∀ w ∈ wr, w ∈ vs) : ∀ σ H Q, liftE K (dLcK j vs g tt te) σ H Q →
    tLockE (tLc (iKeys (tVar j)) (liftG K wr g) (liftT K tt) (liftE K te) vs) σ H Q ∨ tLc (iKeys (tVar j)) (liftG K wr g) (liftT K tt) (liftE K te) vs σ H Q := fun σ H Q h => by
  obtain ⟨F, env, R, er, ⟨kvs, hj, q⟩, k⟩ := h
  obtain ⟨v, hv, r⟩ := er.fz j _ hj
  cases r with
  | @dic d _ vs' f dd r =>
    obtain ⟨l, hl, e1, e2⟩ := dd
    have core : ∀ (H2 : Hp) (od : Obj) (h2 : H2 d = some (.frz od (.dK l))) (er2 : ER K σ H2 F env) (Q2 : VK), (∀ o env' v H' F', R o env' → Cur K σ H2 F env H' F' env' → RO K H2 σ H' F' env' v o → Q2 v H') → tLc (iKeys (tVar j)) (liftG K wr g) (liftT K tt) (liftE K te) vs σ H2 Q2 := fun H2 od h2 er2 Q2 k2 => by
      have this := lift_lc (K := K) (g := g) (tt := tt) (te := te) ws σ H2 Q2 ⟨F, env, R, er2, q, k2⟩
      obtain ⟨F', env', RI, er', ht, kk⟩ := this
      refine ⟨.ref d, hv, d, od, rfl, .inl ⟨l, h2, kk _ _ _ H2 F' _ ht (.refl er') ?_⟩⟩
      rw [e1]
      exact jf_keys h2
    rcases hl with hl | ⟨od, hl⟩
    · refine .inl ⟨d, .dK l, hl, trivial, fun od => ?_⟩
      have lk : Lk d H (upd H d (.frz od (.dK l))) := ⟨fun b n => upd_ne n, l, .inl hl, .inr ⟨od, upd_same⟩⟩
      refine core _ od upd_same (er.lk lk f) _ fun o env' v H' F' hR c r => ?_
      have nA : ¬ AOf σ env d := fun z => (er.aof z).1 f
      have h' : H' d = some (.frz od (.dK l)) := c.st.keep d _ upd_same nA
      have lk2 : Lk d H' (upd H' d (.dK l)) := ⟨fun b n => upd_ne n, l, .inr ⟨od, h'⟩, .inl upd_same⟩
      have neD : ∀ {a : Addr}, upd H d (.frz od (.dK l)) a = none → a ≠ d ∧ H a = none := fun {a} z => by
        by_cases e : a = d
        · subst e; rw [upd_same] at z; cases z
        · rw [upd_ne e] at z; exact ⟨e, z⟩
      refine ⟨h', k _ _ _ _ F' hR ⟨er, ⟨c.st.f, fun a o h n => ?_, fun a z => (c.st.new a z).imp id fun z => (neD z).2, fun a z => ?_⟩, c.sh, c.er.lk lk2 (c.st.f d f)⟩ ?_⟩
      · by_cases e : a = d
        · subst e; rw [upd_same]; rw [hl] at h; exact h
        · rw [upd_ne e]; exact c.st.keep a o (by rw [upd_ne e]; exact h) n
      · by_cases e : a = d
        · subst e; rw [upd_same] at z; cases z
        · rw [upd_ne e] at z; exact (neD (c.st.live a z)).2
      · cases o with
        | fz x => exact Rp.lk lk2 r
        | nw x => obtain ⟨a, e, n, nf, t⟩ := r; exact ⟨a, e, (neD n).2, nf, t.lk lk2 (neD n).1⟩
        | al i => exact r
        | sc ns => obtain ⟨a, e, s⟩ := r; exact ⟨a, e, s.lk lk2⟩
    · exact .inr (core H od hl er Q k)
theorem de_lcK (j : Nat) (hc : X.calm = true) (hN : X.N.Nodup) (hj : X.N[j]? = some x) (ok : BlkOk X.N X.env.scope scope own)
    (hg : ∀ (s : Shared) (H : Hp) (C : Addr) (cl : List (Str × Addr)) (fp : List Addr), DGt (X.blk s H scope (compEnvC scope cl C X.env) fp) tg wr g) (ht : ∀ (s : Shared) (H : Hp) (C : Addr) (cl : List (Str × Addr)) (fp : List Addr), DTs (X.blk s H scope (compEnvC scope cl C X.env) fp) ifs tt)
    (he : ∀ (s : Shared) (H : Hp) (C : Addr) (cl : List (Str × Addr)) (fp : List Addr), DE (X.blk s H scope (compEnvC scope cl C X.env) fp) elt te) (ws : ∀ w ∈ wr, w ∈ own.map (·.2) := by decide) (hs : ∀ y, foldedSetIterable (.Name x px) X.env y = pure y := by intro _; rfl)
    (hx : Vis X.env.scope x := by first | exact Or.inl rfl | exact Or.inr (Or.inl rfl) | exact Or.inr (Or.inr rfl)) (hd : (x == ("__debug__" : Str)) = false := by decide) (hcd : (x == ("__classdict__" : Str)) = false := by decide) :
    DE X (.ListComp elt [⟨tg, .Name x px, ifs, 0⟩] scope pos) (dLcK j (own.map (·.2)) g tt te) :=
  have core := pe_lc (g := liftG X.K wr g) (tt := liftT X.K tt) (te := liftE X.K te) hc hN (pi_keys (pv j hj hx hd hcd)) ok hg ht he hs
  PE.imp (PE.or (pe_lock core) core) (lift_lcK ws)
end
end DL
end
section
set_option Elab.async false
set_option linter.all false
set_option maxRecDepth 100000
/-! DM1: reckoning with transformers: what an expression gives. -/
namespace DL
open PySem

/-- t at env gives o and leaves e -/
def Ev (t : DT) (env : SEnv) (o : O) (e : SEnv) : Prop := ∀ Q : O → SEnv → Prop, Q o e → t env Q
def EvT (t : DB) (env : SEnv) (b : Bool) (e : SEnv) : Prop := ∀ Q : Bool → SEnv → Prop, Q b e → t env Q
def EvA (t : DA) (env : SEnv) (os : List O) (e : SEnv) : Prop := ∀ Q : List O → SEnv → Prop, Q os e → t env Q
def EvP (t : DP) (env : SEnv) (o : Option Int) (e : SEnv) : Prop := ∀ Q : Option Int → SEnv → Prop, Q o e → t env Q
def EvI (t : DI) (env : SEnv) (its : List D) (al : Option Nat) (e : SEnv) : Prop := ∀ Q : List D → Option Nat → SEnv → Prop, Q its al e → t env Q
section
variable {env e1 e2 e3 : SEnv} {o oa ob : O} {a b d : D} {ta tb te : DT} {ca cb : DB} {i : Nat} {g : D → D → Option O} {os : List O} {ds : List D}
theorem ev_var (h : env[i]? = some (.fz d)) : Ev (dVar i) env (.fz d) env := fun Q q => by unfold dVar; rw [h]; exact q
theorem ev_own {p : Bool} (h : env[i]? = some (.ow p d)) : Ev (dVar i) env (.al i) env := fun Q q => by unfold dVar; rw [h]; exact q
theorem ev_scr {ns : List Int} (h : env[i]? = some (.sc ns)) : Ev (dVar i) env (.sc ns) env := fun Q q => by unfold dVar; rw [h]; exact q
theorem ev_c : Ev (dC d) env (.fz d) env := fun Q q => q
theorem ev_bin (ha : Ev ta env oa e1) (hb : Ev tb e1 ob e2) (ga : oa.get e2 = some a) (gb : ob.get e2 = some b) (h : g a b = some o) : Ev (dBin g ta tb) env o e2 := fun Q q => ha _ (hb _ ⟨a, b, o, ga, gb, h, q⟩)
theorem ev_un {g : D → Option O} (ha : Ev ta env oa e1) (ga : oa.get e1 = some a) (h : g a = some o) : Ev (dUn g ta) env o e1 := fun Q q => ha _ ⟨a, o, ga, h, q⟩
theorem ev_nil : EvA aNil env [] env := fun Q q => q
theorem ev_cons {ta : DT} {u : DA} (h : Ev ta env o e1) (t : EvA u e1 os e2) : EvA (aCons ta u) env (o :: os) e2 := fun Q q => h _ (t _ q)
theorem ev_star {ta : DT} {u : DA} (h : Ev ta env o e1) (g : o.get e1 = some d) (s : seqD d = some ds) (t : EvA u e1 os e2) : EvA (aStar ta u) env (ds.map O.fz ++ os) e2 := fun Q q => h _ ⟨d, ds, g, s, t _ q⟩
theorem ev_B {g : List D → Option O} {ta : DA} (h : EvA ta env os e1) (gs : getsO e1 os = some ds) (hg : g ds = some o) : Ev (dB g ta) env o e1 := fun Q q => h _ ⟨ds, o, gs, hg, q⟩
theorem ev_tup {ta : DA} (h : EvA ta env os e1) (gs : valsO os = some ds) (l : ds.length ≤ sizeLine) : Ev (dTup ta) env (.fz (.tuple ds)) e1 := fun Q q => h _ ⟨ds, gs, l, q⟩
theorem ev_lst {ta : DA} (h : EvA ta env os e1) (gs : valsO os = some ds) (l : ds.length ≤ sizeLine) : Ev (dLst ta) env (.nw (.list ds)) e1 := fun Q q => h _ ⟨ds, gs, l, q⟩
theorem ev_no : EvP pNo env none env := fun Q q => q
theorem ev_at {n : Int} (h : Ev ta env (.fz (.int n)) e1) : EvP (pAt ta) env (some n) e1 := fun Q q => h _ ⟨n, rfl, q⟩
theorem ev_sl {l h : DP} {lo hi : Option Int} {z : O} (ht : Ev ta env o e1) (hl : EvP l e1 lo e2) (hh : EvP h e2 hi e3) (g : gSl lo hi o e3 = some z) : Ev (dSl ta l h) env z e3 := fun Q q => ht _ (hl _ (hh _ ⟨z, g, q⟩))
theorem ev_call {sp : SpD} {ta : DA} {args args' : List Slot} (h : EvA ta env os e1) (ha : argsS e1 os = some args) (nd : (alsO os).Nodup) (hs : ∀ R : O → List Slot → Prop, R o args' → sp args R) (ro : o.ret = true) (he : back os args' e1 = e2) : Ev (dCall sp ta) env o e2 := fun Q q => h _ ⟨args, ha, nd, hs _ ⟨ro, he ▸ q⟩⟩
theorem evt_val {b : Bool} (h : Ev ta env (.fz (.bool b)) e1) : EvT (bVal ta) env b e1 := fun Q q => h _ ⟨b, rfl, q⟩
theorem evt_tru {c : Bool} (h : Ev ta env o e1) (g : o.get e1 = some d) (t : truD d = some c) : EvT (bTru ta) env c e1 := fun Q q => h _ ⟨d, c, g, t, q⟩
theorem evt_not {b : Bool} (h : EvT ca env b e1) : EvT (bNot ca) env (!b) e1 := fun Q q => h _ q
theorem evt_and0 (h : EvT ca env false e1) : EvT (bAnd ca cb) env false e1 := fun Q q => h _ q
theorem evt_and1 {b : Bool} (h : EvT ca env true e1) (h2 : EvT cb e1 b e2) : EvT (bAnd ca cb) env b e2 := fun Q q => h _ (h2 _ q)
theorem evt_and {x y : Bool} (h : EvT ca env x e1) (h2 : EvT cb e1 y e1) : EvT (bAnd ca cb) env (x && y) e1 := fun Q q => h _ (by
  cases x
  · exact q
  · exact h2 _ q)
theorem evt_yes : EvT bYes env true env := fun Q q => q
theorem evt_or1 (h : EvT ca env true e1) : EvT (bOr ca cb) env true e1 := fun Q q => h _ q
theorem evt_or0 {b : Bool} (h : EvT ca env false e1) (h2 : EvT cb e1 b e2) : EvT (bOr ca cb) env b e2 := fun Q q => h _ (h2 _ q)
theorem ev_and {x y : Bool} (h : Ev ta env (.fz (.bool x)) e1) (h2 : Ev tb e1 (.fz (.bool y)) e1) : Ev (dAnd ta tb) env (.fz (.bool (x && y))) e1 := fun Q q => h _ (by
  refine ⟨x, rfl, ?_⟩
  cases x
  · exact q
  · exact h2 _ q)
theorem ev_not {x : Bool} (h : Ev ta env (.fz (.bool x)) e1) : Ev (dNot ta) env (.fz (.bool !x)) e1 := fun Q q => h _ ⟨x, rfl, q⟩
theorem ev_if1 (h : EvT ca env true e1) (h2 : Ev ta e1 o e2) : Ev (dIf ca ta tb) env o e2 := fun Q q => h _ (h2 _ q)
theorem ev_if0 (h : EvT ca env false e1) (h2 : Ev tb e1 o e2) : Ev (dIf ca ta tb) env o e2 := fun Q q => h _ (h2 _ q)
theorem evi_seq (h : Ev ta env o e1) (g : o.val = some d) (s : seqD d = some ds) : EvI (iSeq ta) env ds none e1 := fun Q q => h _ ⟨d, ds, g, s, q⟩
theorem evi_al {p : Bool} (h : Ev ta env (.al i) e1) (g : e1[i]? = some (.ow p (.list ds))) : EvI (iAl ta) env ds (some i) e1 := fun Q q => h _ ⟨i, p, ds, rfl, g, q⟩
theorem evi_r1 {j : Int} (h : Ev ta env (.fz (.int j)) e1) (h0 : 0 ≤ j) (h1 : j < 2 ^ 62) : EvI (iR1 ta) env (rngD 0 j.toNat) none e1 := fun Q q => h _ ⟨j, rfl, by omega, h1, q⟩
theorem evi_zip {d2 : D} {ds2 : List D} {o2 : O} (h : Ev ta env o e1) (h2 : Ev tb e1 o2 e2) (g : o.val = some d) (s : seqD d = some ds) (g2 : o2.val = some d2) (s2 : seqD d2 = some ds2) : EvI (iZip ta tb) env (zipD ds ds2) none e2 := fun Q q => h _ (h2 _ ⟨d, ds, d2, ds2, g, s, g2, s2, q⟩)
theorem evi_enum (h : Ev ta env o e1) (g : o.val = some d) (s : seqD d = some ds) : EvI (iEnum ta) env (enumD ds) none e1 := fun Q q => h _ ⟨d, ds, g, s, q⟩
theorem ev_mt {g : D → List D → Option O} {ck : D → Bool} {ta : DA} {te : DT} (h : Ev te env o e1) (hd : o.get e1 = some d) (hc : ck d = true) (h2 : EvA ta e1 os e2) (hd2 : o.get e2 = some a) (gs : getsO e2 os = some ds) {z : O} (hg : g a ds = some z) : Ev (dMt g ck te ta) env z e2 := fun Q q => h _ ⟨d, hd, hc, h2 _ ⟨a, ds, z, hd2, gs, hg, q⟩⟩
/-- x.m(..), x owned -/
theorem ev_mut {g : List D → List D → Option (O × List D)} {ta : DA} {es ds' l0 : List D} (h0 : owL env i = some l0) (h : EvA ta env os e1) (h1 : owL e1 i = some ds) (gs : valsO os = some es) (hg : g ds es = some (o, ds')) (he : putO e1 i (.list ds') = e2) : Ev (dMutL i g ta) env o e2 := fun Q q => ⟨l0, h0, h _ ⟨ds, es, o, ds', h1, gs, hg, he ▸ q⟩⟩

/-! ### comprehensions that only read -/
theorem lcGo_pure {vs : List Nat} {al : Option Nat} {all : List D} {g : DG} {tt : DB} {te : DT} (hal : alOk al all env) (no : notOw vs env = true) (p : D → Bool) (f : D → D) : ∀ (ds acc : List D) (K : List D → SEnv → Prop),
    (∀ d ∈ ds, ∀ (Y : D → SEnv → Prop) (N : SEnv → Prop), (p d = true → Y (f d) env) → (p d = false → N env) → g d (wipeE vs env) fun e1 => tt e1 fun b e2 => if b = true then te e2 fun o e3 => ∃ x, o.val = some x ∧ Y x (rst vs env e3) else N (rst vs env e2)) →
    K (acc ++ (ds.filter p).map f) env → lcGo vs al all g tt te ds acc env K
  | [], acc, K, _, h => ⟨hal, by simpa using h⟩
  | d :: ds, acc, K, turn, h => by
    refine ⟨hal, no, turn d List.mem_cons_self (fun x e => lcGo vs al all g tt te ds (acc ++ [x]) e K) (fun e => lcGo vs al all g tt te ds acc e K) (fun hp => ?_) (fun hp => ?_)⟩
    · exact lcGo_pure hal no p f ds _ K (fun d hd => turn d (List.mem_cons_of_mem _ hd)) (by simpa [List.filter_cons, hp] using h)
    · exact lcGo_pure hal no p f ds _ K (fun d hd => turn d (List.mem_cons_of_mem _ hd)) (by simpa [List.filter_cons, hp] using h)
/-- one target, a name in slot i -/
theorem ev_lc {ti : DI} {tt : DB} {te : DT} {items : List D} {al : Option Nat} (hi : EvI ti env items al e1) (hal : alOk al items e1) (hl : items.length ≤ sizeLine) (no : notOw [i] e1 = true) (p : D → Bool) (f : D → D)
    (ht : ∀ d ∈ items, EvT tt (e1.set i (.fz d)) (p d) (e1.set i (.fz d))) (he : ∀ d ∈ items, p d = true → ∃ o, Ev te (e1.set i (.fz d)) o (e1.set i (.fz d)) ∧ o.val = some (f d)) : Ev (dLc [i] ti (gN i) tt te) env (.nw (.list ((items.filter p).map f))) e1 := fun Q q => hi _ ⟨hl, by
  have hil : i < e1.length := by
    simp only [notOw, List.all_cons, List.all_nil, Bool.and_true] at no
    split at no
    · cases no
    · rename_i h; exact (List.getElem?_eq_some_iff.mp h).1
    · cases no
  have ew : ∀ d : D, (wipeE [i] e1).set i (.fz d) = e1.set i (.fz d) := fun d => by simp [wipeE]
  have er : ∀ d : D, rst [i] e1 (e1.set i (.fz d)) = e1 := fun d => by
    unfold rst rst
    rw [List.set_set]
    refine List.ext_getElem? fun j => ?_
    by_cases hj : j = i
    · subst hj
      rw [List.getElem?_set_self hil, List.getD_eq_getElem?_getD, List.getElem?_eq_getElem hil]
      rfl
    · rw [List.getElem?_set_ne (Ne.symm hj)]
  refine lcGo_pure hal no p f items [] _ (fun d hd Y N hY hN => ⟨?_, ?_⟩) (by simpa using q)
  · unfold notPin
    rw [wipeE_in (vs := [i]) List.mem_cons_self hil]
  · show tt ((wipeE [i] e1).set i (.fz d)) _
    rw [ew]
    refine ht d hd _ ?_
    cases hp : p d with
    | true =>
      rw [if_pos rfl]
      obtain ⟨o, ho, hv⟩ := he d hd hp
      refine ho _ ⟨f d, hv, ?_⟩
      rw [er]; exact hY hp
    | false =>
      rw [if_neg (by simp), er]; exact hN hp⟩
/-- {k: v for one name in ..} that only reads -/
theorem dcGo_pure {vs : List Nat} {al : Option Nat} {all : List D} {g : DG} {tt : DB} {tk tv : DT} (hal : alOk al all env) (no : notOw vs env = true) (p : D → Bool) (fk f : D → D) : ∀ (ds : List D) (acc : List (D × D)) (K : List (D × D) → SEnv → Prop),
    (∀ d ∈ ds, ∀ (Y : D → D → SEnv → Prop) (N : SEnv → Prop), (p d = true → Y (fk d) (f d) env) → (p d = false → N env) → g d (wipeE vs env) fun e1 => tt e1 fun b e2 => if b = true then tk e2 fun o e3 => tv e3 fun o2 e4 => ∃ k v, o.val = some k ∧ (keyK k).isSome = true ∧ o2.val = some v ∧ Y k v (rst vs env e4) else N (rst vs env e2)) →
    K (dmerge acc ((ds.filter p).map fun d => (fk d, f d))) env → dcGo vs al all g tt tk tv ds acc env K
  | [], acc, K, _, h => ⟨hal, by simpa [dmerge] using h⟩
  | d :: ds, acc, K, turn, h => by
    refine ⟨hal, no, turn d List.mem_cons_self (fun k x e => dcGo vs al all g tt tk tv ds (dset acc k x) e K) (fun e => dcGo vs al all g tt tk tv ds acc e K) (fun hp => ?_) (fun hp => ?_)⟩
    · exact dcGo_pure hal no p fk f ds _ K (fun d hd => turn d (List.mem_cons_of_mem _ hd)) (by simpa [List.filter_cons, hp, dmerge] using h)
    · exact dcGo_pure hal no p fk f ds _ K (fun d hd => turn d (List.mem_cons_of_mem _ hd)) (by simpa [List.filter_cons, hp, dmerge] using h)
end

/-! ### statements -/
section
variable {env e1 : SEnv} {E : SE} {o : O} {te : DT} {t u : DS} {i : Nat} {c : DB} {b : Bool} {s : Slot}
theorem st_seq (h : t env { E with nx := fun e => u e E }) : sSeq t u env E := h
theorem st_set (h : Ev te env o e1) (hs : o.slot = some s) (hp : notPin e1 i = true) (k : E.nx (e1.set i s)) : sSet i te env E := h _ ⟨s, hs, hp, k⟩
theorem st_setF (h : Ev te env o e1) (hs : o.slotF = some s) (hp : notPin e1 i = true) (k : E.nx (e1.set i s)) : sSetF i te env E := h _ ⟨s, hs, hp, k⟩
theorem st_ret (h : Ev te env o e1) (k : E.rt o e1) : sRet te env E := h _ k
theorem st_drop (h : Ev te env o e1) (k : E.nx e1) : sDrop te env E := h _ k
theorem st_if (h : EvT c env b e1) (k1 : b = true → t e1 E) (k2 : b = false → u e1 E) : sIf c t u env E := h _ (by
  cases b
  · exact k2 rfl
  · exact k1 rfl)
theorem for_inv {ti : DI} {g : DG} {tb : DS} {items : List D} (hi : EvI ti env items none e1) (Inv : List D → SEnv → Prop) (h0 : Inv [] e1)
    (step : ∀ (pre : List D) (d : D) (post : List D) (e : SEnv) (E' : SE), items = pre ++ d :: post → Inv pre e → (∀ e, Inv (pre ++ [d]) e → E'.nx e) → (∀ e, Inv (pre ++ [d]) e → E'.ct e) → E'.bk = E.nx → E'.rt = E.rt → g d e fun e2 => tb e2 E')
    (fin : ∀ e, Inv items e → E.nx e) : sFor ti g tb env E := hi _ ⟨rfl, by
  have go : ∀ (post pre : List D) (e : SEnv), items = pre ++ post → Inv pre e → forGo g tb post e E := by
    intro post
    induction post with
    | nil =>
      intro pre e h hI
      rw [List.append_nil] at h
      subst h
      exact fin e hI
    | cons d post ih =>
      intro pre e h hI
      have next : ∀ e, Inv (pre ++ [d]) e → forGo g tb post e E := fun e he => ih (pre ++ [d]) e (by rw [List.append_assoc]; exact h) he
      exact step pre d post e { E with nx := fun e2 => forGo g tb post e2 E, ct := fun e2 => forGo g tb post e2 E, bk := E.nx } h hI next next rfl rfl
  exact go items [] e1 rfl h0⟩
theorem while_inv {tb : DS} (Inv : SEnv → Prop) (m : SEnv → Nat) (h0 : Inv env)
    (step : ∀ (e : SEnv) (E' : SE), Inv e → (∀ e2, Inv e2 → m e2 < m e → E'.nx e2) → (∀ e2, Inv e2 → m e2 < m e → E'.ct e2) → E'.bk = E.nx → E'.rt = E.rt → c e fun b e1 => if b = true then tb e1 E' else E.nx e1) : sWhile c tb env E := by
  have go : ∀ (n : Nat) (e : SEnv), Inv e → m e < n → whGo c tb n e E := by
    intro n
    induction n with
    | zero => intro e _ h; exact absurd h (Nat.not_lt_zero _)
    | succ n ih =>
      intro e hI hm
      exact step e { E with nx := fun e2 => whGo c tb n e2 E, ct := fun e2 => whGo c tb n e2 E, bk := E.nx } hI (fun e2 h2 l => ih e2 h2 (by omega)) (fun e2 h2 l => ih e2 h2 (by omega)) rfl rfl
  exact ⟨m env + 1, go _ env h0 (Nat.lt_succ_self _)⟩
end

/-! ### data that may be compared -/
def Sh (n : Nat) (d : D) : Prop := d.canLay0 = true ∧ d.depth ≤ n
theorem canLayAll_of {ds : List D} (h : ∀ d ∈ ds, d.canLay0 = true) : PyData.canLayAll0 ds = true := by
  induction ds with
  | nil => simp [PyData.canLayAll0]
  | cons d ds ih =>
    simp only [PyData.canLayAll0, Bool.and_eq_true]
    exact ⟨h d List.mem_cons_self, ih fun e he => h e (List.mem_cons_of_mem _ he)⟩
theorem depthAll_of {n : Nat} {ds : List D} (h : ∀ d ∈ ds, d.depth ≤ n) : PyData.depthAll ds ≤ n := by
  induction ds with
  | nil => simp [PyData.depthAll]
  | cons d ds ih =>
    simp only [PyData.depthAll]
    have h1 := h d List.mem_cons_self
    have h2 := ih fun e he => h e (List.mem_cons_of_mem _ he)
    omega
theorem Sh.int {i : Int} {n : Nat} : Sh n (.int i) := ⟨by simp [PyData.canLay0], by simp [PyData.depth]⟩
theorem Sh.bool {i : Bool} {n : Nat} : Sh n (.bool i) := ⟨by simp [PyData.canLay0], by simp [PyData.depth]⟩
theorem Sh.non {n : Nat} : Sh n .none := ⟨by simp [PyData.canLay0], by simp [PyData.depth]⟩
theorem Sh.str {x : Str} {n : Nat} (h : PyData.strOk x = true) : Sh n (.str x) := ⟨by simpa [PyData.canLay0] using h, by simp [PyData.depth]⟩
theorem Sh.tup {ds : List D} {n : Nat} (h : ∀ d ∈ ds, Sh n d) : Sh (n + 1) (.tuple ds) := ⟨by
  simp only [PyData.canLay0]; exact canLayAll_of fun d hd => (h d hd).1, by
  simp only [PyData.depth]; have := depthAll_of fun d hd => (h d hd).2; omega⟩
theorem Sh.lst {ds : List D} {n : Nat} (h : ∀ d ∈ ds, Sh n d) : Sh (n + 1) (.list ds) := ⟨by
  simp only [PyData.canLay0]; exact canLayAll_of fun d hd => (h d hd).1, by
  simp only [PyData.depth]; have := depthAll_of fun d hd => (h d hd).2; omega⟩
theorem Sh.shaped {d : D} {n : Nat} (h : Sh n d) (hn : n ≤ 64 := by decide) : SeqAt.shaped d = true := by
  unfold SeqAt.shaped
  rw [Bool.and_eq_true]
  exact ⟨h.1, decide_eq_true (Nat.le_trans h.2 hn)⟩
mutual
theorem eqv_self : ∀ d : D, d.canLay0 = true → PyData.eqv d d = true
  | .none, _ => by simp [PyData.eqv]
  | .bool b, _ => by simp [PyData.eqv]
  | .int i, _ => by simp [PyData.eqv]
  | .str x, _ => by simp [PyData.eqv]
  | .list xs, h => by simp only [PyData.eqv]; exact eqvAll_self xs (by simpa [PyData.canLay0] using h)
  | .tuple xs, h => by simp only [PyData.eqv]; exact eqvAll_self xs (by simpa [PyData.canLay0] using h)
  | .dict _, h => by simp [PyData.canLay0] at h
theorem eqvAll_self : ∀ ds : List D, PyData.canLayAll0 ds = true → PyData.eqvAll ds ds = true
  | [], _ => by simp [PyData.eqvAll]
  | d :: ds, h => by
    simp only [PyData.canLayAll0, Bool.and_eq_true] at h
    simp only [PyData.eqvAll, Bool.and_eq_true]
    exact ⟨eqv_self d h.1, eqvAll_self ds h.2⟩
end
end DL
end
section
set_option Elab.async false
set_option linter.all false
set_option maxRecDepth 100000
/-! DM2: rows of texts: in, index, sorted. -/
namespace DL
open PySem

abbrev tS (l : List Str) : D := .tuple (l.map .str)
abbrev lS (l : List Str) : D := .list (l.map .str)
/-- texts that may be compared -/
abbrev Nms (l : List Str) : Prop := ∀ x ∈ l, PyData.strOk x = true
theorem Sh.tS {l : List Str} (h : Nms l) : Sh 1 (tS l) := Sh.tup fun d hd => by
  obtain ⟨x, hx, rfl⟩ := List.mem_map.mp hd
  exact Sh.str (h x hx)
theorem Sh.lS {l : List Str} (h : Nms l) : Sh 1 (lS l) := Sh.lst fun d hd => by
  obtain ⟨x, hx, rfl⟩ := List.mem_map.mp hd
  exact Sh.str (h x hx)
theorem any_strs (k : Str) : ∀ l : List Str, ((l.map PyData.str).any fun z => PyData.eqv z (.str k)) = decide (k ∈ l)
  | [] => by simp
  | x :: l => by
    rw [List.map_cons, List.any_cons, any_strs k l]
    simp only [PyData.eqv, List.mem_cons]
    by_cases h : x = k
    · subst h; simp
    · have : ¬ k = x := fun z => h z.symm
      simp [h, this]
theorem in_t {neg : Bool} {k : Str} {l : List Str} (hk : PyData.strOk k = true) (h : Nms l) : gIn neg (.str k) (tS l) = some (.fz (.bool (decide (k ∈ l) != neg))) := by
  show (if SeqAt.shaped (.str k) && SeqAt.shaped (tS l) then _ else _) = _
  rw [(Sh.str (n := 0) hk).shaped, (Sh.tS h).shaped, any_strs]
  rfl
theorem in_l {neg : Bool} {k : Str} {l : List Str} (hk : PyData.strOk k = true) (h : Nms l) : gIn neg (.str k) (lS l) = some (.fz (.bool (decide (k ∈ l) != neg))) := by
  show (if SeqAt.shaped (.str k) && SeqAt.shaped (lS l) then _ else _) = _
  rw [(Sh.str (n := 0) hk).shaped, (Sh.lS h).shaped, any_strs]
  rfl
/-- [x for x in l if p x] of texts -/
theorem filter_strs (p : D → Bool) (l : List Str) : (l.map PyData.str).filter p = (l.filter fun x => p (.str x)).map .str := by
  induction l with
  | nil => rfl
  | cons x l ih =>
    rw [List.map_cons, List.filter_cons, List.filter_cons, ih]
    split <;> rfl
theorem map_strs (f : D → D) (l : List Str) : (l.map PyData.str).map f = l.map fun x => f (.str x) := by rw [List.map_map]; rfl
/-- of texts -/
def strP (p : Str → Bool) : D → Bool
  | .str x => p x
  | _ => true
def strF {α : Type} [Inhabited α] (f : Str → α) : D → α
  | .str x => f x
  | _ => default
theorem filter_strP (p : Str → Bool) (l : List Str) : (l.map PyData.str).filter (strP p) = (l.filter p).map .str := filter_strs _ l
instance : Inhabited D := ⟨.none⟩
theorem map_strF {α : Type} [Inhabited α] (f : Str → α) (l : List Str) : (l.map PyData.str).map (strF f) = l.map f := by rw [List.map_map]; rfl
theorem bools_map {α : Type} (f : α → Bool) : ∀ l : List α, boolsD (l.map fun x => .bool (f x)) = some (l.map f)
  | [] => rfl
  | x :: l => by
    show (boolsD (l.map fun x => .bool (f x))).map (f x :: ·) = _
    rw [bools_map f l]; rfl
theorem cut_take {ds : List D} {n : Nat} (h : n ≤ ds.length) : cutD ds none (some (n : Int)) = ds.take n := by
  unfold cutD
  rw [HT.sIx_none, HT.sIx_nat, Nat.min_eq_left h]
  simp
theorem cut_to {ds : List D} {n : Nat} : cutD ds none (some (n : Int)) = ds.take n := by
  unfold cutD
  rw [HT.sIx_none, HT.sIx_nat]
  simp only [List.drop_zero, Nat.sub_zero]
  rcases Nat.le_total n ds.length with h | h
  · rw [Nat.min_eq_left h]
  · rw [Nat.min_eq_right h, List.take_length, List.take_of_length_le h]
theorem cut_from {ds : List D} {n : Nat} : cutD ds (some (n : Int)) none = ds.drop n := by
  unfold cutD
  rw [HT.sIx_none, HT.sIx_nat]
  rcases Nat.le_total n ds.length with h | h
  · rw [Nat.min_eq_left h]; exact List.take_of_length_le (by simp)
  · rw [Nat.min_eq_right h, List.drop_of_length_le h]; simp
/-- t.index(k) -/
theorem index_t {l : List Str} {k : Str} (h : k ∈ l) : gIndexT (tS l) [.str k] = some (.fz (.int ((l.idxOf k : Nat) : Int))) := by
  show (match strsD (l.map .str) with
    | some ys => (ys.findIdx? fun y => decide (y = k)).map fun j => O.fz (.int (j : Nat))
    | none => none) = _
  rw [strsD_map]
  have e : (l.findIdx? fun y => decide (y = k)) = some (l.idxOf k) := by
    rw [List.findIdx?_eq_some_iff_findIdx_eq]
    refine ⟨List.idxOf_lt_length_iff.mpr h, ?_⟩
    unfold List.idxOf
    congr 1
  show (l.findIdx? fun y => decide (y = k)).map (fun j => O.fz (.int ((j : Nat) : Int))) = _
  rw [e]; rfl
theorem at_nat {ds : List D} {j : Nat} {d : D} (h : ds[j]? = some d) : L2.atI ds (j : Int) = some d := L2.atI_nat h
end DL
end
section
set_option Elab.async false
set_option linter.all false
set_option maxRecDepth 100000
/-! DM3: ints, stores. -/
namespace DL
open PySem
def intP (p : Int → Bool) : D → Bool
  | .int x => p x
  | _ => true
def intF {α : Type} [Inhabited α] (f : Int → α) : D → α
  | .int x => f x
  | _ => default
theorem filter_intP (p : Int → Bool) : ∀ l : List Int, (l.map PyData.int).filter (intP p) = (l.filter p).map .int
  | [] => rfl
  | x :: l => by
    rw [List.map_cons, List.filter_cons, List.filter_cons, filter_intP p l]
    show (if p x = true then _ else _) = _
    split <;> rfl
theorem map_intF {α : Type} [Inhabited α] (f : Int → α) (l : List Int) : (l.map PyData.int).map (intF f) = l.map f := by rw [List.map_map]; rfl
theorem eq_of {a b : D} {n m : Nat} (ha : Sh n a) (hb : Sh m b) (hn : n ≤ 64 := by decide) (hm : m ≤ 64 := by decide) : gEq a b = some (.fz (.bool (PyData.eqv a b))) := by
  unfold gEq
  split
  · simp [PyData.eqv]
  · rw [ha.shaped hn, hb.shaped hm]; rfl
theorem ne_of' {a b : D} {n m : Nat} (ha : Sh n a) (hb : Sh m b) (hn : n ≤ 64 := by decide) (hm : m ≤ 64 := by decide) : gNe a b = some (.fz (.bool (!PyData.eqv a b))) := by
  unfold gNe
  split
  · simp [PyData.eqv]
  · rw [ha.shaped hn, hb.shaped hm]; rfl
theorem eq_int {i j : Int} : gEq (.int i) (.int j) = some (.fz (.bool (i == j))) := by
  rw [eq_of (Sh.int (n := 0)) (Sh.int (n := 0))]
  simp only [PyData.eqv]
theorem mul_r {i j : Int} (h : smallF j = true) : gMul (.int i) (.int j) = some (.fz (.int (i * j))) := by
  show (if smallF i || smallF j then _ else _) = _
  rw [h, Bool.or_true]; rfl
theorem mul_l {i j : Int} (h : smallF i = true) : gMul (.int i) (.int j) = some (.fz (.int (i * j))) := by
  show (if smallF i || smallF j then _ else _) = _
  rw [h, Bool.true_or]; rfl
theorem mod_ok {i j : Int} (h : 0 < j) : gMod (.int i) (.int j) = some (.fz (.int (i % j))) := by
  show (if decide (0 < j) then _ else _) = _
  rw [decide_eq_true h]; rfl
theorem fdiv_ok {i j : Int} (h : 0 < j) (h' : j < 1073741824) : gFdiv (.int i) (.int j) = some (.fz (.int (i / j))) := by
  show (if decide (0 < j ∧ j < 1073741824) then _ else _) = _
  rw [decide_eq_true ⟨h, h'⟩]; rfl
theorem small_mod {i j : Int} (h : 0 < j) (h' : j < 2 ^ 63) : smallF (i % j) = true := by
  have h1 := Int.emod_nonneg i (by omega : j ≠ 0)
  have h2 := Int.emod_lt_of_pos i h
  unfold smallF
  exact decide_eq_true ⟨by omega, by omega⟩
theorem eqv_nil (ds : List D) : PyData.eqv (.list ds) (.list []) = ds.isEmpty := by
  cases ds <;> simp [PyData.eqv, PyData.eqvAll]
section
variable {env e1 e2 e3 : SEnv} {E : SE} {o ok : O} {tk tv : DT} {i : Nat} {v k c c0 c' : D}
theorem st_sto (hv : Ev tv env o e1) (gv : o.val = some v) (w : owC e1 i = some c0) (hk : Ev tk e1 ok e2) (gk : ok.get e2 = some k) (w2 : owC e2 i = some c) (h : gSto c k v = some c') (q : E.nx (putO e2 i c')) : sSto i tk tv env E :=
  hv _ ⟨v, gv, by rw [w]; rfl, hk _ ⟨k, c, c', gk, w2, h, q⟩⟩
theorem st_stoA {f : Int → Int → Int} {n m : Int} (w : owC env i = some c0) (hk : Ev tk env ok e1) (gk : ok.get e1 = some k) (w2 : owC e1 i = some c) (ga : gAt c k = some (.int n)) (hv : Ev tv e1 (.fz (.int m)) e2) (gk2 : ok.get e2 = some k) {c2 : D} (w3 : owC e2 i = some c2) (h : gSto c2 k (.int (f n m)) = some c') (q : E.nx (putO e2 i c')) : sStoA i f tk tv env E :=
  ⟨by rw [w]; rfl, hk _ ⟨k, c, n, gk, w2, ga, hv _ ⟨m, c2, c', rfl, gk2, w3, h, q⟩⟩⟩
end
/-! a step open -/
section
variable {env e1 : SEnv} {E : SE} {te ta tb : DT} {i : Nat} {g : D → D → Option O} {Q : O → SEnv → Prop} {oa : O}
theorem u_ret (h : te env E.rt) : sRet te env E := h
theorem u_drop (h : te env fun _ e => E.nx e) : sDrop te env E := h
theorem u_set (h : te env fun o e1 => ∃ s, o.slot = some s ∧ notPin e1 i = true ∧ E.nx (e1.set i s)) : sSet i te env E := h
theorem u_setF (h : te env fun o e1 => ∃ s, o.slotF = some s ∧ notPin e1 i = true ∧ E.nx (e1.set i s)) : sSetF i te env E := h
theorem u_bin (h : ta env fun o1 e1 => tb e1 fun o2 e2 => ∃ a b o, o1.get e2 = some a ∧ o2.get e2 = some b ∧ g a b = some o ∧ Q o e2) : dBin g ta tb env Q := h
theorem u_B {g : List D → Option O} {ta : DA} (h : ta env fun os e1 => ∃ ds o, getsO e1 os = some ds ∧ g ds = some o ∧ Q o e1) : dB g ta env Q := h
theorem u_lst {ta : DA} (h : ta env fun os e1 => ∃ ds, valsO os = some ds ∧ ds.length ≤ sizeLine ∧ Q (.nw (.list ds)) e1) : dLst ta env Q := h
theorem u_tup {ta : DA} (h : ta env fun os e1 => ∃ ds, valsO os = some ds ∧ ds.length ≤ sizeLine ∧ Q (.fz (.tuple ds)) e1) : dTup ta env Q := h
theorem u_if {c : DB} (h : c env fun b e1 => if b = true then ta e1 Q else tb e1 Q) : dIf c ta tb env Q := h
theorem u_cons {u : DA} {Q : List O → SEnv → Prop} (h : ta env fun o e1 => u e1 fun os e2 => Q (o :: os) e2) : aCons ta u env Q := h
theorem u_sl {l h : DP} (k : te env fun o e1 => l e1 fun lo e2 => h e2 fun hi e3 => ∃ z, gSl lo hi o e3 = some z ∧ Q z e3) : dSl te l h env Q := k
theorem u_at {Q : Option Int → SEnv → Prop} (h : te env fun o e1 => ∃ i, o = .fz (.int i) ∧ Q (some i) e1) : pAt te env Q := h
theorem u_no {Q : Option Int → SEnv → Prop} (h : Q none env) : pNo env Q := h
theorem u_nil {Q : List O → SEnv → Prop} (h : Q [] env) : aNil env Q := h
theorem u_val {Q : Bool → SEnv → Prop} (h : te env fun o e1 => ∃ c, o = .fz (.bool c) ∧ Q c e1) : bVal te env Q := h
theorem u_mut {g : List D → List D → Option (O × List D)} {ta : DA} (h : ∃ ds0, owL env i = some ds0 ∧ ta env fun os e1 => ∃ ds es o ds', owL e1 i = some ds ∧ valsO os = some es ∧ g ds es = some (o, ds') ∧ Q o (putO e1 i (.list ds'))) : dMutL i g ta env Q := h
end
end DL
end
section
set_option Elab.async false
set_option linter.all false
set_option maxRecDepth 100000
/-! DM4: reckoning by simp. -/
namespace DL
open PySem
section
variable {env : SEnv} {Q : O → SEnv → Prop} {i : Nat} {d d' : D} {p : Bool} {ns : List Int}
theorem w_fz (h : env[i]? = some (.fz d)) : dVar i env Q = Q (.fz d) env := by unfold dVar; rw [h]
theorem get_fz : O.get env (.fz d) = some d := rfl
theorem get_nw : O.get env (.nw d) = some d := rfl
theorem val_fz : O.val (.fz d) = some d := rfl
theorem val_nw : O.val (.nw d) = some d := rfl
theorem vals_nil : valsO [] = some [] := rfl
theorem vals_cons {o : O} {os : List O} {ds : List D} (h : o.val = some d) (t : valsO os = some ds) : valsO (o :: os) = some (d :: ds) := by
  show (match o.val, valsO os with
    | some d, some ds => some (d :: ds)
    | _, _ => none) = _
  rw [h, t]
theorem vals_fz {os : List O} : valsO (.fz d :: os) = (valsO os).map (d :: ·) := by
  show (match some d, valsO os with
    | some d, some ds => some (d :: ds)
    | _, _ => none) = _
  cases valsO os <;> rfl
theorem vals_nw {os : List O} : valsO (.nw d :: os) = (valsO os).map (d :: ·) := by
  show (match some d, valsO os with
    | some d, some ds => some (d :: ds)
    | _, _ => none) = _
  cases valsO os <;> rfl
theorem gets_nil : getsO env [] = some [] := rfl
theorem gets_fz {os : List O} : getsO env (.fz d :: os) = (getsO env os).map (d :: ·) := by
  show (match some d, getsO env os with
    | some d, some ds => some (d :: ds)
    | _, _ => none) = _
  cases getsO env os <;> rfl
theorem gets_nw {os : List O} : getsO env (.nw d :: os) = (getsO env os).map (d :: ·) := by
  show (match some d, getsO env os with
    | some d, some ds => some (d :: ds)
    | _, _ => none) = _
  cases getsO env os <;> rfl
theorem gets_al {os : List O} {d' : D} (h : O.get env (.al i) = some d') : getsO env (.al i :: os) = (getsO env os).map (d' :: ·) := by
  show (match O.get env (.al i), getsO env os with
    | some d, some ds => some (d :: ds)
    | _, _ => none) = _
  rw [h]
  cases getsO env os <;> rfl
theorem argS_fz : argS env (.fz d) = some (.fz d) := rfl
theorem argS_nw : argS env (.nw d) = some (.fz d) := rfl
theorem argsS_nil : argsS env [] = some [] := rfl
theorem argsS_fz {os : List O} : argsS env (.fz d :: os) = (argsS env os).map (.fz d :: ·) := by
  show (match some (Slot.fz d), argsS env os with
    | some s, some ss => some (s :: ss)
    | _, _ => none) = _
  cases argsS env os <;> rfl
theorem argsS_nw {os : List O} : argsS env (.nw d :: os) = (argsS env os).map (.fz d :: ·) := by
  show (match some (Slot.fz d), argsS env os with
    | some s, some ss => some (s :: ss)
    | _, _ => none) = _
  cases argsS env os <;> rfl
theorem argsS_sc {os : List O} : argsS env (.sc ns :: os) = (argsS env os).map (.sc ns :: ·) := by
  show (match some (Slot.sc ns), argsS env os with
    | some s, some ss => some (s :: ss)
    | _, _ => none) = _
  cases argsS env os <;> rfl
theorem argsS_al {os : List O} (h : env[i]? = some (.ow p d)) : argsS env (.al i :: os) = (argsS env os).map (.ow true d :: ·) := by
  show (match argS env (.al i), argsS env os with
    | some s, some ss => some (s :: ss)
    | _, _ => none) = _
  unfold argS
  simp only [h]
  cases argsS env os <;> rfl
theorem ret_fz : O.ret (.fz d) = true := rfl
theorem ret_nw : O.ret (.nw d) = true := rfl
theorem back_fz {os : List O} {s : Slot} {ss : List Slot} : back (.fz d :: os) (s :: ss) env = back os ss env := rfl
theorem back_nw {os : List O} {s : Slot} {ss : List Slot} : back (.nw d :: os) (s :: ss) env = back os ss env := rfl
theorem back_sc {os : List O} {s : Slot} {ss : List Slot} : back (.sc ns :: os) (s :: ss) env = back os ss env := rfl
theorem back_al {os : List O} {ss : List Slot} : back (.al i :: os) (.ow p d :: ss) env = back os ss (putO env i d) := rfl
theorem back_nil {ss : List Slot} : back [] ss env = env := by cases ss <;> rfl
theorem retO_fz : retO env (.fz d) = some (.fz d) := rfl
theorem retO_nw : retO env (.nw d) = some (.nw d) := rfl
theorem slotF_fz : O.slotF (.fz d) = some (.fz d) := rfl
theorem slotF_nw : O.slotF (.nw d) = some (.fz d) := rfl
theorem slot_fz : O.slot (.fz d) = some (.fz d) := rfl
theorem slot_nw : O.slot (.nw d) = some (.ow false d) := rfl
theorem outs_nil : outs [] env = [] := by cases env <;> rfl
theorem outs_fz {r : List Slot} {s : Slot} : outs (.fz d :: r) (s :: env) = .fz d :: outs r env := rfl
theorem outs_ow {r : List Slot} {s : Slot} : outs (.ow p d :: r) (s :: env) = s :: outs r env := rfl
theorem outs_sc {r : List Slot} {s : Slot} : outs (.sc ns :: r) (s :: env) = .sc ns :: outs r env := rfl
end
end DL
end
section
set_option Elab.async false
set_option linter.all false
set_option maxRecDepth 100000
/-! DM5: loops and comprehensions over rows of things that stand for data. -/
namespace DL
open PySem
section
variable {α : Type} {enc : α → D} {env e1 : SEnv} {E : SE} {ti : DI} {g : DG} {tb : DS}
theorem for_list {l : List α} (hi : EvI ti env (l.map enc) none e1) (Inv : List α → SEnv → Prop) (h0 : Inv [] e1)
    (step : ∀ (pre : List α) (x : α) (post : List α) (e : SEnv) (E' : SE), l = pre ++ x :: post → Inv pre e → (∀ e, Inv (pre ++ [x]) e → E'.nx e) → (∀ e, Inv (pre ++ [x]) e → E'.ct e) → E'.bk = E.nx → E'.rt = E.rt → g (enc x) e fun e2 => tb e2 E')
    (fin : ∀ e, Inv l e → E.nx e) : sFor ti g tb env E := by
  refine for_inv hi (fun pre e => ∃ p post, l = p ++ post ∧ pre = p.map enc ∧ Inv p e) ⟨[], l, rfl, rfl, h0⟩ ?_ ?_
  · rintro pre d post e E' hl ⟨p, q, rfl, rfl, hI⟩ nx ct bk rt
    rw [List.map_append] at hl
    have hq := List.append_cancel_left hl
    cases q with
    | nil => simp at hq
    | cons x q =>
      simp only [List.map_cons, List.cons.injEq] at hq
      obtain ⟨rfl, _⟩ := hq
      exact step p x q e E' rfl hI (fun e h => nx e ⟨p ++ [x], q, by simp, by simp, h⟩) (fun e h => ct e ⟨p ++ [x], q, by simp, by simp, h⟩) bk rt
  · rintro e ⟨p, q, rfl, hp, hI⟩
    have : q = [] := by
      have := congrArg List.length hp
      simp only [List.length_map, List.length_append] at this
      exact List.eq_nil_of_length_eq_zero (by omega)
    subst this
    rw [List.append_nil] at fin
    exact fin e hI
theorem enum_list {l : List α} : enumD (l.map enc) = l.zipIdx.map fun p => .tuple [.int ((p.2 : Nat) : Int), enc p.1] := by
  unfold enumD
  refine List.ext_getElem? fun j => ?_
  rw [List.getElem?_mapIdx, List.getElem?_map, List.getElem?_map, List.getElem?_zipIdx]
  cases l[j]? <;> simp
end
section
variable {α : Type} {enc : α → D} {env e1 e2 : SEnv} {ti : DI} {tt : DB} {te tk tv : DT} {i : Nat}
theorem lcGo_l {vs : List Nat} {al : Option Nat} {all : List D} {g : DG} (hal : alOk al all env) (no : notOw vs env = true) (p : α → Bool) (f : α → D) : ∀ (l : List α) (acc : List D) (K : List D → SEnv → Prop),
    (∀ x ∈ l, ∀ (Y : D → SEnv → Prop) (N : SEnv → Prop), (p x = true → Y (f x) env) → (p x = false → N env) → g (enc x) (wipeE vs env) fun e1 => tt e1 fun b e2 => if b = true then te e2 fun o e3 => ∃ y, o.val = some y ∧ Y y (rst vs env e3) else N (rst vs env e2)) →
    K (acc ++ (l.filter p).map f) env → lcGo vs al all g tt te (l.map enc) acc env K
  | [], acc, K, _, h => ⟨hal, by simpa using h⟩
  | x :: l, acc, K, turn, h => by
    refine ⟨hal, no, turn x List.mem_cons_self (fun y e => lcGo vs al all g tt te (l.map enc) (acc ++ [y]) e K) (fun e => lcGo vs al all g tt te (l.map enc) acc e K) (fun hp => ?_) (fun hp => ?_)⟩
    · exact lcGo_l hal no p f l _ K (fun d hd => turn d (List.mem_cons_of_mem _ hd)) (by simpa [List.filter_cons, hp] using h)
    · exact lcGo_l hal no p f l _ K (fun d hd => turn d (List.mem_cons_of_mem _ hd)) (by simpa [List.filter_cons, hp] using h)
theorem slot_in (no : notOw [i] e1 = true) : i < e1.length := by
  simp only [notOw, List.all_cons, List.all_nil, Bool.and_true] at no
  split at no
  · cases no
  · rename_i h; exact (List.getElem?_eq_some_iff.mp h).1
  · cases no
theorem wipe_set (d : D) : (wipeE [i] e1).set i (.fz d) = e1.set i (.fz d) := by simp [wipeE]
theorem rst_set (h : i < e1.length) (d : D) : rst [i] e1 (e1.set i (.fz d)) = e1 := by
  unfold rst rst
  rw [List.set_set]
  refine List.ext_getElem? fun j => ?_
  by_cases hj : j = i
  · subst hj
    rw [List.getElem?_set_self h, List.getD_eq_getElem?_getD, List.getElem?_eq_getElem h]
    rfl
  · rw [List.getElem?_set_ne (Ne.symm hj)]
theorem turn_l {l : List α} (no : notOw [i] e1 = true) (p : α → Bool) (f : α → D)
    (ht : ∀ x ∈ l, EvT tt (e1.set i (.fz (enc x))) (p x) (e1.set i (.fz (enc x)))) (he : ∀ x ∈ l, p x = true → ∃ o, Ev te (e1.set i (.fz (enc x))) o (e1.set i (.fz (enc x))) ∧ o.val = some (f x)) :
    ∀ x ∈ l, ∀ (Y : D → SEnv → Prop) (N : SEnv → Prop), (p x = true → Y (f x) e1) → (p x = false → N e1) → gN i (enc x) (wipeE [i] e1) fun e => tt e fun b e2 => if b = true then te e2 fun o e3 => ∃ y, o.val = some y ∧ Y y (rst [i] e1 e3) else N (rst [i] e1 e2) := fun x hx Y N hY hN => by
  have hil := slot_in no
  refine ⟨?_, ?_⟩
  · unfold notPin
    rw [wipeE_in (vs := [i]) List.mem_cons_self hil]
  · show tt ((wipeE [i] e1).set i (.fz (enc x))) _
    rw [wipe_set]
    refine ht x hx _ ?_
    cases hp : p x with
    | true =>
      rw [if_pos rfl]
      obtain ⟨o, ho, hv⟩ := he x hx hp
      refine ho _ ⟨f x, hv, ?_⟩
      rw [rst_set hil]; exact hY hp
    | false =>
      rw [if_neg (by simp), rst_set hil]; exact hN hp
/-- [te for i in l if tt] that only reads -/
theorem ev_lcl {l : List α} {al : Option Nat} (hi : EvI ti env (l.map enc) al e1) (hal : alOk al (l.map enc) e1) (hl : l.length ≤ sizeLine) (no : notOw [i] e1 = true) (p : α → Bool) (f : α → D)
    (ht : ∀ x ∈ l, EvT tt (e1.set i (.fz (enc x))) (p x) (e1.set i (.fz (enc x)))) (he : ∀ x ∈ l, p x = true → ∃ o, Ev te (e1.set i (.fz (enc x))) o (e1.set i (.fz (enc x))) ∧ o.val = some (f x)) :
    Ev (dLc [i] ti (gN i) tt te) env (.nw (.list ((l.filter p).map f))) e1 := fun Q q => hi _ ⟨by rw [List.length_map]; exact hl, lcGo_l hal no p f l [] _ (turn_l no p f ht he) (by simpa using q)⟩
/-- the same without a test -/
theorem ev_lcy {l : List α} {al : Option Nat} (hi : EvI ti env (l.map enc) al e1) (hal : alOk al (l.map enc) e1) (hl : l.length ≤ sizeLine) (no : notOw [i] e1 = true) (f : α → D)
    (he : ∀ x ∈ l, ∃ o, Ev te (e1.set i (.fz (enc x))) o (e1.set i (.fz (enc x))) ∧ o.val = some (f x)) : Ev (dLc [i] ti (gN i) bYes te) env (.nw (.list (l.map f))) e1 := by
  have := ev_lcl (tt := bYes) hi hal hl no (fun _ => true) f (fun x _ => evt_yes) (fun x hx _ => he x hx)
  rwa [List.filter_eq_self.mpr (fun _ _ => rfl)] at this
theorem ev_lcK {l : List α} {j : Nat} {kvs : List (D × D)} (hj : env[j]? = some (.fz (.dict kvs))) (hk : kvs.map Prod.fst = l.map enc) (hl : l.length ≤ sizeLine) (no : notOw [i] env = true) (p : α → Bool) (f : α → D)
    (ht : ∀ x ∈ l, EvT tt (env.set i (.fz (enc x))) (p x) (env.set i (.fz (enc x)))) (he : ∀ x ∈ l, p x = true → ∃ o, Ev te (env.set i (.fz (enc x))) o (env.set i (.fz (enc x))) ∧ o.val = some (f x)) :
    Ev (dLcK j [i] (gN i) tt te) env (.nw (.list ((l.filter p).map f))) env := fun Q q => ⟨kvs, hj, by
  have : EvI (iC (kvs.map Prod.fst)) env (l.map enc) none env := fun R r => by
    show R (kvs.map Prod.fst) none env
    rw [hk]; exact r
  exact ev_lcl this trivial hl no p f ht he Q q⟩
theorem dcGo_l {vs : List Nat} {al : Option Nat} {all : List D} {g : DG} (hal : alOk al all env) (no : notOw vs env = true) (fk f : α → D) : ∀ (l : List α) (acc : List (D × D)) (K : List (D × D) → SEnv → Prop),
    (∀ x ∈ l, ∀ (Y : D → D → SEnv → Prop), Y (fk x) (f x) env → g (enc x) (wipeE vs env) fun e1 => bYes e1 fun b e2 => if b = true then tk e2 fun o e3 => tv e3 fun o2 e4 => ∃ k v, o.val = some k ∧ (keyK k).isSome = true ∧ o2.val = some v ∧ Y k v (rst vs env e4) else False) →
    K (dmerge acc (l.map fun x => (fk x, f x))) env → dcGo vs al all g bYes tk tv (l.map enc) acc env K
  | [], acc, K, _, h => ⟨hal, by simpa [dmerge] using h⟩
  | x :: l, acc, K, turn, h => by
    refine ⟨hal, no, ?_⟩
    have := turn x List.mem_cons_self (fun k y e => dcGo vs al all g bYes tk tv (l.map enc) (dset acc k y) e K) (dcGo_l hal no fk f l _ K (fun d hd => turn d (List.mem_cons_of_mem _ hd)) (by simpa [dmerge] using h))
    exact this
end
theorem rst_get : ∀ {vs : List Nat} {env e : SEnv} {k : Nat}, (rst vs env e)[k]? = if k ∈ vs ∧ k < e.length then some (env.getD k .un) else e[k]?
  | [], env, e, k => by simp [rst]
  | v :: vs, env, e, k => by
    show ((rst vs env e).set v _)[k]? = _
    by_cases hv : k = v
    · subst hv
      by_cases hl : k < e.length
      · rw [if_pos ⟨List.mem_cons_self, hl⟩, List.getElem?_set_self (by rw [rst_len]; exact hl)]
      · rw [if_neg (fun z => hl z.2), List.getElem?_eq_none (by rw [List.length_set, rst_len]; omega), List.getElem?_eq_none (by omega)]
    · rw [List.getElem?_set_ne (Ne.symm hv), rst_get]
      by_cases h : k ∈ vs ∧ k < e.length
      · rw [if_pos h, if_pos ⟨List.mem_cons_of_mem _ h.1, h.2⟩]
      · rw [if_neg h, if_neg (fun z => h ⟨(List.mem_cons.mp z.1).resolve_left hv, z.2⟩)]
theorem rst_id {vs : List Nat} {env e : SEnv} (hl : e.length = env.length) (h : ∀ k, k ∉ vs → e[k]? = env[k]?) : rst vs env e = env := by
  refine List.ext_getElem? fun k => ?_
  rw [rst_get]
  by_cases hk : k ∈ vs
  · by_cases hkl : k < e.length
    · rw [if_pos ⟨hk, hkl⟩, List.getD_eq_getElem?_getD, List.getElem?_eq_getElem (by rw [← hl]; exact hkl)]; rfl
    · rw [if_neg (fun z => hkl z.2), List.getElem?_eq_none (by omega), List.getElem?_eq_none (by omega)]
  · rw [if_neg (fun z => hk z.1)]; exact h k hk
theorem wipe_out : ∀ {vs : List Nat} {e : SEnv} {k : Nat}, k ∉ vs → (wipeE vs e)[k]? = e[k]?
  | [], _, _, _ => rfl
  | v :: vs, e, k, h => by
    show ((wipeE vs e).set v .un)[k]? = _
    rw [List.getElem?_set_ne (fun z => h (by rw [z]; exact List.mem_cons_self)), wipe_out (fun z => h (List.mem_cons_of_mem _ z))]
section
variable {α β : Type} {enc : α → D} {enc2 : β → D} {env e1 : SEnv} {ti ti1 : DI} {tt1 : DB} {te : DT} {i j : Nat}
theorem lcIn_l {acc0 : List D} (p : β → Bool) (f : β → D) : ∀ (m : List β) (acc : List D) (K : List D → SEnv → Prop), notOw [j] env = true → acc.length + m.length ≤ sizeLine →
    (∀ y ∈ m, EvT tt1 (env.set j (.fz (enc2 y))) (p y) (env.set j (.fz (enc2 y)))) → (∀ y ∈ m, p y = true → ∃ o, Ev te (env.set j (.fz (enc2 y))) o (env.set j (.fz (enc2 y))) ∧ o.val = some (f y)) →
    K (acc ++ (m.filter p).map f) env → lcIn [j] (gN j) tt1 te (m.map enc2) acc env K
  | [], acc, K, _, _, _, _, h => by simpa [lcIn] using h
  | y :: m, acc, K, no, hl, ht, he, h => by
    have hil := slot_in no
    simp only [List.length_cons] at hl
    refine ⟨no, ?_, ?_⟩
    · unfold notPin; rw [wipeE_in (vs := [j]) List.mem_cons_self hil]
    · show tt1 ((wipeE [j] env).set j (.fz (enc2 y))) _
      rw [wipe_set]
      refine ht y List.mem_cons_self _ ?_
      cases hp : p y with
      | true =>
        rw [if_pos rfl]
        obtain ⟨o, ho, hv⟩ := he y List.mem_cons_self hp
        refine ho _ ⟨f y, hv, by show _ < 2 ^ 24; have : sizeLine = 2 ^ 24 := rfl; omega, ?_⟩
        rw [rst_set hil]
        exact lcIn_l (acc0 := acc0) p f m _ K no (by rw [List.length_append, List.length_singleton]; omega) (fun z hz => ht z (List.mem_cons_of_mem _ hz)) (fun z hz => he z (List.mem_cons_of_mem _ hz)) (by simpa [List.filter_cons, hp] using h)
      | false =>
        rw [if_neg (by simp), rst_set hil]
        exact lcIn_l (acc0 := acc0) p f m _ K no (by omega) (fun z hz => ht z (List.mem_cons_of_mem _ hz)) (fun z hz => he z (List.mem_cons_of_mem _ hz)) (by simpa [List.filter_cons, hp] using h)
theorem lcOut_l (ij : i ≠ j) (hi : i < e1.length) (hj : j < e1.length) (no : notOw [i, j] e1 = true) (m : α → List β) (p : α → β → Bool) (f : α → β → D) : ∀ (l : List α) (acc : List D) (K : List D → SEnv → Prop), acc.length + (l.map fun x => (m x).length).sum ≤ sizeLine →
    (∀ x ∈ l, EvI ti1 ((wipeE [i, j] e1).set i (.fz (enc x))) ((m x).map enc2) none ((wipeE [i, j] e1).set i (.fz (enc x)))) →
    (∀ x ∈ l, ∀ y ∈ m x, EvT tt1 ((e1.set i (.fz (enc x))).set j (.fz (enc2 y))) (p x y) ((e1.set i (.fz (enc x))).set j (.fz (enc2 y)))) →
    (∀ x ∈ l, ∀ y ∈ m x, p x y = true → ∃ o, Ev te ((e1.set i (.fz (enc x))).set j (.fz (enc2 y))) o ((e1.set i (.fz (enc x))).set j (.fz (enc2 y))) ∧ o.val = some (f x y)) →
    K (acc ++ l.flatMap fun x => ((m x).filter (p x)).map (f x)) e1 → lcOut [i, j] [j] (gN i) bYes ti1 (gN j) tt1 te (l.map enc) acc e1 K
  | [], acc, K, _, _, _, _, h => by simpa [lcOut] using h
  | x :: l, acc, K, hl, h1, ht, he, h => by
    have wl : (wipeE [i, j] e1).length = e1.length := wipeE_len
    have ew : ∀ y, (((wipeE [i, j] e1).set i (.fz (enc x))).set j (.fz (enc2 y))) = (e1.set i (.fz (enc x))).set j (.fz (enc2 y)) := fun y => by
      show ((((e1.set j .un).set i .un).set i (.fz (enc x))).set j (.fz (enc2 y))) = _
      rw [List.set_set, List.set_comm _ _ ij, List.set_set, List.set_comm _ _ ij.symm]
    simp only [List.map_cons, List.sum_cons] at hl
    refine ⟨no, ?_, ?_⟩
    · unfold notPin; rw [wipeE_in (vs := [i, j]) List.mem_cons_self hi]
    · show bYes ((wipeE [i, j] e1).set i (.fz (enc x))) _
      unfold bYes
      show ti1 _ _
      refine h1 x List.mem_cons_self _ ⟨rfl, ?_⟩
      refine lcIn_l (acc0 := acc) (p x) (f x) (m x) acc _ ?_ (by omega) (fun y hy => by rw [ew]; exact ht x List.mem_cons_self y hy) (fun y hy hp => by rw [ew]; exact he x List.mem_cons_self y hy hp) ?_
      · simp only [notOw, List.all_cons, List.all_nil, Bool.and_true]
        rw [List.getElem?_set_ne ij, wipeE_in (vs := [i, j]) (by simp) hj]
      · rw [rst_id (by rw [List.length_set, wl]) (fun k hk => by
          rw [List.getElem?_set_ne (fun z => hk (by simp [z])), wipe_out hk])]
        have fl : ((m x).filter (p x)).length ≤ (m x).length := List.length_filter_le _ _
        refine lcOut_l ij hi hj no m p f l _ K (by rw [List.length_append, List.length_map]; omega) (fun z hz => h1 z (List.mem_cons_of_mem _ hz)) (fun z hz => ht z (List.mem_cons_of_mem _ hz)) (fun z hz => he z (List.mem_cons_of_mem _ hz)) ?_
        rw [List.append_assoc]
        simpa [List.flatMap_cons] using h
theorem ev_lc2 {l : List α} (hti : EvI ti env (l.map enc) none e1) (ij : i ≠ j) (no : notOw [i, j] e1 = true) (m : α → List β) (p : α → β → Bool) (f : α → β → D) (hl : (l.map fun x => (m x).length).sum ≤ sizeLine)
    (h1 : ∀ x ∈ l, EvI ti1 ((wipeE [i, j] e1).set i (.fz (enc x))) ((m x).map enc2) none ((wipeE [i, j] e1).set i (.fz (enc x))))
    (ht : ∀ x ∈ l, ∀ y ∈ m x, EvT tt1 ((e1.set i (.fz (enc x))).set j (.fz (enc2 y))) (p x y) ((e1.set i (.fz (enc x))).set j (.fz (enc2 y))))
    (he : ∀ x ∈ l, ∀ y ∈ m x, p x y = true → ∃ o, Ev te ((e1.set i (.fz (enc x))).set j (.fz (enc2 y))) o ((e1.set i (.fz (enc x))).set j (.fz (enc2 y))) ∧ o.val = some (f x y)) :
    Ev (dLc2 [i, j] [j] ti (gN i) bYes ti1 (gN j) tt1 te) env (.nw (.list (l.flatMap fun x => ((m x).filter (p x)).map (f x)))) e1 := fun Q q => by
  have both : i < e1.length ∧ j < e1.length := by
    simp only [notOw, List.all_cons, List.all_nil, Bool.and_true, Bool.and_eq_true] at no
    constructor
    · have := no.1
      split at this
      · cases this
      · rename_i h; exact (List.getElem?_eq_some_iff.mp h).1
      · cases this
    · have := no.2
      split at this
      · cases this
      · rename_i h; exact (List.getElem?_eq_some_iff.mp h).1
      · cases this
  exact hti _ ⟨rfl, lcOut_l ij both.1 both.2 no m p f l [] _ (by simpa using hl) h1 ht he (by simpa using q)⟩
/-- {tk: tv for i in l} that only reads -/
theorem ev_dcl {tk tv : DT} {l : List α} {al : Option Nat} (hi : EvI ti env (l.map enc) al e1) (hal : alOk al (l.map enc) e1) (hl : l.length ≤ sizeLine) (no : notOw [i] e1 = true) (fk f : α → D)
    (hk : ∀ x ∈ l, ∃ o, Ev tk (e1.set i (.fz (enc x))) o (e1.set i (.fz (enc x))) ∧ o.val = some (fk x) ∧ (keyK (fk x)).isSome = true) (hv : ∀ x ∈ l, ∃ o, Ev tv (e1.set i (.fz (enc x))) o (e1.set i (.fz (enc x))) ∧ o.val = some (f x)) :
    Ev (dDc [i] ti (gN i) bYes tk tv) env (.nw (.dict (dmerge [] (l.map fun x => (fk x, f x))))) e1 := fun Q q => hi _ ⟨by rw [List.length_map]; exact hl, by
  have hil := slot_in no
  refine dcGo_l hal no fk f l [] _ (fun x hx Y hY => ⟨?_, ?_⟩) q
  · unfold notPin; rw [wipeE_in (vs := [i]) List.mem_cons_self hil]
  · show bYes ((wipeE [i] e1).set i (.fz (enc x))) _
    rw [wipe_set]
    unfold bYes
    show tk _ _
    obtain ⟨o, ho, hv1, hv2⟩ := hk x hx
    obtain ⟨o2, ho2, hv3⟩ := hv x hx
    refine ho _ (ho2 _ ⟨fk x, f x, hv1, hv2, hv3, ?_⟩)
    rw [rst_set hil]; exact hY⟩
end
end DL
end
section
set_option Elab.async false
set_option linter.all false
/-! S28: what the defs of k28 promise. -/
namespace G
open PySem DL

/-! ### drawing from the script -/
def isBag (d : D) : Prop := ∃ (x0 x1 x2 : Int) (xs : List Int), 0 ≤ x0 ∧ 0 ≤ x1 ∧ 0 ≤ x2 ∧ (∀ x ∈ xs, 0 ≤ x) ∧ xs.length ≤ 63 ∧ d = .list [.int x0, .int x1, .int x2, .list (xs.map .int)]
def slotD : Slot → Option D
  | .fz d => some d
  | .ow _ d => some d
  | _ => none
def sp__law_bag : SpD := fun args R => ∃ ns : List Int, args = [.sc ns] ∧ ∀ d, isBag d → R (.nw d) [.sc ns]
def sp__law_take : SpD := fun args R => ∃ d many, isBag d ∧ 0 < many ∧ many < 2 ^ 30 ∧ args = [.ow true d, .fz (.int many)] ∧ ∀ r d', 0 ≤ r → r < many → isBag d' → R (.fz (.int r)) [.ow true d', .fz (.int many)]
def sp__law_one : SpD := fun args R => ∃ d th ds, isBag d ∧ seqD th = some ds ∧ ds ≠ [] ∧ ds.length < 2 ^ 24 ∧ args = [.ow true d, .fz th] ∧ ∀ x d', x ∈ ds → isBag d' → R (.fz x) [.ow true d', .fz th]
def sp__law_mixed : SpD := fun args R => ∃ d th ds, isBag d ∧ seqD th = some ds ∧ ds.length < 2 ^ 20 ∧ args = [.ow true d, .fz th] ∧ ∀ ds' d', ds'.Perm ds → isBag d' → R (.nw (.list ds')) [.ow true d', .fz th]
def sp__law_some : SpD := fun args R => ∃ d th ds most, isBag d ∧ seqD th = some ds ∧ ds.length < 2 ^ 20 ∧ sortOk ds = true ∧ 0 ≤ most ∧ most < 2 ^ 20 ∧ args = [.ow true d, .fz th, .fz (.int most)] ∧
  ∀ ds' d', (∀ x ∈ ds', x ∈ ds) → isBag d' → R (.fz (.tuple ds')) [.ow true d', .fz th, .fz (.int most)]
/-- what may be compared and shown -/
def Okd (d : D) : Prop := Sh 64 d ∧ d.showable = true ∧ d.shown.length ≤ sizeLine
def Okx (d : D) : Prop := gEq d d = some (.fz (.bool true)) ∧ gRepr [d] = some (.fz (.str d.shown))
def sp__law_alike : SpD := fun args R => ∃ s1 s2 a, (s1 = .fz a ∨ s1 = .ow true a) ∧ (s2 = .fz a ∨ s2 = .ow true a) ∧ Okx a ∧ args = [s1, s2] ∧ R (.fz (.bool true)) args

/-! ### houses of numbers -/
abbrev tI (l : List Int) : D := .tuple (l.map .int)
abbrev lC (cs : List (List Int)) : D := .list (cs.map tI)
/-- calls of numbers below n -/
def okC (n : Int) (c : List Int) : Prop := c ≠ [] ∧ c.Pairwise (· < ·) ∧ ∀ x ∈ c, 0 ≤ x ∧ x < n
def okCs (n : Int) (m : Nat) (cs : List (List Int)) : Prop := cs ≠ [] ∧ cs.length ≤ m ∧ ∀ c ∈ cs, okC n c
def sp__law_paths : SpD := fun args R => ∃ d many calls, isBag d ∧ 1 ≤ many ∧ many ≤ 15 ∧ 1 ≤ calls ∧ calls ≤ 100 ∧ args = [.ow true d, .fz (.int many), .fz (.int calls)] ∧
  ∀ cs d', okCs many calls.toNat cs → isBag d' → R (.nw (lC cs)) [.ow true d', .fz (.int many), .fz (.int calls)]
def sp__law_any_calls : SpD := sp__law_paths
def sp__law_bent_call : SpD := fun args R => ∃ d many m cs, isBag d ∧ 1 ≤ many ∧ many ≤ 15 ∧ okCs many m cs ∧ m ≤ 200 ∧ args = [.ow true d, .fz (.int many), .fz (lC cs)] ∧
  ∀ cs' d', okCs many (m + 1) cs' → isBag d' → R (.nw (lC cs')) [.ow true d', .fz (.int many), .fz (lC cs)]
/-! ### houses -/
def menu : List Str := ["a", "b", "c", "d", "e", "ab", "ba", "zz", "call", "put", "drop", "kinds", "abcdef", "x", "zzzzzz"]
abbrev hD (ks : List Str) (cs : List (List Str)) : D := .tuple [tS ks, .tuple (cs.map tS)]
structure House (n m : Nat) (ks : List Str) (cs : List (List Str)) : Prop where
  nd : ks.Nodup
  mn : ∀ k ∈ ks, k ∈ menu
  ln : ks.length ≤ n
  lc : cs.length ≤ m
  cnd : ∀ c ∈ cs, c.Nodup
  cne : ∀ c ∈ cs, c ≠ []
  cin : ∀ c ∈ cs, ∀ k ∈ c, k ∈ ks
  ord : ∀ c ∈ cs, c.Pairwise fun a b => ks.idxOf a < ks.idxOf b
  cs : cs.Nodup
def sp__law_forksN : SpD := fun args R => ∃ cs m, okCs 15 m cs ∧ m ≤ 110 ∧ args = [.fz (.tuple [.tuple [], lC cs])] ∧ ∀ fs, (∀ f ∈ fs, Sh 2 f) → R (.nw (.list fs)) args

/-- the forks of two calls: the kinds -/
def fk (s t : List Str) : List (Str × Str) := (s.filter fun c => decide (c ∈ t)).flatMap fun c => ((s.drop (s.idxOf c + 1)).filter fun u => !decide (u ∈ t)).map fun u => (c, u)
def fD (s t : List Str) (p : Str × Str) : D := .tuple [tS s, tS t, .str p.1, .str p.2]
def forksL (cs : List (List Str)) : List D := cs.flatMap fun s => cs.flatMap fun t => (fk s t).map (fD s t)
def sp__law_forksS : SpD := fun args R => ∃ ks cs, House 15 100 ks cs ∧ args = [.fz (hD ks cs)] ∧ R (.nw (.list (sortD (forksL cs)))) args
def sp__law_forks : SpD := fun args R => sp__law_forksN args R ∨ sp__law_forksS args R
def sp__law_named : SpD := fun args R => ∃ d many m cs calls, isBag d ∧ 1 ≤ many ∧ many ≤ 15 ∧ okCs many m cs ∧ m ≤ 110 ∧ 1 ≤ calls ∧ calls ≤ 100 ∧ args = [.ow true d, .fz (.int many), .fz (lC cs), .fz (.int calls)] ∧
  ∀ ks kc d', House many.toNat calls.toNat ks kc → isBag d' → R (.fz (hD ks kc)) [.ow true d', .fz (.int many), .fz (lC cs), .fz (.int calls)]
def sp__law_house : SpD := fun args R => ∃ d kinds calls, isBag d ∧ 1 ≤ kinds ∧ kinds ≤ 15 ∧ 1 ≤ calls ∧ calls ≤ 100 ∧ args = [.ow true d, .fz (.int kinds), .fz (.int calls)] ∧
  ∀ ks kc d', House kinds.toNat calls.toNat ks kc → isBag d' → R (.fz (hD ks kc)) [.ow true d', .fz (.int kinds), .fz (.int calls)]

/-! ### the program's defs -/
/-- what stands ahead of k in the calls, each once, in their order -/
def aheadGo (k : Str) : List (List Str) → List Str → List Str
  | [], acc => acc
  | c :: cs, acc => aheadGo k cs (if k ∈ c then acc ++ (c.take (c.idxOf k)).filter (fun x => decide (x ∉ acc)) else acc)
def ahead (cs : List (List Str)) (k : Str) : List Str := aheadGo k cs []
def sp_within : SpD := fun args R => ∃ p o : List Str, Nms p ∧ Nms o ∧ p.length ≤ 1000 ∧ args = [.fz (lS p), .fz (tS o)] ∧ R (.fz (.bool (p.all fun k => decide (k ∈ o)))) args
def sp_kinds_ahead : SpD := fun args R => ∃ ks cs k, House 15 100 ks cs ∧ k ∈ ks ∧ args = [.fz (hD ks cs), .fz (.str k)] ∧ R (.nw (lS (ahead cs k))) args
/-- all sets of kinds, as they come -/
def setsGo : List Str → List (List Str) → List (List Str)
  | [], acc => acc
  | k :: ks, acc => setsGo ks (acc ++ acc.map (· ++ [k]))
def sets (ks : List Str) : List (List Str) := setsGo ks [[]]
def sp_all_sets : SpD := fun args R => ∃ ks cs, House 15 100 ks cs ∧ args = [.fz (hD ks cs)] ∧ R (.fz (.list ((sets ks).map tS))) args
def sp__law_sets : SpD := sp_all_sets
/-- the least beginning above p -/
def isLeast (ks : List Str) (cs : List (List Str)) (p l : List Str) : Prop := (∃ q : Str → Bool, l = ks.filter q) ∧ (∀ k ∈ p, k ∈ l) ∧ (∀ k ∈ l, ∀ a ∈ ahead cs k, a ∈ l) ∧ ∀ w : List Str, (∀ k ∈ p, k ∈ w) → (∀ k ∈ w, ∀ a ∈ ahead cs k, a ∈ w) → ∀ k ∈ l, k ∈ w
def sp_least_beginning : SpD := fun args R => ∃ ks cs p, House 6 8 ks cs ∧ (∀ k ∈ p, k ∈ ks) ∧ p.length ≤ 100 ∧ args = [.fz (hD ks cs), .fz (tS p)] ∧ ∀ l, isLeast ks cs p l → R (.fz (tS l)) args
/-- the beginnings, as they come -/
def begs (ks : List Str) (cs : List (List Str)) : List (List Str) := (sets ks).filter fun p => p.all fun k => (ahead cs k).all fun a => decide (a ∈ p)
def sp_beginning_sets : SpD := fun args R => ∃ ks cs, House 6 8 ks cs ∧ args = [.fz (hD ks cs)] ∧ R (.nw (.list (sortD ((begs ks cs).map tS)))) args
def sp__law_beginnings : SpD := sp_beginning_sets
def sp__law_set : SpD := fun args R => ∃ ks cs p, House 15 100 ks cs ∧ Nms p ∧ args = [.fz (hD ks cs), .fz (tS p)] ∧ R (.fz (tS (ks.filter fun k => decide (k ∈ p)))) args
def sp__law_within : SpD := fun args R => ∃ p o : List Str, Nms p ∧ Nms o ∧ p.length ≤ 1000 ∧ args = [.fz (tS p), .fz (tS o)] ∧ R (.fz (.bool (p.all fun k => decide (k ∈ o)))) args
def sp_law : SpD := fun args R => ∃ ns : List Int, args = [.sc ns] ∧ R (.fz (.bool true)) args
end G
end
section
set_option Elab.async false
set_option linter.all false
set_option maxRecDepth 100000
set_option maxHeartbeats 0
namespace G
open PySem PySem.Spec PyProof.Rows DL

/-! within -/
def N_within : List Str := ["part", "other", "kind"]
def ps_within : List Str := ["part", "other"]
def t_within : DS := (sRet (dB gAll (aCons (dLc [2] (iSeq (dVar 0)) (gN 2) bYes (dBin (gIn false) (dVar 2) (dVar 1))) aNil)))
/-! kinds_ahead -/
def N_kinds_ahead : List Str := ["house", "kind", "found", "call", "other"]
def ps_kinds_ahead : List Str := ["house", "kind"]
def t_kinds_ahead : DS := (sSeq (sSet 2 (dLst aNil))
  (sSeq (sFor (iSeq (dBin gIx (dVar 0) (dC (.int 1)))) (gN 3) (sIf (bVal (dBin (gIn false) (dVar 1) (dVar 3))) (sDrop (dMutL 2 gExtend (aCons (dLc [4] (iSeq (dSl (dVar 3) pNo (pAt (dMt gIndexT isTupD (dVar 3) (aCons (dVar 1) aNil))))) (gN 4) (bVal (dBin (gIn true) (dVar 4) (dVar 2))) (dVar 4)) aNil))) sNext))
  (sRet (dVar 2))))
/-! all_sets -/
def N_all_sets : List Str := ["house", "found", "kind", "part"]
def ps_all_sets : List Str := ["house"]
def t_all_sets : DS := (sSeq (sSetF 1 (dLst (aCons (dTup aNil) aNil)))
  (sSeq (sFor (iSeq (dBin gIx (dVar 0) (dC (.int 0)))) (gN 2) (sSetF 1 (dBin gAdd (dVar 1) (dLc [3] (iSeq (dVar 1)) (gN 3) bYes (dTup (aStar (dVar 3) (aCons (dVar 2) aNil)))))))
  (sRet (dVar 1))))
/-! _law_bag -/
def N__law_bag : List Str := ["_law_script", "_law_cell"]
def ps__law_bag : List Str := ["_law_script"]
def t__law_bag : DS := (sRet (dLst (aCons (dC (.int 0)) (aCons (dC (.int 1234567891)) (aCons (dC (.int 0)) (aCons (dLc [1] (iSeq (dSl (dVar 0) pNo (pAt (dC (.int 63))))) (gN 1) bYes (dB gAbs (aCons (dVar 1) aNil))) aNil))))))
/-! _law_take -/
def N__law_take : List Str := ["_law_bag_here", "_law_many", "_law_cell", "_law_stirred", "_law_value", "_law_begin", "_law_second"]
def ps__law_take : List Str := ["_law_bag_here", "_law_many"]
def t__law_take : DS := (sSeq (sIf (bVal (dBin gEq (dBin gIx (dVar 0) (dC (.int 0))) (dC (.int 0)))) (sSeq (sSetF 2 (dBin gIx (dBin gAdd (dSl (dBin gIx (dVar 0) (dC (.int 3))) (pAt (dBin gIx (dVar 0) (dC (.int 2)))) pNo) (dLst (aCons (dC (.int 0)) aNil))) (dC (.int 0))))
  (sSeq (sStoA 0 (fun a b => a + b) (dC (.int 2)) (dC (.int 1)))
  (sSeq (sIf (bVal (dBin gGe (dVar 2) (dBin gPow (dC (.int 10)) (dC (.int 18))))) (sSto 0 (dC (.int 0)) (dVar 2)) sNext)
  (sSeq (sSetF 3 (dBin gAdd (dBin gAdd (dBin gMul (dBin gIx (dVar 0) (dC (.int 1))) (dC (.int 48271))) (dBin gMod (dB gInt (aCons (dVar 2) aNil)) (dC (.int 2147483647)))) (dBin gMul (dC (.int 7919)) (dBin gIx (dVar 0) (dC (.int 2))))))
  (sSto 0 (dC (.int 1)) (dBin gMod (dB gInt (aCons (dVar 3) aNil)) (dC (.int 2147483647)))))))) sNext)
  (sSeq (sIf (bVal (dBin gGt (dBin gIx (dVar 0) (dC (.int 0))) (dC (.int 0)))) (sSeq (sSetF 4 (dBin gMod (dB gInt (aCons (dBin gIx (dVar 0) (dC (.int 0))) aNil)) (dVar 1)))
  (sSeq (sSto 0 (dC (.int 0)) (dBin gFdiv (dB gInt (aCons (dBin gIx (dVar 0) (dC (.int 0))) aNil)) (dVar 1)))
  (sRet (dVar 4)))) sNext)
  (sSeq (sSetF 5 (dBin gMod (dB gInt (aCons (dBin gMul (dBin gAdd (dBin gIx (dVar 0) (dC (.int 1))) (dC (.int 1))) (dC (.int 39373))) aNil)) (dC (.int 1000000007))))
  (sSeq (sSetF 6 (dBin gMod (dB gInt (aCons (dBin gMul (dBin gMod (dB gInt (aCons (dBin gMul (dVar 5) (dVar 5)) aNil)) (dC (.int 998244353))) (dC (.int 30011))) aNil)) (dC (.int 998244353))))
  (sRet (dBin gMod (dB gInt (aCons (dBin gFdiv (dVar 6) (dC (.int 7))) aNil)) (dVar 1)))))))
/-! _law_alike -/
def N__law_alike : List Str := ["_law_found", "_law_due"]
def ps__law_alike : List Str := ["_law_found", "_law_due"]
def t__law_alike : DS := (sRet (dAnd (dBin gEq (dVar 0) (dVar 1)) (dBin gEq (dB gRepr (aCons (dVar 0) aNil)) (dB gRepr (aCons (dVar 1) aNil)))))
/-! _law_set -/
def N__law_set : List Str := ["_law_house_here", "_law_kinds", "_law_kind"]
def ps__law_set : List Str := ["_law_house_here", "_law_kinds"]
def t__law_set : DS := (sRet (dB gTuple (aCons (dLc [2] (iSeq (dBin gIx (dVar 0) (dC (.int 0)))) (gN 2) (bVal (dBin (gIn false) (dVar 2) (dVar 1))) (dVar 2)) aNil)))
/-! _law_sets -/
def N__law_sets : List Str := ["_law_house_here", "_law_found", "_law_kind", "_law_part"]
def ps__law_sets : List Str := ["_law_house_here"]
def t__law_sets : DS := (sSeq (sSetF 1 (dLst (aCons (dTup aNil) aNil)))
  (sSeq (sFor (iSeq (dBin gIx (dVar 0) (dC (.int 0)))) (gN 2) (sSetF 1 (dBin gAdd (dVar 1) (dLc [3] (iSeq (dVar 1)) (gN 3) bYes (dBin gAdd (dVar 3) (dTup (aCons (dVar 2) aNil)))))))
  (sRet (dVar 1))))
/-! _law_forks -/
def N__law_forks : List Str := ["_law_house_here", "_law_found", "_law_one_here", "_law_other", "_law_at", "_law_kind", "_law_behind"]
def ps__law_forks : List Str := ["_law_house_here"]
def t__law_forks : DS := (sSeq (sSet 1 (dLst aNil))
  (sSeq (sFor (iSeq (dBin gIx (dVar 0) (dC (.int 1)))) (gN 2) (sFor (iSeq (dBin gIx (dVar 0) (dC (.int 1)))) (gN 3) (sFor (iEnum (dVar 2)) (gT 2 (gCons (gN 4) (gCons (gN 5) gNil))) (sIf (bVal (dBin (gIn false) (dVar 5) (dVar 3))) (sDrop (dMutL 1 gExtend (aCons (dLc [6] (iSeq (dSl (dVar 2) (pAt (dBin gAdd (dVar 4) (dC (.int 1)))) pNo)) (gN 6) (bVal (dBin (gIn true) (dVar 6) (dVar 3))) (dTup (aCons (dVar 2) (aCons (dVar 3) (aCons (dVar 5) (aCons (dVar 6) aNil)))))) aNil))) sNext))))
  (sFrz 1 (sRet (dB gSorted (aCons (dVar 1) aNil))))))
/-! _law_within -/
def N__law_within : List Str := ["_law_part", "_law_other", "_law_kind"]
def ps__law_within : List Str := ["_law_part", "_law_other"]
def t__law_within : DS := (sRet (dBin gEq (dLc [2] (iSeq (dVar 0)) (gN 2) (bVal (dBin (gIn true) (dVar 2) (dVar 1))) (dVar 2)) (dLst aNil)))
/-! least_beginning -/
def N_least_beginning : List Str := ["house", "part", "found", "waiting", "kind"]
def ps_least_beginning : List Str := ["house", "part"]
def t_least_beginning : DS := (sSeq (sPar 2 3 (dLst aNil) (dB gList (aCons (dVar 1) aNil)))
  (sSeq (sWhile (bVal (dBin gNe (dVar 3) (dLst aNil))) (sSeq (sSetF 4 (dMutL 3 gPop aNil))
  (sIf (bVal (dBin (gIn true) (dVar 4) (dVar 2))) (sSeq (sDrop (dMutL 2 gAppend (aCons (dVar 4) aNil)))
  (sDrop (dMutL 3 gExtend (aCons (dCall sp_kinds_ahead (aCons (dVar 0) (aCons (dVar 4) aNil))) aNil)))) sNext)))
  (sFrz 2 (sRet (dB gTuple (aCons (dLc [4] (iSeq (dBin gIx (dVar 0) (dC (.int 0)))) (gN 4) (bVal (dBin (gIn false) (dVar 4) (dVar 2))) (dVar 4)) aNil))))))
/-! beginning_sets -/
def N_beginning_sets : List Str := ["house", "ahead", "kind", "part"]
def ps_beginning_sets : List Str := ["house"]
def t_beginning_sets : DS := (sSeq (sSetF 1 (dDc [2] (iSeq (dBin gIx (dVar 0) (dC (.int 0)))) (gN 2) bYes (dVar 2) (dCall sp_kinds_ahead (aCons (dVar 0) (aCons (dVar 2) aNil)))))
  (sRet (dB gSorted (aCons (dLc [3] (iSeq (dCall sp_all_sets (aCons (dVar 0) aNil))) (gN 3) (bTru (dB gAll (aCons (dLc [2] (iSeq (dVar 3)) (gN 2) bYes (dCall sp_within (aCons (dBin gIx (dVar 1) (dVar 2)) (aCons (dVar 3) aNil)))) aNil))) (dVar 3)) aNil))))
/-! _law_one -/
def N__law_one : List Str := ["_law_bag_here", "_law_things"]
def ps__law_one : List Str := ["_law_bag_here", "_law_things"]
def t__law_one : DS := (sRet (dBin gIx (dVar 1) (dCall sp__law_take (aCons (dVar 0) (aCons (dB gLen (aCons (dVar 1) aNil)) aNil)))))
/-! _law_mixed -/
def N__law_mixed : List Str := ["_law_bag_here", "_law_things", "_law_found", "_law_thing"]
def ps__law_mixed : List Str := ["_law_bag_here", "_law_things"]
def t__law_mixed : DS := (sSeq (sSet 2 (dLst aNil))
  (sSeq (sFor (iSeq (dVar 1)) (gN 3) (sDrop (dMutL 2 gInsert (aCons (dCall sp__law_take (aCons (dVar 0) (aCons (dBin gAdd (dB gLen (aCons (dVar 2) aNil)) (dC (.int 1))) aNil))) (aCons (dVar 3) aNil)))))
  (sRet (dVar 2))))
/-! _law_any_calls -/
def N__law_any_calls : List Str := ["_law_bag_here", "_law_many", "_law_calls", "_law_found", "_law_turn", "_law_call", "_law_kind"]
def ps__law_any_calls : List Str := ["_law_bag_here", "_law_many", "_law_calls"]
def t__law_any_calls : DS := (sSeq (sSet 3 (dLst aNil))
  (sSeq (sFor (iR1 (dBin gAdd (dC (.int 1)) (dCall sp__law_take (aCons (dVar 0) (aCons (dVar 2) aNil))))) (gN 4) (sSeq (sSetF 5 (dLc [6] (iR1 (dVar 1)) (gN 6) (bVal (dBin gEq (dCall sp__law_take (aCons (dVar 0) (aCons (dC (.int 2)) aNil))) (dC (.int 0)))) (dVar 6)))
  (sDrop (dMutL 3 gAppend (aCons (dB gTuple (aCons (dIf (bVal (dBin gNe (dVar 5) (dLst aNil))) (dVar 5) (dLst (aCons (dCall sp__law_take (aCons (dVar 0) (aCons (dVar 1) aNil))) aNil))) aNil)) aNil)))))
  (sRet (dVar 3))))
/-! _law_beginnings -/
def N__law_beginnings : List Str := ["_law_house_here", "_law_found", "_law_part", "_law_heads", "_law_bad", "_law_call", "_law_many", "_law_kind"]
def ps__law_beginnings : List Str := ["_law_house_here"]
def t__law_beginnings : DS := (sSeq (sSet 1 (dLst aNil))
  (sSeq (sFor (iSeq (dCall sp__law_sets (aCons (dVar 0) aNil))) (gN 2) (sSeq (sSetF 3 (dLc [5] (iSeq (dBin gIx (dVar 0) (dC (.int 1)))) (gN 5) bYes (dB gLen (aCons (dLc [7] (iSeq (dVar 5)) (gN 7) (bVal (dBin (gIn false) (dVar 7) (dVar 2))) (dVar 7)) aNil))))
  (sSeq (sSetF 4 (dLc [5, 6] (iZip (dBin gIx (dVar 0) (dC (.int 1))) (dVar 3)) (gT 2 (gCons (gN 5) (gCons (gN 6) gNil))) (bVal (dBin gNe (dLc [7] (iSeq (dSl (dVar 5) pNo (pAt (dVar 6)))) (gN 7) (bVal (dBin (gIn true) (dVar 7) (dVar 2))) (dVar 7)) (dLst aNil))) (dVar 5)))
  (sIf (bVal (dBin gEq (dVar 4) (dLst aNil))) (sDrop (dMutL 1 gAppend (aCons (dVar 2) aNil))) sNext))))
  (sFrz 1 (sRet (dB gSorted (aCons (dVar 1) aNil))))))
/-! _law_some -/
def N__law_some : List Str := ["_law_bag_here", "_law_things", "_law_most"]
def ps__law_some : List Str := ["_law_bag_here", "_law_things", "_law_most"]
def t__law_some : DS := (sRet (dB gTuple (aCons (dB gSorted (aCons (dSl (dCall sp__law_mixed (aCons (dVar 0) (aCons (dVar 1) aNil))) pNo (pAt (dCall sp__law_take (aCons (dVar 0) (aCons (dBin gAdd (dVar 2) (dC (.int 1))) aNil))))) aNil)) aNil)))
/-! _law_paths -/
def N__law_paths : List Str := ["_law_bag_here", "_law_many", "_law_calls", "_law_behind", "_law_heads", "_law_found", "_law_head", "_law_call", "_law_kind"]
def ps__law_paths : List Str := ["_law_bag_here", "_law_many", "_law_calls"]
def t__law_paths : DS := (sSeq (sSetF 3 (dLc [8] (iR1 (dVar 1)) (gN 8) bYes (dCall sp__law_one (aCons (dVar 0) (aCons (dBin gAdd (dRngL2 mkL (dBin gAdd (dVar 8) (dC (.int 1))) (dVar 1)) (dLst (aCons (dC .none) aNil))) aNil)))))
  (sSeq (sSetF 4 (dLc [8] (iR1 (dVar 1)) (gN 8) (bVal (dBin (gIn true) (dVar 8) (dVar 3))) (dVar 8)))
  (sSeq (sSetF 4 (dBin gAdd (dVar 4) (dSl (dCall sp__law_mixed (aCons (dVar 0) (aCons (dLc [8] (iR1 (dVar 1)) (gN 8) (bVal (dBin (gIn false) (dVar 8) (dVar 3))) (dVar 8)) aNil))) pNo (pAt (dCall sp__law_one (aCons (dVar 0) (aCons (dLst (aCons (dC (.int 1)) (aCons (dC (.int 2)) (aCons (dC (.int 0)) (aCons (dC (.int 6)) aNil))))) aNil)))))))
  (sSeq (sSet 5 (dLst aNil))
  (sSeq (sFor (iSeq (dSl (dVar 4) pNo (pAt (dVar 2)))) (gN 6) (sSeq (sSet 7 (dLst (aCons (dVar 6) aNil)))
  (sSeq (sWhile (bVal (dBin (gIs true) (dBin gIx (dVar 3) (dBin gIx (dVar 7) (dUn gNeg (dC (.int 1))))) (dC .none))) (sDrop (dMutL 7 gAppend (aCons (dBin gIx (dVar 3) (dBin gIx (dVar 7) (dUn gNeg (dC (.int 1))))) aNil))))
  (sFrz 7 (sDrop (dMutL 5 gAppend (aCons (dB gTuple (aCons (dVar 7) aNil)) aNil)))))))
  (sRet (dVar 5)))))))
/-! _law_bent_call -/
def N__law_bent_call : List Str := ["_law_bag_here", "_law_many", "_law_found", "_law_call", "_law_kind", "_law_other", "_law_one_here"]
def ps__law_bent_call : List Str := ["_law_bag_here", "_law_many", "_law_found"]
def t__law_bent_call : DS := (sSeq (sPar 3 4 (dCall sp__law_one (aCons (dVar 0) (aCons (dVar 2) aNil))) (dCall sp__law_take (aCons (dVar 0) (aCons (dVar 1) aNil))))
  (sFrz 3 (sFrz 4 (sSeq (sSetF 5 (dIf (bVal (dBin (gIn false) (dVar 4) (dVar 3))) (dLc [6] (iSeq (dVar 3)) (gN 6) (bVal (dBin gNe (dVar 6) (dVar 4))) (dVar 6)) (dBin gAdd (dB gList (aCons (dVar 3) aNil)) (dLst (aCons (dVar 4) aNil)))))
  (sRet (dBin gAdd (dBin gMul (dLst (aCons (dB gTuple (aCons (dB gSorted (aCons (dVar 5) aNil)) aNil)) aNil)) (dB gInt (aCons (dBin gNe (dVar 5) (dLst aNil)) aNil))) (dVar 2)))))))
/-! _law_named -/
def N__law_named : List Str := ["_law_bag_here", "_law_many", "_law_found", "_law_calls", "_law_kept", "_law_call", "_law_numbers", "_law_menu", "_law_names", "_law_to", "_law_kind"]
def ps__law_named : List Str := ["_law_bag_here", "_law_many", "_law_found", "_law_calls"]
def t__law_named : DS := (sSeq (sSet 4 (dLst aNil))
  (sSeq (sFor (iSeq (dVar 2)) (gN 5) (sIf (bAnd (bVal (dBin (gIn true) (dVar 5) (dVar 4))) (bVal (dBin gLt (dB gLen (aCons (dVar 4) aNil)) (dVar 3)))) (sDrop (dMutL 4 gAppend (aCons (dVar 5) aNil))) sNext))
  (sFrz 4 (sSeq (sSetF 6 (dLc [10] (iR1 (dVar 1)) (gN 10) (bVal (dBin gNe (dLc [5] (iSeq (dVar 4)) (gN 5) (bVal (dBin (gIn false) (dVar 10) (dVar 5))) (dVar 5)) (dLst aNil))) (dVar 10)))
  (sSeq (sSetF 7 (dLst (aCons (dC (.str "a")) (aCons (dC (.str "b")) (aCons (dC (.str "c")) (aCons (dC (.str "d")) (aCons (dC (.str "e")) (aCons (dC (.str "ab")) (aCons (dC (.str "ba")) (aCons (dC (.str "zz")) (aCons (dC (.str "call")) (aCons (dC (.str "put")) (aCons (dC (.str "drop")) (aCons (dC (.str "kinds")) (aCons (dC (.str "abcdef")) (aCons (dC (.str "x")) (aCons (dC (.str "zzzzzz")) aNil)))))))))))))))))
  (sSeq (sSetF 8 (dIf (bVal (dBin gGt (dCall sp__law_take (aCons (dVar 0) (aCons (dC (.int 3)) aNil))) (dC (.int 0)))) (dSl (dCall sp__law_mixed (aCons (dVar 0) (aCons (dVar 7) aNil))) pNo (pAt (dB gLen (aCons (dVar 6) aNil)))) (dSl (dVar 7) pNo (pAt (dB gLen (aCons (dVar 6) aNil))))))
  (sSeq (sSetF 9 (dB gDict (aCons (dLZip (dVar 6) (dVar 8)) aNil)))
  (sRet (dTup (aCons (dB gTuple (aCons (dVar 8) aNil)) (aCons (dB gTuple (aCons (dB gSorted (aCons (dLc [5] (iSeq (dVar 4)) (gN 5) bYes (dB gTuple (aCons (dLc [10] (iSeq (dVar 5)) (gN 10) bYes (dBin gIx (dVar 9) (dVar 10))) aNil))) aNil)) aNil)) aNil)))))))))))
/-! _law_house -/
def N__law_house : List Str := ["_law_bag_here", "_law_kinds", "_law_calls", "_law_many", "_law_way", "_law_found", "_law_turn", "_law_two"]
def ps__law_house : List Str := ["_law_bag_here", "_law_kinds", "_law_calls"]
def t__law_house : DS := (sSeq (sPar 3 4 (dB gMin (aCons (dVar 1) (aCons (dCall sp__law_one (aCons (dVar 0) (aCons (dLst (aCons (dC (.int 2)) (aCons (dC (.int 3)) (aCons (dC (.int 1)) (aCons (dC (.int 4)) (aCons (dC (.int 3)) (aCons (dVar 1) (aCons (dC (.int 5)) (aCons (dC (.int 2)) aNil))))))))) aNil))) aNil))) (dCall sp__law_take (aCons (dVar 0) (aCons (dC (.int 10)) aNil))))
  (sFrz 3 (sFrz 4 (sSeq (sIf (bVal (dBin gLt (dVar 4) (dC (.int 7)))) (sSeq (sSetF 5 (dCall sp__law_paths (aCons (dVar 0) (aCons (dVar 3) (aCons (dVar 2) aNil)))))
  (sFor (iR1 (dBin gMul (dC (.int 4)) (dB gInt (aCons (dAnd (dBin gGt (dVar 4) (dC (.int 3))) (dBin gGt (dVar 3) (dC (.int 1)))) aNil)))) (gN 6) (sIf (bVal (dBin gEq (dCall sp__law_forks (aCons (dTup (aCons (dTup aNil) (aCons (dVar 5) aNil))) aNil)) (dLst aNil))) (sSetF 5 (dCall sp__law_bent_call (aCons (dVar 0) (aCons (dVar 3) (aCons (dVar 5) aNil))))) sNext))) (sIf (bAnd (bVal (dBin gEq (dVar 4) (dC (.int 7)))) (bVal (dBin gGt (dVar 3) (dC (.int 1))))) (sSeq (sSetF 7 (dB gSorted (aCons (dSl (dCall sp__law_mixed (aCons (dVar 0) (aCons (dRngL mkL (dVar 3)) aNil))) pNo (pAt (dC (.int 2)))) aNil)))
  (sSetF 5 (dBin gAdd (dLst (aCons (dB gTuple (aCons (dVar 7) aNil)) (aCons (dTup (aCons (dBin gIx (dVar 7) (dC (.int 0))) aNil)) (aCons (dTup (aCons (dBin gIx (dVar 7) (dC (.int 1))) aNil)) aNil)))) (dCall sp__law_any_calls (aCons (dVar 0) (aCons (dVar 3) (aCons (dC (.int 2)) aNil))))))) (sSetF 5 (dCall sp__law_any_calls (aCons (dVar 0) (aCons (dVar 3) (aCons (dVar 2) aNil)))))))
  (sRet (dCall sp__law_named (aCons (dVar 0) (aCons (dVar 3) (aCons (dVar 5) (aCons (dVar 2) aNil))))))))))
/-! law -/
def N_law : List Str := ["_law_script", "_law_bag_here", "_law_rows", "_law_turn", "_law_house_here", "_law_begins", "_law_some_here", "_law_found", "_law_part", "_law_least", "_law_over", "_law_k", "_law_whole"]
def ps_law : List Str := ["_law_script"]
def t_law : DS := (sSeq (sPar 1 2 (dCall sp__law_bag (aCons (dVar 0) aNil)) (dLst aNil))
  (sSeq (sFor (iR1 (dC (.int 4))) (gN 3) (sSeq (sSetF 4 (dCall sp__law_house (aCons (dVar 1) (aCons (dC (.int 6)) (aCons (dC (.int 8)) aNil)))))
  (sSeq (sSetF 5 (dCall sp__law_beginnings (aCons (dVar 4) aNil)))
  (sSeq (sSetF 6 (dBin gAdd (dLst (aCons (dTup aNil) (aCons (dBin gIx (dVar 4) (dC (.int 0))) aNil))) (dLc [11] (iR1 (dC (.int 4))) (gN 11) bYes (dCall sp__law_set (aCons (dVar 4) (aCons (dCall sp__law_some (aCons (dVar 1) (aCons (dB gList (aCons (dBin gIx (dVar 4) (dC (.int 0))) aNil)) (aCons (dC (.int 6)) aNil)))) aNil))))))
  (sDrop (dMutL 2 gAppend (aCons (dTup (aCons (dVar 4) (aCons (dVar 5) (aCons (dVar 6) aNil)))) aNil)))))))
  (sFrz 2 (sSeq (sFor (iSeq (dBin gAdd (dVar 2) (dSl (dVar 2) pNo (pAt (dC (.int 1)))))) (gT 3 (gCons (gN 4) (gCons (gN 5) (gCons (gN 6) gNil)))) (sSeq (sSet 7 (dCall sp_beginning_sets (aCons (dVar 4) aNil)))
  (sSeq (sIf (bNot (bTru (dCall sp__law_alike (aCons (dVar 7) (aCons (dVar 5) aNil))))) (sRet (dC (.bool false))) sNext)
  (sSeq (sDrop (dMutL 7 gAppend (aCons (dC .none) aNil)))
  (sSeq (sDrop (dMutL 7 gReverse aNil))
  (sFor (iSeq (dCall sp__law_mixed (aCons (dVar 1) (aCons (dVar 6) aNil)))) (gN 8) (sSeq (sSetF 9 (dCall sp_least_beginning (aCons (dVar 4) (aCons (dVar 8) aNil))))
  (sSeq (sSetF 10 (dLc [12] (iSeq (dVar 5)) (gN 12) (bTru (dCall sp__law_within (aCons (dVar 8) (aCons (dVar 12) aNil)))) (dVar 12)))
  (sIf (bOr (bVal (dBin (gIn true) (dB gRepr (aCons (dVar 9) aNil)) (dLc [12] (iSeq (dVar 10)) (gN 12) bYes (dB gRepr (aCons (dVar 12) aNil))))) (bVal (dBin gNe (dLc [12] (iSeq (dVar 10)) (gN 12) (bNot (bTru (dCall sp__law_within (aCons (dVar 9) (aCons (dVar 12) aNil))))) (dVar 12)) (dLst aNil)))) (sRet (dC (.bool false))) sNext)))))))))
  (sRet (dC (.bool true)))))))
end G
end
section
set_option Elab.async false
set_option linter.all false
set_option maxRecDepth 100000
/-! M28a: the program's small defs keep their promises. -/
namespace G
open PySem DL

theorem menu_ok : ∀ k ∈ menu, PyData.strOk k = true := by decide +kernel
theorem House.nms {n m : Nat} {ks : List Str} {cs : List (List Str)} (h : House n m ks cs) : Nms ks := fun k hk => menu_ok k (h.mn k hk)
theorem House.cms {n m : Nat} {ks : List Str} {cs : List (List Str)} (h : House n m ks cs) {c : List Str} (hc : c ∈ cs) : Nms c := fun k hk => h.nms k (h.cin c hc k hk)
theorem House.cln {n m : Nat} {ks : List Str} {cs : List (List Str)} (h : House n m ks cs) {c : List Str} (hc : c ∈ cs) : c.length ≤ n :=
  Nat.le_trans (List.Nodup.length_le_of_subset (h.cnd c hc) (h.cin c hc)) h.ln
theorem House.mono {n m n' m' : Nat} {ks : List Str} {cs : List (List Str)} (h : House n m ks cs) (a : n ≤ n') (b : m ≤ m') : House n' m' ks cs :=
  ⟨h.nd, h.mn, Nat.le_trans h.ln a, Nat.le_trans h.lc b, h.cnd, h.cne, h.cin, h.ord, h.cs⟩

theorem all_decide {p o : List Str} : ((p.map fun x => decide (x ∈ o)).all id) = p.all fun k => decide (k ∈ o) := by rw [List.all_map]; rfl
/-- [k in o for k in p] -/
theorem serves_within : Serves N_within ps_within t_within sp_within := by
  rintro args R ⟨p, o, hp, ho, hl, rfl, hR⟩
  refine ⟨rfl, rfl, st_ret (o := .fz (.bool (p.all fun k => decide (k ∈ o)))) (ev_B (ev_cons (ev_lc (evi_seq (ev_var rfl) rfl rfl) trivial (by simp [sizeLine]; omega) rfl (fun _ => true) (strF fun k => .bool (decide (k ∈ o))) (fun d hd => evt_yes) (fun d hd _ => ?_)) ev_nil) rfl ?_) ⟨_, rfl, hR⟩⟩
  · obtain ⟨k, hk, rfl⟩ := List.mem_map.mp hd
    refine ⟨_, ev_bin (ev_var rfl) (ev_var rfl) rfl rfl (in_t (hp k hk) ho), ?_⟩
    simp [O.val, strF]
  · rw [List.filter_eq_self.mpr (fun _ _ => rfl), map_strF]
    show (boolsD (p.map fun k => .bool (decide (k ∈ o)))).map _ = _
    rw [bools_map]
    show some (O.fz (.bool _)) = _
    rw [all_decide]
theorem aheadGo_app (k : Str) : ∀ (a b : List (List Str)) (acc : List Str), aheadGo k (a ++ b) acc = aheadGo k b (aheadGo k a acc)
  | [], _, _ => rfl
  | c :: a, b, acc => aheadGo_app k a b _
theorem aheadGo_in {ks : List Str} (k : Str) : ∀ (cs : List (List Str)) (acc : List Str), (∀ c ∈ cs, ∀ x ∈ c, x ∈ ks) → (∀ x ∈ acc, x ∈ ks) → ∀ x ∈ aheadGo k cs acc, x ∈ ks
  | [], acc, _, h => h
  | c :: cs, acc, hc, h => by
    unfold aheadGo
    refine aheadGo_in k cs _ (fun c' h' => hc c' (List.mem_cons_of_mem _ h')) fun x hx => ?_
    split at hx
    · rcases List.mem_append.mp hx with hx | hx
      · exact h x hx
      · exact hc c List.mem_cons_self x (List.take_subset _ _ (List.mem_filter.mp hx).1)
    · exact h x hx
theorem aheadGo_len (k : Str) : ∀ (cs : List (List Str)) (acc : List Str), (∀ c ∈ cs, c.length ≤ 15) → (aheadGo k cs acc).length ≤ acc.length + 15 * cs.length
  | [], acc, _ => by simp [aheadGo]
  | c :: cs, acc, hc => by
    unfold aheadGo
    refine Nat.le_trans (aheadGo_len k cs _ fun c' h' => hc c' (List.mem_cons_of_mem _ h')) ?_
    have h1 := hc c List.mem_cons_self
    split
    · have h2 : ((c.take (c.idxOf k)).filter fun x => decide (x ∉ acc)).length ≤ c.length := Nat.le_trans (List.length_filter_le _ _) (by rw [List.length_take]; omega)
      rw [List.length_append, List.length_cons]; omega
    · rw [List.length_cons]; omega
theorem serves_kinds_ahead : Serves N_kinds_ahead ps_kinds_ahead t_kinds_ahead sp_kinds_ahead := by
  rintro args R ⟨ks, cs, k, h, hk, rfl, hR⟩
  refine ⟨rfl, rfl, ?_⟩
  unfold t_kinds_ahead
  ((try dsimp only); refine st_seq ?_)
  refine st_set (ev_lst ev_nil rfl (by decide)) rfl rfl ?_
  ((try dsimp only); refine st_seq ?_)
  refine for_inv (evi_seq (d := .tuple (cs.map tS)) (ds := cs.map tS) (o := .fz (.tuple (cs.map tS))) (ev_bin (ev_var rfl) ev_c rfl rfl rfl) rfl rfl) (fun pre e => ∃ (cpre : List (List Str)) (s3 s4 : Slot), pre = cpre.map tS ∧ cpre.length ≤ cs.length ∧ (∀ c ∈ cpre, c ∈ cs) ∧ e = [.fz (hD ks cs), .fz (.str k), .ow false (lS (aheadGo k cpre [])), s3, s4] ∧ notPin [s3] 0 = true ∧ notOw [0] [s4] = true) ⟨[], .un, .un, rfl, Nat.zero_le _, (by simp), rfl, rfl, rfl⟩ ?_ ?_
  · rintro pre d post e E' hi ⟨cpre, s3, s4, rfl, hl, hin, rfl, n3, n4⟩ nx _ _ _
    have hd : d ∈ cs.map tS := by rw [hi]; simp
    obtain ⟨c, hc, rfl⟩ := List.mem_map.mp hd
    have hlen : cpre.length + 1 ≤ cs.length := by
      have := congrArg List.length hi
      simp only [List.length_map, List.length_append, List.length_cons] at this
      omega
    have hacc : Nms (aheadGo k cpre []) := fun x hx => h.nms x (aheadGo_in k cpre [] (fun c hc => h.cin c (hin c hc)) (by simp) x hx)
    have step : ∀ e', (∃ s3 s4 : Slot, e' = [.fz (hD ks cs), .fz (.str k), .ow false (lS (aheadGo k (cpre ++ [c]) [])), s3, s4] ∧ notPin [s3] 0 = true ∧ notOw [0] [s4] = true) → E'.nx e' := fun e' ⟨s3, s4, he, n3, n4⟩ => nx e' ⟨cpre ++ [c], s3, s4, by rw [List.map_append]; rfl, by rw [List.length_append]; exact hlen, fun x hx => (List.mem_append.mp hx).elim (hin x) fun hx => by rw [List.mem_singleton.mp hx]; exact hc, he, n3, n4⟩
    refine ⟨?_, ?_⟩
    · cases s3 with
      | ow p d => cases p <;> first | rfl | cases n3
      | _ => rfl
    refine st_if (evt_val (ev_bin (ev_var rfl) (ev_var rfl) rfl rfl (in_t (h.nms k hk) (h.cms hc)))) (fun hb => ?_) (fun hb => ?_)
    · have hkc : k ∈ c := by simpa using hb
      have ix : c.idxOf k ≤ (c.map PyData.str).length := by rw [List.length_map]; exact Nat.le_of_lt (List.idxOf_lt_length_iff.mpr hkc)
      have cut : gSl none (some ((c.idxOf k : Nat) : Int)) (.fz (tS c)) = fun _ => some (.fz (tS (c.take (c.idxOf k)))) := by
        funext e
        show some (O.fz (.tuple (cutD (c.map .str) none (some ((c.idxOf k : Nat) : Int))))) = _
        rw [cut_take ix, ← List.map_take]
      have hsl := h.cln hc
      refine st_drop (o := .fz .none) (ev_mut rfl (ev_cons (ev_lc (evi_seq (ev_sl (ev_var rfl) ev_no (ev_at (ev_mt (ev_var rfl) rfl rfl (ev_cons (ev_var rfl) ev_nil) rfl rfl (index_t hkc))) (congrFun cut _)) rfl rfl) trivial ?_ ?_ (strP fun x => decide (x ∉ aheadGo k cpre [])) id (fun d hd => ?_) (fun d hd _ => ⟨_, ev_var rfl, rfl⟩)) ev_nil) rfl rfl ?_ rfl) (step _ ⟨_, _, rfl, rfl, ?_⟩)
      · rw [List.length_map, List.length_take]; show _ ≤ 2 ^ 24; omega
      · cases s4 with
        | ow p d => cases n4
        | _ => rfl
      · obtain ⟨x, hx, rfl⟩ := List.mem_map.mp hd
        have hx' : x ∈ c := List.take_subset _ _ hx
        have := in_l (neg := true) (k := x) (l := aheadGo k cpre []) (h.cms hc x hx') hacc
        refine evt_val (ev_bin (ev_var rfl) (ev_own rfl) rfl rfl ?_)
        rw [this]
        simp [strP]
      · have e1 : ((((c.take (c.idxOf k)).map PyData.str).filter (strP fun x => decide (x ∉ aheadGo k cpre []))).map id) = ((c.take (c.idxOf k)).filter fun x => decide (x ∉ aheadGo k cpre [])).map .str := by
          rw [List.map_id, filter_strP]
        have e2 : aheadGo k (cpre ++ [c]) [] = aheadGo k cpre [] ++ (c.take (c.idxOf k)).filter fun x => decide (x ∉ aheadGo k cpre []) := by
          rw [aheadGo_app]
          show (if k ∈ c then _ else _) = _
          rw [if_pos hkc]
        have l1 := aheadGo_len k cpre [] fun c hc => h.cln (hin c hc)
        have l2 : ((c.take (c.idxOf k)).filter fun x => decide (x ∉ aheadGo k cpre [])).length ≤ c.length := Nat.le_trans (List.length_filter_le _ _) (by rw [List.length_take]; omega)
        have l3 := h.lc
        rw [e1, e2, List.map_append]
        show (if _ then _ else _) = _
        rw [if_pos]
        rw [List.length_map, List.length_map]
        show _ ≤ 2 ^ 24
        simp only [List.length_nil] at l1
        omega
      · exact n4
    · have hkc : k ∉ c := by simpa using hb
      refine step _ ⟨.fz (tS c), s4, ?_, rfl, n4⟩
      rw [aheadGo_app]
      have e : aheadGo k [c] (aheadGo k cpre []) = aheadGo k cpre [] := by
        show (if k ∈ c then _ else _) = _
        rw [if_neg hkc]
      rw [e]
      rfl
  · rintro e ⟨cpre, s3, s4, hm, hl, hin, rfl, n3, n4⟩
    have e1 : cpre = cs := by
      have inj : ∀ a b : List (List Str), a.map tS = b.map tS → a = b := by
        intro a
        induction a with
        | nil => intro b hb; cases b <;> simp at hb ⊢
        | cons x a ih =>
          intro b hb
          cases b with
          | nil => simp at hb
          | cons y b =>
            simp only [List.map_cons, List.cons.injEq, PyData.tuple.injEq] at hb
            rw [ih b hb.2]
            have : x = y := by
              have := hb.1
              exact (List.map_inj_right (f := PyData.str) (fun a b h => by cases h; rfl)).mp this
            rw [this]
      exact (inj _ _ hm).symm
    subst e1
    dsimp only
    exact st_ret (ev_own rfl) ⟨_, rfl, hR⟩

/-! all sets -/
theorem setsGo_app : ∀ (a b : List Str) (acc : List (List Str)), setsGo (a ++ b) acc = setsGo b (setsGo a acc)
  | [], _, _ => rfl
  | k :: a, b, acc => setsGo_app a b _
theorem setsGo_len : ∀ (ks : List Str) (acc : List (List Str)), (setsGo ks acc).length = 2 ^ ks.length * acc.length
  | [], acc => by simp [setsGo]
  | k :: ks, acc => by
    unfold setsGo
    rw [setsGo_len ks, List.length_append, List.length_map, List.length_cons, Nat.pow_succ, Nat.mul_assoc, Nat.two_mul]
/-- each is a row of kinds in their order -/
theorem setsGo_mem : ∀ (ks : List Str) (acc : List (List Str)) (p : List Str), p ∈ setsGo ks acc ↔ ∃ a ∈ acc, ∃ s : List Str, s.Sublist ks ∧ p = a ++ s
  | [], acc, p => by simp [setsGo]
  | k :: ks, acc, p => by
    unfold setsGo
    rw [setsGo_mem ks]
    constructor
    · rintro ⟨a, ha, s, hs, rfl⟩
      rcases List.mem_append.mp ha with ha | ha
      · exact ⟨a, ha, s, hs.cons _, rfl⟩
      · obtain ⟨b, hb, rfl⟩ := List.mem_map.mp ha
        exact ⟨b, hb, k :: s, hs.cons_cons _, by simp⟩
    · rintro ⟨a, ha, s, hs, rfl⟩
      cases hs with
      | cons _ h => exact ⟨a, List.mem_append_left _ ha, s, h, rfl⟩
      | cons_cons _ h => exact ⟨a ++ [k], List.mem_append_right _ (List.mem_map_of_mem ha), _, h, by simp⟩
theorem sets_mem {ks p : List Str} : p ∈ sets ks ↔ p.Sublist ks := by
  unfold sets
  rw [setsGo_mem]
  constructor
  · rintro ⟨a, ha, s, hs, rfl⟩
    rw [List.mem_singleton.mp ha]
    exact hs
  · exact fun h => ⟨[], by simp, p, h, rfl⟩
theorem sets_len (ks : List Str) : (sets ks).length = 2 ^ ks.length := by unfold sets; rw [setsGo_len]; simp
theorem pow15 {n : Nat} (h : n ≤ 15) : 2 ^ n ≤ 32768 := Nat.le_trans (Nat.pow_le_pow_right (by decide) h) (by decide)
theorem House.seq {ks : List Str} {cs : List (List Str)} : seqD (tS ks) = some (ks.map .str) := rfl
/-- the loops over the kinds: found = found + [part with the kind for part in found] -/
def addK (k : Str) : D → D
  | .tuple ds => .tuple (ds ++ [.str k])
  | d => d
theorem map_addK (k : Str) (acc : List (List Str)) : (acc.map tS).map (addK k) = (acc.map (· ++ [k])).map tS := by
  rw [List.map_map, List.map_map]
  exact List.map_congr_left fun x _ => by
    show PyData.tuple (x.map .str ++ [.str k]) = PyData.tuple ((x ++ [k]).map .str)
    rw [List.map_append]; rfl
theorem serves_sets {te : DT} (hte : ∀ (env : SEnv) (x : List Str) (k : Str) (dh : D), x.length ≤ 15 → env = [.fz dh, env.getD 1 .un, .fz (.str k), .fz (tS x)] → Ev te env (.fz (tS (x ++ [k]))) env) (args : List Slot) (R : O → List Slot → Prop) (h : sp_all_sets args R) :
    args.length = 1 ∧ pins args = true ∧ sSeq (sSetF 1 (dLst (aCons (dTup aNil) aNil))) (sSeq (sFor (iSeq (dBin gIx (dVar 0) (dC (.int 0)))) (gN 2) (sSetF 1 (dBin gAdd (dVar 1) (dLc [3] (iSeq (dVar 1)) (gN 3) bYes te)))) (sRet (dVar 1))) (args ++ List.replicate 3 .un) (fnEnds args R) := by
  obtain ⟨ks, cs, h, rfl, hR⟩ := h
  refine ⟨rfl, rfl, ?_⟩
  ((try dsimp only); refine st_seq ?_)
  refine st_setF (ev_lst (ev_cons (ev_tup ev_nil rfl (by decide)) ev_nil) rfl (by decide)) rfl rfl ?_
  ((try dsimp only); refine st_seq ?_)
  refine for_inv (evi_seq (d := tS ks) (ds := ks.map .str) (o := .fz (tS ks)) (ev_bin (ev_var rfl) ev_c rfl rfl rfl) rfl rfl) (fun pre e => ∃ (kpre : List Str) (s2 s3 : Slot), pre = kpre.map .str ∧ kpre.Sublist ks ∧ e = [.fz (hD ks cs), .fz (.list ((setsGo kpre [[]]).map tS)), s2, s3] ∧ notPin [s2] 0 = true ∧ notOw [0] [s3] = true) ⟨[], .un, .un, rfl, List.nil_sublist _, rfl, rfl, rfl⟩ ?_ ?_
  · rintro pre d post e E' hi ⟨kpre, s2, s3, rfl, hsub, rfl, n2, n3⟩ nx _ _ _
    have hks : ∃ k rest, ks = kpre ++ k :: rest ∧ d = .str k := by
      obtain ⟨l1, l2, hl, e1, e2⟩ := List.map_eq_append_iff.mp hi
      obtain ⟨k, rest, rfl, hk, _⟩ := List.map_eq_cons_iff.mp e2
      have : l1 = kpre := (List.map_inj_right (f := PyData.str) (fun a b h => by cases h; rfl)).mp e1
      exact ⟨k, rest, by rw [hl, this], hk.symm⟩
    obtain ⟨k, rest, hks, rfl⟩ := hks
    have hl1 : (kpre ++ [k]).Sublist ks := by rw [hks]; simp
    have hl2 : kpre.length ≤ 14 := by
      have := hl1.length_le
      have := h.ln
      rw [List.length_append, List.length_singleton] at *
      omega
    have hlen : (setsGo kpre [[]]).length = 2 ^ kpre.length := sets_len kpre
    have hp := pow15 (n := kpre.length) (by omega)
    have hp1 := pow15 (n := kpre.length + 1) (by omega)
    refine ⟨by
      cases s2 with
      | ow p d => cases p <;> first | rfl | cases n2
      | _ => rfl, ?_⟩
    refine st_setF (o := .nw (.list ((setsGo (kpre ++ [k]) [[]]).map tS))) (ev_bin (ev_var rfl) (ev_lc (evi_seq (ev_var rfl) rfl rfl) trivial (by rw [List.length_map, hlen]; show _ ≤ 2 ^ 24; omega) ?_ (fun _ => true) (addK k) (fun d hd => evt_yes) (fun d hd _ => ?_)) rfl rfl ?_) rfl rfl (nx _ ⟨kpre ++ [k], .fz (.str k), s3, by rw [List.map_append]; rfl, hl1, rfl, rfl, n3⟩)
    · cases s3 with
      | ow p d => cases n3
      | _ => rfl
    · obtain ⟨x, hx, rfl⟩ := List.mem_map.mp hd
      have hx' : x.Sublist kpre := sets_mem.mp hx
      refine ⟨_, hte _ x k (hD ks cs) (by have := hx'.length_le; omega) rfl, ?_⟩
      show some (tS (x ++ [k])) = some (PyData.tuple (x.map .str ++ [.str k]))
      rw [show tS (x ++ [k]) = PyData.tuple ((x ++ [k]).map .str) from rfl, List.map_append]; rfl
    · rw [List.filter_eq_self.mpr (fun _ _ => rfl), map_addK, setsGo_app]
      show (if _ then _ else _) = _
      rw [if_pos, ← List.map_append]
      · rfl
      · rw [List.length_map, List.length_map, List.length_map, hlen]
        show _ ≤ 2 ^ 24
        omega
  · rintro e ⟨kpre, s2, s3, hm, hsub, rfl, n2, n3⟩
    have : ks = kpre := (List.map_inj_right (f := PyData.str) (fun a b h => by cases h; rfl)).mp hm
    subst this
    dsimp only
    exact st_ret (ev_var rfl) ⟨_, rfl, hR⟩
theorem serves_all_sets : Serves N_all_sets ps_all_sets t_all_sets sp_all_sets := serves_sets fun env x k dh hl he => by
  have h3 : env[3]? = some (.fz (tS x)) := by rw [he]; rfl
  have h2 : env[2]? = some (.fz (.str k)) := by rw [he]; rfl
  have := ev_tup (ev_star (ev_var h3) rfl rfl (ev_cons (ev_var h2) ev_nil)) (ds := x.map .str ++ [.str k]) ?_ ?_
  · rw [show tS (x ++ [k]) = PyData.tuple (x.map .str ++ [.str k]) by rw [show tS (x ++ [k]) = PyData.tuple ((x ++ [k]).map .str) from rfl, List.map_append]; rfl]
    exact this
  · have : ∀ l : List D, valsO (l.map O.fz ++ [O.fz (.str k)]) = some (l ++ [.str k]) := by
      intro l
      induction l with
      | nil => rfl
      | cons d l ih =>
        show (match (O.fz d).val, valsO (l.map O.fz ++ [O.fz (.str k)]) with
          | some d, some ds => some (d :: ds)
          | _, _ => none) = _
        rw [ih]; rfl
    exact this _
  · simp only [List.length_append, List.length_map, List.length_singleton]
    show _ ≤ 2 ^ 24
    omega
theorem serves__law_sets : Serves N__law_sets ps__law_sets t__law_sets sp__law_sets := serves_sets fun env x k dh hl he => by
  have h3 : env[3]? = some (.fz (tS x)) := by rw [he]; rfl
  have h2 : env[2]? = some (.fz (.str k)) := by rw [he]; rfl
  refine ev_bin (ev_var h3) (ev_tup (ev_cons (ev_var h2) ev_nil) rfl (by show 1 ≤ 2 ^ 24; decide)) rfl rfl ?_
  show (if _ then _ else _) = _
  rw [if_pos]
  · rw [show tS (x ++ [k]) = PyData.tuple ((x ++ [k]).map .str) from rfl, List.map_append]; rfl
  · simp only [List.length_map, List.length_singleton]
    show _ ≤ 2 ^ 24
    omega
end G
end
section
set_option Elab.async false
set_option linter.all false
set_option maxRecDepth 100000
/-! M28b: drawing from the script. -/
namespace G
open PySem DL

theorem int_one {i : Int} : gInt [.int i] = some (.fz (.int i)) := rfl
theorem serves__law_bag : Serves N__law_bag ps__law_bag t__law_bag sp__law_bag := by
  rintro args R ⟨ns, rfl, hR⟩
  refine ⟨rfl, rfl, ?_⟩
  have hcut : cutD (ns.map .int) none (some 63) = (ns.take 63).map .int := by
    rw [show (some 63 : Option Int) = some ((63 : Nat) : Int) from rfl, cut_to, List.map_take]
  have hl : ((ns.take 63).map PyData.int).length ≤ 63 := by rw [List.length_map, List.length_take]; omega
  refine st_ret (o := .nw (.list [.int 0, .int 1234567891, .int 0, .list (((ns.take 63).map fun i => if i < 0 then -i else i).map .int)])) (ev_lst (ev_cons ev_c (ev_cons ev_c (ev_cons ev_c (ev_cons (ev_lc (items := (ns.take 63).map .int) (evi_seq (o := .nw (.list ((ns.take 63).map .int))) (ev_sl (ev_scr rfl) ev_no (ev_at ev_c) ?_) rfl rfl) trivial (by show _ ≤ 2 ^ 24; omega) rfl (fun _ => true) (intF fun i => .int (if i < 0 then -i else i)) (fun d hd => evt_yes) (fun d hd _ => ?_)) ev_nil)))) ?_ (by show 4 ≤ 2 ^ 24; decide)) ⟨_, rfl, hR _ ⟨0, 1234567891, 0, _, by decide, by decide, by decide, ?_, ?_, rfl⟩⟩
  · show some (O.nw (.list (cutD (ns.map .int) none (some 63)))) = _
    rw [hcut]
  · obtain ⟨i, hi, rfl⟩ := List.mem_map.mp hd
    exact ⟨_, ev_B (ev_cons (ev_var rfl) ev_nil) rfl rfl, rfl⟩
  · rw [List.filter_eq_self.mpr (fun _ _ => rfl), map_intF, List.map_map]
    rfl
  · intro x hx
    obtain ⟨i, _, rfl⟩ := List.mem_map.mp hx
    split <;> omega
  · rw [List.length_map, List.length_take]; omega

abbrev bagD (x0 x1 x2 : Int) (xs : List Int) : D := .list [.int x0, .int x1, .int x2, .list (xs.map .int)]
/-- behind the first test -/
theorem take_tail {R : O → List Slot → Prop} {x0 x1 x2 many : Int} {xs : List Int} {d : D} (h0 : 0 ≤ x0) (h1 : 0 ≤ x1) (h2 : 0 ≤ x2) (hx : ∀ x ∈ xs, 0 ≤ x) (hl : xs.length ≤ 63) (hm : 0 < many) (hm' : many < 2 ^ 30) (s2 s3 : Slot)
    (hR : ∀ r d', 0 ≤ r → r < many → isBag d' → R (.fz (.int r)) [.ow true d', .fz (.int many)]) :
    (sSeq (sIf (bVal (dBin gGt (dBin gIx (dVar 0) (dC (.int 0))) (dC (.int 0)))) (sSeq (sSetF 4 (dBin gMod (dB gInt (aCons (dBin gIx (dVar 0) (dC (.int 0))) aNil)) (dVar 1)))
  (sSeq (sSto 0 (dC (.int 0)) (dBin gFdiv (dB gInt (aCons (dBin gIx (dVar 0) (dC (.int 0))) aNil)) (dVar 1)))
  (sRet (dVar 4)))) sNext)
  (sSeq (sSetF 5 (dBin gMod (dB gInt (aCons (dBin gMul (dBin gAdd (dBin gIx (dVar 0) (dC (.int 1))) (dC (.int 1))) (dC (.int 39373))) aNil)) (dC (.int 1000000007))))
  (sSeq (sSetF 6 (dBin gMod (dB gInt (aCons (dBin gMul (dBin gMod (dB gInt (aCons (dBin gMul (dVar 5) (dVar 5)) aNil)) (dC (.int 998244353))) (dC (.int 30011))) aNil)) (dC (.int 998244353))))
  (sRet (dBin gMod (dB gInt (aCons (dBin gFdiv (dVar 6) (dC (.int 7))) aNil)) (dVar 1)))))) [.ow true (bagD x0 x1 x2 xs), .fz (.int many), s2, s3, .un, .un, .un] (fnEnds [.ow true d, .fz (.int many)] R) := by
  have ix0 : Ev (dBin gIx (dVar 0) (dC (.int 0))) [.ow true (bagD x0 x1 x2 xs), .fz (.int many), s2, s3, .un, .un, .un] (.fz (.int x0)) [.ow true (bagD x0 x1 x2 xs), .fz (.int many), s2, s3, .un, .un, .un] := ev_bin (ev_own rfl) ev_c rfl rfl rfl
  ((try dsimp only); refine st_seq ?_)
  refine st_if (b := decide (0 < x0)) (evt_val (ev_bin ix0 ev_c rfl rfl rfl)) (fun hb => ?_) (fun hb => ?_)
  · have hb := of_decide_eq_true hb
    ((try dsimp only); refine st_seq ?_)
    refine st_setF (ev_bin (ev_B (ev_cons ix0 ev_nil) rfl rfl) (ev_var rfl) rfl rfl (mod_ok hm)) rfl rfl ?_
    ((try dsimp only); refine st_seq ?_)
    refine st_sto (ev_bin (ev_B (ev_cons (ev_bin (ev_own rfl) ev_c rfl rfl rfl) ev_nil) rfl rfl) (ev_var rfl) rfl rfl (fdiv_ok hm (by omega))) rfl rfl ev_c rfl rfl rfl ?_
    dsimp only
    refine st_ret (ev_var rfl) ⟨_, rfl, hR _ _ (Int.emod_nonneg _ (by omega)) (Int.emod_lt_of_pos _ hm) ⟨x0 / many, x1, x2, xs, Int.ediv_nonneg h0 (by omega), h1, h2, hx, hl, rfl⟩⟩
  · dsimp only [sNext]
    ((try dsimp only); refine st_seq ?_)
    refine st_setF (ev_bin (ev_B (ev_cons (ev_bin (ev_bin (ev_bin (ev_own rfl) ev_c rfl rfl rfl) ev_c rfl rfl rfl) ev_c rfl rfl (mul_r (by decide))) ev_nil) rfl rfl) ev_c rfl rfl (mod_ok (by decide))) rfl rfl ?_
    ((try dsimp only); refine st_seq ?_)
    refine st_setF (ev_bin (ev_B (ev_cons (ev_bin (ev_bin (ev_B (ev_cons (ev_bin (ev_var rfl) (ev_var rfl) rfl rfl (mul_r (small_mod (by decide) (by decide)))) ev_nil) rfl rfl) ev_c rfl rfl (mod_ok (by decide))) ev_c rfl rfl (mul_r (by decide))) ev_nil) rfl rfl) ev_c rfl rfl (mod_ok (by decide))) rfl rfl ?_
    dsimp only
    refine st_ret (ev_bin (ev_B (ev_cons (ev_bin (ev_var rfl) ev_c rfl rfl (fdiv_ok (by decide) (by decide))) ev_nil) rfl rfl) (ev_var rfl) rfl rfl (mod_ok hm)) ⟨_, rfl, hR _ _ (Int.emod_nonneg _ (by omega)) (Int.emod_lt_of_pos _ hm) ⟨x0, x1, x2, xs, h0, h1, h2, hx, hl, rfl⟩⟩
theorem pow18 : gPow (.int 10) (.int 18) = some (.fz (.int (10 ^ 18))) := by
  show (if decide ((0 : Int) ≤ 18 ∧ (18 : Int) ≤ 1000000 ∧ (10 : Int).natAbs < 2 ^ 64) = true then some (O.fz (PyData.int ((10 : Int) ^ (18 : Int).toNat))) else none) = _
  rw [if_pos (by decide)]
  rfl
theorem add_lists {a b : List D} (h : a.length + b.length ≤ sizeLine) : gAdd (.list a) (.list b) = some (.nw (.list (a ++ b))) := by
  show (if _ then _ else _) = _
  rw [if_pos h]
theorem serves__law_take : Serves N__law_take ps__law_take t__law_take sp__law_take := by
  rintro args R ⟨d, many, ⟨x0, x1, x2, xs, h0, h1, h2, hx, hl, rfl⟩, hm, hm', rfl, hR⟩
  refine ⟨rfl, rfl, ?_⟩
  unfold t__law_take
  ((try dsimp only); refine st_seq ?_)
  have ix0 : Ev (dBin gIx (dVar 0) (dC (.int 0))) [.ow true (bagD x0 x1 x2 xs), .fz (.int many), .un, .un, .un, .un, .un] (.fz (.int x0)) [.ow true (bagD x0 x1 x2 xs), .fz (.int many), .un, .un, .un, .un, .un] := ev_bin (ev_own rfl) ev_c rfl rfl rfl
  refine st_if (b := (x0 == 0)) (evt_val (ev_bin ix0 ev_c rfl rfl eq_int)) (fun hb => ?_) (fun hb => ?_)
  · have hb : x0 = 0 := by simpa using hb
    subst hb
    obtain ⟨n2, rfl⟩ := Int.eq_ofNat_of_zero_le h2
    -- the cell
    obtain ⟨c, hc, h0c⟩ : ∃ c : Int, L2.atI ((xs.drop n2).map PyData.int ++ [.int 0]) 0 = some (.int c) ∧ 0 ≤ c := by
      cases e : xs.drop n2 with
      | nil => exact ⟨0, rfl, by decide⟩
      | cons x r =>
        refine ⟨x, at_nat (j := 0) rfl, hx x ?_⟩
        exact List.drop_subset n2 xs (by rw [e]; exact List.mem_cons_self)
    have hcell : Ev (dBin gIx (dBin gAdd (dSl (dBin gIx (dVar 0) (dC (.int 3))) (pAt (dBin gIx (dVar 0) (dC (.int 2)))) pNo) (dLst (aCons (dC (.int 0)) aNil))) (dC (.int 0))) [.ow true (bagD 0 x1 n2 xs), .fz (.int many), .un, .un, .un, .un, .un] (.fz (.int c)) [.ow true (bagD 0 x1 n2 xs), .fz (.int many), .un, .un, .un, .un, .un] := by
      refine ev_bin (a := .list ((xs.drop n2).map PyData.int ++ [.int 0])) (oa := .nw (.list ((xs.drop n2).map PyData.int ++ [.int 0]))) (ev_bin (a := .list ((xs.drop n2).map .int)) (oa := .nw (.list ((xs.drop n2).map .int))) (ev_sl (o := .fz (.list (xs.map .int))) (lo := some (n2 : Int)) (ev_bin (ev_own rfl) ev_c rfl rfl rfl) (ev_at (ev_bin (ev_own rfl) ev_c rfl rfl rfl)) ev_no ?_) (ev_lst (ds := [.int 0]) (ev_cons ev_c ev_nil) rfl (by show 1 ≤ 2 ^ 24; decide)) rfl rfl (add_lists ?_)) ev_c rfl rfl ?_
      · show some (O.nw (.list (cutD (xs.map .int) (some (n2 : Int)) none))) = _
        rw [cut_from, List.map_drop]
      · rw [List.length_map, List.length_drop]
        show _ + 1 ≤ 2 ^ 24
        omega
      · show (L2.atI ((xs.drop n2).map PyData.int ++ [.int 0]) 0).map O.fz = _
        rw [hc]; rfl
    ((try dsimp only); refine st_seq ?_)
    refine st_setF hcell rfl rfl ?_
    ((try dsimp only); refine st_seq ?_)
    refine st_stoA rfl ev_c rfl rfl rfl ev_c rfl rfl rfl ?_
    ((try dsimp only); refine st_seq ?_)
    have pw : Ev (dBin gPow (dC (.int 10)) (dC (.int 18))) [.ow true (bagD 0 x1 (n2 + 1) xs), .fz (.int many), .fz (.int c), .un, .un, .un, .un] (.fz (.int (10 ^ 18))) [.ow true (bagD 0 x1 (n2 + 1) xs), .fz (.int many), .fz (.int c), .un, .un, .un, .un] := ev_bin ev_c ev_c rfl rfl pow18
    have rest : ∀ y0 : Int, 0 ≤ y0 → (sSeq (sSetF 3 (dBin gAdd (dBin gAdd (dBin gMul (dBin gIx (dVar 0) (dC (.int 1))) (dC (.int 48271))) (dBin gMod (dB gInt (aCons (dVar 2) aNil)) (dC (.int 2147483647)))) (dBin gMul (dC (.int 7919)) (dBin gIx (dVar 0) (dC (.int 2))))))
        (sSto 0 (dC (.int 1)) (dBin gMod (dB gInt (aCons (dVar 3) aNil)) (dC (.int 2147483647))))) [.ow true (bagD y0 x1 (n2 + 1) xs), .fz (.int many), .fz (.int c), .un, .un, .un, .un]
        { fnEnds [.ow true (bagD 0 x1 n2 xs), .fz (.int many)] R with nx := fun e => (sSeq (sIf (bVal (dBin gGt (dBin gIx (dVar 0) (dC (.int 0))) (dC (.int 0)))) (sSeq (sSetF 4 (dBin gMod (dB gInt (aCons (dBin gIx (dVar 0) (dC (.int 0))) aNil)) (dVar 1)))
          (sSeq (sSto 0 (dC (.int 0)) (dBin gFdiv (dB gInt (aCons (dBin gIx (dVar 0) (dC (.int 0))) aNil)) (dVar 1)))
          (sRet (dVar 4)))) sNext)
          (sSeq (sSetF 5 (dBin gMod (dB gInt (aCons (dBin gMul (dBin gAdd (dBin gIx (dVar 0) (dC (.int 1))) (dC (.int 1))) (dC (.int 39373))) aNil)) (dC (.int 1000000007))))
          (sSeq (sSetF 6 (dBin gMod (dB gInt (aCons (dBin gMul (dBin gMod (dB gInt (aCons (dBin gMul (dVar 5) (dVar 5)) aNil)) (dC (.int 998244353))) (dC (.int 30011))) aNil)) (dC (.int 998244353))))
          (sRet (dBin gMod (dB gInt (aCons (dBin gFdiv (dVar 6) (dC (.int 7))) aNil)) (dVar 1)))))) e (fnEnds [.ow true (bagD 0 x1 n2 xs), .fz (.int many)] R) } := fun y0 hy => by
      ((try dsimp only); refine st_seq ?_)
      refine st_setF (ev_bin (ev_bin (ev_bin (ev_bin (ev_own rfl) ev_c rfl rfl rfl) ev_c rfl rfl (mul_r (by decide))) (ev_bin (ev_B (ev_cons (ev_var rfl) ev_nil) rfl rfl) ev_c rfl rfl (mod_ok (by decide))) rfl rfl rfl) (ev_bin ev_c (ev_bin (ev_own rfl) ev_c rfl rfl rfl) rfl rfl (mul_l (by decide))) rfl rfl rfl) rfl rfl ?_
      dsimp only
      refine st_sto (ev_bin (ev_B (ev_cons (ev_var rfl) ev_nil) rfl rfl) ev_c rfl rfl (mod_ok (by decide))) rfl rfl ev_c rfl rfl rfl ?_
      exact take_tail hy (Int.emod_nonneg _ (by decide)) (by omega) hx hl hm hm' _ _ hR
    refine st_if (b := decide ((10 : Int) ^ 18 ≤ c)) (evt_val (ev_bin (ev_var rfl) pw rfl rfl rfl)) (fun hb => ?_) (fun hb => ?_)
    · refine st_sto (ev_var rfl) rfl rfl ev_c rfl rfl rfl ?_
      exact rest c h0c
    · exact rest 0 (by decide)
  · exact take_tail h0 h1 h2 hx hl hm hm' .un .un hR
end G
end
section
set_option Elab.async false
set_option linter.all false
set_option maxRecDepth 100000
/-! M28c: calls that draw. -/
namespace G
open PySem DL

theorem back_fz : ∀ {os : List O} {ss : List Slot} {env : SEnv}, alsO os = [] → back os ss env = env
  | [], _, _, _ => by unfold back; rfl
  | .fz _ :: os, [], _, _ => rfl
  | .nw _ :: os, [], _, _ => rfl
  | .sc _ :: os, [], _, _ => rfl
  | .al _ :: os, _, _, h => by cases h
  | .fz _ :: os, _ :: ss, env, h => back_fz (os := os) (ss := ss) h
  | .nw _ :: os, _ :: ss, env, h => back_fz (os := os) (ss := ss) h
  | .sc _ :: os, _ :: ss, env, h => back_fz (os := os) (ss := ss) h
/-- a call with the bag first -/
theorem bag_call {sp : SpD} {ta : DA} {env : SEnv} {i : Nat} {p : Bool} {d : D} {os : List O} {ss : List Slot} {Q : O → SEnv → Prop} (h : EvA ta env (.al i :: os) env) (hb : env[i]? = some (.ow p d)) (ha : argsS env os = some ss) (hn : alsO os = [])
    (hs : ∀ R : O → List Slot → Prop, (∀ o d', o.ret = true → Q o (env.set i (.ow p d')) → R o (.ow true d' :: ss)) → sp (.ow true d :: ss) R) : dCall sp ta env Q := h _ ⟨.ow true d :: ss, by
  have e : argS env (.al i) = some (.ow true d) := by
    unfold argS
    simp only [hb]
  show (match argS env (.al i), argsS env os with
    | some s, some ss => some (s :: ss)
    | _, _ => none) = _
  rw [e, ha], by
  show (i :: alsO os).Nodup
  rw [hn]; simp, hs _ fun o d' ho q => ⟨ho, by
  show Q o (back os ss (putO env i d'))
  rw [back_fz hn]
  unfold putO
  rw [hb]; exact q⟩⟩
theorem take_ev {ta : DA} {env : SEnv} {i : Nat} {p : Bool} {d : D} {many : Int} {Q : O → SEnv → Prop} (h : EvA ta env [.al i, .fz (.int many)] env) (hb : env[i]? = some (.ow p d)) (bd : isBag d) (hm : 0 < many) (hm' : many < 2 ^ 30)
    (k : ∀ r d', 0 ≤ r → r < many → isBag d' → Q (.fz (.int r)) (env.set i (.ow p d'))) : dCall sp__law_take ta env Q :=
  bag_call h hb rfl rfl fun R hR => ⟨d, many, bd, hm, hm', rfl, fun r d' h1 h2 h3 => hR _ d' rfl (k r d' h1 h2 h3)⟩
theorem len_seq {th : D} {ds : List D} (h : seqD th = some ds) : gLen [th] = some (.fz (.int ds.length)) := by
  cases th with
  | list l => cases h; rfl
  | tuple l => cases h; rfl
  | _ => cases h
theorem ix_seq {th : D} {ds : List D} (h : seqD th = some ds) {j : Nat} {x : D} (hx : ds[j]? = some x) : gIx th (.int (j : Int)) = some (.fz x) := by
  cases th with
  | list l => cases h; show (L2.atI _ _).map O.fz = _; rw [at_nat hx]; rfl
  | tuple l => cases h; show (L2.atI _ _).map O.fz = _; rw [at_nat hx]; rfl
  | _ => cases h
theorem serves__law_one : Serves N__law_one ps__law_one t__law_one sp__law_one := by
  rintro args R ⟨d, th, ds, bd, hs, hne, hl, rfl, hR⟩
  refine ⟨rfl, rfl, ?_⟩
  have hpos : 0 < ds.length := List.length_pos_iff.mpr hne
  refine u_ret (u_bin (ev_var rfl _ ?_))
  refine take_ev (ev_cons (ev_own rfl) (ev_cons (ev_B (ev_cons (ev_var rfl) ev_nil) rfl (len_seq hs)) ev_nil)) rfl bd (by omega) (by omega) fun r d' h1 h2 h3 => ?_
  obtain ⟨j, rfl⟩ := Int.eq_ofNat_of_zero_le h1
  have hj : j < ds.length := by omega
  exact ⟨th, .int j, .fz ds[j], rfl, rfl, ix_seq hs (List.getElem?_eq_getElem hj), .fz ds[j], rfl, hR _ d' (List.getElem_mem hj) h3⟩
theorem one_ev {ta : DA} {env : SEnv} {i : Nat} {p : Bool} {d th : D} {o : O} {ds : List D} {Q : O → SEnv → Prop} (h : EvA ta env [.al i, o] env) (hb : env[i]? = some (.ow p d)) (bd : isBag d) (ho : o = .fz th ∨ o = .nw th) (hs : seqD th = some ds) (hne : ds ≠ []) (hl : ds.length < 2 ^ 24)
    (k : ∀ x d', x ∈ ds → isBag d' → Q (.fz x) (env.set i (.ow p d'))) : dCall sp__law_one ta env Q :=
  bag_call (ss := [.fz th]) h hb (by rcases ho with rfl | rfl <;> rfl) (by rcases ho with rfl | rfl <;> rfl) fun R hR => ⟨d, th, ds, bd, hs, hne, hl, rfl, fun x d' h1 h3 => hR _ d' rfl (k x d' h1 h3)⟩
theorem perm_insert {α : Type} (l : List α) (n : Nat) (x : α) : (l.take n ++ [x] ++ l.drop n).Perm (x :: l) := by
  have h := List.perm_middle (a := x) (l₁ := l.take n) (l₂ := l.drop n)
  rw [List.take_append_drop] at h
  simpa using h
theorem serves__law_mixed : Serves N__law_mixed ps__law_mixed t__law_mixed sp__law_mixed := by
  rintro args R ⟨d, th, ds, bd, hs, hl, rfl, hR⟩
  refine ⟨rfl, rfl, ?_⟩
  unfold t__law_mixed
  ((try dsimp only); refine st_seq ?_)
  refine st_set (ev_lst ev_nil rfl (by decide)) rfl rfl ?_
  ((try dsimp only); refine st_seq ?_)
  refine for_inv (evi_seq (o := .fz th) (ev_var rfl) rfl hs) (fun pre e => ∃ (d' : D) (l : List D) (s3 : Slot), isBag d' ∧ l.Perm pre ∧ pre.length ≤ ds.length ∧ e = [.ow true d', .fz th, .ow false (.list l), s3] ∧ notPin [s3] 0 = true) ⟨d, [], .un, bd, .nil, Nat.zero_le _, rfl, rfl⟩ ?_ ?_
  · rintro pre x post e E' hi ⟨d', l, s3, bd', hp, hle, rfl, n3⟩ nx _ _ _
    have hlen : pre.length + 1 ≤ ds.length := by
      have := congrArg List.length hi
      simp only [List.length_append, List.length_cons] at this
      omega
    have hll := hp.length_eq
    refine ⟨by
      cases s3 with
      | ow p d => cases p <;> first | rfl | cases n3
      | _ => rfl, ?_⟩
    refine u_drop (u_mut ⟨l, rfl, u_cons ?_⟩)
    refine take_ev (ev_cons (ev_own rfl) (ev_cons (ev_bin (ev_B (ev_cons (ev_own rfl) ev_nil) rfl (len_seq (th := .list l) rfl)) ev_c rfl rfl rfl) ev_nil)) rfl bd' (by show 0 < (l.length : Int) + 1; omega) (by show (l.length : Int) + 1 < 2 ^ 30; omega) fun r d'' h1 h2 h3 => ?_
    refine u_cons (ev_var (d := x) rfl _ ?_)
    refine ⟨l, [.int r, x], .fz .none, l.take r.toNat ++ [x] ++ l.drop r.toNat, rfl, rfl, ?_, nx _ ⟨d'', _, .fz x, h3, ?_, by rw [List.length_append, List.length_singleton]; exact hlen, rfl, rfl⟩⟩
    · show (if _ then _ else _) = _
      rw [if_pos]
      refine ⟨by show l.length < 2 ^ 24; omega, h1, ?_⟩
      have : r < (l.length : Int) + 1 := h2
      omega
    · exact ((perm_insert l r.toNat x).trans (hp.cons x)).trans (List.perm_append_comm (l₁ := [x]) (l₂ := pre))
  · rintro e ⟨d', l, s3, bd', hp, hle, rfl, n3⟩
    dsimp only
    exact st_ret (ev_own rfl) ⟨_, rfl, hR _ _ hp bd'⟩
theorem mixed_ev {ta : DA} {env : SEnv} {i : Nat} {p : Bool} {d th : D} {o : O} {ds : List D} {Q : O → SEnv → Prop} (h : EvA ta env [.al i, o] env) (hb : env[i]? = some (.ow p d)) (bd : isBag d) (ho : o = .fz th ∨ o = .nw th) (hs : seqD th = some ds) (hl : ds.length < 2 ^ 20)
    (k : ∀ ds' d', ds'.Perm ds → isBag d' → Q (.nw (.list ds')) (env.set i (.ow p d'))) : dCall sp__law_mixed ta env Q :=
  bag_call (ss := [.fz th]) h hb (by rcases ho with rfl | rfl <;> rfl) (by rcases ho with rfl | rfl <;> rfl) fun R hR => ⟨d, th, ds, bd, hs, hl, rfl, fun x d' h1 h3 => hR _ d' rfl (k x d' h1 h3)⟩
/-! sorting -/
theorem sortD_perm (ds : List D) : (sortD ds).Perm ds := List.mergeSort_perm ds _
theorem sorted_ok {ds : List D} (h : sortOk ds = true) : gSorted [.list ds] = some (.nw (.list (sortD ds))) := by
  show (if _ then _ else _) = _
  rw [if_pos h]
theorem sortOk_sub {ds es : List D} (h : sortOk ds = true) (hs : ∀ x ∈ es, x ∈ ds) : sortOk es = true := by
  unfold sortOk at h ⊢
  simp only [Bool.and_eq_true, Bool.or_eq_true, List.all_eq_true] at h ⊢
  refine ⟨⟨fun d hd e he => h.1.1 d (hs d hd) e (hs e he), ?_⟩, fun d hd => h.2 d (hs d hd)⟩
  rcases h.1.2 with h | h
  · exact .inl fun d hd => h d (hs d hd)
  · exact .inr fun d hd => h d (hs d hd)
theorem tuple_list (ds : List D) : gTuple [.list ds] = some (.fz (.tuple ds)) := rfl
theorem serves__law_some : Serves N__law_some ps__law_some t__law_some sp__law_some := by
  rintro args R ⟨d, th, ds, most, bd, hs, hl, hok, h0, hm, rfl, hR⟩
  refine ⟨rfl, rfl, ?_⟩
  refine u_ret (u_B (u_cons (u_B (u_cons (u_sl ?_)))))
  refine mixed_ev (o := .fz th) (ev_cons (ev_own rfl) (ev_cons (ev_var rfl) ev_nil)) rfl bd (.inl rfl) hs hl fun ds' d' hp bd' => ?_
  refine u_no (u_at ?_)
  refine take_ev (ev_cons (ev_own rfl) (ev_cons (ev_bin (ev_var rfl) ev_c rfl rfl rfl) ev_nil)) rfl bd' (by show 0 < most + 1; omega) (by show most + 1 < 2 ^ 30; omega) fun r d'' h1 h2 h3 => ?_
  obtain ⟨n, rfl⟩ := Int.eq_ofNat_of_zero_le h1
  have hsub : ∀ x ∈ ds'.take n, x ∈ ds := fun x hx => hp.mem_iff.mp (List.take_subset n ds' hx)
  refine ⟨n, rfl, .nw (.list (ds'.take n)), ?_, ?_⟩
  · show some (O.nw (.list (cutD ds' none (some (n : Int))))) = _
    rw [cut_to]
  refine ⟨_, _, rfl, sorted_ok (sortOk_sub hok hsub), ?_⟩
  refine ⟨_, _, rfl, tuple_list _, _, rfl, hR _ _ (fun x hx => hsub x ((sortD_perm _).mem_iff.mp hx)) h3⟩
/-! alike -/
theorem repr_ok {a : D} (h : Okd a) : gRepr [a] = some (.fz (.str a.shown)) := by
  show (if _ then _ else _) = _
  rw [if_pos]
  rw [h.2.1, h.1.shaped, decide_eq_true h.2.2]
  rfl
theorem eqv_ok {a : D} (h : Okd a) : gEq a a = some (.fz (.bool true)) := by
  rw [eq_of h.1 h.1, eqv_self a h.1.1]
theorem Okd.x {a : D} (h : Okd a) : Okx a := ⟨eqv_ok h, repr_ok h⟩
theorem slot_ev {env : SEnv} {i : Nat} {s : Slot} {a : D} (h : env[i]? = some s) (e : slotD s = some a) : ∃ o, Ev (dVar i) env o env ∧ o.get env = some a := by
  cases s with
  | fz d => cases e; exact ⟨_, ev_var h, rfl⟩
  | ow p d => cases e; exact ⟨_, ev_own h, by unfold O.get; simp only [h]⟩
  | _ => cases e
theorem gets_one {env : SEnv} {o : O} {a : D} (h : o.get env = some a) : getsO env [o] = some [a] := by
  show (match o.get env, getsO env [] with
    | some d, some ds => some (d :: ds)
    | _, _ => none) = _
  rw [h]; rfl
theorem alike_arg {s : Slot} {a : D} (h : s = .fz a ∨ s = .ow true a) : slotD s = some a := by rcases h with rfl | rfl <;> rfl
theorem serves__law_alike : Serves N__law_alike ps__law_alike t__law_alike sp__law_alike := by
  rintro args R ⟨s1, s2, a, h1, h2, ok, rfl, hR⟩
  refine ⟨rfl, by rcases h1 with rfl | rfl <;> rcases h2 with rfl | rfl <;> rfl, ?_⟩
  obtain ⟨o1, v1, g1⟩ := slot_ev (env := [s1, s2]) (i := 0) rfl (alike_arg h1)
  obtain ⟨o2, v2, g2⟩ := slot_ev (env := [s1, s2]) (i := 1) rfl (alike_arg h2)
  have houts : outs [s1, s2] [s1, s2] = [s1, s2] := by rcases h1 with rfl | rfl <;> rcases h2 with rfl | rfl <;> rfl
  have text : gEq (.str a.shown) (.str a.shown) = some (.fz (.bool true)) := by
    show some (O.fz (.bool (a.shown == a.shown))) = _
    rw [beq_self_eq_true]
  refine st_ret (o := .fz (.bool (true && true))) (ev_and (ev_bin v1 v2 g1 g2 ok.1) (ev_bin (ev_B (ev_cons v1 ev_nil) (gets_one g1) ok.2) (ev_B (ev_cons v2 ev_nil) (gets_one g2) ok.2) rfl rfl text)) ⟨_, rfl, ?_⟩
  show R _ (outs [s1, s2] [s1, s2])
  rw [houts]
  exact hR
/-! sets of kinds -/
theorem serves__law_set : Serves N__law_set ps__law_set t__law_set sp__law_set := by
  rintro args R ⟨ks, cs, p, h, hp, rfl, hR⟩
  refine ⟨rfl, rfl, ?_⟩
  have hl := h.ln
  refine st_ret (o := .fz (tS (ks.filter fun k => decide (k ∈ p)))) (ev_B (ev_cons (ev_lc (items := ks.map .str) (evi_seq (d := tS ks) (o := .fz (tS ks)) (ev_bin (ev_var rfl) ev_c rfl rfl rfl) rfl rfl) trivial (by rw [List.length_map]; show _ ≤ 2 ^ 24; omega) rfl (strP fun k => decide (k ∈ p)) id (fun d hd => ?_) (fun d hd _ => ⟨_, ev_var rfl, rfl⟩)) ev_nil) rfl ?_) ⟨_, rfl, hR⟩
  · obtain ⟨k, hk, rfl⟩ := List.mem_map.mp hd
    refine evt_val (ev_bin (ev_var rfl) (ev_var rfl) rfl rfl ?_)
    rw [in_t (h.nms k hk) hp]
    simp [strP]
  · rw [List.map_id, filter_strP]; rfl
theorem filter_none {α : Type} (p : α → Bool) (l : List α) : (l.filter fun x => !p x).isEmpty = l.all p := by
  induction l with
  | nil => rfl
  | cons x l ih =>
    rw [List.filter_cons, List.all_cons, ← ih]
    cases p x <;> rfl
theorem serves__law_within : Serves N__law_within ps__law_within t__law_within sp__law_within := by
  rintro args R ⟨p, o, hp, ho, hl, rfl, hR⟩
  refine ⟨rfl, rfl, ?_⟩
  have hlc := ev_lc (te := dVar 2) (tt := bVal (dBin (gIn true) (dVar 2) (dVar 1))) (env := [.fz (tS p), .fz (tS o), .un]) (items := p.map .str) (evi_seq (d := tS p) (o := .fz (tS p)) (ev_var (i := 0) rfl) rfl rfl) trivial (by rw [List.length_map]; show _ ≤ 2 ^ 24; omega) (i := 2) rfl (strP fun k => !decide (k ∈ o)) id (fun d hd => by
      obtain ⟨k, hk, rfl⟩ := List.mem_map.mp hd
      refine evt_val (ev_bin (ev_var rfl) (ev_var rfl) rfl rfl ?_)
      rw [in_t (hp k hk) ho]
      simp [strP]) (fun d hd _ => ⟨_, ev_var rfl, rfl⟩)
  rw [List.map_id, filter_strP] at hlc
  have hN : Nms (p.filter fun k => !decide (k ∈ o)) := fun k hk => hp k (List.mem_filter.mp hk).1
  refine st_ret (o := .fz (.bool (p.all fun k => decide (k ∈ o)))) (ev_bin hlc (ev_lst ev_nil rfl (by decide)) rfl rfl ?_) ⟨_, rfl, hR⟩
  rw [eq_of (Sh.lS hN) (Sh.lst (n := 0) (ds := []) (by simp)), eqv_nil]
  rw [List.isEmpty_map, filter_none]
end G
end
section
set_option Elab.async false
set_option linter.all false
set_option maxRecDepth 100000
/-! M28d: comprehensions and loops that draw; calls of numbers. -/
namespace G
open PySem DL

/-- a slot that holds nothing of its own -/
def fr (s : Slot) : Prop := (∃ d, s = .fz d) ∨ s = .un
theorem fr.un : fr .un := .inr rfl
theorem fr.fz {d : D} : fr (.fz d) := .inl ⟨d, rfl⟩
theorem fr.pin {env : SEnv} {i : Nat} {s : Slot} (h : fr s) (e : env[i]? = some s) : notPin env i = true := by
  unfold notPin
  rcases h with ⟨d, rfl⟩ | rfl <;> rw [e]
theorem fr.ow {env : SEnv} {i : Nat} {s : Slot} (h : fr s) (e : env[i]? = some s) : notOw [i] env = true := by
  unfold notOw
  simp only [List.all_cons, List.all_nil, Bool.and_true]
  rcases h with ⟨d, rfl⟩ | rfl <;> rw [e]
theorem u_for {ti : DI} {g : DG} {tb : DS} {env : SEnv} {E : SE} (h : ti env fun items al e1 => al = none ∧ forGo g tb items e1 E) : sFor ti g tb env E := h
theorem forGo_inv {g : DG} {tb : DS} {items : List D} {e1 : SEnv} {E : SE} (Inv : List D → SEnv → Prop) (h0 : Inv [] e1)
    (step : ∀ (pre : List D) (d : D) (post : List D) (e : SEnv) (E' : SE), items = pre ++ d :: post → Inv pre e → (∀ e, Inv (pre ++ [d]) e → E'.nx e) → (∀ e, Inv (pre ++ [d]) e → E'.ct e) → E'.bk = E.nx → E'.rt = E.rt → g d e fun e2 => tb e2 E')
    (fin : ∀ e, Inv items e → E.nx e) : forGo g tb items e1 E :=
  (for_inv (ti := fun env Q => Q items none env) (env := e1) (fun Q q => q) Inv h0 step fin).2
/-- what such a comprehension gives -/
inductive Picks (P : D → D → Prop) (sk : Bool) : List D → List D → Prop
  | nil : Picks P sk [] []
  | take {d x : D} {ds xs : List D} : P d x → Picks P sk ds xs → Picks P sk (d :: ds) (x :: xs)
  | skip {d : D} {ds xs : List D} : sk = true → Picks P sk ds xs → Picks P sk (d :: ds) xs
theorem Picks.sub {sk : Bool} : ∀ {ds xs : List D}, Picks (fun d x => x = d) sk ds xs → xs.Sublist ds
  | _, _, .nil => List.Sublist.refl _
  | _, _, .take e t => by subst e; exact (Picks.sub t).cons_cons _
  | _, _, .skip _ t => (Picks.sub t).cons _
theorem Picks.len {P : D → D → Prop} : ∀ {ds xs : List D}, Picks P false ds xs → xs.length = ds.length
  | _, _, .nil => rfl
  | _, _, .take _ t => by rw [List.length_cons, List.length_cons, Picks.len t]
theorem Picks.at {P : D → D → Prop} : ∀ {ds xs : List D} {i : Nat} {d : D}, Picks P false ds xs → ds[i]? = some d → ∃ x, xs[i]? = some x ∧ P d x
  | _, _, _, _, .nil, h => by simp at h
  | _, _, 0, _, .take p _, h => by simp at h; subst h; exact ⟨_, rfl, p⟩
  | _, _, i + 1, _, .take _ t, h => by
    obtain ⟨x, h1, h2⟩ := Picks.at t (i := i) (by simpa using h)
    exact ⟨x, by simpa using h1, h2⟩
theorem lcGo_draw {j : Nat} {tt : DB} {te : DT} {all : List D} {rest : List Slot} (P : D → D → Prop) (sk : Bool) {s : Slot} (hs : fr s) (hj : rest[j]? = some s) : ∀ (ds acc : List D) (d0 : D) (K : List D → SEnv → Prop), isBag d0 →
    (∀ d ∈ ds, ∀ (d' : D) (Y : D → SEnv → Prop) (N : SEnv → Prop), isBag d' → (∀ x d'', P d x → isBag d'' → Y x (.ow true d'' :: rest.set j (.fz d))) → (∀ d'', sk = true → isBag d'' → N (.ow true d'' :: rest.set j (.fz d))) →
      tt (.ow true d' :: rest.set j (.fz d)) fun b e2 => if b = true then te e2 fun o e3 => ∃ x, o.val = some x ∧ Y x e3 else N e2) →
    (∀ xs d', Picks P sk ds xs → isBag d' → K (acc ++ xs) (.ow true d' :: rest)) → lcGo [j + 1] none all (gN (j + 1)) tt te ds acc (.ow true d0 :: rest) K
  | [], acc, d0, K, b0, _, h => ⟨trivial, by simpa using h [] d0 .nil b0⟩
  | d :: ds, acc, d0, K, b0, turn, h => by
    have hjl : j < rest.length := (List.getElem?_eq_some_iff.mp hj).1
    have back : ∀ d'' : D, rst [j + 1] (.ow true d0 :: rest) (.ow true d'' :: rest.set j (.fz d)) = .ow true d'' :: rest := fun d'' => by
      show (Slot.ow true d'' :: rest.set j (.fz d)).set (j + 1) ((Slot.ow true d0 :: rest).getD (j + 1) .un) = _
      rw [List.set_cons_succ, List.set_set]
      congr 1
      refine List.ext_getElem? fun l => ?_
      by_cases hl : l = j
      · subst hl
        rw [List.getElem?_set_self hjl, List.getD_eq_getElem?_getD, List.getElem?_cons_succ, List.getElem?_eq_getElem hjl]
        rfl
      · rw [List.getElem?_set_ne (Ne.symm hl)]
    refine ⟨trivial, hs.ow (i := j + 1) (by simpa using hj), fr.un.pin (i := j + 1) (wipeE_in (vs := [j + 1]) List.mem_cons_self (by simpa using hjl)), ?_⟩
    have ew : (wipeE [j + 1] (.ow true d0 :: rest)).set (j + 1) (.fz d) = .ow true d0 :: rest.set j (.fz d) := by simp [wipeE]
    rw [ew]
    refine turn d List.mem_cons_self d0 (fun x e => lcGo [j + 1] none all (gN (j + 1)) tt te ds (acc ++ [x]) (rst [j + 1] (.ow true d0 :: rest) e) K) (fun e => lcGo [j + 1] none all (gN (j + 1)) tt te ds acc (rst [j + 1] (.ow true d0 :: rest) e) K) b0 (fun x d'' hp hb => ?_) (fun d'' hk hb => ?_)
    · rw [back]
      exact lcGo_draw P sk hs hj ds _ d'' K hb (fun d hd => turn d (List.mem_cons_of_mem _ hd)) fun xs d' hp' hb' => by rw [List.append_assoc]; exact h _ d' (.take hp hp') hb'
    · rw [back]
      exact lcGo_draw P sk hs hj ds _ d'' K hb (fun d hd => turn d (List.mem_cons_of_mem _ hd)) fun xs d' hp' hb' => h _ d' (.skip hk hp') hb'
theorem lc_draw {j : Nat} {ti : DI} {tt : DB} {te : DT} {items : List D} {rest : List Slot} {d0 : D} {Q : O → SEnv → Prop} (P : D → D → Prop) (sk : Bool) {s : Slot} (hs : fr s) (hj : rest[j]? = some s) (hi : EvI ti (.ow true d0 :: rest) items none (.ow true d0 :: rest)) (hl : items.length ≤ sizeLine) (b0 : isBag d0)
    (turn : ∀ d ∈ items, ∀ (d' : D) (Y : D → SEnv → Prop) (N : SEnv → Prop), isBag d' → (∀ x d'', P d x → isBag d'' → Y x (.ow true d'' :: rest.set j (.fz d))) → (∀ d'', sk = true → isBag d'' → N (.ow true d'' :: rest.set j (.fz d))) →
      tt (.ow true d' :: rest.set j (.fz d)) fun b e2 => if b = true then te e2 fun o e3 => ∃ x, o.val = some x ∧ Y x e3 else N e2)
    (k : ∀ xs d', Picks P sk items xs → isBag d' → Q (.nw (.list xs)) (.ow true d' :: rest)) : dLc [j + 1] ti (gN (j + 1)) tt te (.ow true d0 :: rest) Q :=
  hi _ ⟨hl, lcGo_draw P sk hs hj items [] d0 _ b0 turn (by simpa using k)⟩

/-! numbers below n -/
def ups (n : Nat) : List Int := (List.range n).map fun i : Nat => (i : Int)
theorem rngD_ups (n : Nat) : rngD 0 n = (ups n).map .int := by
  unfold rngD ups
  rw [List.map_map]
  exact List.map_congr_left fun i _ => by simp
theorem ups_mem {n : Nat} {x : Int} : x ∈ ups n ↔ 0 ≤ x ∧ x < n := by
  unfold ups
  rw [List.mem_map]
  constructor
  · rintro ⟨i, hi, rfl⟩
    have := List.mem_range.mp hi
    omega
  · rintro ⟨h1, h2⟩
    exact ⟨x.toNat, List.mem_range.mpr (by omega), by omega⟩
theorem ups_pw (n : Nat) : (ups n).Pairwise (· < ·) := by
  unfold ups
  rw [List.pairwise_map]
  exact List.Pairwise.imp (fun h => by omega) List.pairwise_lt_range
theorem ups_len (n : Nat) : (ups n).length = n := by unfold ups; rw [List.length_map, List.length_range]
theorem sub_ups {n : Nat} {xs : List D} (h : xs.Sublist ((ups n).map .int)) : ∃ ns : List Int, xs = ns.map .int ∧ ns.Pairwise (· < ·) ∧ ∀ x ∈ ns, 0 ≤ x ∧ x < n := by
  obtain ⟨ns, h1, rfl⟩ := List.sublist_map_iff.mp h
  exact ⟨ns, rfl, (ups_pw n).sublist h1, fun x hx => ups_mem.mp (h1.subset hx)⟩
theorem Sh.tI (l : List Int) : Sh 1 (tI l) := Sh.tup fun d hd => by
  obtain ⟨x, _, rfl⟩ := List.mem_map.mp hd
  exact Sh.int
theorem Sh.lI (l : List Int) : Sh 1 (.list (l.map .int)) := Sh.lst fun d hd => by
  obtain ⟨x, _, rfl⟩ := List.mem_map.mp hd
  exact Sh.int
theorem ne_nil_int (l : List Int) : gNe (.list (l.map .int)) (.list []) = some (.fz (.bool (!l.isEmpty))) := by
  rw [ne_of' (Sh.lI l) (Sh.lst (n := 0) (ds := []) (by simp)), eqv_nil, List.isEmpty_map]
theorem append_ok {ds : List D} {d : D} (h : ds.length < sizeLine) : gAppend ds [d] = some (.fz .none, ds ++ [d]) := by
  show (if _ then _ else _) = _
  rw [if_pos h]
theorem serves__law_any_calls : Serves N__law_any_calls ps__law_any_calls t__law_any_calls sp__law_any_calls := by
  rintro args R ⟨d, many, calls, bd, hm, hm', hc, hc', rfl, hR⟩
  refine ⟨rfl, rfl, ?_⟩
  unfold t__law_any_calls
  ((try dsimp only); refine st_seq ?_)
  refine st_set (ev_lst ev_nil rfl (by decide)) rfl rfl ?_
  ((try dsimp only); refine st_seq ?_)
  refine u_for ?_
  unfold iR1
  refine u_bin (ev_c _ ?_)
  refine take_ev (ev_cons (ev_own rfl) (ev_cons (ev_var rfl) ev_nil)) rfl bd (by omega) (by omega) fun r d' h1 h2 b' => ?_
  refine ⟨.int 1, .int r, .fz (.int (1 + r)), rfl, rfl, rfl, 1 + r, rfl, by omega, by omega, rfl, ?_⟩
  refine forGo_inv (fun pre e => ∃ (d' : D) (cs : List (List Int)) (s4 s5 s6 : Slot), isBag d' ∧ cs.length = pre.length ∧ (∀ c ∈ cs, okC many c) ∧ fr s4 ∧ fr s5 ∧ fr s6 ∧ e = [.ow true d', .fz (.int many), .fz (.int calls), .ow false (lC cs), s4, s5, s6]) ⟨d', [], .un, .un, .un, b', rfl, (by simp), fr.un, fr.un, fr.un, rfl⟩ ?_ ?_
  · rintro pre x post e E' hi ⟨d', cs, s4, s5, s6, b', hl, hcs, f4, f5, f6, rfl⟩ nx _ _ _
    have hpl : pre.length + 1 ≤ 200 := by
      have := congrArg List.length hi
      rw [rngD_ups, List.length_map, ups_len, List.length_append, List.length_cons] at this
      omega
    refine ⟨f4.pin rfl, ?_⟩
    ((try dsimp only); refine st_seq ?_)
    refine u_setF ?_
    refine lc_draw (j := 5) (items := rngD 0 many.toNat) (fun d x => x = d) true f6 rfl (evi_r1 (ev_var rfl) (by omega) (by omega)) (by rw [rngD_ups, List.length_map, ups_len]; show _ ≤ 2 ^ 24; omega) b' (fun y hy d'' Y N bb hY hN => ?_) fun xs d'' hp bb => ?_
    · refine u_val (u_bin ?_)
      refine take_ev (ev_cons (ev_own rfl) (ev_cons ev_c ev_nil)) rfl bb (by decide) (by decide) fun r d3 _ _ b3 => ?_
      refine ev_c _ ⟨_, _, _, rfl, rfl, eq_int, (r == 0), rfl, ?_⟩
      cases hr : (r == 0) with
      | true =>
        rw [if_pos rfl]
        exact ev_var (d := y) rfl _ ⟨y, rfl, hY y d3 rfl b3⟩
      | false =>
        rw [if_neg (by simp)]
        exact hN d3 rfl b3
    · have hsub := hp.sub
      rw [rngD_ups] at hsub
      obtain ⟨ns, rfl, hpw, hrg⟩ := sub_ups hsub
      refine ⟨.fz (.list (ns.map .int)), rfl, f5.pin rfl, ?_⟩
      dsimp only
      refine u_drop (u_mut ⟨_, rfl, u_cons (u_B (u_cons ?_))⟩)
      have tst : EvT (bVal (dBin gNe (dVar 5) (dLst aNil))) [.ow true d'', .fz (.int many), .fz (.int calls), .ow false (lC cs), .fz x, .fz (.list (ns.map .int)), s6] (!ns.isEmpty) [.ow true d'', .fz (.int many), .fz (.int calls), .ow false (lC cs), .fz x, .fz (.list (ns.map .int)), s6] := evt_val (ev_bin (ev_var rfl) (ev_lst ev_nil rfl (by decide)) rfl rfl (ne_nil_int ns))
      have fin : ∀ c : List Int, gAppend (cs.map tI) [tI c] = some (.fz .none, (cs ++ [c]).map tI) := fun c => by
        rw [append_ok (by rw [List.length_map]; show _ < 2 ^ 24; omega), List.map_append]; rfl
      have done : ∀ (c : List Int) (d3 : D), okC many c → isBag d3 → E'.nx [.ow true d3, .fz (.int many), .fz (.int calls), .ow false (lC (cs ++ [c])), .fz x, .fz (.list (ns.map .int)), s6] := fun c d3 hc b3 => nx _ ⟨d3, cs ++ [c], _, _, s6, b3, by rw [List.length_append, List.length_append, hl]; rfl, fun c' hc' => (List.mem_append.mp hc').elim (hcs c') fun h => by rw [List.mem_singleton.mp h]; exact hc, fr.fz, fr.fz, f6, rfl⟩
      refine u_if (tst _ ?_)
      cases hns : ns.isEmpty with
      | false =>
        rw [if_pos (by rfl)]
        refine ev_var rfl _ ?_
        have ok : okC many ns := ⟨(fun e => by rw [e] at hns; cases hns), hpw, fun x hx => by have := hrg x hx; omega⟩
        exact ⟨_, _, rfl, tuple_list _, _, [tI ns], .fz .none, (cs ++ [ns]).map tI, rfl, rfl, fin ns, done ns d'' ok bb⟩
      | true =>
        rw [if_neg (by simp)]
        refine u_lst (u_cons ?_)
        refine take_ev (ev_cons (ev_own rfl) (ev_cons (ev_var rfl) ev_nil)) rfl bb (by omega) (by omega) fun r2 d3 h3 h4 b3 => ?_
        have ok : okC many [r2] := ⟨by simp, by simp, fun x hx => by rw [List.mem_singleton.mp hx]; omega⟩
        exact ⟨[.int r2], rfl, (by show 1 ≤ 2 ^ 24; decide), _, _, rfl, tuple_list _, _, [tI [r2]], .fz .none, (cs ++ [[r2]]).map tI, rfl, rfl, fin [r2], done [r2] d3 ok b3⟩
  · rintro e ⟨d', cs, s4, s5, s6, b', hl, hcs, f4, f5, f6, rfl⟩
    rw [rngD_ups, List.length_map, ups_len] at hl
    dsimp only
    exact st_ret (ev_own rfl) ⟨_, rfl, hR _ _ ⟨fun e => by rw [e] at hl; simp at hl; omega, by omega, hcs⟩ b'⟩
end G
end
section
set_option Elab.async false
set_option linter.all false
set_option maxRecDepth 100000
/-! M28e: forks of calls of numbers. -/
namespace G
open PySem DL

theorem any_ints (k : Int) : ∀ l : List Int, ((l.map PyData.int).any fun z => PyData.eqv z (.int k)) = decide (k ∈ l)
  | [] => by simp
  | x :: l => by
    rw [List.map_cons, List.any_cons, any_ints k l]
    simp only [PyData.eqv, List.mem_cons]
    by_cases h : x = k
    · subst h; simp
    · have : ¬ k = x := fun z => h z.symm
      simp [h, this]
theorem in_ti {neg : Bool} {k : Int} {l : List Int} : gIn neg (.int k) (tI l) = some (.fz (.bool (decide (k ∈ l) != neg))) := by
  show (if SeqAt.shaped (.int k) && SeqAt.shaped (tI l) then _ else _) = _
  rw [(Sh.int (n := 0)).shaped, (Sh.tI l).shaped, any_ints]
  rfl
theorem extend_ok {ds es : List D} (h : ds.length + es.length ≤ sizeLine) : gExtend ds [.list es] = some (.fz .none, ds ++ es) := by
  show (if _ then _ else _) = _
  rw [if_pos h]
theorem okC.len {n : Int} {c : List Int} (h : okC n c) : (c.length : Int) ≤ n := by
  obtain ⟨hne, hp, hr⟩ := h
  have hs : c.Nodup := hp.imp fun h => by omega
  have hn : 0 ≤ n := by
    cases c with
    | nil => exact absurd rfl hne
    | cons x r => have := hr x List.mem_cons_self; omega
  have := List.Nodup.length_le_of_subset hs (l₂ := ups n.toNat) fun x hx => ups_mem.mpr (by have := hr x hx; omega)
  rw [ups_len] at this
  omega
def isFork (f : D) : Prop := ∃ (c o : List Int) (k b : Int), f = .tuple [tI c, tI o, .int k, .int b]
theorem isFork.sh {f : D} (h : isFork f) : Sh 2 f := by
  obtain ⟨c, o, k, b, rfl⟩ := h
  refine Sh.tup fun d hd => ?_
  simp only [List.mem_cons, List.not_mem_nil, or_false] at hd
  rcases hd with rfl | rfl | rfl | rfl
  · exact Sh.tI c
  · exact Sh.tI o
  · exact Sh.int
  · exact Sh.int
theorem forks_sort {fs : List D} (h : ∀ f ∈ fs, isFork f) : sortOk fs = true := by
  unfold sortOk
  simp only [Bool.and_eq_true, Bool.or_eq_true, List.all_eq_true]
  refine ⟨⟨fun d hd e he => ?_, .inl fun d hd => ?_⟩, fun d hd => (h d hd).sh.shaped⟩
  · obtain ⟨c, o, k, b, rfl⟩ := h d hd
    obtain ⟨c', o', k', b', rfl⟩ := h e he
    simp only [PySem.W.alike, PySem.W.alikeAll, PySem.W.alike_ints, Bool.and_self, Bool.and_true]
  · obtain ⟨c, o, k, b, rfl⟩ := h d hd
    rfl
theorem split_at {α : Type} {l pre post : List α} {d : α} (h : l = pre ++ d :: post) : l[pre.length]? = some d ∧ pre.length < l.length := by
  subst h
  exact ⟨by simp, by simp⟩
theorem serves_forksN : Serves N__law_forks ps__law_forks t__law_forks sp__law_forksN := by
  rintro args R ⟨cs, m, ⟨hne, hlm, hcs⟩, hm, rfl, hR⟩
  refine ⟨rfl, rfl, ?_⟩
  unfold t__law_forks
  ((try dsimp only); refine st_seq ?_)
  refine st_set (ev_lst ev_nil rfl (by decide)) rfl rfl ?_
  ((try dsimp only); refine st_seq ?_)
  have hlen : ∀ c ∈ cs, c.length ≤ 15 := fun c hc => by have := (hcs c hc).len; omega
  -- the state: the rows found, three free slots more
  have inv : ∀ (n : Nat) (e : SEnv), ((∃ (fs : List D) (s2 s3 s4 s5 s6 : Slot), (∀ f ∈ fs, isFork f) ∧ fs.length ≤ n ∧ fr s2 ∧ fr s3 ∧ fr s4 ∧ fr s5 ∧ fr s6 ∧ e = [.fz (.tuple [.tuple [], lC cs]), .ow false (.list fs), s2, s3, s4, s5, s6]) ↔ (∃ (fs : List D) (s2 s3 s4 s5 s6 : Slot), (∀ f ∈ fs, isFork f) ∧ fs.length ≤ n ∧ fr s2 ∧ fr s3 ∧ fr s4 ∧ fr s5 ∧ fr s6 ∧ e = [.fz (.tuple [.tuple [], lC cs]), .ow false (.list fs), s2, s3, s4, s5, s6])) := fun _ _ => Iff.rfl
  refine for_inv (evi_seq (d := lC cs) (ds := cs.map tI) (o := .fz (lC cs)) (ev_bin (ev_var rfl) ev_c rfl rfl rfl) rfl rfl) (fun pre e => ∃ (fs : List D) (s2 s3 s4 s5 s6 : Slot), (∀ f ∈ fs, isFork f) ∧ fs.length ≤ pre.length * 24750 ∧ fr s2 ∧ fr s3 ∧ fr s4 ∧ fr s5 ∧ fr s6 ∧ e = [.fz (.tuple [.tuple [], lC cs]), .ow false (.list fs), s2, s3, s4, s5, s6])
    ⟨[], .un, .un, .un, .un, .un, (by simp), (by simp), fr.un, fr.un, fr.un, fr.un, fr.un, rfl⟩ ?_ ?_
  · rintro pre x post e E1 hi ⟨fs, s2, s3, s4, s5, s6, hfs, hl, f2, f3, f4, f5, f6, rfl⟩ nx1 _ _ _
    obtain ⟨hx, hp⟩ := split_at hi
    have hxm : x ∈ cs.map tI := List.mem_of_getElem? hx
    obtain ⟨c, hc, rfl⟩ := List.mem_map.mp hxm
    rw [List.length_map] at hp
    refine ⟨f2.pin rfl, ?_⟩
    refine for_inv (evi_seq (d := lC cs) (ds := cs.map tI) (o := .fz (lC cs)) (ev_bin (ev_var rfl) ev_c rfl rfl rfl) rfl rfl) (fun pre2 e => ∃ (fs : List D) (s3 s4 s5 s6 : Slot), (∀ f ∈ fs, isFork f) ∧ fs.length ≤ pre.length * 24750 + pre2.length * 225 ∧ fr s3 ∧ fr s4 ∧ fr s5 ∧ fr s6 ∧ e = [.fz (.tuple [.tuple [], lC cs]), .ow false (.list fs), .fz (tI c), s3, s4, s5, s6])
      ⟨fs, s3, s4, s5, s6, hfs, by simpa using hl, f3, f4, f5, f6, rfl⟩ ?_ ?_
    · rintro pre2 x2 post2 e E2 hi2 ⟨fs, s3, s4, s5, s6, hfs, hl, f3, f4, f5, f6, rfl⟩ nx2 _ _ _
      obtain ⟨hx2, hp2⟩ := split_at hi2
      obtain ⟨o, ho, rfl⟩ := List.mem_map.mp (List.mem_of_getElem? hx2)
      rw [List.length_map] at hp2
      refine ⟨f3.pin rfl, ?_⟩
      refine for_inv (evi_enum (o := .fz (tI c)) (ev_var rfl) rfl rfl) (fun pre3 e => ∃ (fs : List D) (s4 s5 s6 : Slot), (∀ f ∈ fs, isFork f) ∧ fs.length ≤ pre.length * 24750 + pre2.length * 225 + pre3.length * 15 ∧ fr s4 ∧ fr s5 ∧ fr s6 ∧ e = [.fz (.tuple [.tuple [], lC cs]), .ow false (.list fs), .fz (tI c), .fz (tI o), s4, s5, s6])
        ⟨fs, s4, s5, s6, hfs, by simpa using hl, f4, f5, f6, rfl⟩ ?_ ?_
      · rintro pre3 x3 post3 e E3 hi3 ⟨fs, s4, s5, s6, hfs, hl, f4, f5, f6, rfl⟩ nx3 _ _ _
        obtain ⟨hx3, hp3⟩ := split_at hi3
        unfold enumD at hx3 hp3
        rw [List.getElem?_mapIdx] at hx3
        rw [List.length_mapIdx, List.length_map] at hp3
        obtain ⟨y, hy, rfl⟩ := Option.map_eq_some_iff.mp hx3
        obtain ⟨k, hk, rfl⟩ := List.mem_map.mp (List.mem_of_getElem? hy)
        have hcl := hlen c hc
        have hbound : pre.length * 24750 + pre2.length * 225 + pre3.length * 15 + 15 ≤ 2 ^ 24 := by omega
        have step : ∀ fs' : List D, (∀ f ∈ fs', isFork f) → fs'.length ≤ fs.length + 15 → E3.nx [.fz (.tuple [.tuple [], lC cs]), .ow false (.list fs'), .fz (tI c), .fz (tI o), .fz (.int pre3.length), .fz (.int k), s6] := fun fs' h1 h2 => nx3 _ ⟨fs', _, _, s6, h1, by rw [List.length_append, List.length_singleton]; omega, fr.fz, fr.fz, f6, rfl⟩
        refine ⟨_, rfl, rfl, _, _, rfl, ⟨f4.pin rfl, ?_⟩⟩
        refine ⟨_, _, rfl, ⟨f5.pin rfl, ?_⟩⟩
        refine ⟨rfl, ?_⟩
        refine st_if (evt_val (ev_bin (ev_var rfl) (ev_var rfl) rfl rfl in_ti)) (fun _ => ?_) (fun _ => step fs hfs (by omega))
        have cut : gSl (some ((pre3.length : Int) + 1)) none (.fz (tI c)) = fun _ => some (.fz (.tuple ((c.drop (pre3.length + 1)).map .int))) := by
          funext e
          show some (O.fz (.tuple (cutD (c.map .int) (some ((pre3.length : Int) + 1)) none))) = _
          rw [show ((pre3.length : Int) + 1) = ((pre3.length + 1 : Nat) : Int) by omega, cut_from, List.map_drop]
        have hdl : (c.drop (pre3.length + 1)).length ≤ 15 := by rw [List.length_drop]; omega
        refine st_drop (o := .fz .none) (e1 := [.fz (.tuple [.tuple [], lC cs]), .ow false (.list (fs ++ (((c.drop (pre3.length + 1)).map .int).filter (intP fun b => !decide (b ∈ o))).map (intF fun b => .tuple [tI c, tI o, .int k, .int b]))), .fz (tI c), .fz (tI o), .fz (.int pre3.length), .fz (.int k), s6]) (ev_mut rfl (ev_cons (ev_lc (evi_seq (d := .tuple ((c.drop (pre3.length + 1)).map .int)) (o := .fz (.tuple ((c.drop (pre3.length + 1)).map .int))) (ev_sl (ev_var rfl) (ev_at (ev_bin (ev_var rfl) ev_c rfl rfl rfl)) ev_no (congrFun cut _)) rfl rfl) trivial (by rw [List.length_map]; show _ ≤ 2 ^ 24; omega) (f6.ow rfl) (intP fun b => !decide (b ∈ o)) (intF fun b => .tuple [tI c, tI o, .int k, .int b]) (fun d hd => ?_) (fun d hd _ => ?_)) ev_nil) rfl rfl (extend_ok ?_) rfl) (step _ ?_ ?_)
        · obtain ⟨b, hb, rfl⟩ := List.mem_map.mp hd
          refine evt_val (ev_bin (ev_var rfl) (ev_var rfl) rfl rfl ?_)
          rw [in_ti]
          simp [intP]
        · obtain ⟨b, hb, rfl⟩ := List.mem_map.mp hd
          exact ⟨_, ev_tup (ev_cons (ev_var rfl) (ev_cons (ev_var rfl) (ev_cons (ev_var rfl) (ev_cons (ev_var rfl) ev_nil)))) rfl (by show 4 ≤ 2 ^ 24; decide), rfl⟩
        · rw [filter_intP, map_intF, List.length_map]
          have := List.length_filter_le (fun b => !decide (b ∈ o)) (c.drop (pre3.length + 1))
          show _ ≤ 2 ^ 24
          omega
        · rw [filter_intP, map_intF]
          intro f hf
          rcases List.mem_append.mp hf with hf | hf
          · exact hfs f hf
          · obtain ⟨b, _, rfl⟩ := List.mem_map.mp hf
            exact ⟨c, o, k, b, rfl⟩
        · rw [filter_intP, map_intF, List.length_append, List.length_map]
          have := List.length_filter_le (fun b => !decide (b ∈ o)) (c.drop (pre3.length + 1))
          omega
      · rintro e ⟨fs, s4, s5, s6, hfs, hl, f4, f5, f6, rfl⟩
        unfold enumD at hl
        rw [List.length_mapIdx, List.length_map] at hl
        have := hlen c hc
        exact nx2 _ ⟨fs, _, s4, s5, s6, hfs, by rw [List.length_append, List.length_singleton]; omega, fr.fz, f4, f5, f6, rfl⟩
    · rintro e ⟨fs, s3, s4, s5, s6, hfs, hl, f3, f4, f5, f6, rfl⟩
      rw [List.length_map] at hl
      exact nx1 _ ⟨fs, _, s3, s4, s5, s6, hfs, by rw [List.length_append, List.length_singleton]; omega, fr.fz, f3, f4, f5, f6, rfl⟩
  · rintro e ⟨fs, s2, s3, s4, s5, s6, hfs, hl, f2, f3, f4, f5, f6, rfl⟩
    dsimp only
    refine (show sFrz 1 _ _ _ from ?_)
    unfold sFrz
    dsimp only [List.getElem?_cons_succ, List.getElem?_cons_zero]
    exact st_ret (ev_B (ev_cons (ev_var rfl) ev_nil) rfl (sorted_ok (forks_sort hfs))) ⟨_, rfl, hR _ fun f hf => (hfs f ((sortD_perm _).mem_iff.mp hf)).sh⟩
/-! forks of calls of names -/
theorem cut_fromS {l : List Str} {n : Nat} : cutD (l.map .str) (some ((n : Int) + 1)) none = (l.drop (n + 1)).map .str := by
  rw [show ((n : Int) + 1) = ((n + 1 : Nat) : Int) by omega, cut_from, List.map_drop]
theorem alike_strs : ∀ a b : List Str, PySem.W.alikeAll (a.map .str) (b.map .str) = true
  | [], b => by simp [PySem.W.alikeAll]
  | x :: a, [] => by simp [PySem.W.alikeAll]
  | x :: a, y :: b => by
    rw [List.map_cons, List.map_cons, PySem.W.alikeAll, alike_strs a b]
    simp [PySem.W.alike]
def isFk (f : D) : Prop := ∃ (s t : List Str) (c u : Str), Nms s ∧ Nms t ∧ PyData.strOk c = true ∧ PyData.strOk u = true ∧ f = .tuple [tS s, tS t, .str c, .str u]
theorem isFk.sh {f : D} (h : isFk f) : Sh 2 f := by
  obtain ⟨s, t, c, u, hs, ht, hc, hu, rfl⟩ := h
  refine Sh.tup fun d hd => ?_
  simp only [List.mem_cons, List.not_mem_nil, or_false] at hd
  rcases hd with rfl | rfl | rfl | rfl
  · exact Sh.tS hs
  · exact Sh.tS ht
  · exact Sh.str hc
  · exact Sh.str hu
theorem fks_sort {fs : List D} (h : ∀ f ∈ fs, isFk f) : sortOk fs = true := by
  unfold sortOk
  simp only [Bool.and_eq_true, Bool.or_eq_true, List.all_eq_true]
  refine ⟨⟨fun d hd e he => ?_, .inl fun d hd => ?_⟩, fun d hd => (h d hd).sh.shaped⟩
  · obtain ⟨s, t, c, u, _, _, _, _, rfl⟩ := h d hd
    obtain ⟨s', t', c', u', _, _, _, _, rfl⟩ := h e he
    simp only [PySem.W.alike, PySem.W.alikeAll, alike_strs, Bool.and_self, Bool.and_true]
  · obtain ⟨s, t, c, u, _, _, _, _, rfl⟩ := h d hd
    rfl
theorem fk_mem {s t : List Str} {p : Str × Str} (h : p ∈ fk s t) : p.1 ∈ s ∧ p.1 ∈ t ∧ p.2 ∈ s.drop (s.idxOf p.1 + 1) ∧ p.2 ∈ s ∧ p.2 ∉ t := by
  unfold fk at h
  obtain ⟨c, hc, h⟩ := List.mem_flatMap.mp h
  obtain ⟨u, hu, rfl⟩ := List.mem_map.mp h
  obtain ⟨hc1, hc2⟩ := List.mem_filter.mp hc
  obtain ⟨hu1, hu2⟩ := List.mem_filter.mp hu
  exact ⟨hc1, of_decide_eq_true hc2, hu1, List.mem_of_mem_drop hu1, by simpa using hu2⟩
theorem fk_len (s t : List Str) : (fk s t).length ≤ s.length * s.length := by
  unfold fk
  rw [List.length_flatMap]
  have : ∀ l : List Str, (l.map fun c => (((s.drop (s.idxOf c + 1)).filter fun u => !decide (u ∈ t)).map fun u => (c, u)).length).sum ≤ l.length * s.length := by
    intro l
    induction l with
    | nil => simp
    | cons c l ih =>
      simp only [List.map_cons, List.sum_cons, List.length_map, List.length_cons] at ih ⊢
      have h1 : ((s.drop (s.idxOf c + 1)).filter fun u => !decide (u ∈ t)).length ≤ s.length := Nat.le_trans (List.length_filter_le _ _) (by rw [List.length_drop]; omega)
      rw [Nat.add_mul]
      omega
  refine Nat.le_trans (this _) (Nat.mul_le_mul_right _ (List.length_filter_le _ _))
theorem fks_of {ks : List Str} {cs : List (List Str)} {n m : Nat} (h : House n m ks cs) (nm : ∀ k ∈ ks, PyData.strOk k = true) : ∀ f ∈ forksL cs, isFk f := fun f hf => by
  unfold forksL at hf
  obtain ⟨s, hs, hf⟩ := List.mem_flatMap.mp hf
  obtain ⟨t, ht, hf⟩ := List.mem_flatMap.mp hf
  obtain ⟨p, hp, rfl⟩ := List.mem_map.mp hf
  have k : ∀ c ∈ cs, Nms c := fun c hc x hx => nm x (h.cin c hc x hx)
  obtain ⟨h1, h2, h3, h4, h5⟩ := fk_mem hp
  exact ⟨s, t, p.1, p.2, k s hs, k t ht, k s hs _ h1, k s hs _ h4, rfl⟩
/-- the forks that a kind begins -/
def fkOne (s t : List Str) (c : Str) : List D := if c ∈ t then ((s.drop (s.idxOf c + 1)).filter fun u => !decide (u ∈ t)).map fun u => fD s t (c, u) else []
theorem fkOne_all (s t : List Str) : (s.flatMap (fkOne s t)) = (fk s t).map (fD s t) := by
  unfold fk
  rw [List.map_flatMap]
  have : ∀ l : List Str, l.flatMap (fkOne s t) = (l.filter fun c => decide (c ∈ t)).flatMap fun c => (((s.drop (s.idxOf c + 1)).filter fun u => !decide (u ∈ t)).map fun u => (c, u)).map (fD s t) := by
    intro l
    induction l with
    | nil => rfl
    | cons c l ih =>
      rw [List.flatMap_cons, ih, List.filter_cons]
      by_cases hc : c ∈ t
      · rw [if_pos (by simpa using hc), List.flatMap_cons]
        unfold fkOne
        rw [if_pos hc, List.map_map]; rfl
      · rw [if_neg (by simpa using hc)]
        unfold fkOne
        rw [if_neg hc]; rfl
  exact this s
theorem idx_behind {post : List Str} {c : Str} : ∀ {pre : List Str}, c ∉ pre → (pre ++ c :: post).idxOf c = pre.length
  | [], _ => by simp
  | x :: pre, h => by
    have hx : x ≠ c := fun e => h (by rw [e]; exact List.mem_cons_self)
    rw [List.cons_append, List.idxOf_cons, idx_behind (fun z => h (List.mem_cons_of_mem _ z))]
    have : (x == c) = false := by simpa using hx
    simp [this]
theorem nodup_idx {s pre post : List Str} {c : Str} (hn : s.Nodup) (h : s = pre ++ c :: post) : s.idxOf c = pre.length := by
  subst h
  refine idx_behind fun z => ?_
  rw [List.nodup_append] at hn
  exact hn.2.2 c z c List.mem_cons_self rfl
theorem flat_len {α : Type} (f : α → List D) (n : Nat) : ∀ l : List α, (∀ x ∈ l, (f x).length ≤ n) → (l.flatMap f).length ≤ l.length * n
  | [], _ => by simp
  | x :: l, h => by
    rw [List.flatMap_cons, List.length_append, List.length_cons, Nat.add_mul]
    have h1 := h x List.mem_cons_self
    have h2 := flat_len f n l fun y hy => h y (List.mem_cons_of_mem _ hy)
    omega
theorem serves_forksS (nm : ∀ k ∈ menu, PyData.strOk k = true) : Serves N__law_forks ps__law_forks t__law_forks sp__law_forksS := by
  rintro args R ⟨ks, cs, h, rfl, hR⟩
  refine ⟨rfl, rfl, ?_⟩
  have nk : ∀ k ∈ ks, PyData.strOk k = true := fun k hk => nm k (h.mn k hk)
  have nc : ∀ c ∈ cs, Nms c := fun c hc x hx => nk x (h.cin c hc x hx)
  have cl : ∀ c ∈ cs, c.length ≤ 15 := fun c hc => Nat.le_trans (List.Nodup.length_le_of_subset (h.cnd c hc) (h.cin c hc)) h.ln
  have one_len : ∀ s ∈ cs, ∀ t c, (fkOne s t c).length ≤ 15 := fun s hs t c => by
    unfold fkOne
    have := cl s hs
    split
    · rw [List.length_map]
      exact Nat.le_trans (List.length_filter_le _ _) (by rw [List.length_drop]; omega)
    · simp
  have row_len : ∀ s ∈ cs, ∀ t, (s.flatMap (fkOne s t)).length ≤ 225 := fun s hs t => Nat.le_trans (flat_len _ 15 s fun c _ => one_len s hs t c) (by have := cl s hs; omega)
  have lc := h.lc
  unfold t__law_forks
  ((try dsimp only); refine st_seq ?_)
  refine st_set (ev_lst ev_nil rfl (by decide)) rfl rfl ?_
  ((try dsimp only); refine st_seq ?_)
  refine for_list (enc := tS) (l := cs) (evi_seq (d := .tuple (cs.map tS)) (o := .fz (.tuple (cs.map tS))) (ev_bin (ev_var rfl) ev_c rfl rfl rfl) rfl rfl) (fun pre e => ∃ s2 s3 s4 s5 s6, fr s2 ∧ fr s3 ∧ fr s4 ∧ fr s5 ∧ fr s6 ∧ e = [.fz (hD ks cs), .ow false (.list (pre.flatMap fun s => cs.flatMap fun t => s.flatMap (fkOne s t))), s2, s3, s4, s5, s6])
    ⟨_, _, _, _, _, fr.un, fr.un, fr.un, fr.un, fr.un, rfl⟩ ?_ ?_
  · rintro pre s post e E1 hi ⟨s2, s3, s4, s5, s6, f2, f3, f4, f5, f6, rfl⟩ nx1 _ _ _
    have hs : s ∈ cs := by rw [hi]; simp
    have l1 : pre.length + 1 ≤ 100 := by
      have := congrArg List.length hi
      rw [List.length_append, List.length_cons] at this
      omega
    have pl : (pre.flatMap fun s => cs.flatMap fun t => s.flatMap (fkOne s t)).length ≤ pre.length * 22500 := flat_len _ 22500 pre fun x hx => Nat.le_trans (flat_len _ 225 cs fun t _ => row_len x (by rw [hi]; exact List.mem_append_left _ hx) t) (by omega)
    refine ⟨f2.pin rfl, ?_⟩
    refine for_list (enc := tS) (l := cs) (evi_seq (d := .tuple (cs.map tS)) (o := .fz (.tuple (cs.map tS))) (ev_bin (ev_var rfl) ev_c rfl rfl rfl) rfl rfl) (fun pre2 e => ∃ s3 s4 s5 s6, fr s3 ∧ fr s4 ∧ fr s5 ∧ fr s6 ∧ e = [.fz (hD ks cs), .ow false (.list ((pre.flatMap fun s => cs.flatMap fun t => s.flatMap (fkOne s t)) ++ pre2.flatMap fun t => s.flatMap (fkOne s t))), .fz (tS s), s3, s4, s5, s6])
      ⟨_, _, _, _, f3, f4, f5, f6, by simp⟩ ?_ ?_
    · rintro pre2 t post2 e E2 hi2 ⟨s3, s4, s5, s6, f3, f4, f5, f6, rfl⟩ nx2 _ _ _
      have ht : t ∈ cs := by rw [hi2]; simp
      have l2 : pre2.length + 1 ≤ 100 := by
        have := congrArg List.length hi2
        rw [List.length_append, List.length_cons] at this
        omega
      have pl2 : (pre2.flatMap fun t => s.flatMap (fkOne s t)).length ≤ pre2.length * 225 := flat_len _ 225 pre2 fun t _ => row_len s hs t
      refine ⟨f3.pin rfl, ?_⟩
      refine for_list (enc := fun p : Str × Nat => .tuple [.int ((p.2 : Nat) : Int), .str p.1]) (l := s.zipIdx) (fun Q q => evi_enum (o := .fz (tS s)) (ev_var rfl) rfl rfl Q (by rw [enum_list]; exact q)) (fun pre3 e => ∃ s4 s5 s6, fr s4 ∧ fr s5 ∧ fr s6 ∧ e = [.fz (hD ks cs), .ow false (.list (((pre.flatMap fun s => cs.flatMap fun t => s.flatMap (fkOne s t)) ++ pre2.flatMap fun t => s.flatMap (fkOne s t)) ++ pre3.flatMap fun p => fkOne s t p.1)), .fz (tS s), .fz (tS t), s4, s5, s6])
        ⟨_, _, _, f4, f5, f6, by simp⟩ ?_ ?_
      · rintro pre3 ⟨c, j⟩ post3 e E3 hi3 ⟨s4, s5, s6, f4, f5, f6, rfl⟩ nx3 _ _ _
        have hl3 : pre3.length + 1 ≤ s.length := by
          have := congrArg List.length hi3
          rw [List.length_zipIdx, List.length_append, List.length_cons] at this
          omega
        have hj : s.zipIdx[pre3.length]? = some (c, j) := by rw [hi3]; simp
        rw [List.getElem?_zipIdx] at hj
        obtain ⟨c', hc', e1⟩ := Option.map_eq_some_iff.mp hj
        simp only [Nat.zero_add, Prod.mk.injEq] at e1
        obtain ⟨rfl, rfl⟩ := e1
        have hcs : c' ∈ s := List.mem_of_getElem? hc'
        have hix : s.idxOf c' = pre3.length := by
          have := List.take_append_drop pre3.length s
          rw [List.drop_eq_getElem_cons (by omega)] at this
          have hg : s[pre3.length]'(by omega) = c' := by
            rw [List.getElem?_eq_getElem (by omega)] at hc'
            exact Option.some.inj hc'
          rw [hg] at this
          rw [nodup_idx (h.cnd s hs) this.symm, List.length_take]
          omega
        have pl3 : (pre3.flatMap fun p => fkOne s t p.1).length ≤ pre3.length * 15 := flat_len _ 15 pre3 fun p _ => one_len s hs t p.1
        have scl := cl s hs
        refine ⟨_, rfl, rfl, _, _, rfl, f4.pin rfl, _, _, rfl, f5.pin rfl, rfl, ?_⟩
        refine st_if (evt_val (ev_bin (ev_var rfl) (ev_var rfl) rfl rfl (in_t (nc s hs c' hcs) (nc t ht)))) (fun hb => ?_) (fun hb => ?_)
        · have hct : c' ∈ t := by simpa using hb
          have e3 : (fkOne s t c') = ((s.drop (pre3.length + 1)).filter fun u => !decide (u ∈ t)).map fun u => fD s t (c', u) := by unfold fkOne; rw [if_pos hct, hix]
          refine st_drop (o := .fz .none) (ev_mut rfl (ev_cons (ev_lcl (enc := .str) (l := s.drop (pre3.length + 1)) (evi_seq (d := .tuple ((s.drop (pre3.length + 1)).map .str)) (o := .fz (.tuple ((s.drop (pre3.length + 1)).map .str))) (ev_sl (ev_var rfl) (ev_at (ev_bin (ev_var rfl) ev_c rfl rfl rfl)) ev_no (by
            show some (O.fz (.tuple (cutD (s.map .str) (some ((pre3.length : Int) + 1)) none))) = _
            rw [cut_fromS])) rfl rfl) trivial (by rw [List.length_drop]; show _ ≤ 2 ^ 24; omega) (f6.ow rfl) (fun u => !decide (u ∈ t)) (fun u => fD s t (c', u)) (fun u hu => ?_) (fun u hu _ => ?_)) ev_nil) rfl rfl (extend_ok ?_) rfl) (nx3 _ ⟨.fz (.int (pre3.length : Nat)), .fz (.str c'), s6, fr.fz, fr.fz, f6, ?_⟩)
          · have := in_t (neg := true) (nc s hs u (List.mem_of_mem_drop hu)) (nc t ht)
            rw [Bool.bne_true] at this
            exact evt_val (ev_bin (ev_var rfl) (ev_var rfl) rfl rfl this)
          · exact ⟨_, ev_tup (ev_cons (ev_var rfl) (ev_cons (ev_var rfl) (ev_cons (ev_var rfl) (ev_cons (ev_var rfl) ev_nil)))) rfl (by show 4 ≤ 2 ^ 24; decide), rfl⟩
          · rw [← e3]
            have := one_len s hs t c'
            rw [List.length_append, List.length_append]
            show _ ≤ 2 ^ 24
            omega
          · rw [← e3, List.flatMap_append]
            simp [putO]
        · have hct : c' ∉ t := by simpa using hb
          refine nx3 _ ⟨.fz (.int (pre3.length : Nat)), .fz (.str c'), s6, fr.fz, fr.fz, f6, ?_⟩
          rw [List.flatMap_append]
          simp [fkOne, hct]
      · rintro e ⟨s4, s5, s6, f4, f5, f6, rfl⟩
        refine nx2 _ ⟨.fz (tS t), s4, s5, s6, fr.fz, f4, f5, f6, ?_⟩
        have e4 : (s.zipIdx.flatMap fun p => fkOne s t p.1) = s.flatMap (fkOne s t) := by
          have : s.flatMap (fkOne s t) = (s.zipIdx.map Prod.fst).flatMap (fkOne s t) := by rw [List.zipIdx_map_fst]
          rw [this, List.flatMap_map]
        rw [e4, List.flatMap_append]
        simp
    · rintro e ⟨s3, s4, s5, s6, f3, f4, f5, f6, rfl⟩
      refine nx1 _ ⟨.fz (tS s), s3, s4, s5, s6, fr.fz, f3, f4, f5, f6, ?_⟩
      rw [List.flatMap_append (xs := pre)]
      simp
  · rintro e ⟨s2, s3, s4, s5, s6, f2, f3, f4, f5, f6, rfl⟩
    dsimp only
    refine (show sFrz 1 _ _ _ from ?_)
    unfold sFrz
    dsimp only [List.getElem?_cons_succ, List.getElem?_cons_zero]
    have e5 : (cs.flatMap fun s => cs.flatMap fun t => s.flatMap (fkOne s t)) = forksL cs := by
      unfold forksL
      simp only [fkOne_all]
    rw [e5]
    exact st_ret (ev_B (ev_cons (ev_var rfl) ev_nil) rfl (sorted_ok (fks_sort (fks_of h nk)))) ⟨_, rfl, hR⟩
theorem serves__law_forks : Serves N__law_forks ps__law_forks t__law_forks sp__law_forks := fun args R h => h.elim (serves_forksN args R) (serves_forksS (by decide +kernel) args R)
end G
end
section
set_option Elab.async false
set_option linter.all false
set_option maxRecDepth 100000
/-! M28f: sorted ints; bent calls; calls by paths. -/
namespace G
open PySem DL

theorem sortD_ints (l : List Int) : ∃ l' : List Int, sortD (l.map .int) = l'.map .int ∧ l'.Perm l ∧ (l.Nodup → l'.Pairwise (· < ·)) := by
  refine ⟨l.mergeSort fun a b => decide (a ≤ b), ?_, List.mergeSort_perm l _, fun hn => ?_⟩
  · unfold sortD
    refine (List.map_mergeSort fun a _ b _ => ?_).symm
    have := congrFun (congrFun (PySem.W.dataLe_int (fun x : Int => x)) a) b
    exact this.symm
  · have h1 := List.pairwise_mergeSort (le := fun a b : Int => decide (a ≤ b)) (fun a b c h1 h2 => by simp only [decide_eq_true_eq] at *; omega) (fun a b => by simp only [Bool.or_eq_true, decide_eq_true_eq]; omega) l
    have h2 : (l.mergeSort fun a b => decide (a ≤ b)).Nodup := (List.mergeSort_perm l _).nodup_iff.mpr hn
    refine List.Pairwise.imp₂ (fun a b x y => ?_) h1 h2
    have x := of_decide_eq_true x
    omega
theorem sort_ints (l : List Int) : sortOk (l.map .int) = true := by
  unfold sortOk
  simp only [Bool.and_eq_true, Bool.or_eq_true, List.all_eq_true]
  refine ⟨⟨fun d hd e he => ?_, .inr fun d hd => ?_⟩, fun d hd => ?_⟩
  · obtain ⟨c, _, rfl⟩ := List.mem_map.mp hd
    obtain ⟨c', _, rfl⟩ := List.mem_map.mp he
    simp [PySem.W.alike]
  · obtain ⟨c, _, rfl⟩ := List.mem_map.mp hd
    rfl
  · obtain ⟨c, _, rfl⟩ := List.mem_map.mp hd
    exact (Sh.int (n := 0)).shaped
theorem ne_int {i j : Int} : gNe (.int i) (.int j) = some (.fz (.bool (!(i == j)))) := by
  rw [ne_of' (Sh.int (n := 0)) (Sh.int (n := 0))]
  simp only [PyData.eqv]
theorem mul_list {x : D} {b : Bool} : gMul (.list [x]) (.int (if b then 1 else 0)) = some (.nw (.list (if b then [x] else []))) := by
  have g : ∀ k : Int, -(2 ^ 63) ≤ k → k < 2 ^ 63 → ([x] : List D).length * k.toNat ≤ sizeLine → gMul (.list [x]) (.int k) = some (.nw (.list (List.replicate k.toNat [x]).flatten)) := fun k h1 h2 h3 => by
    show (if -(2 ^ 63) ≤ k ∧ k < 2 ^ 63 ∧ ([x] : List D).length * k.toNat ≤ sizeLine then some (O.nw (.list (List.replicate k.toNat [x]).flatten)) else none) = _
    rw [if_pos ⟨h1, h2, h3⟩]
  cases b
  · exact g 0 (by decide) (by decide) (by show 0 ≤ _; omega)
  · exact g 1 (by decide) (by decide) (by show 1 ≤ 2 ^ 24; decide)
theorem u_par {i j : Nat} {ta tb : DT} {env : SEnv} {E : SE} (h : ta env fun o1 e1 => tb e1 fun o2 e2 => ∃ s1 s2, o1.slot = some s1 ∧ o2.slot = some s2 ∧ notPin e2 i = true ∧ notPin e2 j = true ∧ E.nx ((e2.set i s1).set j s2)) : sPar i j ta tb env E := h
theorem serves__law_bent_call : Serves N__law_bent_call ps__law_bent_call t__law_bent_call sp__law_bent_call := by
  rintro args R ⟨d, many, m, cs, bd, hm, hm', ⟨hne, hlm, hcs⟩, hm2, rfl, hR⟩
  refine ⟨rfl, rfl, ?_⟩
  unfold t__law_bent_call
  ((try dsimp only); refine st_seq ?_)
  refine u_par ?_
  refine one_ev (o := .fz (lC cs)) (ds := cs.map tI) (ev_cons (ev_own rfl) (ev_cons (ev_var rfl) ev_nil)) rfl bd (.inl rfl) rfl (by simpa using hne) (by rw [List.length_map]; omega) fun x d' hx b' => ?_
  obtain ⟨c, hc, rfl⟩ := List.mem_map.mp hx
  refine take_ev (ev_cons (ev_own rfl) (ev_cons (ev_var rfl) ev_nil)) rfl b' (by omega) (by omega) fun r d'' h1 h2 bb => ?_
  refine ⟨_, _, rfl, rfl, rfl, rfl, ?_⟩
  obtain ⟨cne, cpw, crg⟩ := hcs c hc
  have clen := (hcs c hc).len
  unfold sFrz
  dsimp only [List.set_cons_succ, List.set_cons_zero, List.getElem?_cons_succ, List.getElem?_cons_zero, List.append_eq, List.nil_append, List.cons_append, List.replicate]
  -- the call, changed
  have five : ∃ l : List Int, l.Nodup ∧ (∀ x ∈ l, 0 ≤ x ∧ x < many) ∧ ∃ o, Ev (dIf (bVal (dBin (gIn false) (dVar 4) (dVar 3))) (dLc [6] (iSeq (dVar 3)) (gN 6) (bVal (dBin gNe (dVar 6) (dVar 4))) (dVar 6)) (dBin gAdd (dB gList (aCons (dVar 3) aNil)) (dLst (aCons (dVar 4) aNil)))) [.ow true d'', .fz (.int many), .fz (lC cs), .fz (tI c), .fz (.int r), .un, .un] o [.ow true d'', .fz (.int many), .fz (lC cs), .fz (tI c), .fz (.int r), .un, .un] ∧ o.slotF = some (.fz (.list (l.map .int))) := by
    have cnd : c.Nodup := cpw.imp fun h => by omega
    by_cases hr : r ∈ c
    · refine ⟨c.filter fun x => !(x == r), cnd.filter _, fun x hx => crg x (List.mem_filter.mp hx).1, _, ev_if1 (evt_val (ev_bin (ev_var rfl) (ev_var rfl) rfl rfl ?_)) (ev_lc (items := c.map .int) (evi_seq (d := tI c) (o := .fz (tI c)) (ev_var rfl) rfl rfl) trivial (by rw [List.length_map]; show _ ≤ 2 ^ 24; omega) rfl (intP fun x => !(x == r)) id (fun d hd => ?_) (fun d hd _ => ⟨_, ev_var rfl, rfl⟩)), ?_⟩
      · rw [in_ti]; simp [hr]
      · obtain ⟨b, hb, rfl⟩ := List.mem_map.mp hd
        exact evt_val (ev_bin (ev_var rfl) (ev_var rfl) rfl rfl ne_int)
      · rw [List.map_id, filter_intP]; rfl
    · refine ⟨c ++ [r], List.nodup_append.mpr ⟨cnd, by simp, fun a ha b hb => by rw [List.mem_singleton.mp hb]; exact fun e => hr (e ▸ ha)⟩, fun x hx => (List.mem_append.mp hx).elim (crg x) fun h => by rw [List.mem_singleton.mp h]; exact ⟨h1, h2⟩, .nw (.list ((c ++ [r]).map .int)), ev_if0 (evt_val (ev_bin (ev_var rfl) (ev_var rfl) rfl rfl ?_)) (ev_bin (ev_B (ev_cons (ev_var rfl) ev_nil) rfl (o := .nw (.list (c.map .int))) rfl) (ev_lst (ds := [.int r]) (ev_cons (ev_var rfl) ev_nil) rfl (by show 1 ≤ 2 ^ 24; decide)) rfl rfl ?_), rfl⟩
      · rw [in_ti]; simp [hr]
      · rw [add_lists (by rw [List.length_map]; show _ + 1 ≤ 2 ^ 24; omega), List.map_append]; rfl
  obtain ⟨l, lnd, lrg, o, hev, hs⟩ := five
  refine st_seq ?_
  refine st_setF hev hs rfl ?_
  dsimp only
  obtain ⟨l', e1, e2, e3⟩ := sortD_ints l
  have e4 := e3 lnd
  refine st_ret (o := .nw (.list ((if (!l.isEmpty) then [tI l'] else []) ++ cs.map tI))) (ev_bin (a := .list (if (!l.isEmpty) then [tI l'] else [])) (oa := .nw (.list (if (!l.isEmpty) then [tI l'] else []))) (ev_bin (ev_lst (ds := [tI l']) (ev_cons (ev_B (o := .fz (tI l')) (ev_cons (ev_B (o := .nw (.list (l'.map .int))) (ev_cons (ev_var rfl) ev_nil) rfl ?_) ev_nil) rfl rfl) ev_nil) rfl (by show 1 ≤ 2 ^ 24; decide)) (ev_B (ev_cons (ev_bin (ev_var rfl) (ev_lst ev_nil rfl (by decide)) rfl rfl (ne_nil_int l)) ev_nil) rfl rfl) rfl rfl mul_list) (ev_var rfl) rfl rfl (add_lists ?_)) ⟨_, rfl, ?_⟩
  · rw [sorted_ok (sort_ints l), e1]
  · have : (if (!l.isEmpty) = true then [tI l'] else []).length ≤ 1 := by split <;> simp
    rw [List.length_map]
    show _ ≤ 2 ^ 24
    omega
  · cases hl : l.isEmpty with
    | true => exact hR cs d'' ⟨hne, by omega, hcs⟩ bb
    | false =>
      refine hR (l' :: cs) d'' ⟨by simp, by rw [List.length_cons]; omega, fun c' hc' => ?_⟩ bb
      rcases List.mem_cons.mp hc' with rfl | hc'
      · refine ⟨fun e => ?_, e4, fun x hx => lrg x (e2.mem_iff.mp hx)⟩
        rw [e] at e2
        have := e2.length_eq
        cases l with
        | nil => cases hl
        | cons _ _ => simp at this
      · exact hcs c' hc'
end G
end
section
set_option Elab.async false
set_option linter.all false
set_option maxRecDepth 100000
/-! M28g: calls by paths. -/
namespace G
open PySem DL

theorem ev_rngL2 {mk : List D → O} {t u : DT} {env e1 e2 : SEnv} {i j : Int} (h1 : Ev t env (.fz (.int i)) e1) (h2 : Ev u e1 (.fz (.int j)) e2) (ok : L2.RgOk i j) : Ev (dRngL2 mk t u) env (mk (rngD i (j - i).toNat)) e2 := fun Q q => h1 _ (h2 _ ⟨i, j, rfl, rfl, ok, q⟩)
theorem ix_last (pre : List Int) (x : Int) : gIx (.list ((pre ++ [x]).map .int)) (.int (-1)) = some (.fz (.int x)) := by
  show (L2.atI _ _).map O.fz = _
  rw [List.map_append]
  show (L2.atI (pre.map .int ++ [.int x]) (-1)).map O.fz = _
  rw [L2.atI_last]; rfl
/-- what stands behind each kind -/
def okB (many : Int) (bh : List D) : Prop := bh.length = many.toNat ∧ ∀ (k : Nat) (x : D), bh[k]? = some x → x = .none ∨ ∃ j : Int, x = .int j ∧ (k : Int) < j ∧ j < many
theorem okB.sh {many : Int} {bh : List D} (h : okB many bh) : Sh 1 (.list bh) := Sh.lst fun d hd => by
  obtain ⟨k, hk⟩ := List.getElem?_of_mem hd
  rcases h.2 k d hk with rfl | ⟨j, rfl, _⟩
  · exact Sh.non
  · exact Sh.int
theorem in_bh {neg : Bool} {many k : Int} {bh : List D} (h : okB many bh) : gIn neg (.int k) (.list bh) = some (.fz (.bool ((bh.any fun z => PyData.eqv z (.int k)) != neg))) := by
  show (if SeqAt.shaped (.int k) && SeqAt.shaped (.list bh) then _ else _) = _
  rw [(Sh.int (n := 0)).shaped, h.sh.shaped]; rfl
theorem no_zero {many : Int} {bh : List D} (h : okB many bh) : (bh.any fun z => PyData.eqv z (.int 0)) = false := by
  rw [List.any_eq_false]
  intro d hd
  obtain ⟨k, hk⟩ := List.getElem?_of_mem hd
  rcases h.2 k d hk with rfl | ⟨j, rfl, h1, _⟩
  · simp [PyData.eqv]
  · simp only [PyData.eqv]
    intro z
    have := of_decide_eq_true (by rw [← Bool.beq_eq_decide_eq]; exact z : decide (j = 0) = true)
    omega
theorem rngD_mem {lo : Int} {n : Nat} {x : D} : x ∈ rngD lo n ↔ ∃ i : Int, x = .int i ∧ lo ≤ i ∧ i < lo + n := by
  unfold rngD
  rw [List.mem_map]
  constructor
  · rintro ⟨i, hi, rfl⟩
    have := List.mem_range.mp hi
    exact ⟨_, rfl, by omega, by omega⟩
  · rintro ⟨i, rfl, h1, h2⟩
    exact ⟨(i - lo).toNat, List.mem_range.mpr (by omega), by congr 1; omega⟩
theorem rngD_len {lo : Int} {n : Nat} : (rngD lo n).length = n := by unfold rngD; rw [List.length_map, List.length_range]
theorem serves__law_paths : Serves N__law_paths ps__law_paths t__law_paths sp__law_paths := by
  rintro args R ⟨d, many, calls, bd, hm, hm', hc, hc', rfl, hR⟩
  refine ⟨rfl, rfl, ?_⟩
  unfold t__law_paths
  ((try dsimp only); refine st_seq ?_)
  refine u_setF ?_
  refine lc_draw (j := 7) (items := rngD 0 many.toNat) (fun d x => ∃ k : Int, d = .int k ∧ (x = .none ∨ ∃ j, x = .int j ∧ k < j ∧ j < many)) false fr.un rfl (evi_r1 (ev_var rfl) (by omega) (by omega)) (by rw [rngD_len]; show _ ≤ 2 ^ 24; omega) bd (fun y hy d' Y N b' hY _ => ?_) fun bh d' hp b' => ?_
  · obtain ⟨k, rfl, hk1, hk2⟩ := rngD_mem.mp hy
    unfold bYes
    dsimp only
    rw [if_pos rfl]
    refine one_ev (o := .nw (.list (rngD (k + 1) (many - (k + 1)).toNat ++ [.none]))) (ds := rngD (k + 1) (many - (k + 1)).toNat ++ [.none]) (ev_cons (ev_own rfl) (ev_cons (ev_bin (ev_rngL2 (ev_bin (ev_var rfl) ev_c rfl rfl rfl) (ev_var rfl) (L2.RgOk.of_le (by omega) (by omega) (by omega) (by omega))) (ev_lst (ds := [.none]) (ev_cons ev_c ev_nil) rfl (by show 1 ≤ 2 ^ 24; decide)) rfl rfl (add_lists (by rw [rngD_len]; show _ + 1 ≤ 2 ^ 24; omega))) ev_nil)) rfl b' (.inr rfl) rfl (by simp) (by rw [List.length_append, rngD_len, List.length_singleton]; omega) fun x d'' hx bb => ?_
    refine ⟨x, rfl, hY x d'' ⟨k, rfl, ?_⟩ bb⟩
    rcases List.mem_append.mp hx with hx | hx
    · obtain ⟨j, rfl, h1, h2⟩ := rngD_mem.mp hx
      exact .inr ⟨j, rfl, by omega, by omega⟩
    · exact .inl (List.mem_singleton.mp hx)
  have hB : okB many bh := by
    refine ⟨by rw [hp.len, rngD_len], fun k x hk => ?_⟩
    have hkl : k < (rngD 0 many.toNat).length := by rw [← hp.len]; exact (List.getElem?_eq_some_iff.mp hk).1
    obtain ⟨x', h1, k', h2, h3⟩ := hp.at (List.getElem?_eq_getElem hkl)
    rw [hk] at h1
    cases h1
    have : k' = (k : Int) := by
      simp only [rngD, List.getElem_map, List.getElem_range, PyData.int.injEq] at h2
      omega
    subst this
    exact h3
  refine ⟨_, rfl, rfl, ?_⟩
  -- the heads
  have comp : ∀ (neg : Bool) (dd : D) (s4 : Slot), Ev (dLc [8] (iR1 (dVar 1)) (gN 8) (bVal (dBin (gIn neg) (dVar 8) (dVar 3))) (dVar 8)) [.ow true dd, .fz (.int many), .fz (.int calls), .fz (.list bh), s4, .un, .un, .un, .un] (.nw (.list (((ups many.toNat).filter fun k => (bh.any fun z => PyData.eqv z (.int k)) != neg).map .int))) [.ow true dd, .fz (.int many), .fz (.int calls), .fz (.list bh), s4, .un, .un, .un, .un] := fun neg dd s4 => by
    have hi : EvI (iR1 (dVar 1)) [.ow true dd, .fz (.int many), .fz (.int calls), .fz (.list bh), s4, .un, .un, .un, .un] ((ups many.toNat).map .int) none [.ow true dd, .fz (.int many), .fz (.int calls), .fz (.list bh), s4, .un, .un, .un, .un] := by
      rw [← rngD_ups]; exact evi_r1 (ev_var (i := 1) rfl) (by omega) (by omega)
    have := ev_lc (te := dVar 8) (tt := bVal (dBin (gIn neg) (dVar 8) (dVar 3))) (env := [.ow true dd, .fz (.int many), .fz (.int calls), .fz (.list bh), s4, .un, .un, .un, .un]) (items := (ups many.toNat).map .int) hi trivial (by rw [List.length_map, ups_len]; show _ ≤ 2 ^ 24; omega) (i := 8) rfl (intP fun k => (bh.any fun z => PyData.eqv z (.int k)) != neg) id (fun d hd => by
      obtain ⟨k, hk, rfl⟩ := List.mem_map.mp hd
      exact evt_val (ev_bin (ev_var rfl) (ev_var rfl) rfl rfl (in_bh hB))) (fun d hd _ => ⟨_, ev_var rfl, rfl⟩)
    rw [List.map_id, filter_intP] at this
    exact this
  ((try dsimp only); refine st_seq ?_)
  refine st_setF (comp true d' .un) rfl rfl ?_
  ((try dsimp only); refine st_seq ?_)
  refine u_setF (u_bin (ev_var rfl _ (u_sl ?_)))
  refine mixed_ev (o := .nw (.list (((ups many.toNat).filter fun k => (bh.any fun z => PyData.eqv z (.int k)) != false).map .int))) (ev_cons (ev_own rfl) (ev_cons (comp false d' _) ev_nil)) rfl b' (.inr rfl) rfl (by
    rw [List.length_map]
    have := List.length_filter_le (fun k => (bh.any fun z => PyData.eqv z (.int k)) != false) (ups many.toNat)
    rw [ups_len] at this
    omega) fun mx d'' hmx bb => ?_
  refine u_no (u_at ?_)
  refine one_ev (o := .nw (.list [.int 1, .int 2, .int 0, .int 6])) (ev_cons (ev_own rfl) (ev_cons (ev_lst (ds := [.int 1, .int 2, .int 0, .int 6]) (ev_cons ev_c (ev_cons ev_c (ev_cons ev_c (ev_cons ev_c ev_nil)))) rfl (by show 4 ≤ 2 ^ 24; decide)) ev_nil)) rfl bb (.inr rfl) rfl (by simp) (by decide) fun x d3 hx b3 => ?_
  obtain ⟨n, rfl⟩ : ∃ n : Nat, x = .int (n : Int) := by
    simp only [List.mem_cons, List.not_mem_nil, or_false] at hx
    rcases hx with rfl | rfl | rfl | rfl
    · exact ⟨1, rfl⟩
    · exact ⟨2, rfl⟩
    · exact ⟨0, rfl⟩
    · exact ⟨6, rfl⟩
  have hmem : ∀ z ∈ mx, ∃ i : Int, z = .int i ∧ 0 ≤ i ∧ i < many := fun z hz => by
    obtain ⟨i, hi, rfl⟩ := List.mem_map.mp (hmx.mem_iff.mp hz)
    have := ups_mem.mp (List.mem_filter.mp hi).1
    exact ⟨i, rfl, by omega, by omega⟩
  obtain ⟨mi, hmi, hmr⟩ : ∃ mi : List Int, mx.take n = mi.map .int ∧ ∀ i ∈ mi, 0 ≤ i ∧ i < many := by
    have h2 : ∀ z ∈ mx.take n, ∃ i : Int, z = .int i ∧ 0 ≤ i ∧ i < many := fun z hz => hmem z (List.take_subset _ _ hz)
    generalize mx.take n = l at h2
    clear hmem hmx
    induction l with
    | nil => exact ⟨[], rfl, by simp⟩
    | cons z l ih =>
      obtain ⟨i, rfl, hi⟩ := h2 z List.mem_cons_self
      obtain ⟨mi, e, h⟩ := ih fun z hz => h2 z (List.mem_cons_of_mem _ hz)
      exact ⟨i :: mi, by rw [e]; rfl, fun j hj => (List.mem_cons.mp hj).elim (fun e => e ▸ hi) (h j)⟩
  have hml : mi.length ≤ 15 := by
    have h1 := congrArg List.length hmi
    have h2 := hmx.length_eq
    have h3 := List.length_filter_le (fun k => (bh.any fun z => PyData.eqv z (.int k)) != false) (ups many.toNat)
    rw [ups_len] at h3
    simp only [List.length_map, List.length_take] at h1 h2
    omega
  generalize hh1 : ((ups many.toNat).filter fun k => (bh.any fun z => PyData.eqv z (.int k)) != true) = h1
  have h1r : ∀ i ∈ h1, 0 ≤ i ∧ i < many := fun i hi => by
    rw [← hh1] at hi
    have := ups_mem.mp (List.mem_filter.mp hi).1
    omega
  have h1l : h1.length ≤ 15 := by
    rw [← hh1]
    have h3 := List.length_filter_le (fun k => (bh.any fun z => PyData.eqv z (.int k)) != true) (ups many.toNat)
    rw [ups_len] at h3
    omega
  have h1n : h1 ≠ [] := by
    have : (0 : Int) ∈ h1 := by
      rw [← hh1]
      exact List.mem_filter.mpr ⟨ups_mem.mpr ⟨by omega, by omega⟩, by rw [no_zero hB]; rfl⟩
    exact List.ne_nil_of_mem this
  refine ⟨n, rfl, .nw (.list (mi.map .int)), ?_, ?_⟩
  · show some (O.nw (.list (cutD mx none (some (n : Int))))) = _
    rw [cut_to, hmi]
  refine ⟨.list (h1.map .int), .list (mi.map .int), .nw (.list ((h1 ++ mi).map .int)), rfl, rfl, ?_, _, rfl, rfl, ?_⟩
  · rw [add_lists (by rw [List.length_map, List.length_map]; show _ ≤ 2 ^ 24; omega), List.map_append]
  ((try dsimp only); refine st_seq ?_)
  refine st_set (ev_lst ev_nil rfl (by decide)) rfl rfl ?_
  ((try dsimp only); refine st_seq ?_)
  obtain ⟨cn, rfl⟩ := Int.eq_ofNat_of_zero_le (show 0 ≤ calls by omega)
  have hsl : EvI (iSeq (dSl (dVar 4) pNo (pAt (dVar 2)))) [.ow true d3, .fz (.int many), .fz (.int cn), .fz (.list bh), .fz (.list ((h1 ++ mi).map .int)), .ow false (.list []), .un, .un, .un] (((h1 ++ mi).take cn).map .int) none [.ow true d3, .fz (.int many), .fz (.int cn), .fz (.list bh), .fz (.list ((h1 ++ mi).map .int)), .ow false (.list []), .un, .un, .un] := by
    refine evi_seq (o := .nw (.list (((h1 ++ mi).take cn).map .int))) (ev_sl (ev_var rfl) ev_no (ev_at (ev_var rfl)) ?_) rfl rfl
    show some (O.nw (.list (cutD ((h1 ++ mi).map .int) none (some (cn : Int))))) = _
    rw [cut_to, List.map_take]
  refine for_inv hsl (fun pre e => ∃ (cs : List (List Int)) (s6 s7 s8 : Slot), cs.length = pre.length ∧ (∀ c ∈ cs, okC many c) ∧ fr s6 ∧ notPin [s7] 0 = true ∧ fr s8 ∧ e = [.ow true d3, .fz (.int many), .fz (.int cn), .fz (.list bh), .fz (.list ((h1 ++ mi).map .int)), .ow false (lC cs), s6, s7, s8]) ⟨[], .un, .un, .un, rfl, (by simp), fr.un, rfl, fr.un, rfl⟩ ?_ ?_
  · rintro pre x post e E1 hi ⟨cs, s6, s7, s8, hl, hcs, f6, f7, f8, rfl⟩ nx _ _ _
    obtain ⟨hx, hpl⟩ := split_at hi
    obtain ⟨h, hh, rfl⟩ := List.mem_map.mp (List.mem_of_getElem? hx)
    have hr : 0 ≤ h ∧ h < many := (List.mem_append.mp (List.take_subset _ _ hh)).elim (h1r h) (hmr h)
    rw [List.length_map, List.length_take, List.length_append] at hpl
    refine ⟨f6.pin rfl, ?_⟩
    ((try dsimp only); refine st_seq ?_)
    refine st_set (s := .ow false (.list [.int h])) (ev_lst (ds := [.int h]) (ev_cons (ev_var rfl) ev_nil) rfl (by show 1 ≤ 2 ^ 24; decide)) rfl (by
      cases s7 with
      | ow p d => cases p <;> first | rfl | cases f7
      | _ => rfl) ?_
    ((try dsimp only); refine st_seq ?_)
    refine while_inv (fun e => ∃ (c : List Int) (y : Int), (c ++ [y]).Pairwise (· < ·) ∧ (∀ z ∈ c ++ [y], 0 ≤ z ∧ z < many) ∧ e = [.ow true d3, .fz (.int many), .fz (.int cn), .fz (.list bh), .fz (.list ((h1 ++ mi).map .int)), .ow false (lC cs), .fz (.int h), .ow false (.list ((c ++ [y]).map .int)), s8]) (fun e : SEnv => match e[7]? with
      | some (DL.Slot.ow _ (PyData.list l)) => 16 - l.length
      | _ => 0) ⟨[], h, by simp, fun z hz => by rw [List.mem_singleton.mp hz]; exact hr, rfl⟩ ?_
    rintro e E2 ⟨c, y, hpw, hrg, rfl⟩ nx2 _ _ _
    have hy := hrg y (by simp)
    obtain ⟨yn, rfl⟩ := Int.eq_ofNat_of_zero_le hy.1
    have hyb : yn < bh.length := by rw [hB.1]; omega
    have okc : okC many (c ++ [(yn : Int)]) := ⟨by simp, hpw, hrg⟩
    have clen := okc.len
    have behind : Ev (dBin gIx (dVar 3) (dBin gIx (dVar 7) (dUn gNeg (dC (.int 1))))) [.ow true d3, .fz (.int many), .fz (.int cn), .fz (.list bh), .fz (.list ((h1 ++ mi).map .int)), .ow false (lC cs), .fz (.int h), .ow false (.list ((c ++ [(yn : Int)]).map .int)), s8] (.fz bh[yn]) [.ow true d3, .fz (.int many), .fz (.int cn), .fz (.list bh), .fz (.list ((h1 ++ mi).map .int)), .ow false (lC cs), .fz (.int h), .ow false (.list ((c ++ [(yn : Int)]).map .int)), s8] :=
      ev_bin (ev_var rfl) (ev_bin (ev_own rfl) (ev_un (o := .fz (.int (-1))) ev_c rfl rfl) rfl rfl (ix_last c yn)) rfl rfl (ix_seq (th := .list bh) rfl (List.getElem?_eq_getElem hyb))
    refine evt_val (ev_bin behind ev_c rfl rfl rfl) _ ?_
    rcases hB.2 yn bh[yn] (List.getElem?_eq_getElem hyb) with hb | ⟨j, hb, hj1, hj2⟩
    · rw [hb, if_neg (by simp [isNoneD])]
      unfold sFrz
      dsimp only [List.getElem?_cons_succ, List.getElem?_cons_zero, List.set_cons_succ, List.set_cons_zero]
      refine st_drop (o := .fz .none) (ev_mut rfl (ev_cons (ev_B (ev_cons (ev_var rfl) ev_nil) rfl (tuple_list _)) ev_nil) rfl rfl (append_ok (by rw [List.length_map]; show _ < 2 ^ 24; omega)) rfl) ?_
      refine nx _ ⟨cs ++ [c ++ [(yn : Int)]], .fz (.int h), .fz (.list ((c ++ [(yn : Int)]).map .int)), s8, by rw [List.length_append, List.length_append, hl]; rfl, fun c' hc' => (List.mem_append.mp hc').elim (hcs c') fun h => by rw [List.mem_singleton.mp h]; exact okc, fr.fz, rfl, f8, ?_⟩
      show [_, _, _, _, _, Slot.ow false (.list (cs.map tI ++ [tI (c ++ [(yn : Int)])])), _, _, _] = _
      rw [show lC (cs ++ [c ++ [(yn : Int)]]) = .list (cs.map tI ++ [tI (c ++ [(yn : Int)])]) by rw [show lC (cs ++ [c ++ [(yn : Int)]]) = .list ((cs ++ [c ++ [(yn : Int)]]).map tI) from rfl, List.map_append]; rfl]
    · rw [hb] at behind ⊢
      rw [if_pos (by simp [isNoneD])]
      refine st_drop (o := .fz .none) (ev_mut rfl (ev_cons behind ev_nil) rfl rfl (append_ok (by rw [List.length_map]; show _ < 2 ^ 24; omega)) rfl) ?_
      refine nx2 _ ⟨c ++ [(yn : Int)], j, ?_, fun z hz => (List.mem_append.mp hz).elim (hrg z) fun h => by rw [List.mem_singleton.mp h]; omega, ?_⟩ ?_
      · refine List.pairwise_append.mpr ⟨hpw, by simp, fun a ha b hb' => ?_⟩
        rw [List.mem_singleton.mp hb']
        rcases List.mem_append.mp ha with ha | ha
        · have := (List.pairwise_append.mp hpw).2.2 a ha yn (by simp)
          omega
        · rw [List.mem_singleton.mp ha]; exact hj1
      · rw [List.map_append (l₁ := c ++ [(yn : Int)])]; rfl
      · show 16 - ((c ++ [(yn : Int)]).map PyData.int ++ [PyData.int j]).length < 16 - ((c ++ [(yn : Int)]).map PyData.int).length
        simp only [List.length_append, List.length_map, List.length_singleton] at clen ⊢
        omega
  · rintro e ⟨cs, s6, s7, s8, hl, hcs, f6, f7, f8, rfl⟩
    dsimp only
    rw [List.length_map, List.length_take, List.length_append] at hl
    refine st_ret (ev_own rfl) ⟨_, rfl, hR _ _ ⟨fun e => ?_, by omega, hcs⟩ b3⟩
    rw [e] at hl
    simp only [List.length_nil] at hl
    have : 0 < h1.length := List.length_pos_iff.mpr h1n
    omega
end G
end
section
set_option Elab.async false
set_option linter.all false
set_option maxRecDepth 100000
/-! M28h: kinds get their names. -/
namespace G
open PySem DL

theorem unmap {α : Type} {f : α → D} (u : D → α) (hu : ∀ x, u (f x) = x) {ds : List D} {l : List α} (h : ds.Perm (l.map f)) : ∃ l' : List α, ds = l'.map f ∧ l'.Perm l := by
  refine ⟨ds.map u, ?_, ?_⟩
  · rw [List.map_map]
    have : ∀ d ∈ ds, (f ∘ u) d = d := fun d hd => by
      obtain ⟨x, _, rfl⟩ := List.mem_map.mp (h.mem_iff.mp hd)
      show f (u (f x)) = f x
      rw [hu]
    exact (List.map_id ds).symm.trans (List.map_congr_left fun d hd => (this d hd).symm)
  · have := h.map u
    rw [List.map_map] at this
    have e : l.map (u ∘ f) = l := (List.map_congr_left fun x _ => hu x).trans (List.map_id l)
    rw [e] at this
    exact this
def unS : D → Str
  | .str x => x
  | _ => ""
def unT : D → List Str
  | .tuple ds => ds.map unS
  | _ => []
theorem unS_str (x : Str) : unS (.str x) = x := rfl
theorem unT_tS (l : List Str) : unT (tS l) = l := by
  show (l.map .str).map unS = l
  rw [List.map_map]
  exact (List.map_congr_left fun x _ => rfl).trans (List.map_id l)
theorem eqvAll_ints : ∀ a b : List Int, PyData.eqvAll (a.map .int) (b.map .int) = decide (a = b)
  | [], [] => by simp [PyData.eqvAll]
  | [], _ :: _ => by simp [PyData.eqvAll]
  | _ :: _, [] => by simp [PyData.eqvAll]
  | x :: a, y :: b => by
    rw [List.map_cons, List.map_cons]
    simp only [PyData.eqvAll, PyData.eqv]
    rw [eqvAll_ints a b]
    by_cases h : x = y
    · subst h; simp
    · simp [h]
theorem eqv_tI (a b : List Int) : PyData.eqv (tI a) (tI b) = decide (a = b) := by
  simp only [PyData.eqv]
  exact eqvAll_ints a b
theorem any_calls (c : List Int) : ∀ l : List (List Int), ((l.map tI).any fun z => PyData.eqv z (tI c)) = decide (c ∈ l)
  | [] => by simp
  | x :: l => by
    rw [List.map_cons, List.any_cons, any_calls c l, eqv_tI]
    by_cases h : x = c
    · subst h; simp
    · have : ¬ c = x := fun z => h z.symm
      simp [h, this]
theorem Sh.lC (cs : List (List Int)) : Sh 2 (lC cs) := Sh.lst fun d hd => by
  obtain ⟨x, _, rfl⟩ := List.mem_map.mp hd
  exact Sh.tI x
theorem in_lC {neg : Bool} {c : List Int} {l : List (List Int)} : gIn neg (tI c) (lC l) = some (.fz (.bool (decide (c ∈ l) != neg))) := by
  show (if SeqAt.shaped (tI c) && SeqAt.shaped (lC l) then _ else _) = _
  rw [(Sh.tI c).shaped, (Sh.lC l).shaped, any_calls]; rfl

/-! the dict from numbers to names -/
def prs (ns : List Int) (nm : List Str) : List (D × D) := (ns.zip nm).map fun p => (.int p.1, .str p.2)
theorem pairs_zip (ns : List Int) (nm : List Str) : pairsD (zipD (ns.map .int) (nm.map .str)) = some (prs ns nm) := by
  unfold zipD prs
  rw [List.zip_map, List.map_map]
  generalize ns.zip nm = l
  induction l with
  | nil => rfl
  | cons p l ih =>
    show (pairsD (l.map _)).map _ = _
    rw [ih]; rfl
theorem dmerge_new : ∀ (l : List (Int × Str)) (acc : List (D × D)), (∀ p ∈ l, ∀ q ∈ acc, PyData.eqv q.1 (.int p.1) = false) → (l.map Prod.fst).Nodup → dmerge acc (l.map fun p => (.int p.1, .str p.2)) = acc ++ l.map fun p => (.int p.1, .str p.2)
  | [], acc, _, _ => by simp [dmerge]
  | p :: l, acc, h, hn => by
    have e : dset acc (.int p.1) (.str p.2) = acc ++ [(.int p.1, .str p.2)] := by
      unfold dset
      rw [if_neg]
      intro z
      obtain ⟨q, hq, hz⟩ := List.any_eq_true.mp z
      rw [h p List.mem_cons_self q hq] at hz
      cases hz
    show dmerge (dset acc (.int p.1) (.str p.2)) (l.map _) = _
    rw [e, dmerge_new l _ (fun p' hp' q hq => ?_) (List.nodup_cons.mp hn).2]
    · simp
    · rcases List.mem_append.mp hq with hq | hq
      · exact h p' (List.mem_cons_of_mem _ hp') q hq
      · rw [List.mem_singleton.mp hq]
        simp only [PyData.eqv]
        have : p.1 ≠ p'.1 := fun e => (List.nodup_cons.mp hn).1 (by rw [e]; exact List.mem_map_of_mem hp')
        simpa using this
theorem dmerge_prs {ns : List Int} {nm : List Str} (hn : ns.Nodup) (hl : ns.length = nm.length) : dmerge [] (prs ns nm) = prs ns nm := by
  unfold prs
  rw [dmerge_new _ _ (by simp)]
  · rfl
  · rw [List.map_fst_zip (by omega)]; exact hn
/-- the name of a number -/
def nameOf (ns : List Int) (nm : List Str) (k : Int) : Str := nm.getD (ns.idxOf k) ""
theorem dget_prs : ∀ {ns : List Int} {nm : List Str} {k : Int}, ns.length = nm.length → k ∈ ns → dget (prs ns nm) (.int k) = some (.str (nameOf ns nm k))
  | [], _, _, _, h => by cases h
  | n :: ns, [], _, hl, _ => by simp at hl
  | n :: ns, x :: nm, k, hl, h => by
    unfold dget prs
    rw [List.zip_cons_cons, List.map_cons, List.find?_cons]
    simp only [PyData.eqv]
    by_cases e : n = k
    · subst e
      simp [nameOf]
    · have hk : k ∈ ns := (List.mem_cons.mp h).resolve_left fun z => e z.symm
      have ih := dget_prs (nm := nm) (by simpa using hl) hk
      unfold dget prs at ih
      have : (n == k) = false := by simpa using e
      rw [this]
      simp only
      rw [ih]
      unfold nameOf
      rw [List.idxOf_cons, this]
      simp
theorem nameOf_mem {ns : List Int} {nm : List Str} {k : Int} (hl : ns.length = nm.length) (h : k ∈ ns) : nameOf ns nm k ∈ nm := by
  have := List.idxOf_lt_length_iff.mpr h
  unfold nameOf
  rw [List.getD_eq_getElem?_getD, List.getElem?_eq_getElem (by omega)]
  exact List.getElem_mem _
theorem nameOf_inj {ns : List Int} {nm : List Str} {k j : Int} (hl : ns.length = nm.length) (hn : nm.Nodup) (hk : k ∈ ns) (hj : j ∈ ns) (e : nameOf ns nm k = nameOf ns nm j) : k = j := by
  have h1 := List.idxOf_lt_length_iff.mpr hk
  have h2 := List.idxOf_lt_length_iff.mpr hj
  unfold nameOf at e
  rw [List.getD_eq_getElem?_getD, List.getD_eq_getElem?_getD, List.getElem?_eq_getElem (by omega), List.getElem?_eq_getElem (by omega)] at e
  have := (List.getElem_inj hn).mp (by simpa using e)
  have a := List.getElem_idxOf h1
  have b := List.getElem_idxOf h2
  rw [← a, ← b]
  congr 1
theorem sort_tS {l : List (List Str)} (h : ∀ c ∈ l, Nms c) : sortOk (l.map tS) = true := by
  have al : ∀ a b : List Str, PySem.W.alikeAll (a.map .str) (b.map .str) = true := by
    intro a
    induction a with
    | nil => intro b; simp [PySem.W.alikeAll]
    | cons x a ih =>
      intro b
      cases b with
      | nil => simp [PySem.W.alikeAll]
      | cons y b =>
        rw [List.map_cons, List.map_cons, PySem.W.alikeAll, ih b]
        simp [PySem.W.alike]
  unfold sortOk
  simp only [Bool.and_eq_true, Bool.or_eq_true, List.all_eq_true]
  refine ⟨⟨fun d hd e he => ?_, .inl fun d hd => ?_⟩, fun d hd => ?_⟩
  · obtain ⟨c, _, rfl⟩ := List.mem_map.mp hd
    obtain ⟨c', _, rfl⟩ := List.mem_map.mp he
    rw [PySem.W.alike]; exact al c c'
  · obtain ⟨c, _, rfl⟩ := List.mem_map.mp hd
    rfl
  · obtain ⟨c, hc, rfl⟩ := List.mem_map.mp hd
    exact (Sh.tS (h c hc)).shaped
theorem menu_nd : menu.Nodup := by decide +kernel
theorem map_inj_on {α β : Type} {f : α → β} : ∀ {a b : List α}, (∀ x ∈ a, ∀ y ∈ b, f x = f y → x = y) → a.map f = b.map f → a = b
  | [], [], _, _ => rfl
  | [], _ :: _, _, h => by simp at h
  | _ :: _, [], _, h => by simp at h
  | x :: a, y :: b, hi, h => by
    simp only [List.map_cons, List.cons.injEq] at h
    rw [hi x List.mem_cons_self y List.mem_cons_self h.1, map_inj_on (fun x hx y hy => hi x (List.mem_cons_of_mem _ hx) y (List.mem_cons_of_mem _ hy)) h.2]
theorem nodup_map_on {α β : Type} {f : α → β} {l : List α} (h : l.Nodup) (hi : ∀ x ∈ l, ∀ y ∈ l, f x = f y → x = y) : (l.map f).Nodup := by
  induction l with
  | nil => simp
  | cons x l ih =>
    rw [List.map_cons, List.nodup_cons]
    have hn := List.nodup_cons.mp h
    refine ⟨fun hm => ?_, ih hn.2 fun a ha b hb => hi a (List.mem_cons_of_mem _ ha) b (List.mem_cons_of_mem _ hb)⟩
    obtain ⟨y, hy, e⟩ := List.mem_map.mp hm
    have := hi y (List.mem_cons_of_mem _ hy) x List.mem_cons_self e
    subst this
    exact hn.1 hy
theorem idx_at {α : Type} [BEq α] [LawfulBEq α] : ∀ {l : List α} {i : Nat} {x : α}, l.Nodup → l[i]? = some x → l.idxOf x = i
  | [], i, x, _, h => by simp at h
  | y :: l, 0, x, _, h => by simp at h; subst h; simp
  | y :: l, i + 1, x, hn, h => by
    have h' : l[i]? = some x := by simpa using h
    have hy : (y == x) = false := by
      have := (List.nodup_cons.mp hn).1
      exact beq_eq_false_iff_ne.mpr fun e => this (e ▸ List.mem_of_getElem? h')
    rw [List.idxOf_cons, hy, idx_at (List.nodup_cons.mp hn).2 h']
    rfl
theorem idx_name {ns : List Int} {nm : List Str} {k : Int} (hl : ns.length = nm.length) (hn : nm.Nodup) (h : k ∈ ns) : nm.idxOf (nameOf ns nm k) = ns.idxOf k := by
  have hi := List.idxOf_lt_length_iff.mpr h
  refine idx_at hn ?_
  unfold nameOf
  rw [List.getD_eq_getElem?_getD, List.getElem?_eq_getElem (by omega)]
  rfl
theorem idx_lt {ns : List Int} (hs : ns.Pairwise (· < ·)) {a b : Int} (ha : a ∈ ns) (hb : b ∈ ns) (h : a < b) : ns.idxOf a < ns.idxOf b := by
  have h1 := List.idxOf_lt_length_iff.mpr ha
  have h2 := List.idxOf_lt_length_iff.mpr hb
  have e1 := List.getElem_idxOf h1
  have e2 := List.getElem_idxOf h2
  refine Nat.lt_of_not_le fun hle => ?_
  rcases Nat.lt_or_eq_of_le hle with hlt | heq
  · have := List.pairwise_iff_getElem.mp hs _ _ h2 h1 hlt
    rw [e1, e2] at this
    omega
  · have : ns[ns.idxOf b]? = ns[ns.idxOf a]? := by rw [heq]
    rw [List.getElem?_eq_getElem h1, List.getElem?_eq_getElem h2, e1, e2] at this
    cases this
    omega
/-- numbers and names make a house -/
theorem house_of {many calls : Nat} {ns : List Int} {nm : List Str} {kp : List (List Int)} {kc : List (List Str)} (hl : ns.length = nm.length) (hn : nm.Nodup) (hm : ∀ x ∈ nm, x ∈ menu) (hlm : ns.length ≤ many) (hkl : kp.length ≤ calls) (hkn : kp.Nodup) (hsn : ns.Pairwise (· < ·)) (hcp : ∀ c ∈ kp, c.Pairwise (· < ·))
    (hc : ∀ c ∈ kp, c ≠ [] ∧ c.Nodup ∧ ∀ k ∈ c, k ∈ ns) (hp : kc.Perm (kp.map fun c => c.map (nameOf ns nm))) : House many calls nm kc := by
  have each : ∀ c' ∈ kc, ∃ c ∈ kp, c' = c.map (nameOf ns nm) := fun c' h => by
    obtain ⟨c, h1, h2⟩ := List.mem_map.mp (hp.mem_iff.mp h)
    exact ⟨c, h1, h2.symm⟩
  refine ⟨hn, hm, by omega, ?_, fun c' h => ?_, fun c' h => ?_, fun c' h k hk => ?_, fun c' h => ?_, ?_⟩
  · have := hp.length_eq
    rw [List.length_map] at this
    omega
  · obtain ⟨c, hc', rfl⟩ := each c' h
    exact nodup_map_on (hc c hc').2.1 fun x hx y hy e => nameOf_inj hl hn ((hc c hc').2.2 x hx) ((hc c hc').2.2 y hy) e
  · obtain ⟨c, hc', rfl⟩ := each c' h
    simpa using (hc c hc').1
  · obtain ⟨c, hc', rfl⟩ := each c' h
    obtain ⟨j, hj, rfl⟩ := List.mem_map.mp hk
    exact nameOf_mem hl ((hc c hc').2.2 j hj)
  · obtain ⟨c, hc', rfl⟩ := each c' h
    rw [List.pairwise_map]
    refine List.Pairwise.imp_of_mem (fun {a b} ha hb hab => ?_) (hcp c hc')
    rw [idx_name hl hn ((hc c hc').2.2 a ha), idx_name hl hn ((hc c hc').2.2 b hb)]
    exact idx_lt hsn ((hc c hc').2.2 a ha) ((hc c hc').2.2 b hb) hab
  · refine hp.nodup_iff.mpr (nodup_map_on hkn fun a ha b hb e => ?_)
    exact map_inj_on (fun x hx y hy e => nameOf_inj hl hn ((hc a ha).2.2 x hx) ((hc b hb).2.2 y hy) e) e
end G
end
section
set_option Elab.async false
set_option linter.all false
set_option maxRecDepth 100000
/-! M28i: houses with names. -/
namespace G
open PySem DL

theorem len_list (l : List D) : gLen [.list l] = some (.fz (.int l.length)) := rfl
theorem cut_strs (l : List Str) (n : Nat) : cutD (l.map .str) none (some (n : Int)) = (l.take n).map .str := by rw [cut_to, List.map_take]
theorem serves__law_named : Serves N__law_named ps__law_named t__law_named sp__law_named := by
  rintro args R ⟨d, many, m, cs, calls, bd, hm, hm', ⟨hne, hlm, hcs⟩, hm2, hc, hc', rfl, hR⟩
  refine ⟨rfl, rfl, ?_⟩
  unfold t__law_named
  ((try dsimp only); refine st_seq ?_)
  refine st_set (ev_lst ev_nil rfl (by decide)) rfl rfl ?_
  ((try dsimp only); refine st_seq ?_)
  obtain ⟨cn, rfl⟩ := Int.eq_ofNat_of_zero_le (show 0 ≤ calls by omega)
  refine for_inv (evi_seq (d := lC cs) (ds := cs.map tI) (o := .fz (lC cs)) (ev_var rfl) rfl rfl) (fun pre e => ∃ (kp : List (List Int)) (s5 : Slot), kp.Nodup ∧ (∀ c ∈ kp, c ∈ cs) ∧ kp.length ≤ cn ∧ fr s5 ∧ e = [.ow true d, .fz (.int many), .fz (lC cs), .fz (.int cn), .ow false (lC kp), s5, .un, .un, .un, .un, .un]) ⟨[], .un, by simp, by simp, by simp, fr.un, rfl⟩ ?_ ?_
  · rintro pre x post e E1 hi ⟨kp, s5, hnd, hin, hkl, f5, rfl⟩ nx _ _ _
    obtain ⟨hx, hpl⟩ := split_at hi
    obtain ⟨c, hcm, rfl⟩ := List.mem_map.mp (List.mem_of_getElem? hx)
    refine ⟨f5.pin rfl, ?_⟩
    refine st_if (evt_and (x := decide (c ∈ kp) != true) (y := decide ((kp.length : Int) < cn)) (evt_val (ev_bin (ev_var rfl) (ev_own rfl) rfl rfl in_lC)) (evt_val (ev_bin (ev_B (ev_cons (ev_own rfl) ev_nil) rfl (len_list _)) (ev_var rfl) rfl rfl ?_))) (fun hb => ?_) (fun _ => nx _ ⟨kp, _, hnd, hin, hkl, fr.fz, rfl⟩)
    · rw [List.length_map]; rfl
    · rw [Bool.and_eq_true] at hb
      have h1 : c ∉ kp := by simpa using hb.1
      have h2 : kp.length < cn := by have := of_decide_eq_true hb.2; omega
      refine st_drop (o := .fz .none) (ev_mut rfl (ev_cons (ev_var rfl) ev_nil) rfl rfl (append_ok (by rw [List.length_map]; show _ < 2 ^ 24; omega)) rfl) ?_
      refine nx _ ⟨kp ++ [c], .fz (tI c), List.nodup_append.mpr ⟨hnd, by simp, fun a ha b hb => by rw [List.mem_singleton.mp hb]; exact fun e => h1 (e ▸ ha)⟩, fun z hz => (List.mem_append.mp hz).elim (hin z) fun h => by rw [List.mem_singleton.mp h]; exact hcm, by rw [List.length_append, List.length_singleton]; omega, fr.fz, ?_⟩
      rw [show lC (kp ++ [c]) = .list (kp.map tI ++ [tI c]) by rw [show lC (kp ++ [c]) = .list ((kp ++ [c]).map tI) from rfl, List.map_append]; rfl]
      rfl
  rintro e ⟨kp, s5, hnd, hin, hkl, f5, rfl⟩
  dsimp only
  unfold sFrz
  dsimp only [List.getElem?_cons_succ, List.getElem?_cons_zero, List.set_cons_succ, List.set_cons_zero]
  -- the numbers in use
  have hkl2 : kp.length ≤ 100 := by omega
  have inner : ∀ (k : Int), Ev (dLc [5] (iSeq (dVar 4)) (gN 5) (bVal (dBin (gIn false) (dVar 10) (dVar 5))) (dVar 5)) [.ow true d, .fz (.int many), .fz (lC cs), .fz (.int cn), .fz (lC kp), s5, .un, .un, .un, .un, .fz (.int k)] (.nw (lC (kp.filter fun c => decide (k ∈ c)))) [.ow true d, .fz (.int many), .fz (lC cs), .fz (.int cn), .fz (lC kp), s5, .un, .un, .un, .un, .fz (.int k)] := fun k => by
    have := ev_lc (te := dVar 5) (tt := bVal (dBin (gIn false) (dVar 10) (dVar 5))) (env := [.ow true d, .fz (.int many), .fz (lC cs), .fz (.int cn), .fz (lC kp), s5, .un, .un, .un, .un, .fz (.int k)]) (items := kp.map tI) (evi_seq (d := lC kp) (o := .fz (lC kp)) (ev_var (i := 4) rfl) rfl rfl) trivial (by rw [List.length_map]; show _ ≤ 2 ^ 24; omega) (i := 5) (f5.ow rfl) (fun d => match gIn false (.int k) d with | some (.fz (.bool b)) => b | _ => false) id (fun d hd => by
      obtain ⟨c, hc, rfl⟩ := List.mem_map.mp hd
      refine evt_val (ev_bin (ev_var rfl) (ev_var rfl) rfl rfl ?_)
      rw [in_ti]) (fun d hd _ => ⟨_, ev_var rfl, rfl⟩)
    have e : ∀ l : List (List Int), (l.map tI).filter (fun d => match gIn false (.int k) d with | some (.fz (.bool b)) => b | _ => false) = (l.filter fun c => decide (k ∈ c)).map tI := by
      intro l
      induction l with
      | nil => rfl
      | cons c l ih =>
        rw [List.map_cons, List.filter_cons, List.filter_cons, ih, in_ti]
        by_cases h : k ∈ c <;> simp [h]
    rw [List.map_id, e] at this
    exact this
  generalize hns : ((ups many.toNat).filter fun k => !((kp.filter fun c => decide (k ∈ c)).isEmpty)) = ns
  have nsr : ∀ k ∈ ns, 0 ≤ k ∧ k < many := fun k hk => by
    rw [← hns] at hk
    have := ups_mem.mp (List.mem_filter.mp hk).1
    omega
  have nsn : ns.Nodup := by
    rw [← hns]
    exact ((ups_pw many.toNat).imp fun h => by omega : (ups many.toNat).Nodup).filter _
  have nsp : ns.Pairwise (· < ·) := by
    rw [← hns]
    exact (ups_pw many.toNat).filter _
  have nsl : ns.length ≤ many.toNat := by
    rw [← hns]
    have := List.length_filter_le (fun k => !((kp.filter fun c => decide (k ∈ c)).isEmpty)) (ups many.toNat)
    rw [ups_len] at this
    exact this
  have nsc : ∀ c ∈ kp, c ≠ [] ∧ c.Nodup ∧ ∀ k ∈ c, k ∈ ns := fun c hc => by
    obtain ⟨h1, h2, h3⟩ := hcs c (hin c hc)
    refine ⟨h1, h2.imp fun h => by omega, fun k hk => ?_⟩
    rw [← hns]
    refine List.mem_filter.mpr ⟨ups_mem.mpr (by have := h3 k hk; omega), ?_⟩
    have : (kp.filter fun c => decide (k ∈ c)) ≠ [] := List.ne_nil_of_mem (List.mem_filter.mpr ⟨hc, decide_eq_true hk⟩)
    simpa using this
  have numbers : Ev (dLc [10] (iR1 (dVar 1)) (gN 10) (bVal (dBin gNe (dLc [5] (iSeq (dVar 4)) (gN 5) (bVal (dBin (gIn false) (dVar 10) (dVar 5))) (dVar 5)) (dLst aNil))) (dVar 10)) [.ow true d, .fz (.int many), .fz (lC cs), .fz (.int cn), .fz (lC kp), s5, .un, .un, .un, .un, .un] (.nw (.list (ns.map .int))) [.ow true d, .fz (.int many), .fz (lC cs), .fz (.int cn), .fz (lC kp), s5, .un, .un, .un, .un, .un] := by
    have hi : EvI (iR1 (dVar 1)) [.ow true d, .fz (.int many), .fz (lC cs), .fz (.int cn), .fz (lC kp), s5, .un, .un, .un, .un, .un] ((ups many.toNat).map .int) none [.ow true d, .fz (.int many), .fz (lC cs), .fz (.int cn), .fz (lC kp), s5, .un, .un, .un, .un, .un] := by
      rw [← rngD_ups]; exact evi_r1 (ev_var (i := 1) rfl) (by omega) (by omega)
    have := ev_lc (te := dVar 10) (tt := bVal (dBin gNe (dLc [5] (iSeq (dVar 4)) (gN 5) (bVal (dBin (gIn false) (dVar 10) (dVar 5))) (dVar 5)) (dLst aNil))) (items := (ups many.toNat).map .int) hi trivial (by rw [List.length_map, ups_len]; show _ ≤ 2 ^ 24; omega) (i := 10) rfl (intP fun k => !((kp.filter fun c => decide (k ∈ c)).isEmpty)) id (fun d hd => by
      obtain ⟨k, hk, rfl⟩ := List.mem_map.mp hd
      refine evt_val (ev_bin (inner k) (ev_lst ev_nil rfl (by decide)) rfl rfl ?_)
      rw [ne_of' (Sh.lC _) (Sh.lst (n := 0) (ds := []) (by simp)), eqv_nil, List.isEmpty_map]
      rfl) (fun d hd _ => ⟨_, ev_var rfl, rfl⟩)
    rw [List.map_id, filter_intP, hns] at this
    exact this
  ((try dsimp only); refine st_seq ?_)
  refine st_setF numbers rfl rfl ?_
  ((try dsimp only); refine st_seq ?_)
  have hmenu : valsO [.fz (.str "a"), .fz (.str "b"), .fz (.str "c"), .fz (.str "d"), .fz (.str "e"), .fz (.str "ab"), .fz (.str "ba"), .fz (.str "zz"), .fz (.str "call"), .fz (.str "put"), .fz (.str "drop"), .fz (.str "kinds"), .fz (.str "abcdef"), .fz (.str "x"), .fz (.str "zzzzzz")] = some (menu.map .str) := rfl
  refine st_setF (o := .nw (lS menu)) (ev_lst (ev_cons ev_c (ev_cons ev_c (ev_cons ev_c (ev_cons ev_c (ev_cons ev_c (ev_cons ev_c (ev_cons ev_c (ev_cons ev_c (ev_cons ev_c (ev_cons ev_c (ev_cons ev_c (ev_cons ev_c (ev_cons ev_c (ev_cons ev_c (ev_cons ev_c ev_nil))))))))))))))) hmenu (by rw [List.length_map]; show 15 ≤ 2 ^ 24; decide)) rfl rfl ?_
  ((try dsimp only); refine st_seq ?_)
  -- the end, whatever the names are
  have rest : ∀ (nm : List Str) (d' : D), nm.Nodup → (∀ x ∈ nm, x ∈ menu) → ns.length = nm.length → isBag d' →
      (sSeq (sSetF 9 (dB gDict (aCons (dLZip (dVar 6) (dVar 8)) aNil)))
        (sRet (dTup (aCons (dB gTuple (aCons (dVar 8) aNil)) (aCons (dB gTuple (aCons (dB gSorted (aCons (dLc [5] (iSeq (dVar 4)) (gN 5) bYes (dB gTuple (aCons (dLc [10] (iSeq (dVar 5)) (gN 10) bYes (dBin gIx (dVar 9) (dVar 10))) aNil))) aNil)) aNil)) aNil))))) [.ow true d', .fz (.int many), .fz (lC cs), .fz (.int cn), .fz (lC kp), s5, .fz (.list (ns.map .int)), .fz (lS menu), .fz (lS nm), .un, .un] (fnEnds [.ow true d, .fz (.int many), .fz (lC cs), .fz (.int cn)] R) := fun nm d' nmn nmm hl bb => by
    ((try dsimp only); refine st_seq ?_)
    refine st_setF (o := .nw (.dict (prs ns nm))) (ev_B (os := [.nw (.list (zipD (ns.map .int) (nm.map .str)))]) (ev_cons (fun Q q => ev_var rfl _ (ev_var rfl _ ⟨_, _, _, _, rfl, rfl, rfl, rfl, q⟩)) ev_nil) rfl ?_) rfl rfl ?_
    · show (pairsD _).map _ = _
      rw [pairs_zip]
      show some (O.nw (.dict (dmerge [] (prs ns nm)))) = _
      rw [dmerge_prs nsn hl]
    dsimp only
    have hnl : nm.length ≤ 15 := by omega
    have cln : ∀ c ∈ kp, c.length ≤ 15 := fun c hc => by
      have := List.Nodup.length_le_of_subset (nsc c hc).2.1 (nsc c hc).2.2
      omega
    have row : ∀ c ∈ kp, Ev (dB gTuple (aCons (dLc [10] (iSeq (dVar 5)) (gN 10) bYes (dBin gIx (dVar 9) (dVar 10))) aNil)) [.ow true d', .fz (.int many), .fz (lC cs), .fz (.int cn), .fz (lC kp), .fz (tI c), .fz (.list (ns.map .int)), .fz (lS menu), .fz (lS nm), .fz (.dict (prs ns nm)), .un] (.fz (tS (c.map (nameOf ns nm)))) [.ow true d', .fz (.int many), .fz (lC cs), .fz (.int cn), .fz (lC kp), .fz (tI c), .fz (.list (ns.map .int)), .fz (lS menu), .fz (lS nm), .fz (.dict (prs ns nm)), .un] := fun c hc => by
      have hcl := cln c hc
      refine ev_B (ev_cons (ev_lc (items := c.map .int) (evi_seq (d := tI c) (o := .fz (tI c)) (ev_var rfl) rfl rfl) trivial (by rw [List.length_map]; show _ ≤ 2 ^ 24; omega) rfl (fun _ => true) (intF fun k => .str (nameOf ns nm k)) (fun d hd => evt_yes) (fun d hd _ => ?_)) ev_nil) rfl ?_
      · obtain ⟨k, hk, rfl⟩ := List.mem_map.mp hd
        refine ⟨.fz (.str (nameOf ns nm k)), ev_bin (ev_var rfl) (ev_var rfl) rfl rfl ?_, rfl⟩
        show (dget (prs ns nm) (.int k)).map O.fz = _
        rw [dget_prs hl ((nsc c hc).2.2 k hk)]
        rfl
      · rw [List.filter_eq_self.mpr (fun _ _ => rfl), map_intF]
        show some (O.fz (.tuple (c.map fun k => .str (nameOf ns nm k)))) = some (O.fz (.tuple ((c.map (nameOf ns nm)).map .str)))
        rw [List.map_map]; rfl
    have hk2 : Nms menu := menu_ok
    generalize hkp : kp.map (fun c => c.map (nameOf ns nm)) = kp'
    have kpn : ∀ c' ∈ kp', Nms c' := fun c' hc' x hx => by
      rw [← hkp] at hc'
      obtain ⟨c, hc, rfl⟩ := List.mem_map.mp hc'
      obtain ⟨k, hk, rfl⟩ := List.mem_map.mp hx
      exact menu_ok _ (nmm _ (nameOf_mem hl ((nsc c hc).2.2 k hk)))
    obtain ⟨kc, hkc, hperm⟩ := unmap (f := tS) unT unT_tS (sortD_perm (kp'.map tS))
    have house := house_of (many := many.toNat) (calls := cn) hl nmn nmm nsl hkl hnd nsp (fun c hc => (hcs c (hin c hc)).2.1) nsc (hkp ▸ hperm)
    refine st_ret (o := .fz (hD nm kc)) (ev_tup (ds := [tS nm, .tuple (kc.map tS)]) (ev_cons (ev_B (o := .fz (tS nm)) (ev_cons (ev_var rfl) ev_nil) rfl rfl) (ev_cons (ev_B (o := .fz (.tuple (kc.map tS))) (ev_cons (ev_B (o := .nw (.list (kc.map tS))) (ev_cons (ev_lc (items := kp.map tI) (evi_seq (d := lC kp) (o := .fz (lC kp)) (ev_var rfl) rfl rfl) trivial (by rw [List.length_map]; show _ ≤ 2 ^ 24; omega) (f5.ow rfl) (fun _ => true) (fun d => match d with | .tuple ds => tS (ds.map fun z => match z with | .int k => nameOf ns nm k | _ => "") | d => d) (fun d hd => evt_yes) (fun d hd _ => ?_)) ev_nil) rfl ?_) ev_nil) rfl rfl) ev_nil)) rfl (by show 2 ≤ 2 ^ 24; decide)) ⟨_, rfl, hR nm kc d' house bb⟩
    · obtain ⟨c, hc, rfl⟩ := List.mem_map.mp hd
      refine ⟨_, row c hc, ?_⟩
      show some (tS (c.map (nameOf ns nm))) = some (tS ((c.map PyData.int).map fun z => match z with | .int k => nameOf ns nm k | _ => ""))
      rw [List.map_map]; rfl
    · rw [List.filter_eq_self.mpr (fun _ _ => rfl)]
      have e : (kp.map tI).map (fun d => match d with | .tuple ds => tS (ds.map fun z => match z with | .int k => nameOf ns nm k | _ => "") | d => d) = kp'.map tS := by
        rw [← hkp, List.map_map, List.map_map]
        refine List.map_congr_left fun c hc => ?_
        show tS ((c.map PyData.int).map fun z => match z with | .int k => nameOf ns nm k | _ => "") = tS (c.map (nameOf ns nm))
        rw [List.map_map]; rfl
      rw [e, sorted_ok (sort_tS kpn), hkc]
  refine u_setF (u_if (u_val (u_bin ?_)))
  refine take_ev (ev_cons (ev_own rfl) (ev_cons ev_c ev_nil)) rfl bd (by decide) (by decide) fun r d' h1 h2 b' => ?_
  refine ev_c _ ⟨_, _, _, rfl, rfl, rfl, decide (0 < r), rfl, ?_⟩
  have hlen : ns.length ≤ 15 := by omega
  split
  · refine u_sl ?_
    refine mixed_ev (o := .fz (lS menu)) (ev_cons (ev_own rfl) (ev_cons (ev_var rfl) ev_nil)) rfl b' (.inl rfl) rfl (by rw [List.length_map]; decide) fun mx d'' hp bb => ?_
    obtain ⟨nm, rfl, hperm⟩ := unmap (f := PyData.str) unS unS_str hp
    refine u_no (u_at (ev_B (ev_cons (ev_var rfl) ev_nil) rfl (len_list _) _ ⟨_, rfl, .nw (lS (nm.take ns.length)), ?_, ?_⟩))
    · show some (O.nw (.list (cutD (nm.map .str) none (some ((ns.map PyData.int).length : Int))))) = _
      rw [List.length_map, cut_strs]
    · refine ⟨_, rfl, rfl, ?_⟩
      refine rest (nm.take ns.length) d'' ((hperm.nodup_iff.mpr menu_nd).sublist (List.take_sublist _ _)) (fun x hx => hperm.mem_iff.mp (List.take_subset _ _ hx)) ?_ bb
      rw [List.length_take, hperm.length_eq]
      show ns.length = min ns.length 15
      omega
  · refine u_sl (ev_var rfl _ (u_no (u_at (ev_B (ev_cons (ev_var rfl) ev_nil) rfl (len_list _) _ ⟨_, rfl, .nw (lS (menu.take ns.length)), ?_, ?_⟩))))
    · show some (O.nw (.list (cutD (menu.map .str) none (some ((ns.map PyData.int).length : Int))))) = _
      rw [List.length_map, cut_strs]
    · refine ⟨_, rfl, rfl, ?_⟩
      refine rest (menu.take ns.length) d' (menu_nd.sublist (List.take_sublist _ _)) (fun x hx => List.take_subset _ _ hx) ?_ b'
      rw [List.length_take]
      show ns.length = min ns.length 15
      omega
end G
end
section
set_option Elab.async false
set_option linter.all false
set_option maxRecDepth 100000
/-! M28j: the houses that the script gives. -/
namespace G
open PySem DL

theorem okC.mono {n n' : Int} {c : List Int} (h : okC n c) (hn : n ≤ n') : okC n' c := ⟨h.1, h.2.1, fun x hx => by have := h.2.2 x hx; omega⟩
theorem okCs.mono {n n' : Int} {m m' : Nat} {cs : List (List Int)} (h : okCs n m cs) (hn : n ≤ n') (hm : m ≤ m') : okCs n' m' cs := ⟨h.1, Nat.le_trans h.2.1 hm, fun c hc => (h.2.2 c hc).mono hn⟩
theorem any_ev {ta : DA} {env : SEnv} {p : Bool} {d : D} {many calls : Int} {i : Nat} {Q : O → SEnv → Prop} (h : EvA ta env [.al i, .fz (.int many), .fz (.int calls)] env) (hb : env[i]? = some (.ow p d)) (bd : isBag d) (h1 : 1 ≤ many) (h2 : many ≤ 15) (h3 : 1 ≤ calls) (h4 : calls ≤ 100)
    (k : ∀ cs d', okCs many calls.toNat cs → isBag d' → Q (.nw (lC cs)) (env.set i (.ow p d'))) : dCall sp__law_paths ta env Q :=
  bag_call h hb rfl rfl fun R hR => ⟨d, many, calls, bd, h1, h2, h3, h4, rfl, fun cs d' a b => hR _ d' rfl (k cs d' a b)⟩
theorem serves__law_house : Serves N__law_house ps__law_house t__law_house sp__law_house := by
  rintro args R ⟨d, kinds, calls, bd, hk, hk', hc, hc', rfl, hR⟩
  refine ⟨rfl, rfl, ?_⟩
  unfold t__law_house
  ((try dsimp only); refine st_seq ?_)
  refine u_par (u_B (u_cons (ev_var rfl _ (u_cons ?_))))
  refine one_ev (o := .nw (.list [.int 2, .int 3, .int 1, .int 4, .int 3, .int kinds, .int 5, .int 2])) (ev_cons (ev_own rfl) (ev_cons (ev_lst (ds := [.int 2, .int 3, .int 1, .int 4, .int 3, .int kinds, .int 5, .int 2]) (ev_cons ev_c (ev_cons ev_c (ev_cons ev_c (ev_cons ev_c (ev_cons ev_c (ev_cons (ev_var rfl) (ev_cons ev_c (ev_cons ev_c ev_nil)))))))) rfl (by show 8 ≤ 2 ^ 24; decide)) ev_nil)) rfl bd (.inr rfl) rfl (by simp) (by show 8 < 2 ^ 24; decide) fun x d1 hx b1 => ?_
  obtain ⟨y, rfl, hy⟩ : ∃ y : Int, x = .int y ∧ 1 ≤ y := by
    simp only [List.mem_cons, List.not_mem_nil, or_false] at hx
    rcases hx with rfl | rfl | rfl | rfl | rfl | rfl | rfl | rfl
    · exact ⟨2, rfl, by decide⟩
    · exact ⟨3, rfl, by decide⟩
    · exact ⟨1, rfl, by decide⟩
    · exact ⟨4, rfl, by decide⟩
    · exact ⟨3, rfl, by decide⟩
    · exact ⟨kinds, rfl, hk⟩
    · exact ⟨5, rfl, by decide⟩
    · exact ⟨2, rfl, by decide⟩
  obtain ⟨many, hmany, hm, hm'⟩ : ∃ many : Int, (if y < kinds then y else kinds) = many ∧ 1 ≤ many ∧ many ≤ kinds := by
    refine ⟨_, rfl, ?_, ?_⟩ <;> split <;> omega
  refine u_nil ⟨_, _, rfl, (show gMin [.int kinds, .int y] = some (.fz (.int many)) by rw [← hmany]; rfl), ?_⟩
  refine take_ev (ev_cons (ev_own rfl) (ev_cons ev_c ev_nil)) rfl b1 (by decide) (by decide) fun way d2 h1 h2 b2 => ?_
  refine ⟨_, _, rfl, rfl, rfl, rfl, ?_⟩
  unfold sFrz
  dsimp only [List.set_cons_succ, List.set_cons_zero, List.getElem?_cons_succ, List.getElem?_cons_zero, List.append_eq, List.nil_append, List.cons_append, List.replicate]
  -- the end
  have tail : ∀ (cs : List (List Int)) (m : Nat) (d' : D) (s6 s7 : DL.Slot), okCs many m cs → m ≤ 110 → isBag d' → sRet (dCall sp__law_named (aCons (dVar 0) (aCons (dVar 3) (aCons (dVar 5) (aCons (dVar 2) aNil))))) [.ow true d', .fz (.int kinds), .fz (.int calls), .fz (.int many), .fz (.int way), .fz (lC cs), s6, s7] (fnEnds [.ow true d, .fz (.int kinds), .fz (.int calls)] R) := fun cs m d' s6 s7 ok hml bb => by
    refine u_ret ?_
    refine bag_call (i := 0) (ss := [.fz (.int many), .fz (lC cs), .fz (.int calls)]) (os := [.fz (.int many), .fz (lC cs), .fz (.int calls)]) (ev_cons (ev_own rfl) (ev_cons (ev_var rfl) (ev_cons (ev_var rfl) (ev_cons (ev_var rfl) ev_nil)))) rfl rfl rfl fun R' hR' => ⟨d', many, m, cs, calls, bb, hm, by omega, ok, hml, hc, hc', rfl, fun ks kc d'' hh b'' => hR' _ d'' rfl ⟨_, rfl, hR ks kc d'' (hh.mono (by omega) (Nat.le_refl _)) b''⟩⟩
  ((try dsimp only); refine st_seq ?_)
  refine st_if (evt_val (ev_bin (ev_var rfl) ev_c rfl rfl rfl)) (fun _ => ?_) (fun hw => ?_)
  · ((try dsimp only); refine st_seq ?_)
    refine u_setF ?_
    refine any_ev (i := 0) (ev_cons (ev_own rfl) (ev_cons (ev_var rfl) (ev_cons (ev_var rfl) ev_nil))) rfl b2 hm (by omega) hc hc' fun cs d3 ok b3 => ?_
    refine ⟨_, rfl, rfl, ?_⟩
    dsimp only
    have hit : EvI (iR1 (dBin gMul (dC (.int 4)) (dB gInt (aCons (dAnd (dBin gGt (dVar 4) (dC (.int 3))) (dBin gGt (dVar 3) (dC (.int 1)))) aNil)))) [.ow true d3, .fz (.int kinds), .fz (.int calls), .fz (.int many), .fz (.int way), .fz (lC cs), .un, .un] (rngD 0 (4 * (if (decide (3 < way) && decide (1 < many)) = true then 1 else 0) : Int).toNat) none [.ow true d3, .fz (.int kinds), .fz (.int calls), .fz (.int many), .fz (.int way), .fz (lC cs), .un, .un] :=
      evi_r1 (ev_bin ev_c (ev_B (ev_cons (ev_and (ev_bin (ev_var rfl) ev_c rfl rfl rfl) (ev_bin (ev_var rfl) ev_c rfl rfl rfl)) ev_nil) rfl rfl) rfl rfl (mul_l (by decide))) (by split <;> decide) (by split <;> decide)
    refine for_inv hit (fun pre e => ∃ (cs : List (List Int)) (d' : D) (s6 : DL.Slot), okCs many (calls.toNat + pre.length) cs ∧ isBag d' ∧ fr s6 ∧ e = [.ow true d', .fz (.int kinds), .fz (.int calls), .fz (.int many), .fz (.int way), .fz (lC cs), s6, .un]) ⟨cs, d3, .un, ok, b3, fr.un, rfl⟩ ?_ ?_
    · rintro pre x post e E1 hi ⟨cs, d', s6, ok, bb, f6, rfl⟩ nx _ _ _
      obtain ⟨hx, hpl⟩ := split_at hi
      rw [rngD_len] at hpl
      have hpl4 : pre.length < 4 := by
        have : (4 * (if (decide (3 < way) && decide (1 < many)) = true then 1 else 0) : Int).toNat ≤ 4 := by split <;> decide
        omega
      refine ⟨f6.pin rfl, ?_⟩
      have hcall : EvA (aCons (dTup (aCons (dTup aNil) (aCons (dVar 5) aNil))) aNil) [.ow true d', .fz (.int kinds), .fz (.int calls), .fz (.int many), .fz (.int way), .fz (lC cs), .fz x, .un] [.fz (.tuple [.tuple [], lC cs])] [.ow true d', .fz (.int kinds), .fz (.int calls), .fz (.int many), .fz (.int way), .fz (lC cs), .fz x, .un] := ev_cons (ev_tup (ev_cons (ev_tup ev_nil rfl (by decide)) (ev_cons (ev_var rfl) ev_nil)) rfl (by show 2 ≤ 2 ^ 24; decide)) ev_nil
      refine (show sIf _ _ _ _ _ from ?_)
      unfold sIf
      refine u_val (u_bin (hcall _ ⟨_, rfl, by simp [alsO], .inl ⟨cs, calls.toNat + pre.length, ok.mono (by omega) (Nat.le_refl _), by omega, rfl, fun fs hfs => ⟨rfl, ?_⟩⟩⟩))
      refine ev_lst ev_nil rfl (by decide) _ ⟨_, _, _, rfl, rfl, eq_of (Sh.lst hfs) (Sh.lst (n := 0) (ds := []) (by simp)), _, rfl, ?_⟩
      split
      · refine u_setF ?_
        refine bag_call (i := 0) (p := true) (d := d') (ss := [.fz (.int many), .fz (lC cs)]) (os := [.fz (.int many), .fz (lC cs)]) (ev_cons (ev_own rfl) (ev_cons (ev_var rfl) (ev_cons (ev_var rfl) ev_nil))) rfl rfl rfl fun R' hR' => ⟨d', many, calls.toNat + pre.length, cs, bb, hm, by omega, ok, by omega, rfl, fun cs' d'' ok' b'' => hR' _ d'' rfl ⟨_, rfl, rfl, nx _ ⟨cs', d'', .fz x, ok'.mono (Int.le_refl _) (by rw [List.length_append, List.length_singleton]; omega), b'', fr.fz, rfl⟩⟩⟩
      · exact nx _ ⟨cs, d', .fz x, ok.mono (Int.le_refl _) (by rw [List.length_append, List.length_singleton]; omega), bb, fr.fz, rfl⟩
    · rintro e ⟨cs, d', s6, ok, bb, f6, rfl⟩
      rw [rngD_len] at ok
      have : (4 * (if (decide (3 < way) && decide (1 < many)) = true then 1 else 0) : Int).toNat ≤ 4 := by split <;> decide
      exact tail cs _ d' s6 .un ok (by omega) bb
  · refine st_if (evt_and (evt_val (ev_bin (ev_var rfl) ev_c rfl rfl eq_int)) (evt_val (ev_bin (ev_var rfl) ev_c rfl rfl rfl))) (fun hb => ?_) (fun _ => ?_)
    · rw [Bool.and_eq_true] at hb
      have h2m : 1 < many := of_decide_eq_true hb.2
      ((try dsimp only); refine st_seq ?_)
      refine u_setF (u_B (u_cons (u_sl ?_)))
      refine mixed_ev (i := 0) (o := .nw (.list (rngD 0 many.toNat))) (ev_cons (ev_own rfl) (ev_cons (fun Q q => ev_var rfl _ ⟨many, rfl, L2.RgOk.of_le (by omega) (by omega) (by omega) (by omega), q⟩) ev_nil)) rfl b2 (.inr rfl) rfl (by rw [rngD_len]; omega) fun mx d3 hp b3 => ?_
      rw [rngD_ups] at hp
      obtain ⟨mi, rfl, hperm⟩ := unmap (f := PyData.int) (fun d => match d with | .int i => i | _ => 0) (fun _ => rfl) hp
      have hml := hperm.length_eq
      rw [ups_len] at hml
      obtain ⟨l', e1, e2, e3⟩ := sortD_ints (mi.take 2)
      have mnd : mi.Nodup := hperm.nodup_iff.mpr ((ups_pw many.toNat).imp fun h => by omega)
      have e4 := e3 (mnd.sublist (List.take_sublist _ _))
      have hl2 : l'.length = 2 := by
        rw [e2.length_eq, List.length_take]; omega
      obtain ⟨a, b, rfl⟩ : ∃ a b, l' = [a, b] := by
        match l', hl2 with
        | [a, b], _ => exact ⟨a, b, rfl⟩
      have hr : ∀ z ∈ [a, b], 0 ≤ z ∧ z < many := fun z hz => by
        have := ups_mem.mp (hperm.mem_iff.mp (List.take_subset _ _ (e2.mem_iff.mp hz)))
        omega
      have hab : a < b := by simpa using e4
      refine u_no (u_at (ev_c _ ⟨2, rfl, .nw (.list ((mi.take 2).map .int)), ?_, ?_⟩))
      · show some (O.nw (.list (cutD (mi.map .int) none (some ((2 : Nat) : Int))))) = _
        rw [cut_to, List.map_take]
      refine u_nil ⟨_, _, rfl, sorted_ok (sort_ints _), _, rfl, rfl, ?_⟩
      rw [e1]
      dsimp only
      refine u_setF (u_bin ?_)
      refine (ev_lst (ds := [tI [a, b], tI [a], tI [b]]) (ev_cons (ev_B (o := .fz (tI [a, b])) (ev_cons (ev_var rfl) ev_nil) rfl rfl) (ev_cons (ev_tup (ds := [.int a]) (ev_cons (ev_bin (ev_var rfl) ev_c rfl rfl rfl) ev_nil) rfl (by show 1 ≤ 2 ^ 24; decide)) (ev_cons (ev_tup (ds := [.int b]) (ev_cons (ev_bin (ev_var rfl) ev_c rfl rfl rfl) ev_nil) rfl (by show 1 ≤ 2 ^ 24; decide)) ev_nil))) rfl (by show 3 ≤ 2 ^ 24; decide)) _ ?_
      refine any_ev (i := 0) (calls := 2) (ev_cons (ev_own rfl) (ev_cons (ev_var rfl) (ev_cons ev_c ev_nil))) rfl b3 hm (by omega) (by decide) (by decide) fun cs d4 ok b4 => ?_
      have hlc := ok.2.1
      refine ⟨.list [tI [a, b], tI [a], tI [b]], lC cs, .nw (lC ([a, b] :: [a] :: [b] :: cs)), rfl, rfl, ?_, _, rfl, rfl, ?_⟩
      · rw [add_lists (by rw [List.length_map]; show 3 + _ ≤ 2 ^ 24; have : (2 : Int).toNat = 2 := rfl; omega)]; rfl
      · refine tail ([a, b] :: [a] :: [b] :: cs) 5 d4 .un _ ⟨by simp, by simp only [List.length_cons]; have : (2 : Int).toNat = 2 := rfl; omega, fun c hc => ?_⟩ (by decide) b4
        have ha := hr a (by simp)
        have hb' := hr b (by simp)
        rcases List.mem_cons.mp hc with rfl | hc
        · exact ⟨by simp, by simpa using hab, hr⟩
        rcases List.mem_cons.mp hc with rfl | hc
        · exact ⟨by simp, by simp, fun z hz => by rw [List.mem_singleton.mp hz]; exact ha⟩
        rcases List.mem_cons.mp hc with rfl | hc
        · exact ⟨by simp, by simp, fun z hz => by rw [List.mem_singleton.mp hz]; exact hb'⟩
        · exact ok.2.2 c hc
    · refine u_setF ?_
      refine any_ev (i := 0) (ev_cons (ev_own rfl) (ev_cons (ev_var rfl) (ev_cons (ev_var rfl) ev_nil))) rfl b2 hm (by omega) hc hc' fun cs d3 ok b3 => ?_
      exact ⟨_, rfl, rfl, tail cs _ d3 .un .un ok (by omega) b3⟩
end G
end
section
set_option Elab.async false
set_option linter.all false
set_option maxRecDepth 100000
/-! M28k: what is shown. -/
namespace G
open PySem DL

def Tx (n : Nat) (t : Str) : Prop := PyData.strOk t = true ∧ t.length ≤ n
theorem Tx.mono {n m : Nat} {t : Str} (h : Tx n t) (hm : n ≤ m) : Tx m t := ⟨h.1, Nat.le_trans h.2 hm⟩
theorem Tx.app {n m : Nat} {a b : Str} (ha : Tx n a) (hb : Tx m b) : Tx (n + m) (a ++ b) := by
  refine ⟨?_, by rw [Str.length_append]; exact Nat.add_le_add ha.2 hb.2⟩
  have h1 := ha.1
  have h2 := hb.1
  unfold PyData.strOk at h1 h2 ⊢
  rw [Str.cps_append, Array.all_append, h1, h2]; rfl
theorem Tx.sep : Tx 2 (", " : Str) := by constructor <;> decide +kernel
theorem Tx.join {n : Nat} : ∀ {ts : List Str}, (∀ t ∈ ts, Tx n t) → Tx (ts.length * (n + 2)) (Str.join ", " ts)
  | [], _ => ⟨by decide +kernel, Nat.zero_le _⟩
  | [x], h => (h x (by simp)).mono (by simp)
  | x :: y :: r, h => by
    have ih := Tx.join (ts := y :: r) fun t ht => h t (List.mem_cons_of_mem _ ht)
    have := ((h x (by simp)).app Tx.sep).app ih
    refine (show Tx _ (x ++ ", " ++ Str.join ", " (y :: r)) from this).mono ?_
    simp only [List.length_cons, Nat.add_mul, Nat.one_mul]
    omega
theorem Tx.tuple {n : Nat} {ts : List Str} (h : ∀ t ∈ ts, Tx n t) : Tx (ts.length * (n + 2) + 4) (tupleText ts) := by
  have h1 : Tx 1 ("(" : Str) := by constructor <;> decide +kernel
  have h2 : Tx 2 ((if ts.length == 1 then ",)" else ")" : String) : Str) := by split <;> constructor <;> decide +kernel
  exact ((h1.app (Tx.join h)).app h2).mono (by omega)
theorem Tx.from {n : Nat} : ∀ {ts : List Str} {k m : Nat} {acc : Str}, (∀ t ∈ ts, Tx n t) → Tx m acc → Tx (m + ts.length * (n + 2)) (textFrom k acc ts)
  | [], _, _, _, _, ha => ha.mono (by simp)
  | t :: r, k, m, acc, h, ha => by
    have hs : Tx 2 ((if k > 0 then ", " else "" : String) : Str) := by split <;> constructor <;> decide +kernel
    have := Tx.from (ts := r) (k := k + 1) (fun t ht => h t (List.mem_cons_of_mem _ ht)) ((ha.app hs).app (h t List.mem_cons_self))
    refine (show Tx _ (textFrom (k + 1) (acc ++ (if k > 0 then ", " else "" : String) ++ t) r) from this).mono ?_
    simp only [List.length_cons, Nat.add_mul, Nat.one_mul]
    omega
theorem Tx.list {n : Nat} {ts : List Str} (h : ∀ t ∈ ts, Tx n t) : Tx (ts.length * (n + 2) + 2) (listText ts) := by
  have h1 : Tx 1 ("[" : Str) := by constructor <;> decide +kernel
  have h2 : Tx 1 ("]" : Str) := by constructor <;> decide +kernel
  exact ((Tx.from h h1 (k := 0)).app h2).mono (by omega)
theorem menu_tx : ∀ k ∈ menu, Tx 8 (reprText k) := by
  have h : ∀ k ∈ menu, PyData.strOk (reprText k) = true ∧ (reprText k).length ≤ 8 := by decide +kernel
  exact h
theorem shownAll_map {α : Type} (f : α → D) : ∀ l : List α, PyData.shownAll (l.map f) = l.map fun x => (f x).shown
  | [] => by simp [PyData.shownAll]
  | x :: l => by
    rw [List.map_cons, List.map_cons, PyData.shownAll, shownAll_map f l]
theorem shown_tS {l : List Str} (h : ∀ k ∈ l, k ∈ menu) : Tx (l.length * 10 + 4) (tS l).shown := by
  simp only [PyData.shown]
  rw [shownAll_map]
  have := Tx.tuple (n := 8) (ts := l.map fun x => (PyData.str x).shown) (fun t ht => by
    obtain ⟨x, hx, rfl⟩ := List.mem_map.mp ht
    simp only [PyData.shown]
    exact menu_tx x (h x hx))
  rw [List.length_map] at this
  exact this
theorem showableAll_of {ds : List D} (h : ∀ d ∈ ds, d.showable = true) : PyData.showableAll ds = true := by
  induction ds with
  | nil => simp [PyData.showableAll]
  | cons d ds ih =>
    simp only [PyData.showableAll, Bool.and_eq_true]
    exact ⟨h d List.mem_cons_self, ih fun e he => h e (List.mem_cons_of_mem _ he)⟩
theorem showable_tS (l : List Str) : (tS l).showable = true := by
  simp only [PyData.showable]
  exact showableAll_of fun d hd => by
    obtain ⟨x, _, rfl⟩ := List.mem_map.mp hd
    simp [PyData.showable]
theorem okd_tS {l : List Str} (h : ∀ k ∈ l, k ∈ menu) (hl : l.length ≤ 15) : Okd (tS l) := by
  obtain ⟨h1, h2⟩ := Sh.tS (l := l) fun k hk => menu_ok k (h k hk)
  refine ⟨⟨h1, Nat.le_trans h2 (by decide)⟩, showable_tS l, Nat.le_trans (shown_tS h).2 ?_⟩
  show _ ≤ 2 ^ 24
  omega
theorem okd_list {l : List (List Str)} (h : ∀ c ∈ l, (∀ k ∈ c, k ∈ menu) ∧ c.length ≤ 15) (hl : l.length ≤ 65536) : Okd (.list (l.map tS)) := by
  refine ⟨?_, ?_, ?_⟩
  · obtain ⟨h1, h2⟩ := Sh.lst (n := 1) (ds := l.map tS) fun d hd => by
      obtain ⟨c, hc, rfl⟩ := List.mem_map.mp hd
      exact Sh.tS fun k hk => menu_ok k ((h c hc).1 k hk)
    exact ⟨h1, Nat.le_trans h2 (by decide)⟩
  · simp only [PyData.showable]
    exact showableAll_of fun d hd => by
      obtain ⟨c, _, rfl⟩ := List.mem_map.mp hd
      exact showable_tS c
  · simp only [PyData.shown]
    rw [shownAll_map]
    have := Tx.list (n := 154) (ts := l.map fun c => (tS c).shown) (fun t ht => by
      obtain ⟨c, hc, rfl⟩ := List.mem_map.mp ht
      exact (shown_tS (h c hc).1).mono (by have := (h c hc).2; omega))
    rw [List.length_map] at this
    refine Nat.le_trans this.2 ?_
    show _ ≤ 2 ^ 24
    omega
end G
end
section
set_option Elab.async false
set_option linter.all false
set_option maxRecDepth 100000
/-! M28l: least beginnings; the beginnings told in two ways. -/
namespace G
open PySem DL

theorem ahead_in {n m : Nat} {ks : List Str} {cs : List (List Str)} (h : House n m ks cs) (k : Str) : ∀ a ∈ ahead cs k, a ∈ ks := aheadGo_in k cs [] h.cin (by simp)
theorem ahead_len {ks : List Str} {cs : List (List Str)} (h : House 6 8 ks cs) (k : Str) : (ahead cs k).length ≤ 120 := by
  have := aheadGo_len k cs [] fun c hc => Nat.le_trans (h.cln hc) (by decide)
  have := h.lc
  unfold ahead
  simp only [List.length_nil] at *
  omega
theorem ahead_ev {ks : List Str} {cs : List (List Str)} (h : House 6 8 ks cs) {k : Str} (hk : k ∈ ks) {env : SEnv} {i j : Nat} (hi : env[i]? = some (.fz (hD ks cs))) (hj : env[j]? = some (.fz (.str k))) : Ev (dCall sp_kinds_ahead (aCons (dVar i) (aCons (dVar j) aNil))) env (.nw (lS (ahead cs k))) env :=
  ev_call (args := [.fz (hD ks cs), .fz (.str k)]) (args' := [.fz (hD ks cs), .fz (.str k)]) (ev_cons (ev_var hi) (ev_cons (ev_var hj) ev_nil)) rfl (by simp [alsO]) (fun R hR => ⟨ks, cs, k, h.mono (by decide) (by decide), hk, rfl, hR⟩) rfl rfl
theorem ne_nil_strs {l : List Str} (h : Nms l) : gNe (lS l) (.list []) = some (.fz (.bool (!l.isEmpty))) := by
  rw [ne_of' (Sh.lS h) (Sh.lst (n := 0) (ds := []) (by simp)), eqv_nil, List.isEmpty_map]
theorem serves_least_beginning : Serves N_least_beginning ps_least_beginning t_least_beginning sp_least_beginning := by
  rintro args R ⟨ks, cs, p, h, hp, hpl, rfl, hR⟩
  refine ⟨rfl, rfl, ?_⟩
  unfold t_least_beginning
  ((try dsimp only); refine st_seq ?_)
  refine u_par (ev_lst ev_nil rfl (by decide) _ (ev_B (o := .nw (lS p)) (ev_cons (ev_var rfl) ev_nil) rfl rfl _ ⟨_, _, rfl, rfl, rfl, rfl, ?_⟩))
  ((try dsimp only); refine st_seq ?_)
  refine while_inv (fun e => ∃ (fl wl : List Str) (s4 : DL.Slot), fl.Nodup ∧ (∀ k ∈ fl, k ∈ ks) ∧ (∀ k ∈ wl, k ∈ ks) ∧ (∀ k ∈ p, k ∈ fl ∨ k ∈ wl) ∧ (∀ k ∈ fl, ∀ a ∈ ahead cs k, a ∈ fl ∨ a ∈ wl) ∧ (∀ w : List Str, (∀ k ∈ p, k ∈ w) → (∀ k ∈ w, ∀ a ∈ ahead cs k, a ∈ w) → (∀ k ∈ fl, k ∈ w) ∧ ∀ k ∈ wl, k ∈ w) ∧
      wl.length ≤ 100 + 120 * fl.length ∧ fr s4 ∧ e = [.fz (hD ks cs), .fz (tS p), .ow false (lS fl), .ow false (lS wl), s4])
    (fun e : SEnv => match e[2]?, e[3]? with
      | some (DL.Slot.ow _ (PyData.list a)), some (DL.Slot.ow _ (PyData.list b)) => (7 - a.length) * 1000 + b.length
      | _, _ => 0)
    ⟨[], p, .un, by simp, by simp, hp, fun k hk => .inr hk, by simp, fun w h1 _ => ⟨by simp, h1⟩, by simpa using hpl, fr.un, rfl⟩ ?_
  rintro e E1 ⟨fl, wl, s4, fnd, fin, win, i2, i3, i4, wlen, f4, rfl⟩ nx _ _ _
  have wms : Nms wl := fun k hk => h.nms k (win k hk)
  have fms : Nms fl := fun k hk => h.nms k (fin k hk)
  have fll : fl.length ≤ 6 := Nat.le_trans (List.Nodup.length_le_of_subset fnd fin) h.ln
  refine evt_val (ev_bin (ev_own rfl) (ev_lst ev_nil rfl (by decide)) rfl rfl (ne_nil_strs wms)) _ ?_
  rcases List.eq_nil_or_concat wl with rfl | ⟨wl', k, rfl⟩
  · rw [if_neg (by simp)]
    dsimp only
    unfold sFrz
    dsimp only [List.getElem?_cons_succ, List.getElem?_cons_zero, List.set_cons_succ, List.set_cons_zero]
    have hl := h.ln
    refine st_ret (o := .fz (tS (ks.filter fun k => decide (k ∈ fl)))) (ev_B (ev_cons (ev_lc (items := ks.map .str) (evi_seq (d := tS ks) (o := .fz (tS ks)) (ev_bin (ev_var rfl) ev_c rfl rfl rfl) rfl rfl) trivial (by rw [List.length_map]; show _ ≤ 2 ^ 24; omega) (f4.ow rfl) (strP fun k => decide (k ∈ fl)) id (fun d hd => ?_) (fun d hd _ => ⟨_, ev_var rfl, rfl⟩)) ev_nil) rfl ?_) ⟨_, rfl, hR _ ⟨⟨fun k => decide (k ∈ fl), rfl⟩, fun k hk => ?_, fun k hk a ha => ?_, fun w h1 h2 k hk => ?_⟩⟩
    · obtain ⟨k, hk, rfl⟩ := List.mem_map.mp hd
      refine evt_val (ev_bin (ev_var rfl) (ev_var rfl) rfl rfl ?_)
      rw [in_l (h.nms k hk) fms]
      simp [strP]
    · rw [List.map_id, filter_strP]; rfl
    · have := (i2 k hk).resolve_right (by simp)
      exact List.mem_filter.mpr ⟨fin k this, decide_eq_true this⟩
    · have hk' : k ∈ fl := of_decide_eq_true (List.mem_filter.mp hk).2
      have := (i3 k hk' a ha).resolve_right (by simp)
      exact List.mem_filter.mpr ⟨fin a this, decide_eq_true this⟩
    · exact (i4 w h1 h2).1 k (of_decide_eq_true (List.mem_filter.mp hk).2)
  · rw [List.concat_eq_append] at *
    rw [if_pos (by simp)]
    have hk : k ∈ ks := win k (by simp)
    have wl1 : wl'.length + 1 ≤ 100 + 120 * fl.length := by simpa using wlen
    ((try dsimp only); refine st_seq ?_)
    have pop : gPop ((wl' ++ [k]).map .str) [] = some (.fz (.str k), wl'.map .str) := by
      show (((wl' ++ [k]).map PyData.str)[((wl' ++ [k]).map PyData.str).length - 1]?).map _ = _
      rw [List.map_append]
      simp
    refine st_setF (e1 := [.fz (hD ks cs), .fz (tS p), .ow false (lS fl), .ow false (lS wl'), s4]) (ev_mut rfl ev_nil rfl rfl pop rfl) rfl (f4.pin rfl) ?_
    dsimp only
    refine st_if (evt_val (ev_bin (ev_var rfl) (ev_own rfl) rfl rfl (in_l (h.nms k hk) fms))) (fun hb => ?_) (fun hb => ?_)
    · have hnk : k ∉ fl := by simpa using hb
      ((try dsimp only); refine st_seq ?_)
      have fl5 : fl.length + 1 ≤ 6 := by
        have : (fl ++ [k]).Nodup := List.nodup_append.mpr ⟨fnd, by simp, fun a ha b hb => by rw [List.mem_singleton.mp hb]; exact fun e => hnk (e ▸ ha)⟩
        have := List.Nodup.length_le_of_subset this (l₂ := ks) fun x hx => (List.mem_append.mp hx).elim (fin x) fun h => by rw [List.mem_singleton.mp h]; exact hk
        rw [List.length_append, List.length_singleton] at this
        exact Nat.le_trans this h.ln
      have al := ahead_len h k
      refine st_drop (o := .fz .none) (e1 := [.fz (hD ks cs), .fz (tS p), .ow false (lS (fl ++ [k])), .ow false (lS wl'), .fz (.str k)]) (ev_mut rfl (ev_cons (ev_var rfl) ev_nil) rfl rfl (append_ok (by rw [List.length_map]; show _ < 2 ^ 24; omega)) ?_) ?_
      · show [_, _, Slot.ow false (.list (fl.map .str ++ [.str k])), _, _] = _
        rw [show lS (fl ++ [k]) = .list (fl.map .str ++ [.str k]) by rw [show lS (fl ++ [k]) = .list ((fl ++ [k]).map .str) from rfl, List.map_append]; rfl]
      dsimp only
      refine st_drop (o := .fz .none) (e1 := [.fz (hD ks cs), .fz (tS p), .ow false (lS (fl ++ [k])), .ow false (lS (wl' ++ ahead cs k)), .fz (.str k)]) (ev_mut rfl (ev_cons (ahead_ev h hk rfl rfl) ev_nil) rfl rfl (extend_ok (by rw [List.length_map, List.length_map]; show _ ≤ 2 ^ 24; omega)) ?_) (nx _ ⟨fl ++ [k], wl' ++ ahead cs k, _, List.nodup_append.mpr ⟨fnd, by simp, fun a ha b hb => by rw [List.mem_singleton.mp hb]; exact fun e => hnk (e ▸ ha)⟩, fun x hx => (List.mem_append.mp hx).elim (fin x) fun h => by rw [List.mem_singleton.mp h]; exact hk, fun x hx => (List.mem_append.mp hx).elim (fun hx => win x (by simp [hx])) (ahead_in h k x), fun x hx => ?_, fun x hx a ha => ?_, fun w h1 h2 => ?_, by rw [List.length_append, List.length_append, List.length_singleton]; omega, fr.fz, rfl⟩ ?_)
      · show [_, _, _, Slot.ow false (.list (wl'.map .str ++ (ahead cs k).map .str)), _] = _
        rw [← List.map_append]
      · rcases i2 x hx with hx | hx
        · exact .inl (List.mem_append_left _ hx)
        · rcases List.mem_append.mp hx with hx | hx
          · exact .inr (List.mem_append_left _ hx)
          · exact .inl (List.mem_append_right _ hx)
      · rcases List.mem_append.mp hx with hx | hx
        · rcases i3 x hx a ha with ha | ha
          · exact .inl (List.mem_append_left _ ha)
          · rcases List.mem_append.mp ha with ha | ha
            · exact .inr (List.mem_append_left _ ha)
            · exact .inl (List.mem_append_right _ ha)
        · rw [List.mem_singleton.mp hx] at ha
          exact .inr (List.mem_append_right _ ha)
      · obtain ⟨a1, a2⟩ := i4 w h1 h2
        have hkw := a2 k (by simp)
        exact ⟨fun x hx => (List.mem_append.mp hx).elim (a1 x) fun h => by rw [List.mem_singleton.mp h]; exact hkw, fun x hx => (List.mem_append.mp hx).elim (fun hx => a2 x (by simp [hx])) (h2 k hkw x)⟩
      · show (7 - ((fl ++ [k]).map PyData.str).length) * 1000 + ((wl' ++ ahead cs k).map PyData.str).length < (7 - (fl.map PyData.str).length) * 1000 + ((wl' ++ [k]).map PyData.str).length
        simp only [List.length_map, List.length_append, List.length_singleton]
        omega
    · have hkf : k ∈ fl := by simpa using hb
      refine nx _ ⟨fl, wl', _, fnd, fin, fun x hx => win x (by simp [hx]), fun x hx => ?_, fun x hx a ha => ?_, fun w h1 h2 => ⟨(i4 w h1 h2).1, fun x hx => (i4 w h1 h2).2 x (by simp [hx])⟩, by omega, fr.fz, rfl⟩ ?_
      · rcases i2 x hx with hx | hx
        · exact .inl hx
        · rcases List.mem_append.mp hx with hx | hx
          · exact .inr hx
          · rw [List.mem_singleton.mp hx]; exact .inl hkf
      · rcases i3 x hx a ha with ha | ha
        · exact .inl ha
        · rcases List.mem_append.mp ha with ha | ha
          · exact .inr ha
          · rw [List.mem_singleton.mp ha]; exact .inl hkf
      · show (7 - (fl.map PyData.str).length) * 1000 + (wl'.map PyData.str).length < (7 - (fl.map PyData.str).length) * 1000 + ((wl' ++ [k]).map PyData.str).length
        simp only [List.length_map, List.length_append, List.length_singleton]
        omega
end G
end
section
set_option Elab.async false
set_option linter.all false
set_option maxRecDepth 100000
/-! M28m: the beginnings told in two ways. -/
namespace G
open PySem DL

/-! which parts are beginnings -/
theorem aheadGo_mem (k a : Str) : ∀ (cs : List (List Str)) (acc : List Str), a ∈ aheadGo k cs acc ↔ a ∈ acc ∨ ∃ c ∈ cs, k ∈ c ∧ a ∈ c.take (c.idxOf k)
  | [], acc => by simp [aheadGo]
  | c :: cs, acc => by
    unfold aheadGo
    rw [aheadGo_mem k a cs]
    by_cases hk : k ∈ c
    · rw [if_pos hk, List.mem_append, List.mem_filter]
      constructor
      · rintro ((h | h) | ⟨c', h1, h2⟩)
        · exact .inl h
        · exact .inr ⟨c, by simp, hk, h.1⟩
        · exact .inr ⟨c', by simp [h1], h2⟩
      · rintro (h | ⟨c', h1, h2, h3⟩)
        · exact .inl (.inl h)
        · rcases List.mem_cons.mp h1 with rfl | h1
          · by_cases ha : a ∈ acc
            · exact .inl (.inl ha)
            · exact .inl (.inr ⟨h3, decide_eq_true ha⟩)
          · exact .inr ⟨c', h1, h2, h3⟩
    · rw [if_neg hk]
      constructor
      · rintro (h | ⟨c', h1, h2⟩)
        · exact .inl h
        · exact .inr ⟨c', by simp [h1], h2⟩
      · rintro (h | ⟨c', h1, h2, h3⟩)
        · exact .inl h
        · rcases List.mem_cons.mp h1 with rfl | h1
          · exact absurd h2 hk
          · exact .inr ⟨c', h1, h2, h3⟩
theorem ahead_mem {cs : List (List Str)} {k a : Str} : a ∈ ahead cs k ↔ ∃ c ∈ cs, k ∈ c ∧ a ∈ c.take (c.idxOf k) := by
  unfold ahead
  rw [aheadGo_mem]
  simp
/-- the kinds of p stand first in c -/
def firstIn (p : List Str) : List Str → Prop
  | [] => True
  | x :: r => if x ∈ p then firstIn p r else ∀ y ∈ r, y ∉ p
theorem first_take (p : List Str) : ∀ c : List Str, (∀ x ∈ c.take ((c.filter fun k => decide (k ∈ p)).length), x ∈ p) ↔ firstIn p c
  | [] => by simp [firstIn]
  | x :: r => by
    unfold firstIn
    by_cases h : x ∈ p
    · rw [if_pos h, List.filter_cons_of_pos (by simpa using h), List.length_cons, List.take_succ_cons, ← first_take p r]
      simp [h]
    · rw [if_neg h, List.filter_cons_of_neg (by simpa using h)]
      constructor
      · intro hx y hy hyp
        have : 0 < (r.filter fun k => decide (k ∈ p)).length := List.length_pos_of_mem (List.mem_filter.mpr ⟨hy, decide_eq_true hyp⟩)
        obtain ⟨n, hn⟩ := Nat.exists_eq_add_of_lt this
        rw [hn] at hx
        exact h (hx x (by simp))
      · intro hr
        have : r.filter (fun k => decide (k ∈ p)) = [] := List.filter_eq_nil_iff.mpr fun y hy => by simpa using hr y hy
        rw [this]
        simp
theorem first_ahead (p : List Str) : ∀ c : List Str, c.Nodup → ((∀ k ∈ c, k ∈ p → ∀ a ∈ c.take (c.idxOf k), a ∈ p) ↔ firstIn p c)
  | [], _ => by simp [firstIn]
  | x :: r, hn => by
    have hx := (List.nodup_cons.mp hn).1
    have ih := first_ahead p r (List.nodup_cons.mp hn).2
    have e : ∀ k ∈ r, (x :: r).take ((x :: r).idxOf k) = x :: r.take (r.idxOf k) := fun k hk => by
      have : (x == k) = false := by
        have : x ≠ k := fun e => hx (e ▸ hk)
        simpa using this
      rw [List.idxOf_cons, this]
      simp
    unfold firstIn
    by_cases h : x ∈ p
    · rw [if_pos h, ← ih]
      constructor
      · intro hh k hk hkp a ha
        exact hh k (by simp [hk]) hkp a (by rw [e k hk]; simp [ha])
      · intro hh k hk hkp a ha
        rcases List.mem_cons.mp hk with rfl | hk
        · simp at ha
        · rw [e k hk] at ha
          rcases List.mem_cons.mp ha with rfl | ha
          · exact h
          · exact hh k hk hkp a ha
    · rw [if_neg h]
      constructor
      · intro hh y hy hyp
        exact h (hh y (by simp [hy]) hyp x (by rw [e y hy]; simp))
      · intro hh k hk hkp a ha
        rcases List.mem_cons.mp hk with rfl | hk
        · exact absurd hkp h
        · exact absurd hkp (hh k hk)
/-- by what stands ahead -/
def begA (cs : List (List Str)) (p : List Str) : Bool := p.all fun k => (ahead cs k).all fun a => decide (a ∈ p)
/-- by the calls' first kinds -/
def begB (cs : List (List Str)) (p : List Str) : Bool := cs.all fun c => (c.take ((c.filter fun k => decide (k ∈ p)).length)).all fun x => decide (x ∈ p)
theorem beg_same {cs : List (List Str)} {p : List Str} (h : ∀ c ∈ cs, c.Nodup) : begA cs p = begB cs p := by
  rw [Bool.eq_iff_iff]
  unfold begA begB
  simp only [List.all_eq_true, decide_eq_true_eq]
  have h2 : ∀ c ∈ cs, ((∀ x ∈ c.take ((c.filter fun k => decide (k ∈ p)).length), x ∈ p) ↔ ∀ k ∈ c, k ∈ p → ∀ a ∈ c.take (c.idxOf k), a ∈ p) := fun c hc => (first_take p c).trans (first_ahead p c (h c hc)).symm
  constructor
  · intro hh c hc
    refine (h2 c hc).mpr fun k hk hkp a ha => ?_
    exact hh k hkp a (ahead_mem.mpr ⟨c, hc, hk, ha⟩)
  · intro hh k hkp a ha
    obtain ⟨c, hc, hk, ha⟩ := ahead_mem.mp ha
    exact (h2 c hc).mp (hh c hc) k hk hkp a ha
theorem begs_eq (ks : List Str) (cs : List (List Str)) : begs ks cs = (sets ks).filter (begA cs) := rfl

/-! dicts by texts -/
theorem dmerge_str {f : Str → D} : ∀ (l : List Str) (acc : List (D × D)), (∀ k ∈ l, ∀ q ∈ acc, PyData.eqv q.1 (.str k) = false) → l.Nodup → dmerge acc (l.map fun k => (.str k, f k)) = acc ++ l.map fun k => (.str k, f k)
  | [], acc, _, _ => by simp [dmerge]
  | k :: l, acc, h, hn => by
    have e : dset acc (.str k) (f k) = acc ++ [(.str k, f k)] := by
      unfold dset
      rw [if_neg]
      intro z
      obtain ⟨q, hq, hz⟩ := List.any_eq_true.mp z
      rw [h k List.mem_cons_self q hq] at hz
      cases hz
    show dmerge (dset acc (.str k) (f k)) (l.map _) = _
    rw [e, dmerge_str l _ (fun k' hk' q hq => ?_) (List.nodup_cons.mp hn).2]
    · simp
    · rcases List.mem_append.mp hq with hq | hq
      · exact h k' (List.mem_cons_of_mem _ hk') q hq
      · rw [List.mem_singleton.mp hq]
        simp only [PyData.eqv]
        have : k ≠ k' := fun e => (List.nodup_cons.mp hn).1 (e ▸ hk')
        simpa using this
theorem dget_str {f : Str → D} : ∀ {l : List Str} {k : Str}, k ∈ l → dget (l.map fun k => (.str k, f k)) (.str k) = some (f k)
  | [], _, h => by cases h
  | x :: l, k, h => by
    unfold dget
    rw [List.map_cons, List.find?_cons]
    simp only [PyData.eqv]
    by_cases e : x = k
    · subst e; simp
    · have : (x == k) = false := by simpa using e
      rw [this]
      exact dget_str ((List.mem_cons.mp h).resolve_left fun z => e z.symm)
theorem filter_tS (p : List Str → Bool) (l : List (List Str)) : (l.map tS).filter (fun d => p (unT d)) = (l.filter p).map tS := by
  induction l with
  | nil => rfl
  | cons x l ih =>
    rw [List.map_cons, List.filter_cons, List.filter_cons, ih, unT_tS]
    split <;> rfl
theorem House.sets_ok {n m : Nat} {ks : List Str} {cs : List (List Str)} (h : House n m ks cs) {p : List Str} (hp : p ∈ sets ks) : Nms p ∧ (∀ k ∈ p, k ∈ ks) ∧ p.length ≤ ks.length := by
  have hs := sets_mem.mp hp
  exact ⟨fun k hk => h.nms k (hs.subset hk), fun k hk => hs.subset hk, hs.length_le⟩
theorem serves_beginning_sets : Serves N_beginning_sets ps_beginning_sets t_beginning_sets sp_beginning_sets := by
  rintro args R ⟨ks, cs, h, rfl, hR⟩
  refine ⟨rfl, rfl, ?_⟩
  have hl := h.ln
  unfold t_beginning_sets
  ((try dsimp only); refine st_seq ?_)
  have dic : Ev (dDc [2] (iSeq (dBin gIx (dVar 0) (dC (.int 0)))) (gN 2) bYes (dVar 2) (dCall sp_kinds_ahead (aCons (dVar 0) (aCons (dVar 2) aNil)))) [.fz (hD ks cs), .un, .un, .un] (.nw (.dict (ks.map fun k => (.str k, lS (ahead cs k))))) [.fz (hD ks cs), .un, .un, .un] := fun Q q => by
    refine (evi_seq (d := tS ks) (ds := ks.map .str) (o := .fz (tS ks)) (ev_bin (ev_var (i := 0) rfl) ev_c rfl rfl rfl) rfl rfl) _ ⟨by rw [List.length_map]; show _ ≤ 2 ^ 24; omega, ?_⟩
    refine dcGo_pure (vs := [2]) (al := none) (env := [.fz (hD ks cs), .un, .un, .un]) trivial rfl (fun _ => true) id (strF fun k => lS (ahead cs k)) (ks.map .str) [] _ (fun d hd Y N hY _ => ?_) ?_
    · obtain ⟨k, hk, rfl⟩ := List.mem_map.mp hd
      refine ⟨rfl, ?_⟩
      unfold bYes
      dsimp only
      rw [if_pos rfl]
      exact ev_var (d := .str k) rfl _ (ahead_ev h hk rfl rfl _ ⟨.str k, _, rfl, rfl, rfl, hY rfl⟩)
    · rw [List.filter_eq_self.mpr (fun _ _ => rfl)]
      have e : (ks.map PyData.str).map (fun d => (id d, strF (fun k => lS (ahead cs k)) d)) = ks.map fun k => (.str k, lS (ahead cs k)) := by rw [List.map_map]; rfl
      rw [e, dmerge_str _ _ (by simp) h.nd]
      exact q
  refine st_setF dic rfl rfl ?_
  dsimp only
  have hsl := sets_len ks
  have hpow : 2 ^ ks.length ≤ 32768 := pow15 (by omega)
  have each : ∀ p ∈ sets ks, EvT (bTru (dB gAll (aCons (dLc [2] (iSeq (dVar 3)) (gN 2) bYes (dCall sp_within (aCons (dBin gIx (dVar 1) (dVar 2)) (aCons (dVar 3) aNil)))) aNil))) [.fz (hD ks cs), .fz (.dict (ks.map fun k => (.str k, lS (ahead cs k)))), .un, .fz (tS p)] (begA cs p) [.fz (hD ks cs), .fz (.dict (ks.map fun k => (.str k, lS (ahead cs k)))), .un, .fz (tS p)] := fun p hp => by
    obtain ⟨pms, psub, plen⟩ := h.sets_ok hp
    refine evt_tru (o := .fz (.bool (begA cs p))) (ev_B (ev_cons (ev_lc (items := p.map .str) (evi_seq (d := tS p) (o := .fz (tS p)) (ev_var rfl) rfl rfl) trivial (by rw [List.length_map]; show _ ≤ 2 ^ 24; omega) rfl (fun _ => true) (strF fun k => .bool ((ahead cs k).all fun a => decide (a ∈ p))) (fun d hd => evt_yes) (fun d hd _ => ?_)) ev_nil) rfl ?_) rfl rfl
    · obtain ⟨k, hk, rfl⟩ := List.mem_map.mp hd
      have hg : gIx (.dict (ks.map fun k => (.str k, lS (ahead cs k)))) (.str k) = some (.fz (lS (ahead cs k))) := by
        show (dget _ _).map O.fz = _
        rw [dget_str (f := fun k => lS (ahead cs k)) (psub k hk)]; rfl
      have al := ahead_len h k
      exact ⟨.fz (.bool ((ahead cs k).all fun a => decide (a ∈ p))), ev_call (args := [.fz (lS (ahead cs k)), .fz (tS p)]) (args' := [.fz (lS (ahead cs k)), .fz (tS p)]) (ev_cons (ev_bin (ev_var rfl) (ev_var rfl) rfl rfl hg) (ev_cons (ev_var rfl) ev_nil)) rfl (by simp [alsO]) (fun R hR => ⟨ahead cs k, p, fun x hx => h.nms x (ahead_in h k x hx), pms, by omega, rfl, hR⟩) rfl rfl, rfl⟩
    · rw [List.filter_eq_self.mpr (fun _ _ => rfl), map_strF]
      show (boolsD (p.map fun k => .bool ((ahead cs k).all fun a => decide (a ∈ p)))).map _ = _
      rw [bools_map]
      show some (O.fz (.bool _)) = _
      unfold begA
      rw [List.all_map]; rfl
  have hi : EvI (iSeq (dCall sp_all_sets (aCons (dVar 0) aNil))) [.fz (hD ks cs), .fz (.dict (ks.map fun k => (.str k, lS (ahead cs k)))), .un, .un] ((sets ks).map tS) none [.fz (hD ks cs), .fz (.dict (ks.map fun k => (.str k, lS (ahead cs k)))), .un, .un] :=
    evi_seq (o := .fz (.list ((sets ks).map tS))) (ev_call (args := [.fz (hD ks cs)]) (args' := [.fz (hD ks cs)]) (ev_cons (ev_var rfl) ev_nil) rfl (by simp [alsO]) (fun R hR => ⟨ks, cs, h.mono (by decide) (by decide), rfl, hR⟩) rfl rfl) rfl rfl
  have := ev_lc (te := dVar 3) (tt := bTru (dB gAll (aCons (dLc [2] (iSeq (dVar 3)) (gN 2) bYes (dCall sp_within (aCons (dBin gIx (dVar 1) (dVar 2)) (aCons (dVar 3) aNil)))) aNil))) (i := 3) hi trivial (by rw [List.length_map, hsl]; show _ ≤ 2 ^ 24; omega) rfl (fun d => begA cs (unT d)) id (fun d hd => by
    obtain ⟨p, hp, rfl⟩ := List.mem_map.mp hd
    rw [unT_tS]
    exact each p hp) (fun d hd _ => ⟨_, ev_var rfl, rfl⟩)
  rw [List.map_id, filter_tS] at this
  exact st_ret (o := .nw (.list (sortD ((begs ks cs).map tS)))) (ev_B (ev_cons this ev_nil) rfl (sorted_ok (sort_tS fun p hp => (h.sets_ok (List.mem_filter.mp hp).1).1))) ⟨_, rfl, hR⟩
/-! the law's own beginnings -/
def badP (p : List Str) : D → Bool
  | .tuple [c, .int _] => !(((unT c).take (((unT c).filter fun k => decide (k ∈ p)).length)).all fun x => decide (x ∈ p))
  | _ => true
def fstD : D → D
  | .tuple [c, .int _] => c
  | d => d
theorem zip_heads (p : List Str) (cs : List (List Str)) : zipD (cs.map tS) ((cs.map fun c => ((c.filter fun k => decide (k ∈ p)).length : Int)).map .int) = cs.map fun c => .tuple [tS c, .int ((c.filter fun k => decide (k ∈ p)).length : Nat)] := by
  unfold zipD
  induction cs with
  | nil => rfl
  | cons c cs ih =>
    rw [List.map_cons, List.map_cons, List.map_cons, List.zip_cons_cons, List.map_cons, List.map_cons, ih]
theorem serves__law_beginnings : Serves N__law_beginnings ps__law_beginnings t__law_beginnings sp__law_beginnings := by
  rintro args R ⟨ks, cs, h, rfl, hR⟩
  refine ⟨rfl, rfl, ?_⟩
  have hl := h.ln
  have hlc := h.lc
  have hsl := sets_len ks
  have hpow : 2 ^ ks.length ≤ 32768 := pow15 (by omega)
  unfold t__law_beginnings
  ((try dsimp only); refine st_seq ?_)
  refine st_set (ev_lst ev_nil rfl (by decide)) rfl rfl ?_
  ((try dsimp only); refine st_seq ?_)
  have hi : EvI (iSeq (dCall sp__law_sets (aCons (dVar 0) aNil))) [.fz (hD ks cs), .ow false (.list []), .un, .un, .un, .un, .un, .un] ((sets ks).map tS) none [.fz (hD ks cs), .ow false (.list []), .un, .un, .un, .un, .un, .un] :=
    evi_seq (o := .fz (.list ((sets ks).map tS))) (ev_call (args := [.fz (hD ks cs)]) (args' := [.fz (hD ks cs)]) (ev_cons (ev_var rfl) ev_nil) rfl (by simp [alsO]) (fun R hR => ⟨ks, cs, h.mono (by decide) (by decide), rfl, hR⟩) rfl rfl) rfl rfl
  refine for_inv hi (fun pre e => ∃ (pp : List (List Str)) (s2 s3 s4 : DL.Slot), pre = pp.map tS ∧ pp.length ≤ 32768 ∧ fr s2 ∧ fr s3 ∧ fr s4 ∧ e = [.fz (hD ks cs), .ow false (.list ((pp.filter (begB cs)).map tS)), s2, s3, s4, .un, .un, .un]) ⟨[], .un, .un, .un, rfl, by simp, fr.un, fr.un, fr.un, rfl⟩ ?_ ?_
  · rintro pre x post e E1 hi ⟨pp, s2, s3, s4, rfl, ppl, f2, f3, f4, rfl⟩ nx _ _ _
    obtain ⟨hx, hpl⟩ := split_at hi
    obtain ⟨p, hp, rfl⟩ := List.mem_map.mp (List.mem_of_getElem? hx)
    obtain ⟨pms, psub, plen⟩ := h.sets_ok hp
    rw [List.length_map, List.length_map, hsl] at hpl
    refine ⟨f2.pin rfl, ?_⟩
    ((try dsimp only); refine st_seq ?_)
    -- how many of each call
    have heads : Ev (dLc [5] (iSeq (dBin gIx (dVar 0) (dC (.int 1)))) (gN 5) bYes (dB gLen (aCons (dLc [7] (iSeq (dVar 5)) (gN 7) (bVal (dBin (gIn false) (dVar 7) (dVar 2))) (dVar 7)) aNil))) [.fz (hD ks cs), .ow false (.list ((pp.filter (begB cs)).map tS)), .fz (tS p), s3, s4, .un, .un, .un] (.nw (.list ((cs.map fun c => ((c.filter fun k => decide (k ∈ p)).length : Int)).map .int))) [.fz (hD ks cs), .ow false (.list ((pp.filter (begB cs)).map tS)), .fz (tS p), s3, s4, .un, .un, .un] := by
      have := ev_lc (te := dB gLen (aCons (dLc [7] (iSeq (dVar 5)) (gN 7) (bVal (dBin (gIn false) (dVar 7) (dVar 2))) (dVar 7)) aNil)) (tt := bYes) (i := 5) (items := cs.map tS) (env := [.fz (hD ks cs), .ow false (.list ((pp.filter (begB cs)).map tS)), .fz (tS p), s3, s4, .un, .un, .un]) (evi_seq (d := .tuple (cs.map tS)) (o := .fz (.tuple (cs.map tS))) (ev_bin (g := gIx) (ev_var (i := 0) rfl) (ev_c (d := .int 1)) rfl rfl rfl) rfl rfl) trivial (by rw [List.length_map]; show _ ≤ 2 ^ 24; omega) rfl (fun _ => true) (fun d => .int (((unT d).filter fun k => decide (k ∈ p)).length : Nat)) (fun d hd => evt_yes) (fun d hd _ => by
        obtain ⟨c, hc, rfl⟩ := List.mem_map.mp hd
        have hcl := h.cln hc
        have inner := ev_lc (te := dVar 7) (tt := bVal (dBin (gIn false) (dVar 7) (dVar 2))) (i := 7) (items := c.map .str) (env := [.fz (hD ks cs), .ow false (.list ((pp.filter (begB cs)).map tS)), .fz (tS p), s3, s4, .fz (tS c), .un, .un]) (evi_seq (d := tS c) (o := .fz (tS c)) (ev_var (i := 5) rfl) rfl rfl) trivial (by rw [List.length_map]; show _ ≤ 2 ^ 24; omega) rfl (strP fun k => decide (k ∈ p)) id (fun d hd => by
          obtain ⟨k, hk, rfl⟩ := List.mem_map.mp hd
          refine evt_val (ev_bin (ev_var rfl) (ev_var rfl) rfl rfl ?_)
          rw [in_t (h.cms hc k hk) pms]
          simp [strP]) (fun d hd _ => ⟨_, ev_var rfl, rfl⟩)
        rw [List.map_id, filter_strP] at inner
        refine ⟨.fz (.int ((c.filter fun k => decide (k ∈ p)).length : Nat)), ev_B (ev_cons inner ev_nil) rfl ?_, by rw [unT_tS]; rfl⟩
        rw [len_list, List.length_map])
      rw [List.filter_eq_self.mpr (fun _ _ => rfl), List.map_map] at this
      have e : (cs.map ((fun d => PyData.int (((unT d).filter fun k => decide (k ∈ p)).length : Nat)) ∘ tS)) = (cs.map fun c => ((c.filter fun k => decide (k ∈ p)).length : Int)).map .int := by
        rw [List.map_map]
        exact List.map_congr_left fun c _ => by
          show PyData.int (((unT (tS c)).filter fun k => decide (k ∈ p)).length : Nat) = _
          rw [unT_tS]; rfl
      rw [e] at this
      exact this
    refine st_setF heads rfl (f3.pin rfl) ?_
    ((try dsimp only); refine st_seq ?_)
    -- the calls of which a later kind stands in p
    have bad : Ev (dLc [5, 6] (iZip (dBin gIx (dVar 0) (dC (.int 1))) (dVar 3)) (gT 2 (gCons (gN 5) (gCons (gN 6) gNil))) (bVal (dBin gNe (dLc [7] (iSeq (dSl (dVar 5) pNo (pAt (dVar 6)))) (gN 7) (bVal (dBin (gIn true) (dVar 7) (dVar 2))) (dVar 7)) (dLst aNil))) (dVar 5)) [.fz (hD ks cs), .ow false (.list ((pp.filter (begB cs)).map tS)), .fz (tS p), .fz (.list ((cs.map fun c => ((c.filter fun k => decide (k ∈ p)).length : Int)).map .int)), s4, .un, .un, .un] (.nw (.list ((cs.filter fun c => !((c.take ((c.filter fun k => decide (k ∈ p)).length)).all fun x => decide (x ∈ p))).map tS))) [.fz (hD ks cs), .ow false (.list ((pp.filter (begB cs)).map tS)), .fz (tS p), .fz (.list ((cs.map fun c => ((c.filter fun k => decide (k ∈ p)).length : Int)).map .int)), s4, .un, .un, .un] := fun Q q => by
      have hz := evi_zip (env := [.fz (hD ks cs), .ow false (.list ((pp.filter (begB cs)).map tS)), .fz (tS p), .fz (.list ((cs.map fun c => ((c.filter fun k => decide (k ∈ p)).length : Int)).map .int)), s4, .un, .un, .un]) (d := .tuple (cs.map tS)) (ds := cs.map tS) (o := .fz (.tuple (cs.map tS))) (ev_bin (g := gIx) (ev_var (i := 0) rfl) (ev_c (d := .int 1)) rfl rfl rfl) (ev_var (i := 3) rfl) rfl rfl rfl rfl
      rw [zip_heads] at hz
      refine hz _ ⟨by rw [List.length_map]; show _ ≤ 2 ^ 24; omega, ?_⟩
      refine lcGo_pure (vs := [5, 6]) (al := none) trivial rfl (badP p) fstD _ [] _ (fun d hd Y N hY hN => ?_) ?_
      · obtain ⟨c, hc, rfl⟩ := List.mem_map.mp hd
        unfold badP fstD at hY
        unfold badP at hN
        dsimp only at hY hN
        rw [unT_tS] at hY hN
        have hcl := h.cln hc
        refine ⟨_, rfl, rfl, _, _, rfl, ⟨rfl, _, _, rfl, ⟨rfl, rfl, ?_⟩⟩⟩
        have cut : gSl none (some (((c.filter fun k => decide (k ∈ p)).length : Nat) : Int)) (.fz (tS c)) = fun _ => some (.fz (tS (c.take ((c.filter fun k => decide (k ∈ p)).length)))) := by
          funext e
          show some (O.fz (.tuple (cutD (c.map .str) none (some (((c.filter fun k => decide (k ∈ p)).length : Nat) : Int))))) = _
          rw [cut_strs]
        have tk : ∀ k ∈ c.take ((c.filter fun k => decide (k ∈ p)).length), k ∈ c := fun k hk => List.take_subset _ _ hk
        have inner := ev_lc (te := dVar 7) (tt := bVal (dBin (gIn true) (dVar 7) (dVar 2))) (i := 7) (items := (c.take ((c.filter fun k => decide (k ∈ p)).length)).map .str) (env := [.fz (hD ks cs), .ow false (.list ((pp.filter (begB cs)).map tS)), .fz (tS p), .fz (.list ((cs.map fun c => ((c.filter fun k => decide (k ∈ p)).length : Int)).map .int)), s4, .fz (tS c), .fz (.int ((c.filter fun k => decide (k ∈ p)).length : Nat)), .un]) (evi_seq (d := tS (c.take ((c.filter fun k => decide (k ∈ p)).length))) (o := .fz (tS (c.take ((c.filter fun k => decide (k ∈ p)).length)))) (ev_sl (ev_var (i := 5) rfl) ev_no (ev_at (ev_var (i := 6) rfl)) (congrFun cut _)) rfl rfl) trivial (by rw [List.length_map, List.length_take]; show _ ≤ 2 ^ 24; omega) rfl (strP fun k => !decide (k ∈ p)) id (fun d hd => by
          obtain ⟨k, hk, rfl⟩ := List.mem_map.mp hd
          refine evt_val (ev_bin (ev_var rfl) (ev_var rfl) rfl rfl ?_)
          rw [in_t (h.cms hc k (tk k hk)) pms]
          simp [strP]) (fun d hd _ => ⟨_, ev_var rfl, rfl⟩)
        rw [List.map_id, filter_strP] at inner
        refine evt_val (ev_bin inner (ev_lst ev_nil rfl (by decide)) rfl rfl (ne_nil_strs fun k hk => h.cms hc k (tk k (List.mem_filter.mp hk).1))) _ ?_
        rw [filter_none]
        cases hb : (c.take ((c.filter fun k => decide (k ∈ p)).length)).all fun x => decide (x ∈ p) with
        | true =>
          rw [if_neg (by simp)]
          exact hN (by rw [hb]; rfl)
        | false =>
          rw [if_pos (by rfl)]
          exact ev_var (d := tS c) rfl _ ⟨tS c, rfl, hY (by rw [hb]; rfl)⟩
      · have e : ∀ l : List (List Str), ((l.map fun c => PyData.tuple [tS c, .int ((c.filter fun k => decide (k ∈ p)).length : Nat)]).filter (badP p)).map fstD = (l.filter fun c => !((c.take ((c.filter fun k => decide (k ∈ p)).length)).all fun x => decide (x ∈ p))).map tS := by
          intro l
          induction l with
          | nil => rfl
          | cons c l ih =>
            by_cases hq : (!((c.take ((c.filter fun k => decide (k ∈ p)).length)).all fun x => decide (x ∈ p))) = true
            · rw [List.map_cons, List.filter_cons_of_pos (by unfold badP; dsimp only; rw [unT_tS]; exact hq), List.filter_cons_of_pos (p := fun c : List Str => !((c.take ((c.filter fun k => decide (k ∈ p)).length)).all fun x => decide (x ∈ p))) hq, List.map_cons, List.map_cons, ih]; rfl
            · rw [List.map_cons, List.filter_cons_of_neg (by unfold badP; dsimp only; rw [unT_tS]; exact hq), List.filter_cons_of_neg (p := fun c : List Str => !((c.take ((c.filter fun k => decide (k ∈ p)).length)).all fun x => decide (x ∈ p))) hq, ih]
        rw [List.nil_append]
        rw [e]
        exact q
    refine st_setF bad rfl (f4.pin rfl) ?_
    dsimp only
    have test : gEq (.list ((cs.filter fun c => !((c.take ((c.filter fun k => decide (k ∈ p)).length)).all fun x => decide (x ∈ p))).map tS)) (.list []) = some (.fz (.bool (begB cs p))) := by
      rw [eq_of (Sh.lst (n := 1) fun d hd => by
        obtain ⟨c, hc, rfl⟩ := List.mem_map.mp hd
        exact Sh.tS (h.cms (List.mem_filter.mp hc).1)) (Sh.lst (n := 0) (ds := []) (by simp)), eqv_nil, List.isEmpty_map, filter_none]
      rfl
    refine st_if (evt_val (ev_bin (ev_var rfl) (ev_lst ev_nil rfl (by decide)) rfl rfl test)) (fun hb => ?_) (fun hb => ?_)
    · have fl := List.length_filter_le (begB cs) pp
      refine st_drop (o := .fz .none) (ev_mut rfl (ev_cons (ev_var rfl) ev_nil) rfl rfl (append_ok (by rw [List.length_map]; show _ < 2 ^ 24; omega)) rfl) (nx _ ⟨pp ++ [p], .fz (tS p), (.fz (.list ((cs.map fun c => ((c.filter fun k => decide (k ∈ p)).length : Int)).map .int))), (.fz (.list ((cs.filter fun c => !((c.take ((c.filter fun k => decide (k ∈ p)).length)).all fun x => decide (x ∈ p))).map tS))), by rw [List.map_append]; rfl, by rw [List.length_append, List.length_singleton]; omega, fr.fz, fr.fz, fr.fz, ?_⟩)
      rw [List.filter_append, List.map_append]
      have : [p].filter (begB cs) = [p] := by simp [hb]
      rw [this]; rfl
    · refine nx _ ⟨pp ++ [p], .fz (tS p), (.fz (.list ((cs.map fun c => ((c.filter fun k => decide (k ∈ p)).length : Int)).map .int))), (.fz (.list ((cs.filter fun c => !((c.take ((c.filter fun k => decide (k ∈ p)).length)).all fun x => decide (x ∈ p))).map tS))), by rw [List.map_append]; rfl, by rw [List.length_append, List.length_singleton]; omega, fr.fz, fr.fz, fr.fz, ?_⟩
      rw [List.filter_append]
      have : [p].filter (begB cs) = [] := by simp [hb]
      rw [this, List.append_nil]
      rfl
  · rintro e ⟨pp, s2, s3, s4, hm, ppl, f2, f3, f4, rfl⟩
    dsimp only
    unfold sFrz
    dsimp only [List.getElem?_cons_succ, List.getElem?_cons_zero, List.set_cons_succ, List.set_cons_zero]
    have : sets ks = pp := by
      have := congrArg (List.map unT) hm
      rw [List.map_map, List.map_map] at this
      have id1 : ∀ l : List (List Str), l.map (unT ∘ tS) = l := fun l => (List.map_congr_left fun c _ => unT_tS c).trans (List.map_id l)
      rw [id1, id1] at this
      exact this
    subst this
    have e : (sets ks).filter (begB cs) = begs ks cs := by
      rw [begs_eq]
      exact List.filter_congr fun p _ => (beg_same h.cnd).symm
    rw [e]
    exact st_ret (ev_B (ev_cons (ev_var rfl) ev_nil) rfl (sorted_ok (sort_tS fun p hp => (h.sets_ok (List.mem_filter.mp hp).1).1))) ⟨_, rfl, hR⟩
end G
end
section
set_option Elab.async false
set_option linter.all false
set_option maxRecDepth 100000
/-! M28n: the law of k28, over what its defs promise. -/
namespace G
open PySem DL

theorem u_call {sp : SpD} {ta : DA} {env : SEnv} {Q : O → SEnv → Prop} (h : ta env fun os e1 => ∃ args, argsS e1 os = some args ∧ (alsO os).Nodup ∧ sp args fun o args' => o.ret = true ∧ Q o (back os args' e1)) : dCall sp ta env Q := h
theorem u_seq {t : DT} {env : SEnv} {Q : List D → Option Nat → SEnv → Prop} (h : t env fun o e1 => ∃ d ds, o.val = some d ∧ seqD d = some ds ∧ Q ds none e1) : iSeq t env Q := h
theorem lcGo_drawW {i : Nat} {tt : DB} {te : DT} {all : List D} (W : D → SEnv) (Wx : D → D → SEnv) (P : D → D → Prop) (sk : Bool) (hno : ∀ d, notOw [i] (W d) = true) (hpin : ∀ d, notPin (wipeE [i] (W d)) i = true) (hset : ∀ d x, (wipeE [i] (W d)).set i (.fz x) = Wx d x) (hback : ∀ d0 d x, rst [i] (W d0) (Wx d x) = W d) :
    ∀ (ds acc : List D) (d0 : D) (K : List D → SEnv → Prop), isBag d0 →
    (∀ x ∈ ds, ∀ (d' : D) (Y : D → SEnv → Prop) (N : SEnv → Prop), isBag d' → (∀ y d'', P x y → isBag d'' → Y y (Wx d'' x)) → (∀ d'', sk = true → isBag d'' → N (Wx d'' x)) →
      tt (Wx d' x) fun b e2 => if b = true then te e2 fun o e3 => ∃ y, o.val = some y ∧ Y y e3 else N e2) →
    (∀ xs d', Picks P sk ds xs → isBag d' → K (acc ++ xs) (W d')) → lcGo [i] none all (gN i) tt te ds acc (W d0) K
  | [], acc, d0, K, b0, _, h => ⟨trivial, by simpa using h [] d0 .nil b0⟩
  | x :: ds, acc, d0, K, b0, turn, h => by
    refine ⟨trivial, hno d0, hpin d0, ?_⟩
    rw [hset]
    refine turn x List.mem_cons_self d0 (fun y e => lcGo [i] none all (gN i) tt te ds (acc ++ [y]) (rst [i] (W d0) e) K) (fun e => lcGo [i] none all (gN i) tt te ds acc (rst [i] (W d0) e) K) b0 (fun y d'' hp hb => ?_) (fun d'' hk hb => ?_)
    · rw [hback]
      exact lcGo_drawW W Wx P sk hno hpin hset hback ds _ d'' K hb (fun x hx => turn x (List.mem_cons_of_mem _ hx)) fun xs d' hp' hb' => by rw [List.append_assoc]; exact h _ d' (.take hp hp') hb'
    · rw [hback]
      exact lcGo_drawW W Wx P sk hno hpin hset hback ds _ d'' K hb (fun x hx => turn x (List.mem_cons_of_mem _ hx)) fun xs d' hp' hb' => h _ d' (.skip hk hp') hb'
theorem strs_of {ks : List Str} {ds : List D} (h : ∀ x ∈ ds, x ∈ ks.map PyData.str) : ∃ p : List Str, ds = p.map .str ∧ ∀ k ∈ p, k ∈ ks := by
  induction ds with
  | nil => exact ⟨[], rfl, by simp⟩
  | cons x ds ih =>
    obtain ⟨p, rfl, hp⟩ := ih fun y hy => h y (List.mem_cons_of_mem _ hy)
    obtain ⟨k, hk, rfl⟩ := List.mem_map.mp (h x List.mem_cons_self)
    exact ⟨k :: p, rfl, fun j hj => (List.mem_cons.mp hj).elim (fun e => e ▸ hk) (hp j)⟩
theorem sort_strs {l : List Str} (h : Nms l) : sortOk (l.map .str) = true := by
  unfold sortOk
  simp only [Bool.and_eq_true, Bool.or_eq_true, List.all_eq_true]
  refine ⟨⟨fun d hd e he => ?_, .inr fun d hd => ?_⟩, fun d hd => ?_⟩
  · obtain ⟨c, _, rfl⟩ := List.mem_map.mp hd
    obtain ⟨c', _, rfl⟩ := List.mem_map.mp he
    simp [PySem.W.alike]
  · obtain ⟨c, _, rfl⟩ := List.mem_map.mp hd
    rfl
  · obtain ⟨c, hc, rfl⟩ := List.mem_map.mp hd
    exact (Sh.str (n := 0) (h c hc)).shaped
/-- a row: a house, its beginnings, some parts -/
structure Row (ks : List Str) (cs bg parts : List (List Str)) : Prop where
  h : House 6 8 ks cs
  b : sortD ((begs ks cs).map tS) = bg.map tS
  bp : bg.Perm (begs ks cs)
  p : ∀ q ∈ parts, (∀ k ∈ q, k ∈ ks) ∧ q.length ≤ 100
  pl : parts.length ≤ 6
abbrev rowD (ks : List Str) (cs bg parts : List (List Str)) : D := .tuple [hD ks cs, .list (bg.map tS), .list (parts.map tS)]
def isRow (r : D) : Prop := ∃ ks cs bg parts, Row ks cs bg parts ∧ r = rowD ks cs bg parts
theorem Row.beg {ks : List Str} {cs bg parts : List (List Str)} (h : Row ks cs bg parts) {w : List Str} : w ∈ bg ↔ w.Sublist ks ∧ ∀ k ∈ w, ∀ a ∈ ahead cs k, a ∈ w := by
  rw [h.bp.mem_iff, begs_eq, List.mem_filter, sets_mem]
  unfold begA
  simp only [List.all_eq_true, decide_eq_true_eq]
theorem Row.mn {ks : List Str} {cs bg parts : List (List Str)} (h : Row ks cs bg parts) {w : List Str} (hw : w ∈ bg) : (∀ k ∈ w, k ∈ menu) ∧ w.length ≤ 6 :=
  ⟨fun k hk => h.h.mn k ((h.beg.mp hw).1.subset hk), Nat.le_trans (h.beg.mp hw).1.length_le h.h.ln⟩
theorem Row.bl {ks : List Str} {cs bg parts : List (List Str)} (h : Row ks cs bg parts) : bg.length ≤ 32768 := by
  rw [h.bp.length_eq]
  refine Nat.le_trans (List.length_filter_le _ _) ?_
  rw [sets_len]
  exact pow15 (Nat.le_trans h.h.ln (by decide))
theorem Row.ok {ks : List Str} {cs bg parts : List (List Str)} (h : Row ks cs bg parts) : Okd (.list (bg.map tS)) := okd_list (fun c hc => ⟨(h.mn hc).1, Nat.le_trans (h.mn hc).2 (by decide)⟩) (Nat.le_trans h.bl (by decide))
/-- one part -/
theorem part_turn {ns : List Int} {d d7 r3 : D} {rows : List D} {ks : List Str} {cs bg parts : List (List Str)} (h : Row ks cs bg parts) {q : List Str} (hq : (∀ k ∈ q, k ∈ ks) ∧ q.length ≤ 100) {s9 s10 s11 s12 : DL.Slot} (f9 : fr s9) (f10 : fr s10) (f12 : fr s12) {E : SE}
    (k : ∀ s9 s10, fr s9 → fr s10 → E.nx [.sc ns, .ow false d, .fz (.list rows), .fz r3, .fz (hD ks cs), .fz (.list (bg.map tS)), .fz (.list (parts.map tS)), .ow false d7, .fz (tS q), s9, s10, s11, s12]) :
    (sSeq (sSetF 9 (dCall sp_least_beginning (aCons (dVar 4) (aCons (dVar 8) aNil))))
  (sSeq (sSetF 10 (dLc [12] (iSeq (dVar 5)) (gN 12) (bTru (dCall sp__law_within (aCons (dVar 8) (aCons (dVar 12) aNil)))) (dVar 12)))
  (sIf (bOr (bVal (dBin (gIn true) (dB gRepr (aCons (dVar 9) aNil)) (dLc [12] (iSeq (dVar 10)) (gN 12) bYes (dB gRepr (aCons (dVar 12) aNil))))) (bVal (dBin gNe (dLc [12] (iSeq (dVar 10)) (gN 12) (bNot (bTru (dCall sp__law_within (aCons (dVar 9) (aCons (dVar 12) aNil))))) (dVar 12)) (dLst aNil)))) (sRet (dC (.bool false))) sNext))) [.sc ns, .ow false d, .fz (.list rows), .fz r3, .fz (hD ks cs), .fz (.list (bg.map tS)), .fz (.list (parts.map tS)), .ow false d7, .fz (tS q), s9, s10, s11, s12] E := by
  have hbl := h.bl
  have bms : ∀ w ∈ bg, Nms w := fun w hw x hx => menu_ok x ((h.mn hw).1 x hx)
  have qms : Nms q := fun x hx => h.h.nms x (hq.1 x hx)
  ((try dsimp only); refine st_seq ?_)
  refine u_setF (u_call (u_cons (ev_var rfl _ (u_cons (ev_var rfl _ (u_nil ⟨[.fz (hD ks cs), .fz (tS q)], rfl, by simp [alsO], ks, cs, q, h.h, hq.1, hq.2, rfl, fun l hl => ⟨rfl, ?_⟩⟩))))))
  refine ⟨.fz (tS l), rfl, f9.pin rfl, ?_⟩
  obtain ⟨⟨qq, hlq⟩, l1, l2, l3⟩ := hl
  have lsub : l.Sublist ks := by rw [hlq]; exact List.filter_sublist
  have lbg : l ∈ bg := h.beg.mpr ⟨lsub, l2⟩
  ((try dsimp only); refine st_seq ?_)
  have over : Ev (dLc [12] (iSeq (dVar 5)) (gN 12) (bTru (dCall sp__law_within (aCons (dVar 8) (aCons (dVar 12) aNil)))) (dVar 12)) [.sc ns, .ow false d, .fz (.list rows), .fz r3, .fz (hD ks cs), .fz (.list (bg.map tS)), .fz (.list (parts.map tS)), .ow false d7, .fz (tS q), .fz (tS l), s10, s11, s12] (.nw (.list ((bg.filter fun w => q.all fun k => decide (k ∈ w)).map tS))) [.sc ns, .ow false d, .fz (.list rows), .fz r3, .fz (hD ks cs), .fz (.list (bg.map tS)), .fz (.list (parts.map tS)), .ow false d7, .fz (tS q), .fz (tS l), s10, s11, s12] := by
    have := ev_lc (te := dVar 12) (tt := bTru (dCall sp__law_within (aCons (dVar 8) (aCons (dVar 12) aNil)))) (i := 12) (items := bg.map tS) (env := [.sc ns, .ow false d, .fz (.list rows), .fz r3, .fz (hD ks cs), .fz (.list (bg.map tS)), .fz (.list (parts.map tS)), .ow false d7, .fz (tS q), .fz (tS l), s10, s11, s12]) (evi_seq (d := .list (bg.map tS)) (o := .fz (.list (bg.map tS))) (ev_var (i := 5) rfl) rfl rfl) trivial (by rw [List.length_map]; show _ ≤ 2 ^ 24; omega) (f12.ow rfl) (fun z => q.all fun k => decide (k ∈ unT z)) id (fun z hz => by
      obtain ⟨w, hw, rfl⟩ := List.mem_map.mp hz
      rw [unT_tS]
      exact evt_tru (ev_call (args := [.fz (tS q), .fz (tS w)]) (args' := [.fz (tS q), .fz (tS w)]) (o := .fz (.bool (q.all fun k => decide (k ∈ w)))) (ev_cons (ev_var rfl) (ev_cons (ev_var rfl) ev_nil)) rfl (by simp [alsO]) (fun R hR => ⟨q, w, qms, bms w hw, by omega, rfl, hR⟩) rfl rfl) rfl rfl) (fun z hz _ => ⟨_, ev_var rfl, rfl⟩)
    rw [List.map_id, filter_tS (fun w => q.all fun k => decide (k ∈ w))] at this
    exact this
  refine st_setF over rfl (f10.pin rfl) ?_
  dsimp only
  generalize hov : (bg.filter fun w => q.all fun k => decide (k ∈ w)) = ov at over
  have ovm : ∀ w ∈ ov, w ∈ bg ∧ ∀ k ∈ q, k ∈ w := fun w hw => by
    rw [← hov] at hw
    obtain ⟨a, b⟩ := List.mem_filter.mp hw
    simp only [List.all_eq_true, decide_eq_true_eq] at b
    exact ⟨a, b⟩
  have ovl : ov.length ≤ 32768 := by
    rw [← hov]
    exact Nat.le_trans (List.length_filter_le _ _) hbl
  have lov : l ∈ ov := by
    rw [← hov]
    exact List.mem_filter.mpr ⟨lbg, by simp only [List.all_eq_true, decide_eq_true_eq]; exact l1⟩
  have rep : ∀ w ∈ bg, gRepr [tS w] = some (.fz (.str (tS w).shown)) := fun w hw => repr_ok (okd_tS (h.mn hw).1 (Nat.le_trans (h.mn hw).2 (by decide)))
  have rsh : ∀ w ∈ bg, PyData.strOk (tS w).shown = true := fun w hw => (shown_tS (h.mn hw).1).1
  have reprs : Ev (dLc [12] (iSeq (dVar 10)) (gN 12) bYes (dB gRepr (aCons (dVar 12) aNil))) [.sc ns, .ow false d, .fz (.list rows), .fz r3, .fz (hD ks cs), .fz (.list (bg.map tS)), .fz (.list (parts.map tS)), .ow false d7, .fz (tS q), .fz (tS l), .fz (.list (ov.map tS)), s11, s12] (.nw (lS (ov.map fun w => (tS w).shown))) [.sc ns, .ow false d, .fz (.list rows), .fz r3, .fz (hD ks cs), .fz (.list (bg.map tS)), .fz (.list (parts.map tS)), .ow false d7, .fz (tS q), .fz (tS l), .fz (.list (ov.map tS)), s11, s12] := by
    have := ev_lc (te := dB gRepr (aCons (dVar 12) aNil)) (tt := bYes) (i := 12) (items := ov.map tS) (env := [.sc ns, .ow false d, .fz (.list rows), .fz r3, .fz (hD ks cs), .fz (.list (bg.map tS)), .fz (.list (parts.map tS)), .ow false d7, .fz (tS q), .fz (tS l), .fz (.list (ov.map tS)), s11, s12]) (evi_seq (d := .list (ov.map tS)) (o := .fz (.list (ov.map tS))) (ev_var (i := 10) rfl) rfl rfl) trivial (by rw [List.length_map]; show _ ≤ 2 ^ 24; omega) (f12.ow rfl) (fun _ => true) (fun z => .str z.shown) (fun z hz => evt_yes) (fun z hz _ => by
      obtain ⟨w, hw, rfl⟩ := List.mem_map.mp hz
      exact ⟨.fz (.str (tS w).shown), ev_B (ev_cons (ev_var rfl) ev_nil) rfl (rep w (ovm w hw).1), rfl⟩)
    rw [List.filter_eq_self.mpr (fun _ _ => rfl), List.map_map] at this
    have e : ov.map ((fun z => PyData.str z.shown) ∘ tS) = (ov.map fun w => (tS w).shown).map .str := by rw [List.map_map]; rfl
    rw [e] at this
    exact this
  have none2 : Ev (dLc [12] (iSeq (dVar 10)) (gN 12) (bNot (bTru (dCall sp__law_within (aCons (dVar 9) (aCons (dVar 12) aNil))))) (dVar 12)) [.sc ns, .ow false d, .fz (.list rows), .fz r3, .fz (hD ks cs), .fz (.list (bg.map tS)), .fz (.list (parts.map tS)), .ow false d7, .fz (tS q), .fz (tS l), .fz (.list (ov.map tS)), s11, s12] (.nw (.list [])) [.sc ns, .ow false d, .fz (.list rows), .fz r3, .fz (hD ks cs), .fz (.list (bg.map tS)), .fz (.list (parts.map tS)), .ow false d7, .fz (tS q), .fz (tS l), .fz (.list (ov.map tS)), s11, s12] := by
    have lms := bms l lbg
    have ll := (h.mn lbg).2
    have := ev_lc (te := dVar 12) (tt := bNot (bTru (dCall sp__law_within (aCons (dVar 9) (aCons (dVar 12) aNil))))) (i := 12) (items := ov.map tS) (env := [.sc ns, .ow false d, .fz (.list rows), .fz r3, .fz (hD ks cs), .fz (.list (bg.map tS)), .fz (.list (parts.map tS)), .ow false d7, .fz (tS q), .fz (tS l), .fz (.list (ov.map tS)), s11, s12]) (evi_seq (d := .list (ov.map tS)) (o := .fz (.list (ov.map tS))) (ev_var (i := 10) rfl) rfl rfl) trivial (by rw [List.length_map]; show _ ≤ 2 ^ 24; omega) (f12.ow rfl) (fun z => !(l.all fun k => decide (k ∈ unT z))) id (fun z hz => by
      obtain ⟨w, hw, rfl⟩ := List.mem_map.mp hz
      rw [unT_tS]
      exact evt_not (evt_tru (ev_call (args := [.fz (tS l), .fz (tS w)]) (args' := [.fz (tS l), .fz (tS w)]) (o := .fz (.bool (l.all fun k => decide (k ∈ w)))) (ev_cons (ev_var rfl) (ev_cons (ev_var rfl) ev_nil)) rfl (by simp [alsO]) (fun R hR => ⟨l, w, lms, bms w (ovm w hw).1, by omega, rfl, hR⟩) rfl rfl) rfl rfl)) (fun z hz _ => ⟨_, ev_var rfl, rfl⟩)
    rw [List.map_id, filter_tS (fun w => !(l.all fun k => decide (k ∈ w)))] at this
    have e : ov.filter (fun w => !(l.all fun k => decide (k ∈ w))) = [] := List.filter_eq_nil_iff.mpr fun w hw => by
      have := l3 w (ovm w hw).2 ((h.beg.mp (ovm w hw).1).2)
      simpa using this
    rw [e] at this
    exact this
  have rms : Nms (ov.map fun w => (tS w).shown) := fun x hx => by
    obtain ⟨w, hw, rfl⟩ := List.mem_map.mp hx
    exact rsh w (ovm w hw).1
  refine st_if (b := false) (evt_or0 (evt_val (ev_bin (o := .fz (.bool false)) (ev_B (ev_cons (ev_var rfl) ev_nil) rfl (rep l lbg)) reprs rfl rfl ?_)) (evt_val (ev_bin none2 (ev_lst ev_nil rfl (by decide)) rfl rfl ?_))) (fun z => by cases z) (fun _ => k _ _ fr.fz fr.fz)
  · rw [in_l (rsh l lbg) rms]
    have : (tS l).shown ∈ ov.map fun w => (tS w).shown := List.mem_map_of_mem lov
    rw [decide_eq_true this]; rfl
  · rw [ne_of' (Sh.lst (n := 0) (ds := []) (by simp)) (Sh.lst (n := 0) (ds := []) (by simp)), eqv_nil]; rfl
end G
end
section
set_option Elab.async false
set_option linter.all false
set_option maxRecDepth 100000
/-! M28o: one row of the law. -/
namespace G
open PySem DL

theorem Row.fst {ks : List Str} {cs : List (List Str)} (h : House 6 8 ks cs) {bg : List (List Str)} (hb : sortD ((begs ks cs).map tS) = bg.map tS) (bp : bg.Perm (begs ks cs)) {ps : List (List Str)} (hp : ∀ q ∈ ps, ∀ k ∈ q, k ∈ ks) (hl : ∀ q ∈ ps, q.length ≤ 6) (pl : ps.length ≤ 4) : Row ks cs bg ([] :: ks :: ps) :=
  ⟨h, hb, bp, fun q hq => by
    rcases List.mem_cons.mp hq with rfl | hq
    · exact ⟨by simp, by simp⟩
    · rcases List.mem_cons.mp hq with rfl | hq
      · exact ⟨fun k hk => hk, Nat.le_trans h.ln (by decide)⟩
      · exact ⟨hp q hq, Nat.le_trans (hl q hq) (by decide)⟩, by simp only [List.length_cons]; omega⟩
theorem row_make {ns : List Int} {d : D} {rows : List D} {s3 s4 s5 s6 : DL.Slot} {E : SE} (bd : isBag d) (rl : rows.length < 4) (f4 : fr s4) (f5 : fr s5) (f6 : fr s6)
    (k : ∀ d' r s4 s5 s6, isBag d' → isRow r → fr s4 → fr s5 → fr s6 → E.nx [.sc ns, .ow false d', .ow false (.list (rows ++ [r])), s3, s4, s5, s6, .un, .un, .un, .un, .un, .un]) :
    (sSeq (sSetF 4 (dCall sp__law_house (aCons (dVar 1) (aCons (dC (.int 6)) (aCons (dC (.int 8)) aNil)))))
  (sSeq (sSetF 5 (dCall sp__law_beginnings (aCons (dVar 4) aNil)))
  (sSeq (sSetF 6 (dBin gAdd (dLst (aCons (dTup aNil) (aCons (dBin gIx (dVar 4) (dC (.int 0))) aNil))) (dLc [11] (iR1 (dC (.int 4))) (gN 11) bYes (dCall sp__law_set (aCons (dVar 4) (aCons (dCall sp__law_some (aCons (dVar 1) (aCons (dB gList (aCons (dBin gIx (dVar 4) (dC (.int 0))) aNil)) (aCons (dC (.int 6)) aNil)))) aNil))))))
  (sDrop (dMutL 2 gAppend (aCons (dTup (aCons (dVar 4) (aCons (dVar 5) (aCons (dVar 6) aNil)))) aNil)))))) [.sc ns, .ow false d, .ow false (.list rows), s3, s4, s5, s6, .un, .un, .un, .un, .un, .un] E := by
  ((try dsimp only); refine st_seq ?_)
  refine u_setF ?_
  refine bag_call (i := 1) (p := false) (d := d) (ss := [.fz (.int 6), .fz (.int 8)]) (os := [.fz (.int 6), .fz (.int 8)]) (ev_cons (ev_own rfl) (ev_cons ev_c (ev_cons ev_c ev_nil))) rfl rfl rfl fun R' hR' => ⟨d, 6, 8, bd, by decide, by decide, by decide, by decide, rfl, fun ks cs d1 hh b1 => hR' _ d1 rfl ⟨_, rfl, f4.pin rfl, ?_⟩⟩
  replace hh : House 6 8 ks cs := hh
  obtain ⟨bg, hbg, bp⟩ := unmap (f := tS) unT unT_tS (sortD_perm ((begs ks cs).map tS))
  ((try dsimp only); refine st_seq ?_)
  refine st_setF (o := .nw (.list (bg.map tS))) (ev_call (args := [.fz (hD ks cs)]) (args' := [.fz (hD ks cs)]) (ev_cons (ev_var rfl) ev_nil) rfl (by simp [alsO]) (fun R hR => ⟨ks, cs, hh, rfl, by rw [hbg]; exact hR⟩) rfl rfl) rfl (f5.pin rfl) ?_
  ((try dsimp only); refine st_seq ?_)
  have l0 : ∀ d, Ev (dLst (aCons (dTup aNil) (aCons (dBin gIx (dVar 4) (dC (.int 0))) aNil))) [.sc ns, .ow false d, .ow false (.list rows), s3, .fz (hD ks cs), .fz (.list (bg.map tS)), s6, .un, .un, .un, .un, .un, .un] (.nw (.list [.tuple [], tS ks])) [.sc ns, .ow false d, .ow false (.list rows), s3, .fz (hD ks cs), .fz (.list (bg.map tS)), s6, .un, .un, .un, .un, .un, .un] := fun d => ev_lst (ev_cons (ev_tup ev_nil rfl (by decide)) (ev_cons (ev_bin (ev_var rfl) ev_c rfl rfl rfl) ev_nil)) rfl (by show 2 ≤ 2 ^ 24; decide)
  refine u_setF (u_bin (l0 _ _ ?_))
  refine (evi_r1 ev_c (by decide) (by decide)) _ ⟨by rw [rngD_len]; decide, ?_⟩
  refine lcGo_drawW (i := 11) (fun d => [.sc ns, .ow false d, .ow false (.list rows), s3, .fz (hD ks cs), .fz (.list (bg.map tS)), s6, .un, .un, .un, .un, .un, .un]) (fun d x => [.sc ns, .ow false d, .ow false (.list rows), s3, .fz (hD ks cs), .fz (.list (bg.map tS)), s6, .un, .un, .un, .un, .fz x, .un]) (fun _ x => ∃ q : List Str, x = tS q ∧ (∀ k ∈ q, k ∈ ks) ∧ q.length ≤ 6) false (fun _ => rfl) (fun _ => rfl) (fun _ _ => rfl) (fun _ _ _ => rfl) _ [] d1 _ b1 (fun x hx d2 Y N b2 hY _ => ?_) (fun xs d2 hp b2 => ?_)
  · unfold bYes
    dsimp only
    rw [if_pos rfl]
    refine u_call (u_cons (ev_var rfl _ (u_cons ?_)))
    refine bag_call (i := 1) (p := false) (d := d2) (ss := [.fz (.list (ks.map .str)), .fz (.int 6)]) (os := [.nw (.list (ks.map .str)), .fz (.int 6)]) (ev_cons (ev_own rfl) (ev_cons (ev_B (ev_cons (ev_bin (ev_var rfl) ev_c rfl rfl rfl) ev_nil) rfl rfl) (ev_cons ev_c ev_nil))) rfl rfl rfl fun R' hR' => ⟨d2, .list (ks.map .str), ks.map .str, 6, b2, rfl, by rw [List.length_map]; have := hh.ln; omega, sort_strs hh.nms, by decide, by decide, rfl, fun ds' d3 hds b3 => hR' _ d3 rfl ?_⟩
    obtain ⟨p, rfl, hp⟩ := strs_of hds
    refine u_nil ⟨[.fz (hD ks cs), .fz (tS p)], rfl, by simp [alsO], ks, cs, p, hh.mono (by decide) (by decide), (fun k hk => hh.nms k (hp k hk)), rfl, rfl, _, rfl, ?_⟩
    exact hY _ d3 ⟨_, rfl, fun k hk => (List.mem_filter.mp hk).1, Nat.le_trans (List.length_filter_le _ _) hh.ln⟩ b3
  · obtain ⟨ps, rfl, hps, hpl⟩ : ∃ ps : List (List Str), xs = ps.map tS ∧ (∀ q ∈ ps, (∀ k ∈ q, k ∈ ks) ∧ q.length ≤ 6) ∧ ps.length ≤ 4 := by
      have hl := hp.len
      rw [rngD_len] at hl
      have gen : ∀ {ds xs : List D}, Picks (fun _ x => ∃ q : List Str, x = tS q ∧ (∀ k ∈ q, k ∈ ks) ∧ q.length ≤ 6) false ds xs → ∃ ps : List (List Str), xs = ps.map tS ∧ (∀ q ∈ ps, (∀ k ∈ q, k ∈ ks) ∧ q.length ≤ 6) := by
        intro ds xs h
        induction h with
        | nil => exact ⟨[], rfl, by simp⟩
        | take h _ ih =>
          obtain ⟨q, rfl, hq⟩ := h
          obtain ⟨ps, rfl, hps⟩ := ih
          exact ⟨q :: ps, rfl, fun q' hq' => (List.mem_cons.mp hq').elim (fun e => e ▸ hq) (hps q')⟩
        | skip h _ _ => cases h
      obtain ⟨ps, rfl, hps⟩ := gen hp
      rw [List.length_map] at hl
      exact ⟨ps, rfl, hps, by rw [hl]; decide⟩
    have row := Row.fst hh hbg bp (fun q hq => (hps q hq).1) (fun q hq => (hps q hq).2) hpl
    refine ⟨_, _, .nw (.list (([] :: ks :: ps).map tS)), rfl, rfl, ?_, _, rfl, f6.pin rfl, ?_⟩
    · show (if _ then _ else _) = _
      rw [if_pos (by simp only [List.nil_append, List.length_cons, List.length_nil, List.length_map]; show _ ≤ 2 ^ 24; omega)]
      rfl
    · dsimp only
      refine st_drop (o := .fz .none) (ev_mut rfl (ev_cons (ev_tup (ev_cons (ev_var rfl) (ev_cons (ev_var rfl) (ev_cons (ev_var rfl) ev_nil))) rfl (by show 3 ≤ 2 ^ 24; decide)) ev_nil) rfl rfl (append_ok (by show _ < 2 ^ 24; omega)) rfl) ?_
      exact k d2 (rowD ks cs bg ([] :: ks :: ps)) _ _ _ b2 ⟨ks, cs, bg, _, row, rfl⟩ fr.fz fr.fz fr.fz
end G
end
section
set_option Elab.async false
set_option linter.all false
set_option maxRecDepth 100000
/-! M28p: the law of k28 is served. -/
namespace G
open PySem DL

/-- a slot that may be bound anew -/
def nb (s : DL.Slot) : Prop := s = .un ∨ ∃ d, s = .ow false d
theorem nb.pin {env : SEnv} {i : Nat} {s : DL.Slot} (h : nb s) (e : env[i]? = some s) : notPin env i = true := by
  unfold notPin
  rcases h with rfl | ⟨d, rfl⟩ <;> rw [e]
theorem row_turn {ns : List Int} {d r3 : D} {rows : List D} {ks : List Str} {cs bg parts : List (List Str)} (h : Row ks cs bg parts) (bd : isBag d) {s7 s8 s9 s10 s11 s12 : DL.Slot} (f7 : nb s7) (f8 : fr s8) (f9 : fr s9) (f10 : fr s10) (f12 : fr s12) {E : SE}
    (k : ∀ d' s7 s8 s9 s10, isBag d' → nb s7 → fr s8 → fr s9 → fr s10 → E.nx [.sc ns, .ow false d', .fz (.list rows), .fz r3, .fz (hD ks cs), .fz (.list (bg.map tS)), .fz (.list (parts.map tS)), s7, s8, s9, s10, s11, s12]) :
    (sSeq (sSet 7 (dCall sp_beginning_sets (aCons (dVar 4) aNil)))
  (sSeq (sIf (bNot (bTru (dCall sp__law_alike (aCons (dVar 7) (aCons (dVar 5) aNil))))) (sRet (dC (.bool false))) sNext)
  (sSeq (sDrop (dMutL 7 gAppend (aCons (dC .none) aNil)))
  (sSeq (sDrop (dMutL 7 gReverse aNil))
  (sFor (iSeq (dCall sp__law_mixed (aCons (dVar 1) (aCons (dVar 6) aNil)))) (gN 8) (sSeq (sSetF 9 (dCall sp_least_beginning (aCons (dVar 4) (aCons (dVar 8) aNil))))
  (sSeq (sSetF 10 (dLc [12] (iSeq (dVar 5)) (gN 12) (bTru (dCall sp__law_within (aCons (dVar 8) (aCons (dVar 12) aNil)))) (dVar 12)))
  (sIf (bOr (bVal (dBin (gIn true) (dB gRepr (aCons (dVar 9) aNil)) (dLc [12] (iSeq (dVar 10)) (gN 12) bYes (dB gRepr (aCons (dVar 12) aNil))))) (bVal (dBin gNe (dLc [12] (iSeq (dVar 10)) (gN 12) (bNot (bTru (dCall sp__law_within (aCons (dVar 9) (aCons (dVar 12) aNil))))) (dVar 12)) (dLst aNil)))) (sRet (dC (.bool false))) sNext)))))))) [.sc ns, .ow false d, .fz (.list rows), .fz r3, .fz (hD ks cs), .fz (.list (bg.map tS)), .fz (.list (parts.map tS)), s7, s8, s9, s10, s11, s12] E := by
  ((try dsimp only); refine st_seq ?_)
  refine st_set (o := .nw (.list (bg.map tS))) (ev_call (args := [.fz (hD ks cs)]) (args' := [.fz (hD ks cs)]) (ev_cons (ev_var rfl) ev_nil) rfl (by simp [alsO]) (fun R hR => ⟨ks, cs, h.h, rfl, by rw [h.b]; exact hR⟩) rfl rfl) rfl (f7.pin rfl) ?_
  ((try dsimp only); refine st_seq ?_)
  refine st_if (b := false) (evt_not (b := true) (evt_tru (ev_call (args := [.ow true (.list (bg.map tS)), .fz (.list (bg.map tS))]) (args' := [.ow true (.list (bg.map tS)), .fz (.list (bg.map tS))]) (o := .fz (.bool true)) (ev_cons (ev_own rfl) (ev_cons (ev_var rfl) ev_nil)) rfl (by simp [alsO]) (fun R hR => ⟨_, _, .list (bg.map tS), .inr rfl, .inl rfl, h.ok.x, rfl, hR⟩) rfl rfl) rfl rfl)) (fun z => by cases z) (fun _ => ?_)
  unfold sNext
  ((try dsimp only); refine st_seq ?_)
  refine st_drop (o := .fz .none) (ev_mut rfl (ev_cons ev_c ev_nil) rfl rfl (append_ok (by rw [List.length_map]; have := h.bl; show _ < 2 ^ 24; omega)) rfl) ?_
  ((try dsimp only); refine st_seq ?_)
  refine st_drop (o := .fz .none) (ev_mut rfl ev_nil rfl rfl rfl rfl) ?_
  dsimp only
  refine u_for (u_seq (mixed_ev (i := 1) (ds := parts.map tS) (o := .fz (.list (parts.map tS))) (ev_cons (ev_own rfl) (ev_cons (ev_var rfl) ev_nil)) rfl bd (.inl rfl) rfl (by rw [List.length_map]; have := h.pl; omega) fun ds' d' hp b' => ⟨_, _, rfl, rfl, rfl, ?_⟩))
  refine forGo_inv (fun pre e => ∃ s8 s9 s10, fr s8 ∧ fr s9 ∧ fr s10 ∧ e = [.sc ns, .ow false d', .fz (.list rows), .fz r3, .fz (hD ks cs), .fz (.list (bg.map tS)), .fz (.list (parts.map tS)), .ow false (.list ((bg.map tS ++ [PyData.none]).reverse)), s8, s9, s10, s11, s12]) ⟨s8, s9, s10, f8, f9, f10, rfl⟩ ?_ ?_
  · rintro pre x post e E1 hi ⟨s8, s9, s10, f8, f9, f10, rfl⟩ nx _ _ _
    obtain ⟨q, hq, rfl⟩ := List.mem_map.mp (hp.mem_iff.mp (show x ∈ ds' by rw [hi]; simp))
    exact ⟨f8.pin rfl, part_turn h (h.p q hq) f9 f10 f12 fun s9 s10 f9 f10 => nx _ ⟨_, s9, s10, fr.fz, f9, f10, rfl⟩⟩
  · rintro e ⟨s8, s9, s10, f8, f9, f10, rfl⟩
    exact k d' _ s8 s9 s10 b' (.inr ⟨_, rfl⟩) f8 f9 f10
theorem serves_law : Serves N_law ps_law t_law sp_law := by
  rintro args R ⟨ns, rfl, hR⟩
  refine ⟨rfl, rfl, ?_⟩
  unfold t_law
  ((try dsimp only); refine st_seq ?_)
  refine u_par (u_call (u_cons (ev_scr rfl _ (u_nil ⟨[.sc ns], rfl, by simp [alsO], ns, rfl, fun d bd => ⟨rfl, ?_⟩⟩))))
  refine ev_lst ev_nil rfl (by decide) _ ⟨_, _, rfl, rfl, rfl, rfl, ?_⟩
  dsimp only
  ((try dsimp only); refine st_seq ?_)
  refine for_inv (evi_r1 ev_c (by decide) (by decide)) (fun pre e => ∃ (d : D) (rows : List D) (s3 s4 s5 s6 : DL.Slot), isBag d ∧ (∀ r ∈ rows, isRow r) ∧ rows.length = pre.length ∧ fr s3 ∧ (pre ≠ [] → ∃ r, s3 = .fz r) ∧ fr s4 ∧ fr s5 ∧ fr s6 ∧ e = [.sc ns, .ow false d, .ow false (.list rows), s3, s4, s5, s6, .un, .un, .un, .un, .un, .un]) ⟨d, [], .un, .un, .un, .un, bd, by simp, rfl, fr.un, by simp, fr.un, fr.un, fr.un, rfl⟩ ?_ ?_
  · rintro pre x post e E1 hi ⟨d, rows, s3, s4, s5, s6, bd, hrows, rl, f3, _, f4, f5, f6, rfl⟩ nx _ _ _
    obtain ⟨_, hpl⟩ := split_at hi
    rw [rngD_len] at hpl
    replace hpl : pre.length < 4 := hpl
    refine ⟨f3.pin rfl, ?_⟩
    exact row_make bd (by omega) f4 f5 f6 fun d' r s4 s5 s6 b' hr f4 f5 f6 => nx _ ⟨d', rows ++ [r], .fz x, s4, s5, s6, b', fun r' hr' => (List.mem_append.mp hr').elim (hrows r') (fun e => by rw [List.mem_singleton.mp e]; exact hr), by rw [List.length_append, List.length_append, rl]; rfl, fr.fz, fun _ => ⟨x, rfl⟩, f4, f5, f6, rfl⟩
  · rintro e ⟨d, rows, s3, s4, s5, s6, bd, hrows, rl, f3, n3, f4, f5, f6, rfl⟩
    obtain ⟨r3, rfl⟩ := n3 (fun e => by have := congrArg List.length e; rw [rngD_len] at this; cases this)
    rw [rngD_len] at rl
    replace rl : rows.length = 4 := rl
    dsimp only
    unfold sFrz
    dsimp only [List.getElem?_cons_succ, List.getElem?_cons_zero, List.set_cons_succ, List.set_cons_zero]
    ((try dsimp only); refine st_seq ?_)
    refine for_inv (items := rows ++ rows.take 1) (evi_seq (o := .nw (.list (rows ++ rows.take 1))) (ev_bin (ev_var rfl) (ev_sl (z := .nw (.list (rows.take 1))) (ev_var rfl) ev_no (ev_at ev_c) (by rw [← cut_to (ds := rows) (n := 1)]; rfl)) rfl rfl (by
      show (if _ then _ else _) = _
      rw [if_pos (by rw [List.length_take]; show _ ≤ 2 ^ 24; omega)])) rfl rfl) (fun pre e => ∃ (d : D) (s4 s5 s6 s7 s8 s9 s10 : DL.Slot), isBag d ∧ fr s4 ∧ fr s5 ∧ fr s6 ∧ nb s7 ∧ fr s8 ∧ fr s9 ∧ fr s10 ∧ e = [.sc ns, .ow false d, .fz (.list rows), .fz r3, s4, s5, s6, s7, s8, s9, s10, .un, .un]) ⟨d, s4, s5, s6, .un, .un, .un, .un, bd, f4, f5, f6, .inl rfl, fr.un, fr.un, fr.un, rfl⟩ ?_ ?_
    · rintro pre x post e E1 hi ⟨d, s4, s5, s6, s7, s8, s9, s10, bd, f4, f5, f6, f7, f8, f9, f10, rfl⟩ nx _ _ _
      have hx : x ∈ rows ++ rows.take 1 := by rw [hi]; simp
      obtain ⟨ks, cs, bg, parts, row, rfl⟩ := hrows x ((List.mem_append.mp hx).elim id fun h => List.mem_of_mem_take h)
      refine ⟨_, rfl, rfl, _, _, rfl, f4.pin rfl, _, _, rfl, f5.pin rfl, _, _, rfl, f6.pin rfl, rfl, ?_⟩
      exact row_turn row bd f7 f8 f9 f10 fr.un fun d' s7 s8 s9 s10 b' f7 f8 f9 f10 => nx _ ⟨d', _, _, _, s7, s8, s9, s10, b', fr.fz, fr.fz, fr.fz, f7, f8, f9, f10, rfl⟩
    · rintro e ⟨d, s4, s5, s6, s7, s8, s9, s10, bd, f4, f5, f6, f7, f8, f9, f10, rfl⟩
      dsimp only
      exact st_ret ev_c ⟨_, rfl, hR⟩
end G
end
section
set_option Elab.async false
set_option linter.all false
set_option maxRecDepth 100000
/-! P21: deeds, what they make of amounts, which of them may change places. No program here. -/
namespace G
open PySem DL

inductive Deed where
  | put (k : Str)
  | call (c : List Str)
abbrev Am := Str → Int
/-- the kind that a call takes -/
def takes (f : Am) (c : List Str) : Option Str := c.find? fun k => decide (0 < f k)
def less (f : Am) : Option Str → Am
  | none => f
  | some k => fun x => if x = k then f x - 1 else f x
def more (f : Am) (k : Str) : Am := fun x => if x = k then f x + 1 else f x
def act1 (f : Am) : Deed → Am
  | .put k => more f k
  | .call c => less f (takes f c)
def took (f : Am) : Deed → Option Str
  | .put _ => none
  | .call c => takes f c
def acts : Am → List Deed → Am
  | f, [] => f
  | f, d :: r => acts (act1 f d) r
def tooks : Am → List Deed → List (Option Str)
  | _, [] => []
  | f, d :: r => took f d :: tooks (act1 f d) r
/-- whether two deeds may change places -/
def may : Deed → Deed → Bool
  | .put _, .put _ => true
  | .put k, .call c => !decide (k ∈ c)
  | .call c, .put k => !decide (k ∈ c)
  | .call s, .call t => (fk s t).isEmpty && (fk t s).isEmpty
theorem may_comm (a b : Deed) : may a b = may b a := by
  cases a <;> cases b <;> simp [may, Bool.and_comm]

theorem less_at {f : Am} {k x : Str} : less f (some k) x = if x = k then f x - 1 else f x := rfl
theorem takes_congr {f g : Am} {c : List Str} (h : ∀ k ∈ c, f k = g k) : takes f c = takes g c := by
  unfold takes
  induction c with
  | nil => rfl
  | cons x c ih => rw [List.find?_cons, List.find?_cons, h x List.mem_cons_self, ih fun k hk => h k (List.mem_cons_of_mem _ hk)]
theorem takes_none {f : Am} {c : List Str} : takes f c = none ↔ ∀ k ∈ c, f k ≤ 0 := by
  unfold takes
  rw [List.find?_eq_none]
  exact ⟨fun h k hk => by have := h k hk; simp only [decide_eq_true_eq] at this; omega, fun h k hk => by have := h k hk; simp only [decide_eq_true_eq]; omega⟩
/-- the kinds in an order -/
def Asc (pos : Str → Nat) (c : List Str) : Prop := c.Pairwise fun a b => pos a < pos b
theorem takes_iff {pos : Str → Nat} {f : Am} {c : List Str} (h : Asc pos c) {k : Str} : takes f c = some k ↔ k ∈ c ∧ 0 < f k ∧ ∀ x ∈ c, 0 < f x → pos k ≤ pos x := by
  unfold takes
  induction c with
  | nil => simp
  | cons y c ih =>
    have h1 := List.pairwise_cons.mp h
    rw [List.find?_cons]
    by_cases hy : 0 < f y
    · rw [decide_eq_true hy]
      simp only [Option.some.injEq]
      constructor
      · rintro rfl
        refine ⟨List.mem_cons_self, hy, fun x hx _ => ?_⟩
        rcases List.mem_cons.mp hx with rfl | hx
        · exact Nat.le_refl _
        · exact Nat.le_of_lt (h1.1 x hx)
      · rintro ⟨hk, _, hm⟩
        rcases List.mem_cons.mp hk with rfl | hk
        · rfl
        · have := hm y List.mem_cons_self hy
          have := h1.1 k hk
          omega
    · rw [decide_eq_false hy]
      simp only
      rw [ih h1.2]
      constructor
      · rintro ⟨a, b, d⟩
        refine ⟨List.mem_cons_of_mem _ a, b, fun x hx hf => ?_⟩
        rcases List.mem_cons.mp hx with rfl | hx
        · exact absurd hf hy
        · exact d x hx hf
      · rintro ⟨a, b, d⟩
        refine ⟨?_, b, fun x hx hf => d x (List.mem_cons_of_mem _ hx) hf⟩
        rcases List.mem_cons.mp a with rfl | a
        · exact absurd b hy
        · exact a
theorem asc_inj {pos : Str → Nat} {c : List Str} (h : Asc pos c) {a b : Str} (ha : a ∈ c) (hb : b ∈ c) (e : pos a = pos b) : a = b := by
  induction c with
  | nil => cases ha
  | cons y c ih =>
    have h1 := List.pairwise_cons.mp h
    rcases List.mem_cons.mp ha with rfl | ha'
    · rcases List.mem_cons.mp hb with rfl | hb
      · rfl
      · have := h1.1 b hb; omega
    · rcases List.mem_cons.mp hb with rfl | hb
      · have := h1.1 a ha'; omega
      · exact ih h1.2 ha' hb
/-- what stands behind a kind -/
theorem asc_drop {pos : Str → Nat} {c : List Str} (h : Asc pos c) {a u : Str} (ha : a ∈ c) : u ∈ c.drop (c.idxOf a + 1) ↔ u ∈ c ∧ pos a < pos u := by
  induction c with
  | nil => cases ha
  | cons y c ih =>
    have h1 := List.pairwise_cons.mp h
    by_cases e : y = a
    · subst e
      rw [List.idxOf_cons_self, List.drop_succ_cons, List.drop_zero]
      refine ⟨fun hu => ⟨List.mem_cons_of_mem _ hu, h1.1 u hu⟩, fun ⟨hu, hp⟩ => ?_⟩
      rcases List.mem_cons.mp hu with rfl | hu
      · omega
      · exact hu
    · have hac : a ∈ c := (List.mem_cons.mp ha).resolve_left fun z => e z.symm
      have hb : (y == a) = false := by simpa using e
      rw [List.idxOf_cons, hb]
      show u ∈ (y :: c).drop (c.idxOf a + 1 + 1) ↔ _
      rw [List.drop_succ_cons, ih h1.2 hac]
      refine ⟨fun ⟨hu, hp⟩ => ⟨List.mem_cons_of_mem _ hu, hp⟩, fun ⟨hu, hp⟩ => ⟨?_, hp⟩⟩
      rcases List.mem_cons.mp hu with rfl | hu
      · have := h1.1 a hac; omega
      · exact hu
theorem fk_iff {pos : Str → Nat} {s t : List Str} (h : Asc pos s) {p : Str × Str} : p ∈ fk s t ↔ p.1 ∈ s ∧ p.1 ∈ t ∧ p.2 ∈ s ∧ pos p.1 < pos p.2 ∧ p.2 ∉ t := by
  unfold fk
  rw [List.mem_flatMap]
  constructor
  · rintro ⟨c, hc, hp⟩
    obtain ⟨u, hu, rfl⟩ := List.mem_map.mp hp
    obtain ⟨h1, h2⟩ := List.mem_filter.mp hc
    obtain ⟨h3, h4⟩ := List.mem_filter.mp hu
    have := (asc_drop h h1).mp h3
    exact ⟨h1, of_decide_eq_true h2, this.1, this.2, by simpa using h4⟩
  · rintro ⟨h1, h2, h3, h4, h5⟩
    exact ⟨p.1, List.mem_filter.mpr ⟨h1, by simpa using h2⟩, List.mem_map.mpr ⟨p.2, List.mem_filter.mpr ⟨(asc_drop h h1).mpr ⟨h3, h4⟩, by simpa using h5⟩, rfl⟩⟩
theorem fk_nil {pos : Str → Nat} {s t : List Str} (h : Asc pos s) (e : (fk s t).isEmpty = true) {c u : Str} (h1 : c ∈ s) (h2 : c ∈ t) (h3 : u ∈ s) (h4 : pos c < pos u) : u ∈ t := by
  refine Decidable.byContradiction fun hn => ?_
  have : (c, u) ∈ fk s t := (fk_iff h).mpr ⟨h1, h2, h3, h4, hn⟩
  rw [List.isEmpty_iff.mp e] at this
  cases this
/-- two calls without forks: which of them goes first does not count -/
theorem calls_may {pos : Str → Nat} {s t : List Str} (hs : Asc pos s) (ht : Asc pos t) (e1 : (fk s t).isEmpty = true) (e2 : (fk t s).isEmpty = true) (f : Am) : acts f [.call s, .call t] = acts f [.call t, .call s] := by
  show less (less f (takes f s)) (takes (less f (takes f s)) t) = less (less f (takes f t)) (takes (less f (takes f t)) s)
  cases ha : takes f s with
  | none =>
    have hn := takes_none.mp ha
    have : takes (less f (takes f t)) s = none := takes_none.mpr fun k hk => by
      have := hn k hk
      cases takes f t with
      | none => exact this
      | some y => rw [less_at]; split <;> omega
    rw [this]; rfl
  | some x =>
    cases hb : takes f t with
    | none =>
      have hn := takes_none.mp hb
      have : takes (less f (some x)) t = none := takes_none.mpr fun k hk => by
        have := hn k hk
        rw [less_at]; split <;> omega
      rw [this]
      show less f (some x) = less f (takes f s)
      rw [ha]
    | some y =>
      obtain ⟨xs, xf, xm⟩ := (takes_iff hs).mp ha
      obtain ⟨yt, yf, ym⟩ := (takes_iff ht).mp hb
      by_cases e : x = y
      · subst e
        -- both take the same first; then the next
        have key : takes (less f (some x)) t = takes (less f (some x)) s := by
          generalize hg : less f (some x) = g
          have gx : ∀ z, 0 < g z → 0 < f z := fun z hz => by rw [← hg, less_at] at hz; split at hz <;> omega
          have one : ∀ {a b : List Str}, Asc pos a → Asc pos b → (fk a b).isEmpty = true → (fk b a).isEmpty = true → x ∈ a → x ∈ b → (∀ z ∈ a, 0 < f z → pos x ≤ pos z) → (∀ z ∈ b, 0 < f z → pos x ≤ pos z) → ∀ u, takes g a = some u → takes g b = some u := fun {a b} ha hb eab eba xa xb ma mb u hu => by
            obtain ⟨u1, u2, u3⟩ := (takes_iff ha).mp hu
            have ux : pos x ≤ pos u := ma u u1 (gx u u2)
            have ub : u ∈ b := by
              rcases Nat.lt_or_eq_of_le ux with h | h
              · exact fk_nil ha eab xa xb u1 h
              · rw [← asc_inj ha xa u1 h]; exact xb
            refine (takes_iff hb).mpr ⟨ub, u2, fun z hz hf => ?_⟩
            have zx : pos x ≤ pos z := mb z hz (gx z hf)
            have za : z ∈ a := by
              rcases Nat.lt_or_eq_of_le zx with h | h
              · exact fk_nil hb eba xb xa hz h
              · rw [← asc_inj hb xb hz h]; exact xa
            exact u3 z za hf
          cases h1 : takes g t with
          | some u => exact (one ht hs e2 e1 yt xs ym xm u h1).symm
          | none =>
            cases h2 : takes g s with
            | none => rfl
            | some u => rw [one hs ht e1 e2 xs yt xm ym u h2] at h1; cases h1
        rw [key]
      · have k1 : takes (less f (some x)) t = some y := (takes_iff ht).mpr ⟨yt, by rw [less_at, if_neg (fun z => e z.symm)]; exact yf, fun z hz hf => ym z hz (by rw [less_at] at hf; split at hf <;> omega)⟩
        have k2 : takes (less f (some y)) s = some x := (takes_iff hs).mpr ⟨xs, by rw [less_at, if_neg e]; exact xf, fun z hz hf => xm z hz (by rw [less_at] at hf; split at hf <;> omega)⟩
        rw [k1, k2]
        funext z
        simp only [less_at]
        repeat' split
        all_goals omega
theorem put_call {k : Str} {c : List Str} (h : k ∉ c) (f : Am) : acts f [.put k, .call c] = acts f [.call c, .put k] := by
  show less (more f k) (takes (more f k) c) = more (less f (takes f c)) k
  have : takes (more f k) c = takes f c := takes_congr fun x hx => by
    unfold more
    rw [if_neg (fun e : x = k => h (by rw [← e]; exact hx))]
  rw [this]
  cases takes f c with
  | none => rfl
  | some y =>
    funext z
    simp only [less_at, more]
    repeat' split
    all_goals omega
theorem put_put (k l : Str) (f : Am) : acts f [.put k, .put l] = acts f [.put l, .put k] := by
  show more (more f k) l = more (more f l) k
  funext z
  simp only [more]
  repeat' split
  all_goals omega
/-- deeds with their kinds in order -/
def AscD (pos : Str → Nat) : Deed → Prop
  | .put _ => True
  | .call c => Asc pos c
theorem may_ok {pos : Str → Nat} {a b : Deed} (ha : AscD pos a) (hb : AscD pos b) (h : may a b = true) (f : Am) : acts f [a, b] = acts f [b, a] := by
  cases a with
  | put k =>
    cases b with
    | put l => exact put_put k l f
    | call c => exact put_call (by simpa [may] using h) f
  | call c =>
    cases b with
    | put k => exact (put_call (by simpa [may] using h) f).symm
    | call t =>
      unfold may at h
      rw [Bool.and_eq_true] at h
      exact calls_may ha hb h.1 h.2 f
/-- one thing of each of two kinds -/
def two (c u : Str) : Am := fun k => if k = c ∨ k = u then 1 else 0
theorem fork_parts {pos : Str → Nat} {s t : List Str} (hs : Asc pos s) (ht : Asc pos t) {p : Str × Str} (h : p ∈ fk s t) : acts (two p.1 p.2) [.call s, .call t] p.2 = 1 ∧ acts (two p.1 p.2) [.call t, .call s] p.2 = 0 := by
  obtain ⟨h1, h2, h3, h4, h5⟩ := (fk_iff hs).mp h
  have ne : p.2 ≠ p.1 := fun e => by rw [e] at h4; omega
  have f1 : two p.1 p.2 p.1 = 1 := if_pos (.inl rfl)
  have f2 : two p.1 p.2 p.2 = 1 := if_pos (.inr rfl)
  have f0 : ∀ z, 0 < two p.1 p.2 z → z = p.1 ∨ z = p.2 := fun z hz => by
    unfold two at hz
    split at hz
    · assumption
    · omega
  have g0 : ∀ z, 0 < less (two p.1 p.2) (some p.1) z → z = p.2 := fun z hz => by
    rw [less_at] at hz
    split at hz
    · rename_i e; rw [e, f1] at hz; omega
    · rename_i e; exact (f0 z hz).resolve_left e
  have ts : takes (two p.1 p.2) s = some p.1 := (takes_iff hs).mpr ⟨h1, by rw [f1]; omega, fun z _ hf => by
    rcases f0 z hf with rfl | rfl
    · exact Nat.le_refl _
    · exact Nat.le_of_lt h4⟩
  have tt : takes (two p.1 p.2) t = some p.1 := (takes_iff ht).mpr ⟨h2, by rw [f1]; omega, fun z hz hf => by
    rcases f0 z hf with rfl | rfl
    · exact Nat.le_refl _
    · exact absurd hz h5⟩
  have t2 : takes (less (two p.1 p.2) (some p.1)) t = none := takes_none.mpr fun k hk => by
    refine Int.not_lt.mp fun hf => ?_
    rw [g0 k hf] at hk
    exact h5 hk
  have s2 : takes (less (two p.1 p.2) (some p.1)) s = some p.2 := (takes_iff hs).mpr ⟨h3, by rw [less_at, if_neg ne, f2]; omega, fun z _ hf => by rw [g0 z hf]; exact Nat.le_refl _⟩
  constructor
  · show less (less _ (takes _ s)) (takes (less _ (takes _ s)) t) p.2 = 1
    rw [ts, t2]
    show less (two p.1 p.2) (some p.1) p.2 = 1
    rw [less_at, if_neg ne, f2]
  · show less (less _ (takes _ t)) (takes (less _ (takes _ t)) s) p.2 = 0
    rw [tt, s2, less_at, if_pos rfl, less_at, if_neg ne, f2]
    rfl
theorem put_parts {k : Str} {c : List Str} (h : k ∈ c) : acts (fun _ => 0) [.put k, .call c] k = 0 ∧ acts (fun _ => 0) [.call c, .put k] k = 1 := by
  have t0 : takes (fun _ => 0) c = none := takes_none.mpr fun _ _ => Int.le_refl _
  have m0 : ∀ z, 0 < more (fun _ => 0) k z → z = k := fun z hz => by
    unfold more at hz
    split at hz
    · assumption
    · exact absurd hz (Int.lt_irrefl 0)
  have t1 : takes (more (fun _ => 0) k) c = some k := by
    unfold takes
    have hf : (c.find? fun z => decide (0 < more (fun _ => 0) k z)).isSome := by
      rw [List.find?_isSome]
      exact ⟨k, h, by simp [more]⟩
    obtain ⟨z, hz⟩ := Option.isSome_iff_exists.mp hf
    have := List.find?_some hz
    rw [hz, m0 z (by simpa using this)]
  constructor
  · show less (more _ k) (takes (more _ k) c) k = 0
    rw [t1, less_at, if_pos rfl]
    simp [more]
  · show more (less _ (takes _ c)) k k = 1
    rw [t0]
    simp [more, less]
/-- the amounts by which they are parted -/
def first2 : List (Str × Str) → Am
  | p :: _ => two p.1 p.2
  | [] => fun _ => 0
def parts (ks : List Str) : Deed → Deed → Am
  | .call s, .call t => first2 (fk s t ++ fk t s)
  | _, _ => fun _ => 0
theorem first2_01 (l : List (Str × Str)) (k : Str) : first2 l k = 0 ∨ first2 l k = 1 := by
  cases l with
  | nil => exact .inl rfl
  | cons p r =>
    show two p.1 p.2 k = 0 ∨ two p.1 p.2 k = 1
    unfold two; split <;> simp
theorem parts_01 (ks : List Str) (a b : Deed) (k : Str) : parts ks a b k = 0 ∨ parts ks a b k = 1 := by
  unfold parts
  split
  · exact first2_01 _ k
  · exact .inl rfl
def inD (ks : List Str) : Deed → Prop
  | .put k => k ∈ ks
  | .call c => ∀ k ∈ c, k ∈ ks
theorem parts_ok {pos : Str → Nat} {ks : List Str} {a b : Deed} (ha : AscD pos a) (hb : AscD pos b) (ka : inD ks a) (kb : inD ks b) (h : may a b = false) : ∃ k ∈ ks, acts (parts ks a b) [a, b] k ≠ acts (parts ks a b) [b, a] k := by
  cases a with
  | put k =>
    cases b with
    | put l => cases h
    | call c =>
      have := put_parts (k := k) (c := c) (by simpa [may] using h)
      exact ⟨k, ka, by show acts (fun _ => 0) _ k ≠ acts (fun _ => 0) _ k; rw [this.1, this.2]; decide⟩
  | call s =>
    cases b with
    | put k =>
      have := put_parts (k := k) (c := s) (by simpa [may] using h)
      exact ⟨k, kb, by show acts (fun _ => 0) _ k ≠ acts (fun _ => 0) _ k; rw [this.1, this.2]; decide⟩
    | call t =>
      have hs : Asc pos s := ha
      have ht : Asc pos t := hb
      show ∃ k ∈ ks, acts (first2 (fk s t ++ fk t s)) _ k ≠ acts (first2 (fk s t ++ fk t s)) _ k
      cases h1 : fk s t with
      | cons p r =>
        have hp : p ∈ fk s t := by rw [h1]; exact List.mem_cons_self
        have := fork_parts hs ht hp
        refine ⟨p.2, ka _ ((fk_iff hs).mp hp).2.2.1, ?_⟩
        show acts (two p.1 p.2) _ _ ≠ acts (two p.1 p.2) _ _
        rw [this.1, this.2]; decide
      | nil =>
        cases h2 : fk t s with
        | nil =>
          have h : ((fk s t).isEmpty && (fk t s).isEmpty) = false := h
          rw [h1, h2] at h; cases h
        | cons p r =>
          have hp : p ∈ fk t s := by rw [h2]; exact List.mem_cons_self
          have := fork_parts ht hs hp
          refine ⟨p.2, kb _ ((fk_iff ht).mp hp).2.2.1, ?_⟩
          show acts (two p.1 p.2) _ _ ≠ acts (two p.1 p.2) _ _
          rw [this.1, this.2]; decide
/-- each kind in at most one step a deed -/
theorem act_low {f : Am} (h : ∀ k, 0 ≤ f k) (d : Deed) : ∀ k, 0 ≤ act1 f d k := fun k => by
  cases d with
  | put l => show 0 ≤ more f l k; unfold more; have := h k; split <;> omega
  | call c =>
    show 0 ≤ less f (takes f c) k
    cases e : takes f c with
    | none => exact h k
    | some y =>
      rw [less_at]
      split
      · rename_i z
        subst z
        unfold takes at e
        have := List.find?_some e
        simp only [decide_eq_true_eq] at this
        omega
      · exact h k
end G
end
section
set_option Elab.async false
set_option linter.all false
/-! S21: what the defs of k21 and k16 promise. -/
namespace G
open PySem DL

abbrev amD (ks : List Str) (f : Am) : D := .dict (ks.map fun k => (.str k, .int (f k)))
def dD : Deed → D
  | .put k => .tuple [.str "put", .str k]
  | .call c => .tuple [.str "call", tS c]
def oD : Option Str → D
  | none => .none
  | some k => .str k
/-- a deed of a house -/
def okD (ks : List Str) (cs : List (List Str)) : Deed → Prop
  | .put k => k ∈ ks
  | .call c => c ∈ cs
def unStr : D → Str
  | .str x => x
  | _ => ""
/-- kinds, ascending -/
def srt (ks : List Str) : List Str := (sortD (ks.map .str)).map unStr
abbrev stD (ds : List Deed) : D := .tuple (ds.map dD)
def sp_behind : SpD := fun args R => ∃ c k, Nms c ∧ k ∈ c ∧ c.length ≤ 1000 ∧ args = [.fz (tS c), .fz (.str k)] ∧ R (.fz (tS (c.drop (c.idxOf k + 1)))) args
def sp_forks_between : SpD := fun args R => ∃ s t, Nms s ∧ Nms t ∧ s.length ≤ 15 ∧ args = [.fz (tS s), .fz (tS t)] ∧ R (.nw (.list ((fk s t).map (fD s t)))) args
def sp__law_flat : SpD := fun args R => ∃ rows : List (List D), (rows.map List.length).sum ≤ 2 ^ 20 ∧ rows.length ≤ 2 ^ 20 ∧ args = [.fz (.list (rows.map .list))] ∧ R (.nw (.list rows.flatten)) args
def sp__law_acted : SpD := fun args R => ∃ ks cs kk ds f, House 15 100 ks cs ∧ kk.Perm ks ∧ (∀ d ∈ ds, okD ks cs d) ∧ ds.length ≤ 300 ∧ args = [.fz (hD ks cs), .fz (stD ds), .fz (amD kk f)] ∧
  R (.fz (.tuple [amD (srt ks) (acts f ds), .list ((tooks f ds).map oD)])) args
def sp__law_deeds : SpD := fun args R => ∃ ks cs, House 15 100 ks cs ∧ args = [.fz (hD ks cs)] ∧ R (.nw (.list ((ks.map Deed.put ++ cs.map Deed.call).map dD))) args
def sp__law_may_change : SpD := fun args R => ∃ ks cs a b, House 15 100 ks cs ∧ okD ks cs a ∧ okD ks cs b ∧ args = [.fz (.list (sortD (forksL cs))), .fz (dD a), .fz (dD b)] ∧ R (.fz (.bool (may a b))) args
def sp__law_is_told_amounts : SpD := fun args R => ∃ ks cs f, House 15 100 ks cs ∧ (∀ k, 0 ≤ f k) ∧ args = [.fz (hD ks cs), .fz (amD (srt ks) f)] ∧ R (.fz (.bool true)) args
/-- all amounts up to most, and no others that fall below nought -/
def allAm (ks : List Str) (most : Int) (fs : List Am) : Prop := (∀ g : Am, (∀ k ∈ ks, 0 ≤ g k ∧ g k ≤ most) → ∃ f ∈ fs, ∀ k ∈ ks, f k = g k) ∧ fs.length ≤ 2 ^ 16 ∧ ∀ f ∈ fs, ∀ k ∈ ks, 0 ≤ f k ∧ f k ≤ most
def sp__law_all_amounts : SpD := fun args R => ∃ ks cs most, House 6 100 ks cs ∧ 0 ≤ most ∧ most ≤ 2 ∧ args = [.fz (hD ks cs), .fz (.int most)] ∧ ∀ fs, allAm ks most fs → R (.nw (.list (fs.map (amD ks)))) args
/-- whether two deeds make the same of amounts, either way about -/
def alikeOn (ks : List Str) (a b : Deed) (f : Am) : Bool := ks.all fun k => acts f [a, b] k == acts f [b, a] k
def sp__law_are_alike : SpD := fun args R => ∃ (ks : List Str) (cs : List (List Str)) (a b : Deed) (kk : List Str) (fs : List Am), House 15 100 ks cs ∧ okD ks cs a ∧ okD ks cs b ∧ kk.Perm ks ∧ fs.length ≤ 2 ^ 16 ∧ args = [.fz (hD ks cs), .fz (dD a), .fz (dD b), .fz (.list (fs.map (amD kk)))] ∧ R (.fz (.bool (fs.all (alikeOn ks a b)))) args
def sp_fork_amounts : SpD := fun args R => ∃ ks cs s t, House 15 100 ks cs ∧ s ∈ cs ∧ t ∈ cs ∧ args = [.fz (hD ks cs), .fz (tS s), .fz (tS t)] ∧
  R (if may (.call s) (.call t) then .fz .none else .nw (amD (srt ks) (parts ks (.call s) (.call t)))) args
def sp_parted_by : SpD := fun args R => ∃ ks cs a b, House 15 100 ks cs ∧ okD ks cs a ∧ okD ks cs b ∧ args = [.fz (hD ks cs), .fz (dD a), .fz (dD b)] ∧
  R (if may a b then .fz .none else .nw (amD (srt ks) (parts ks a b))) args
def sp_may_change : SpD := fun args R => ∃ ks cs a b, House 15 100 ks cs ∧ okD ks cs a ∧ okD ks cs b ∧ args = [.fz (hD ks cs), .fz (dD a), .fz (dD b)] ∧ R (.fz (.bool (may a b))) args
def sp__law_right : SpD := fun args R => ∃ ks cs a b most fs, House 6 100 ks cs ∧ okD ks cs a ∧ okD ks cs b ∧ 1 ≤ most ∧ allAm ks most fs ∧ args = [.fz (hD ks cs), .fz (dD a), .fz (dD b), .fz (.list (sortD (forksL cs))), .fz (.list (fs.map (amD ks)))] ∧ R (.fz (.bool true)) args
end G
end
section
set_option Elab.async false
set_option linter.all false
set_option maxRecDepth 100000
set_option maxHeartbeats 0
namespace G21
open PySem PySem.Spec PyProof.Rows DL
open G

/-! behind -/
def N_behind : List Str := ["call", "kind"]
def ps_behind : List Str := ["call", "kind"]
def t_behind : DS := (sRet (dSl (dVar 0) (pAt (dBin gAdd (dMt gIndexT isTupD (dVar 0) (aCons (dVar 1) aNil)) (dC (.int 1)))) pNo))
/-! _law_flat -/
def N__law_flat : List Str := ["_law_rows", "_law_found", "_law_row"]
def ps__law_flat : List Str := ["_law_rows"]
def t__law_flat : DS := (sSeq (sSet 1 (dLst aNil))
  (sSeq (sFor (iSeq (dVar 0)) (gN 2) (sDrop (dMutL 1 gExtend (aCons (dVar 2) aNil))))
  (sRet (dVar 1))))
/-! _law_acted -/
def N__law_acted : List Str := ["_law_house_here", "_law_stretch", "_law_amounts", "_law_found", "_law_taken", "_law_word", "_law_what", "_law_kinds", "_law_kind"]
def ps__law_acted : List Str := ["_law_house_here", "_law_stretch", "_law_amounts"]
def t__law_acted : DS := (sSeq (sPar 3 4 (dB gDict (aCons (dLc [8] (iSeq (dB gSorted (aCons (dBin gIx (dVar 0) (dC (.int 0))) aNil))) (gN 8) bYes (dTup (aCons (dVar 8) (aCons (dBin gIx (dVar 2) (dVar 8)) aNil)))) aNil)) (dLst aNil))
  (sSeq (sFor (iSeq (dVar 1)) (gT 2 (gCons (gN 5) (gCons (gN 6) gNil))) (sSeq (sSetF 7 (dIf (bVal (dBin gEq (dVar 5) (dC (.str "call")))) (dSl (dLc [8] (iSeq (dVar 6)) (gN 8) (bVal (dBin gGt (dBin gIx (dVar 3) (dVar 8)) (dC (.int 0)))) (dVar 8)) pNo (pAt (dC (.int 1)))) (dLst aNil)))
  (sSeq (sIf (bVal (dBin gEq (dVar 5) (dC (.str "put")))) (sStoA 3 (fun a b => a + b) (dVar 6) (dC (.int 1))) sNext)
  (sSeq (sFor (iSeq (dVar 7)) (gN 8) (sStoA 3 (fun a b => a - b) (dVar 8) (dC (.int 1))))
  (sDrop (dMutL 4 gAppend (aCons (dIf (bVal (dBin gNe (dVar 7) (dLst aNil))) (dBin gIx (dVar 7) (dC (.int 0))) (dC .none)) aNil)))))))
  (sFrz 3 (sFrz 4 (sRet (dTup (aCons (dVar 3) (aCons (dVar 4) aNil))))))))
/-! _law_deeds -/
def N__law_deeds : List Str := ["_law_house_here", "_law_kind", "_law_call"]
def ps__law_deeds : List Str := ["_law_house_here"]
def t__law_deeds : DS := (sRet (dBin gAdd (dLc [1] (iSeq (dBin gIx (dVar 0) (dC (.int 0)))) (gN 1) bYes (dTup (aCons (dC (.str "put")) (aCons (dVar 1) aNil)))) (dLc [2] (iSeq (dBin gIx (dVar 0) (dC (.int 1)))) (gN 2) bYes (dTup (aCons (dC (.str "call")) (aCons (dVar 2) aNil))))))
/-! _law_may_change -/
def N__law_may_change : List Str := ["_law_forks_here", "_law_one_here", "_law_other", "_law_fork"]
def ps__law_may_change : List Str := ["_law_forks_here", "_law_one_here", "_law_other"]
def t__law_may_change : DS := (sSeq (sIf (bOr (bVal (dBin gEq (dBin gIx (dVar 1) (dC (.int 0))) (dC (.str "put")))) (bVal (dBin gEq (dBin gIx (dVar 2) (dC (.int 0))) (dC (.str "put"))))) (sSeq (sIf (bVal (dBin gEq (dBin gIx (dVar 1) (dC (.int 0))) (dBin gIx (dVar 2) (dC (.int 0))))) (sRet (dC (.bool true))) sNext)
  (sRet (dIf (bVal (dBin gEq (dBin gIx (dVar 1) (dC (.int 0))) (dC (.str "call")))) (dBin (gIn true) (dBin gIx (dVar 2) (dC (.int 1))) (dBin gIx (dVar 1) (dC (.int 1)))) (dBin (gIn true) (dBin gIx (dVar 1) (dC (.int 1))) (dBin gIx (dVar 2) (dC (.int 1))))))) sNext)
  (sRet (dBin gEq (dLc [3] (iSeq (dVar 0)) (gN 3) (bVal (dBin (gIn false) (dSl (dVar 3) pNo (pAt (dC (.int 2)))) (dTup (aCons (dTup (aCons (dBin gIx (dVar 1) (dC (.int 1))) (aCons (dBin gIx (dVar 2) (dC (.int 1))) aNil))) (aCons (dTup (aCons (dBin gIx (dVar 2) (dC (.int 1))) (aCons (dBin gIx (dVar 1) (dC (.int 1))) aNil))) aNil))))) (dVar 3)) (dLst aNil))))
/-! _law_is_told_amounts -/
def N__law_is_told_amounts : List Str := ["_law_house_here", "_law_thing", "_law_kind"]
def ps__law_is_told_amounts : List Str := ["_law_house_here", "_law_thing"]
def t__law_is_told_amounts : DS := (sSeq (sIf (bOr (bNot (bTru (dIsi "dict" (dVar 1)))) (bVal (dBin gNe (dB gList (aCons (dVar 1) aNil)) (dB gSorted (aCons (dBin gIx (dVar 0) (dC (.int 0))) aNil))))) (sRet (dC (.bool false))) sNext)
  (sRet (dBin gEq (dLcK 1 [2] (gN 2) (bOr (bNot (bTru (dIsi "int" (dBin gIx (dVar 1) (dVar 2))))) (bOr (bTru (dIsi "bool" (dBin gIx (dVar 1) (dVar 2)))) (bVal (dBin gLt (dBin gIx (dVar 1) (dVar 2)) (dC (.int 0)))))) (dVar 2)) (dLst aNil))))
/-! forks_between -/
def N_forks_between : List Str := ["one", "other", "both", "kind", "later"]
def ps_forks_between : List Str := ["one", "other"]
def t_forks_between : DS := (sSeq (sSetF 2 (dLc [3] (iSeq (dVar 0)) (gN 3) (bVal (dBin (gIn false) (dVar 3) (dVar 1))) (dVar 3)))
  (sRet (dLc2 [3, 4] [4] (iSeq (dVar 2)) (gN 3) bYes (iSeq (dCall sp_behind (aCons (dVar 0) (aCons (dVar 3) aNil)))) (gN 4) (bVal (dBin (gIn true) (dVar 4) (dVar 1))) (dTup (aCons (dVar 0) (aCons (dVar 1) (aCons (dVar 3) (aCons (dVar 4) aNil))))))))
/-! _law_all_amounts -/
def N__law_all_amounts : List Str := ["_law_house_here", "_law_most", "_law_found", "_law_kind", "_law_one_here", "_law_many"]
def ps__law_all_amounts : List Str := ["_law_house_here", "_law_most"]
def t__law_all_amounts : DS := (sSeq (sSetF 2 (dLst (aCons (dTup aNil) aNil)))
  (sSeq (sFor (iSeq (dBin gIx (dVar 0) (dC (.int 0)))) (gN 3) (sSetF 2 (dCall sp__law_flat (aCons (dLc [4] (iSeq (dVar 2)) (gN 4) bYes (dLc [5] (iR1 (dBin gAdd (dVar 1) (dC (.int 1)))) (gN 5) bYes (dBin gAdd (dVar 4) (dTup (aCons (dVar 5) aNil))))) aNil))))
  (sRet (dLc [4] (iSeq (dVar 2)) (gN 4) bYes (dB gDict (aCons (dLZip (dBin gIx (dVar 0) (dC (.int 0))) (dVar 4)) aNil))))))
/-! _law_are_alike -/
def N__law_are_alike : List Str := ["_law_house_here", "_law_one_here", "_law_other", "_law_some", "_law_a"]
def ps__law_are_alike : List Str := ["_law_house_here", "_law_one_here", "_law_other", "_law_some"]
def t__law_are_alike : DS := (sRet (dBin gEq (dLc [4] (iSeq (dVar 3)) (gN 4) (bVal (dBin gNe (dBin gIx (dCall sp__law_acted (aCons (dVar 0) (aCons (dTup (aCons (dVar 1) (aCons (dVar 2) aNil))) (aCons (dVar 4) aNil)))) (dC (.int 0))) (dBin gIx (dCall sp__law_acted (aCons (dVar 0) (aCons (dTup (aCons (dVar 2) (aCons (dVar 1) aNil))) (aCons (dVar 4) aNil)))) (dC (.int 0))))) (dC (.int 1))) (dLst aNil)))
/-! fork_amounts -/
def N_fork_amounts : List Str := ["house", "one", "other", "forks", "kind"]
def ps_fork_amounts : List Str := ["house", "one", "other"]
def t_fork_amounts : DS := (sSeq (sSetF 3 (dLst (aStar (dCall sp_forks_between (aCons (dVar 1) (aCons (dVar 2) aNil))) (aStar (dCall sp_forks_between (aCons (dVar 2) (aCons (dVar 1) aNil))) aNil))))
  (sSeq (sIf (bVal (dBin gEq (dVar 3) (dLst aNil))) (sRet (dC .none)) sNext)
  (sRet (dDc [4] (iSeq (dB gSorted (aCons (dBin gIx (dVar 0) (dC (.int 0))) aNil))) (gN 4) bYes (dVar 4) (dB gInt (aCons (dBin (gIn false) (dVar 4) (dSl (dBin gIx (dVar 3) (dC (.int 0))) (pAt (dC (.int 2))) pNo)) aNil))))))
/-! parted_by -/
def N_parted_by : List Str := ["house", "one", "other", "put", "call", "kind"]
def ps_parted_by : List Str := ["house", "one", "other"]
def t_parted_by : DS := (sSeq (sIf (bAnd (bVal (dBin gEq (dBin gIx (dVar 1) (dC (.int 0))) (dC (.str "put")))) (bVal (dBin gEq (dBin gIx (dVar 2) (dC (.int 0))) (dC (.str "put"))))) (sRet (dC .none)) sNext)
  (sSeq (sIf (bAnd (bVal (dBin gNe (dBin gIx (dVar 1) (dC (.int 0))) (dC (.str "put")))) (bVal (dBin gNe (dBin gIx (dVar 2) (dC (.int 0))) (dC (.str "put"))))) (sRet (dCall sp_fork_amounts (aCons (dVar 0) (aCons (dBin gIx (dVar 1) (dC (.int 1))) (aCons (dBin gIx (dVar 2) (dC (.int 1))) aNil))))) sNext)
  (sSeq (sAsg (dIf (bVal (dBin gEq (dBin gIx (dVar 1) (dC (.int 0))) (dC (.str "put")))) (dTup (aCons (dVar 1) (aCons (dVar 2) aNil))) (dTup (aCons (dVar 2) (aCons (dVar 1) aNil)))) (gT 2 (gCons (gN 3) (gCons (gN 4) gNil))))
  (sRet (dIf (bVal (dBin (gIn false) (dBin gIx (dVar 3) (dC (.int 1))) (dBin gIx (dVar 4) (dC (.int 1))))) (dDc [5] (iSeq (dB gSorted (aCons (dBin gIx (dVar 0) (dC (.int 0))) aNil))) (gN 5) bYes (dVar 5) (dC (.int 0))) (dC .none))))))
/-! may_change -/
def N_may_change : List Str := ["house", "one", "other"]
def ps_may_change : List Str := ["house", "one", "other"]
def t_may_change : DS := (sRet (dBin (gIs false) (dCall sp_parted_by (aCons (dVar 0) (aCons (dVar 1) (aCons (dVar 2) aNil)))) (dC .none)))
/-! _law_right -/
def N__law_right : List Str := ["_law_house_here", "_law_one_here", "_law_other", "_law_forks_here", "_law_some", "_law_may", "_law_told", "_law_shown"]
def ps__law_right : List Str := ["_law_house_here", "_law_one_here", "_law_other", "_law_forks_here", "_law_some"]
def t__law_right : DS := (sSeq (sSetF 5 (dCall sp__law_may_change (aCons (dVar 3) (aCons (dVar 1) (aCons (dVar 2) aNil)))))
  (sSeq (sIf (bVal (dBin gNe (dVar 5) (dCall sp__law_are_alike (aCons (dVar 0) (aCons (dVar 1) (aCons (dVar 2) (aCons (dVar 4) aNil))))))) (sRet (dC (.bool false))) sNext)
  (sSeq (sIf (bNot (bTru (dCall sp__law_alike (aCons (dLst (aCons (dCall sp_may_change (aCons (dVar 0) (aCons (dVar 1) (aCons (dVar 2) aNil)))) (aCons (dCall sp_may_change (aCons (dVar 0) (aCons (dVar 2) (aCons (dVar 1) aNil)))) aNil))) (aCons (dLst (aCons (dVar 5) (aCons (dVar 5) aNil))) aNil))))) (sRet (dC (.bool false))) sNext)
  (sSeq (sSet 6 (dCall sp_parted_by (aCons (dVar 0) (aCons (dVar 1) (aCons (dVar 2) aNil)))))
  (sSeq (sIf (bTru (dVar 5)) (sRet (dBin (gIs false) (dVar 6) (dC .none))) sNext)
  (sSeq (sSetF 7 (dB gRepr (aCons (dVar 6) aNil)))
  (sSeq (sIf (bMask 6 (bOr (bNot (bTru (dCall sp__law_is_told_amounts (aCons (dVar 0) (aCons (dVar 6) aNil))))) (bTru (dCall sp__law_are_alike (aCons (dVar 0) (aCons (dVar 1) (aCons (dVar 2) (aCons (dLst (aCons (dVar 6) aNil)) aNil)))))))) (sRet (dC (.bool false))) sNext)
  (sSeq (sDrop (dClr 6))
  (sRet (dBin gEq (dB gRepr (aCons (dCall sp_parted_by (aCons (dVar 0) (aCons (dVar 1) (aCons (dVar 2) aNil)))) aNil)) (dVar 7)))))))))))
/-! law -/
def N_law : List Str := ["_law_script", "_law_bag_here", "_law_turn", "_law_house_here", "_law_forks_here", "_law_some", "_law_deeds_here", "_law_shown", "_law_one_here", "_law_other"]
def ps_law : List Str := ["_law_script"]
def t_law : DS := (sSeq (sSet 1 (dCall sp__law_bag (aCons (dVar 0) aNil)))
  (sSeq (sFor (iR1 (dC (.int 3))) (gN 2) (sSeq (sSetF 3 (dIf (bOr (bVal (dBin gGt (dVar 2) (dC (.int 0)))) (bVal (dBin gGt (dCall sp__law_take (aCons (dVar 1) (aCons (dC (.int 3)) aNil))) (dC (.int 0))))) (dCall sp__law_house (aCons (dVar 1) (aCons (dCall sp__law_one (aCons (dVar 1) (aCons (dLst (aCons (dC (.int 3)) (aCons (dC (.int 4)) (aCons (dC (.int 3)) aNil)))) aNil))) (aCons (dC (.int 6)) aNil)))) (dCall sp__law_house (aCons (dVar 1) (aCons (dC (.int 6)) (aCons (dC (.int 8)) aNil))))))
  (sSeq (sPar3 4 5 6 (dCall sp__law_forks (aCons (dVar 3) aNil)) (dCall sp__law_all_amounts (aCons (dVar 3) (aCons (dIf (bVal (dBin gLt (dB gLen (aCons (dBin gIx (dVar 3) (dC (.int 0))) aNil)) (dC (.int 5)))) (dC (.int 2)) (dC (.int 1))) aNil))) (dCall sp__law_deeds (aCons (dVar 3) aNil)))
  (sFrz 4 (sFrz 5 (sFrz 6 (sSeq (sSetF 7 (dB gRepr (aCons (dVar 3) aNil)))
  (sSeq (sFor (iSeq (dSl (dCall sp__law_mixed (aCons (dVar 1) (aCons (dVar 6) aNil))) pNo (pAt (dC (.int 8))))) (gN 8) (sFor (iSeq (dSl (dCall sp__law_mixed (aCons (dVar 1) (aCons (dVar 6) aNil))) pNo (pAt (dC (.int 8))))) (gN 9) (sIf (bNot (bTru (dCall sp__law_right (aCons (dVar 3) (aCons (dVar 8) (aCons (dVar 9) (aCons (dVar 4) (aCons (dVar 5) aNil)))))))) (sRet (dC (.bool false))) sNext)))
  (sIf (bVal (dBin gNe (dB gRepr (aCons (dVar 3) aNil)) (dVar 7))) (sRet (dC (.bool false))) sNext)))))))))
  (sRet (dC (.bool true)))))
end G21
end
section
set_option Elab.async false
set_option linter.all false
set_option maxRecDepth 100000
/-! M21a: amounts as dicts: read, written, compared, made. -/
namespace G
open PySem DL

theorem strs_perm {ks : List Str} {ds : List D} (h : ds.Perm (ks.map .str)) : ds = (ds.map unStr).map .str := by
  rw [List.map_map]
  refine List.ext_getElem? fun i => ?_
  rw [List.getElem?_map]
  cases e : ds[i]? with
  | none => rfl
  | some d =>
    obtain ⟨x, _, rfl⟩ := List.mem_map.mp (h.mem_iff.mp (List.mem_of_getElem? e))
    rfl
theorem srt_eq (ks : List Str) : sortD (ks.map .str) = (srt ks).map .str := strs_perm (sortD_perm _)
theorem srt_perm (ks : List Str) : (srt ks).Perm ks := by
  have h := (sortD_perm (ks.map .str)).map unStr
  rw [List.map_map] at h
  have : ks.map (unStr ∘ PyData.str) = ks := by
    rw [show (unStr ∘ PyData.str) = id from rfl, List.map_id]
  rw [this] at h
  exact h
theorem sortOk_strs {ks : List Str} (h : Nms ks) : sortOk (ks.map .str) = true := by
  unfold sortOk
  simp only [Bool.and_eq_true, Bool.or_eq_true, List.all_eq_true]
  refine ⟨⟨fun d hd e he => ?_, .inr fun d hd => ?_⟩, fun d hd => ?_⟩
  · obtain ⟨x, _, rfl⟩ := List.mem_map.mp hd
    obtain ⟨y, _, rfl⟩ := List.mem_map.mp he
    simp [PySem.W.alike]
  · obtain ⟨x, _, rfl⟩ := List.mem_map.mp hd
    rfl
  · obtain ⟨x, hx, rfl⟩ := List.mem_map.mp hd
    exact (Sh.str (n := 0) (h x hx)).shaped
theorem sorted_ks {ks : List Str} (h : Nms ks) : gSorted [tS ks] = some (.nw (lS (srt ks))) := by
  show (if sortOk (ks.map .str) then some (O.nw (.list (sortD (ks.map .str)))) else none) = _
  rw [sortOk_strs h, srt_eq]; rfl
theorem eqv_str (a b : Str) : PyData.eqv (.str a) (.str b) = decide (a = b) := by
  simp only [PyData.eqv]
  exact Bool.beq_eq_decide_eq a b
theorem dget_am {f : Am} {k : Str} : ∀ {ks : List Str}, k ∈ ks → dget (ks.map fun k => (PyData.str k, PyData.int (f k))) (.str k) = some (.int (f k))
  | [], h => by cases h
  | x :: ks, h => by
    unfold dget
    rw [List.map_cons, List.find?_cons]
    simp only [eqv_str]
    by_cases e : x = k
    · subst e; simp
    · rw [decide_eq_false e]
      have := dget_am (f := f) ((List.mem_cons.mp h).resolve_left fun z => e z.symm)
      unfold dget at this
      exact this
theorem ix_am {f : Am} {k : Str} {ks : List Str} (h : k ∈ ks) : gIx (amD ks f) (.str k) = some (.fz (.int (f k))) := by
  show (dget _ (.str k)).map O.fz = _
  rw [dget_am h]; rfl
theorem dset_new {kvs : List (D × D)} {k v : D} (h : ∀ q ∈ kvs, PyData.eqv q.1 k = false) : dset kvs k v = kvs ++ [(k, v)] := by
  unfold dset
  rw [if_neg]
  rw [List.any_eq_true]
  rintro ⟨q, hq, e⟩
  rw [h q hq] at e; cases e
theorem dmerge_am {v : Str → D} : ∀ {ks : List Str} {acc : List (D × D)}, ks.Nodup → (∀ k ∈ ks, ∀ q ∈ acc, PyData.eqv q.1 (.str k) = false) → dmerge acc (ks.map fun k => (.str k, v k)) = acc ++ ks.map fun k => (.str k, v k)
  | [], acc, _, _ => by simp [dmerge]
  | k :: ks, acc, hn, h => by
    have h1 := List.nodup_cons.mp hn
    show dmerge (dset acc (.str k) (v k)) (ks.map fun k => (.str k, v k)) = _
    rw [dset_new (h k List.mem_cons_self), dmerge_am h1.2 fun x hx q hq => ?_]
    · simp
    · rcases List.mem_append.mp hq with hq | hq
      · exact h x (List.mem_cons_of_mem _ hx) q hq
      · rw [List.mem_singleton.mp hq, eqv_str]
        exact decide_eq_false fun e => h1.1 (e ▸ hx)
theorem pairs_am {v : Str → D} : ∀ (ks : List Str), pairsD (ks.map fun k => .tuple [.str k, v k]) = some (ks.map fun k => (.str k, v k))
  | [] => rfl
  | k :: ks => by
    show (match pairsD (ks.map fun k => .tuple [.str k, v k]) with | _ => _) = _
    simp only [List.map_cons, pairsD]
    rw [pairs_am ks]
    rfl
theorem dict_am {v : Str → D} {ks : List Str} (hn : ks.Nodup) : gDict [.list (ks.map fun k => .tuple [.str k, v k])] = some (.nw (.dict (ks.map fun k => (.str k, v k)))) := by
  show (match pairsD (ks.map fun k => .tuple [.str k, v k]) with | _ => _) = _
  unfold gDict
  simp only [pairs_am, Option.map_some]
  rw [dmerge_am hn (by simp)]
  rfl
theorem dset_am {f : Am} {k : Str} {v : Int} {ks : List Str} (h : k ∈ ks) : dset (ks.map fun k => (PyData.str k, PyData.int (f k))) (.str k) (.int v) = ks.map fun x => (PyData.str x, PyData.int (if x = k then v else f x)) := by
  unfold dset
  rw [if_pos]
  · rw [List.map_map]
    refine List.map_congr_left fun x _ => ?_
    show (if PyData.eqv (.str x) (.str k) then _ else _) = _
    rw [eqv_str]
    by_cases e : x = k
    · subst e; simp
    · simp [e]
  · rw [List.any_eq_true]
    exact ⟨_, List.mem_map_of_mem h, by rw [eqv_str]; simp⟩
theorem sto_am {f g : Am} {k : Str} {v : Int} {ks : List Str} (h : k ∈ ks) (hk : PyData.strOk k = true) (hl : ks.length < 1000) (he : ∀ x, g x = if x = k then v else f x) : gSto (amD ks f) (.str k) (.int v) = some (amD ks g) := by
  have e1 : gSto (amD ks f) (.str k) (.int v) = if (ks.map fun k => (PyData.str k, PyData.int (f k))).length < sizeLine then some (.dict (dset (ks.map fun k => (PyData.str k, PyData.int (f k))) (.str k) (.int v))) else none := rfl
  rw [e1, if_pos (by rw [List.length_map]; show _ < 2 ^ 24; omega), dset_am h]
  exact congrArg (fun z => some (PyData.dict z)) (List.map_congr_left fun x _ => by rw [he])
theorem am_congr {f g : Am} {ks : List Str} (h : ∀ k ∈ ks, f k = g k) : amD ks f = amD ks g := by
  show PyData.dict _ = PyData.dict _
  rw [List.map_congr_left fun k hk => by rw [h k hk]]
/-! two of them compared -/
theorem kOk_am {f : Am} : ∀ {ks : List Str}, ks.Nodup → kOk (ks.map fun k => (PyData.str k, PyData.int (f k))) = true
  | [], _ => rfl
  | k :: ks, h => by
    have h1 := List.nodup_cons.mp h
    simp only [List.map_cons, kOk, Bool.and_eq_true, List.all_eq_true]
    refine ⟨⟨by rw [eqv_str]; simp, fun q hq => ?_⟩, kOk_am h1.2⟩
    obtain ⟨x, hx, rfl⟩ := List.mem_map.mp hq
    have ne : k ≠ x := fun e => h1.1 (e ▸ hx)
    rw [eqv_str, eqv_str, decide_eq_false ne, decide_eq_false (Ne.symm ne)]
    exact ⟨rfl, rfl⟩
theorem eqX_int (n : Nat) (i j : Int) : eqX (n + 1) (.int i) (.int j) = some (i == j) := by
  unfold eqX
  rw [if_pos (by rw [(Sh.int (n := 0) (i := i)).shaped, (Sh.int (n := 0) (i := j)).shaped]; rfl)]
  simp only [PyData.eqv]
theorem allX_bools : ∀ {α : Type} (l : List α) (f : α → Option Bool) (g : α → Bool), (∀ x ∈ l, f x = some (g x)) → allX (l.map f) = some (l.all g)
  | _, [], _, _, _ => rfl
  | _, x :: l, f, g, h => by
    rw [List.map_cons, h x List.mem_cons_self]
    show (allX (l.map f)).map (g x && ·) = _
    rw [allX_bools l f g fun y hy => h y (List.mem_cons_of_mem _ hy)]
    rfl
theorem notShaped {kvs : List (D × D)} {d : D} : (SeqAt.shaped (.dict kvs) && d.canLay0 && SeqAt.shaped d) = true → False := by
  intro h
  simp only [Bool.and_eq_true] at h
  have := shaped_lay h.1.1
  simp [PyData.canLay0] at this
theorem shaped_dict {kvs : List (D × D)} : SeqAt.shaped (.dict kvs) = false := by
  unfold SeqAt.shaped
  simp [PyData.canLay0]
theorem eqX_am {f g : Am} {ks : List Str} (n : Nat) (hn : ks.Nodup) : eqX (n + 2) (amD ks f) (amD ks g) = some (ks.all fun k => f k == g k) := by
  unfold eqX
  rw [shaped_dict]
  simp only [Bool.false_and, Bool.false_eq_true, if_false, kOk_am hn, if_true, List.length_map, List.map_map]
  refine allX_bools _ _ _ fun k hk => ?_
  show (match dget _ (.str k) with | none => some false | some e => eqX (n + 1) (.int (f k)) e) = _
  rw [dget_am hk]
  exact eqX_int n _ _
theorem eq_am {f g : Am} {ks : List Str} (hn : ks.Nodup) : gEq (amD ks f) (amD ks g) = some (.fz (.bool (ks.all fun k => f k == g k))) := by
  show (if SeqAt.shaped (amD ks f) && SeqAt.shaped (amD ks g) then some (O.fz (.bool (PyData.eqv (amD ks f) (amD ks g)))) else (eqX 9 (amD ks f) (amD ks g)).map fun c => O.fz (.bool c)) = _
  rw [shaped_dict, eqX_am 7 hn]
  rfl
theorem ne_am {f g : Am} {ks : List Str} (hn : ks.Nodup) : gNe (amD ks f) (amD ks g) = some (.fz (.bool (!(ks.all fun k => f k == g k)))) := by
  show (if SeqAt.shaped (amD ks f) && SeqAt.shaped (amD ks g) then some (O.fz (.bool (!PyData.eqv (amD ks f) (amD ks g)))) else if isDicD (amD ks f) && isDicD (amD ks g) then (eqX 9 (amD ks f) (amD ks g)).map fun c => O.fz (.bool (!c)) else none) = _
  rw [shaped_dict, eqX_am 7 hn]
  rfl
theorem perm_all {α : Type} {l m : List α} (h : l.Perm m) (p : α → Bool) : l.all p = m.all p := by
  rw [Bool.eq_iff_iff, List.all_eq_true, List.all_eq_true]
  exact ⟨fun k x hx => k x (h.mem_iff.mpr hx), fun k x hx => k x (h.mem_iff.mp hx)⟩
theorem ne_nil {ds : List D} (h : ∀ d ∈ ds, Sh 63 d) : gNe (.list ds) (.list []) = some (.fz (.bool (!ds.isEmpty))) := by
  rw [ne_of' (n := 64) (m := 0 + 1) (Sh.lst h) (Sh.lst (n := 0) (ds := []) (by simp)), eqv_nil]
theorem eq_nil {ds : List D} (h : ∀ d ∈ ds, Sh 63 d) : gEq (.list ds) (.list []) = some (.fz (.bool ds.isEmpty)) := by
  rw [eq_of (n := 64) (m := 0 + 1) (Sh.lst h) (Sh.lst (n := 0) (ds := []) (by simp)), eqv_nil]
theorem gt_int {i j : Int} : gGt (.int i) (.int j) = some (.fz (.bool (decide (j < i)))) := rfl
theorem ne_nilS {l : List Str} (h : Nms l) : gNe (.list (l.map .str)) (.list []) = some (.fz (.bool (!l.isEmpty))) := by
  rw [ne_nil (fun d hd => by obtain ⟨x, hx, rfl⟩ := List.mem_map.mp hd; exact Sh.str (h x hx)), List.isEmpty_map]
end G
end
section
set_option Elab.async false
set_option linter.all false
set_option maxRecDepth 100000
/-! M21b: behind, forks of two calls, rows laid in one row, acts by the law, deeds. -/
namespace G21
open PySem DL
open G

theorem serves_behind : Serves N_behind ps_behind t_behind sp_behind := by
  rintro args R ⟨c, k, hc, hk, hl, rfl, hR⟩
  refine ⟨rfl, rfl, ?_⟩
  refine st_ret (o := .fz (tS (c.drop (c.idxOf k + 1)))) (ev_sl (ev_var rfl) (ev_at (ev_bin (ev_mt (ev_var rfl) rfl rfl (ev_cons (ev_var rfl) ev_nil) rfl rfl (index_t hk)) ev_c rfl rfl rfl)) ev_no ?_) ⟨_, rfl, hR⟩
  show some (O.fz (.tuple (cutD (c.map .str) (some (((c.idxOf k : Nat) : Int) + 1)) none))) = _
  rw [cut_fromS]
theorem sum_le {α : Type} (f : α → Nat) (n : Nat) : ∀ l : List α, (∀ x ∈ l, f x ≤ n) → (l.map f).sum ≤ l.length * n
  | [], _ => by simp
  | x :: l, h => by
    rw [List.map_cons, List.sum_cons, List.length_cons, Nat.add_mul]
    have h1 := h x List.mem_cons_self
    have h2 := sum_le f n l fun y hy => h y (List.mem_cons_of_mem _ hy)
    omega
theorem serves_forks_between : Serves N_forks_between ps_forks_between t_forks_between sp_forks_between := by
  rintro args R ⟨s, t, hs, ht, hl, rfl, hR⟩
  refine ⟨rfl, rfl, ?_⟩
  unfold t_forks_between
  ((try dsimp only); refine st_seq ?_)
  refine st_setF (o := .nw (.list ((s.filter fun c => decide (c ∈ t)).map .str))) (ev_lcl (enc := .str) (l := s) (evi_seq (d := tS s) (o := .fz (tS s)) (ev_var rfl) rfl rfl) trivial (by show _ ≤ 2 ^ 24; omega) rfl (fun c => decide (c ∈ t)) .str (fun c hc => ?_) (fun c hc _ => ⟨_, ev_var rfl, rfl⟩)) rfl rfl ?_
  · have := in_t (neg := false) (hs c hc) ht
    rw [Bool.bne_false] at this
    exact evt_val (ev_bin (ev_var rfl) (ev_var rfl) rfl rfl this)
  · dsimp only
    have hb : ∀ c ∈ s.filter (fun c => decide (c ∈ t)), c ∈ s := fun c hc => (List.mem_filter.mp hc).1
    have key := ev_lc2 (enc := PyData.str) (enc2 := PyData.str) (i := 3) (j := 4) (te := dTup (aCons (dVar 0) (aCons (dVar 1) (aCons (dVar 3) (aCons (dVar 4) aNil))))) (ti := iSeq (dVar 2)) (ti1 := iSeq (dCall sp_behind (aCons (dVar 0) (aCons (dVar 3) aNil)))) (tt1 := bVal (dBin (gIn true) (dVar 4) (dVar 1))) (l := s.filter fun c => decide (c ∈ t))
      (env := [.fz (tS s), .fz (tS t), .fz (.list ((s.filter fun c => decide (c ∈ t)).map .str)), .un, .un]) (evi_seq (d := .list ((s.filter fun c => decide (c ∈ t)).map .str)) (o := .fz (.list ((s.filter fun c => decide (c ∈ t)).map .str))) (ev_var rfl) rfl rfl) (by decide) rfl
      (fun c => s.drop (s.idxOf c + 1)) (fun c u => !decide (u ∈ t)) (fun c u => fD s t (c, u)) ?_ (fun c hc => ?_) (fun c hc u hu => ?_) (fun c hc u hu _ => ?_)
    · refine st_ret key ⟨_, rfl, ?_⟩
      have : (fk s t).map (fD s t) = (s.filter fun c => decide (c ∈ t)).flatMap fun c => ((s.drop (s.idxOf c + 1)).filter fun u => !decide (u ∈ t)).map fun u => fD s t (c, u) := by
        unfold fk
        rw [List.map_flatMap]
        simp only [List.map_map]
        rfl
      rw [this] at hR
      exact hR
    · refine Nat.le_trans (sum_le _ 15 _ fun c _ => by rw [List.length_drop]; omega) ?_
      have := List.length_filter_le (fun c => decide (c ∈ t)) s
      show _ ≤ 2 ^ 24
      omega
    · refine evi_seq (d := tS (s.drop (s.idxOf c + 1))) (o := .fz (tS (s.drop (s.idxOf c + 1)))) (ev_call (args := [.fz (tS s), .fz (.str c)]) (args' := [.fz (tS s), .fz (.str c)]) (ev_cons (ev_var rfl) (ev_cons (ev_var rfl) ev_nil)) rfl (by simp [alsO]) (fun R hR => ⟨s, c, hs, hb c hc, by omega, rfl, hR⟩) rfl rfl) rfl rfl
    · have := in_t (neg := true) (hs u (List.mem_of_mem_drop hu)) ht
      rw [Bool.bne_true] at this
      exact evt_val (ev_bin (ev_var rfl) (ev_var rfl) rfl rfl this)
    · exact ⟨_, ev_tup (ev_cons (ev_var rfl) (ev_cons (ev_var rfl) (ev_cons (ev_var rfl) (ev_cons (ev_var rfl) ev_nil)))) rfl (by show 4 ≤ 2 ^ 24; decide), rfl⟩
theorem serves__law_flat : Serves N__law_flat ps__law_flat t__law_flat sp__law_flat := by
  rintro args R ⟨rows, hl, hn, rfl, hR⟩
  refine ⟨rfl, rfl, ?_⟩
  unfold t__law_flat
  ((try dsimp only); refine st_seq ?_)
  refine st_set (ev_lst ev_nil rfl (by decide)) rfl rfl ?_
  ((try dsimp only); refine st_seq ?_)
  refine for_list (enc := .list) (l := rows) (evi_seq (d := .list (rows.map .list)) (o := .fz (.list (rows.map .list))) (ev_var rfl) rfl rfl) (fun pre e => ∃ s, fr s ∧ e = [.fz (.list (rows.map .list)), .ow false (.list pre.flatten), s]) ⟨.un, fr.un, rfl⟩ ?_ ?_
  · rintro pre x post e E1 hi ⟨s, f, rfl⟩ nx _ _ _
    refine ⟨f.pin rfl, ?_⟩
    refine st_drop (o := .fz .none) (ev_mut rfl (ev_cons (ev_var rfl) ev_nil) rfl rfl (extend_ok ?_) rfl) (nx _ ⟨.fz (.list x), fr.fz, ?_⟩)
    · have : (rows.map List.length).sum = (pre.map List.length).sum + (x.length + (post.map List.length).sum) := by rw [hi]; simp
      rw [List.length_flatten]
      show _ ≤ 2 ^ 24
      omega
    · rw [List.flatten_append]; simp [putO]
  · rintro e ⟨s, f, rfl⟩
    dsimp only
    exact st_ret (ev_own rfl) ⟨_, rfl, hR⟩
theorem takes_mem {f : Am} {c : List Str} {k : Str} (h : takes f c = some k) : k ∈ c := List.mem_of_find?_eq_some h
theorem acts_app : ∀ (l : List Deed) (d : Deed) (g : Am), acts g (l ++ [d]) = act1 (acts g l) d
  | [], _, _ => rfl
  | x :: l, d, g => by rw [List.cons_append]; exact acts_app l d _
theorem tooks_app : ∀ (l : List Deed) (d : Deed) (g : Am), tooks g (l ++ [d]) = tooks g l ++ [took (acts g l) d]
  | [], _, _ => rfl
  | x :: l, d, g => by
    rw [List.cons_append]
    show took g x :: tooks (act1 g x) (l ++ [d]) = _
    rw [tooks_app l d _]; rfl
theorem tooks_len : ∀ (l : List Deed) (g : Am), (tooks g l).length = l.length
  | [], _ => rfl
  | x :: l, g => by
    show (took g x :: tooks (act1 g x) l).length = _
    rw [List.length_cons, tooks_len l]; rfl
theorem put_ne_call : gEq (.str "call") (.str "put") = some (.fz (.bool false)) := rfl
/-- the word of a deed -/
def word : Deed → Str
  | .put _ => "put"
  | .call _ => "call"
def what : Deed → D
  | .put k => .str k
  | .call c => tS c
theorem dD_eq (d : Deed) : dD d = .tuple [.str (word d), what d] := by cases d <;> rfl
/-- the kinds that a call takes, one or none -/
def oneK : Option Str → List Str
  | none => []
  | some k => [k]
theorem takes_take (f : Am) (c : List Str) : (c.filter fun k => decide (0 < f k)).take 1 = oneK (takes f c) := by
  unfold takes
  induction c with
  | nil => rfl
  | cons x c ih =>
    rw [List.filter_cons, List.find?_cons]
    by_cases h : 0 < f x
    · simp [h, oneK]
    · simp [h, ih]
theorem serves__law_acted : Serves N__law_acted ps__law_acted t__law_acted sp__law_acted := by
  rintro args R ⟨ks, cs, kk, ds, f, h, hp, hd, hl, rfl, hR⟩
  refine ⟨rfl, rfl, ?_⟩
  have nk := h.nms
  have hsp := srt_perm ks
  have snd : (srt ks).Nodup := hsp.nodup_iff.mpr h.nd
  have sin : ∀ {k : Str}, k ∈ srt ks ↔ k ∈ ks := hsp.mem_iff
  have sl : (srt ks).length ≤ 15 := by rw [hsp.length_eq]; exact h.ln
  unfold t__law_acted
  ((try dsimp only); refine st_seq ?_)
  refine (show sPar 3 4 _ _ _ _ from ?_)
  unfold sPar
  have made : Ev (dB gDict (aCons (dLc [8] (iSeq (dB gSorted (aCons (dBin gIx (dVar 0) (dC (.int 0))) aNil))) (gN 8) bYes (dTup (aCons (dVar 8) (aCons (dBin gIx (dVar 2) (dVar 8)) aNil)))) aNil)) [.fz (hD ks cs), .fz (stD ds), .fz (amD kk f), .un, .un, .un, .un, .un, .un] (.nw (amD (srt ks) f)) [.fz (hD ks cs), .fz (stD ds), .fz (amD kk f), .un, .un, .un, .un, .un, .un] := by
    refine ev_B (ev_cons (ev_lcy (enc := .str) (l := srt ks) (evi_seq (o := .nw (lS (srt ks))) (ev_B (ev_cons (ev_bin (ev_var rfl) ev_c rfl rfl rfl) ev_nil) rfl (sorted_ks nk)) rfl rfl) trivial (by show _ ≤ 2 ^ 24; omega) rfl (fun k => .tuple [.str k, .int (f k)]) (fun k hk => ?_)) ev_nil) rfl (dict_am snd)
    exact ⟨_, ev_tup (ev_cons (ev_var rfl) (ev_cons (ev_bin (ev_var rfl) (ev_var rfl) rfl rfl (ix_am (hp.mem_iff.mpr (sin.mp hk)))) ev_nil)) rfl (by show 2 ≤ 2 ^ 24; decide), rfl⟩
  refine made _ (ev_lst ev_nil rfl (by decide) _ ⟨_, _, rfl, rfl, rfl, rfl, ?_⟩)
  dsimp only
  ((try dsimp only); refine st_seq ?_)
  refine for_list (enc := dD) (l := ds) (evi_seq (d := stD ds) (o := .fz (stD ds)) (ev_var rfl) rfl rfl) (fun pre e => ∃ s5 s6 s7 s8, fr s5 ∧ fr s6 ∧ fr s7 ∧ fr s8 ∧ e = [.fz (hD ks cs), .fz (stD ds), .fz (amD kk f), .ow false (amD (srt ks) (acts f pre)), .ow false (.list ((tooks f pre).map oD)), s5, s6, s7, s8]) ⟨_, _, _, _, fr.un, fr.un, fr.un, fr.un, rfl⟩ ?_ ?_
  · rintro pre d post e E1 hi ⟨s5, s6, s7, s8, f5, f6, f7, f8, rfl⟩ nx _ _ _
    have hdd : okD ks cs d := hd d (by rw [hi]; simp)
    have tl : (tooks f pre).length < 2 ^ 24 := by
      rw [tooks_len]
      have := congrArg List.length hi
      rw [List.length_append, List.length_cons] at this
      omega
    generalize hg : acts f pre = g at *
    rw [dD_eq]
    refine ⟨_, rfl, rfl, _, _, rfl, f5.pin rfl, _, _, rfl, f6.pin rfl, rfl, ?_⟩
    -- the end of a turn
    have fin : ∀ (g' : Am) (kt : List Str) (s8' : DL.Slot), fr s8' → kt = oneK (took g d) → g' = act1 g d →
        sDrop (dMutL 4 gAppend (aCons (dIf (bVal (dBin gNe (dVar 7) (dLst aNil))) (dBin gIx (dVar 7) (dC (.int 0))) (dC .none)) aNil)) [.fz (hD ks cs), .fz (stD ds), .fz (amD kk f), .ow false (amD (srt ks) g'), .ow false (.list ((tooks f pre).map oD)), .fz (.str (word d)), .fz (what d), .fz (lS kt), s8'] E1 := by
      rintro g' kt s8' f8' rfl rfl
      have val : Ev (dIf (bVal (dBin gNe (dVar 7) (dLst aNil))) (dBin gIx (dVar 7) (dC (.int 0))) (dC .none)) [.fz (hD ks cs), .fz (stD ds), .fz (amD kk f), .ow false (amD (srt ks) (act1 g d)), .ow false (.list ((tooks f pre).map oD)), .fz (.str (word d)), .fz (what d), .fz (lS (oneK (took g d))), s8'] (.fz (oD (took g d))) [.fz (hD ks cs), .fz (stD ds), .fz (amD kk f), .ow false (amD (srt ks) (act1 g d)), .ow false (.list ((tooks f pre).map oD)), .fz (.str (word d)), .fz (what d), .fz (lS (oneK (took g d))), s8'] := by
        cases ht : took g d with
        | none => exact ev_if0 (evt_val (ev_bin (ev_var rfl) (ev_lst ev_nil rfl (by decide)) rfl rfl (ne_nilS (l := []) (fun _ h => by cases h)))) ev_c
        | some k =>
          have hk : PyData.strOk k = true := by
            cases d with
            | put l => cases ht
            | call c => exact h.cms hdd k (takes_mem ht)
          exact ev_if1 (evt_val (ev_bin (ev_var rfl) (ev_lst ev_nil rfl (by decide)) rfl rfl (ne_nilS (l := [k]) (fun x hx => by rw [List.mem_singleton.mp hx]; exact hk)))) (ev_bin (ev_var rfl) ev_c rfl rfl rfl)
      refine st_drop (o := .fz .none) (ev_mut rfl (ev_cons val ev_nil) rfl rfl (append_ok (by rw [List.length_map]; exact tl)) rfl) (nx _ ⟨.fz (.str (word d)), .fz (what d), .fz (lS (oneK (took g d))), s8', fr.fz, fr.fz, fr.fz, f8', ?_⟩)
      rw [acts_app, tooks_app, hg, List.map_append]
      rfl
    cases d with
    | put k =>
      have hk : k ∈ srt ks := sin.mpr hdd
      ((try dsimp only); refine st_seq ?_)
      refine st_setF (o := .nw (.list [])) (ev_if0 (evt_val (ev_bin (ev_var rfl) ev_c rfl rfl rfl)) (ev_lst ev_nil rfl (by decide))) rfl (f7.pin rfl) ?_
      ((try dsimp only); refine st_seq ?_)
      refine st_if (b := true) (evt_val (ev_bin (ev_var rfl) ev_c rfl rfl rfl)) (fun _ => ?_) (fun z => by cases z)
      refine st_stoA (n := g k) (m := 1) (c := amD (srt ks) g) (c' := amD (srt ks) (more g k)) rfl (ev_var rfl) rfl rfl ?_ ev_c rfl (c2 := amD (srt ks) g) rfl ?_ ?_
      · show (dget _ (.str k)) = _
        rw [dget_am hk]
      · exact sto_am hk (nk k hdd) (by omega) fun x => by unfold more; split <;> simp_all
      · dsimp only
        ((try dsimp only); refine st_seq ?_)
        refine for_list (enc := .str) (l := []) (evi_seq (d := .list []) (o := .fz (.list [])) (ev_var rfl) rfl rfl) (fun _ e => e = [.fz (hD ks cs), .fz (stD ds), .fz (amD kk f), .ow false (amD (srt ks) (more g k)), .ow false (.list ((tooks f pre).map oD)), .fz (.str "put"), .fz (.str k), .fz (lS []), s8]) rfl ?_ ?_
        · rintro p x q e E2 hi2 _ _ _ _ _
          have := congrArg List.length hi2
          simp at this
        · rintro e rfl
          exact fin (more g k) [] s8 f8 rfl rfl
    | call c =>
      have hc : ∀ k ∈ c, k ∈ srt ks := fun k hk => sin.mpr (h.cin c hdd k hk)
      have ncm := h.cms hdd
      ((try dsimp only); refine st_seq ?_)
      refine st_setF (o := .nw (lS (oneK (takes g c)))) (ev_if1 (evt_val (ev_bin (ev_var rfl) ev_c rfl rfl rfl)) (ev_sl (ev_lcl (enc := .str) (l := c) (evi_seq (d := tS c) (o := .fz (tS c)) (ev_var rfl) rfl rfl) trivial (by have := h.cln hdd; show _ ≤ 2 ^ 24; omega) (f8.ow rfl) (fun k => decide (0 < g k)) .str (fun k hk => ?_) (fun k hk _ => ⟨_, ev_var rfl, rfl⟩)) ev_no (ev_at ev_c) ?_)) rfl (f7.pin rfl) ?_
      · exact evt_val (ev_bin (ev_bin (ev_own rfl) (ev_var rfl) rfl rfl (ix_am (hc k hk))) ev_c rfl rfl gt_int)
      · show some (O.nw (.list (cutD ((c.filter fun k => decide (0 < g k)).map .str) none (some ((1 : Nat) : Int))))) = _
        rw [cut_to, ← List.map_take, takes_take]
      · dsimp only
        ((try dsimp only); refine st_seq ?_)
        refine st_if (b := false) (evt_val (ev_bin (ev_var rfl) ev_c rfl rfl rfl)) (fun z => by cases z) (fun _ => ?_)
        unfold sNext
        dsimp only
        ((try dsimp only); refine st_seq ?_)
        have tk : ∀ k ∈ oneK (takes g c), k ∈ srt ks := fun k hk => by
          cases ht : takes g c with
          | none => rw [ht] at hk; cases hk
          | some x => rw [ht] at hk; rw [List.mem_singleton.mp hk]; exact hc x (takes_mem ht)
        refine for_list (enc := .str) (l := oneK (takes g c)) (evi_seq (d := lS (oneK (takes g c))) (o := .fz (lS (oneK (takes g c)))) (ev_var rfl) rfl rfl) (fun p e => ∃ s8, fr s8 ∧ e = [.fz (hD ks cs), .fz (stD ds), .fz (amD kk f), .ow false (amD (srt ks) (if p = [] then g else less g (takes g c))), .ow false (.list ((tooks f pre).map oD)), .fz (.str "call"), .fz (tS c), .fz (lS (oneK (takes g c))), s8]) ⟨s8, f8, rfl⟩ ?_ ?_
        · rintro p x q e E2 hi2 ⟨s8, f8, rfl⟩ nx2 _ _ _
          have hx : x ∈ oneK (takes g c) := by rw [hi2]; simp
          have hxk := tk x hx
          have both : p = [] ∧ takes g c = some x := by
            cases ht : takes g c with
            | none => rw [ht] at hx; cases hx
            | some y =>
              rw [ht] at hi2
              have hl := congrArg List.length hi2
              rw [List.length_append, List.length_cons] at hl
              have : p = [] := List.eq_nil_of_length_eq_zero (by have : (oneK (some y)).length = 1 := rfl; omega)
              subst this
              have : y = x := by
                have : [y] = x :: q := hi2
                exact (List.cons.inj this).1
              rw [this]
              exact ⟨rfl, rfl⟩
          obtain ⟨rfl, ht⟩ := both
          refine ⟨f8.pin rfl, ?_⟩
          refine st_stoA (n := g x) (m := 1) (c := amD (srt ks) g) (c' := amD (srt ks) (less g (some x))) rfl (ev_var rfl) rfl rfl ?_ ev_c rfl (c2 := amD (srt ks) g) rfl ?_ (nx2 _ ⟨.fz (.str x), fr.fz, ?_⟩)
          · show (dget _ (.str x)) = _
            rw [dget_am hxk]
          · exact sto_am hxk (nk x (sin.mp hxk)) (by omega) fun z => by rw [less_at]; split <;> simp_all
          · rw [ht]; simp [putO]
        · rintro e ⟨s8, f8, rfl⟩
          refine fin _ (oneK (takes g c)) s8 f8 rfl ?_
          show _ = less g (takes g c)
          cases ht : takes g c with
          | none => rfl
          | some x => rfl
  · rintro e ⟨s5, s6, s7, s8, f5, f6, f7, f8, rfl⟩
    dsimp only
    unfold sFrz
    dsimp only [List.getElem?_cons_succ, List.getElem?_cons_zero, List.set_cons_succ, List.set_cons_zero]
    exact st_ret (ev_tup (ev_cons (ev_var rfl) (ev_cons (ev_var rfl) ev_nil)) rfl (by show 2 ≤ 2 ^ 24; decide)) ⟨_, rfl, hR⟩
end G21
end
section
set_option Elab.async false
set_option linter.all false
set_option maxRecDepth 100000
/-! M21c: deeds, whether the law lets them change places, what amounts are, all amounts, whether they are alike. -/
namespace G21
open PySem DL
open G

theorem eqvAll_strs : ∀ a b : List Str, PyData.eqvAll (a.map .str) (b.map .str) = decide (a = b)
  | [], [] => by simp [PyData.eqvAll]
  | [], _ :: _ => by simp [PyData.eqvAll]
  | _ :: _, [] => by simp [PyData.eqvAll]
  | x :: a, y :: b => by
    rw [List.map_cons, List.map_cons]
    show (PyData.eqv (.str x) (.str y) && PyData.eqvAll (a.map .str) (b.map .str)) = _
    rw [eqvAll_strs a b, eqv_str]
    by_cases e : x = y
    · subst e; simp
    · simp [e]
theorem eqv_tS (a b : List Str) : PyData.eqv (tS a) (tS b) = decide (a = b) := by
  show PyData.eqvAll (a.map .str) (b.map .str) = _
  exact eqvAll_strs a b
theorem eqv_two (a b s t : List Str) : PyData.eqv (.tuple [tS a, tS b]) (.tuple [tS s, tS t]) = decide (a = s ∧ b = t) := by
  show (PyData.eqv (tS a) (tS s) && (PyData.eqv (tS b) (tS t) && true)) = _
  rw [eqv_tS, eqv_tS, Bool.and_true, Bool.decide_and]
theorem serves__law_deeds : Serves N__law_deeds ps__law_deeds t__law_deeds sp__law_deeds := by
  rintro args R ⟨ks, cs, h, rfl, hR⟩
  refine ⟨rfl, rfl, ?_⟩
  have l1 := h.ln
  have l2 := h.lc
  refine st_ret (o := .nw (.list ((ks.map fun k => dD (.put k)) ++ cs.map fun c => dD (.call c)))) (ev_bin (oa := .nw (.list (ks.map fun k => dD (.put k)))) (ob := .nw (.list (cs.map fun c => dD (.call c))))
    (ev_lcy (enc := .str) (l := ks) (evi_seq (d := tS ks) (o := .fz (tS ks)) (ev_bin (ev_var rfl) ev_c rfl rfl rfl) rfl rfl) trivial (by show _ ≤ 2 ^ 24; omega) rfl (fun k => dD (.put k)) (fun k hk => ⟨_, ev_tup (ev_cons ev_c (ev_cons (ev_var rfl) ev_nil)) rfl (by show 2 ≤ 2 ^ 24; decide), rfl⟩))
    (ev_lcy (enc := tS) (l := cs) (evi_seq (d := .tuple (cs.map tS)) (o := .fz (.tuple (cs.map tS))) (ev_bin (ev_var rfl) ev_c rfl rfl rfl) rfl rfl) trivial (by show _ ≤ 2 ^ 24; omega) rfl (fun c => dD (.call c)) (fun c hc => ⟨_, ev_tup (ev_cons ev_c (ev_cons (ev_var rfl) ev_nil)) rfl (by show 2 ≤ 2 ^ 24; decide), rfl⟩)) rfl rfl (add_lists (by rw [List.length_map, List.length_map]; show _ ≤ 2 ^ 24; omega))) ⟨_, rfl, ?_⟩
  rw [List.map_append, List.map_map, List.map_map] at hR
  exact hR
/-! may two deeds change places, by the forks -/
theorem forks_mem {cs : List (List Str)} {d : D} : d ∈ sortD (forksL cs) ↔ ∃ s t p, s ∈ cs ∧ t ∈ cs ∧ p ∈ fk s t ∧ d = fD s t p := by
  rw [(sortD_perm _).mem_iff]
  unfold forksL
  simp only [List.mem_flatMap, List.mem_map]
  constructor
  · rintro ⟨s, hs, t, ht, p, hp, rfl⟩; exact ⟨s, t, p, hs, ht, hp, rfl⟩
  · rintro ⟨s, t, p, hs, ht, hp, rfl⟩; exact ⟨s, hs, t, ht, p, hp, rfl⟩
theorem forks_len {ks : List Str} {cs : List (List Str)} (h : House 15 100 ks cs) : (sortD (forksL cs)).length ≤ 2 ^ 22 := by
  have h3 : ∀ s ∈ cs, ∀ t, (fk s t).length ≤ 225 := fun s hs t => by
    have hl := h.cln hs
    unfold fk
    rw [List.length_flatMap]
    have := sum_le (fun c => (((s.drop (s.idxOf c + 1)).filter fun u => !decide (u ∈ t)).map fun u => (c, u)).length) 15 (s.filter fun c => decide (c ∈ t)) fun c _ => by
      rw [List.length_map]
      refine Nat.le_trans (List.length_filter_le _ _) ?_
      rw [List.length_drop]; omega
    have h2 := List.length_filter_le (fun c => decide (c ∈ t)) s
    omega
  rw [(sortD_perm _).length_eq]
  unfold forksL
  rw [List.length_flatMap]
  have l := h.lc
  have := sum_le (fun s => (cs.flatMap fun t => (fk s t).map (fD s t)).length) 22500 cs fun s hs => by
    rw [List.length_flatMap]
    have := sum_le (fun t => ((fk s t).map (fD s t)).length) 225 cs fun t _ => by rw [List.length_map]; exact h3 s hs t
    omega
  omega
/-- a fork of these two calls -/
def ofTwo (s t : List Str) : D → Bool
  | .tuple (a :: b :: _) => PyData.eqv (.tuple [tS s, tS t]) (.tuple [a, b]) || PyData.eqv (.tuple [tS t, tS s]) (.tuple [a, b])
  | _ => false
theorem ofTwo_nil {cs : List (List Str)} {s t : List Str} (hs : s ∈ cs) (ht : t ∈ cs) : ((sortD (forksL cs)).filter (ofTwo s t)).isEmpty = may (.call s) (.call t) := by
  show _ = ((fk s t).isEmpty && (fk t s).isEmpty)
  rw [Bool.eq_iff_iff, Bool.and_eq_true, List.isEmpty_iff, List.isEmpty_iff, List.isEmpty_iff, List.filter_eq_nil_iff]
  constructor
  · intro h
    constructor
    · refine List.eq_nil_iff_forall_not_mem.mpr fun p hp => h _ (forks_mem.mpr ⟨s, t, p, hs, ht, hp, rfl⟩) ?_
      show (PyData.eqv (.tuple [tS s, tS t]) (.tuple [tS s, tS t]) || PyData.eqv (.tuple [tS t, tS s]) (.tuple [tS s, tS t])) = true
      rw [eqv_two]; simp
    · refine List.eq_nil_iff_forall_not_mem.mpr fun p hp => h _ (forks_mem.mpr ⟨t, s, p, ht, hs, hp, rfl⟩) ?_
      show (PyData.eqv (.tuple [tS s, tS t]) (.tuple [tS t, tS s]) || PyData.eqv (.tuple [tS t, tS s]) (.tuple [tS t, tS s])) = true
      rw [eqv_two, eqv_two]; simp
  · rintro ⟨h1, h2⟩ d hd
    obtain ⟨a, b, p, _, _, hp, rfl⟩ := forks_mem.mp hd
    show ¬ (PyData.eqv (.tuple [tS s, tS t]) (.tuple [tS a, tS b]) || PyData.eqv (.tuple [tS t, tS s]) (.tuple [tS a, tS b])) = true
    rw [eqv_two, eqv_two, Bool.or_eq_true, decide_eq_true_eq, decide_eq_true_eq]
    rintro (⟨rfl, rfl⟩ | ⟨rfl, rfl⟩)
    · rw [h1] at hp; cases hp
    · rw [h2] at hp; cases hp
theorem Sh.two {a b : List Str} (ha : Nms a) (hb : Nms b) : Sh 2 (.tuple [tS a, tS b]) := Sh.tup fun d hd => by
  simp only [List.mem_cons, List.not_mem_nil, or_false] at hd
  rcases hd with rfl | rfl
  · exact Sh.tS ha
  · exact Sh.tS hb
theorem Sh.fD {s t : List Str} {p : Str × Str} (hs : Nms s) (ht : Nms t) (h1 : PyData.strOk p.1 = true) (h2 : PyData.strOk p.2 = true) : Sh 2 (fD s t p) := Sh.tup fun d hd => by
  simp only [List.mem_cons, List.not_mem_nil, or_false] at hd
  rcases hd with rfl | rfl | rfl | rfl
  · exact Sh.tS hs
  · exact Sh.tS ht
  · exact Sh.str h1
  · exact Sh.str h2
theorem fk_in {s t : List Str} {p : Str × Str} (h : p ∈ fk s t) : p.1 ∈ s ∧ p.2 ∈ s := by
  unfold fk at h
  obtain ⟨c, hc, hp⟩ := List.mem_flatMap.mp h
  obtain ⟨u, hu, rfl⟩ := List.mem_map.mp hp
  exact ⟨(List.mem_filter.mp hc).1, List.mem_of_mem_drop (List.mem_filter.mp hu).1⟩
theorem Sh.forks {ks : List Str} {cs : List (List Str)} (h : House 15 100 ks cs) {d : D} (hd : d ∈ sortD (forksL cs)) : Sh 2 d := by
  obtain ⟨s, t, p, hs, ht, hp, rfl⟩ := forks_mem.mp hd
  exact Sh.fD (h.cms hs) (h.cms ht) (h.cms hs _ (fk_in hp).1) (h.cms hs _ (fk_in hp).2)
theorem serves__law_may_change : Serves N__law_may_change ps__law_may_change t__law_may_change sp__law_may_change := by
  rintro args R ⟨ks, cs, a, b, h, ha, hb, rfl, hR⟩
  refine ⟨rfl, rfl, ?_⟩
  unfold t__law_may_change
  cases a with
  | put k =>
    cases b with
    | put l =>
      ((try dsimp only); refine st_seq ?_)
      refine st_if (b := true) (evt_or1 (evt_val (ev_bin (ev_bin (ev_var rfl) ev_c rfl rfl rfl) ev_c rfl rfl rfl))) (fun _ => ?_) (fun z => by cases z)
      ((try dsimp only); refine st_seq ?_)
      refine st_if (b := true) (evt_val (ev_bin (ev_bin (ev_var rfl) ev_c rfl rfl rfl) (ev_bin (ev_var rfl) ev_c rfl rfl rfl) rfl rfl rfl)) (fun _ => ?_) (fun z => by cases z)
      exact st_ret ev_c ⟨_, rfl, hR⟩
    | call c =>
      ((try dsimp only); refine st_seq ?_)
      refine st_if (b := true) (evt_or1 (evt_val (ev_bin (ev_bin (ev_var rfl) ev_c rfl rfl rfl) ev_c rfl rfl rfl))) (fun _ => ?_) (fun z => by cases z)
      ((try dsimp only); refine st_seq ?_)
      refine st_if (b := false) (evt_val (ev_bin (ev_bin (ev_var rfl) ev_c rfl rfl rfl) (ev_bin (ev_var rfl) ev_c rfl rfl rfl) rfl rfl rfl)) (fun z => by cases z) (fun _ => ?_)
      unfold sNext
      dsimp only
      have hi := in_t (neg := true) (h.nms k ha) (h.cms hb)
      rw [Bool.bne_true] at hi
      exact st_ret (ev_if0 (evt_val (ev_bin (ev_bin (ev_var rfl) ev_c rfl rfl rfl) ev_c rfl rfl rfl)) (ev_bin (ev_bin (ev_var rfl) ev_c rfl rfl rfl) (ev_bin (ev_var rfl) ev_c rfl rfl rfl) rfl rfl hi)) ⟨_, rfl, hR⟩
  | call c =>
    cases b with
    | put k =>
      ((try dsimp only); refine st_seq ?_)
      refine st_if (b := true) (evt_or0 (evt_val (ev_bin (ev_bin (ev_var rfl) ev_c rfl rfl rfl) ev_c rfl rfl rfl)) (evt_val (ev_bin (ev_bin (ev_var rfl) ev_c rfl rfl rfl) ev_c rfl rfl rfl))) (fun _ => ?_) (fun z => by cases z)
      ((try dsimp only); refine st_seq ?_)
      refine st_if (b := false) (evt_val (ev_bin (ev_bin (ev_var rfl) ev_c rfl rfl rfl) (ev_bin (ev_var rfl) ev_c rfl rfl rfl) rfl rfl rfl)) (fun z => by cases z) (fun _ => ?_)
      unfold sNext
      dsimp only
      have hi := in_t (neg := true) (h.nms k hb) (h.cms ha)
      rw [Bool.bne_true] at hi
      exact st_ret (ev_if1 (evt_val (ev_bin (ev_bin (ev_var rfl) ev_c rfl rfl rfl) ev_c rfl rfl rfl)) (ev_bin (ev_bin (ev_var rfl) ev_c rfl rfl rfl) (ev_bin (ev_var rfl) ev_c rfl rfl rfl) rfl rfl hi)) ⟨_, rfl, hR⟩
    | call t =>
      ((try dsimp only); refine st_seq ?_)
      refine st_if (b := false) (evt_or0 (evt_val (ev_bin (ev_bin (ev_var rfl) ev_c rfl rfl rfl) ev_c rfl rfl rfl)) (evt_val (ev_bin (ev_bin (ev_var rfl) ev_c rfl rfl rfl) ev_c rfl rfl rfl))) (fun z => by cases z) (fun _ => ?_)
      unfold sNext
      dsimp only
      have e : (sortD (forksL cs)).map (fun d => d) = sortD (forksL cs) := List.map_id' _
      have hc := h.cms (show c ∈ cs from ha)
      have ht := h.cms (show t ∈ cs from hb)
      have key := ev_lcl (i := 3) (te := dVar 3) (tt := bVal (dBin (gIn false) (dSl (dVar 3) pNo (pAt (dC (.int 2)))) (dTup (aCons (dTup (aCons (dBin gIx (dVar 1) (dC (.int 1))) (aCons (dBin gIx (dVar 2) (dC (.int 1))) aNil))) (aCons (dTup (aCons (dBin gIx (dVar 2) (dC (.int 1))) (aCons (dBin gIx (dVar 1) (dC (.int 1))) aNil))) aNil))))) (ti := iSeq (dVar 0)) (env := [.fz (.list (sortD (forksL cs))), .fz (dD (.call c)), .fz (dD (.call t)), .un]) (enc := fun d : D => d) (l := sortD (forksL cs)) (evi_seq (d := .list (sortD (forksL cs))) (o := .fz (.list (sortD (forksL cs)))) (ev_var rfl) rfl (by rw [e]; rfl)) trivial (by have := forks_len h; show _ ≤ 2 ^ 24; omega) rfl (ofTwo c t) (fun d => d) (fun d hd => ?_) (fun d hd _ => ⟨_, ev_var rfl, rfl⟩)
      · refine st_ret (o := .fz (.bool (may (.call c) (.call t)))) (ev_bin key (ev_lst ev_nil rfl (by decide)) rfl rfl ?_) ⟨_, rfl, hR⟩
        rw [List.map_id', eq_nil (fun d hd => ⟨(Sh.forks h (List.mem_filter.mp hd).1).1, Nat.le_trans (Sh.forks h (List.mem_filter.mp hd).1).2 (by decide)⟩), ofTwo_nil ha hb]
      · obtain ⟨s', t', p, hs', ht', hp, rfl⟩ := forks_mem.mp hd
        refine evt_val (ev_bin (a := .tuple [tS s', tS t']) (ev_sl (ev_var rfl) ev_no (ev_at ev_c) rfl) (ev_tup (ev_cons (ev_tup (ev_cons (ev_bin (ev_var rfl) ev_c rfl rfl rfl) (ev_cons (ev_bin (ev_var rfl) ev_c rfl rfl rfl) ev_nil)) rfl (by show 2 ≤ 2 ^ 24; decide)) (ev_cons (ev_tup (ev_cons (ev_bin (ev_var rfl) ev_c rfl rfl rfl) (ev_cons (ev_bin (ev_var rfl) ev_c rfl rfl rfl) ev_nil)) rfl (by show 2 ≤ 2 ^ 24; decide)) ev_nil)) rfl (by show 2 ≤ 2 ^ 24; decide)) rfl rfl ?_)
        show (if SeqAt.shaped (.tuple [tS s', tS t']) && SeqAt.shaped (.tuple [.tuple [tS c, tS t], .tuple [tS t, tS c]]) then some (O.fz (.bool (([.tuple [tS c, tS t], .tuple [tS t, tS c]] : List D).any (fun z => PyData.eqv z (.tuple [tS s', tS t'])) != false))) else none) = _
        rw [(Sh.two (h.cms hs') (h.cms ht')).shaped, (Sh.tup (n := 2) (ds := [.tuple [tS c, tS t], .tuple [tS t, tS c]]) fun d hd => by
          simp only [List.mem_cons, List.not_mem_nil, or_false] at hd
          rcases hd with rfl | rfl
          · exact Sh.two hc ht
          · exact Sh.two ht hc).shaped]
        simp only [Bool.and_self, if_true, List.any_cons, List.any_nil, Bool.or_false, Bool.bne_false]
        rfl
theorem ev_isi {T : String} {te : DT} {env e1 : SEnv} {o : O} {d : D} {b : Bool} (h : Ev te env o e1) (g : o.get e1 = some d) (hb : isiD T d = b) : Ev (dIsi T te) env (.fz (.bool b)) e1 := fun Q q => h _ ⟨d, g, hb ▸ q⟩
/-! are these amounts -/
theorem serves__law_is_told_amounts : Serves N__law_is_told_amounts ps__law_is_told_amounts t__law_is_told_amounts sp__law_is_told_amounts := by
  rintro args R ⟨ks, cs, f, h, hf, rfl, hR⟩
  refine ⟨rfl, rfl, ?_⟩
  unfold t__law_is_told_amounts
  have hsp := srt_perm ks
  have sin : ∀ {k : Str}, k ∈ srt ks ↔ k ∈ ks := hsp.mem_iff
  have sl : (srt ks).length ≤ 15 := by rw [hsp.length_eq]; exact h.ln
  have sn : Nms (srt ks) := fun k hk => h.nms k (sin.mp hk)
  have keys : ((srt ks).map fun k => (PyData.str k, PyData.int (f k))).map Prod.fst = (srt ks).map .str := by rw [List.map_map]; rfl
  have lst : gList [amD (srt ks) f] = some (.nw (lS (srt ks))) := by
    show some (O.nw (.list (((srt ks).map fun k => (PyData.str k, PyData.int (f k))).map Prod.fst))) = _
    rw [keys]
  ((try dsimp only); refine st_seq ?_)
  refine st_if (b := false) (evt_or0 (evt_not (b := true) (evt_tru (ev_isi (ev_var rfl) rfl rfl) rfl rfl)) (evt_val (b := false) (ev_bin (a := lS (srt ks)) (b := lS (srt ks)) (ev_B (ev_cons (ev_var rfl) ev_nil) rfl lst) (ev_B (ev_cons (ev_bin (ev_var rfl) ev_c rfl rfl rfl) ev_nil) rfl (sorted_ks h.nms)) rfl rfl ?_))) (fun z => by cases z) (fun _ => ?_)
  · rw [ne_of' (n := 1) (m := 1) (Sh.lS sn) (Sh.lS sn), eqv_self _ (Sh.lS sn).1]; rfl
  unfold sNext
  dsimp only
  refine st_ret (o := .fz (.bool true)) (ev_bin (ev_lcK (enc := .str) (l := srt ks) rfl keys (by show _ ≤ 2 ^ 24; omega) rfl (fun _ => false) (fun _ => .none) (fun k hk => ?_) (fun k hk z => by cases z)) (ev_lst ev_nil rfl (by decide)) rfl rfl ?_) ⟨_, rfl, hR⟩
  · have at' : ∀ {env : SEnv}, env[1]? = some (.fz (amD (srt ks) f)) → env[2]? = some (.fz (.str k)) → Ev (dBin gIx (dVar 1) (dVar 2)) env (.fz (.int (f k))) env := fun h1 h2 => ev_bin (ev_var h1) (ev_var h2) rfl rfl (ix_am hk)
    refine evt_or0 (evt_not (b := true) (evt_tru (ev_isi (at' rfl rfl) rfl rfl) rfl rfl)) (evt_or0 (evt_tru (ev_isi (at' rfl rfl) rfl rfl) rfl rfl) (evt_val (ev_bin (at' rfl rfl) ev_c rfl rfl ?_)))
    show some (O.fz (.bool (decide (f k < 0)))) = _
    rw [decide_eq_false (by have := hf k; omega)]
  · rw [show (srt ks).filter (fun _ => false) = [] from List.filter_eq_nil_iff.mpr (by simp)]; rfl
/-! do two deeds make the same of amounts -/
theorem acted_ev {ks : List Str} {cs : List (List Str)} {a b : Deed} {kk : List Str} {f : Am} (h : House 15 100 ks cs) (ha : okD ks cs a) (hb : okD ks cs b) (hp : kk.Perm ks) {env : SEnv} {i j l : Nat} (hi : env[i]? = some (.fz (dD a))) (hj : env[j]? = some (.fz (dD b))) (h0 : env[0]? = some (.fz (hD ks cs))) (hl : env[l]? = some (.fz (amD kk f))) :
    Ev (dBin gIx (dCall sp__law_acted (aCons (dVar 0) (aCons (dTup (aCons (dVar i) (aCons (dVar j) aNil))) (aCons (dVar l) aNil)))) (dC (.int 0))) env (.fz (amD (srt ks) (acts f [a, b]))) env := by
  refine ev_bin (a := .tuple [amD (srt ks) (acts f [a, b]), .list ((tooks f [a, b]).map oD)]) (ev_call (args := [.fz (hD ks cs), .fz (stD [a, b]), .fz (amD kk f)]) (args' := [.fz (hD ks cs), .fz (stD [a, b]), .fz (amD kk f)]) (ev_cons (ev_var h0) (ev_cons (ev_tup (ev_cons (ev_var hi) (ev_cons (ev_var hj) ev_nil)) rfl (by show 2 ≤ 2 ^ 24; decide)) (ev_cons (ev_var hl) ev_nil))) rfl (by simp [alsO]) (fun R hR => ⟨ks, cs, kk, [a, b], f, h, hp, fun d hd => ?_, by show 2 ≤ 300; decide, rfl, hR⟩) rfl rfl) ev_c rfl rfl rfl
  simp only [List.mem_cons, List.not_mem_nil, or_false] at hd
  rcases hd with rfl | rfl
  · exact ha
  · exact hb
theorem serves__law_are_alike : Serves N__law_are_alike ps__law_are_alike t__law_are_alike sp__law_are_alike := by
  rintro args R ⟨ks, cs, a, b, kk, fs, h, ha, hb, hp, hl, rfl, hR⟩
  refine ⟨rfl, rfl, ?_⟩
  have hsp := srt_perm ks
  have snd : (srt ks).Nodup := hsp.nodup_iff.mpr h.nd
  refine st_ret (o := .fz (.bool (fs.all (alikeOn ks a b)))) (ev_bin (ev_lcl (enc := amD kk) (l := fs) (evi_seq (d := .list (fs.map (amD kk))) (o := .fz (.list (fs.map (amD kk)))) (ev_var rfl) rfl rfl) trivial (by rw [show sizeLine = 2 ^ 24 from rfl]; omega) rfl (fun f => !alikeOn ks a b f) (fun _ => .int 1) (fun f hf => ?_) (fun f hf _ => ⟨_, ev_c, rfl⟩)) (ev_lst ev_nil rfl (by decide)) rfl rfl ?_) ⟨_, rfl, hR⟩
  · refine evt_val (ev_bin (acted_ev (f := f) h ha hb hp rfl rfl rfl rfl) (acted_ev (f := f) h hb ha hp rfl rfl rfl rfl) rfl rfl ?_)
    rw [ne_am snd, perm_all hsp]
    rfl
  · rw [eq_nil fun d hd => by obtain ⟨_, _, rfl⟩ := List.mem_map.mp hd; exact Sh.int, List.isEmpty_map, filter_none]
/-! all amounts -/
def vecs (most : Int) : Nat → List (List Int)
  | 0 => [[]]
  | n + 1 => (vecs most n).flatMap fun x => (ups (most + 1).toNat).map fun m => x ++ [m]
theorem vecs_len {most : Int} (h : most ≤ 2) : ∀ n : Nat, (vecs most n).length ≤ 3 ^ n
  | 0 => Nat.le_refl 1
  | n + 1 => by
    unfold vecs
    rw [List.length_flatMap]
    have := sum_le (fun x => ((ups (most + 1).toNat).map fun m => x ++ [m]).length) 3 (vecs most n) fun x _ => by rw [List.length_map, ups_len]; omega
    have := vecs_len h n
    rw [Nat.pow_succ]
    omega
theorem vec_len {most : Int} : ∀ (n : Nat) (x : List Int), x ∈ vecs most n → x.length = n
  | 0, x, h => by rw [List.mem_singleton.mp h]; rfl
  | n + 1, x, h => by
    obtain ⟨y, hy, hx⟩ := List.mem_flatMap.mp h
    obtain ⟨m, _, rfl⟩ := List.mem_map.mp hx
    rw [List.length_append, vec_len n y hy]; rfl
theorem vecs_all {most : Int} {g : Am} : ∀ ks : List Str, (∀ k ∈ ks, 0 ≤ g k ∧ g k ≤ most) → ks.map g ∈ vecs most ks.length := by
  intro ks
  suffices ∀ r : List Str, (∀ k ∈ r, 0 ≤ g k ∧ g k ≤ most) → r.reverse.map g ∈ vecs most r.length by
    intro h
    have := this ks.reverse fun k hk => h k (List.mem_reverse.mp hk)
    rwa [List.reverse_reverse, List.length_reverse] at this
  intro r
  induction r with
  | nil => intro _; exact List.mem_singleton.mpr rfl
  | cons k r ih =>
    intro h
    rw [List.reverse_cons, List.map_append, List.length_cons]
    have hk := h k List.mem_cons_self
    exact List.mem_flatMap.mpr ⟨_, ih fun x hx => h x (List.mem_cons_of_mem _ hx), List.mem_map.mpr ⟨g k, ups_mem.mpr ⟨hk.1, by omega⟩, rfl⟩⟩
/-- the amounts of a row -/
def ofVec (ks : List Str) (x : List Int) : Am := fun k => x.getD (ks.idxOf k) 0
theorem ofVec_map {ks : List Str} {g : Am} {k : Str} (h : k ∈ ks) : ofVec ks (ks.map g) k = g k := by
  unfold ofVec
  rw [List.getD_eq_getElem?_getD, List.getElem?_map, List.getElem?_eq_getElem (List.idxOf_lt_length_of_mem h), List.getElem_idxOf]; rfl
theorem vec_rg {most : Int} (h0 : 0 ≤ most) : ∀ (n : Nat) (x : List Int), x ∈ vecs most n → ∀ i ∈ x, 0 ≤ i ∧ i ≤ most
  | 0, x, h, i, hi => by rw [List.mem_singleton.mp h] at hi; cases hi
  | n + 1, x, h, i, hi => by
    obtain ⟨y, hy, hx⟩ := List.mem_flatMap.mp h
    obtain ⟨m, hm, rfl⟩ := List.mem_map.mp hx
    rcases List.mem_append.mp hi with hi | hi
    · exact vec_rg h0 n y hy i hi
    · rw [List.mem_singleton.mp hi]
      have := ups_mem.mp hm
      omega
theorem vecs_ok {ks : List Str} {most : Int} (h0 : 0 ≤ most) (h2 : most ≤ 2) (hl : ks.length ≤ 6) : allAm ks most ((vecs most ks.length).map (ofVec ks)) := by
  refine ⟨fun g hg => ⟨_, List.mem_map_of_mem (vecs_all ks hg), fun k hk => ofVec_map hk⟩, ?_, fun f hf k hk => ?_⟩
  · rw [List.length_map]
    have := vecs_len h2 ks.length
    have : 3 ^ ks.length ≤ 3 ^ 6 := Nat.pow_le_pow_right (by decide) hl
    have : (3 : Nat) ^ 6 = 729 := by decide
    omega
  · obtain ⟨x, hx, rfl⟩ := List.mem_map.mp hf
    have hl := vec_len _ x hx
    have hi : ks.idxOf k < x.length := by rw [hl]; exact List.idxOf_lt_length_of_mem hk
    unfold ofVec
    rw [List.getD_eq_getElem?_getD, List.getElem?_eq_getElem hi]
    exact vec_rg h0 _ x hx _ (List.getElem_mem hi)
theorem zip_vec : ∀ (ks : List Str) (x : List Int), ks.Nodup → x.length = ks.length → zipD (ks.map .str) (x.map .int) = ks.map fun k => .tuple [.str k, .int (ofVec ks x k)]
  | [], _, _, _ => rfl
  | k :: ks, [], _, h => by cases h
  | k :: ks, i :: x, hn, h => by
    have h1 := List.nodup_cons.mp hn
    have ih := zip_vec ks x h1.2 (by simpa using h)
    unfold zipD at ih ⊢
    rw [List.map_cons, List.map_cons, List.zip_cons_cons, List.map_cons, List.map_cons, ih]
    congr 1
    · show PyData.tuple [.str k, .int i] = .tuple [.str k, .int ((i :: x).getD ((k :: ks).idxOf k) 0)]
      rw [List.idxOf_cons_self]; rfl
    · refine List.map_congr_left fun y hy => ?_
      have ne : (k == y) = false := by simpa using fun e : k = y => h1.1 (e ▸ hy)
      show PyData.tuple [.str y, .int (x.getD (ks.idxOf y) 0)] = .tuple [.str y, .int ((i :: x).getD ((k :: ks).idxOf y) 0)]
      rw [List.idxOf_cons, ne]; rfl
theorem add_tups {a b : List D} (h : a.length + b.length ≤ sizeLine) : gAdd (.tuple a) (.tuple b) = some (.fz (.tuple (a ++ b))) := by
  show (if _ then _ else _) = _
  rw [if_pos h]
theorem evi_up {ta : DT} {env e1 : SEnv} {j : Int} (h : Ev ta env (.fz (.int j)) e1) (h0 : 0 ≤ j) (h1 : j < 2 ^ 62) : EvI (iR1 ta) env ((ups j.toNat).map .int) none e1 := by
  rw [← rngD_ups]; exact evi_r1 h h0 h1
theorem ev_lzip {t u : DT} {env e1 e2 : SEnv} {o o2 : O} {d e : D} {ds es : List D} (h : Ev t env o e1) (h2 : Ev u e1 o2 e2) (g : o.get e2 = some d) (g2 : o2.get e2 = some e) (s : seqD d = some ds) (s2 : seqD e = some es) : Ev (dLZip t u) env (.nw (.list (zipD ds es))) e2 := fun Q q => h _ (h2 _ ⟨d, e, ds, es, g, g2, s, s2, q⟩)
theorem serves__law_all_amounts : Serves N__law_all_amounts ps__law_all_amounts t__law_all_amounts sp__law_all_amounts := by
  rintro args R ⟨ks, cs, most, h, h0, h2, rfl, hR⟩
  refine ⟨rfl, rfl, ?_⟩
  have hl := h.ln
  have vl : ∀ n : Nat, n ≤ 6 → (vecs most n).length ≤ 729 := fun n hn => by
    have := vecs_len h2 n
    have : 3 ^ n ≤ 3 ^ 6 := Nat.pow_le_pow_right (by decide) hn
    have : (3 : Nat) ^ 6 = 729 := by decide
    omega
  unfold t__law_all_amounts
  ((try dsimp only); refine st_seq ?_)
  refine st_setF (o := .nw (.list [.tuple []])) (ev_lst (ev_cons (ev_tup ev_nil rfl (by decide)) ev_nil) rfl (by decide)) rfl rfl ?_
  ((try dsimp only); refine st_seq ?_)
  refine for_list (enc := .str) (l := ks) (evi_seq (d := tS ks) (o := .fz (tS ks)) (ev_bin (ev_var rfl) ev_c rfl rfl rfl) rfl rfl) (fun pre e => ∃ s3 s4 s5, fr s3 ∧ fr s4 ∧ fr s5 ∧ e = [.fz (hD ks cs), .fz (.int most), .fz (.list ((vecs most pre.length).map tI)), s3, s4, s5]) ⟨.un, .un, .un, fr.un, fr.un, fr.un, rfl⟩ ?_ ?_
  · rintro pre k post e E1 hi ⟨s3, s4, s5, f3, f4, f5, rfl⟩ nx _ _ _
    have pl : pre.length < 6 := by
      have := congrArg List.length hi
      rw [List.length_append, List.length_cons] at this
      omega
    refine ⟨f3.pin rfl, ?_⟩
    have rl : (ups (most + 1).toNat).length ≤ 3 := by rw [ups_len]; omega
    refine st_setF (o := .nw (.list ((vecs most (pre.length + 1)).map tI))) (ev_call (args := [.fz (.list (((vecs most pre.length).map fun x => (ups (most + 1).toNat).map fun m => tI (x ++ [m])).map .list))]) (args' := [.fz (.list (((vecs most pre.length).map fun x => (ups (most + 1).toNat).map fun m => tI (x ++ [m])).map .list))]) (ev_cons (ev_lcy (enc := tI) (l := vecs most pre.length) (evi_seq (d := .list ((vecs most pre.length).map tI)) (o := .fz (.list ((vecs most pre.length).map tI))) (ev_var rfl) rfl rfl) trivial (by have := vl _ (Nat.le_of_lt pl); show _ ≤ 2 ^ 24; omega) (f4.ow rfl) (fun x => .list ((ups (most + 1).toNat).map fun m => tI (x ++ [m]))) (fun x hx => ?_)) ev_nil) ?_ (by simp [alsO]) (fun R hR => ⟨_, ?_, ?_, rfl, ?_⟩) rfl rfl) rfl rfl (nx _ ⟨.fz (.str k), s4, s5, fr.fz, f4, f5, ?_⟩)
    · refine ⟨_, ev_lcy (enc := .int) (l := ups (most + 1).toNat) (evi_up (ev_bin (ev_var rfl) ev_c rfl rfl rfl) (by omega) (by omega)) trivial (by show _ ≤ 2 ^ 24; omega) (f5.ow rfl) (fun m => tI (x ++ [m])) (fun m hm => ⟨_, ev_bin (ev_var rfl) (ev_tup (ev_cons (ev_var rfl) ev_nil) rfl (by show 1 ≤ 2 ^ 24; decide)) rfl rfl (add_tups (by rw [List.length_map, vec_len _ x hx]; show _ ≤ 2 ^ 24; simp; omega)), ?_⟩), rfl⟩
      show some (PyData.tuple (x.map .int ++ [.int m])) = _
      rw [show tI (x ++ [m]) = PyData.tuple ((x ++ [m]).map .int) from rfl, List.map_append]; rfl
    · rw [List.map_map]; rfl
    · rw [List.map_map]
      have := sum_le (List.length ∘ fun x => (ups (most + 1).toNat).map fun m => tI (x ++ [m])) 3 (vecs most pre.length) fun x _ => by
        show ((ups (most + 1).toNat).map fun m => tI (x ++ [m])).length ≤ 3
        rw [List.length_map]; exact rl
      have := vl _ (Nat.le_of_lt pl)
      omega
    · rw [List.length_map]
      have := vl _ (Nat.le_of_lt pl)
      omega
    · have : ((vecs most pre.length).map fun x => (ups (most + 1).toNat).map fun m => tI (x ++ [m])).flatten = (vecs most (pre.length + 1)).map tI := by
        rw [show vecs most (pre.length + 1) = (vecs most pre.length).flatMap fun x => (ups (most + 1).toNat).map fun m => x ++ [m] from rfl, List.map_flatMap, List.flatMap_def]
        simp only [List.map_map]
        rfl
      rw [this]
      exact hR
    · rw [List.length_append]; rfl
  · rintro e ⟨s3, s4, s5, f3, f4, f5, rfl⟩
    dsimp only
    refine st_ret (o := .nw (.list (((vecs most ks.length).map (ofVec ks)).map (amD ks)))) (e1 := [.fz (hD ks cs), .fz (.int most), .fz (.list ((vecs most ks.length).map tI)), s3, s4, s5]) ?_ ⟨_, rfl, hR _ (vecs_ok h0 h2 hl)⟩
    have key := ev_lcy (enc := tI) (l := vecs most ks.length) (i := 4) (ti := iSeq (dVar 2)) (te := dB gDict (aCons (dLZip (dBin gIx (dVar 0) (dC (.int 0))) (dVar 4)) aNil)) (env := [.fz (hD ks cs), .fz (.int most), .fz (.list ((vecs most ks.length).map tI)), s3, s4, s5]) (evi_seq (d := .list ((vecs most ks.length).map tI)) (o := .fz (.list ((vecs most ks.length).map tI))) (ev_var rfl) rfl rfl) trivial (by have := vl _ hl; show _ ≤ 2 ^ 24; omega) (f4.ow rfl) (fun x => amD ks (ofVec ks x)) (fun x hx => ?_)
    · rw [List.map_map]
      exact key
    · refine ⟨.nw (amD ks (ofVec ks x)), ev_B (ev_cons (ev_lzip (ev_bin (ev_var rfl) ev_c rfl rfl rfl) (ev_var rfl) rfl rfl rfl rfl) ev_nil) rfl ?_, rfl⟩
      rw [zip_vec ks x h.nd (vec_len _ x hx)]
      exact dict_am h.nd
end G21
end
section
set_option Elab.async false
set_option linter.all false
set_option maxRecDepth 100000
/-! M21d: amounts that part two deeds; may they change places; are the answers right. -/
namespace G21
open PySem DL
open G

theorem vals_map {os : List O} {es : List D} (h : valsO os = some es) : ∀ ds : List D, valsO (ds.map O.fz ++ os) = some (ds ++ es)
  | [] => h
  | d :: ds => by
    rw [List.map_cons, List.cons_append, vals_fz, vals_map h ds]; rfl
/-- a dict of amounts, made anew -/
theorem ev_ams {env : SEnv} {ks : List Str} {cs : List (List Str)} {n m : Nat} {i : Nat} {tv : DT} {f : Am} (h : House n m ks cs) (hn : n ≤ 1000) (h0 : env[0]? = some (.fz (hD ks cs))) (no : notOw [i] env = true) (hi : 0 < i)
    (hg : ∀ k ∈ ks, ∃ o, Ev tv (env.set i (.fz (.str k))) o (env.set i (.fz (.str k))) ∧ o.val = some (.int (f k))) :
    Ev (dDc [i] (iSeq (dB gSorted (aCons (dBin gIx (dVar 0) (dC (.int 0))) aNil))) (gN i) bYes (dVar i) tv) env (.nw (amD (srt ks) f)) env := by
  have hsp := srt_perm ks
  have snd : (srt ks).Nodup := hsp.nodup_iff.mpr h.nd
  have sl : (srt ks).length ≤ n := by rw [hsp.length_eq]; exact h.ln
  have il : i < env.length := slot_in no
  have key := ev_dcl (enc := .str) (l := srt ks) (i := i) (tk := dVar i) (tv := tv) (ti := iSeq (dB gSorted (aCons (dBin gIx (dVar 0) (dC (.int 0))) aNil))) (env := env) (evi_seq (o := .nw (lS (srt ks))) (ev_B (ev_cons (ev_bin (ev_var h0) ev_c rfl rfl rfl) ev_nil) rfl (sorted_ks h.nms)) rfl rfl) trivial (by rw [show sizeLine = 2 ^ 24 from rfl]; omega) no .str (fun k => .int (f k))
    (fun k hk => ⟨_, ev_var (d := .str k) (by rw [List.getElem?_set_self il]), rfl, rfl⟩) (fun k hk => hg k (hsp.mem_iff.mp hk))
  rw [dmerge_am (v := fun k => .int (f k)) snd (by simp)] at key
  exact key
theorem fork_head {s t : List Str} (hn : may (.call s) (.call t) = false) : ∃ p a b rest, (fk s t).map (fD s t) ++ (fk t s).map (fD t s) = fD a b p :: rest ∧ first2 (fk s t ++ fk t s) = two p.1 p.2 ∧ (p.1 ∈ s ∨ p.1 ∈ t) ∧ (p.2 ∈ s ∨ p.2 ∈ t) := by
  cases h1 : fk s t with
  | cons p r =>
    have hp : p ∈ fk s t := by rw [h1]; exact List.mem_cons_self
    exact ⟨p, s, t, _, rfl, rfl, .inl (fk_in hp).1, .inl (fk_in hp).2⟩
  | nil =>
    cases h2 : fk t s with
    | cons p r =>
      have hp : p ∈ fk t s := by rw [h2]; exact List.mem_cons_self
      exact ⟨p, t, s, _, rfl, rfl, .inr (fk_in hp).1, .inr (fk_in hp).2⟩
    | nil =>
      have : ((fk s t).isEmpty && (fk t s).isEmpty) = false := hn
      rw [h1, h2] at this; cases this
theorem fk_len {s t : List Str} (hs : s.length ≤ 15) : (fk s t).length ≤ 225 := by
  unfold fk
  rw [List.length_flatMap]
  have := sum_le (fun c => (((s.drop (s.idxOf c + 1)).filter fun u => !decide (u ∈ t)).map fun u => (c, u)).length) 15 (s.filter fun c => decide (c ∈ t)) fun c _ => by
    rw [List.length_map]
    refine Nat.le_trans (List.length_filter_le _ _) ?_
    rw [List.length_drop]; omega
  have h2 := List.length_filter_le (fun c => decide (c ∈ t)) s
  omega
theorem serves_fork_amounts : Serves N_fork_amounts ps_fork_amounts t_fork_amounts sp_fork_amounts := by
  rintro args R ⟨ks, cs, s, t, h, hs, ht, rfl, hR⟩
  refine ⟨rfl, rfl, ?_⟩
  have ns := h.cms hs
  have nt := h.cms ht
  have ls := h.cln hs
  have lt := h.cln ht
  have l1 := fk_len (t := t) ls
  have l2 := fk_len (t := s) lt
  have call : ∀ {env : SEnv} {i j : Nat} {a b : List Str}, env[i]? = some (.fz (tS a)) → env[j]? = some (.fz (tS b)) → Nms a → Nms b → a.length ≤ 15 → Ev (dCall sp_forks_between (aCons (dVar i) (aCons (dVar j) aNil))) env (.nw (.list ((fk a b).map (fD a b)))) env := fun {env i j a b} h1 h2 na nb la =>
    ev_call (args := [.fz (tS a), .fz (tS b)]) (args' := [.fz (tS a), .fz (tS b)]) (ev_cons (ev_var h1) (ev_cons (ev_var h2) ev_nil)) rfl (by simp [alsO]) (fun R hR => ⟨a, b, na, nb, la, rfl, hR⟩) rfl rfl
  unfold t_fork_amounts
  ((try dsimp only); refine st_seq ?_)
  refine st_setF (o := .nw (.list ((fk s t).map (fD s t) ++ (fk t s).map (fD t s)))) (ev_lst (ev_star (call rfl rfl ns nt ls) rfl rfl (ev_star (call rfl rfl nt ns lt) rfl rfl ev_nil)) (vals_map (by rw [vals_map rfl, List.append_nil]) _) ?_) rfl rfl ?_
  · rw [List.length_append, List.length_map, List.length_map]; show _ ≤ 2 ^ 24; omega
  have emp : ((fk s t).map (fD s t) ++ (fk t s).map (fD t s)).isEmpty = may (.call s) (.call t) := by
    show _ = ((fk s t).isEmpty && (fk t s).isEmpty)
    cases fk s t <;> cases fk t s <;> rfl
  have shp : ∀ d ∈ (fk s t).map (fD s t) ++ (fk t s).map (fD t s), Sh 63 d := fun d hd => by
    have up : ∀ {d : D}, Sh 2 d → Sh 63 d := fun h => ⟨h.1, Nat.le_trans h.2 (by decide)⟩
    rcases List.mem_append.mp hd with hd | hd
    · obtain ⟨p, hp, rfl⟩ := List.mem_map.mp hd
      exact up (Sh.fD ns nt (ns _ (fk_in hp).1) (ns _ (fk_in hp).2))
    · obtain ⟨p, hp, rfl⟩ := List.mem_map.mp hd
      exact up (Sh.fD nt ns (nt _ (fk_in hp).1) (nt _ (fk_in hp).2))
  dsimp only
  ((try dsimp only); refine st_seq ?_)
  refine st_if (b := may (.call s) (.call t)) (evt_val (ev_bin (ev_var rfl) (ev_lst ev_nil rfl (by decide)) rfl rfl (by rw [eq_nil shp, emp]))) (fun hm => ?_) (fun hm => ?_)
  · rw [if_pos hm] at hR
    exact st_ret ev_c ⟨_, rfl, hR⟩
  · rw [if_neg (by rw [hm]; decide)] at hR
    unfold sNext
    dsimp only
    obtain ⟨p, a, b, rest, he, hf, h1, h2⟩ := fork_head hm
    rw [he]
    have o1 : PyData.strOk p.1 = true := h1.elim (ns _) (nt _)
    have o2 : PyData.strOk p.2 = true := h2.elim (ns _) (nt _)
    refine st_ret (o := .nw (amD (srt ks) (parts ks (.call s) (.call t)))) (ev_ams h (by decide) rfl rfl (by decide) fun k hk => ?_) ⟨_, rfl, hR⟩
    refine ⟨_, ev_B (ev_cons (ev_bin (a := .str k) (b := tS [p.1, p.2]) (ev_var rfl) (ev_sl (z := .fz (tS [p.1, p.2])) (ev_bin (o := .fz (fD a b p)) (ev_var rfl) ev_c rfl rfl (ix_seq (j := 0) rfl rfl)) (ev_at ev_c) ev_no rfl) rfl rfl (in_t (neg := false) (h.nms k hk) (fun x hx => ?_))) ev_nil) rfl rfl, ?_⟩
    · simp only [List.mem_cons, List.not_mem_nil, or_false] at hx
      rcases hx with rfl | rfl
      · exact o1
      · exact o2
    · show some (PyData.int (if (decide (k ∈ [p.1, p.2]) != false) = true then 1 else 0)) = some (.int (first2 (fk s t ++ fk t s) k))
      rw [hf]
      unfold two
      simp
theorem amounts_ev {env : SEnv} {ks : List Str} {cs : List (List Str)} {s t : List Str} {ta : DA} {o : O} (h : House 15 100 ks cs) (hs : s ∈ cs) (ht : t ∈ cs) (ho : o = if may (.call s) (.call t) then .fz .none else .nw (amD (srt ks) (parts ks (.call s) (.call t)))) (ev : EvA ta env [.fz (hD ks cs), .fz (tS s), .fz (tS t)] env) : Ev (dCall sp_fork_amounts ta) env o env := by
  refine ev_call (args := [.fz (hD ks cs), .fz (tS s), .fz (tS t)]) (args' := [.fz (hD ks cs), .fz (tS s), .fz (tS t)]) ev rfl (by simp [alsO]) (fun R hR => ⟨ks, cs, s, t, h, hs, ht, rfl, ?_⟩) ?_ rfl
  · rw [← ho]; exact hR
  · rw [ho]; split <;> rfl
theorem zero_ev {env : SEnv} {ks : List Str} {cs : List (List Str)} (h : House 15 100 ks cs) (h0 : env[0]? = some (.fz (hD ks cs))) (no : notOw [5] env = true) :
    Ev (dDc [5] (iSeq (dB gSorted (aCons (dBin gIx (dVar 0) (dC (.int 0))) aNil))) (gN 5) bYes (dVar 5) (dC (.int 0))) env (.nw (amD (srt ks) fun _ => 0)) env :=
  ev_ams h (by decide) h0 no (by decide) fun k _ => ⟨_, ev_c, rfl⟩
theorem serves_parted_by : Serves N_parted_by ps_parted_by t_parted_by sp_parted_by := by
  rintro args R ⟨ks, cs, a, b, h, ha, hb, rfl, hR⟩
  refine ⟨rfl, rfl, ?_⟩
  unfold t_parted_by
  have put_call : ∀ {k : Str} {c : List Str} {s5 : DL.Slot}, k ∈ ks → c ∈ cs → fr s5 → (if (!decide (k ∈ c)) = true then O.fz .none else .nw (amD (srt ks) fun _ => 0)) = (if may a b then O.fz .none else .nw (amD (srt ks) (parts ks a b))) →
      sRet (dIf (bVal (dBin (gIn false) (dBin gIx (dVar 3) (dC (.int 1))) (dBin gIx (dVar 4) (dC (.int 1))))) (dDc [5] (iSeq (dB gSorted (aCons (dBin gIx (dVar 0) (dC (.int 0))) aNil))) (gN 5) bYes (dVar 5) (dC (.int 0))) (dC .none)) [.fz (hD ks cs), .fz (dD a), .fz (dD b), .fz (dD (.put k)), .fz (dD (.call c)), s5] (fnEnds [.fz (hD ks cs), .fz (dD a), .fz (dD b)] R) := fun {k c s5} hk hc f5 he => by
    have hi := in_t (neg := false) (h.nms k hk) (h.cms hc)
    rw [Bool.bne_false] at hi
    have test : EvT (bVal (dBin (gIn false) (dBin gIx (dVar 3) (dC (.int 1))) (dBin gIx (dVar 4) (dC (.int 1))))) [.fz (hD ks cs), .fz (dD a), .fz (dD b), .fz (dD (.put k)), .fz (dD (.call c)), s5] (decide (k ∈ c)) [.fz (hD ks cs), .fz (dD a), .fz (dD b), .fz (dD (.put k)), .fz (dD (.call c)), s5] := evt_val (ev_bin (ev_bin (ev_var rfl) ev_c rfl rfl rfl) (ev_bin (ev_var rfl) ev_c rfl rfl rfl) rfl rfl hi)
    by_cases hm : k ∈ c
    · rw [decide_eq_true hm] at test he
      have he : O.nw (amD (srt ks) fun _ => 0) = _ := he
      rw [← he] at hR
      exact st_ret (ev_if1 test (zero_ev h rfl (f5.ow rfl))) ⟨_, rfl, hR⟩
    · rw [decide_eq_false hm] at test he
      have he : O.fz .none = _ := he
      rw [← he] at hR
      exact st_ret (ev_if0 test ev_c) ⟨_, rfl, hR⟩
  have ix0 : ∀ {env : SEnv} {i : Nat} {d : Deed}, env[i]? = some (.fz (dD d)) → Ev (dBin gIx (dVar i) (dC (.int 0))) env (.fz (.str (word d))) env := fun {env i d} hi => by
    rw [dD_eq] at hi
    exact ev_bin (ev_var hi) ev_c rfl rfl rfl
  cases a with
  | put k =>
    cases b with
    | put l =>
      ((try dsimp only); refine st_seq ?_)
      refine st_if (b := true) (evt_and1 (evt_val (ev_bin (ix0 (d := .put k) rfl) ev_c rfl rfl rfl)) (evt_val (ev_bin (ix0 (d := .put l) rfl) ev_c rfl rfl rfl))) (fun _ => ?_) (fun z => by cases z)
      exact st_ret ev_c ⟨_, rfl, hR⟩
    | call c =>
      ((try dsimp only); refine st_seq ?_)
      refine st_if (b := false) (evt_and1 (evt_val (ev_bin (ix0 (d := .put k) rfl) ev_c rfl rfl rfl)) (evt_val (ev_bin (ix0 (d := .call c) rfl) ev_c rfl rfl rfl))) (fun z => by cases z) (fun _ => ?_)
      unfold sNext
      ((try dsimp only); refine st_seq ?_)
      refine st_if (b := false) (evt_and0 (evt_val (ev_bin (ix0 (d := .put k) rfl) ev_c rfl rfl rfl))) (fun z => by cases z) (fun _ => ?_)
      ((try dsimp only); refine st_seq ?_)
      refine ev_if1 (o := .fz (.tuple [dD (.put k), dD (.call c)])) (evt_val (ev_bin (ix0 (d := .put k) rfl) ev_c rfl rfl rfl)) (ev_tup (ev_cons (ev_var rfl) (ev_cons (ev_var rfl) ev_nil)) rfl (by show 2 ≤ 2 ^ 24; decide)) _ ⟨_, rfl, ⟨_, rfl, rfl, _, _, rfl, ⟨rfl, ⟨_, _, rfl, ⟨rfl, rfl, ?_⟩⟩⟩⟩⟩
      exact put_call ha hb fr.un rfl
  | call s =>
    cases b with
    | put k =>
      ((try dsimp only); refine st_seq ?_)
      refine st_if (b := false) (evt_and0 (evt_val (ev_bin (ix0 (d := .call s) rfl) ev_c rfl rfl rfl))) (fun z => by cases z) (fun _ => ?_)
      unfold sNext
      ((try dsimp only); refine st_seq ?_)
      refine st_if (b := false) (evt_and1 (evt_val (ev_bin (ix0 (d := .call s) rfl) ev_c rfl rfl rfl)) (evt_val (ev_bin (ix0 (d := .put k) rfl) ev_c rfl rfl rfl))) (fun z => by cases z) (fun _ => ?_)
      ((try dsimp only); refine st_seq ?_)
      refine ev_if0 (o := .fz (.tuple [dD (.put k), dD (.call s)])) (evt_val (ev_bin (ix0 (d := .call s) rfl) ev_c rfl rfl rfl)) (ev_tup (ev_cons (ev_var rfl) (ev_cons (ev_var rfl) ev_nil)) rfl (by show 2 ≤ 2 ^ 24; decide)) _ ⟨_, rfl, ⟨_, rfl, rfl, _, _, rfl, ⟨rfl, ⟨_, _, rfl, ⟨rfl, rfl, ?_⟩⟩⟩⟩⟩
      exact put_call hb ha fr.un rfl
    | call t =>
      ((try dsimp only); refine st_seq ?_)
      refine st_if (b := false) (evt_and0 (evt_val (ev_bin (ix0 (d := .call s) rfl) ev_c rfl rfl rfl))) (fun z => by cases z) (fun _ => ?_)
      unfold sNext
      ((try dsimp only); refine st_seq ?_)
      refine st_if (b := true) (evt_and1 (evt_val (ev_bin (ix0 (d := .call s) rfl) ev_c rfl rfl rfl)) (evt_val (ev_bin (ix0 (d := .call t) rfl) ev_c rfl rfl rfl))) (fun _ => ?_) (fun z => by cases z)
      refine st_ret (amounts_ev h ha hb rfl (ev_cons (ev_var rfl) (ev_cons (ev_bin (ev_var rfl) ev_c rfl rfl rfl) (ev_cons (ev_bin (ev_var rfl) ev_c rfl rfl rfl) ev_nil)))) ⟨_, ?_, hR⟩
      split <;> rfl
theorem parted_ev {env : SEnv} {ks : List Str} {cs : List (List Str)} {a b : Deed} {ta : DA} {o : O} (h : House 15 100 ks cs) (ha : okD ks cs a) (hb : okD ks cs b) (ho : o = if may a b then .fz .none else .nw (amD (srt ks) (parts ks a b))) (ev : EvA ta env [.fz (hD ks cs), .fz (dD a), .fz (dD b)] env) : Ev (dCall sp_parted_by ta) env o env := by
  refine ev_call (args := [.fz (hD ks cs), .fz (dD a), .fz (dD b)]) (args' := [.fz (hD ks cs), .fz (dD a), .fz (dD b)]) ev rfl (by simp [alsO]) (fun R hR => ⟨ks, cs, a, b, h, ha, hb, rfl, ?_⟩) ?_ rfl
  · rw [← ho]; exact hR
  · rw [ho]; split <;> rfl
theorem serves_may_change : Serves N_may_change ps_may_change t_may_change sp_may_change := by
  rintro args R ⟨ks, cs, a, b, h, ha, hb, rfl, hR⟩
  refine ⟨rfl, rfl, ?_⟩
  have key := parted_ev (env := [.fz (hD ks cs), .fz (dD a), .fz (dD b)]) h ha hb rfl (ev_cons (ev_var (i := 0) rfl) (ev_cons (ev_var (i := 1) rfl) (ev_cons (ev_var (i := 2) rfl) ev_nil)))
  refine st_ret (o := .fz (.bool (may a b))) (ev_bin (a := if may a b then .none else amD (srt ks) (parts ks a b)) key ev_c ?_ rfl ?_) ⟨_, rfl, hR⟩
  · split <;> rfl
  · show some (O.fz (.bool (isNoneD _ != false))) = _
    cases may a b <;> rfl
end G21
end
section
set_option Elab.async false
set_option linter.all false
set_option maxRecDepth 100000
/-! M21e: the answers are right. -/
namespace G21
open PySem DL
open G

theorem act1_congr {ks : List Str} {f g : Am} {d : Deed} (hd : inD ks d) (h : ∀ k ∈ ks, f k = g k) : ∀ k ∈ ks, act1 f d k = act1 g d k := by
  intro k hk
  cases d with
  | put l =>
    show more f l k = more g l k
    unfold more
    rw [h k hk]
  | call c =>
    show less f (takes f c) k = less g (takes g c) k
    rw [takes_congr (g := g) fun x hx => h x (hd x hx)]
    cases takes g c with
    | none => exact h k hk
    | some y => rw [less_at, less_at, h k hk]
theorem acts_congr {ks : List Str} : ∀ {ds : List Deed} {f g : Am}, (∀ d ∈ ds, inD ks d) → (∀ k ∈ ks, f k = g k) → ∀ k ∈ ks, acts f ds k = acts g ds k
  | [], _, _, _, h => h
  | d :: ds, f, g, hd, h => acts_congr (ds := ds) (f := act1 f d) (g := act1 g d) (fun x hx => hd x (List.mem_cons_of_mem _ hx)) (act1_congr (hd d List.mem_cons_self) h)
theorem okD_in {n m : Nat} {ks : List Str} {cs : List (List Str)} (h : House n m ks cs) {d : Deed} (hd : okD ks cs d) : inD ks d := by
  cases d with
  | put k => exact hd
  | call c => exact h.cin c hd
theorem okD_asc {n m : Nat} {ks : List Str} {cs : List (List Str)} (h : House n m ks cs) {d : Deed} (hd : okD ks cs d) : AscD ks.idxOf d := by
  cases d with
  | put k => trivial
  | call c => exact h.ord c hd
theorem alike_not {n m : Nat} {ks : List Str} {cs : List (List Str)} {a b : Deed} (h : House n m ks cs) (ha : okD ks cs a) (hb : okD ks cs b) (hm : may a b = false) : alikeOn ks a b (parts ks a b) = false := by
  obtain ⟨k, hk, ne⟩ := parts_ok (okD_asc h ha) (okD_asc h hb) (okD_in h ha) (okD_in h hb) hm
  rw [← Bool.not_eq_true]
  intro z
  unfold alikeOn at z
  rw [List.all_eq_true] at z
  exact ne (by simpa using z k hk)
theorem may_all {n m : Nat} {ks : List Str} {cs : List (List Str)} {a b : Deed} {most : Int} {fs : List Am} (h : House n m ks cs) (ha : okD ks cs a) (hb : okD ks cs b) (h1 : 1 ≤ most) (hf : allAm ks most fs) : fs.all (alikeOn ks a b) = may a b := by
  cases hm : may a b with
  | true =>
    rw [List.all_eq_true]
    intro f _
    unfold alikeOn
    rw [List.all_eq_true]
    intro k _
    rw [may_ok (okD_asc h ha) (okD_asc h hb) hm f]
    simp
  | false =>
    rw [← Bool.not_eq_true]
    intro z
    rw [List.all_eq_true] at z
    obtain ⟨f, hfm, hfk⟩ := hf.1 (parts ks a b) fun k _ => by
      rcases parts_01 ks a b k with e | e <;> rw [e] <;> omega
    have h2 := z f hfm
    have h3 := alike_not h ha hb hm
    rw [← Bool.not_eq_true] at h3
    apply h3
    unfold alikeOn at h2 ⊢
    rw [List.all_eq_true] at h2 ⊢
    intro k hk
    have in2 : ∀ x y : Deed, okD ks cs x → okD ks cs y → ∀ d ∈ [x, y], inD ks d := fun x y hx hy d hd => by
      simp only [List.mem_cons, List.not_mem_nil, or_false] at hd
      rcases hd with rfl | rfl
      · exact okD_in h hx
      · exact okD_in h hy
    rw [← acts_congr (in2 a b ha hb) hfk k hk, ← acts_congr (in2 b a hb ha) hfk k hk]
    exact h2 k hk
/-! what is shown -/
theorem depthKv_le {n : Nat} : ∀ {kvs : List (D × D)}, (∀ q ∈ kvs, q.1.depth ≤ n ∧ q.2.depth ≤ n) → PyData.depthKv kvs ≤ n
  | [], _ => by simp [PyData.depthKv]
  | (k, v) :: r, h => by
    have h1 : k.depth ≤ n ∧ v.depth ≤ n := h (k, v) List.mem_cons_self
    have := depthKv_le (kvs := r) fun q hq => h q (List.mem_cons_of_mem _ hq)
    simp only [PyData.depthKv]
    omega
theorem depth_am {ks : List Str} {f : Am} : (amD ks f).depth ≤ 1 := by
  show PyData.depth (.dict _) ≤ 1
  simp only [PyData.depth]
  have := depthKv_le (n := 0) (kvs := ks.map fun k => (PyData.str k, PyData.int (f k))) fun q hq => by
    obtain ⟨k, _, rfl⟩ := List.mem_map.mp hq
    exact ⟨by simp [PyData.depth], by simp [PyData.depth]⟩
  omega
theorem showableKv_of : ∀ {kvs : List (D × D)}, (∀ q ∈ kvs, q.1.showable = true ∧ q.2.showable = true) → PyData.showableKv kvs = true
  | [], _ => by simp [PyData.showableKv]
  | (k, v) :: r, h => by
    have h1 := h (k, v) List.mem_cons_self
    simp only [PyData.showableKv, h1.1, h1.2, showableKv_of (kvs := r) fun q hq => h q (List.mem_cons_of_mem _ hq), Bool.and_self]
theorem shownKv_map {α : Type} (f : α → D × D) : ∀ l : List α, PyData.shownKv (l.map f) = l.map fun x => (f x).1.shown ++ ": " ++ (f x).2.shown
  | [] => by simp [PyData.shownKv]
  | x :: l => by
    rw [List.map_cons, List.map_cons]
    cases e : f x with
    | mk k v => rw [PyData.shownKv, shownKv_map f l]
theorem Tx.dict {n : Nat} {ts : List Str} (h : ∀ t ∈ ts, Tx n t) : Tx (ts.length * (n + 2) + 2) (dictText ts) := by
  have h1 : Tx 1 ("{" : Str) := by constructor <;> decide +kernel
  have h2 : Tx 1 ("}" : Str) := by constructor <;> decide +kernel
  exact ((h1.app (Tx.join h)).app h2).mono (by omega)
theorem tx01 {i : Int} (h : i = 0 ∨ i = 1) : Tx 1 (PyData.shown (.int i)) := by
  rcases h with rfl | rfl <;> constructor <;> decide +kernel
theorem shown_am {ks : List Str} {f : Am} (hk : ∀ k ∈ ks, k ∈ menu) (hf : ∀ k ∈ ks, f k = 0 ∨ f k = 1) : Tx (ks.length * 13 + 2) (amD ks f).shown := by
  show Tx _ (PyData.shown (.dict _))
  simp only [PyData.shown]
  rw [shownKv_map]
  have := Tx.dict (n := 11) (ts := ks.map fun k => (PyData.str k).shown ++ ": " ++ (PyData.int (f k)).shown) (fun t ht => by
    obtain ⟨k, hk', rfl⟩ := List.mem_map.mp ht
    have h1 : Tx 8 (PyData.shown (.str k)) := by simp only [PyData.shown]; exact menu_tx k (hk k hk')
    have h2 : Tx 2 (": " : Str) := by constructor <;> decide +kernel
    exact (h1.app h2).app (tx01 (hf k hk')))
  rw [List.length_map] at this
  exact this
theorem showable_01 {i : Int} (h : i = 0 ∨ i = 1) : PyData.showable (.int i) = true := by
  rcases h with rfl | rfl <;> decide +kernel
theorem showable_am {ks : List Str} {f : Am} (hf : ∀ k ∈ ks, f k = 0 ∨ f k = 1) : (amD ks f).showable = true := by
  show PyData.showable (.dict _) = true
  simp only [PyData.showable]
  exact showableKv_of fun q hq => by
    obtain ⟨k, hk, rfl⟩ := List.mem_map.mp hq
    exact ⟨by simp [PyData.showable], showable_01 (hf k hk)⟩
theorem repr_am {ks : List Str} {f : Am} (hk : ∀ k ∈ ks, k ∈ menu) (hl : ks.length ≤ 1000) (hf : ∀ k ∈ ks, f k = 0 ∨ f k = 1) : gRepr [amD ks f] = some (.fz (.str (amD ks f).shown)) := by
  have h1 := showable_am hf
  have h2 := depth_am (ks := ks) (f := f)
  have h3 := (shown_am hk hf).2
  show (if _ then _ else (if ((amD ks f).showable && decide ((amD ks f).depth ≤ 64) && decide ((amD ks f).shown.length ≤ sizeLine)) = true then _ else _)) = _
  rw [shaped_dict, h1, decide_eq_true (show (amD ks f).depth ≤ 64 by omega), decide_eq_true (show (amD ks f).shown.length ≤ sizeLine by show _ ≤ 2 ^ 24; omega)]
  rfl
theorem bools_x (x y : Bool) : Okx (.list [.bool x, .bool y]) := by
  refine Okd.x ⟨⟨?_, ?_⟩, ?_, ?_⟩
  · cases x <;> cases y <;> decide +kernel
  · cases x <;> cases y <;> decide +kernel
  · cases x <;> cases y <;> decide +kernel
  · have : (PyData.shown (.list [.bool x, .bool y])).length ≤ 20 := by cases x <;> cases y <;> decide +kernel
    show _ ≤ 2 ^ 24
    omega
theorem evt_mask {env e1 : SEnv} {i : Nat} {t : DB} {b : Bool} {d : D} (hi : env[i]? = some (.ow false d)) (h : EvT t ((hide env).set i (.fz d)) b e1) : EvT (bMask i t) env b env := fun Q q => ⟨d, hi, h _ q⟩
theorem ev_clr {env : SEnv} {i : Nat} {p : Bool} {d d' : D} (hi : env[i]? = some (.ow p d)) (he : emptyD d = some d') : Ev (dClr i) env (.fz .none) (env.set i (.ow p d')) := fun Q q => ⟨p, d, d', hi, he, q⟩
theorem alike_ev {ks : List Str} {cs : List (List Str)} {a b : Deed} {kk : List Str} {fs : List Am} (h : House 15 100 ks cs) (ha : okD ks cs a) (hb : okD ks cs b) (hp : kk.Perm ks) (hl : fs.length ≤ 2 ^ 16) {env : SEnv} {ta : DA} {os : List O} (ev : EvA ta env os env) (hs : argsS env os = some [.fz (hD ks cs), .fz (dD a), .fz (dD b), .fz (.list (fs.map (amD kk)))]) (hn : alsO os = []) :
    Ev (dCall sp__law_are_alike ta) env (.fz (.bool (fs.all (alikeOn ks a b)))) env :=
  ev_call ev hs (by rw [hn]; exact List.nodup_nil) (fun R hR => ⟨ks, cs, a, b, kk, fs, h, ha, hb, hp, hl, rfl, hR⟩) rfl (back_fz hn)
theorem serves__law_right : Serves N__law_right ps__law_right t__law_right sp__law_right := by
  rintro args R ⟨ks, cs, a, b, most, fs, h6, ha, hb, h1, hf, rfl, hR⟩
  refine ⟨rfl, rfl, ?_⟩
  have h : House 15 100 ks cs := h6.mono (by decide) (by decide)
  have hsp := srt_perm ks
  have sin : ∀ {k : Str}, k ∈ srt ks ↔ k ∈ ks := hsp.mem_iff
  have sl : (srt ks).length ≤ 15 := by rw [hsp.length_eq]; exact h.ln
  unfold t__law_right
  ((try dsimp only); refine st_seq ?_)
  refine st_setF (o := .fz (.bool (may a b))) (ev_call (args := [.fz (.list (sortD (forksL cs))), .fz (dD a), .fz (dD b)]) (args' := [.fz (.list (sortD (forksL cs))), .fz (dD a), .fz (dD b)]) (ev_cons (ev_var rfl) (ev_cons (ev_var rfl) (ev_cons (ev_var rfl) ev_nil))) rfl (by simp [alsO]) (fun R hR => ⟨ks, cs, a, b, h, ha, hb, rfl, hR⟩) rfl rfl) rfl rfl ?_
  ((try dsimp only); refine st_seq ?_)
  refine st_if (b := false) (evt_val (ev_bin (ev_var rfl) (alike_ev h ha hb (.refl _) hf.2.1 (ev_cons (ev_var rfl) (ev_cons (ev_var rfl) (ev_cons (ev_var rfl) (ev_cons (ev_var rfl) ev_nil)))) rfl rfl) rfl rfl ?_)) (fun z => by cases z) (fun _ => ?_)
  · rw [may_all h ha hb h1 hf, ne_of' (n := 0) (m := 0) Sh.bool Sh.bool, eqv_self _ (Sh.bool (n := 0)).1]
    rfl
  unfold sNext
  ((try dsimp only); refine st_seq ?_)
  have mc : ∀ {env : SEnv} {x y : Deed} {i j : Nat}, okD ks cs x → okD ks cs y → env[0]? = some (.fz (hD ks cs)) → env[i]? = some (.fz (dD x)) → env[j]? = some (.fz (dD y)) → Ev (dCall sp_may_change (aCons (dVar 0) (aCons (dVar i) (aCons (dVar j) aNil)))) env (.fz (.bool (may x y))) env := fun {env x y i j} hx hy e0 ei ej =>
    ev_call (args := [.fz (hD ks cs), .fz (dD x), .fz (dD y)]) (args' := [.fz (hD ks cs), .fz (dD x), .fz (dD y)]) (ev_cons (ev_var e0) (ev_cons (ev_var ei) (ev_cons (ev_var ej) ev_nil))) rfl (by simp [alsO]) (fun R hR => ⟨ks, cs, x, y, h, hx, hy, rfl, hR⟩) rfl rfl
  refine st_if (b := false) (evt_not (b := true) (evt_tru (o := .fz (.bool true)) (ev_call (args := [.fz (.list [.bool (may a b), .bool (may a b)]), .fz (.list [.bool (may a b), .bool (may a b)])]) (args' := [.fz (.list [.bool (may a b), .bool (may a b)]), .fz (.list [.bool (may a b), .bool (may a b)])]) (ev_cons (ev_lst (ds := [.bool (may a b), .bool (may a b)]) (ev_cons (mc ha hb rfl rfl rfl) (ev_cons (mc hb ha rfl rfl rfl) ev_nil)) (by rw [may_comm b a]; rfl) (by show 2 ≤ 2 ^ 24; decide)) (ev_cons (ev_lst (ev_cons (ev_var rfl) (ev_cons (ev_var rfl) ev_nil)) rfl (by show 2 ≤ 2 ^ 24; decide)) ev_nil)) rfl (by simp [alsO]) (fun R hR => ⟨_, _, _, .inl rfl, .inl rfl, bools_x _ _, rfl, hR⟩) rfl rfl) rfl rfl)) (fun z => by cases z) (fun _ => ?_)
  ((try dsimp only); refine st_seq ?_)
  cases hm : may a b with
  | true =>
    refine st_set (o := .fz .none) (parted_ev h ha hb (by rw [hm]; rfl) (ev_cons (ev_var rfl) (ev_cons (ev_var rfl) (ev_cons (ev_var rfl) ev_nil)))) rfl rfl ?_
    ((try dsimp only); refine st_seq ?_)
    refine st_if (b := true) (evt_tru (ev_var rfl) rfl rfl) (fun _ => ?_) (fun z => by cases z)
    exact st_ret (ev_bin (ev_var rfl) ev_c rfl rfl rfl) ⟨_, rfl, hR⟩
  | false =>
    have p01 : ∀ k ∈ srt ks, parts ks a b k = 0 ∨ parts ks a b k = 1 := fun k _ => parts_01 ks a b k
    have smn : ∀ k ∈ srt ks, k ∈ menu := fun k hk => h.mn k (sin.mp hk)
    have rp := repr_am smn (by omega) p01
    have stk := (shown_am smn p01).1
    refine st_set (o := .nw (amD (srt ks) (parts ks a b))) (parted_ev h ha hb (by rw [hm]; rfl) (ev_cons (ev_var rfl) (ev_cons (ev_var rfl) (ev_cons (ev_var rfl) ev_nil)))) rfl rfl ?_
    ((try dsimp only); refine st_seq ?_)
    refine st_if (b := false) (evt_tru (ev_var rfl) rfl rfl) (fun z => by cases z) (fun _ => ?_)
    ((try dsimp only); refine st_seq ?_)
    refine st_setF (o := .fz (.str (amD (srt ks) (parts ks a b)).shown)) (ev_B (ds := [amD (srt ks) (parts ks a b)]) (ev_cons (ev_own rfl) ev_nil) rfl rp) rfl rfl ?_
    ((try dsimp only); refine st_seq ?_)
    refine st_if (b := false) (evt_mask rfl (evt_or0 (evt_not (b := true) (evt_tru (o := .fz (.bool true)) (ev_call (args := [.fz (hD ks cs), .fz (amD (srt ks) (parts ks a b))]) (args' := [.fz (hD ks cs), .fz (amD (srt ks) (parts ks a b))]) (ev_cons (ev_var rfl) (ev_cons (ev_var rfl) ev_nil)) rfl (by simp [alsO]) (fun R hR => ⟨ks, cs, _, h, fun k => ?_, rfl, hR⟩) rfl rfl) rfl rfl)) (evt_tru (c := false) (alike_ev (fs := [parts ks a b]) h ha hb hsp (by show 1 ≤ 2 ^ 16; decide) (ev_cons (ev_var rfl) (ev_cons (ev_var rfl) (ev_cons (ev_var rfl) (ev_cons (ev_lst (ev_cons (ev_var rfl) ev_nil) rfl (by show 1 ≤ 2 ^ 24; decide)) ev_nil)))) rfl rfl) rfl ?_))) (fun z => by cases z) (fun _ => ?_)
    · rcases parts_01 ks a b k with e | e <;> rw [e] <;> decide
    · show some (List.all [parts ks a b] (alikeOn ks a b)) = _
      rw [List.all_cons, alike_not h ha hb hm]; rfl
    ((try dsimp only); refine st_seq ?_)
    refine st_drop (ev_clr rfl rfl) ?_
    dsimp only
    refine st_ret (o := .fz (.bool true)) (ev_bin (ev_B (ev_cons (parted_ev (o := .nw (amD (srt ks) (parts ks a b))) h ha hb (by rw [hm]; rfl) (ev_cons (ev_var rfl) (ev_cons (ev_var rfl) (ev_cons (ev_var rfl) ev_nil)))) ev_nil) rfl rp) (ev_var rfl) rfl rfl ?_) ⟨_, rfl, hR⟩
    rw [eq_of (n := 0) (m := 0) (Sh.str stk) (Sh.str stk), eqv_self _ (Sh.str (n := 0) stk).1]
end G21
end
section
set_option Elab.async false
set_option linter.all false
set_option maxRecDepth 100000
/-! M21f: the law of k21. -/
namespace G21
open PySem DL
open G

theorem okd_hD {n m : Nat} {ks : List Str} {cs : List (List Str)} (h : House n m ks cs) (hn : n ≤ 15) (hm : m ≤ 100) : Okd (hD ks cs) := by
  have lk := h.ln
  have lc := h.lc
  have mc : ∀ c ∈ cs, ∀ k ∈ c, k ∈ menu := fun c hc k hk => h.mn k (h.cin c hc k hk)
  have sh : Sh 2 (.tuple (cs.map tS)) := Sh.tup fun d hd => by
    obtain ⟨c, hc, rfl⟩ := List.mem_map.mp hd
    exact Sh.tS (h.cms hc)
  have sk : Sh 2 (tS ks) := ⟨(Sh.tS h.nms).1, Nat.le_trans (Sh.tS h.nms).2 (by decide)⟩
  have s3 : Sh 3 (hD ks cs) := Sh.tup fun d hd => by
    simp only [List.mem_cons, List.not_mem_nil, or_false] at hd
    rcases hd with rfl | rfl
    · exact sk
    · exact sh
  refine ⟨⟨s3.1, Nat.le_trans s3.2 (by decide)⟩, ?_, ?_⟩
  · simp only [PyData.showable]
    refine showableAll_of fun d hd => ?_
    simp only [List.mem_cons, List.not_mem_nil, or_false] at hd
    rcases hd with rfl | rfl
    · exact showable_tS ks
    · simp only [PyData.showable]
      refine showableAll_of fun d hd => ?_
      obtain ⟨c, hc, rfl⟩ := List.mem_map.mp hd
      exact showable_tS c
  · have t1 := shown_tS h.mn
    have t2 : Tx 17000 (PyData.shown (.tuple (cs.map tS))) := by
      simp only [PyData.shown]
      rw [shownAll_map]
      have := Tx.tuple (n := 154) (ts := cs.map fun c => (tS c).shown) (fun t ht => by
        obtain ⟨c, hc, rfl⟩ := List.mem_map.mp ht
        exact (shown_tS (mc c hc)).mono (by have := h.cln hc; omega))
      rw [List.length_map] at this
      exact this.mono (by omega)
    have t3 := Tx.tuple (n := 17000) (ts := [(tS ks).shown, PyData.shown (.tuple (cs.map tS))]) (fun t ht => by
      simp only [List.mem_cons, List.not_mem_nil, or_false] at ht
      rcases ht with rfl | rfl
      · exact t1.mono (by omega)
      · exact t2)
    have e : (hD ks cs).shown = tupleText [(tS ks).shown, PyData.shown (.tuple (cs.map tS))] := by
      show PyData.shown (.tuple [tS ks, .tuple (cs.map tS)]) = _
      simp only [PyData.shown, PyData.shownAll]
    rw [e]
    refine Nat.le_trans t3.2 ?_
    show 2 * (17000 + 2) + 4 ≤ 2 ^ 24
    decide
theorem shown_hD_ok {n m : Nat} {ks : List Str} {cs : List (List Str)} (h : House n m ks cs) : PyData.strOk (hD ks cs).shown = true := by
  have t1 := shown_tS h.mn
  have mc : ∀ c ∈ cs, ∀ k ∈ c, k ∈ menu := fun c hc k hk => h.mn k (h.cin c hc k hk)
  have t2 : Tx (cs.length * (n * 10 + 4 + 2) + 4) (PyData.shown (.tuple (cs.map tS))) := by
    simp only [PyData.shown]
    rw [shownAll_map]
    have := Tx.tuple (n := n * 10 + 4) (ts := cs.map fun c => (tS c).shown) (fun t ht => by
      obtain ⟨c, hc, rfl⟩ := List.mem_map.mp ht
      exact (shown_tS (mc c hc)).mono (by have := h.cln hc; omega))
    rw [List.length_map] at this
    exact this
  have e : (hD ks cs).shown = tupleText [(tS ks).shown, PyData.shown (.tuple (cs.map tS))] := by
    show PyData.shown (.tuple [tS ks, .tuple (cs.map tS)]) = _
    simp only [PyData.shown, PyData.shownAll]
  rw [e]
  exact (Tx.tuple (n := ks.length * 10 + 4 + (cs.length * (n * 10 + 4 + 2) + 4)) (fun t ht => by
      simp only [List.mem_cons, List.not_mem_nil, or_false] at ht
      rcases ht with rfl | rfl
      · exact t1.mono (by omega)
      · exact t2.mono (by omega))).1
theorem deeds_mem {ks : List Str} {cs : List (List Str)} {d : D} (h : d ∈ (ks.map Deed.put ++ cs.map Deed.call).map dD) : ∃ a, okD ks cs a ∧ d = dD a := by
  obtain ⟨a, ha, rfl⟩ := List.mem_map.mp h
  refine ⟨a, ?_, rfl⟩
  rcases List.mem_append.mp ha with ha | ha
  · obtain ⟨k, hk, rfl⟩ := List.mem_map.mp ha; exact hk
  · obtain ⟨c, hc, rfl⟩ := List.mem_map.mp ha; exact hc
theorem house_pick {env : SEnv} {rest : List DL.Slot} {ns : List Int} {d : D} (b : Bool) {Q : O → SEnv → Prop} (he : env = .sc ns :: .ow false d :: rest) (bd : isBag d) (k : ∀ ks cs d', House 6 100 ks cs → isBag d' → Q (.fz (hD ks cs)) (.sc ns :: .ow false d' :: rest)) :
    if b = true then (dCall sp__law_house (aCons (dVar 1) (aCons (dCall sp__law_one (aCons (dVar 1) (aCons (dLst (aCons (dC (.int 3)) (aCons (dC (.int 4)) (aCons (dC (.int 3)) aNil)))) aNil))) (aCons (dC (.int 6)) aNil)))) env Q else (dCall sp__law_house (aCons (dVar 1) (aCons (dC (.int 6)) (aCons (dC (.int 8)) aNil)))) env Q := by
  subst he
  split
  · refine u_call (u_cons (ev_own rfl _ (u_cons (one_ev (i := 1) (ds := [.int 3, .int 4, .int 3]) (o := .nw (.list [.int 3, .int 4, .int 3])) (ev_cons (ev_own rfl) (ev_cons (ev_lst (ev_cons ev_c (ev_cons ev_c (ev_cons ev_c ev_nil))) rfl (by show 3 ≤ 2 ^ 24; decide)) ev_nil)) rfl bd (.inr rfl) rfl (by simp) (by decide) fun x d1 hx b1 => ?_))))
    have : ∃ n : Int, 3 ≤ n ∧ n ≤ 4 ∧ x = .int n := by
      simp only [List.mem_cons, List.not_mem_nil, or_false] at hx
      rcases hx with rfl | rfl | rfl
      · exact ⟨3, by decide, by decide, rfl⟩
      · exact ⟨4, by decide, by decide, rfl⟩
      · exact ⟨3, by decide, by decide, rfl⟩
    obtain ⟨n, n1, n2, rfl⟩ := this
    exact u_cons (ev_c _ (u_nil ⟨[.ow true d1, .fz (.int n), .fz (.int 6)], rfl, by simp [alsO], d1, n, 6, b1, by omega, by omega, by decide, by decide, rfl, fun ks cs d2 hh b2 => ⟨rfl, k ks cs d2 (hh.mono (by omega) (by decide)) b2⟩⟩))
  · exact u_call (u_cons (ev_own rfl _ (u_cons (ev_c _ (u_cons (ev_c _ (u_nil ⟨[.ow true d, .fz (.int 6), .fz (.int 8)], rfl, by simp [alsO], d, 6, 8, bd, by decide, by decide, by decide, by decide, rfl, fun ks cs d2 hh b2 => ⟨rfl, k ks cs d2 (hh.mono (by decide) (by decide)) b2⟩⟩)))))))
theorem ne_self {a : D} {n : Nat} (h : Sh n a) (hn : n ≤ 64 := by decide) : gNe a a = some (.fz (.bool false)) := by
  rw [ne_of' h h hn hn, eqv_self _ h.1]; rfl
theorem serves_law : Serves N_law ps_law t_law sp_law := by
  rintro args R ⟨ns, rfl, hR⟩
  refine ⟨rfl, rfl, ?_⟩
  unfold t_law
  ((try dsimp only); refine st_seq ?_)
  refine u_set (u_call (u_cons (ev_scr rfl _ (u_nil ⟨[.sc ns], rfl, by simp [alsO], ns, rfl, fun d bd => ⟨rfl, _, rfl, rfl, ?_⟩⟩))))
  dsimp only
  ((try dsimp only); refine st_seq ?_)
  refine for_list (enc := .int) (l := ups 3) (evi_up (j := 3) ev_c (by decide) (by decide)) (fun pre e => ∃ (d : D) (s2 s3 s4 s5 s6 s7 s8 s9 : DL.Slot), isBag d ∧ fr s2 ∧ fr s3 ∧ fr s4 ∧ fr s5 ∧ fr s6 ∧ fr s7 ∧ fr s8 ∧ fr s9 ∧ e = [.sc ns, .ow false d, s2, s3, s4, s5, s6, s7, s8, s9]) ⟨d, .un, .un, .un, .un, .un, .un, .un, .un, bd, fr.un, fr.un, fr.un, fr.un, fr.un, fr.un, fr.un, fr.un, rfl⟩ ?_ ?_
  · rintro pre x post e E1 hi ⟨d, s2, s3, s4, s5, s6, s7, s8, s9, bd, f2, f3, f4, f5, f6, f7, f8, f9, rfl⟩ nx _ _ hrt
    refine ⟨f2.pin rfl, ?_⟩
    dsimp only
    -- a house once drawn
    have made : ∀ ks cs d, House 6 100 ks cs → isBag d → (sSeq (sPar3 4 5 6 (dCall sp__law_forks (aCons (dVar 3) aNil)) (dCall sp__law_all_amounts (aCons (dVar 3) (aCons (dIf (bVal (dBin gLt (dB gLen (aCons (dBin gIx (dVar 3) (dC (.int 0))) aNil)) (dC (.int 5)))) (dC (.int 2)) (dC (.int 1))) aNil))) (dCall sp__law_deeds (aCons (dVar 3) aNil)))
  (sFrz 4 (sFrz 5 (sFrz 6 (sSeq (sSetF 7 (dB gRepr (aCons (dVar 3) aNil)))
  (sSeq (sFor (iSeq (dSl (dCall sp__law_mixed (aCons (dVar 1) (aCons (dVar 6) aNil))) pNo (pAt (dC (.int 8))))) (gN 8) (sFor (iSeq (dSl (dCall sp__law_mixed (aCons (dVar 1) (aCons (dVar 6) aNil))) pNo (pAt (dC (.int 8))))) (gN 9) (sIf (bNot (bTru (dCall sp__law_right (aCons (dVar 3) (aCons (dVar 8) (aCons (dVar 9) (aCons (dVar 4) (aCons (dVar 5) aNil)))))))) (sRet (dC (.bool false))) sNext)))
  (sIf (bVal (dBin gNe (dB gRepr (aCons (dVar 3) aNil)) (dVar 7))) (sRet (dC (.bool false))) sNext))))))) [.sc ns, .ow false d, .fz (.int x), .fz (hD ks cs), s4, s5, s6, s7, s8, s9] E1 := by
      intro ks cs d h6 bd
      have h : House 15 100 ks cs := h6.mono (by decide) (by decide)
      have l1 := h6.ln
      have l2 := h6.lc
      ((try dsimp only); refine st_seq ?_)
      have most : ∃ m : Int, 1 ≤ m ∧ m ≤ 2 ∧ Ev (dIf (bVal (dBin gLt (dB gLen (aCons (dBin gIx (dVar 3) (dC (.int 0))) aNil)) (dC (.int 5)))) (dC (.int 2)) (dC (.int 1))) [.sc ns, .ow false d, .fz (.int x), .fz (hD ks cs), s4, s5, s6, s7, s8, s9] (.fz (.int m)) [.sc ns, .ow false d, .fz (.int x), .fz (hD ks cs), s4, s5, s6, s7, s8, s9] := by
        have test : EvT (bVal (dBin gLt (dB gLen (aCons (dBin gIx (dVar 3) (dC (.int 0))) aNil)) (dC (.int 5)))) [.sc ns, .ow false d, .fz (.int x), .fz (hD ks cs), s4, s5, s6, s7, s8, s9] (decide ((((ks.map PyData.str).length : Nat) : Int) < 5)) [.sc ns, .ow false d, .fz (.int x), .fz (hD ks cs), s4, s5, s6, s7, s8, s9] := evt_val (ev_bin (ev_B (ev_cons (ev_bin (ev_var rfl) ev_c rfl rfl rfl) ev_nil) rfl (len_seq rfl)) ev_c rfl rfl rfl)
        by_cases hl : (((ks.map PyData.str).length : Nat) : Int) < 5
        · rw [decide_eq_true hl] at test
          exact ⟨2, by decide, by decide, ev_if1 test ev_c⟩
        · rw [decide_eq_false hl] at test
          exact ⟨1, by decide, by decide, ev_if0 test ev_c⟩
      obtain ⟨m, m1, m2, mev⟩ := most
      refine (ev_call (o := .nw (.list (sortD (forksL cs)))) (args := [.fz (hD ks cs)]) (args' := [.fz (hD ks cs)]) (ev_cons (ev_var rfl) ev_nil) rfl (by simp [alsO]) (fun R hR => .inr ⟨ks, cs, h, rfl, hR⟩) rfl rfl) _ (u_call (u_cons (ev_var rfl _ (u_cons (mev _ (u_nil ⟨[.fz (hD ks cs), .fz (.int m)], rfl, by simp [alsO], ks, cs, m, h6, by omega, m2, rfl, fun fs hf => ⟨rfl, ?_⟩⟩))))))
      refine (ev_call (o := .nw (.list ((ks.map Deed.put ++ cs.map Deed.call).map dD))) (args := [.fz (hD ks cs)]) (args' := [.fz (hD ks cs)]) (ev_cons (ev_var rfl) ev_nil) rfl (by simp [alsO]) (fun R hR => ⟨ks, cs, h, rfl, hR⟩) rfl rfl) _ ⟨_, _, _, rfl, rfl, rfl, f4.pin rfl, f5.pin rfl, f6.pin rfl, ?_⟩
      dsimp only
      change sFrz 4 _ [.sc ns, .ow false d, .fz (.int x), .fz (hD ks cs), .ow false (.list (sortD (forksL cs))), .ow false (.list (fs.map (amD ks))), .ow false (.list ((ks.map Deed.put ++ cs.map Deed.call).map dD)), s7, s8, s9] _
      unfold sFrz
      dsimp only [List.getElem?_cons_succ, List.getElem?_cons_zero, List.set_cons_succ, List.set_cons_zero]
      have okh := okd_hD h (by decide) (by decide)
      ((try dsimp only); refine st_seq ?_)
      refine st_setF (o := .fz (.str (hD ks cs).shown)) (ev_B (ds := [hD ks cs]) (ev_cons (ev_var rfl) ev_nil) rfl (repr_ok okh)) rfl (f7.pin rfl) ?_
      dsimp only [List.set_cons_succ, List.set_cons_zero]
      ((try dsimp only); refine st_seq ?_)
      have dl : ((ks.map Deed.put ++ cs.map Deed.call).map dD).length < 2 ^ 20 := by
        rw [List.length_map, List.length_append, List.length_map, List.length_map]; omega
      refine u_for (u_seq (u_sl (mixed_ev (i := 1) (ds := (ks.map Deed.put ++ cs.map Deed.call).map dD) (o := .fz (.list ((ks.map Deed.put ++ cs.map Deed.call).map dD))) (ev_cons (ev_own rfl) (ev_cons (ev_var rfl) ev_nil)) rfl bd (.inl rfl) rfl dl fun ds1 d1 p1 b1 => u_no (u_at (ev_c _ ⟨_, rfl, _, rfl, _, _, rfl, rfl, rfl, ?_⟩)))))
      refine forGo_inv (fun pre e => ∃ d s8 s9, isBag d ∧ fr s8 ∧ fr s9 ∧ e = [.sc ns, .ow false d, .fz (.int x), .fz (hD ks cs), .fz (.list (sortD (forksL cs))), .fz (.list (fs.map (amD ks))), .fz (.list ((ks.map Deed.put ++ cs.map Deed.call).map dD)), .fz (.str (hD ks cs).shown), s8, s9]) ⟨d1, s8, s9, b1, f8, f9, rfl⟩ ?_ ?_
      · rintro pre1 y post1 e E2 hi1 ⟨d, s8, s9, bd, f8, f9, rfl⟩ nx1 _ _ rt1
        refine ⟨f8.pin rfl, ?_⟩
        have hy : y ∈ cutD ds1 none (some 8) := by rw [hi1]; simp
        rw [show (8 : Int) = ((8 : Nat) : Int) from rfl, cut_to] at hy
        obtain ⟨a, ha, rfl⟩ := deeds_mem (p1.mem_iff.mp (List.mem_of_mem_take hy))
        dsimp only [List.set_cons_succ, List.set_cons_zero]
        refine u_for (u_seq (u_sl (mixed_ev (i := 1) (ds := (ks.map Deed.put ++ cs.map Deed.call).map dD) (o := .fz (.list ((ks.map Deed.put ++ cs.map Deed.call).map dD))) (ev_cons (ev_own rfl) (ev_cons (ev_var rfl) ev_nil)) rfl bd (.inl rfl) rfl dl fun ds2 d2 p2 b2 => u_no (u_at (ev_c _ ⟨_, rfl, _, rfl, _, _, rfl, rfl, rfl, ?_⟩)))))
        refine forGo_inv (fun pre e => ∃ s9, fr s9 ∧ e = [.sc ns, .ow false d2, .fz (.int x), .fz (hD ks cs), .fz (.list (sortD (forksL cs))), .fz (.list (fs.map (amD ks))), .fz (.list ((ks.map Deed.put ++ cs.map Deed.call).map dD)), .fz (.str (hD ks cs).shown), .fz (dD a), s9]) ⟨s9, f9, rfl⟩ ?_ ?_
        · rintro pre2 z post2 e E3 hi2 ⟨s9, f9, rfl⟩ nx2 _ _ rt2
          refine ⟨f9.pin rfl, ?_⟩
          have hz : z ∈ cutD ds2 none (some 8) := by rw [hi2]; simp
          rw [show (8 : Int) = ((8 : Nat) : Int) from rfl, cut_to] at hz
          obtain ⟨b, hb, rfl⟩ := deeds_mem (p2.mem_iff.mp (List.mem_of_mem_take hz))
          dsimp only [List.set_cons_succ, List.set_cons_zero]
          refine st_if (b := false) (evt_not (b := true) (evt_tru (ev_call (o := .fz (.bool true)) (args := [.fz (hD ks cs), .fz (dD a), .fz (dD b), .fz (.list (sortD (forksL cs))), .fz (.list (fs.map (amD ks)))]) (args' := [.fz (hD ks cs), .fz (dD a), .fz (dD b), .fz (.list (sortD (forksL cs))), .fz (.list (fs.map (amD ks)))]) (ev_cons (ev_var rfl) (ev_cons (ev_var rfl) (ev_cons (ev_var rfl) (ev_cons (ev_var rfl) (ev_cons (ev_var rfl) ev_nil))))) rfl (by simp [alsO]) (fun R hR => ⟨ks, cs, a, b, m, fs, h6, ha, hb, m1, hf, rfl, hR⟩) rfl rfl) rfl rfl)) (fun z => by cases z) (fun _ => ?_)
          exact nx2 _ ⟨_, fr.fz, rfl⟩
        · rintro e ⟨s9, f9, rfl⟩
          exact nx1 _ ⟨d2, _, s9, b2, fr.fz, f9, rfl⟩
      · rintro e ⟨d, s8, s9, bd, f8, f9, rfl⟩
        dsimp only
        refine st_if (b := false) (evt_val (ev_bin (ev_B (ds := [hD ks cs]) (ev_cons (ev_var rfl) ev_nil) rfl (repr_ok okh)) (ev_var rfl) rfl rfl (ne_self (n := 0) (Sh.str (shown_hD_ok h6))))) (fun z => by cases z) (fun _ => ?_)
        exact nx _ ⟨d, _, _, _, _, _, _, s8, s9, bd, fr.fz, fr.fz, fr.fz, fr.fz, fr.fz, fr.fz, f8, f9, rfl⟩
    ((try dsimp only); refine st_seq ?_)
    have cond : ∀ {Q : Bool → SEnv → Prop}, (∀ b d', isBag d' → Q b [.sc ns, .ow false d', .fz (.int x), s3, s4, s5, s6, s7, s8, s9]) → bOr (bVal (dBin gGt (dVar 2) (dC (.int 0)))) (bVal (dBin gGt (dCall sp__law_take (aCons (dVar 1) (aCons (dC (.int 3)) aNil))) (dC (.int 0)))) [.sc ns, .ow false d, .fz (.int x), s3, s4, s5, s6, s7, s8, s9] Q := fun {Q} k => by
      by_cases hx : 0 < x
      · exact evt_or1 (evt_val (ev_bin (ev_var rfl) ev_c rfl rfl (gt_int.trans (by rw [decide_eq_true hx])))) _ (k true d bd)
      · refine (evt_val (b := false) (ev_bin (ev_var rfl) ev_c rfl rfl (gt_int.trans (by rw [decide_eq_false hx])))) _ (u_val (u_bin (take_ev (ev_cons (ev_own rfl) (ev_cons ev_c ev_nil)) rfl bd (by decide) (by decide) fun r d' h1 h2 b' => ev_c _ ⟨_, _, _, rfl, rfl, gt_int, _, rfl, ?_⟩)))
        exact k _ d' b'
    refine u_setF (u_if (cond fun b d' b' => house_pick b rfl b' fun ks cs d'' hh b'' => ⟨_, rfl, f3.pin rfl, ?_⟩))
    exact made ks cs d'' hh b''
  · rintro e ⟨d, s2, s3, s4, s5, s6, s7, s8, s9, bd, f2, f3, f4, f5, f6, f7, f8, f9, rfl⟩
    dsimp only
    exact st_ret ev_c ⟨_, rfl, hR⟩
end G21
end
section
set_option Elab.async false
set_option linter.all false
/-! S16: what the defs of k16 promise. -/
namespace G
open PySem DL

def sp_taken_kind : SpD := fun args R => ∃ (ks : List Str) (f : Am) (d : Deed), Nms ks ∧ ks.length ≤ 100 ∧ inD ks d ∧ (∀ c, d = .call c → c.length ≤ 100) ∧ args = [.ow true (amD ks f), .fz (dD d)] ∧ R (.fz (oD (took f d))) args
def sp_do_deed : SpD := fun args R => ∃ (ks : List Str) (f : Am) (d : Deed), Nms ks ∧ ks.length ≤ 100 ∧ inD ks d ∧ (∀ c, d = .call c → c.length ≤ 100) ∧ args = [.ow true (amD ks f), .fz (dD d)] ∧ R (.fz (oD (took f d))) [.ow true (amD ks (act1 f d)), .fz (dD d)]
def sp_acted : SpD := fun args R => ∃ ks cs kk ds f, House 15 100 ks cs ∧ kk.Perm ks ∧ (∀ d ∈ ds, okD ks cs d) ∧ ds.length ≤ 300 ∧ args = [.fz (hD ks cs), .fz (stD ds), .fz (amD kk f)] ∧ R (.nw (amD (srt ks) (acts f ds))) args
def sp_forks_of : SpD := fun args R => ∃ ks cs, House 15 100 ks cs ∧ args = [.fz (hD ks cs)] ∧ R (.nw (.list (sortD (forksL cs)))) args
def sp_is_nested : SpD := fun args R => ∃ ks cs, House 15 100 ks cs ∧ args = [.fz (hD ks cs)] ∧ R (.fz (.bool (forksL cs).isEmpty)) args
def sp__law_amounts : SpD := fun args R => ∃ d ks cs most, isBag d ∧ House 15 100 ks cs ∧ 1 ≤ most ∧ most ≤ 1000000000 ∧ args = [.ow true d, .fz (hD ks cs), .fz (.int most)] ∧
  ∀ (kk : List Str) (f : Am) d', kk.Perm ks → (∀ k, 0 ≤ f k ∧ f k ≤ most) → isBag d' → R (.nw (amD kk f)) [.ow true d', .fz (hD ks cs), .fz (.int most)]
def sp__law_parted : SpD := fun args R => ∃ (ks : List Str) (cs : List (List Str)) (s t : List Str) (kk : List Str) (fs : List Am), House 15 100 ks cs ∧ s ∈ cs ∧ t ∈ cs ∧ kk.Perm ks ∧ fs.length ≤ 2 ^ 16 ∧ args = [.fz (hD ks cs), .fz (tS s), .fz (tS t), .fz (.list (fs.map (amD kk)))] ∧
  R (match fs.find? fun f => !alikeOn ks (.call s) (.call t) f with | none => .fz .none | some f => .fz (amD kk f)) args
def sp__law_couple_right : SpD := fun args R => ∃ b ks cs s t fs most, isBag b ∧ House 6 100 ks cs ∧ s ∈ cs ∧ t ∈ cs ∧ 1 ≤ most ∧ most ≤ 2 ∧ allAm ks most fs ∧ (∀ f ∈ fs, ∀ k ∈ ks, 0 ≤ f k ∧ f k ≤ most) ∧ args = [.ow true b, .fz (hD ks cs), .fz (tS s), .fz (tS t), .fz (.list (sortD (forksL cs))), .fz (.list (fs.map (amD ks)))] ∧
  ∀ b', isBag b' → R (.fz (.bool true)) [.ow true b', .fz (hD ks cs), .fz (tS s), .fz (tS t), .fz (.list (sortD (forksL cs))), .fz (.list (fs.map (amD ks)))]
end G
end
section
set_option Elab.async false
set_option linter.all false
set_option maxRecDepth 100000
set_option maxHeartbeats 0
namespace G16
open PySem PySem.Spec PyProof.Rows DL
open G G21

/-! taken_kind -/
def N_taken_kind : List Str := ["amounts", "deed", "there", "kind"]
def ps_taken_kind : List Str := ["amounts", "deed"]
def t_taken_kind : DS := (sSeq (sIf (bVal (dBin gEq (dBin gIx (dVar 1) (dC (.int 0))) (dC (.str "put")))) (sRet (dC .none)) sNext)
  (sSeq (sSetF 2 (dLc [3] (iSeq (dBin gIx (dVar 1) (dC (.int 1)))) (gN 3) (bVal (dBin gGt (dBin gIx (dVar 0) (dVar 3)) (dC (.int 0)))) (dVar 3)))
  (sRet (dIf (bVal (dBin gNe (dVar 2) (dLst aNil))) (dBin gIx (dVar 2) (dC (.int 0))) (dC .none)))))
/-! _law_acted -/
def N__law_acted : List Str := ["_law_house_here", "_law_stretch", "_law_amounts_here", "_law_found", "_law_taken", "_law_word", "_law_what", "_law_kinds", "_law_kind"]
def ps__law_acted : List Str := ["_law_house_here", "_law_stretch", "_law_amounts_here"]
def t__law_acted : DS := (sSeq (sPar 3 4 (dB gDict (aCons (dLc [8] (iSeq (dB gSorted (aCons (dBin gIx (dVar 0) (dC (.int 0))) aNil))) (gN 8) bYes (dTup (aCons (dVar 8) (aCons (dBin gIx (dVar 2) (dVar 8)) aNil)))) aNil)) (dLst aNil))
  (sSeq (sFor (iSeq (dVar 1)) (gT 2 (gCons (gN 5) (gCons (gN 6) gNil))) (sSeq (sSetF 7 (dIf (bVal (dBin gEq (dVar 5) (dC (.str "call")))) (dSl (dLc [8] (iSeq (dVar 6)) (gN 8) (bVal (dBin gGt (dBin gIx (dVar 3) (dVar 8)) (dC (.int 0)))) (dVar 8)) pNo (pAt (dC (.int 1)))) (dLst aNil)))
  (sSeq (sIf (bVal (dBin gEq (dVar 5) (dC (.str "put")))) (sStoA 3 (fun a b => a + b) (dVar 6) (dC (.int 1))) sNext)
  (sSeq (sFor (iSeq (dVar 7)) (gN 8) (sStoA 3 (fun a b => a - b) (dVar 8) (dC (.int 1))))
  (sDrop (dMutL 4 gAppend (aCons (dIf (bVal (dBin gNe (dVar 7) (dLst aNil))) (dBin gIx (dVar 7) (dC (.int 0))) (dC .none)) aNil)))))))
  (sFrz 3 (sFrz 4 (sRet (dTup (aCons (dVar 3) (aCons (dVar 4) aNil))))))))
/-! do_deed -/
def N_do_deed : List Str := ["amounts", "deed", "kind"]
def ps_do_deed : List Str := ["amounts", "deed"]
def t_do_deed : DS := (sSeq (sIf (bVal (dBin gEq (dBin gIx (dVar 1) (dC (.int 0))) (dC (.str "put")))) (sSeq (sStoA 0 (fun a b => a + b) (dBin gIx (dVar 1) (dC (.int 1))) (dC (.int 1)))
  (sRet (dC .none))) sNext)
  (sSeq (sSetF 2 (dCall sp_taken_kind (aCons (dVar 0) (aCons (dVar 1) aNil))))
  (sSeq (sIf (bVal (dBin (gIs true) (dVar 2) (dC .none))) (sStoA 0 (fun a b => a - b) (dVar 2) (dC (.int 1))) sNext)
  (sRet (dVar 2)))))
/-! _law_parted -/
def N__law_parted : List Str := ["_law_house_here", "_law_one_here", "_law_other", "_law_some", "_law_deeds", "_law_amounts_here"]
def ps__law_parted : List Str := ["_law_house_here", "_law_one_here", "_law_other", "_law_some"]
def t__law_parted : DS := (sSeq (sSetF 4 (dTup (aCons (dTup (aCons (dC (.str "call")) (aCons (dVar 1) aNil))) (aCons (dTup (aCons (dC (.str "call")) (aCons (dVar 2) aNil))) aNil))))
  (sSeq (sFor (iSeq (dVar 3)) (gN 5) (sIf (bVal (dBin gNe (dBin gIx (dCall sp__law_acted (aCons (dVar 0) (aCons (dVar 4) (aCons (dVar 5) aNil)))) (dC (.int 0))) (dBin gIx (dCall sp__law_acted (aCons (dVar 0) (aCons (dBack (dVar 4)) (aCons (dVar 5) aNil)))) (dC (.int 0))))) (sRet (dVar 5)) sNext))
  (sRet (dC .none))))
/-! forks_of -/
def N_forks_of : List Str := ["house", "found", "one", "other"]
def ps_forks_of : List Str := ["house"]
def t_forks_of : DS := (sSeq (sSet 1 (dLst aNil))
  (sSeq (sFor (iSeq (dBin gIx (dVar 0) (dC (.int 1)))) (gN 2) (sFor (iSeq (dBin gIx (dVar 0) (dC (.int 1)))) (gN 3) (sDrop (dMutL 1 gExtend (aCons (dCall sp_forks_between (aCons (dVar 2) (aCons (dVar 3) aNil))) aNil)))))
  (sFrz 1 (sRet (dB gSorted (aCons (dVar 1) aNil))))))
/-! acted -/
def N_acted : List Str := ["house", "stretch", "amounts", "found", "deed", "kind"]
def ps_acted : List Str := ["house", "stretch", "amounts"]
def t_acted : DS := (sSeq (sSet 3 (dDc [5] (iSeq (dB gSorted (aCons (dBin gIx (dVar 0) (dC (.int 0))) aNil))) (gN 5) bYes (dVar 5) (dBin gIx (dVar 2) (dVar 5))))
  (sSeq (sFor (iSeq (dVar 1)) (gN 4) (sDrop (dCall sp_do_deed (aCons (dVar 3) (aCons (dVar 4) aNil)))))
  (sRet (dVar 3))))
/-! _law_amounts -/
def N__law_amounts : List Str := ["_law_bag_here", "_law_house_here", "_law_most", "_law_kinds", "_law_kind"]
def ps__law_amounts : List Str := ["_law_bag_here", "_law_house_here", "_law_most"]
def t__law_amounts : DS := (sSeq (sSetF 3 (dCall sp__law_mixed (aCons (dVar 0) (aCons (dB gList (aCons (dBin gIx (dVar 1) (dC (.int 0))) aNil)) aNil))))
  (sRet (dB gDict (aCons (dLc [4] (iSeq (dVar 3)) (gN 4) bYes (dTup (aCons (dVar 4) (aCons (dCall sp__law_take (aCons (dVar 0) (aCons (dCall sp__law_one (aCons (dVar 0) (aCons (dLst (aCons (dBin gAdd (dVar 2) (dC (.int 1))) (aCons (dC (.int 2)) (aCons (dC (.int 1)) (aCons (dBin gAdd (dVar 2) (dC (.int 1))) aNil))))) aNil))) aNil))) aNil)))) aNil))))
/-! is_nested -/
def N_is_nested : List Str := ["house"]
def ps_is_nested : List Str := ["house"]
def t_is_nested : DS := (sRet (dBin gEq (dCall sp_forks_of (aCons (dVar 0) aNil)) (dLst aNil)))
/-! _law_couple_right -/
def N__law_couple_right : List Str := ["_law_bag_here", "_law_house_here", "_law_one_here", "_law_other", "_law_forks_here", "_law_some", "_law_mine", "_law_apart", "_law_deeds", "_law_ks", "_law_kt", "_law_c", "_law_u", "_law_amounts_here", "_law_told", "_law_fork", "_law_kind"]
def ps__law_couple_right : List Str := ["_law_bag_here", "_law_house_here", "_law_one_here", "_law_other", "_law_forks_here", "_law_some"]
def t__law_couple_right : DS := (sSeq (sSetF 6 (dLc [15] (iSeq (dVar 4)) (gN 15) (bVal (dBin (gIn false) (dSl (dVar 15) pNo (pAt (dC (.int 2)))) (dTup (aCons (dTup (aCons (dVar 2) (aCons (dVar 3) aNil))) (aCons (dTup (aCons (dVar 3) (aCons (dVar 2) aNil))) aNil))))) (dVar 15)))
  (sSeq (sPar 7 8 (dCall sp__law_parted (aCons (dVar 1) (aCons (dVar 2) (aCons (dVar 3) (aCons (dVar 5) aNil))))) (dTup (aCons (dTup (aCons (dC (.str "call")) (aCons (dVar 2) aNil))) (aCons (dTup (aCons (dC (.str "call")) (aCons (dVar 3) aNil))) aNil))))
  (sFrz 7 (sSeq (sIf (bVal (dBin gNe (dBin (gIs false) (dVar 7) (dC .none)) (dBin gEq (dVar 6) (dLst aNil)))) (sRet (dC (.bool false))) sNext)
  (sSeq (sFor (iSeq (dVar 6)) (gT 4 (gCons (gN 9) (gCons (gN 10) (gCons (gN 11) (gCons (gN 12) gNil))))) (sSeq (sSetF 13 (dB gDict (aCons (dLc [16] (iSeq (dCall sp__law_mixed (aCons (dVar 0) (aCons (dBin gIx (dVar 1) (dC (.int 0))) aNil)))) (gN 16) bYes (dTup (aCons (dVar 16) (aCons (dB gInt (aCons (dBin (gIn false) (dVar 16) (dTup (aCons (dVar 11) (aCons (dVar 12) aNil)))) aNil)) aNil)))) aNil)))
  (sSeq (sIf (bVal (dBin gEq (dCall sp_acted (aCons (dVar 1) (aCons (dVar 8) (aCons (dVar 13) aNil)))) (dCall sp_acted (aCons (dVar 1) (aCons (dBack (dVar 8)) (aCons (dVar 13) aNil)))))) (sRet (dC (.bool false))) sNext)
  (sIf (bVal (dBin (gIs false) (dCall sp__law_parted (aCons (dVar 1) (aCons (dVar 2) (aCons (dVar 3) (aCons (dLst (aCons (dVar 13) aNil)) aNil))))) (dC .none))) (sRet (dC (.bool false))) sNext))))
  (sSeq (sFor (iSeq (dBin gAdd (dSl (dCall sp__law_mixed (aCons (dVar 0) (aCons (dVar 5) aNil))) pNo (pAt (dC (.int 2)))) (dLst (aCons (dCall sp__law_amounts (aCons (dVar 0) (aCons (dVar 1) (aCons (dBin gPow (dC (.int 10)) (dC (.int 9))) aNil)))) aNil)))) (gN 13) (sSeq (sSetF 14 (dLst (aCons (dCall sp_acted (aCons (dVar 1) (aCons (dVar 8) (aCons (dVar 13) aNil)))) (aCons (dCall sp_acted (aCons (dVar 1) (aCons (dBack (dVar 8)) (aCons (dVar 13) aNil)))) aNil))))
  (sIf (bNot (bTru (dCall sp__law_alike (aCons (dVar 14) (aCons (dLst (aCons (dBin gIx (dCall sp__law_acted (aCons (dVar 1) (aCons (dVar 8) (aCons (dVar 13) aNil)))) (dC (.int 0))) (aCons (dBin gIx (dCall sp__law_acted (aCons (dVar 1) (aCons (dBack (dVar 8)) (aCons (dVar 13) aNil)))) (dC (.int 0))) aNil))) aNil))))) (sRet (dC (.bool false))) sNext)))
  (sRet (dC (.bool true)))))))))
/-! law -/
def N_law : List Str := ["_law_script", "_law_bag_here", "_law_turn", "_law_house_here", "_law_forks_here", "_law_some", "_law_apart", "_law_one_here", "_law_other"]
def ps_law : List Str := ["_law_script"]
def t_law : DS := (sSeq (sSet 1 (dCall sp__law_bag (aCons (dVar 0) aNil)))
  (sSeq (sFor (iR1 (dC (.int 3))) (gN 2) (sSeq (sSetF 3 (dCall sp__law_house (aCons (dVar 1) (aCons (dCall sp__law_one (aCons (dVar 1) (aCons (dLst (aCons (dC (.int 4)) (aCons (dC (.int 3)) (aCons (dC (.int 4)) (aCons (dC (.int 5)) aNil))))) aNil))) (aCons (dC (.int 6)) aNil)))))
  (sSeq (sPar3 4 5 6 (dCall sp_forks_of (aCons (dVar 3) aNil)) (dCall sp__law_all_amounts (aCons (dVar 3) (aCons (dIf (bVal (dBin gLt (dB gLen (aCons (dBin gIx (dVar 3) (dC (.int 0))) aNil)) (dC (.int 5)))) (dC (.int 2)) (dC (.int 1))) aNil))) (dC (.int 0)))
  (sFrz 4 (sFrz 5 (sSeq (sFor (iSeq (dBin gIx (dVar 3) (dC (.int 1)))) (gN 7) (sFor (iSeq (dBin gIx (dVar 3) (dC (.int 1)))) (gN 8) (sSeq (sIf (bAnd (bVal (dBin gLt (dVar 7) (dVar 8))) (bNot (bTru (dCall sp__law_couple_right (aCons (dVar 1) (aCons (dVar 3) (aCons (dVar 7) (aCons (dVar 8) (aCons (dVar 4) (aCons (dVar 5) aNil)))))))))) (sRet (dC (.bool false))) sNext)
  (sAugI 6 (fun a b => a + b) (dB gInt (aCons (dAnd (dBin gLt (dVar 7) (dVar 8)) (dBin (gIs true) (dCall sp__law_parted (aCons (dVar 3) (aCons (dVar 7) (aCons (dVar 8) (aCons (dVar 5) aNil))))) (dC .none))) aNil))))))
  (sIf (bOr (bNot (bTru (dCall sp__law_alike (aCons (dCall sp_is_nested (aCons (dVar 3) aNil)) (aCons (dBin gEq (dVar 6) (dC (.int 0))) aNil))))) (bVal (dBin gNe (dBin gEq (dVar 4) (dLst aNil)) (dBin gEq (dVar 6) (dC (.int 0)))))) (sRet (dC (.bool false))) sNext)))))))
  (sRet (dC (.bool true)))))
end G16
end
section
set_option Elab.async false
set_option linter.all false
set_option maxRecDepth 100000
set_option maxHeartbeats 0
namespace G16
open PySem PySem.Spec PyProof.Rows L2 DL
open G G21
def top (i : Nat) : Stmt := PySem.Challenge.pw_calledbest_k16_whole_nested_exactly_by_e.main.body.getD i (.Pass ⟨0, 0, 0, 0⟩)
section
variable {P : Program} {w : World} {K : PySem.W.Frag} {mg : Str → Option Value} {base : Heap} {f : Addr} {fd : FuncData}

theorem sc_behind : FnScope N_behind ps_behind (defScope (top 1)) := ⟨rfl, rfl, rfl, by decide +kernel, rfl, by decide +kernel, by decide +kernel⟩
theorem d_behind (F : FunD K "behind" "behind" (defArgs (top 1)) (defBody (top 1)) (defScope (top 1)) [] [] f fd) (B : Blt mg)  (hs : Serves N_behind ps_behind t_behind sp_behind) : FnG P w K mg base CX0 1 f fd ps_behind (liftF K sp_behind) :=
  fn_ok F sc_behind (fun cdv A outer s H E gd hr => (ds_last (ds_ret (de_sl (dv 0) (dp_at (de_add (de_tindex (dv 0) (da_cons (dv 1) da_nil)) de_int)) dp_no)))) hs
theorem sc_taken_kind : FnScope N_taken_kind ps_taken_kind (defScope (top 6)) := ⟨rfl, rfl, rfl, by decide +kernel, rfl, by decide +kernel, by decide +kernel⟩
theorem d_taken_kind (F : FunD K "taken_kind" "taken_kind" (defArgs (top 6)) (defBody (top 6)) (defScope (top 6)) [] [] f fd) (B : Blt mg)  (hs : Serves N_taken_kind ps_taken_kind t_taken_kind sp_taken_kind) : FnG P w K mg base CX0 1 f fd ps_taken_kind (liftF K sp_taken_kind) :=
  fn_ok F sc_taken_kind (fun cdv A outer s H E gd hr => (ds_cons (ds_if (dt_eq (DL.Room.u80 hr) (de_ix (DL.Room.u1 hr) (dv 1) de_int) de_str) (ds_last (ds_ret de_non)) ds_nil)
  (ds_cons (ds_setLcF 2 (own := [("kind", 3)]) rfl sc_taken_kind.nd (di_seq (de_ix (DL.Room.u1 hr) (dv 1) de_int)) (blkOk_by (by kernel_rfl)) (fun _ _ _ _ _ => (dg_name 3 sc_taken_kind.nd)) (fun _ _ _ _ _ => (dts_one (dt_gt (de_ix (DL.Room.u1 hr) (dv 0) (dv 3)) de_int))) (fun _ _ _ _ _ => (dv 3)) (sw_true rfl rfl rfl (by decide +kernel)))
  (ds_last (ds_ret (de_if (dt_ne (DL.Room.u80 hr) (dv 2) (de_lst da_nil)) (de_ix (DL.Room.u1 hr) (dv 2) de_int) de_non)))))) hs
theorem sc__law_bag : FnScope N__law_bag ps__law_bag (defScope (top 10)) := ⟨rfl, rfl, rfl, by decide +kernel, rfl, by decide +kernel, by decide +kernel⟩
theorem d__law_bag (F : FunD K "_law_bag" "_law_bag" (defArgs (top 10)) (defBody (top 10)) (defScope (top 10)) [] [] f fd) (B : Blt mg)  (hs : Serves N__law_bag ps__law_bag t__law_bag sp__law_bag) : FnG P w K mg base CX0 1 f fd ps__law_bag (liftF K sp__law_bag) :=
  fn_ok F sc__law_bag (fun cdv A outer s H E gd hr => (ds_last (ds_ret (de_lst (da_cons de_int (da_cons de_int (da_cons de_int (da_cons (de_lc (own := [("_law_cell", 1)]) rfl sc__law_bag.nd (di_seq (de_sl (dv 0) dp_no (dp_at de_int))) (blkOk_by (by kernel_rfl)) (fun _ _ _ _ _ => (dg_name 1 sc__law_bag.nd)) (fun _ _ _ _ _ => dts_nil) (fun _ _ _ _ _ => (de_abs B.abs (da_cons (dv 1) da_nil)))) da_nil)))))))) hs
theorem sc__law_take : FnScope N__law_take ps__law_take (defScope (top 11)) := ⟨rfl, rfl, rfl, by decide +kernel, rfl, by decide +kernel, by decide +kernel⟩
theorem d__law_take (F : FunD K "_law_take" "_law_take" (defArgs (top 11)) (defBody (top 11)) (defScope (top 11)) [] [] f fd) (B : Blt mg)  (hs : Serves N__law_take ps__law_take t__law_take sp__law_take) : FnG P w K mg base CX0 1 f fd ps__law_take (liftF K sp__law_take) :=
  fn_ok F sc__law_take (fun cdv A outer s H E gd hr => (ds_cons (ds_if (dt_eq (DL.Room.u80 hr) (de_ix (DL.Room.u1 hr) (dv 0) de_int) de_int) (ds_cons (ds_setF 2 sc__law_take.nd (de_ix (DL.Room.u1 hr) (de_add (de_sl (de_ix (DL.Room.u1 hr) (dv 0) de_int) (dp_at (de_ix (DL.Room.u1 hr) (dv 0) de_int)) dp_no) (de_lst (da_cons de_int da_nil))) de_int))
  (ds_cons (ds_stoA 0 ip_add (DL.Room.u1 hr) de_int de_int)
  (ds_cons (ds_if (dt_ge (dv 2) (de_pow de_int de_int)) (ds_last (ds_sto 0 (DL.Room.u1 hr) de_int (dv 2))) ds_nil)
  (ds_cons (ds_setF 3 sc__law_take.nd (de_add (de_add (de_mul (de_ix (DL.Room.u1 hr) (dv 0) de_int) de_int) (de_mod (de_int' B.int (da_cons (dv 2) da_nil)) de_int)) (de_mul de_int (de_ix (DL.Room.u1 hr) (dv 0) de_int))))
  (ds_last (ds_sto 0 (DL.Room.u1 hr) de_int (de_mod (de_int' B.int (da_cons (dv 3) da_nil)) de_int))))))) ds_nil)
  (ds_cons (ds_if (dt_gt (de_ix (DL.Room.u1 hr) (dv 0) de_int) de_int) (ds_cons (ds_setF 4 sc__law_take.nd (de_mod (de_int' B.int (da_cons (de_ix (DL.Room.u1 hr) (dv 0) de_int) da_nil)) (dv 1)))
  (ds_cons (ds_sto 0 (DL.Room.u1 hr) de_int (de_fdiv (de_int' B.int (da_cons (de_ix (DL.Room.u1 hr) (dv 0) de_int) da_nil)) (dv 1)))
  (ds_last (ds_ret (dv 4))))) ds_nil)
  (ds_cons (ds_setF 5 sc__law_take.nd (de_mod (de_int' B.int (da_cons (de_mul (de_add (de_ix (DL.Room.u1 hr) (dv 0) de_int) de_int) de_int) da_nil)) de_int))
  (ds_cons (ds_setF 6 sc__law_take.nd (de_mod (de_int' B.int (da_cons (de_mul (de_mod (de_int' B.int (da_cons (de_mul (dv 5) (dv 5)) da_nil)) de_int) de_int) da_nil)) de_int))
  (ds_last (ds_ret (de_mod (de_int' B.int (da_cons (de_fdiv (dv 6) de_int) da_nil)) (dv 1))))))))) hs
theorem sc__law_alike : FnScope N__law_alike ps__law_alike (defScope (top 14)) := ⟨rfl, rfl, rfl, by decide +kernel, rfl, by decide +kernel, by decide +kernel⟩
theorem d__law_alike (F : FunD K "_law_alike" "_law_alike" (defArgs (top 14)) (defBody (top 14)) (defScope (top 14)) [] [] f fd) (B : Blt mg)  (hs : Serves N__law_alike ps__law_alike t__law_alike sp__law_alike) : FnG P w K mg base CX0 1 f fd ps__law_alike (liftF K sp__law_alike) :=
  fn_ok F sc__law_alike (fun cdv A outer s H E gd hr => (ds_last (ds_ret (de_and (de_eq (DL.Room.u80 hr) (dv 0) (dv 1)) (de_one (de_eq (DL.Room.u80 hr) (de_repr gd (DL.Room.u80 hr) B.repr (da_cons (dv 0) da_nil)) (de_repr gd (DL.Room.u80 hr) B.repr (da_cons (dv 1) da_nil)))))))) hs
theorem sc__law_flat : FnScope N__law_flat ps__law_flat (defScope (top 15)) := ⟨rfl, rfl, rfl, by decide +kernel, rfl, by decide +kernel, by decide +kernel⟩
theorem d__law_flat (F : FunD K "_law_flat" "_law_flat" (defArgs (top 15)) (defBody (top 15)) (defScope (top 15)) [] [] f fd) (B : Blt mg)  (hs : Serves N__law_flat ps__law_flat t__law_flat sp__law_flat) : FnG P w K mg base CX0 1 f fd ps__law_flat (liftF K sp__law_flat) :=
  fn_ok F sc__law_flat (fun cdv A outer s H E gd hr => (ds_cons (ds_set 1 sc__law_flat.nd (de_lst da_nil))
  (ds_cons (ds_for PassesOwn.never rfl (di_seq (dv 0)) (dg_name 2 sc__law_flat.nd) (ds_last (ds_expr (de_extend 1 (da_cons (dv 2) da_nil)))))
  (ds_last (ds_ret (dv 1)))))) hs
theorem sc__law_forks : FnScope N__law_forks ps__law_forks (defScope (top 21)) := ⟨rfl, rfl, rfl, by decide +kernel, rfl, by decide +kernel, by decide +kernel⟩
theorem d__law_forks (F : FunD K "_law_forks" "_law_forks" (defArgs (top 21)) (defBody (top 21)) (defScope (top 21)) [] [] f fd) (B : Blt mg)  (hs : Serves N__law_forks ps__law_forks t__law_forks sp__law_forks) : FnG P w K mg base CX0 1 f fd ps__law_forks (liftF K sp__law_forks) :=
  fn_ok F sc__law_forks (fun cdv A outer s H E gd hr => (ds_cons (ds_set 1 sc__law_forks.nd (de_lst da_nil))
  (ds_cons (ds_for PassesOwn.never rfl (di_seq (de_ix (DL.Room.u1 hr) (dv 0) de_int)) (dg_name 2 sc__law_forks.nd) (ds_last (ds_for PassesOwn.never rfl (di_seq (de_ix (DL.Room.u1 hr) (dv 0) de_int)) (dg_name 3 sc__law_forks.nd) (ds_last (ds_for PassesOwn.never rfl (di_enum B.enumerate (dv 2)) (dg_tup rfl (dgs_cons (dg_name 4 sc__law_forks.nd) (dgs_cons (dg_name 5 sc__law_forks.nd) dgs_nil))) (ds_last (ds_if (dt_in (DL.Room.u65 hr) (dv 5) (dv 3)) (ds_last (ds_expr (de_extend 1 (da_cons (de_lc (own := [("_law_behind", 6)]) rfl sc__law_forks.nd (di_seq (de_sl (dv 2) (dp_at (de_add (dv 4) de_int)) dp_no)) (blkOk_by (by kernel_rfl)) (fun _ _ _ _ _ => (dg_name 6 sc__law_forks.nd)) (fun _ _ _ _ _ => (dts_one (dt_notin (DL.Room.u65 hr) (dv 6) (dv 3)))) (fun _ _ _ _ _ => (de_tup (da_cons (dv 2) (da_cons (dv 3) (da_cons (dv 5) (da_cons (dv 6) da_nil))))))) da_nil)))) ds_nil)))))))
  (ds_frz 1 (ds_last (ds_ret (de_sorted (DL.Room.u80 hr) B.sorted (da_cons (dv 1) da_nil)))))))) hs
theorem sc__law_acted : FnScope N__law_acted ps__law_acted (defScope (top 23)) := ⟨rfl, rfl, rfl, by decide +kernel, rfl, by decide +kernel, by decide +kernel⟩
theorem d__law_acted (F : FunD K "_law_acted" "_law_acted" (defArgs (top 23)) (defBody (top 23)) (defScope (top 23)) [] [] f fd) (B : Blt mg)  (hs : Serves N__law_acted ps__law_acted t__law_acted sp__law_acted) : FnG P w K mg base CX0 1 f fd ps__law_acted (liftF K sp__law_acted) :=
  fn_ok F sc__law_acted (fun cdv A outer s H E gd hr => (ds_cons (ds_par2 3 4 rfl sc__law_acted.nd (de_dict rfl B.dict (da_cons (de_lc (own := [("_law_kind", 8)]) rfl sc__law_acted.nd (di_seq (de_sorted (DL.Room.u80 hr) B.sorted (da_cons (de_ix (DL.Room.u1 hr) (dv 0) de_int) da_nil))) (blkOk_by (by kernel_rfl)) (fun _ _ _ _ _ => (dg_name 8 sc__law_acted.nd)) (fun _ _ _ _ _ => dts_nil) (fun _ _ _ _ _ => (de_tup (da_cons (dv 8) (da_cons (de_ix (DL.Room.u1 hr) (dv 2) (dv 8)) da_nil))))) da_nil)) (de_lst da_nil))
  (ds_cons (ds_for PassesOwn.never rfl (di_seq (dv 1)) (dg_tup rfl (dgs_cons (dg_name 5 sc__law_acted.nd) (dgs_cons (dg_name 6 sc__law_acted.nd) dgs_nil))) (ds_cons (ds_setF 7 sc__law_acted.nd (de_if (dt_eq (DL.Room.u80 hr) (dv 5) de_str) (de_sl (de_lc (own := [("_law_kind", 8)]) rfl sc__law_acted.nd (di_seq (dv 6)) (blkOk_by (by kernel_rfl)) (fun _ _ _ _ _ => (dg_name 8 sc__law_acted.nd)) (fun _ _ _ _ _ => (dts_one (dt_gt (de_ix (DL.Room.u1 hr) (dv 3) (dv 8)) de_int))) (fun _ _ _ _ _ => (dv 8))) dp_no (dp_at de_int)) (de_lst da_nil)))
  (ds_cons (ds_if (dt_eq (DL.Room.u80 hr) (dv 5) de_str) (ds_last (ds_stoA 3 ip_add (DL.Room.u1 hr) (dv 6) de_int)) ds_nil)
  (ds_cons (ds_for PassesOwn.never rfl (di_seq (dv 7)) (dg_name 8 sc__law_acted.nd) (ds_last (ds_stoA 3 ip_sub (DL.Room.u1 hr) (dv 8) de_int)))
  (ds_last (ds_expr (de_append 4 (da_cons (de_if (dt_ne (DL.Room.u80 hr) (dv 7) (de_lst da_nil)) (de_ix (DL.Room.u1 hr) (dv 7) de_int) de_non) da_nil))))))))
  (ds_frz 3 (ds_frz 4 (ds_last (ds_ret (de_tup (da_cons (dv 3) (da_cons (dv 4) da_nil)))))))))) hs
theorem sc_forks_between : FnScope N_forks_between ps_forks_between (defScope (top 2)) := ⟨rfl, rfl, rfl, by decide +kernel, rfl, by decide +kernel, by decide +kernel⟩
theorem d_forks_between (F : FunD K "forks_between" "forks_between" (defArgs (top 2)) (defBody (top 2)) (defScope (top 2)) [] [] f fd) (B : Blt mg) (C_behind : Fn P w K mg base 1 "behind" ps_behind sp_behind) (hs : Serves N_forks_between ps_forks_between t_forks_between sp_forks_between) : FnG P w K mg base CX0 2 f fd ps_forks_between (liftF K sp_forks_between) :=
  fn_ok F sc_forks_between (fun cdv A outer s H E gd hr => (ds_cons (ds_setLcF 2 (own := [("kind", 3)]) rfl sc_forks_between.nd (di_seq (dv 0)) (blkOk_by (by kernel_rfl)) (fun _ _ _ _ _ => (dg_name 3 sc_forks_between.nd)) (fun _ _ _ _ _ => (dts_one (dt_in (DL.Room.u65 hr) (dv 3) (dv 1)))) (fun _ _ _ _ _ => (dv 3)) (sw_true rfl rfl rfl (by decide +kernel)))
  (ds_last (ds_ret (de_lc2 (own := [("kind", 3), ("later", 4)]) (vs1 := [4]) rfl sc_forks_between.nd (di_seq (dv 2)) (blkOk_by (by kernel_rfl)) (fun _ _ _ _ _ => (dg_name 3 sc_forks_between.nd)) (fun _ _ _ _ _ => dts_nil) (fun _ _ _ _ _ => (di_seq (de_fn C_behind gd hr (da_cons (dv 0) (da_cons (dv 3) da_nil))))) (fun _ _ _ _ _ => (dg_name 4 sc_forks_between.nd)) (fun _ _ _ _ _ => (dts_one (dt_notin (DL.Room.u65 hr) (dv 4) (dv 1)))) (fun _ _ _ _ _ => (de_tup (da_cons (dv 0) (da_cons (dv 1) (da_cons (dv 3) (da_cons (dv 4) da_nil))))))))))) hs
theorem sc_do_deed : FnScope N_do_deed ps_do_deed (defScope (top 7)) := ⟨rfl, rfl, rfl, by decide +kernel, rfl, by decide +kernel, by decide +kernel⟩
theorem d_do_deed (F : FunD K "do_deed" "do_deed" (defArgs (top 7)) (defBody (top 7)) (defScope (top 7)) [] [] f fd) (B : Blt mg) (C_taken_kind : Fn P w K mg base 1 "taken_kind" ps_taken_kind sp_taken_kind) (hs : Serves N_do_deed ps_do_deed t_do_deed sp_do_deed) : FnG P w K mg base CX0 2 f fd ps_do_deed (liftF K sp_do_deed) :=
  fn_ok F sc_do_deed (fun cdv A outer s H E gd hr => (ds_cons (ds_if (dt_eq (DL.Room.u80 hr) (de_ix (DL.Room.u1 hr) (dv 1) de_int) de_str) (ds_cons (ds_stoA 0 ip_add (DL.Room.u1 hr) (de_ix (DL.Room.u1 hr) (dv 1) de_int) de_int)
  (ds_last (ds_ret de_non))) ds_nil)
  (ds_cons (ds_setF 2 sc_do_deed.nd (de_fn C_taken_kind gd hr (da_cons (dv 0) (da_cons (dv 1) da_nil))))
  (ds_cons (ds_if (dt_notN (dv 2) de_non) (ds_last (ds_stoA 0 ip_sub (DL.Room.u1 hr) (dv 2) de_int)) ds_nil)
  (ds_last (ds_ret (dv 2))))))) hs
theorem sc__law_one : FnScope N__law_one ps__law_one (defScope (top 12)) := ⟨rfl, rfl, rfl, by decide +kernel, rfl, by decide +kernel, by decide +kernel⟩
theorem d__law_one (F : FunD K "_law_one" "_law_one" (defArgs (top 12)) (defBody (top 12)) (defScope (top 12)) [] [] f fd) (B : Blt mg) (C__law_take : Fn P w K mg base 1 "_law_take" ps__law_take sp__law_take) (hs : Serves N__law_one ps__law_one t__law_one sp__law_one) : FnG P w K mg base CX0 2 f fd ps__law_one (liftF K sp__law_one) :=
  fn_ok F sc__law_one (fun cdv A outer s H E gd hr => (ds_last (ds_ret (de_ix (DL.Room.u1 hr) (dv 1) (de_fn C__law_take gd hr (da_cons (dv 0) (da_cons (de_len B.len (da_cons (dv 1) da_nil)) da_nil))))))) hs
theorem sc__law_mixed : FnScope N__law_mixed ps__law_mixed (defScope (top 13)) := ⟨rfl, rfl, rfl, by decide +kernel, rfl, by decide +kernel, by decide +kernel⟩
theorem d__law_mixed (F : FunD K "_law_mixed" "_law_mixed" (defArgs (top 13)) (defBody (top 13)) (defScope (top 13)) [] [] f fd) (B : Blt mg) (C__law_take : Fn P w K mg base 1 "_law_take" ps__law_take sp__law_take) (hs : Serves N__law_mixed ps__law_mixed t__law_mixed sp__law_mixed) : FnG P w K mg base CX0 2 f fd ps__law_mixed (liftF K sp__law_mixed) :=
  fn_ok F sc__law_mixed (fun cdv A outer s H E gd hr => (ds_cons (ds_set 2 sc__law_mixed.nd (de_lst da_nil))
  (ds_cons (ds_for PassesOwn.never rfl (di_seq (dv 1)) (dg_name 3 sc__law_mixed.nd) (ds_last (ds_expr (de_insert 2 (da_cons (de_fn C__law_take gd hr (da_cons (dv 0) (da_cons (de_add (de_len B.len (da_cons (dv 2) da_nil)) de_int) da_nil))) (da_cons (dv 3) da_nil))))))
  (ds_last (ds_ret (dv 2)))))) hs
theorem sc__law_any_calls : FnScope N__law_any_calls ps__law_any_calls (defScope (top 19)) := ⟨rfl, rfl, rfl, by decide +kernel, rfl, by decide +kernel, by decide +kernel⟩
theorem d__law_any_calls (F : FunD K "_law_any_calls" "_law_any_calls" (defArgs (top 19)) (defBody (top 19)) (defScope (top 19)) [] [] f fd) (B : Blt mg) (C__law_take : Fn P w K mg base 1 "_law_take" ps__law_take sp__law_take) (hs : Serves N__law_any_calls ps__law_any_calls t__law_any_calls sp__law_any_calls) : FnG P w K mg base CX0 2 f fd ps__law_any_calls (liftF K sp__law_any_calls) :=
  fn_ok F sc__law_any_calls (fun cdv A outer s H E gd hr => (ds_cons (ds_set 3 sc__law_any_calls.nd (de_lst da_nil))
  (ds_cons (ds_for PassesOwn.never rfl (di_r1 rfl B.range (de_add de_int (de_fn C__law_take gd hr (da_cons (dv 0) (da_cons (dv 2) da_nil))))) (dg_name 4 sc__law_any_calls.nd) (ds_cons (ds_setLcF 5 (own := [("_law_kind", 6)]) rfl sc__law_any_calls.nd (di_r1 rfl B.range (dv 1)) (blkOk_by (by kernel_rfl)) (fun _ _ _ _ _ => (dg_name 6 sc__law_any_calls.nd)) (fun _ _ _ _ _ => (dts_one (dt_eq (DL.Room.u80 hr) (de_fn C__law_take gd hr (da_cons (dv 0) (da_cons de_int da_nil))) de_int))) (fun _ _ _ _ _ => (dv 6)) (sw_true rfl rfl rfl (by decide +kernel)))
  (ds_last (ds_expr (de_append 3 (da_cons (de_tuple B.tuple (da_cons (de_if (dt_ne (DL.Room.u80 hr) (dv 5) (de_lst da_nil)) (dv 5) (de_lst (da_cons (de_fn C__law_take gd hr (da_cons (dv 0) (da_cons (dv 1) da_nil))) da_nil))) da_nil)) da_nil))))))
  (ds_last (ds_ret (dv 3)))))) hs
theorem sc__law_all_amounts : FnScope N__law_all_amounts ps__law_all_amounts (defScope (top 24)) := ⟨rfl, rfl, rfl, by decide +kernel, rfl, by decide +kernel, by decide +kernel⟩
theorem d__law_all_amounts (F : FunD K "_law_all_amounts" "_law_all_amounts" (defArgs (top 24)) (defBody (top 24)) (defScope (top 24)) [] [] f fd) (B : Blt mg) (C__law_flat : Fn P w K mg base 1 "_law_flat" ps__law_flat sp__law_flat) (hs : Serves N__law_all_amounts ps__law_all_amounts t__law_all_amounts sp__law_all_amounts) : FnG P w K mg base CX0 2 f fd ps__law_all_amounts (liftF K sp__law_all_amounts) :=
  fn_ok F sc__law_all_amounts (fun cdv A outer s H E gd hr => (ds_cons (ds_setF 2 sc__law_all_amounts.nd (de_lst (da_cons (de_tup da_nil) da_nil)))
  (ds_cons (ds_for PassesOwn.never rfl (di_seq (de_ix (DL.Room.u1 hr) (dv 0) de_int)) (dg_name 3 sc__law_all_amounts.nd) (ds_last (ds_setF 2 sc__law_all_amounts.nd (de_fn C__law_flat gd hr (da_cons (de_lc (own := [("_law_one_here", 4)]) rfl sc__law_all_amounts.nd (di_seq (dv 2)) (blkOk_by (by kernel_rfl)) (fun _ _ _ _ _ => (dg_name 4 sc__law_all_amounts.nd)) (fun _ _ _ _ _ => dts_nil) (fun _ _ _ _ _ => (de_lc (own := [("_law_many", 5)]) rfl sc__law_all_amounts.nd (di_r1 rfl B.range (de_add (dv 1) de_int)) (blkOk_by (by kernel_rfl)) (fun _ _ _ _ _ => (dg_name 5 sc__law_all_amounts.nd)) (fun _ _ _ _ _ => dts_nil) (fun _ _ _ _ _ => (de_add (dv 4) (de_tup (da_cons (dv 5) da_nil))))))) da_nil)))))
  (ds_last (ds_ret (de_lc (own := [("_law_one_here", 4)]) rfl sc__law_all_amounts.nd (di_seq (dv 2)) (blkOk_by (by kernel_rfl)) (fun _ _ _ _ _ => (dg_name 4 sc__law_all_amounts.nd)) (fun _ _ _ _ _ => dts_nil) (fun _ _ _ _ _ => (de_dict rfl B.dict (da_cons (de_listZip rfl B.list B.zip (de_ix (DL.Room.u1 hr) (dv 0) de_int) (dv 4)) da_nil))))))))) hs
theorem sc__law_parted : FnScope N__law_parted ps__law_parted (defScope (top 25)) := ⟨rfl, rfl, rfl, by decide +kernel, rfl, by decide +kernel, by decide +kernel⟩
theorem d__law_parted (F : FunD K "_law_parted" "_law_parted" (defArgs (top 25)) (defBody (top 25)) (defScope (top 25)) [] [] f fd) (B : Blt mg) (C__law_acted : Fn P w K mg base 1 "_law_acted" ps__law_acted sp__law_acted) (hs : Serves N__law_parted ps__law_parted t__law_parted sp__law_parted) : FnG P w K mg base CX0 2 f fd ps__law_parted (liftF K sp__law_parted) :=
  fn_ok F sc__law_parted (fun cdv A outer s H E gd hr => (ds_cons (ds_setF 4 sc__law_parted.nd (de_tup (da_cons (de_tup (da_cons de_str (da_cons (dv 1) da_nil))) (da_cons (de_tup (da_cons de_str (da_cons (dv 2) da_nil))) da_nil))))
  (ds_cons (ds_for PassesOwn.never rfl (di_seq (dv 3)) (dg_name 5 sc__law_parted.nd) (ds_last (ds_if (dt_ne (DL.Room.u80 hr) (de_ix (DL.Room.u1 hr) (de_fn C__law_acted gd hr (da_cons (dv 0) (da_cons (dv 4) (da_cons (dv 5) da_nil)))) de_int) (de_ix (DL.Room.u1 hr) (de_fn C__law_acted gd hr (da_cons (dv 0) (da_cons (de_back (dv 4)) (da_cons (dv 5) da_nil)))) de_int)) (ds_last (ds_ret (dv 5))) ds_nil)))
  (ds_last (ds_ret de_non))))) hs
theorem sc_forks_of : FnScope N_forks_of ps_forks_of (defScope (top 3)) := ⟨rfl, rfl, rfl, by decide +kernel, rfl, by decide +kernel, by decide +kernel⟩
theorem d_forks_of (F : FunD K "forks_of" "forks_of" (defArgs (top 3)) (defBody (top 3)) (defScope (top 3)) [] [] f fd) (B : Blt mg) (C_forks_between : Fn P w K mg base 2 "forks_between" ps_forks_between sp_forks_between) (hs : Serves N_forks_of ps_forks_of t_forks_of sp_forks_of) : FnG P w K mg base CX0 3 f fd ps_forks_of (liftF K sp_forks_of) :=
  fn_ok F sc_forks_of (fun cdv A outer s H E gd hr => (ds_cons (ds_set 1 sc_forks_of.nd (de_lst da_nil))
  (ds_cons (ds_for PassesOwn.never rfl (di_seq (de_ix (DL.Room.u1 hr) (dv 0) de_int)) (dg_name 2 sc_forks_of.nd) (ds_last (ds_for PassesOwn.never rfl (di_seq (de_ix (DL.Room.u1 hr) (dv 0) de_int)) (dg_name 3 sc_forks_of.nd) (ds_last (ds_expr (de_extend 1 (da_cons (de_fn C_forks_between gd hr (da_cons (dv 2) (da_cons (dv 3) da_nil))) da_nil)))))))
  (ds_frz 1 (ds_last (ds_ret (de_sorted (DL.Room.u80 hr) B.sorted (da_cons (dv 1) da_nil)))))))) hs
theorem sc_acted : FnScope N_acted ps_acted (defScope (top 8)) := ⟨rfl, rfl, rfl, by decide +kernel, rfl, by decide +kernel, by decide +kernel⟩
theorem d_acted (F : FunD K "acted" "acted" (defArgs (top 8)) (defBody (top 8)) (defScope (top 8)) [] [] f fd) (B : Blt mg) (C_do_deed : Fn P w K mg base 2 "do_deed" ps_do_deed sp_do_deed) (hs : Serves N_acted ps_acted t_acted sp_acted) : FnG P w K mg base CX0 3 f fd ps_acted (liftF K sp_acted) :=
  fn_ok F sc_acted (fun cdv A outer s H E gd hr => (ds_cons (ds_setDc 3 (own := [("kind", 5)]) rfl sc_acted.nd (di_seq (de_sorted (DL.Room.u80 hr) B.sorted (da_cons (de_ix (DL.Room.u1 hr) (dv 0) de_int) da_nil))) (blkOk_by (by kernel_rfl)) (fun _ _ _ _ _ => (dg_name 5 sc_acted.nd)) (fun _ _ _ _ _ => dts_nil) (fun _ _ _ _ _ => (dv 5)) (fun _ _ _ _ _ => (de_ix (DL.Room.u1 hr) (dv 2) (dv 5))) (swd_true rfl rfl rfl (by decide +kernel)))
  (ds_cons (ds_for PassesOwn.never rfl (di_seq (dv 1)) (dg_name 4 sc_acted.nd) (ds_last (ds_expr (de_fn C_do_deed gd hr (da_cons (dv 3) (da_cons (dv 4) da_nil))))))
  (ds_last (ds_ret (dv 3)))))) hs
theorem sc__law_paths : FnScope N__law_paths ps__law_paths (defScope (top 17)) := ⟨rfl, rfl, rfl, by decide +kernel, rfl, by decide +kernel, by decide +kernel⟩
theorem d__law_paths (F : FunD K "_law_paths" "_law_paths" (defArgs (top 17)) (defBody (top 17)) (defScope (top 17)) [] [] f fd) (B : Blt mg) (C__law_one : Fn P w K mg base 2 "_law_one" ps__law_one sp__law_one) (C__law_mixed : Fn P w K mg base 2 "_law_mixed" ps__law_mixed sp__law_mixed) (hs : Serves N__law_paths ps__law_paths t__law_paths sp__law_paths) : FnG P w K mg base CX0 3 f fd ps__law_paths (liftF K sp__law_paths) :=
  fn_ok F sc__law_paths (fun cdv A outer s H E gd hr => (ds_cons (ds_setF 3 sc__law_paths.nd (de_lc (own := [("_law_kind", 8)]) rfl sc__law_paths.nd (di_r1 rfl B.range (dv 1)) (blkOk_by (by kernel_rfl)) (fun _ _ _ _ _ => (dg_name 8 sc__law_paths.nd)) (fun _ _ _ _ _ => dts_nil) (fun _ _ _ _ _ => (de_fn C__law_one gd hr (da_cons (dv 0) (da_cons (de_add (de_listRg2 rfl B.list B.range (de_add (dv 8) de_int) (dv 1)) (de_lst (da_cons de_non da_nil))) da_nil))))))
  (ds_cons (ds_setLcF 4 (own := [("_law_kind", 8)]) rfl sc__law_paths.nd (di_r1 rfl B.range (dv 1)) (blkOk_by (by kernel_rfl)) (fun _ _ _ _ _ => (dg_name 8 sc__law_paths.nd)) (fun _ _ _ _ _ => (dts_one (dt_notin (DL.Room.u65 hr) (dv 8) (dv 3)))) (fun _ _ _ _ _ => (dv 8)) (sw_true rfl rfl rfl (by decide +kernel)))
  (ds_cons (ds_setF 4 sc__law_paths.nd (de_add (dv 4) (de_sl (de_fn C__law_mixed gd hr (da_cons (dv 0) (da_cons (de_lc (own := [("_law_kind", 8)]) rfl sc__law_paths.nd (di_r1 rfl B.range (dv 1)) (blkOk_by (by kernel_rfl)) (fun _ _ _ _ _ => (dg_name 8 sc__law_paths.nd)) (fun _ _ _ _ _ => (dts_one (dt_in (DL.Room.u65 hr) (dv 8) (dv 3)))) (fun _ _ _ _ _ => (dv 8))) da_nil))) dp_no (dp_at (de_fn C__law_one gd hr (da_cons (dv 0) (da_cons (de_lst (da_cons de_int (da_cons de_int (da_cons de_int (da_cons de_int da_nil))))) da_nil)))))))
  (ds_cons (ds_set 5 sc__law_paths.nd (de_lst da_nil))
  (ds_cons (ds_for PassesOwn.never rfl (di_seq (de_sl (dv 4) dp_no (dp_at (dv 2)))) (dg_name 6 sc__law_paths.nd) (ds_cons (ds_set 7 sc__law_paths.nd (de_lst (da_cons (dv 6) da_nil)))
  (ds_cons (ds_while PassesOwn.never (dt_notN (de_ix (DL.Room.u1 hr) (dv 3) (de_ix (DL.Room.u1 hr) (dv 7) (de_neg de_int))) de_non) (ds_last (ds_expr (de_append 7 (da_cons (de_ix (DL.Room.u1 hr) (dv 3) (de_ix (DL.Room.u1 hr) (dv 7) (de_neg de_int))) da_nil)))))
  (ds_frz 7 (ds_last (ds_expr (de_append 5 (da_cons (de_tuple B.tuple (da_cons (dv 7) da_nil)) da_nil))))))))
  (ds_last (ds_ret (dv 5))))))))) hs
theorem sc__law_bent_call : FnScope N__law_bent_call ps__law_bent_call (defScope (top 18)) := ⟨rfl, rfl, rfl, by decide +kernel, rfl, by decide +kernel, by decide +kernel⟩
theorem d__law_bent_call (F : FunD K "_law_bent_call" "_law_bent_call" (defArgs (top 18)) (defBody (top 18)) (defScope (top 18)) [] [] f fd) (B : Blt mg) (C__law_one : Fn P w K mg base 2 "_law_one" ps__law_one sp__law_one) (C__law_take : Fn P w K mg base 1 "_law_take" ps__law_take sp__law_take) (hs : Serves N__law_bent_call ps__law_bent_call t__law_bent_call sp__law_bent_call) : FnG P w K mg base CX0 3 f fd ps__law_bent_call (liftF K sp__law_bent_call) :=
  fn_ok F sc__law_bent_call (fun cdv A outer s H E gd hr => (ds_cons (ds_par2 3 4 rfl sc__law_bent_call.nd (de_fn C__law_one gd hr (da_cons (dv 0) (da_cons (dv 2) da_nil))) (de_fn C__law_take gd hr (da_cons (dv 0) (da_cons (dv 1) da_nil))))
  (ds_frz 3 (ds_frz 4 (ds_cons (ds_setF 5 sc__law_bent_call.nd (de_if (dt_in (DL.Room.u65 hr) (dv 4) (dv 3)) (de_lc (own := [("_law_one_here", 6)]) rfl sc__law_bent_call.nd (di_seq (dv 3)) (blkOk_by (by kernel_rfl)) (fun _ _ _ _ _ => (dg_name 6 sc__law_bent_call.nd)) (fun _ _ _ _ _ => (dts_one (dt_ne (DL.Room.u80 hr) (dv 6) (dv 4)))) (fun _ _ _ _ _ => (dv 6))) (de_add (de_list rfl B.list (da_cons (dv 3) da_nil)) (de_lst (da_cons (dv 4) da_nil)))))
  (ds_last (ds_ret (de_add (de_mul (de_lst (da_cons (de_tuple B.tuple (da_cons (de_sorted (DL.Room.u80 hr) B.sorted (da_cons (dv 5) da_nil)) da_nil)) da_nil)) (de_int' B.int (da_cons (de_ne (DL.Room.u80 hr) (dv 5) (de_lst da_nil)) da_nil))) (dv 2))))))))) hs
theorem sc__law_named : FnScope N__law_named ps__law_named (defScope (top 20)) := ⟨rfl, rfl, rfl, by decide +kernel, rfl, by decide +kernel, by decide +kernel⟩
theorem d__law_named (F : FunD K "_law_named" "_law_named" (defArgs (top 20)) (defBody (top 20)) (defScope (top 20)) [] [] f fd) (B : Blt mg) (C__law_take : Fn P w K mg base 1 "_law_take" ps__law_take sp__law_take) (C__law_mixed : Fn P w K mg base 2 "_law_mixed" ps__law_mixed sp__law_mixed) (hs : Serves N__law_named ps__law_named t__law_named sp__law_named) : FnG P w K mg base CX0 3 f fd ps__law_named (liftF K sp__law_named) :=
  fn_ok F sc__law_named (fun cdv A outer s H E gd hr => (ds_cons (ds_set 4 sc__law_named.nd (de_lst da_nil))
  (ds_cons (ds_for PassesOwn.never rfl (di_seq (dv 2)) (dg_name 5 sc__law_named.nd) (ds_last (ds_if (dt_w (dw_and (dt_notin (DL.Room.u65 hr) (dv 5) (dv 4)) (dw_and1 (dt_lt (DL.Room.u80 hr) (de_len B.len (da_cons (dv 4) da_nil)) (dv 3))))) (ds_last (ds_expr (de_append 4 (da_cons (dv 5) da_nil)))) ds_nil)))
  (ds_frz 4 (ds_cons (ds_setLcF 6 (own := [("_law_kind", 10)]) rfl sc__law_named.nd (di_r1 rfl B.range (dv 1)) (blkOk_by (by kernel_rfl)) (fun _ _ _ _ _ => (dg_name 10 sc__law_named.nd)) (fun _ _ _ _ _ => (dts_one (dt_ne (DL.Room.u80 hr) (de_lc (own := [("_law_call", 5)]) rfl sc__law_named.nd (di_seq (dv 4)) (blkOk_by (by kernel_rfl)) (fun _ _ _ _ _ => (dg_name 5 sc__law_named.nd)) (fun _ _ _ _ _ => (dts_one (dt_in (DL.Room.u65 hr) (dv 10) (dv 5)))) (fun _ _ _ _ _ => (dv 5))) (de_lst da_nil)))) (fun _ _ _ _ _ => (dv 10)) (sw_true rfl rfl rfl (by decide +kernel)))
  (ds_cons (ds_setF 7 sc__law_named.nd (de_lst (da_cons de_str (da_cons de_str (da_cons de_str (da_cons de_str (da_cons de_str (da_cons de_str (da_cons de_str (da_cons de_str (da_cons de_str (da_cons de_str (da_cons de_str (da_cons de_str (da_cons de_str (da_cons de_str (da_cons de_str da_nil)))))))))))))))))
  (ds_cons (ds_setF 8 sc__law_named.nd (de_if (dt_gt (de_fn C__law_take gd hr (da_cons (dv 0) (da_cons de_int da_nil))) de_int) (de_sl (de_fn C__law_mixed gd hr (da_cons (dv 0) (da_cons (dv 7) da_nil))) dp_no (dp_at (de_len B.len (da_cons (dv 6) da_nil)))) (de_sl (dv 7) dp_no (dp_at (de_len B.len (da_cons (dv 6) da_nil))))))
  (ds_cons (ds_setF 9 sc__law_named.nd (de_dict rfl B.dict (da_cons (de_listZip rfl B.list B.zip (dv 6) (dv 8)) da_nil)))
  (ds_last (ds_ret (de_tup (da_cons (de_tuple B.tuple (da_cons (dv 8) da_nil)) (da_cons (de_tuple B.tuple (da_cons (de_sorted (DL.Room.u80 hr) B.sorted (da_cons (de_lc (own := [("_law_call", 5)]) rfl sc__law_named.nd (di_seq (dv 4)) (blkOk_by (by kernel_rfl)) (fun _ _ _ _ _ => (dg_name 5 sc__law_named.nd)) (fun _ _ _ _ _ => dts_nil) (fun _ _ _ _ _ => (de_tuple B.tuple (da_cons (de_lc (own := [("_law_kind", 10)]) rfl sc__law_named.nd (di_seq (dv 5)) (blkOk_by (by kernel_rfl)) (fun _ _ _ _ _ => (dg_name 10 sc__law_named.nd)) (fun _ _ _ _ _ => dts_nil) (fun _ _ _ _ _ => (de_ix (DL.Room.u1 hr) (dv 9) (dv 10)))) da_nil)))) da_nil)) da_nil)) da_nil))))))))))))) hs
theorem sc__law_amounts : FnScope N__law_amounts ps__law_amounts (defScope (top 22)) := ⟨rfl, rfl, rfl, by decide +kernel, rfl, by decide +kernel, by decide +kernel⟩
theorem d__law_amounts (F : FunD K "_law_amounts" "_law_amounts" (defArgs (top 22)) (defBody (top 22)) (defScope (top 22)) [] [] f fd) (B : Blt mg) (C__law_mixed : Fn P w K mg base 2 "_law_mixed" ps__law_mixed sp__law_mixed) (C__law_take : Fn P w K mg base 1 "_law_take" ps__law_take sp__law_take) (C__law_one : Fn P w K mg base 2 "_law_one" ps__law_one sp__law_one) (hs : Serves N__law_amounts ps__law_amounts t__law_amounts sp__law_amounts) : FnG P w K mg base CX0 3 f fd ps__law_amounts (liftF K sp__law_amounts) :=
  fn_ok F sc__law_amounts (fun cdv A outer s H E gd hr => (ds_cons (ds_setF 3 sc__law_amounts.nd (de_fn C__law_mixed gd hr (da_cons (dv 0) (da_cons (de_list rfl B.list (da_cons (de_ix (DL.Room.u1 hr) (dv 1) de_int) da_nil)) da_nil))))
  (ds_last (ds_ret (de_dict rfl B.dict (da_cons (de_lc (own := [("_law_kind", 4)]) rfl sc__law_amounts.nd (di_seq (dv 3)) (blkOk_by (by kernel_rfl)) (fun _ _ _ _ _ => (dg_name 4 sc__law_amounts.nd)) (fun _ _ _ _ _ => dts_nil) (fun _ _ _ _ _ => (de_tup (da_cons (dv 4) (da_cons (de_fn C__law_take gd hr (da_cons (dv 0) (da_cons (de_fn C__law_one gd hr (da_cons (dv 0) (da_cons (de_lst (da_cons (de_add (dv 2) de_int) (da_cons de_int (da_cons de_int (da_cons (de_add (dv 2) de_int) da_nil))))) da_nil))) da_nil))) da_nil))))) da_nil)))))) hs
theorem sc_is_nested : FnScope N_is_nested ps_is_nested (defScope (top 4)) := ⟨rfl, rfl, rfl, by decide +kernel, rfl, by decide +kernel, by decide +kernel⟩
theorem d_is_nested (F : FunD K "is_nested" "is_nested" (defArgs (top 4)) (defBody (top 4)) (defScope (top 4)) [] [] f fd) (B : Blt mg) (C_forks_of : Fn P w K mg base 3 "forks_of" ps_forks_of sp_forks_of) (hs : Serves N_is_nested ps_is_nested t_is_nested sp_is_nested) : FnG P w K mg base CX0 4 f fd ps_is_nested (liftF K sp_is_nested) :=
  fn_ok F sc_is_nested (fun cdv A outer s H E gd hr => (ds_last (ds_ret (de_eq (DL.Room.u80 hr) (de_fn C_forks_of gd hr (da_cons (dv 0) da_nil)) (de_lst da_nil))))) hs
theorem sc__law_house : FnScope N__law_house ps__law_house (defScope (top 16)) := ⟨rfl, rfl, rfl, by decide +kernel, rfl, by decide +kernel, by decide +kernel⟩
theorem d__law_house (F : FunD K "_law_house" "_law_house" (defArgs (top 16)) (defBody (top 16)) (defScope (top 16)) [] [] f fd) (B : Blt mg) (C__law_one : Fn P w K mg base 2 "_law_one" ps__law_one sp__law_one) (C__law_take : Fn P w K mg base 1 "_law_take" ps__law_take sp__law_take) (C__law_paths : Fn P w K mg base 3 "_law_paths" ps__law_paths sp__law_paths) (C__law_forks : Fn P w K mg base 1 "_law_forks" ps__law_forks sp__law_forks) (C__law_bent_call : Fn P w K mg base 3 "_law_bent_call" ps__law_bent_call sp__law_bent_call) (C__law_mixed : Fn P w K mg base 2 "_law_mixed" ps__law_mixed sp__law_mixed) (C__law_any_calls : Fn P w K mg base 2 "_law_any_calls" ps__law_any_calls sp__law_any_calls) (C__law_named : Fn P w K mg base 3 "_law_named" ps__law_named sp__law_named) (hs : Serves N__law_house ps__law_house t__law_house sp__law_house) : FnG P w K mg base CX0 4 f fd ps__law_house (liftF K sp__law_house) :=
  fn_ok F sc__law_house (fun cdv A outer s H E gd hr => (ds_cons (ds_par 3 4 rfl sc__law_house.nd (de_min rfl B.min (da_cons (dv 1) (da_cons (de_fn C__law_one gd hr (da_cons (dv 0) (da_cons (de_lst (da_cons de_int (da_cons de_int (da_cons de_int (da_cons de_int (da_cons de_int (da_cons (dv 1) (da_cons de_int (da_cons de_int da_nil))))))))) da_nil))) da_nil))) (de_fn C__law_take gd hr (da_cons (dv 0) (da_cons de_int da_nil))))
  (ds_frz 3 (ds_frz 4 (ds_cons (ds_if (dt_lt (DL.Room.u80 hr) (dv 4) de_int) (ds_cons (ds_setF 5 sc__law_house.nd (de_fn C__law_paths gd hr (da_cons (dv 0) (da_cons (dv 3) (da_cons (dv 2) da_nil)))))
  (ds_last (ds_for PassesOwn.never rfl (di_r1 rfl B.range (de_mul de_int (de_int' B.int (da_cons (de_and (de_gt (dv 4) de_int) (de_one (de_gt (dv 3) de_int))) da_nil)))) (dg_name 6 sc__law_house.nd) (ds_last (ds_if (dt_eq (DL.Room.u80 hr) (de_fn C__law_forks gd hr (da_cons (de_tup (da_cons (de_tup da_nil) (da_cons (dv 5) da_nil))) da_nil)) (de_lst da_nil)) (ds_last (ds_setF 5 sc__law_house.nd (de_fn C__law_bent_call gd hr (da_cons (dv 0) (da_cons (dv 3) (da_cons (dv 5) da_nil)))))) ds_nil))))) (ds_last (ds_if (dt_w (dw_and (dt_eq (DL.Room.u80 hr) (dv 4) de_int) (dw_and1 (dt_gt (dv 3) de_int)))) (ds_cons (ds_setF 7 sc__law_house.nd (de_sorted (DL.Room.u80 hr) B.sorted (da_cons (de_sl (de_fn C__law_mixed gd hr (da_cons (dv 0) (da_cons (de_listRg rfl B.list B.range (dv 3)) da_nil))) dp_no (dp_at de_int)) da_nil)))
  (ds_last (ds_setF 5 sc__law_house.nd (de_add (de_lst (da_cons (de_tuple B.tuple (da_cons (dv 7) da_nil)) (da_cons (de_tup (da_cons (de_ix (DL.Room.u1 hr) (dv 7) de_int) da_nil)) (da_cons (de_tup (da_cons (de_ix (DL.Room.u1 hr) (dv 7) de_int) da_nil)) da_nil)))) (de_fn C__law_any_calls gd hr (da_cons (dv 0) (da_cons (dv 3) (da_cons de_int da_nil)))))))) (ds_last (ds_setF 5 sc__law_house.nd (de_fn C__law_any_calls gd hr (da_cons (dv 0) (da_cons (dv 3) (da_cons (dv 2) da_nil)))))))))
  (ds_last (ds_ret (de_fn C__law_named gd hr (da_cons (dv 0) (da_cons (dv 3) (da_cons (dv 5) (da_cons (dv 2) da_nil)))))))))))) hs
theorem sc__law_couple_right : FnScope N__law_couple_right ps__law_couple_right (defScope (top 26)) := ⟨rfl, rfl, rfl, by decide +kernel, rfl, by decide +kernel, by decide +kernel⟩
theorem d__law_couple_right (F : FunD K "_law_couple_right" "_law_couple_right" (defArgs (top 26)) (defBody (top 26)) (defScope (top 26)) [] [] f fd) (B : Blt mg) (C__law_parted : Fn P w K mg base 2 "_law_parted" ps__law_parted sp__law_parted) (C__law_mixed : Fn P w K mg base 2 "_law_mixed" ps__law_mixed sp__law_mixed) (C_acted : Fn P w K mg base 3 "acted" ps_acted sp_acted) (C__law_amounts : Fn P w K mg base 3 "_law_amounts" ps__law_amounts sp__law_amounts) (C__law_alike : Fn P w K mg base 1 "_law_alike" ps__law_alike sp__law_alike) (C__law_acted : Fn P w K mg base 1 "_law_acted" ps__law_acted sp__law_acted) (hs : Serves N__law_couple_right ps__law_couple_right t__law_couple_right sp__law_couple_right) : FnG P w K mg base CX0 4 f fd ps__law_couple_right (liftF K sp__law_couple_right) :=
  fn_ok F sc__law_couple_right (fun cdv A outer s H E gd hr => (ds_cons (ds_setLcF 6 (own := [("_law_fork", 15)]) rfl sc__law_couple_right.nd (di_seq (dv 4)) (blkOk_by (by kernel_rfl)) (fun _ _ _ _ _ => (dg_name 15 sc__law_couple_right.nd)) (fun _ _ _ _ _ => (dts_one (dt_in (DL.Room.u65 hr) (de_sl (dv 15) dp_no (dp_at de_int)) (de_tup (da_cons (de_tup (da_cons (dv 2) (da_cons (dv 3) da_nil))) (da_cons (de_tup (da_cons (dv 3) (da_cons (dv 2) da_nil))) da_nil)))))) (fun _ _ _ _ _ => (dv 15)) (sw_true rfl rfl rfl (by decide +kernel)))
  (ds_cons (ds_par 7 8 rfl sc__law_couple_right.nd (de_fn C__law_parted gd hr (da_cons (dv 1) (da_cons (dv 2) (da_cons (dv 3) (da_cons (dv 5) da_nil))))) (de_tup (da_cons (de_tup (da_cons de_str (da_cons (dv 2) da_nil))) (da_cons (de_tup (da_cons de_str (da_cons (dv 3) da_nil))) da_nil))))
  (ds_frz 7 (ds_cons (ds_if (dt_ne (DL.Room.u80 hr) (de_isN (dv 7) de_non) (de_eq (DL.Room.u80 hr) (dv 6) (de_lst da_nil))) (ds_last (ds_ret de_bl)) ds_nil)
  (ds_cons (ds_for PassesOwn.never rfl (di_seq (dv 6)) (dg_tup rfl (dgs_cons (dg_name 9 sc__law_couple_right.nd) (dgs_cons (dg_name 10 sc__law_couple_right.nd) (dgs_cons (dg_name 11 sc__law_couple_right.nd) (dgs_cons (dg_name 12 sc__law_couple_right.nd) dgs_nil))))) (ds_cons (ds_setF 13 sc__law_couple_right.nd (de_dict rfl B.dict (da_cons (de_lc (own := [("_law_kind", 16)]) rfl sc__law_couple_right.nd (di_seq (de_fn C__law_mixed gd hr (da_cons (dv 0) (da_cons (de_ix (DL.Room.u1 hr) (dv 1) de_int) da_nil)))) (blkOk_by (by kernel_rfl)) (fun _ _ _ _ _ => (dg_name 16 sc__law_couple_right.nd)) (fun _ _ _ _ _ => dts_nil) (fun _ _ _ _ _ => (de_tup (da_cons (dv 16) (da_cons (de_int' B.int (da_cons (de_in (DL.Room.u65 hr) (dv 16) (de_tup (da_cons (dv 11) (da_cons (dv 12) da_nil)))) da_nil)) da_nil))))) da_nil)))
  (ds_cons (ds_if (dt_eq (DL.Room.u80 hr) (de_fn C_acted gd hr (da_cons (dv 1) (da_cons (dv 8) (da_cons (dv 13) da_nil)))) (de_fn C_acted gd hr (da_cons (dv 1) (da_cons (de_back (dv 8)) (da_cons (dv 13) da_nil))))) (ds_last (ds_ret de_bl)) ds_nil)
  (ds_last (ds_if (dt_isN (de_fn C__law_parted gd hr (da_cons (dv 1) (da_cons (dv 2) (da_cons (dv 3) (da_cons (de_lst (da_cons (dv 13) da_nil)) da_nil))))) de_non) (ds_last (ds_ret de_bl)) ds_nil)))))
  (ds_cons (ds_for PassesOwn.never rfl (di_seq (de_add (de_sl (de_fn C__law_mixed gd hr (da_cons (dv 0) (da_cons (dv 5) da_nil))) dp_no (dp_at de_int)) (de_lst (da_cons (de_fn C__law_amounts gd hr (da_cons (dv 0) (da_cons (dv 1) (da_cons (de_pow de_int de_int) da_nil)))) da_nil)))) (dg_name 13 sc__law_couple_right.nd) (ds_cons (ds_setF 14 sc__law_couple_right.nd (de_lst (da_cons (de_fn C_acted gd hr (da_cons (dv 1) (da_cons (dv 8) (da_cons (dv 13) da_nil)))) (da_cons (de_fn C_acted gd hr (da_cons (dv 1) (da_cons (de_back (dv 8)) (da_cons (dv 13) da_nil)))) da_nil))))
  (ds_last (ds_if (dt_not (dt_tru (de_fn C__law_alike gd hr (da_cons (dv 14) (da_cons (de_lst (da_cons (de_ix (DL.Room.u1 hr) (de_fn C__law_acted gd hr (da_cons (dv 1) (da_cons (dv 8) (da_cons (dv 13) da_nil)))) de_int) (da_cons (de_ix (DL.Room.u1 hr) (de_fn C__law_acted gd hr (da_cons (dv 1) (da_cons (de_back (dv 8)) (da_cons (dv 13) da_nil)))) de_int) da_nil))) da_nil))))) (ds_last (ds_ret de_bl)) ds_nil))))
  (ds_last (ds_ret de_bl))))))))) hs
theorem sc_law : FnScope N_law ps_law (defScope (top 27)) := ⟨rfl, rfl, rfl, by decide +kernel, rfl, by decide +kernel, by decide +kernel⟩
theorem d_law (F : FunD K "law" "law" (defArgs (top 27)) (defBody (top 27)) (defScope (top 27)) [] [] f fd) (B : Blt mg) (C__law_bag : Fn P w K mg base 1 "_law_bag" ps__law_bag sp__law_bag) (C__law_house : Fn P w K mg base 4 "_law_house" ps__law_house sp__law_house) (C__law_one : Fn P w K mg base 2 "_law_one" ps__law_one sp__law_one) (C_forks_of : Fn P w K mg base 3 "forks_of" ps_forks_of sp_forks_of) (C__law_all_amounts : Fn P w K mg base 2 "_law_all_amounts" ps__law_all_amounts sp__law_all_amounts) (C__law_couple_right : Fn P w K mg base 4 "_law_couple_right" ps__law_couple_right sp__law_couple_right) (C__law_parted : Fn P w K mg base 2 "_law_parted" ps__law_parted sp__law_parted) (C__law_alike : Fn P w K mg base 1 "_law_alike" ps__law_alike sp__law_alike) (C_is_nested : Fn P w K mg base 4 "is_nested" ps_is_nested sp_is_nested) (hs : Serves N_law ps_law t_law sp_law) : FnG P w K mg base CX0 5 f fd ps_law (liftF K sp_law) :=
  fn_ok F sc_law (fun cdv A outer s H E gd hr => (ds_cons (ds_set 1 sc_law.nd (de_fn C__law_bag gd hr (da_cons (dv 0) da_nil)))
  (ds_cons (ds_for PassesOwn.never rfl (di_r1 rfl B.range de_int) (dg_name 2 sc_law.nd) (ds_cons (ds_setF 3 sc_law.nd (de_fn C__law_house gd hr (da_cons (dv 1) (da_cons (de_fn C__law_one gd hr (da_cons (dv 1) (da_cons (de_lst (da_cons de_int (da_cons de_int (da_cons de_int (da_cons de_int da_nil))))) da_nil))) (da_cons de_int da_nil)))))
  (ds_cons (ds_par3 4 5 6 rfl sc_law.nd (de_fn C_forks_of gd hr (da_cons (dv 3) da_nil)) (de_fn C__law_all_amounts gd hr (da_cons (dv 3) (da_cons (de_if (dt_lt (DL.Room.u80 hr) (de_len B.len (da_cons (de_ix (DL.Room.u1 hr) (dv 3) de_int) da_nil)) de_int) de_int de_int) da_nil))) de_int)
  (ds_frz 4 (ds_frz 5 (ds_cons (ds_for PassesOwn.never rfl (di_seq (de_ix (DL.Room.u1 hr) (dv 3) de_int)) (dg_name 7 sc_law.nd) (ds_last (ds_for PassesOwn.never rfl (di_seq (de_ix (DL.Room.u1 hr) (dv 3) de_int)) (dg_name 8 sc_law.nd) (ds_cons (ds_if (dt_w (dw_and (dt_lt (DL.Room.u80 hr) (dv 7) (dv 8)) (dw_and1 (dt_not (dt_tru (de_fn C__law_couple_right gd hr (da_cons (dv 1) (da_cons (dv 3) (da_cons (dv 7) (da_cons (dv 8) (da_cons (dv 4) (da_cons (dv 5) da_nil)))))))))))) (ds_last (ds_ret de_bl)) ds_nil)
  (ds_last (ds_augI 6 ip_add sc_law.nd (de_int' B.int (da_cons (de_and (de_lt (DL.Room.u80 hr) (dv 7) (dv 8)) (de_one (de_notN (de_fn C__law_parted gd hr (da_cons (dv 3) (da_cons (dv 7) (da_cons (dv 8) (da_cons (dv 5) da_nil))))) de_non))) da_nil))))))))
  (ds_last (ds_if (dt_w (dw_or (dt_not (dt_tru (de_fn C__law_alike gd hr (da_cons (de_fn C_is_nested gd hr (da_cons (dv 3) da_nil)) (da_cons (de_eq (DL.Room.u80 hr) (dv 6) de_int) da_nil))))) (dw_or1 (dt_ne (DL.Room.u80 hr) (de_eq (DL.Room.u80 hr) (dv 4) (de_lst da_nil)) (de_eq (DL.Room.u80 hr) (dv 6) de_int))))) (ds_last (ds_ret de_bl)) ds_nil))))))))
  (ds_last (ds_ret de_bl))))) hs
end
end G16
end
section
set_option Elab.async false
set_option linter.all false
set_option maxRecDepth 100000
/-! M16a: what a deed takes, deeds done, forks of a house. -/
namespace G16
open PySem DL
open G G21

theorem serves__law_acted : Serves N__law_acted ps__law_acted t__law_acted sp__law_acted := fun args R h => G21.serves__law_acted args R h
theorem takes_head (f : Am) (c : List Str) : takes f c = (c.filter fun k => decide (0 < f k)).head? := by
  unfold takes
  rw [List.head?_filter]
theorem serves_taken_kind : Serves N_taken_kind ps_taken_kind t_taken_kind sp_taken_kind := by
  rintro args R ⟨ks, f, d, nk, hl, hi, hc, rfl, hR⟩
  refine ⟨rfl, rfl, ?_⟩
  unfold t_taken_kind
  ((try dsimp only); refine st_seq ?_)
  cases d with
  | put k =>
    refine st_if (b := true) (evt_val (ev_bin (ev_bin (ev_var rfl) ev_c rfl rfl rfl) ev_c rfl rfl rfl)) (fun _ => ?_) (fun z => by cases z)
    exact st_ret ev_c ⟨_, rfl, hR⟩
  | call c =>
    refine st_if (b := false) (evt_val (ev_bin (ev_bin (ev_var rfl) ev_c rfl rfl rfl) ev_c rfl rfl rfl)) (fun z => by cases z) (fun _ => ?_)
    unfold sNext
    ((try dsimp only); refine st_seq ?_)
    have ncs : Nms c := fun k hk => nk k (hi k hk)
    have cl := hc c rfl
    refine st_setF (o := .nw (lS (c.filter fun k => decide (0 < f k)))) (ev_lcl (enc := .str) (l := c) (evi_seq (d := tS c) (o := .fz (tS c)) (ev_bin (ev_var rfl) ev_c rfl rfl rfl) rfl rfl) trivial (by rw [show sizeLine = 2 ^ 24 from rfl]; omega) rfl (fun k => decide (0 < f k)) .str (fun k hk => evt_val (ev_bin (ev_bin (ev_own rfl) (ev_var rfl) rfl rfl (ix_am (hi k hk))) ev_c rfl rfl gt_int)) (fun k hk _ => ⟨_, ev_var rfl, rfl⟩)) rfl rfl ?_
    dsimp only
    have nf : Nms (c.filter fun k => decide (0 < f k)) := fun k hk => ncs k (List.mem_filter.mp hk).1
    have hh := takes_head f c
    generalize c.filter (fun k => decide (0 < f k)) = l at nf hh ⊢
    have hR : R (.fz (oD (takes f c))) [.ow true (amD ks f), .fz (dD (.call c))] := hR
    rw [hh] at hR
    cases l with
    | nil => exact st_ret (ev_if0 (evt_val (ev_bin (ev_var rfl) (ev_lst ev_nil rfl (by decide)) rfl rfl (ne_nilS (l := []) nf))) ev_c) ⟨_, rfl, hR⟩
    | cons k r => exact st_ret (ev_if1 (evt_val (ev_bin (ev_var rfl) (ev_lst ev_nil rfl (by decide)) rfl rfl (ne_nilS nf))) (ev_bin (ev_var rfl) ev_c rfl rfl (ix_seq (j := 0) rfl rfl))) ⟨_, rfl, hR⟩
theorem serves_do_deed : Serves N_do_deed ps_do_deed t_do_deed sp_do_deed := by
  rintro args R ⟨ks, f, d, nk, hl, hi, hc, rfl, hR⟩
  refine ⟨rfl, rfl, ?_⟩
  unfold t_do_deed
  ((try dsimp only); refine st_seq ?_)
  cases d with
  | put k =>
    have hk : k ∈ ks := hi
    refine st_if (b := true) (evt_val (ev_bin (ev_bin (ev_var rfl) ev_c rfl rfl rfl) ev_c rfl rfl rfl)) (fun _ => ?_) (fun z => by cases z)
    ((try dsimp only); refine st_seq ?_)
    refine st_stoA (n := f k) (m := 1) (c := amD ks f) (c' := amD ks (more f k)) rfl (ev_bin (ev_var rfl) ev_c rfl rfl rfl) rfl rfl ?_ ev_c rfl (c2 := amD ks f) rfl (sto_am hk (nk k hk) (by omega) fun x => by unfold more; split <;> simp_all) ?_
    · show (dget _ (.str k)) = _
      rw [dget_am hk]
    · dsimp only
      exact st_ret ev_c ⟨_, rfl, hR⟩
  | call c =>
    refine st_if (b := false) (evt_val (ev_bin (ev_bin (ev_var rfl) ev_c rfl rfl rfl) ev_c rfl rfl rfl)) (fun z => by cases z) (fun _ => ?_)
    unfold sNext
    ((try dsimp only); refine st_seq ?_)
    refine st_setF (o := .fz (oD (takes f c))) (ev_call (args := [.ow true (amD ks f), .fz (dD (.call c))]) (args' := [.ow true (amD ks f), .fz (dD (.call c))]) (ev_cons (ev_own rfl) (ev_cons (ev_var rfl) ev_nil)) rfl (by simp [alsO]) (fun R hR => ⟨ks, f, .call c, nk, hl, hi, hc, rfl, hR⟩) rfl rfl) rfl rfl ?_
    have hR : R (.fz (oD (takes f c))) [.ow true (amD ks (less f (takes f c))), .fz (dD (.call c))] := hR
    ((try dsimp only); refine st_seq ?_)
    cases ht : takes f c with
    | none =>
      rw [ht] at hR
      refine st_if (b := false) (evt_val (ev_bin (ev_var rfl) ev_c rfl rfl rfl)) (fun z => by cases z) (fun _ => ?_)
      dsimp only
      exact st_ret (ev_var rfl) ⟨_, rfl, hR⟩
    | some k =>
      rw [ht] at hR
      have hk : k ∈ ks := hi k (takes_mem ht)
      refine st_if (b := true) (evt_val (ev_bin (ev_var rfl) ev_c rfl rfl rfl)) (fun _ => ?_) (fun z => by cases z)
      refine st_stoA (n := f k) (m := 1) (c := amD ks f) (c' := amD ks (less f (some k))) rfl (ev_var rfl) rfl rfl ?_ ev_c rfl (c2 := amD ks f) rfl (sto_am hk (nk k hk) (by omega) fun x => by rw [less_at]; split <;> simp_all) ?_
      · show (dget _ (.str k)) = _
        rw [dget_am hk]
      · dsimp only
        exact st_ret (ev_var rfl) ⟨_, rfl, hR⟩
theorem serves_acted : Serves N_acted ps_acted t_acted sp_acted := by
  rintro args R ⟨ks, cs, kk, ds, f, h, hp, hd, hl, rfl, hR⟩
  refine ⟨rfl, rfl, ?_⟩
  have hsp := srt_perm ks
  have sin : ∀ {k : Str}, k ∈ srt ks ↔ k ∈ ks := hsp.mem_iff
  have sl : (srt ks).length ≤ 15 := by rw [hsp.length_eq]; exact h.ln
  have sn : Nms (srt ks) := fun k hk => h.nms k (sin.mp hk)
  unfold t_acted
  ((try dsimp only); refine st_seq ?_)
  refine st_set (o := .nw (amD (srt ks) f)) (ev_ams h (by decide) rfl rfl (by decide) fun k hk => ⟨_, ev_bin (ev_var rfl) (ev_var rfl) rfl rfl (ix_am (hp.mem_iff.mpr hk)), rfl⟩) rfl rfl ?_
  ((try dsimp only); refine st_seq ?_)
  refine for_list (enc := dD) (l := ds) (evi_seq (d := stD ds) (o := .fz (stD ds)) (ev_var rfl) rfl rfl) (fun pre e => ∃ s4 s5, fr s4 ∧ fr s5 ∧ e = [.fz (hD ks cs), .fz (stD ds), .fz (amD kk f), .ow false (amD (srt ks) (acts f pre)), s4, s5]) ⟨_, _, fr.un, fr.un, rfl⟩ ?_ ?_
  · rintro pre d post e E1 hi ⟨s4, s5, f4, f5, rfl⟩ nx _ _ _
    have hdd : okD ks cs d := hd d (by rw [hi]; simp)
    refine ⟨f4.pin rfl, ?_⟩
    refine st_drop (o := .fz (oD (took (acts f pre) d))) (ev_call (args := [.ow true (amD (srt ks) (acts f pre)), .fz (dD d)]) (args' := [.ow true (amD (srt ks) (act1 (acts f pre) d)), .fz (dD d)]) (ev_cons (ev_own rfl) (ev_cons (ev_var rfl) ev_nil)) rfl (by simp [alsO]) (fun R hR => ⟨srt ks, acts f pre, d, sn, by omega, ?_, fun c hc => ?_, rfl, hR⟩) rfl rfl) (nx _ ⟨.fz (dD d), s5, fr.fz, f5, ?_⟩)
    · have := okD_in h hdd
      cases d with
      | put k => exact sin.mpr this
      | call c => exact fun k hk => sin.mpr (this k hk)
    · subst hc
      exact Nat.le_trans (h.cln hdd) (by decide)
    · rw [acts_app]; rfl
  · rintro e ⟨s4, s5, f4, f5, rfl⟩
    dsimp only
    exact st_ret (ev_own rfl) ⟨_, rfl, hR⟩
theorem serves_forks_of : Serves N_forks_of ps_forks_of t_forks_of sp_forks_of := by
  rintro args R ⟨ks, cs, h, rfl, hR⟩
  refine ⟨rfl, rfl, ?_⟩
  have lc := h.lc
  have row_len : ∀ s ∈ cs, ∀ t, ((G.fk s t).map (fD s t)).length ≤ 225 := fun s hs t => by rw [List.length_map]; exact G21.fk_len (h.cln hs)
  unfold t_forks_of
  ((try dsimp only); refine st_seq ?_)
  refine st_set (ev_lst ev_nil rfl (by decide)) rfl rfl ?_
  ((try dsimp only); refine st_seq ?_)
  refine for_list (enc := tS) (l := cs) (evi_seq (d := .tuple (cs.map tS)) (o := .fz (.tuple (cs.map tS))) (ev_bin (ev_var rfl) ev_c rfl rfl rfl) rfl rfl) (fun pre e => ∃ s2 s3, fr s2 ∧ fr s3 ∧ e = [.fz (hD ks cs), .ow false (.list (pre.flatMap fun s => cs.flatMap fun t => (fk s t).map (fD s t))), s2, s3]) ⟨_, _, fr.un, fr.un, rfl⟩ ?_ ?_
  · rintro pre s post e E1 hi ⟨s2, s3, f2, f3, rfl⟩ nx1 _ _ _
    have hs : s ∈ cs := by rw [hi]; simp
    have l1 : pre.length + 1 ≤ 100 := by
      have := congrArg List.length hi
      rw [List.length_append, List.length_cons] at this
      omega
    have pl : (pre.flatMap fun s => cs.flatMap fun t => (fk s t).map (fD s t)).length ≤ pre.length * 22500 := flat_len _ 22500 pre fun x hx => Nat.le_trans (flat_len _ 225 cs fun t _ => row_len x (by rw [hi]; exact List.mem_append_left _ hx) t) (by omega)
    refine ⟨f2.pin rfl, ?_⟩
    refine for_list (enc := tS) (l := cs) (evi_seq (d := .tuple (cs.map tS)) (o := .fz (.tuple (cs.map tS))) (ev_bin (ev_var rfl) ev_c rfl rfl rfl) rfl rfl) (fun pre2 e => ∃ s3, fr s3 ∧ e = [.fz (hD ks cs), .ow false (.list ((pre.flatMap fun s => cs.flatMap fun t => (fk s t).map (fD s t)) ++ pre2.flatMap fun t => (fk s t).map (fD s t))), .fz (tS s), s3]) ⟨_, f3, by simp⟩ ?_ ?_
    · rintro pre2 t post2 e E2 hi2 ⟨s3, f3, rfl⟩ nx2 _ _ _
      have ht : t ∈ cs := by rw [hi2]; simp
      have l2 : pre2.length + 1 ≤ 100 := by
        have := congrArg List.length hi2
        rw [List.length_append, List.length_cons] at this
        omega
      have pl2 : (pre2.flatMap fun t => (fk s t).map (fD s t)).length ≤ pre2.length * 225 := flat_len _ 225 pre2 fun t _ => row_len s hs t
      refine ⟨f3.pin rfl, ?_⟩
      refine st_drop (o := .fz .none) (ev_mut rfl (ev_cons (ev_call (o := .nw (.list ((fk s t).map (fD s t)))) (args := [.fz (tS s), .fz (tS t)]) (args' := [.fz (tS s), .fz (tS t)]) (ev_cons (ev_var rfl) (ev_cons (ev_var rfl) ev_nil)) rfl (by simp [alsO]) (fun R hR => ⟨s, t, h.cms hs, h.cms ht, h.cln hs, rfl, hR⟩) rfl rfl) ev_nil) rfl rfl (extend_ok ?_) rfl) (nx2 _ ⟨.fz (tS t), fr.fz, ?_⟩)
      · have := row_len s hs t
        rw [List.length_append]
        show _ ≤ 2 ^ 24
        omega
      · rw [List.flatMap_append, ← List.append_assoc, List.flatMap_cons, List.flatMap_nil, List.append_nil]
        rfl
    · rintro e ⟨s3, f3, rfl⟩
      refine nx1 _ ⟨.fz (tS s), s3, fr.fz, f3, ?_⟩
      rw [List.flatMap_append (xs := pre)]
      simp
  · rintro e ⟨s2, s3, f2, f3, rfl⟩
    dsimp only
    refine (show sFrz 1 _ _ _ from ?_)
    unfold sFrz
    dsimp only [List.getElem?_cons_succ, List.getElem?_cons_zero]
    exact st_ret (ev_B (ev_cons (ev_var rfl) ev_nil) rfl (sorted_ok (fks_sort (fks_of h h.nms)))) ⟨_, rfl, hR⟩
theorem forks_nil {cs : List (List Str)} : (sortD (forksL cs)).isEmpty = (forksL cs).isEmpty := by
  have := (sortD_perm (forksL cs)).length_eq
  rw [Bool.eq_iff_iff, List.isEmpty_iff, List.isEmpty_iff, ← List.length_eq_zero_iff, ← List.length_eq_zero_iff, this]
theorem serves_is_nested : Serves N_is_nested ps_is_nested t_is_nested sp_is_nested := by
  rintro args R ⟨ks, cs, h, rfl, hR⟩
  refine ⟨rfl, rfl, ?_⟩
  refine st_ret (o := .fz (.bool (forksL cs).isEmpty)) (ev_bin (ev_call (o := .nw (.list (sortD (forksL cs)))) (args := [.fz (hD ks cs)]) (args' := [.fz (hD ks cs)]) (ev_cons (ev_var rfl) ev_nil) rfl (by simp [alsO]) (fun R hR => ⟨ks, cs, h, rfl, hR⟩) rfl rfl) (ev_lst ev_nil rfl (by decide)) rfl rfl ?_) ⟨_, rfl, hR⟩
  rw [eq_nil (fun d hd => ⟨(Sh.forks h hd).1, Nat.le_trans (Sh.forks h hd).2 (by decide)⟩), forks_nil]
theorem ev_back {te : DT} {env e1 : SEnv} {o z : O} (h : Ev te env o e1) (g : gBack o e1 = some z) : Ev (dBack te) env z e1 := fun Q q => h _ ⟨z, g, q⟩
theorem serves__law_parted : Serves N__law_parted ps__law_parted t__law_parted sp__law_parted := by
  rintro args R ⟨ks, cs, s, t, kk, fs, h, hs, ht, hp, hl, rfl, hR⟩
  refine ⟨rfl, rfl, ?_⟩
  have hsp := srt_perm ks
  have snd : (srt ks).Nodup := hsp.nodup_iff.mpr h.nd
  have ok2 : ∀ {a b : Deed}, okD ks cs a → okD ks cs b → ∀ d ∈ [a, b], okD ks cs d := fun ha hb d hd => by
    simp only [List.mem_cons, List.not_mem_nil, or_false] at hd
    rcases hd with rfl | rfl
    · exact ha
    · exact hb
  have hcs : okD ks cs (.call s) := hs
  have hct : okD ks cs (.call t) := ht
  unfold t__law_parted
  ((try dsimp only); refine st_seq ?_)
  refine st_setF (o := .fz (stD [.call s, .call t])) (ev_tup (ev_cons (ev_tup (ev_cons ev_c (ev_cons (ev_var rfl) ev_nil)) rfl (by show 2 ≤ 2 ^ 24; decide)) (ev_cons (ev_tup (ev_cons ev_c (ev_cons (ev_var rfl) ev_nil)) rfl (by show 2 ≤ 2 ^ 24; decide)) ev_nil)) rfl (by show 2 ≤ 2 ^ 24; decide)) rfl rfl ?_
  ((try dsimp only); refine st_seq ?_)
  refine for_list (enc := amD kk) (l := fs) (evi_seq (d := .list (fs.map (amD kk))) (o := .fz (.list (fs.map (amD kk)))) (ev_var rfl) rfl rfl) (fun pre e => (∀ f ∈ pre, alikeOn ks (.call s) (.call t) f = true) ∧ ∃ s5, fr s5 ∧ e = [.fz (hD ks cs), .fz (tS s), .fz (tS t), .fz (.list (fs.map (amD kk))), .fz (stD [.call s, .call t]), s5]) ⟨by simp, _, fr.un, rfl⟩ ?_ ?_
  · rintro pre f post e E1 hi ⟨hpre, s5, f5, rfl⟩ nx _ _ hrt
    refine ⟨f5.pin rfl, ?_⟩
    have act : ∀ {a b : Deed} {ta : DA}, okD ks cs a → okD ks cs b → EvA ta [.fz (hD ks cs), .fz (tS s), .fz (tS t), .fz (.list (fs.map (amD kk))), .fz (stD [.call s, .call t]), .fz (amD kk f)] [.fz (hD ks cs), .fz (stD [a, b]), .fz (amD kk f)] [.fz (hD ks cs), .fz (tS s), .fz (tS t), .fz (.list (fs.map (amD kk))), .fz (stD [.call s, .call t]), .fz (amD kk f)] →
        Ev (dBin gIx (dCall sp__law_acted ta) (dC (.int 0))) [.fz (hD ks cs), .fz (tS s), .fz (tS t), .fz (.list (fs.map (amD kk))), .fz (stD [.call s, .call t]), .fz (amD kk f)] (.fz (amD (srt ks) (acts f [a, b]))) [.fz (hD ks cs), .fz (tS s), .fz (tS t), .fz (.list (fs.map (amD kk))), .fz (stD [.call s, .call t]), .fz (amD kk f)] := fun {a b ta} ha hb ev =>
      ev_bin (a := .tuple [amD (srt ks) (acts f [a, b]), .list ((tooks f [a, b]).map oD)]) (ev_call (args := [.fz (hD ks cs), .fz (stD [a, b]), .fz (amD kk f)]) (args' := [.fz (hD ks cs), .fz (stD [a, b]), .fz (amD kk f)]) ev rfl (by simp [alsO]) (fun R hR => ⟨ks, cs, kk, [a, b], f, h, hp, ok2 ha hb, by show 2 ≤ 300; decide, rfl, hR⟩) rfl rfl) ev_c rfl rfl rfl
    refine st_if (b := !alikeOn ks (.call s) (.call t) f) (evt_val (ev_bin (act hcs hct (ev_cons (ev_var rfl) (ev_cons (ev_var rfl) (ev_cons (ev_var rfl) ev_nil)))) (act hct hcs (ev_cons (ev_var rfl) (ev_cons (ev_back (ev_var rfl) rfl) (ev_cons (ev_var rfl) ev_nil)))) rfl rfl ?_)) (fun hb => ?_) (fun hb => ?_)
    · rw [ne_am snd, perm_all hsp]; rfl
    · refine st_ret (ev_var rfl) ?_
      rw [hrt]
      refine ⟨_, rfl, ?_⟩
      have : fs.find? (fun f => !alikeOn ks (.call s) (.call t) f) = some f := by
        rw [hi, List.find?_append, List.find?_eq_none.mpr fun x hx => by rw [hpre x hx]; decide]
        rw [List.find?_cons, hb]; rfl
      rw [this] at hR
      exact hR
    · refine nx _ ⟨fun x hx => ?_, _, fr.fz, rfl⟩
      rcases List.mem_append.mp hx with hx | hx
      · exact hpre x hx
      · rw [List.mem_singleton.mp hx]; simpa using hb
  · rintro e ⟨hall, s5, f5, rfl⟩
    dsimp only
    have : fs.find? (fun f => !alikeOn ks (.call s) (.call t) f) = none := List.find?_eq_none.mpr fun x hx => by rw [hall x hx]; decide
    rw [this] at hR
    exact st_ret ev_c ⟨_, rfl, hR⟩
end G16
end
section
set_option Elab.async false
set_option linter.all false
set_option maxRecDepth 100000
/-! M16b: the order of calls; what is shown of amounts; drawn amounts. -/
namespace G16
open PySem DL
open G G21

theorem toks_inj : ∀ s t : List Str, PySem.W.keyToksAll (s.map .str) = PySem.W.keyToksAll (t.map .str) → s = t
  | [], [], _ => rfl
  | [], y :: t, h => by
    simp only [List.map_nil, List.map_cons, PySem.W.keyToksAll] at h
    have := List.cons.inj h
    exact absurd this.1 (by simp)
  | x :: s, [], h => by
    simp only [List.map_nil, List.map_cons, PySem.W.keyToksAll] at h
    have := List.cons.inj h
    exact absurd this.1 (by simp)
  | x :: s, y :: t, h => by
    simp only [List.map_cons, PySem.W.keyToksAll, PySem.W.keyToks, List.cons_append, List.nil_append] at h
    have h1 := List.cons.inj h
    have h2 := List.cons.inj h1.2
    rw [toks_inj s t h2.2, PySem.W.str_of_cps (Sum.inr.inj h2.1)]
/-- one call before another -/
def cLt (s t : List Str) : Bool := PySem.W.dataLt (tS s) (tS t)
theorem cLt_tot {s t : List Str} (h1 : cLt s t = false) (h2 : cLt t s = false) : s = t := by
  unfold cLt at h1 h2
  rw [PySem.W.dataLt_tuple] at h1 h2
  exact toks_inj s t (PyProof.Rows.lex_total _ _ h1 h2)
theorem cLt_irr (s : List Str) : cLt s s = false := PyProof.Rows.lex_irrefl _
theorem lt_calls {s t : List Str} (hs : Nms s) (ht : Nms t) : gLt (tS s) (tS t) = some (.fz (.bool (cLt s t))) := by
  show (if PySem.W.alike (tS s) (tS t) && SeqAt.shaped (tS s) && SeqAt.shaped (tS t) && !isNoneX (tS s) then some (O.fz (.bool (PySem.W.dataLt (tS s) (tS t)))) else none) = _
  have : PySem.W.alike (tS s) (tS t) = true := by
    show PySem.W.alike (.tuple _) (.tuple _) = true
    simp only [PySem.W.alike]
    exact alike_strs s t
  rw [this, (Sh.tS hs).shaped, (Sh.tS ht).shaped]
  rfl
/-! amounts up to a thousand millions, shown -/
theorem txI {i : Int} (h : 0 ≤ i ∧ i ≤ 1000000000) : (PyData.shown (.int i)).length ≤ 10 := by
  simp only [PyData.shown]
  exact PyProof.Rows.toString_length_le h.1 (by decide) (by omega)
theorem showI {i : Int} (h : 0 ≤ i ∧ i ≤ 1000000000) : PyData.showable (.int i) = true := by
  simp only [PyData.showable, decide_eq_true_eq]
  by_cases h0 : i.natAbs = 0
  · rw [h0]; decide
  · have := (Nat.log2_lt h0).mpr (show i.natAbs < 2 ^ 30 by omega)
    omega
/-- texts of a length -/
theorem len_join {n : Nat} : ∀ {ts : List Str}, (∀ t ∈ ts, t.length ≤ n) → (Str.join ", " ts).length ≤ ts.length * (n + 2)
  | [], _ => Nat.zero_le _
  | [x], h => Nat.le_trans (h x List.mem_cons_self) (by simp)
  | x :: y :: r, h => by
    have ih := len_join (ts := y :: r) fun t ht => h t (List.mem_cons_of_mem _ ht)
    have hx := h x List.mem_cons_self
    show (x ++ ", " ++ Str.join ", " (y :: r)).length ≤ _
    rw [Str.length_append, Str.length_append]
    have : (", " : Str).length = 2 := by decide +kernel
    simp only [List.length_cons, Nat.add_mul, Nat.one_mul] at ih ⊢
    omega
theorem len_am {ks : List Str} {f : Am} (hk : ∀ k ∈ ks, k ∈ menu) (hf : ∀ k ∈ ks, 0 ≤ f k ∧ f k ≤ 1000000000) : (amD ks f).shown.length ≤ ks.length * 22 + 2 := by
  show (PyData.shown (.dict _)).length ≤ _
  simp only [PyData.shown]
  rw [shownKv_map]
  have := len_join (n := 20) (ts := ks.map fun k => (PyData.str k).shown ++ ": " ++ (PyData.int (f k)).shown) (fun t ht => by
    obtain ⟨k, hk', rfl⟩ := List.mem_map.mp ht
    have h1 : (PyData.shown (.str k)).length ≤ 8 := by simp only [PyData.shown]; exact (menu_tx k (hk k hk')).2
    have h2 : (": " : Str).length = 2 := by decide +kernel
    have h3 := txI (hf k hk')
    rw [Str.length_append, Str.length_append]
    omega)
  rw [List.length_map] at this
  unfold dictText
  rw [Str.length_append, Str.length_append]
  have h1 : ("{" : Str).length = 1 := by decide +kernel
  have h2 : ("}" : Str).length = 1 := by decide +kernel
  simp only at this ⊢
  omega
theorem show_am {ks : List Str} {f : Am} (hf : ∀ k ∈ ks, 0 ≤ f k ∧ f k ≤ 1000000000) : (amD ks f).showable = true := by
  show PyData.showable (.dict _) = true
  simp only [PyData.showable]
  exact showableKv_of fun q hq => by
    obtain ⟨k, hk, rfl⟩ := List.mem_map.mp hq
    exact ⟨by simp [PyData.showable], showI (hf k hk)⟩
theorem eq_self_am {ks : List Str} {f : Am} (n : Nat) (hn : ks.Nodup) : eqX (n + 2) (amD ks f) (amD ks f) = some true := by
  rw [eqX_am n hn]
  congr 1
  rw [List.all_eq_true]
  simp
theorem okx_two {ks : List Str} {f g : Am} (hn : ks.Nodup) (hk : ∀ k ∈ ks, k ∈ menu) (hl : ks.length ≤ 1000) (hf : ∀ k ∈ ks, 0 ≤ f k ∧ f k ≤ 1000000000) (hg : ∀ k ∈ ks, 0 ≤ g k ∧ g k ≤ 1000000000) : Okx (.list [amD ks f, amD ks g]) := by
  have sh : SeqAt.shaped (.list [amD ks f, amD ks g]) = false := by
    unfold SeqAt.shaped
    simp [PyData.canLay0, PyData.canLayAll0]
  constructor
  · show (if SeqAt.shaped (.list [amD ks f, amD ks g]) && SeqAt.shaped (.list [amD ks f, amD ks g]) then some (O.fz (.bool (PyData.eqv (.list [amD ks f, amD ks g]) (.list [amD ks f, amD ks g])))) else (eqX 9 (.list [amD ks f, amD ks g]) (.list [amD ks f, amD ks g])).map fun c => O.fz (.bool c)) = _
    have : eqX 9 (.list [amD ks f, amD ks g]) (.list [amD ks f, amD ks g]) = some true := by
      unfold eqX
      rw [sh]
      simp only [Bool.false_and, Bool.false_eq_true, if_false, if_true, List.zipWith_cons_cons, List.zipWith_nil_left]
      rw [eq_self_am 6 hn, eq_self_am 6 hn]
      rfl
    rw [sh, this]
    rfl
  · have h1 : PyData.showable (.list [amD ks f, amD ks g]) = true := by
      simp only [PyData.showable]
      refine showableAll_of fun d hd => ?_
      simp only [List.mem_cons, List.not_mem_nil, or_false] at hd
      rcases hd with rfl | rfl
      · exact show_am hf
      · exact show_am hg
    have h2 : PyData.depth (.list [amD ks f, amD ks g]) ≤ 64 := by
      have a := depth_am (ks := ks) (f := f)
      have b := depth_am (ks := ks) (f := g)
      simp only [PyData.depth, PyData.depthAll] at a b ⊢
      omega
    have h3 : (PyData.shown (.list [amD ks f, amD ks g])).length ≤ sizeLine := by
      have a := len_am hk hf
      have b := len_am hk hg
      have e : PyData.shown (.list [amD ks f, amD ks g]) = (("[" : Str) ++ ((if 0 > 0 then ", " else "" : String) : Str) ++ (amD ks f).shown ++ ((if 1 > 0 then ", " else "" : String) : Str) ++ (amD ks g).shown ++ "]") := by
        show PyData.shown (.list _) = _
        simp only [PyData.shown, PyData.shownAll]
        rfl
      rw [e]
      simp only [Str.length_append]
      have c1 : ("[" : Str).length = 1 := by decide +kernel
      have c2 : ("]" : Str).length = 1 := by decide +kernel
      have c3 : ((if 0 > 0 then ", " else "" : String) : Str).length = 0 := by decide +kernel
      have c4 : ((if 1 > 0 then ", " else "" : String) : Str).length = 2 := by decide +kernel
      show _ ≤ 2 ^ 24
      omega
    unfold gRepr
    dsimp only
    rw [sh, h1, decide_eq_true h2, decide_eq_true h3]
    rfl
/-! amounts drawn -/
theorem drawn {most : Int} : ∀ {kk : List Str} {xs : List D}, Picks (fun x y => ∃ v : Int, (0 ≤ v ∧ v ≤ most) ∧ y = .tuple [x, .int v]) false (kk.map .str) xs → ∃ vs : List Int, vs.length = kk.length ∧ (∀ v ∈ vs, 0 ≤ v ∧ v ≤ most) ∧ xs = zipD (kk.map .str) (vs.map .int) := by
  intro kk
  induction kk with
  | nil => intro xs h; cases h; exact ⟨[], rfl, by simp, rfl⟩
  | cons k kk ih =>
    intro xs h
    cases h with
    | take h1 h2 =>
      obtain ⟨v, hv, rfl⟩ := h1
      obtain ⟨vs, e1, e2, rfl⟩ := ih h2
      exact ⟨v :: vs, by rw [List.length_cons, List.length_cons, e1], fun w hw => (List.mem_cons.mp hw).elim (fun e => e ▸ hv) (e2 w), rfl⟩
    | skip h1 _ => cases h1
theorem ofVec_rg {kk : List Str} {vs : List Int} {most : Int} (h0 : 0 ≤ most) (hv : ∀ v ∈ vs, 0 ≤ v ∧ v ≤ most) (k : Str) : 0 ≤ ofVec kk vs k ∧ ofVec kk vs k ≤ most := by
  unfold ofVec
  rw [List.getD_eq_getElem?_getD]
  cases e : vs[kk.idxOf k]? with
  | none => exact ⟨Int.le_refl 0, h0⟩
  | some v => exact hv v (List.mem_of_getElem? e)
theorem serves__law_amounts : Serves N__law_amounts ps__law_amounts t__law_amounts sp__law_amounts := by
  rintro args R ⟨d, ks, cs, most, bd, h, h1, h2, rfl, hR⟩
  refine ⟨rfl, rfl, ?_⟩
  have hl := h.ln
  unfold t__law_amounts
  ((try dsimp only); refine st_seq ?_)
  refine u_setF (mixed_ev (i := 0) (ds := ks.map .str) (o := .nw (.list (ks.map .str))) (ev_cons (ev_own rfl) (ev_cons (ev_B (ev_cons (ev_bin (ev_var rfl) ev_c rfl rfl rfl) ev_nil) rfl rfl) ev_nil)) rfl bd (.inr rfl) rfl (by rw [List.length_map]; omega) fun ds' d1 hp b1 => ⟨_, rfl, rfl, ?_⟩)
  have he := strs_perm hp
  have hq := hp.map unStr
  rw [List.map_map, show (unStr ∘ PyData.str) = id from rfl, List.map_id] at hq
  generalize ds'.map unStr = kk at he hq
  subst he
  have kn : kk.Nodup := hq.nodup_iff.mpr h.nd
  have kl : kk.length ≤ 15 := by rw [hq.length_eq]; exact hl
  dsimp only
  refine u_ret (u_B (u_cons ?_))
  refine lc_draw (rest := [.fz (hD ks cs), .fz (.int most), .fz (.list (kk.map .str)), .un]) (j := 3) (fun x y => ∃ v : Int, (0 ≤ v ∧ v ≤ most) ∧ y = .tuple [x, .int v]) false fr.un rfl (evi_seq (d := .list (kk.map .str)) (o := .fz (.list (kk.map .str))) (ev_var rfl) rfl rfl) (by rw [List.length_map]; show _ ≤ 2 ^ 24; omega) b1 (fun x hx d2 Y N b2 hY _ => ?_) (fun xs d2 hpk b2 => ?_)
  · unfold bYes
    dsimp only
    rw [if_pos rfl]
    refine u_tup (u_cons (ev_var rfl _ (u_cons (u_call (u_cons (ev_own rfl _ (u_cons (one_ev (i := 0) (ds := [.int (most + 1), .int 2, .int 1, .int (most + 1)]) (o := .nw (.list [.int (most + 1), .int 2, .int 1, .int (most + 1)])) (ev_cons (ev_own rfl) (ev_cons (ev_lst (ev_cons (ev_bin (ev_var rfl) ev_c rfl rfl rfl) (ev_cons ev_c (ev_cons ev_c (ev_cons (ev_bin (ev_var rfl) ev_c rfl rfl rfl) ev_nil)))) rfl (by show 4 ≤ 2 ^ 24; decide)) ev_nil)) rfl b2 (.inr rfl) rfl (by simp) (by show 4 < 2 ^ 24; decide) fun y d3 hy b3 => ?_))))))))
    have : ∃ n : Int, 1 ≤ n ∧ n ≤ most + 1 ∧ y = .int n := by
      simp only [List.mem_cons, List.not_mem_nil, or_false] at hy
      rcases hy with rfl | rfl | rfl | rfl
      · exact ⟨_, by omega, Int.le_refl _, rfl⟩
      · exact ⟨2, by decide, by omega, rfl⟩
      · exact ⟨1, by decide, by omega, rfl⟩
      · exact ⟨_, by omega, Int.le_refl _, rfl⟩
    obtain ⟨n, n1, n2, rfl⟩ := this
    refine u_nil ⟨[.ow true d3, .fz (.int n)], rfl, by simp [alsO], d3, n, b3, by omega, by omega, rfl, fun r d4 r1 r2 b4 => ⟨rfl, u_nil ⟨[x, .int r], rfl, by show 2 ≤ 2 ^ 24; decide, ?_⟩⟩⟩
    exact ⟨_, rfl, hY _ d4 ⟨r, ⟨r1, by omega⟩, rfl⟩ b4⟩
  · obtain ⟨vs, e1, e2, rfl⟩ := drawn hpk
    refine u_nil ⟨_, .nw (amD kk (ofVec kk vs)), rfl, ?_, _, rfl, hR kk (ofVec kk vs) d2 hq (ofVec_rg (by omega) e2) b2⟩
    rw [zip_vec kk vs kn e1]
    exact dict_am kn
end G16
end
section
set_option Elab.async false
set_option linter.all false
set_option maxRecDepth 100000
/-! M16c: is a couple of calls right. -/
namespace G16
open PySem DL
open G G21

theorem call_rg {f : Am} {c : List Str} {ks : List Str} {M : Int} (h : ∀ k ∈ ks, 0 ≤ f k ∧ f k ≤ M) : ∀ k ∈ ks, 0 ≤ act1 f (.call c) k ∧ act1 f (.call c) k ≤ M := fun k hk => by
  show 0 ≤ less f (takes f c) k ∧ less f (takes f c) k ≤ M
  have := h k hk
  cases e : takes f c with
  | none => exact this
  | some y =>
    rw [less_at]
    split
    · rename_i z
      subst z
      unfold takes at e
      have := List.find?_some e
      simp only [decide_eq_true_eq] at this
      omega
    · exact this
theorem calls_rg {f : Am} {s t : List Str} {ks : List Str} {M : Int} (h : ∀ k ∈ ks, 0 ≤ f k ∧ f k ≤ M) : ∀ k ∈ ks, 0 ≤ acts f [.call s, .call t] k ∧ acts f [.call s, .call t] k ≤ M := call_rg (f := act1 f (.call s)) (call_rg h)
theorem alikeOn_comm {ks : List Str} {a b : Deed} {f : Am} : alikeOn ks a b f = alikeOn ks b a f := by
  unfold alikeOn
  rw [Bool.eq_iff_iff, List.all_eq_true, List.all_eq_true]
  simp only [beq_iff_eq]
  exact ⟨fun h k hk => (h k hk).symm, fun h k hk => (h k hk).symm⟩
theorem two_apart {n m : Nat} {ks : List Str} {cs : List (List Str)} {a b : List Str} (h : House n m ks cs) (ha : a ∈ cs) (hb : b ∈ cs) {p : Str × Str} (hp : p ∈ fk a b) : alikeOn ks (.call a) (.call b) (two p.1 p.2) = false := by
  have := fork_parts (h.ord a ha) (h.ord b hb) hp
  rw [← Bool.not_eq_true]
  intro z
  unfold alikeOn at z
  rw [List.all_eq_true] at z
  have hk := z p.2 (h.cin a ha _ (fk_in hp).2)
  rw [this.1, this.2] at hk
  cases hk
theorem actd_ev {env : SEnv} {ta : DA} {ks : List Str} {cs : List (List Str)} {kk : List Str} {f : Am} {a b : Deed} (h : House 15 100 ks cs) (ha : okD ks cs a) (hb : okD ks cs b) (hp : kk.Perm ks) (ev : EvA ta env [.fz (hD ks cs), .fz (stD [a, b]), .fz (amD kk f)] env) : Ev (dCall sp_acted ta) env (.nw (amD (srt ks) (acts f [a, b]))) env :=
  ev_call (args := [.fz (hD ks cs), .fz (stD [a, b]), .fz (amD kk f)]) (args' := [.fz (hD ks cs), .fz (stD [a, b]), .fz (amD kk f)]) ev rfl (by simp [alsO]) (fun R hR => ⟨ks, cs, kk, [a, b], f, h, hp, fun d hd => by
    simp only [List.mem_cons, List.not_mem_nil, or_false] at hd
    rcases hd with rfl | rfl
    · exact ha
    · exact hb, by show 2 ≤ 300; decide, rfl, hR⟩) rfl rfl
theorem lawd_ev {env : SEnv} {ta : DA} {ks : List Str} {cs : List (List Str)} {kk : List Str} {f : Am} {a b : Deed} (h : House 15 100 ks cs) (ha : okD ks cs a) (hb : okD ks cs b) (hp : kk.Perm ks) (ev : EvA ta env [.fz (hD ks cs), .fz (stD [a, b]), .fz (amD kk f)] env) : Ev (dBin gIx (dCall sp__law_acted ta) (dC (.int 0))) env (.fz (amD (srt ks) (acts f [a, b]))) env :=
  ev_bin (a := .tuple [amD (srt ks) (acts f [a, b]), .list ((tooks f [a, b]).map oD)]) (ev_call (args := [.fz (hD ks cs), .fz (stD [a, b]), .fz (amD kk f)]) (args' := [.fz (hD ks cs), .fz (stD [a, b]), .fz (amD kk f)]) ev rfl (by simp [alsO]) (fun R hR => ⟨ks, cs, kk, [a, b], f, h, hp, fun d hd => by
    simp only [List.mem_cons, List.not_mem_nil, or_false] at hd
    rcases hd with rfl | rfl
    · exact ha
    · exact hb, by show 2 ≤ 300; decide, rfl, hR⟩) rfl rfl) ev_c rfl rfl rfl
/-- what parts two calls among these -/
def pt (ks kk : List Str) (s t : List Str) (fs : List Am) : D := match fs.find? fun f => !alikeOn ks (.call s) (.call t) f with
  | none => .none
  | some f => amD kk f
theorem pt_none {ks kk s t : List Str} {fs : List Am} : isNoneD (pt ks kk s t fs) = fs.all (alikeOn ks (.call s) (.call t)) := by
  unfold pt
  cases e : fs.find? fun f => !alikeOn ks (.call s) (.call t) f with
  | none =>
    have := List.find?_eq_none.mp e
    show true = _
    symm
    rw [List.all_eq_true]
    intro f hf
    simpa using this f hf
  | some f =>
    have h1 := List.find?_some e
    have h2 := List.mem_of_find?_eq_some e
    show false = _
    symm
    rw [← Bool.not_eq_true]
    intro z
    rw [List.all_eq_true] at z
    rw [z f h2] at h1
    cases h1
theorem part_ev {env : SEnv} {ta : DA} {os : List O} {ks : List Str} {cs : List (List Str)} {kk s t : List Str} {fs : List Am} (h : House 15 100 ks cs) (hs : s ∈ cs) (ht : t ∈ cs) (hp : kk.Perm ks) (hl : fs.length ≤ 2 ^ 16) (ev : EvA ta env os env) (ha : argsS env os = some [.fz (hD ks cs), .fz (tS s), .fz (tS t), .fz (.list (fs.map (amD kk)))]) (hn : alsO os = []) :
    Ev (dCall sp__law_parted ta) env (.fz (pt ks kk s t fs)) env :=
  ev_call (args := [.fz (hD ks cs), .fz (tS s), .fz (tS t), .fz (.list (fs.map (amD kk)))]) (args' := [.fz (hD ks cs), .fz (tS s), .fz (tS t), .fz (.list (fs.map (amD kk)))]) ev ha (by rw [hn]; exact List.nodup_nil) (fun R hR => ⟨ks, cs, s, t, kk, fs, h, hs, ht, hp, hl, rfl, by
    unfold pt at hR
    cases e : fs.find? fun f => !alikeOn ks (.call s) (.call t) f with
    | none => rw [e] at hR; exact hR
    | some f => rw [e] at hR; exact hR⟩) rfl (G.back_fz hn)
theorem pow9 : gPow (.int 10) (.int 9) = some (.fz (.int 1000000000)) := by
  show (if decide ((0 : Int) ≤ 9 ∧ (9 : Int) ≤ 1000000 ∧ (10 : Int).natAbs < 2 ^ 64) = true then some (O.fz (PyData.int ((10 : Int) ^ (9 : Int).toNat))) else none) = _
  rw [if_pos (by decide)]
  rfl
theorem stD_ev {env : SEnv} {s t : List Str} {i j : Nat} (hi : env[i]? = some (.fz (tS s))) (hj : env[j]? = some (.fz (tS t))) : Ev (dTup (aCons (dTup (aCons (dC (.str "call")) (aCons (dVar i) aNil))) (aCons (dTup (aCons (dC (.str "call")) (aCons (dVar j) aNil))) aNil))) env (.fz (stD [.call s, .call t])) env :=
  ev_tup (ev_cons (ev_tup (ev_cons ev_c (ev_cons (ev_var hi) ev_nil)) rfl (by show 2 ≤ 2 ^ 24; decide)) (ev_cons (ev_tup (ev_cons ev_c (ev_cons (ev_var hj) ev_nil)) rfl (by show 2 ≤ 2 ^ 24; decide)) ev_nil)) rfl (by show 2 ≤ 2 ^ 24; decide)
theorem lcy_go {α : Type} {enc : α → D} {e1 : SEnv} {te : DT} {i : Nat} {l : List α} (hl : l.length ≤ sizeLine) (no : notOw [i] e1 = true) (f : α → D)
    (he : ∀ x ∈ l, ∃ o, Ev te (e1.set i (.fz (enc x))) o (e1.set i (.fz (enc x))) ∧ o.val = some (f x)) (K : List D → SEnv → Prop) (q : K (l.map f) e1) : (l.map enc).length ≤ sizeLine ∧ lcGo [i] none (l.map enc) (gN i) bYes te (l.map enc) [] e1 K :=
  ⟨by rw [List.length_map]; exact hl, lcGo_l (al := none) trivial no (fun _ => true) f l [] K (turn_l no _ f (fun _ _ => evt_yes) (fun x hx _ => he x hx)) (by rw [List.filter_eq_self.mpr (fun _ _ => rfl)]; exact q)⟩
theorem serves__law_couple_right : Serves N__law_couple_right ps__law_couple_right t__law_couple_right sp__law_couple_right := by
  rintro args R ⟨b, ks, cs, s, t, fs, most, bd, h6, hs, ht, m1, m2, hf, hb, rfl, hR⟩
  refine ⟨rfl, rfl, ?_⟩
  have h : House 15 100 ks cs := h6.mono (by decide) (by decide)
  have hsp := srt_perm ks
  have snd : (srt ks).Nodup := hsp.nodup_iff.mpr h.nd
  have sin : ∀ {k : Str}, k ∈ srt ks ↔ k ∈ ks := hsp.mem_iff
  have sl : (srt ks).length ≤ 15 := by rw [hsp.length_eq]; exact h.ln
  have smn : ∀ k ∈ srt ks, k ∈ menu := fun k hk => h.mn k (sin.mp hk)
  have kl := h.ln
  have hcs : okD ks cs (.call s) := hs
  have hct : okD ks cs (.call t) := ht
  have ns := h.cms hs
  have nt := h.cms ht
  unfold t__law_couple_right
  -- the forks of the two
  have e : (sortD (forksL cs)).map (fun d => d) = sortD (forksL cs) := List.map_id' _
  have key := ev_lcl (i := 15) (te := dVar 15) (tt := bVal (dBin (gIn false) (dSl (dVar 15) pNo (pAt (dC (.int 2)))) (dTup (aCons (dTup (aCons (dVar 2) (aCons (dVar 3) aNil))) (aCons (dTup (aCons (dVar 3) (aCons (dVar 2) aNil))) aNil))))) (ti := iSeq (dVar 4)) (env := [.ow true b, .fz (hD ks cs), .fz (tS s), .fz (tS t), .fz (.list (sortD (forksL cs))), .fz (.list (fs.map (amD ks))), .un, .un, .un, .un, .un, .un, .un, .un, .un, .un, .un]) (enc := fun d : D => d) (l := sortD (forksL cs)) (evi_seq (d := .list (sortD (forksL cs))) (o := .fz (.list (sortD (forksL cs)))) (ev_var rfl) rfl (by rw [e]; rfl)) trivial (by have := forks_len h; show _ ≤ 2 ^ 24; omega) rfl (ofTwo s t) (fun d => d) (fun d hd => by
      obtain ⟨s', t', p, hs', ht', hp, rfl⟩ := forks_mem.mp hd
      refine evt_val (ev_bin (a := .tuple [tS s', tS t']) (ev_sl (ev_var rfl) ev_no (ev_at ev_c) rfl) (ev_tup (ev_cons (ev_tup (ev_cons (ev_var rfl) (ev_cons (ev_var rfl) ev_nil)) rfl (by show 2 ≤ 2 ^ 24; decide)) (ev_cons (ev_tup (ev_cons (ev_var rfl) (ev_cons (ev_var rfl) ev_nil)) rfl (by show 2 ≤ 2 ^ 24; decide)) ev_nil)) rfl (by show 2 ≤ 2 ^ 24; decide)) rfl rfl ?_)
      show (if SeqAt.shaped (.tuple [tS s', tS t']) && SeqAt.shaped (.tuple [.tuple [tS s, tS t], .tuple [tS t, tS s]]) then some (O.fz (.bool (([.tuple [tS s, tS t], .tuple [tS t, tS s]] : List D).any (fun z => PyData.eqv z (.tuple [tS s', tS t'])) != false))) else none) = _
      rw [(Sh.two (h.cms hs') (h.cms ht')).shaped, (Sh.tup (n := 2) (ds := [.tuple [tS s, tS t], .tuple [tS t, tS s]]) fun d hd => by
        simp only [List.mem_cons, List.not_mem_nil, or_false] at hd
        rcases hd with rfl | rfl
        · exact Sh.two ns nt
        · exact Sh.two nt ns).shaped]
      simp only [Bool.and_self, if_true, List.any_cons, List.any_nil, Bool.or_false, Bool.bne_false]
      rfl) (fun d hd _ => ⟨_, ev_var rfl, rfl⟩)
  rw [List.map_id'] at key
  ((try dsimp only); refine st_seq ?_)
  refine st_setF key rfl rfl ?_
  have mem : ∀ d ∈ (sortD (forksL cs)).filter (ofTwo s t), ∃ a c p, ((a = s ∧ c = t) ∨ (a = t ∧ c = s)) ∧ p ∈ fk a c ∧ d = fD a c p := fun d hd => by
    obtain ⟨hd1, hd2⟩ := List.mem_filter.mp hd
    obtain ⟨a, c, p, _, _, hp, rfl⟩ := forks_mem.mp hd1
    refine ⟨a, c, p, ?_, hp, rfl⟩
    have : (PyData.eqv (.tuple [tS s, tS t]) (.tuple [tS a, tS c]) || PyData.eqv (.tuple [tS t, tS s]) (.tuple [tS a, tS c])) = true := hd2
    rw [eqv_two, eqv_two, Bool.or_eq_true, decide_eq_true_eq, decide_eq_true_eq] at this
    rcases this with ⟨rfl, rfl⟩ | ⟨rfl, rfl⟩
    · exact .inl ⟨rfl, rfl⟩
    · exact .inr ⟨rfl, rfl⟩
  have mnil := ofTwo_nil hs ht
  have shp : ∀ d ∈ (sortD (forksL cs)).filter (ofTwo s t), Sh 63 d := fun d hd => ⟨(Sh.forks h (List.mem_filter.mp hd).1).1, Nat.le_trans (Sh.forks h (List.mem_filter.mp hd).1).2 (by decide)⟩
  generalize (sortD (forksL cs)).filter (ofTwo s t) = mine at mem mnil shp
  dsimp only [List.set_cons_succ, List.set_cons_zero]
  ((try dsimp only); refine st_seq ?_)
  refine part_ev (fs := fs) (kk := ks) h hs ht (.refl _) hf.2.1 (ev_cons (ev_var rfl) (ev_cons (ev_var rfl) (ev_cons (ev_var rfl) (ev_cons (ev_var rfl) ev_nil)))) rfl rfl _ (stD_ev rfl rfl _ ⟨_, _, rfl, rfl, rfl, rfl, ?_⟩)
  dsimp only
  change sFrz 7 _ [.ow true b, .fz (hD ks cs), .fz (tS s), .fz (tS t), .fz (.list (sortD (forksL cs))), .fz (.list (fs.map (amD ks))), .fz (.list mine), .fz (pt ks ks s t fs), .fz (stD [.call s, .call t]), .un, .un, .un, .un, .un, .un, .un, .un] _
  unfold sFrz
  dsimp only [List.getElem?_cons_succ, List.getElem?_cons_zero, List.set_cons_succ, List.set_cons_zero]
  ((try dsimp only); refine st_seq ?_)
  refine st_if (b := false) (evt_val (ev_bin (ev_bin (o := .fz (.bool (may (.call s) (.call t)))) (ev_var rfl) ev_c rfl rfl ?_) (ev_bin (ev_var rfl) (ev_lst ev_nil rfl (by decide)) rfl rfl (eq_nil shp)) rfl rfl ?_)) (fun z => by cases z) (fun _ => ?_)
  · show some (O.fz (.bool (isNoneD (pt ks ks s t fs) != false))) = _
    rw [pt_none, may_all h hcs hct m1 hf, Bool.bne_false]
  · rw [mnil]
    exact ne_self (n := 0) Sh.bool
  unfold sNext
  ((try dsimp only); refine st_seq ?_)
  refine for_inv (evi_seq (d := .list mine) (o := .fz (.list mine)) (ev_var rfl) rfl rfl) (fun pre e => ∃ b' s9 s10 s11 s12 s13, isBag b' ∧ fr s9 ∧ fr s10 ∧ fr s11 ∧ fr s12 ∧ fr s13 ∧ e = [.ow true b', .fz (hD ks cs), .fz (tS s), .fz (tS t), .fz (.list (sortD (forksL cs))), .fz (.list (fs.map (amD ks))), .fz (.list mine), .fz (pt ks ks s t fs), .fz (stD [.call s, .call t]), s9, s10, s11, s12, s13, .un, .un, .un]) ⟨b, .un, .un, .un, .un, .un, bd, fr.un, fr.un, fr.un, fr.un, fr.un, rfl⟩ ?_ ?_
  · rintro pre x post e E1 hi ⟨b, s9, s10, s11, s12, s13, bd, f9, f10, f11, f12, f13, rfl⟩ nx _ _ _
    obtain ⟨a, c, p, hac, hp, rfl⟩ := mem x (by rw [hi]; simp)
    have ha : a ∈ cs := by rcases hac with ⟨rfl, rfl⟩ | ⟨rfl, rfl⟩ <;> assumption
    have hc : c ∈ cs := by rcases hac with ⟨rfl, rfl⟩ | ⟨rfl, rfl⟩ <;> assumption
    have apart : alikeOn ks (.call s) (.call t) (two p.1 p.2) = false := by
      have := two_apart h ha hc hp
      rcases hac with ⟨rfl, rfl⟩ | ⟨rfl, rfl⟩
      · exact this
      · rw [alikeOn_comm]; exact this
    have o1 := h.cms ha _ (fk_in hp).1
    have o2 := h.cms ha _ (fk_in hp).2
    refine ⟨_, rfl, rfl, _, _, rfl, f9.pin rfl, _, _, rfl, f10.pin rfl, _, _, rfl, f11.pin rfl, _, _, rfl, f12.pin rfl, rfl, ?_⟩
    dsimp only [List.set_cons_succ, List.set_cons_zero]
    ((try dsimp only); refine st_seq ?_)
    refine u_setF (u_B (u_cons (u_seq (mixed_ev (i := 0) (ds := ks.map .str) (o := .fz (tS ks)) (ev_cons (ev_own rfl) (ev_cons (ev_bin (ev_var rfl) ev_c rfl rfl rfl) ev_nil)) rfl bd (.inl rfl) rfl (by rw [List.length_map]; omega) fun ds' b1 hpm bd1 => ⟨_, _, rfl, rfl, ?_⟩))))
    have he := strs_perm hpm
    have hq := hpm.map unStr
    rw [List.map_map, show (unStr ∘ PyData.str) = id from rfl, List.map_id] at hq
    generalize ds'.map unStr = kk at he hq
    subst he
    have kn : kk.Nodup := hq.nodup_iff.mpr h.nd
    have kkl : kk.length ≤ 15 := by rw [hq.length_eq]; exact h.ln
    refine lcy_go (enc := .str) (l := kk) (i := 16) (e1 := [.ow true b1, .fz (hD ks cs), .fz (tS s), .fz (tS t), .fz (.list (sortD (forksL cs))), .fz (.list (fs.map (amD ks))), .fz (.list mine), .fz (pt ks ks s t fs), .fz (stD [.call s, .call t]), .fz (tS a), .fz (tS c), .fz (.str p.1), .fz (.str p.2), s13, .un, .un, .un]) (by show _ ≤ 2 ^ 24; omega) rfl (fun k => .tuple [.str k, .int (two p.1 p.2 k)]) (fun k hk => ?_) _ (u_nil ⟨_, .nw (amD kk (two p.1 p.2)), rfl, dict_am kn, _, rfl, f13.pin rfl, ?_⟩)
    · refine ⟨_, ev_tup (ev_cons (ev_var rfl) (ev_cons (ev_B (ev_cons (ev_bin (a := .str k) (b := tS [p.1, p.2]) (ev_var rfl) (ev_tup (ev_cons (ev_var rfl) (ev_cons (ev_var rfl) ev_nil)) rfl (by show 2 ≤ 2 ^ 24; decide)) rfl rfl (in_t (neg := false) (h.nms k (hq.mem_iff.mp hk)) (fun x hx => ?_))) ev_nil) rfl rfl) ev_nil)) rfl (by show 2 ≤ 2 ^ 24; decide), ?_⟩
      · simp only [List.mem_cons, List.not_mem_nil, or_false] at hx
        rcases hx with rfl | rfl
        · exact o1
        · exact o2
      · show some (PyData.tuple [.str k, .int (if (decide (k ∈ [p.1, p.2]) != false) = true then 1 else 0)]) = _
        unfold two
        simp
    dsimp only [List.set_cons_succ, List.set_cons_zero]
    ((try dsimp only); refine st_seq ?_)
    refine st_if (b := false) (evt_val (ev_bin (actd_ev (f := two p.1 p.2) h hcs hct hq (ev_cons (ev_var rfl) (ev_cons (ev_var rfl) (ev_cons (ev_var rfl) ev_nil)))) (actd_ev (f := two p.1 p.2) h hct hcs hq (ev_cons (ev_var rfl) (ev_cons (ev_back (ev_var rfl) rfl) (ev_cons (ev_var rfl) ev_nil)))) rfl rfl ?_)) (fun z => by cases z) (fun _ => ?_)
    · rw [eq_am snd, perm_all hsp]
      exact congrArg (fun z => some (O.fz (.bool z))) apart
    dsimp only
    refine st_if (b := false) (evt_val (ev_bin (part_ev (fs := [two p.1 p.2]) (kk := kk) h hs ht hq (by show 1 ≤ 2 ^ 16; decide) (ev_cons (ev_var rfl) (ev_cons (ev_var rfl) (ev_cons (ev_var rfl) (ev_cons (ev_lst (ev_cons (ev_var rfl) ev_nil) rfl (by show 1 ≤ 2 ^ 24; decide)) ev_nil)))) rfl rfl) ev_c rfl rfl ?_)) (fun z => by cases z) (fun _ => ?_)
    · show some (O.fz (.bool (isNoneD (pt ks kk s t [two p.1 p.2]) != false))) = _
      rw [pt_none, List.all_cons, apart]; rfl
    exact nx _ ⟨b1, _, _, _, _, _, bd1, fr.fz, fr.fz, fr.fz, fr.fz, fr.fz, rfl⟩
  · rintro e ⟨b, s9, s10, s11, s12, s13, bd, f9, f10, f11, f12, f13, rfl⟩
    dsimp only
    ((try dsimp only); refine st_seq ?_)
    have ml : (fs.map (amD ks)).length < 2 ^ 20 := by rw [List.length_map]; have := hf.2.1; omega
    refine u_for (u_seq (u_bin (u_sl (mixed_ev (i := 0) (ds := fs.map (amD ks)) (o := .fz (.list (fs.map (amD ks)))) (ev_cons (ev_own rfl) (ev_cons (ev_var rfl) ev_nil)) rfl bd (.inl rfl) rfl ml fun ds1 b1 p1 bd1 => u_no (u_at (ev_c _ ⟨_, rfl, .nw (.list (cutD ds1 none (some ((2 : Nat) : Int)))), rfl, ?_⟩))))))
    refine u_lst (u_cons (u_call (u_cons (ev_own rfl _ (u_cons (ev_var rfl _ (u_cons ((ev_bin ev_c ev_c rfl rfl pow9) _ (u_nil ⟨[.ow true b1, .fz (hD ks cs), .fz (.int 1000000000)], rfl, by simp [alsO], b1, ks, cs, 1000000000, bd1, h, by decide, by decide, rfl, fun kk f b2 hk hfr bd2 => ⟨rfl, u_nil ⟨[amD kk f], rfl, by show 1 ≤ 2 ^ 24; decide, ?_⟩⟩⟩)))))))))
    have l1 : ds1.length = fs.length := by rw [p1.length_eq, List.length_map]
    rw [cut_to]
    refine ⟨_, _, _, rfl, rfl, add_lists ?_, _, _, rfl, rfl, rfl, ?_⟩
    · rw [List.length_take]; show _ + 1 ≤ 2 ^ 24; omega
    refine forGo_inv (fun pre e => ∃ s13 s14, fr s13 ∧ fr s14 ∧ e = [.ow true b2, .fz (hD ks cs), .fz (tS s), .fz (tS t), .fz (.list (sortD (forksL cs))), .fz (.list (fs.map (amD ks))), .fz (.list mine), .fz (pt ks ks s t fs), .fz (stD [.call s, .call t]), s9, s10, s11, s12, s13, s14, .un, .un]) ⟨_, _, f13, fr.un, rfl⟩ ?_ ?_
    · rintro pre x post e E1 hi ⟨s13, s14, f13, f14, rfl⟩ nx _ _ _
      have hx : ∃ kx fx, kx.Perm ks ∧ (∀ k ∈ ks, 0 ≤ fx k ∧ fx k ≤ 1000000000) ∧ x = amD kx fx := by
        have : x ∈ ds1.take 2 ++ [amD kk f] := by rw [hi]; simp
        rcases List.mem_append.mp this with hx | hx
        · obtain ⟨g, hg, rfl⟩ := List.mem_map.mp (p1.mem_iff.mp (List.mem_of_mem_take hx))
          exact ⟨ks, g, .refl _, fun k hk => by have := hb g hg k hk; omega, rfl⟩
        · rw [List.mem_singleton.mp hx]
          exact ⟨kk, f, hk, fun k _ => hfr k, rfl⟩
      obtain ⟨kx, fx, hkx, hfx, rfl⟩ := hx
      refine ⟨f13.pin rfl, ?_⟩
      dsimp only [List.set_cons_succ, List.set_cons_zero]
      ((try dsimp only); refine st_seq ?_)
      refine st_setF (o := .nw (.list [amD (srt ks) (acts fx [.call s, .call t]), amD (srt ks) (acts fx [.call t, .call s])])) (ev_lst (ev_cons (actd_ev (f := fx) h hcs hct hkx (ev_cons (ev_var rfl) (ev_cons (ev_var rfl) (ev_cons (ev_var rfl) ev_nil)))) (ev_cons (actd_ev (f := fx) h hct hcs hkx (ev_cons (ev_var rfl) (ev_cons (ev_back (ev_var rfl) rfl) (ev_cons (ev_var rfl) ev_nil)))) ev_nil)) rfl (by show 2 ≤ 2 ^ 24; decide)) rfl (f14.pin rfl) ?_
      have hfs : ∀ k ∈ srt ks, 0 ≤ fx k ∧ fx k ≤ 1000000000 := fun k hk => hfx k (sin.mp hk)
      dsimp only [List.set_cons_succ, List.set_cons_zero]
      generalize hE : ([.ow true b2, .fz (hD ks cs), .fz (tS s), .fz (tS t), .fz (.list (sortD (forksL cs))), .fz (.list (fs.map (amD ks))), .fz (.list mine), .fz (pt ks ks s t fs), .fz (stD [.call s, .call t]), s9, s10, s11, s12, .fz (amD kx fx), .fz (.list [amD (srt ks) (acts fx [.call s, .call t]), amD (srt ks) (acts fx [.call t, .call s])]), .un, .un] : SEnv) = EE
      have due : Ev (dLst (aCons (dBin gIx (dCall sp__law_acted (aCons (dVar 1) (aCons (dVar 8) (aCons (dVar 13) aNil)))) (dC (.int 0))) (aCons (dBin gIx (dCall sp__law_acted (aCons (dVar 1) (aCons (dBack (dVar 8)) (aCons (dVar 13) aNil)))) (dC (.int 0))) aNil))) EE (.nw (.list [amD (srt ks) (acts fx [.call s, .call t]), amD (srt ks) (acts fx [.call t, .call s])])) EE := by
        subst hE
        exact ev_lst (ev_cons (lawd_ev (f := fx) h hcs hct hkx (ev_cons (ev_var rfl) (ev_cons (ev_var rfl) (ev_cons (ev_var rfl) ev_nil)))) (ev_cons (lawd_ev (f := fx) h hct hcs hkx (ev_cons (ev_var rfl) (ev_cons (ev_back (ev_var rfl) rfl) (ev_cons (ev_var rfl) ev_nil)))) ev_nil)) rfl (by show 2 ≤ 2 ^ 24; decide)
      have e14 : EE[14]? = some (.fz (.list [amD (srt ks) (acts fx [.call s, .call t]), amD (srt ks) (acts fx [.call t, .call s])])) := by subst hE; rfl
      have okx := okx_two (f := acts fx [.call s, .call t]) (g := acts fx [.call t, .call s]) snd smn (by omega) (calls_rg hfs) (calls_rg hfs)
      refine (show sIf _ _ _ EE E1 from ?_)
      generalize PyData.list [amD (srt ks) (acts fx [.call s, .call t]), amD (srt ks) (acts fx [.call t, .call s])] = told at due e14 okx
      refine st_if (b := false) (evt_not (b := true) (evt_tru (o := .fz (.bool true)) (ev_call (args := [.fz told, .fz told]) (args' := [.fz told, .fz told]) (ev_cons (ev_var e14) (ev_cons due ev_nil)) rfl (by simp [alsO]) (fun R hR => ⟨_, _, told, .inl rfl, .inl rfl, okx, rfl, hR⟩) rfl rfl) rfl rfl)) (fun z => by cases z) (fun _ => ?_)
      subst hE
      exact nx _ ⟨_, _, fr.fz, fr.fz, rfl⟩
    · rintro e ⟨s13, s14, f13, f14, rfl⟩
      dsimp only
      exact st_ret ev_c ⟨_, rfl, hR b2 bd2⟩
end G16
end
section
set_option Elab.async false
set_option linter.all false
set_option maxRecDepth 100000
/-! M16d: the law of k16. -/
namespace G16
open PySem DL
open G G21

/-- a couple that is parted, the lesser first -/
def bad (s t : List Str) : Bool := cLt s t && !may (.call s) (.call t)
def cnt (cs pre : List (List Str)) : Nat := (pre.map fun s => (cs.filter (bad s)).length).sum
theorem cnt_app (cs pre : List (List Str)) (s : List Str) : cnt cs (pre ++ [s]) = cnt cs pre + (cs.filter (bad s)).length := by
  unfold cnt
  rw [List.map_append, List.sum_append]
  simp
theorem sum_zero {α : Type} {f : α → Nat} : ∀ {l : List α}, (l.map f).sum = 0 ↔ ∀ x ∈ l, f x = 0
  | [] => by simp
  | x :: l => by
    rw [List.map_cons, List.sum_cons, List.forall_mem_cons, ← sum_zero (l := l)]
    omega
theorem fk_self (s : List Str) : fk s s = [] := List.eq_nil_iff_forall_not_mem.mpr fun p hp => (fk_mem hp).2.2.2.2 (fk_mem hp).2.2.2.1
theorem nested_cnt (cs : List (List Str)) : (((cnt cs cs : Nat) : Int) == 0) = (forksL cs).isEmpty := by
  rw [Bool.eq_iff_iff, beq_iff_eq, List.isEmpty_iff]
  have h1 : ((cnt cs cs : Nat) : Int) = 0 ↔ ∀ s ∈ cs, ∀ t ∈ cs, bad s t = false := by
    rw [show ((cnt cs cs : Nat) : Int) = 0 ↔ cnt cs cs = 0 by omega]
    unfold cnt
    rw [sum_zero]
    refine forall_congr' fun s => forall_congr' fun _ => ?_
    rw [List.length_eq_zero_iff, List.filter_eq_nil_iff]
    simp
  have h2 : forksL cs = [] ↔ ∀ s ∈ cs, ∀ t ∈ cs, fk s t = [] := by
    unfold forksL
    rw [List.flatMap_eq_nil_iff]
    refine forall_congr' fun s => forall_congr' fun _ => ?_
    rw [List.flatMap_eq_nil_iff]
    refine forall_congr' fun t => forall_congr' fun _ => ?_
    rw [List.map_eq_nil_iff]
  rw [h1, h2]
  have mf : ∀ {s t : List Str}, may (.call s) (.call t) = true ↔ fk s t = [] ∧ fk t s = [] := by
    intro s t
    show ((fk s t).isEmpty && (fk t s).isEmpty) = true ↔ _
    rw [Bool.and_eq_true, List.isEmpty_iff, List.isEmpty_iff]
  constructor
  · intro h s hs t ht
    by_cases e : s = t
    · rw [e]; exact fk_self t
    · cases c : cLt s t with
      | true =>
        have := h s hs t ht
        unfold bad at this
        rw [c, Bool.true_and] at this
        exact (mf.mp (by simpa using this)).1
      | false =>
        cases c' : cLt t s with
        | true =>
          have := h t ht s hs
          unfold bad at this
          rw [c', Bool.true_and] at this
          exact (mf.mp (by simpa using this)).2
        | false => exact absurd (cLt_tot c c') e
  · intro h s hs t ht
    unfold bad
    rw [mf.mpr ⟨h s hs t ht, h t ht s hs⟩]
    simp
theorem u_not {ca : DB} {env : SEnv} {Q : Bool → SEnv → Prop} (h : ca env fun b e => Q (!b) e) : bNot ca env Q := h
theorem u_tru {te : DT} {env : SEnv} {Q : Bool → SEnv → Prop} (h : te env fun o e1 => ∃ d c, o.get e1 = some d ∧ truD d = some c ∧ Q c e1) : bTru te env Q := h
theorem u_and1 {ca cb : DB} {env e1 : SEnv} {Q : Bool → SEnv → Prop} (h : EvT ca env true e1) (h2 : cb e1 Q) : bAnd ca cb env Q := h _ h2
theorem u_ifs {c : DB} {t u : DS} {env : SEnv} {E : SE} (h : c env fun b e1 => if b = true then t e1 E else u e1 E) : sIf c t u env E := h
theorem u_par3 {i j l : Nat} {ta tb tc : DT} {env : SEnv} {E : SE} (h : ta env fun o1 e1 => tb e1 fun o2 e2 => tc e2 fun o3 e3 => ∃ s1 s2 s3, o1.slot = some s1 ∧ o2.slot = some s2 ∧ o3.slot = some s3 ∧ notPin e3 i = true ∧ notPin e3 j = true ∧ notPin e3 l = true ∧ E.nx (((e3.set i s1).set j s2).set l s3)) : sPar3 i j l ta tb tc env E := h
theorem bool_x (x : Bool) : Okx (.bool x) := by
  refine Okd.x ⟨⟨?_, ?_⟩, ?_, ?_⟩
  · cases x <;> decide +kernel
  · cases x <;> decide +kernel
  · cases x <;> decide +kernel
  · have : (PyData.shown (.bool x)).length ≤ 20 := by cases x <;> decide +kernel
    show _ ≤ 2 ^ 24
    omega
theorem serves_law : Serves N_law ps_law t_law sp_law := by
  rintro args R ⟨ns, rfl, hR⟩
  refine ⟨rfl, rfl, ?_⟩
  unfold t_law
  ((try dsimp only); refine st_seq ?_)
  refine u_set (u_call (u_cons (ev_scr rfl _ (u_nil ⟨[.sc ns], rfl, by simp [alsO], ns, rfl, fun d bd => ⟨rfl, _, rfl, rfl, ?_⟩⟩))))
  dsimp only
  ((try dsimp only); refine st_seq ?_)
  refine for_list (enc := .int) (l := ups 3) (evi_up (j := 3) ev_c (by decide) (by decide)) (fun pre e => ∃ (d : D) (s2 s3 s4 s5 s6 s7 s8 : DL.Slot), isBag d ∧ fr s2 ∧ fr s3 ∧ fr s4 ∧ fr s5 ∧ fr s6 ∧ fr s7 ∧ fr s8 ∧ e = [.sc ns, .ow false d, s2, s3, s4, s5, s6, s7, s8]) ⟨d, .un, .un, .un, .un, .un, .un, .un, bd, fr.un, fr.un, fr.un, fr.un, fr.un, fr.un, fr.un, rfl⟩ ?_ ?_
  · rintro pre x post e E1 hi ⟨d, s2, s3, s4, s5, s6, s7, s8, bd, f2, f3, f4, f5, f6, f7, f8, rfl⟩ nx _ _ hrt
    refine ⟨f2.pin rfl, ?_⟩
    dsimp only
    ((try dsimp only); refine st_seq ?_)
    refine u_setF (u_call (u_cons (ev_own rfl _ (u_cons (one_ev (i := 1) (ds := [.int 4, .int 3, .int 4, .int 5]) (o := .nw (.list [.int 4, .int 3, .int 4, .int 5])) (ev_cons (ev_own rfl) (ev_cons (ev_lst (ev_cons ev_c (ev_cons ev_c (ev_cons ev_c (ev_cons ev_c ev_nil)))) rfl (by show 4 ≤ 2 ^ 24; decide)) ev_nil)) rfl bd (.inr rfl) rfl (by simp) (by decide) fun y d1 hy b1 => ?_)))))
    have : ∃ n : Int, 3 ≤ n ∧ n ≤ 5 ∧ y = .int n := by
      simp only [List.mem_cons, List.not_mem_nil, or_false] at hy
      rcases hy with rfl | rfl | rfl | rfl
      · exact ⟨4, by decide, by decide, rfl⟩
      · exact ⟨3, by decide, by decide, rfl⟩
      · exact ⟨4, by decide, by decide, rfl⟩
      · exact ⟨5, by decide, by decide, rfl⟩
    obtain ⟨n, n1, n2, rfl⟩ := this
    refine u_cons (ev_c _ (u_nil ⟨[.ow true d1, .fz (.int n), .fz (.int 6)], rfl, by simp [alsO], d1, n, 6, b1, by omega, by omega, by decide, by decide, rfl, fun ks cs d2 hh bd => ⟨rfl, _, rfl, f3.pin rfl, ?_⟩⟩))
    have h6 : House 6 100 ks cs := hh.mono (by omega) (by decide)
    have h : House 15 100 ks cs := h6.mono (by decide) (by decide)
    have l1 := h6.ln
    have l2 := h6.lc
    dsimp only
    change sSeq _ _ [.sc ns, .ow false d2, .fz (.int x), .fz (hD ks cs), s4, s5, s6, s7, s8] _
    ((try dsimp only); refine st_seq ?_)
    have most : ∃ m : Int, 1 ≤ m ∧ m ≤ 2 ∧ Ev (dIf (bVal (dBin gLt (dB gLen (aCons (dBin gIx (dVar 3) (dC (.int 0))) aNil)) (dC (.int 5)))) (dC (.int 2)) (dC (.int 1))) [.sc ns, .ow false d2, .fz (.int x), .fz (hD ks cs), s4, s5, s6, s7, s8] (.fz (.int m)) [.sc ns, .ow false d2, .fz (.int x), .fz (hD ks cs), s4, s5, s6, s7, s8] := by
      have test : EvT (bVal (dBin gLt (dB gLen (aCons (dBin gIx (dVar 3) (dC (.int 0))) aNil)) (dC (.int 5)))) [.sc ns, .ow false d2, .fz (.int x), .fz (hD ks cs), s4, s5, s6, s7, s8] (decide ((((ks.map PyData.str).length : Nat) : Int) < 5)) [.sc ns, .ow false d2, .fz (.int x), .fz (hD ks cs), s4, s5, s6, s7, s8] := evt_val (ev_bin (ev_B (ev_cons (ev_bin (ev_var rfl) ev_c rfl rfl rfl) ev_nil) rfl (len_seq rfl)) ev_c rfl rfl rfl)
      by_cases hl : (((ks.map PyData.str).length : Nat) : Int) < 5
      · rw [decide_eq_true hl] at test
        exact ⟨2, by decide, by decide, ev_if1 test ev_c⟩
      · rw [decide_eq_false hl] at test
        exact ⟨1, by decide, by decide, ev_if0 test ev_c⟩
    obtain ⟨m, m1, m2, mev⟩ := most
    refine u_par3 ((ev_call (o := .nw (.list (sortD (forksL cs)))) (args := [.fz (hD ks cs)]) (args' := [.fz (hD ks cs)]) (ev_cons (ev_var rfl) ev_nil) rfl (by simp [alsO]) (fun R hR => ⟨ks, cs, h, rfl, hR⟩) rfl rfl) _ (u_call (u_cons (ev_var rfl _ (u_cons (mev _ (u_nil ⟨[.fz (hD ks cs), .fz (.int m)], rfl, by simp [alsO], ks, cs, m, h6, by omega, m2, rfl, fun fs hf => ⟨rfl, ev_c _ ⟨_, _, _, rfl, rfl, rfl, f4.pin rfl, f5.pin rfl, f6.pin rfl, ?_⟩⟩⟩)))))))
    dsimp only
    change sFrz 4 _ [.sc ns, .ow false d2, .fz (.int x), .fz (hD ks cs), .ow false (.list (sortD (forksL cs))), .ow false (.list (fs.map (amD ks))), .fz (.int 0), s7, s8] _
    unfold sFrz
    dsimp only [List.getElem?_cons_succ, List.getElem?_cons_zero, List.set_cons_succ, List.set_cons_zero]
    ((try dsimp only); refine st_seq ?_)
    refine for_list (enc := tS) (l := cs) (evi_seq (d := .tuple (cs.map tS)) (o := .fz (.tuple (cs.map tS))) (ev_bin (ev_var rfl) ev_c rfl rfl rfl) rfl rfl) (fun pre e => ∃ d s7 s8, isBag d ∧ fr s7 ∧ fr s8 ∧ e = [.sc ns, .ow false d, .fz (.int x), .fz (hD ks cs), .fz (.list (sortD (forksL cs))), .fz (.list (fs.map (amD ks))), .fz (.int (cnt cs pre : Nat)), s7, s8]) ⟨d2, s7, s8, bd, f7, f8, rfl⟩ ?_ ?_
    · rintro pre1 s post1 e E2 hi1 ⟨d, s7, s8, bd, f7, f8, rfl⟩ nx1 _ _ rt1
      have hs : s ∈ cs := by rw [hi1]; simp
      refine ⟨f7.pin rfl, ?_⟩
      dsimp only [List.set_cons_succ, List.set_cons_zero]
      refine for_list (enc := tS) (l := cs) (evi_seq (d := .tuple (cs.map tS)) (o := .fz (.tuple (cs.map tS))) (ev_bin (ev_var rfl) ev_c rfl rfl rfl) rfl rfl) (fun pre2 e => ∃ d s8, isBag d ∧ fr s8 ∧ e = [.sc ns, .ow false d, .fz (.int x), .fz (hD ks cs), .fz (.list (sortD (forksL cs))), .fz (.list (fs.map (amD ks))), .fz (.int ((cnt cs pre1 + (pre2.filter (bad s)).length : Nat) : Int)), .fz (tS s), s8]) ⟨d, s8, bd, f8, rfl⟩ ?_ ?_
      · rintro pre2 t post2 e E3 hi2 ⟨d, s8, bd, f8, rfl⟩ nx2 _ _ rt2
        have ht : t ∈ cs := by rw [hi2]; simp
        have lt := lt_calls (h.cms hs) (h.cms ht)
        refine ⟨f8.pin rfl, ?_⟩
        dsimp only [List.set_cons_succ, List.set_cons_zero]
        -- the count
        have fin : ∀ d, isBag d → sAugI 6 (fun a b => a + b) (dB gInt (aCons (dAnd (dBin gLt (dVar 7) (dVar 8)) (dBin (gIs true) (dCall sp__law_parted (aCons (dVar 3) (aCons (dVar 7) (aCons (dVar 8) (aCons (dVar 5) aNil))))) (dC .none))) aNil)) [.sc ns, .ow false d, .fz (.int x), .fz (hD ks cs), .fz (.list (sortD (forksL cs))), .fz (.list (fs.map (amD ks))), .fz (.int ((cnt cs pre1 + (pre2.filter (bad s)).length : Nat) : Int)), .fz (tS s), .fz (tS t)] E3 := fun d bd => by
          refine ⟨_, rfl, ev_B (o := .fz (.int (if bad s t then 1 else 0))) (ev_cons (ev_and (x := cLt s t) (y := !may (.call s) (.call t)) (ev_bin (ev_var rfl) (ev_var rfl) rfl rfl lt) (ev_bin (part_ev (fs := fs) (kk := ks) h hs ht (.refl _) hf.2.1 (ev_cons (ev_var rfl) (ev_cons (ev_var rfl) (ev_cons (ev_var rfl) (ev_cons (ev_var rfl) ev_nil)))) rfl rfl) ev_c rfl rfl ?_)) ev_nil) rfl rfl _ ⟨_, rfl, rfl, nx2 _ ⟨d, .fz (tS t), bd, fr.fz, ?_⟩⟩⟩
          · show some (O.fz (.bool (isNoneD (pt ks ks s t fs) != true))) = _
            rw [pt_none, may_all h6 (show okD ks cs (.call s) from hs) (show okD ks cs (.call t) from ht) m1 hf, Bool.bne_true]
          · dsimp only [List.set_cons_succ, List.set_cons_zero]
            have : ((cnt cs pre1 + (pre2.filter (bad s)).length : Nat) : Int) + (if bad s t then 1 else 0) = ((cnt cs pre1 + ((pre2 ++ [t]).filter (bad s)).length : Nat) : Int) := by
              rw [List.filter_append, List.length_append, List.filter_cons]
              by_cases hb : bad s t = true
              · rw [if_pos hb, if_pos hb]; simp only [List.filter_nil, List.length_cons, List.length_nil]; omega
              · rw [if_neg hb, if_neg hb]; simp only [List.filter_nil, List.length_nil]; omega
            rw [this]
        ((try dsimp only); refine st_seq ?_)
        cases c : cLt s t with
        | false =>
          rw [c] at lt
          refine st_if (b := false) (evt_and0 (evt_val (ev_bin (ev_var rfl) (ev_var rfl) rfl rfl lt))) (fun z => by cases z) (fun _ => ?_)
          exact fin d bd
        | true =>
          rw [c] at lt
          refine u_ifs (u_and1 (evt_val (b := true) (ev_bin (ev_var rfl) (ev_var rfl) rfl rfl lt)) (u_not (u_tru (u_call (u_cons (ev_own rfl _ (u_cons (ev_var rfl _ (u_cons (ev_var rfl _ (u_cons (ev_var rfl _ (u_cons (ev_var rfl _ (u_cons (ev_var rfl _ (u_nil ⟨[.ow true d, .fz (hD ks cs), .fz (tS s), .fz (tS t), .fz (.list (sortD (forksL cs))), .fz (.list (fs.map (amD ks)))], rfl, by simp [alsO], d, ks, cs, s, t, fs, m, bd, h6, hs, ht, m1, m2, hf, hf.2.2, rfl, fun b' bb => ⟨rfl, _, _, rfl, rfl, ?_⟩⟩)))))))))))))))))
          rw [if_neg (by decide)]
          exact fin b' bb
      · rintro e ⟨d, s8, bd, f8, rfl⟩
        exact nx1 _ ⟨d, _, s8, bd, fr.fz, f8, by rw [cnt_app]⟩
    · rintro e ⟨d, s7, s8, bd, f7, f8, rfl⟩
      dsimp only
      have e6 : ∀ env : SEnv, env[6]? = some (.fz (.int ((cnt cs cs : Nat) : Int))) → Ev (dBin gEq (dVar 6) (dC (.int 0))) env (.fz (.bool (forksL cs).isEmpty)) env := fun env he => ev_bin (ev_var he) ev_c rfl rfl (by rw [eq_int, nested_cnt])
      refine st_if (b := false) (evt_or0 (evt_not (b := true) (evt_tru (o := .fz (.bool true)) (ev_call (args := [.fz (.bool (forksL cs).isEmpty), .fz (.bool (forksL cs).isEmpty)]) (args' := [.fz (.bool (forksL cs).isEmpty), .fz (.bool (forksL cs).isEmpty)]) (ev_cons (ev_call (o := .fz (.bool (forksL cs).isEmpty)) (args := [.fz (hD ks cs)]) (args' := [.fz (hD ks cs)]) (ev_cons (ev_var rfl) ev_nil) rfl (by simp [alsO]) (fun R hR => ⟨ks, cs, h, rfl, hR⟩) rfl rfl) (ev_cons (e6 _ rfl) ev_nil)) rfl (by simp [alsO]) (fun R hR => ⟨_, _, _, .inl rfl, .inl rfl, bool_x _, rfl, hR⟩) rfl rfl) rfl rfl)) (evt_val (ev_bin (ev_bin (ev_var rfl) (ev_lst ev_nil rfl (by decide)) rfl rfl (eq_nil (fun d hd => ⟨(Sh.forks h hd).1, Nat.le_trans (Sh.forks h hd).2 (by decide)⟩))) (e6 _ rfl) rfl rfl ?_))) (fun z => by cases z) (fun _ => ?_)
      · rw [forks_nil]; exact ne_self (n := 0) Sh.bool
      · exact nx _ ⟨d, _, _, _, _, _, s7, s8, bd, fr.fz, fr.fz, fr.fz, fr.fz, fr.fz, f7, f8, rfl⟩
  · rintro e ⟨d, s2, s3, s4, s5, s6, s7, s8, bd, f2, f3, f4, f5, f6, f7, f8, rfl⟩
    dsimp only
    exact st_ret ev_c ⟨_, rfl, hR⟩
end G16
end
section
set_option Elab.async false
set_option linter.all false
set_option maxRecDepth 100000
set_option maxHeartbeats 0
/-! the join -/
namespace G16
open PySem PySem.Spec PyProof.Rows L2 DL
open G G21
def df_behind : He.DefD := ⟨("behind", none), "behind", "behind", defArgs (top 1), defBody (top 1), defScope (top 1), [], []⟩
def df_forks_between : He.DefD := ⟨("forks_between", none), "forks_between", "forks_between", defArgs (top 2), defBody (top 2), defScope (top 2), [], []⟩
def df_forks_of : He.DefD := ⟨("forks_of", none), "forks_of", "forks_of", defArgs (top 3), defBody (top 3), defScope (top 3), [], []⟩
def df_is_nested : He.DefD := ⟨("is_nested", none), "is_nested", "is_nested", defArgs (top 4), defBody (top 4), defScope (top 4), [], []⟩
def df_taken_kind : He.DefD := ⟨("taken_kind", none), "taken_kind", "taken_kind", defArgs (top 6), defBody (top 6), defScope (top 6), [], []⟩
def df_do_deed : He.DefD := ⟨("do_deed", none), "do_deed", "do_deed", defArgs (top 7), defBody (top 7), defScope (top 7), [], []⟩
def df_acted : He.DefD := ⟨("acted", none), "acted", "acted", defArgs (top 8), defBody (top 8), defScope (top 8), [], []⟩
def df__law_bag : He.DefD := ⟨("_law_bag", none), "_law_bag", "_law_bag", defArgs (top 10), defBody (top 10), defScope (top 10), [], []⟩
def df__law_take : He.DefD := ⟨("_law_take", none), "_law_take", "_law_take", defArgs (top 11), defBody (top 11), defScope (top 11), [], []⟩
def df__law_one : He.DefD := ⟨("_law_one", none), "_law_one", "_law_one", defArgs (top 12), defBody (top 12), defScope (top 12), [], []⟩
def df__law_mixed : He.DefD := ⟨("_law_mixed", none), "_law_mixed", "_law_mixed", defArgs (top 13), defBody (top 13), defScope (top 13), [], []⟩
def df__law_alike : He.DefD := ⟨("_law_alike", none), "_law_alike", "_law_alike", defArgs (top 14), defBody (top 14), defScope (top 14), [], []⟩
def df__law_flat : He.DefD := ⟨("_law_flat", none), "_law_flat", "_law_flat", defArgs (top 15), defBody (top 15), defScope (top 15), [], []⟩
def df__law_house : He.DefD := ⟨("_law_house", none), "_law_house", "_law_house", defArgs (top 16), defBody (top 16), defScope (top 16), [], []⟩
def df__law_paths : He.DefD := ⟨("_law_paths", none), "_law_paths", "_law_paths", defArgs (top 17), defBody (top 17), defScope (top 17), [], []⟩
def df__law_bent_call : He.DefD := ⟨("_law_bent_call", none), "_law_bent_call", "_law_bent_call", defArgs (top 18), defBody (top 18), defScope (top 18), [], []⟩
def df__law_any_calls : He.DefD := ⟨("_law_any_calls", none), "_law_any_calls", "_law_any_calls", defArgs (top 19), defBody (top 19), defScope (top 19), [], []⟩
def df__law_named : He.DefD := ⟨("_law_named", none), "_law_named", "_law_named", defArgs (top 20), defBody (top 20), defScope (top 20), [], []⟩
def df__law_forks : He.DefD := ⟨("_law_forks", none), "_law_forks", "_law_forks", defArgs (top 21), defBody (top 21), defScope (top 21), [], []⟩
def df__law_amounts : He.DefD := ⟨("_law_amounts", none), "_law_amounts", "_law_amounts", defArgs (top 22), defBody (top 22), defScope (top 22), [], []⟩
def df__law_acted : He.DefD := ⟨("_law_acted", none), "_law_acted", "_law_acted", defArgs (top 23), defBody (top 23), defScope (top 23), [], []⟩
def df__law_all_amounts : He.DefD := ⟨("_law_all_amounts", none), "_law_all_amounts", "_law_all_amounts", defArgs (top 24), defBody (top 24), defScope (top 24), [], []⟩
def df__law_parted : He.DefD := ⟨("_law_parted", none), "_law_parted", "_law_parted", defArgs (top 25), defBody (top 25), defScope (top 25), [], []⟩
def df__law_couple_right : He.DefD := ⟨("_law_couple_right", none), "_law_couple_right", "_law_couple_right", defArgs (top 26), defBody (top 26), defScope (top 26), [], []⟩
def df_law : He.DefD := ⟨("law", none), "law", "law", defArgs (top 27), defBody (top 27), defScope (top 27), [], []⟩
def fns : List He.DefD := [df_behind, df_forks_between, df_forks_of, df_is_nested, df_taken_kind, df_do_deed, df_acted, df__law_bag, df__law_take, df__law_one, df__law_mixed, df__law_alike, df__law_flat, df__law_house, df__law_paths, df__law_bent_call, df__law_any_calls, df__law_named, df__law_forks, df__law_amounts, df__law_acted, df__law_all_amounts, df__law_parted, df__law_couple_right, df_law]
def fas : List He.Fa := [.glo "behind", .glo "forks_between", .glo "forks_of", .glo "is_nested", .glo "taken_kind", .glo "do_deed", .glo "acted", .glo "_law_bag", .glo "_law_take", .glo "_law_one", .glo "_law_mixed", .glo "_law_alike", .glo "_law_flat", .glo "_law_house", .glo "_law_paths", .glo "_law_bent_call", .glo "_law_any_calls", .glo "_law_named", .glo "_law_forks", .glo "_law_amounts", .glo "_law_acted", .glo "_law_all_amounts", .glo "_law_parted", .glo "_law_couple_right", .glo "law", .free "len", .free "list", .free "tuple", .free "int", .free "abs", .free "min", .free "max", .free "all", .free "any", .free "sum", .free "range", .free "sorted", .free "repr", .free "dict", .free "enumerate", .free "zip", .free "isinstance", .free "set", .free "str", .free "bool"]
abbrev hk : PySem.W.Hook := He.hookD 4 fas fns
def ob (s : PySem.W.SharedT) : He.AlD := He.obsDG 4 fas fns (HandSHeadRun.getT s)
theorem ob_eq (s : PySem.W.SharedT) : ob s = hk.obs s.abs := He.obsDG_eq (HandSHeadRun.getT_eq s)
abbrev rowR : PySem.W.OpenRow := PySem.W.OpenLaw.row PySem.Challenge.rw_calledbest_k16_whole_nested_exactly_by_e
theorem ran (w : World) : HandSHeadRun.RunEq rowR (PySem.W.view rowR.prog [27]) hk ob 2000 ["behind", "forks_between", "forks_of", "is_nested", "taken_kind", "do_deed", "acted", "_law_bag", "_law_take", "_law_one", "_law_mixed", "_law_alike", "_law_flat", "_law_house", "_law_paths", "_law_bent_call", "_law_any_calls", "_law_named", "_law_forks", "_law_amounts", "_law_acted", "_law_all_amounts", "_law_parted", "_law_couple_right"] w := by
  intro os
  kernel_rfl
section
variable {P : Program} {w : World} {K : PySem.W.Frag} {h : Heap} {mg : Str → Option Value} {base : Heap}
theorem blt_all (X : K.In h) (G : h.Ns mainGlobals mg) (c : He.SaysD fas fns K) : Blt mg := ⟨fun x hx => by
  simp only [List.mem_cons, List.not_mem_nil, or_false] at hx
  rcases hx with rfl | rfl | rfl | rfl | rfl | rfl | rfl | rfl | rfl | rfl | rfl | rfl | rfl | rfl | rfl | rfl | rfl | rfl | rfl | rfl
  · exact He.free_ok X G (c.fact 25 (f := .free "len") rfl)
  · exact He.free_ok X G (c.fact 26 (f := .free "list") rfl)
  · exact He.free_ok X G (c.fact 27 (f := .free "tuple") rfl)
  · exact He.free_ok X G (c.fact 28 (f := .free "int") rfl)
  · exact He.free_ok X G (c.fact 29 (f := .free "abs") rfl)
  · exact He.free_ok X G (c.fact 30 (f := .free "min") rfl)
  · exact He.free_ok X G (c.fact 31 (f := .free "max") rfl)
  · exact He.free_ok X G (c.fact 32 (f := .free "all") rfl)
  · exact He.free_ok X G (c.fact 33 (f := .free "any") rfl)
  · exact He.free_ok X G (c.fact 34 (f := .free "sum") rfl)
  · exact He.free_ok X G (c.fact 35 (f := .free "range") rfl)
  · exact He.free_ok X G (c.fact 36 (f := .free "sorted") rfl)
  · exact He.free_ok X G (c.fact 37 (f := .free "repr") rfl)
  · exact He.free_ok X G (c.fact 38 (f := .free "dict") rfl)
  · exact He.free_ok X G (c.fact 39 (f := .free "enumerate") rfl)
  · exact He.free_ok X G (c.fact 40 (f := .free "zip") rfl)
  · exact He.free_ok X G (c.fact 41 (f := .free "isinstance") rfl)
  · exact He.free_ok X G (c.fact 42 (f := .free "set") rfl)
  · exact He.free_ok X G (c.fact 43 (f := .free "str") rfl)
  · exact He.free_ok X G (c.fact 44 (f := .free "bool") rfl)⟩
theorem fn__law_bag (X : K.In h) (G : h.Ns mainGlobals mg) (c : He.SaysD fas fns K) (B : Blt mg) : Fn P w K mg base 1 "_law_bag" ps__law_bag sp__law_bag := by
  obtain ⟨fd, F⟩ := c.def_ 7 (d := df__law_bag) rfl
  exact ⟨_, fd, He.glo_ok X G (c.fact 7 (f := .glo "_law_bag") rfl), F.kp, F.bindsN fun _ _ _ _ _ _ us hl => match us, hl with | [_], _ => rfl, d__law_bag F B  serves__law_bag⟩
theorem fn__law_take (X : K.In h) (G : h.Ns mainGlobals mg) (c : He.SaysD fas fns K) (B : Blt mg) : Fn P w K mg base 1 "_law_take" ps__law_take sp__law_take := by
  obtain ⟨fd, F⟩ := c.def_ 8 (d := df__law_take) rfl
  exact ⟨_, fd, He.glo_ok X G (c.fact 8 (f := .glo "_law_take") rfl), F.kp, F.bindsN fun _ _ _ _ _ _ us hl => match us, hl with | [_, _], _ => rfl, d__law_take F B  serves__law_take⟩
theorem fn__law_one (X : K.In h) (G : h.Ns mainGlobals mg) (c : He.SaysD fas fns K) (B : Blt mg) : Fn P w K mg base 2 "_law_one" ps__law_one sp__law_one := by
  obtain ⟨fd, F⟩ := c.def_ 9 (d := df__law_one) rfl
  exact ⟨_, fd, He.glo_ok X G (c.fact 9 (f := .glo "_law_one") rfl), F.kp, F.bindsN fun _ _ _ _ _ _ us hl => match us, hl with | [_, _], _ => rfl, d__law_one F B (fn__law_take X G c B) serves__law_one⟩
theorem fn__law_mixed (X : K.In h) (G : h.Ns mainGlobals mg) (c : He.SaysD fas fns K) (B : Blt mg) : Fn P w K mg base 2 "_law_mixed" ps__law_mixed sp__law_mixed := by
  obtain ⟨fd, F⟩ := c.def_ 10 (d := df__law_mixed) rfl
  exact ⟨_, fd, He.glo_ok X G (c.fact 10 (f := .glo "_law_mixed") rfl), F.kp, F.bindsN fun _ _ _ _ _ _ us hl => match us, hl with | [_, _], _ => rfl, d__law_mixed F B (fn__law_take X G c B) serves__law_mixed⟩
theorem fn__law_paths (X : K.In h) (G : h.Ns mainGlobals mg) (c : He.SaysD fas fns K) (B : Blt mg) : Fn P w K mg base 3 "_law_paths" ps__law_paths sp__law_paths := by
  obtain ⟨fd, F⟩ := c.def_ 14 (d := df__law_paths) rfl
  exact ⟨_, fd, He.glo_ok X G (c.fact 14 (f := .glo "_law_paths") rfl), F.kp, F.bindsN fun _ _ _ _ _ _ us hl => match us, hl with | [_, _, _], _ => rfl, d__law_paths F B (fn__law_one X G c B) (fn__law_mixed X G c B) serves__law_paths⟩
theorem fn__law_forks (X : K.In h) (G : h.Ns mainGlobals mg) (c : He.SaysD fas fns K) (B : Blt mg) : Fn P w K mg base 1 "_law_forks" ps__law_forks sp__law_forks := by
  obtain ⟨fd, F⟩ := c.def_ 18 (d := df__law_forks) rfl
  exact ⟨_, fd, He.glo_ok X G (c.fact 18 (f := .glo "_law_forks") rfl), F.kp, F.bindsN fun _ _ _ _ _ _ us hl => match us, hl with | [_], _ => rfl, d__law_forks F B  serves__law_forks⟩
theorem fn__law_bent_call (X : K.In h) (G : h.Ns mainGlobals mg) (c : He.SaysD fas fns K) (B : Blt mg) : Fn P w K mg base 3 "_law_bent_call" ps__law_bent_call sp__law_bent_call := by
  obtain ⟨fd, F⟩ := c.def_ 15 (d := df__law_bent_call) rfl
  exact ⟨_, fd, He.glo_ok X G (c.fact 15 (f := .glo "_law_bent_call") rfl), F.kp, F.bindsN fun _ _ _ _ _ _ us hl => match us, hl with | [_, _, _], _ => rfl, d__law_bent_call F B (fn__law_one X G c B) (fn__law_take X G c B) serves__law_bent_call⟩
theorem fn__law_any_calls (X : K.In h) (G : h.Ns mainGlobals mg) (c : He.SaysD fas fns K) (B : Blt mg) : Fn P w K mg base 2 "_law_any_calls" ps__law_any_calls sp__law_any_calls := by
  obtain ⟨fd, F⟩ := c.def_ 16 (d := df__law_any_calls) rfl
  exact ⟨_, fd, He.glo_ok X G (c.fact 16 (f := .glo "_law_any_calls") rfl), F.kp, F.bindsN fun _ _ _ _ _ _ us hl => match us, hl with | [_, _, _], _ => rfl, d__law_any_calls F B (fn__law_take X G c B) serves__law_any_calls⟩
theorem fn__law_named (X : K.In h) (G : h.Ns mainGlobals mg) (c : He.SaysD fas fns K) (B : Blt mg) : Fn P w K mg base 3 "_law_named" ps__law_named sp__law_named := by
  obtain ⟨fd, F⟩ := c.def_ 17 (d := df__law_named) rfl
  exact ⟨_, fd, He.glo_ok X G (c.fact 17 (f := .glo "_law_named") rfl), F.kp, F.bindsN fun _ _ _ _ _ _ us hl => match us, hl with | [_, _, _, _], _ => rfl, d__law_named F B (fn__law_take X G c B) (fn__law_mixed X G c B) serves__law_named⟩
theorem fn__law_house (X : K.In h) (G : h.Ns mainGlobals mg) (c : He.SaysD fas fns K) (B : Blt mg) : Fn P w K mg base 4 "_law_house" ps__law_house sp__law_house := by
  obtain ⟨fd, F⟩ := c.def_ 13 (d := df__law_house) rfl
  exact ⟨_, fd, He.glo_ok X G (c.fact 13 (f := .glo "_law_house") rfl), F.kp, F.bindsN fun _ _ _ _ _ _ us hl => match us, hl with | [_, _, _], _ => rfl, d__law_house F B (fn__law_one X G c B) (fn__law_take X G c B) (fn__law_paths X G c B) (fn__law_forks X G c B) (fn__law_bent_call X G c B) (fn__law_mixed X G c B) (fn__law_any_calls X G c B) (fn__law_named X G c B) serves__law_house⟩
theorem fn_behind (X : K.In h) (G : h.Ns mainGlobals mg) (c : He.SaysD fas fns K) (B : Blt mg) : Fn P w K mg base 1 "behind" ps_behind sp_behind := by
  obtain ⟨fd, F⟩ := c.def_ 0 (d := df_behind) rfl
  exact ⟨_, fd, He.glo_ok X G (c.fact 0 (f := .glo "behind") rfl), F.kp, F.bindsN fun _ _ _ _ _ _ us hl => match us, hl with | [_, _], _ => rfl, d_behind F B  serves_behind⟩
theorem fn_forks_between (X : K.In h) (G : h.Ns mainGlobals mg) (c : He.SaysD fas fns K) (B : Blt mg) : Fn P w K mg base 2 "forks_between" ps_forks_between sp_forks_between := by
  obtain ⟨fd, F⟩ := c.def_ 1 (d := df_forks_between) rfl
  exact ⟨_, fd, He.glo_ok X G (c.fact 1 (f := .glo "forks_between") rfl), F.kp, F.bindsN fun _ _ _ _ _ _ us hl => match us, hl with | [_, _], _ => rfl, d_forks_between F B (fn_behind X G c B) serves_forks_between⟩
theorem fn_forks_of (X : K.In h) (G : h.Ns mainGlobals mg) (c : He.SaysD fas fns K) (B : Blt mg) : Fn P w K mg base 3 "forks_of" ps_forks_of sp_forks_of := by
  obtain ⟨fd, F⟩ := c.def_ 2 (d := df_forks_of) rfl
  exact ⟨_, fd, He.glo_ok X G (c.fact 2 (f := .glo "forks_of") rfl), F.kp, F.bindsN fun _ _ _ _ _ _ us hl => match us, hl with | [_], _ => rfl, d_forks_of F B (fn_forks_between X G c B) serves_forks_of⟩
theorem fn__law_flat (X : K.In h) (G : h.Ns mainGlobals mg) (c : He.SaysD fas fns K) (B : Blt mg) : Fn P w K mg base 1 "_law_flat" ps__law_flat sp__law_flat := by
  obtain ⟨fd, F⟩ := c.def_ 12 (d := df__law_flat) rfl
  exact ⟨_, fd, He.glo_ok X G (c.fact 12 (f := .glo "_law_flat") rfl), F.kp, F.bindsN fun _ _ _ _ _ _ us hl => match us, hl with | [_], _ => rfl, d__law_flat F B  serves__law_flat⟩
theorem fn__law_all_amounts (X : K.In h) (G : h.Ns mainGlobals mg) (c : He.SaysD fas fns K) (B : Blt mg) : Fn P w K mg base 2 "_law_all_amounts" ps__law_all_amounts sp__law_all_amounts := by
  obtain ⟨fd, F⟩ := c.def_ 21 (d := df__law_all_amounts) rfl
  exact ⟨_, fd, He.glo_ok X G (c.fact 21 (f := .glo "_law_all_amounts") rfl), F.kp, F.bindsN fun _ _ _ _ _ _ us hl => match us, hl with | [_, _], _ => rfl, d__law_all_amounts F B (fn__law_flat X G c B) serves__law_all_amounts⟩
theorem fn__law_acted (X : K.In h) (G : h.Ns mainGlobals mg) (c : He.SaysD fas fns K) (B : Blt mg) : Fn P w K mg base 1 "_law_acted" ps__law_acted sp__law_acted := by
  obtain ⟨fd, F⟩ := c.def_ 20 (d := df__law_acted) rfl
  exact ⟨_, fd, He.glo_ok X G (c.fact 20 (f := .glo "_law_acted") rfl), F.kp, F.bindsN fun _ _ _ _ _ _ us hl => match us, hl with | [_, _, _], _ => rfl, d__law_acted F B  serves__law_acted⟩
theorem fn__law_parted (X : K.In h) (G : h.Ns mainGlobals mg) (c : He.SaysD fas fns K) (B : Blt mg) : Fn P w K mg base 2 "_law_parted" ps__law_parted sp__law_parted := by
  obtain ⟨fd, F⟩ := c.def_ 22 (d := df__law_parted) rfl
  exact ⟨_, fd, He.glo_ok X G (c.fact 22 (f := .glo "_law_parted") rfl), F.kp, F.bindsN fun _ _ _ _ _ _ us hl => match us, hl with | [_, _, _, _], _ => rfl, d__law_parted F B (fn__law_acted X G c B) serves__law_parted⟩
theorem fn_taken_kind (X : K.In h) (G : h.Ns mainGlobals mg) (c : He.SaysD fas fns K) (B : Blt mg) : Fn P w K mg base 1 "taken_kind" ps_taken_kind sp_taken_kind := by
  obtain ⟨fd, F⟩ := c.def_ 4 (d := df_taken_kind) rfl
  exact ⟨_, fd, He.glo_ok X G (c.fact 4 (f := .glo "taken_kind") rfl), F.kp, F.bindsN fun _ _ _ _ _ _ us hl => match us, hl with | [_, _], _ => rfl, d_taken_kind F B  serves_taken_kind⟩
theorem fn_do_deed (X : K.In h) (G : h.Ns mainGlobals mg) (c : He.SaysD fas fns K) (B : Blt mg) : Fn P w K mg base 2 "do_deed" ps_do_deed sp_do_deed := by
  obtain ⟨fd, F⟩ := c.def_ 5 (d := df_do_deed) rfl
  exact ⟨_, fd, He.glo_ok X G (c.fact 5 (f := .glo "do_deed") rfl), F.kp, F.bindsN fun _ _ _ _ _ _ us hl => match us, hl with | [_, _], _ => rfl, d_do_deed F B (fn_taken_kind X G c B) serves_do_deed⟩
theorem fn_acted (X : K.In h) (G : h.Ns mainGlobals mg) (c : He.SaysD fas fns K) (B : Blt mg) : Fn P w K mg base 3 "acted" ps_acted sp_acted := by
  obtain ⟨fd, F⟩ := c.def_ 6 (d := df_acted) rfl
  exact ⟨_, fd, He.glo_ok X G (c.fact 6 (f := .glo "acted") rfl), F.kp, F.bindsN fun _ _ _ _ _ _ us hl => match us, hl with | [_, _, _], _ => rfl, d_acted F B (fn_do_deed X G c B) serves_acted⟩
theorem fn__law_amounts (X : K.In h) (G : h.Ns mainGlobals mg) (c : He.SaysD fas fns K) (B : Blt mg) : Fn P w K mg base 3 "_law_amounts" ps__law_amounts sp__law_amounts := by
  obtain ⟨fd, F⟩ := c.def_ 19 (d := df__law_amounts) rfl
  exact ⟨_, fd, He.glo_ok X G (c.fact 19 (f := .glo "_law_amounts") rfl), F.kp, F.bindsN fun _ _ _ _ _ _ us hl => match us, hl with | [_, _, _], _ => rfl, d__law_amounts F B (fn__law_mixed X G c B) (fn__law_take X G c B) (fn__law_one X G c B) serves__law_amounts⟩
theorem fn__law_alike (X : K.In h) (G : h.Ns mainGlobals mg) (c : He.SaysD fas fns K) (B : Blt mg) : Fn P w K mg base 1 "_law_alike" ps__law_alike sp__law_alike := by
  obtain ⟨fd, F⟩ := c.def_ 11 (d := df__law_alike) rfl
  exact ⟨_, fd, He.glo_ok X G (c.fact 11 (f := .glo "_law_alike") rfl), F.kp, F.bindsN fun _ _ _ _ _ _ us hl => match us, hl with | [_, _], _ => rfl, d__law_alike F B  serves__law_alike⟩
theorem fn__law_couple_right (X : K.In h) (G : h.Ns mainGlobals mg) (c : He.SaysD fas fns K) (B : Blt mg) : Fn P w K mg base 4 "_law_couple_right" ps__law_couple_right sp__law_couple_right := by
  obtain ⟨fd, F⟩ := c.def_ 23 (d := df__law_couple_right) rfl
  exact ⟨_, fd, He.glo_ok X G (c.fact 23 (f := .glo "_law_couple_right") rfl), F.kp, F.bindsN fun _ _ _ _ _ _ us hl => match us, hl with | [_, _, _, _, _, _], _ => rfl, d__law_couple_right F B (fn__law_parted X G c B) (fn__law_mixed X G c B) (fn_acted X G c B) (fn__law_amounts X G c B) (fn__law_alike X G c B) (fn__law_acted X G c B) serves__law_couple_right⟩
theorem fn_is_nested (X : K.In h) (G : h.Ns mainGlobals mg) (c : He.SaysD fas fns K) (B : Blt mg) : Fn P w K mg base 4 "is_nested" ps_is_nested sp_is_nested := by
  obtain ⟨fd, F⟩ := c.def_ 3 (d := df_is_nested) rfl
  exact ⟨_, fd, He.glo_ok X G (c.fact 3 (f := .glo "is_nested") rfl), F.kp, F.bindsN fun _ _ _ _ _ _ us hl => match us, hl with | [_], _ => rfl, d_is_nested F B (fn_forks_of X G c B) serves_is_nested⟩
theorem law_fact {f : Addr} (X : K.In h) (G : h.Ns mainGlobals mg) (hfa : mg ("law" : Str) = some (.ref f)) (c : He.SaysD fas fns K) :
    ∃ fd : FuncData, (∀ (s : Shared) (v : Value), BindsTo s fd ⟨[v], []⟩ [("_law_script", v)]) ∧ ∀ base : Heap, K.In base → base.Ns mainGlobals mg → FnG P w K mg base CX0 5 f fd ["_law_script"] (liftF K sp_law) := by
  obtain ⟨fd, F⟩ := c.def_ 24 (d := df_law) rfl
  have e := hfa.symm.trans (He.glo_ok X G (c.fact 24 (f := .glo "law") rfl))
  cases e
  have B := blt_all X G c
  have b := FunD.bindsA (ps := ["_law_script"]) F fun _ _ _ _ _ _ us hl => match us, hl with | [_], _ => rfl
  exact ⟨fd, fun s v => b s [v] rfl, fun base _ _ => d_law F B (fn__law_bag X G c B) (fn__law_house X G c B) (fn__law_one X G c B) (fn_forks_of X G c B) (fn__law_all_amounts X G c B) (fn__law_couple_right X G c B) (fn__law_parted X G c B) (fn__law_alike X G c B) (fn_is_nested X G c B) serves_law⟩
end
theorem law_sp {K : PySem.W.Frag} {H : Hp} {a : Addr} {ns : List Int} (hS : Scr K H a ns) : liftF K sp_law [.ref a] H (fun v _ => v = .bl true) fun _ _ _ => False := by
  refine ⟨fun _ => False, [.sc ns], fun o _ => o = .fz (.bool true), ⟨rfl, fun i d e => ?_, fun i p d e => ?_, fun i ms e => ?_, fun i j p d q e a he => ?_, fun a z => z.elim⟩, ⟨ns, rfl, rfl⟩, fun o args' v H' F' e _ r => ?_⟩
  · rcases i with _ | i <;> simp at e
  · rcases i with _ | i <;> simp at e
  · rcases i with _ | i
    · simp at e; subst e; exact ⟨a, rfl, hS⟩
    · simp at e
  · rcases i with _ | i <;> simp at he
  · subst e; cases r; rfl
end G16
open PySem PySem.W PySem.Calls PyProof.Rows
theorem PySem.Challenge.cw_calledbest_k16_whole_nested_exactly_by_e_holds : PySem.Challenge.rw_calledbest_k16_whole_nested_exactly_by_e.Holds := by
  w_on; o_law
  refine HandSHeadRun.head_any (r := OpenLaw.row PySem.Challenge.rw_calledbest_k16_whole_nested_exactly_by_e) (q := view (OpenLaw.row PySem.Challenge.rw_calledbest_k16_whole_nested_exactly_by_e).prog [27]) (H := G16.hk) (ob := G16.ob) (M := 2000) (loose := ["behind", "forks_between", "forks_of", "is_nested", "taken_kind", "do_deed", "acted", "_law_bag", "_law_take", "_law_one", "_law_mixed", "_law_alike", "_law_flat", "_law_house", "_law_paths", "_law_bent_call", "_law_any_calls", "_law_named", "_law_forks", "_law_amounts", "_law_acted", "_law_all_amounts", "_law_parted", "_law_couple_right"]) (d := HandSHeadRun.topDef (OpenLaw.row PySem.Challenge.rw_calledbest_k16_whole_nested_exactly_by_e).prog 27) (kwd := []) G16.ob_eq
    (by kernel_rfl) (fun s => by kernel_rfl) G16.ran (by kernel_rfl) (by kernel_rfl) (by kernel_rfl) (by rfl) (by first | assumption | decide +kernel) (by decide +kernel) ⟨rfl, rfl, rfl, rfl, rfl, by decide +kernel⟩ ?hw ?hc
  case hw => w_witness2
  case hc =>
    refine DL.walk_ofG (l := PySem.Challenge.rw_calledbest_k16_whole_nested_exactly_by_e) (n := 63) (k := 5) (x := "_law_script") (CX := L2.CX0) rfl (by decide) (by kernel_rfl) ⟨rfl, by decide, by decide⟩ ?F (fun _ _ _ _ z => z)
    intro w mg fa h Y G0 hmg0
    obtain ⟨K, KX, c⟩ := Y
    have hmg : mg ("law" : PySem.Str) = some (.ref fa) := by
      have e : (HandSHeadRun.topDef (OpenLaw.row PySem.Challenge.rw_calledbest_k16_whole_nested_exactly_by_e).prog 27).name = ("law" : PySem.Str) := by kernel_rfl
      rw [← e]
      exact hmg0
    obtain ⟨fd, hb, hF⟩ := G16.law_fact (P := (PySem.Challenge.rw_calledbest_k16_whole_nested_exactly_by_e).prog) (w := w) KX G0 hmg c
    exact ⟨K, fd, _, KX, hb, fun H a ns hl _ hS => G16.law_sp hS, hF⟩
end
