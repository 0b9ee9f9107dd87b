import PyProof.Rows.All
import Wide.All
import OpenK.AllK
import Wide.FinOn
import HandS.Base
import HandS.Call
import HandS.Ends
import HandS.Words
import HandS.WordsExc
import HandS.Defaults
import HandS.HeadEnd
import KE.KExcSuper
import HandS.Exc
import HandS.ExcInit
import KE.KExcIs
import HandS.IsInst
import HandS.Evl
import KE.KExcMake
import HandS.List
import HandS.ForMost
import HandS.WideBits
import HandS.Wide
import HandS.Flow
import HandS.HeadHook1
import HandS.HeadHook2
import PySem.Challenge.RW_anychance_k01_errors_made
import HandS.Small
import HandS.Dict
import HandS.Style
import HandS.Head0
import HandS.Head1
import HandS.Head2
set_option Elab.async false
set_option linter.all false
set_option maxRecDepth 100000
set_option maxHeartbeats 0
/-! Defs that want to know that no repr is under way (guards): promises over such surroundings alone, their calls, the law's end. -/
namespace GL
open PySem PySem.Spec PyProof.Rows L2
/-- a promise that is kept where no repr is under way -/
structure FnG (P : Program) (w : World) (K : PySem.W.Frag) (mg : Str → Option Value) (base : Heap) (CX : CXT) (k : Nat) (f : Addr) (fd : FuncData) (ps : List Str) (sp : Sp) : Prop where
  len : ∀ vs H Q E, sp vs H Q E → vs.length = ps.length
  run : ∀ (A : Around) (outer : List Env) (s : Shared) (H : Hp) (args : Args) (us : List Value) (vs : List V) (Q : VK) (E : XK), A.guards = some [] → Room k A → Env0 P w K mg base A outer s H → BindsTo s fd args (ps.zip us) → Vals vs us → sp vs H Q E →
    codeAny (model P w) A (.call (.ref f) args) (CR CX outer P w H s Q E) s
section
variable {P : Program} {w : World} {K : PySem.W.Frag} {mg : Str → Option Value} {base : Heap} {CX : CXT} {k : Nat} {f : Addr} {fd : FuncData} {ps N : List Str} {sp : Sp} {x qual : Str} {params : Arguments} {body : List Stmt} {scope : Scope} {dvs : List V} {kws : List (Str × V)}
theorem FnG.of (F : FnOk P w K mg base CX k f fd ps sp) : FnG P w K mg base CX k f fd ps sp := ⟨F.len, fun A outer s H args us vs Q E _ hr e hb r h => F.run A outer s H args us vs Q E hr e hb r h⟩
theorem fnG_body (F : FunD K x qual params body scope dvs kws f fd) (S : FnScope N ps scope) (len : ∀ vs H Q E, sp vs H Q E → vs.length = ps.length)
    (hbody : ∀ (cdv : Value) (A : Around) (outer : List Env) (s : Shared) (H : Hp) (vs : List V) (Q : VK) (E : XK), (A.deeper (envOfC qual scope s.heap.objs.size f cdv)).guards = some [] → Room k (A.deeper (envOfC qual scope s.heap.objs.size f cdv)) → sp vs H Q E →
      ∃ t, PSs (cxOf CX P w K mg base N qual scope f cdv A outer s H E) body t ∧ t { nx := fun _ H' => Q .non H', rt := Q } (start N vs) H) : FnG P w K mg base CX (k + 1) f fd ps sp := by
  obtain ⟨oc, od, dV, kV, doc, pm, an, cdv, ct, osl, rfl, lk, hcd, _, _⟩ := F.ex
  refine ⟨len, fun A outer s H args us vs Q E hg hr e0 hb r hsp => ?_⟩
  have kept : ∀ b o, base.get? b = some o → s.heap.get? b = some o := fun b o z => (e0.bs b o z).1
  have KX : K.In s.heap := e0.mod.kin.keeps kept
  have cells : ∀ y ∈ ps.zip us, scope.names.lookup y.1 = some .local ∨ (scope.names.lookup y.1 = some .cell ∧ ((cellsFrom (s.heap.objs.size + 1) scope.names []).lookup y.1).isSome = true) := by
    intro y hy
    obtain ⟨n, v⟩ := y
    exact (S.par n (List.of_mem_zip hy).1).imp id fun q => ⟨q, PySem.W.cellsFrom_some _ _ _ (.inl q)⟩
  refine codeAny_call_function hr.depth (KX _ _ lk) rfl S.co S.gen rfl (PySem.W.codeRec_of KX hcd) (hb _ _ _ _ ?_)
  refine wpAny_newFunctionEnv_cells S.kind cells fun env he s1 x => ?_
  cases he
  refine ⟨(e0.mod.nolimit.keeps kept).keeps x.toInCall.keep, codeAny_func ?_⟩
  obtain ⟨t, ht, hq⟩ := hbody cdv A outer s H vs Q E hg (hr.deeper _) hsp
  have I := inv_start (CX := CX) (E := E) S hr.hd e0 (len _ _ _ _ hsp) r x
  refine wpAny_mono (ht.run [] s1 (start N vs) H _ I hq) (fun fl s' hs => ?_) fun e s' hs => hs
  cases fl with
  | ret u =>
    obtain ⟨v, σ', H', J, rv, q⟩ := hs
    exact ⟨v, H', J.os, J.bare, J.base, J.hok, rv, q⟩
  | next =>
    obtain ⟨σ', H', J, q⟩ := hs
    exact ⟨V.non, H', J.os, J.bare, J.base, J.hok, rfl, q⟩
  | brk => exact hs.elim fun _ z => z.elim fun _ z => z.2.elim
  | cont => exact hs.elim fun _ z => z.elim fun _ z => z.2.elim
end
section
variable {X : Cx} {CX : CXT} {k : Nat} {f : Addr} {fd : FuncData} {ps : List Str} {sp : Sp} {dvs : List V} {ds : List Value} {E : XK} {x : Str} {p pos : Pos} {e : Expr} {es : List Expr} {t : TA}
theorem runG {pins : List (Addr × Obj)} {σ : L2.St} {H : Hp} {s : Shared} {Q : VK} {us : List Value} {vs : List V} (F : FnG X.prog X.w X.K X.mg X.base CX k f fd ps sp) (hgu : X.A.guards = some []) (hr : Room k X.A) (hb : Binds X.K fd ps ds) (hd : Vals dvs ds) (hx : Passes CX X E)
    (I : Inv X pins σ H s) (r : Vals vs us) (h : sp (vs ++ dvs) H Q E) : wpAny (model X.prog X.w) X.A (call (.ref f) us) (EP X pins σ Q) X.xe s := by
  have r2 := r.append hd
  have hl : (us ++ ds).length = ps.length := r2.length.symm.trans (F.len _ _ _ _ h)
  refine wpAny_call (codeAny_mono (F.run X.A X.stack s H ⟨us, []⟩ (us ++ ds) (vs ++ dvs) Q E hgu hr I.env0 (hb s us I.kIn hl) r2 h) fun r s' hq => ?_)
  rcases r with er | fl
  · exact hx pins σ H s er s' I hq
  · cases fl with
    | ret u => exact I.after hq
    | next => exact hq.elim
    | brk => exact hq.elim
    | cont => exact hq.elim
/-- f(e, ..) of such a def -/
theorem pe_callG (F : FnG X.prog X.w X.K X.mg X.base CX k f fd ps sp) (hgu : X.A.guards = some []) (hr : Room k X.A) (hg : Gl X x) (hm : X.mg x = some (.ref f)) (hk : PySem.W.keepIn X.K (.ref f) = true) (hb : Binds X.K fd ps ds) (hd : Vals dvs ds) (hx : Passes CX X E)
    (ha : PA X (e :: es) t) (hdb : (x == ("__debug__" : Str)) = false := by decide) (he : starEach (e :: es) X.env = (false, eval e X.env) :: starEach es X.env := by rfl) (hpl : (backTo pos (starEach es X.env)).any (·.1) = false := by rfl) :
    PE X (.Call (.Name x p) (e :: es) [] pos) (tCall sp dvs E t) := by
  refine ⟨fun pins s σ H Q I h => wpAny_Call_Name_kw (ld_glob I hg hm ?_ hdb)⟩
  exact PySem.W.callWith_K (h₀ := X.base) I.ok.mod.kin hk (thn (ha.run pos pins s σ H _ I h) fun us s1 ⟨vs, H1, I1, r, q⟩ => ⟨I1.kIn, runG F hgu hr hb hd hx I1 r q⟩) he hpl
end
/-! ### the law's end -/
/-- the heap in which the script alone is known, if it is none of the module's own objects -/
def only (a : Addr) (o : Obj) (xs : List V) (there : Bool) : Hp := fun b => if there = false ∧ b = a then some (.frz o (.lst xs)) else none
theorem lawG {P : Program} {w : World} {K : PySem.W.Frag} {mg mb : Str → Option Value} {CX : CXT} {k : Nat} {fa a : Addr} {fd : FuncData} {x : Str} {sp : Sp} {s₁ : Shared} {vs : List Value} {ns : List Int}
    (KX : K.In s₁.heap) (hns : s₁.heap.Ns mainGlobals mg) (hb : s₁.heap.Ns builtinsNs mb) (hbb : ∀ x : Str, x ≠ "__name__" → mb x = bootBuiltins x) (hlim : s₁.heap.NoLimit) (hg : s₁.gens = #[])
    (ha : s₁.heap.get? a = some { cls := .type "list", data := .seq vs.toArray }) (hi : IntsAre vs ns) (hl : ns.length ≤ sizeLine) (hr : Room k callerA)
    (F : ∀ base : Heap, K.In base → base.Ns mainGlobals mg → FnG P w K mg base CX k fa fd [x] sp) (hbind : ∀ (s : Shared) (u : Value), BindsTo s fd ⟨[u], []⟩ [(x, u)])
    (hsp : ∀ H : Hp, Only H → SqL K H a (ns.map V.int) → sp [.ref a] H (fun v _ => v = .bl true) fun _ _ _ => False)
    (hCX : ∀ H e s', CX [] H s₁ (fun _ _ _ => False) e s' → False) :
    codeAny (model P w) callerA (.call (.ref fa) ⟨[.ref a], []⟩) (fun r s' => r = .ok (.ret (.bool true)) ∧ OldK s₁.heap s'.heap ∧ s'.os = s₁.os ∧ AllBare s'.gens) s₁ := by
  have rv := vals_ints hi
  have lv : (ns.map V.int).length ≤ sizeLine := by rw [List.length_map]; exact hl
  generalize hth : (K.lookup a).isSome = there
  let o : Obj := { cls := .type "list", data := .seq vs.toArray }
  let H : Hp := only a o (ns.map V.int) there
  have atA : ∀ b u, H b = some u → b = a ∧ there = false ∧ u = .frz o (.lst (ns.map V.int)) := fun b u e => by
    by_cases c : there = false ∧ b = a
    · have e2 := (if_pos c).symm.trans e
      exact ⟨c.2, c.1, (Option.some.inj e2).symm⟩
    · have e2 := (if_neg c).symm.trans e
      cases e2
  have only_ : Only H := fun b => by
    cases e : H b with
    | none => exact .inl rfl
    | some u =>
      obtain ⟨_, _, rfl⟩ := atA b u e
      exact .inr ⟨_, _, rfl⟩
  have hok : HOk P w H s₁.heap := fun b u e => by
    obtain ⟨rfl, _, rfl⟩ := atA b u e
    exact ⟨ha, lv, vs, _, rv, ha⟩
  have hS : SqL K H a (ns.map V.int) := by
    cases there with
    | false => exact .inl (.inr ⟨o, if_pos ⟨rfl, rfl⟩⟩)
    | true =>
      obtain ⟨ob, hob⟩ := Option.isSome_iff_exists.mp hth
      have e := (KX a ob hob).symm.trans ha
      cases e
      exact .inr ⟨_, vs.toArray, _, hob, rfl, rfl, rfl, by rw [List.size_toArray, ← Paired.length rv]; exact lv, by simpa using rv⟩
  have free : ∀ {b : Addr} {ob : Obj}, s₁.heap.get? b = some ob → (∀ its n, ob.data ≠ .seq its n) → H b = none := fun {b ob} e d => by
    cases q : H b with
    | none => rfl
    | some u =>
      obtain ⟨rfl, _, _⟩ := atA b u q
      cases ha.symm.trans e
      exact (d _ _ rfl).elim
  have nsK : ∀ {b : Addr} {m : Str → Option Value}, s₁.heap.Ns b m → (hidT s₁.heap H).Ns b m := fun {b m} ⟨ob, es, ep, e, d, r⟩ =>
    ⟨ob, es, ep, hidT_get e (free e fun its n z => by rw [d] at z; cases z), d, r⟩
  have hKb : K.In (hidT s₁.heap H) := fun b ob e => hidT_get (KX b ob e) (by
    cases q : H b with
    | none => rfl
    | some u =>
      obtain ⟨rfl, z, _⟩ := atA b u q
      rw [e] at hth
      rw [z] at hth
      cases hth)
  have hM : Mod K mg (hidT s₁.heap H) := ⟨hKb, nsK hns, ⟨mb, nsK hb, hbb⟩, let ⟨mc, h1, h2⟩ := hlim; ⟨mc, nsK h1, h2⟩⟩
  have e0 : Env0 P w K mg (hidT s₁.heap H) callerA [] s₁ H := ⟨rfl, hM, fun b ob e => of_hidT e, Nat.le_of_eq (hidT_size _ _), trivial, (fun b hb => absurd (show b ∈ ([] : List Addr) from hb) (by simp)), hok, .of_eq hg⟩
  refine codeAny_mono ((F _ hKb (nsK hns)).run callerA [] s₁ H ⟨[.ref a], []⟩ [.ref a] [.ref a] _ _ rfl hr e0 (hbind s₁ (.ref a)) (.cons rfl .nil) (hsp H only_ hS)) fun r s' h => ?_
  rcases r with er | fl
  · exact (hCX H er s' h).elim
  cases fl with
  | next => exact h.elim
  | brk => exact h.elim
  | cont => exact h.elim
  | ret u =>
    obtain ⟨v, H', os, bare, un, hok', r', q⟩ := h
    cases (show v = .bl true from q)
    cases (show u = Value.bool true from r')
    refine ⟨rfl, OldK.of_keep fun b ob e => ?_, os, bare⟩
    cases q : H b with
    | none => exact un.keep b ob e q (fun z => absurd (show b ∈ ([] : List Addr) from z) (by simp)) (by simp)
    | some u =>
      obtain ⟨rfl, _, rfl⟩ := atA b u q
      obtain ⟨e2, _⟩ := hok' b _ (un.frzs b _ _ q)
      cases ha.symm.trans e
      exact e2
theorem walkG {l : PySem.W.OpenLaw} {n k : Nat} {q : Program} {loose : List Str} {XP : (Str → Option Value) → Heap → Prop} {YP : World → Heap → Prop} {d : DefRec} {CX : CXT} {x : Str}
    (hn : l.most = some n) (hn2 : n ≤ sizeLine) (hdf : d.params.defaults = []) (hr : Room k callerA)
    (F : ∀ (w : World) (mg : Str → Option Value) (fa : Addr) (h : Heap), YP w h → h.Ns mainGlobals mg → mg d.name = some (.ref fa) →
      ∃ (K : PySem.W.Frag) (fd : FuncData) (sp : Sp), K.In h ∧ (∀ (s : Shared) (u : Value), BindsTo s fd ⟨[u], []⟩ [(x, u)]) ∧
        (∀ (H : Hp) (a : Addr) (ns : List Int), ns.length ≤ n → Only H → SqL K H a (ns.map V.int) → sp [.ref a] H (fun v _ => v = .bl true) fun _ _ _ => False) ∧
        ∀ base : Heap, K.In base → base.Ns mainGlobals mg → FnG l.prog w K mg base CX k fa fd [x] sp)
    (hCX : ∀ (H : Hp) (s : Shared) (e : Value) (s' : Shared), CX [] H s (fun _ _ _ => False) e s' → False) :
    PySem.W.WalkO q loose XP YP l.row.toRowW d [] (fun f vs => PySem.call f vs) :=
  Att.attach_call hn hdf fun w s₀ s₁ mg mb fa o pm cd doc a vs ns G Y ho hd hcd hmg hobj hints hlen hg => by
    obtain ⟨K, fd, sp, KX, hb, hsp, hF⟩ := F w mg fa _ Y G.T.g hmg
    exact lawG KX G.T.g G.T.b G.T.builtins G.T.nolimit hg hobj hints (Nat.le_trans hlen hn2) hr hF hb (fun H hO hS => hsp H a ns hlen hO hS) fun H e s' => hCX H s₁ e s'
end GL
namespace PySem
namespace Err
open PySem.W PySem.Calls PyProof.Rows PySem.HandSPX
section
variable {M : Model} {A : Around} {E : Value → Shared → Prop} {h : Heap} {g : Array GenState} {d : Drawn} {t : Nat} {os : OsState}
variable {nm q : Str} {C N : Addr} {bs bm bmB : List Value} {hdct : Bool} {sn : List Str} {sub : List Value} {ab : Bool} {col : Option Bool} {dd : Option Addr} {k0 k1 k2 k3 k5 : Option Value} {B newId initId : String}
theorem check_new_kw (F : ExcBaseFacts B newId initId bmB) (hT : ∀ X : String, bm.contains (.type X) = bmB.contains (.type X)) {rest : List Value} {kw : List (Str × Value)} {Q : Unit → Shared → Prop}
    (hC : h.get? C = some (excClassObj nm q C N bs bm hdct sn sub ab col dd k0 k1 k2 k3 k5 newId)) (hq : Q () ⟨h, g, d, t, os⟩) : wpAny M A (checkBuiltinCall newId ⟨.ref C :: rest, kw⟩) Q E ⟨h, g, d, t, os⟩ := by
  have hcont : (Value.ref C :: bm).contains (.type B) = true := by rw [List.contains_cons, hT, F.hasB, Bool.or_true]
  have hstar := F.noStar
  simp only [checkBuiltinCall, F.newKind, F.newSplit, F.newRow]
  repeat (first | refine wpAny_loadPart_at hC ?_ | (refine wpAny_isSubtype_exc hC ?_; rw [hcont]) | refine wpAny_staticBase_exc hC ?_ | refine wpAny_madeBy_exc hC ?_ | simp only [bne_self_eq_false, Bool.false_eq_true, if_false] | wp_step)
  exact hq
end
section
variable {prog : Program} {w : World} {A : Around} {E : Value → Shared → Prop} {R : Result → Shared → Prop} {h : Heap} {g : Array GenState} {d : Drawn} {t : Nat} {os : OsState}
variable {nm q : Str} {C N : Addr} {bs bm bmB : List Value} {hdct : Bool} {sn : List Str} {sub : List Value} {ab : Bool} {col : Option Bool} {dd : Option Addr} {k0 k1 k2 k3 k5 : Option Value} {B newId initId : String}
theorem new_kw (F : ExcBaseFacts B newId initId bmB) (hT : ∀ X : String, bm.contains (.type X) = bmB.contains (.type X)) {rest : List Value} {kw : List (Str × Value)}
    (hC : h.get? C = some (excClassObj nm q C N bs bm hdct sn sub ab col dd k0 k1 k2 k3 k5 newId))
    (hq : R (.ok (.ret (.ref (h.objs.size + 1)))) ⟨(h.push { cls := .type "tuple", data := .seq rest.toArray }).push
      { cls := .ref C, data := .fields #[.ref h.objs.size, .none, .none, .none, .bool false, .none] }, g, d, t, os⟩) (hrest : rest.length ≤ sizeLine) :
    codeAny (model prog w) A (.builtin newId ⟨.ref C :: rest, kw⟩) R ⟨h, g, d, t, os⟩ := by
  have hends := F.ends
  have hcB : (Value.ref C :: bm).contains (.type B) = true := by rw [List.contains_cons, hT, F.hasB, Bool.or_true]
  have hcA : (Value.ref C :: bm).contains (.type "AttributeError") = false := by rw [List.contains_cons, hT, F.noAttr]; rfl
  have hcN : (Value.ref C :: bm).contains (.type "NameError") = false := by rw [List.contains_cons, hT, F.noName]; rfl
  refine codeAny_builtinAt F.entry ?_
  unfold Builtin.«BaseException.__new__»
  refine wpAt_bind ?_
  show wpAt _ _ _ (stack >>= _) _ _ _
  refine wpAt_bind (wpAt_stack fun p below => wpAt_of_wpAny ?_)
  wp_walk
  refine wpAt_of_wpAny ?_
  rw [F.owner]
  repeat (first | with_reducible refine wpAny_madeHere_exc F.canon hC ?_ | with_reducible refine wpAny_loadPart_at hC ?_ | (with_reducible refine wpAny_isSubtype_exc hC ?_; first | rw [hcB] | rw [hcA] | rw [hcN]) | wp_step)
  show R _ _
  rw [Heap.size_push]
  exact hq
theorem type_call_kw (F : ExcBaseFacts B newId initId bmB) (hT : ∀ X : String, bm.contains (.type X) = bmB.contains (.type X)) {rest : List Value} {kw : List (Str × Value)} {fI : Addr} {Q : Fin → Shared → Prop}
    (hC : h.get? C = some (excClassObj nm q C N bs bm hdct sn sub ab col dd k0 k1 k2 k3 k5 newId))
    (hi : W.Looks (model prog w) h (typeLookup (.ref C) "__init__") (some (.ref fI))) (hb : ∀ self, W.Looks (model prog w) h (bindSpecial (.ref fI) self) (.ref fI, [self])) (hrest : rest.length ≤ sizeLine)
    (hq : codeAny (model prog w) A (.call (.ref fI) ⟨.ref (h.objs.size + 1) :: rest, kw⟩)
      (fun r s' => match r with | .ok (.ret v) => v = .none ∧ Q (.done (.ret (.ref (h.objs.size + 1)))) s' | .ok _ => False | .error e => E e s')
      ⟨(h.push (W.kdv_tup rest)).push (excO C h.objs.size), g, d, t, os⟩) :
    wpAny (model prog w) A (Builtin.«type.__call__» ⟨.ref C :: rest, kw⟩) Q E ⟨h, g, d, t, os⟩ := by
  repeat (first | with_reducible refine wpAny_loadPart_at hC ?_ | with_reducible refine wpAny_madeBy_exc hC ?_ | wp_step)
  refine codeAny_call_builtin_code (Code.quiet_builtin _ F.quiet) (check_new_kw F hT hC ?_)
  refine new_kw F hT hC ?_ hrest
  show wpAny _ _ _ _ _ _
  have k : ∀ b o, h.get? b = some o → ((h.push (W.kdv_tup rest)).push (excO C h.objs.size)).get? b = some o := fun b o e => Heap.get?_push_of_some _ (Heap.get?_push_of_some _ e)
  have hC₁ := k _ _ hC
  have hget : ((h.push (W.kdv_tup rest)).push (excO C h.objs.size)).get? (h.objs.size + 1) = some (excO C h.objs.size) := by heap_get
  have hcC : (Value.ref C :: bm).contains (.ref C) = true := by simp
  have i1 := hi.keeps k
  have b1 := (hb (.ref (h.objs.size + 1))).keeps k
  unfold isInstance
  repeat (first | with_reducible refine wpAny_loadPart_at hget ?_ | (with_reducible refine wpAny_isSubtype_exc hC₁ ?_; rw [hcC]) | wp_step)
  show wpAny _ _ (typeLookup (.ref C) _) _ _ _
  refine i1.at ?_
  refine wpAny_holding (wpAny_bind (b1.at ?_))
  refine wpAny_bind (wpAny_call (codeAny_mono hq fun r s' z => ?_))
  rcases r with e | (v | _ | _ | _) <;> first | exact z | exact z.elim | skip
  obtain ⟨rfl, z⟩ := z
  first
    | exact wpAny_pure (wpAny_pure z)
    | (wp_walk; exact z)
theorem call_kw (F : ExcBaseFacts B newId initId bmB) (hT : ∀ X : String, bm.contains (.type X) = bmB.contains (.type X)) {rest : List Value} {kw : List (Str × Value)} {fI : Addr}
    (hC : h.get? C = some (excClassObj nm q C N bs bm hdct sn sub ab col dd k0 k1 k2 k3 k5 newId))
    (hi : W.Looks (model prog w) h (typeLookup (.ref C) "__init__") (some (.ref fI))) (hb : ∀ self, W.Looks (model prog w) h (bindSpecial (.ref fI) self) (.ref fI, [self])) (hrest : rest.length ≤ sizeLine)
    (hq : codeAny (model prog w) (A.under (.builtin "type.__call__" ⟨.ref C :: rest, kw⟩)) (.call (.ref fI) ⟨.ref (h.objs.size + 1) :: rest, kw⟩) (W.InitBack (h.objs.size + 1) R)
      ⟨(h.push (W.kdv_tup rest)).push (excO C h.objs.size), g, d, t, os⟩) :
    codeAny (model prog w) A (.call (.ref C) ⟨rest, kw⟩) R ⟨h, g, d, t, os⟩ := by
  have f1 := tc_lookup
  have f2 := tc_bind (.ref C)
  have hTy : (⟨h, g, d, t, os⟩ : Shared).TypeIs (.ref C) "type" := ⟨_, hC, rfl⟩
  refine codeAny_of_tree ?_
  show wpAny _ _ (callAny (.ref C) _) _ _ _
  repeat (any_goals (first | assumption | with_reducible refine wpAny_loadPart_at hC ?_ | wp_step))
  refine ⟨rfl, ?_⟩
  refine codeAny_call_builtin_at (Code.quiet_builtin _ (by decide +kernel)) entry_typeCall (wpAny_check_type_call_sub hC (type_call_kw F hT hC hi hb hrest ?_))
  refine codeAny_mono hq fun r s' z => ?_
  rcases r with e | (v | _ | _ | _) <;> exact z
end
end Err
end PySem
/-! An own class of errors over ValueError (through another own class), whose __init__ says super().__init__() and keeps its one argument as value. -/
namespace PySem
namespace Err
open PySem.W PySem.Calls PyProof.Rows PySem.HandSPX
/-! ### the text of __init__ -/
def iArgs (p1 p2 p3 : Pos) : Arguments := { posonlyargs := [], args := [{ arg := "self", annotation := none, pos := p1 }, { arg := "value", annotation := none, pos := p2 }], vararg := none, kwonlyargs := [], kw_defaults := [], kwarg := none, defaults := [.Constant .none 0 p3] }
def iBody (q1 q2 q3 q4 q5 q6 q7 q8 q9 : Pos) : List Stmt :=
  [.Expr (.Call (.Attribute (.Call (.Name "super" q1) [] [] q2) "__init__" q3) [] [] q4) q5, .Assign [.Attribute (.Name "self" q6) "value" q7] (.Name "value" q8) q9]
def iScope : Scope := { kind := .function, names := [(PySem.Str.ofString "self", .local), (PySem.Str.ofString "value", .local), (PySem.Str.ofString "__class__", .free), (PySem.Str.ofString "super", .globalImplicit)], isGenerator := false, isCoroutine := false, more := [] }
/-- what the written part says of such a class at C, its __init__ at f -/
structure ErrC (K : Frag) (P : Program) (C f : Addr) : Prop where
  cls : ∃ nm q N bs bm sn sub ab col dd k0 k1 k2 k3 k5, K.lookup C = some (excClassObj nm q C N bs bm true sn sub ab col dd k0 k1 k2 k3 k5 "ValueError.__new__") ∧ refsVE bm = true ∧
    alongIn K "__init__" (((.ref C :: bm : List Value).dropWhile (· != .ref C)).drop 1) = some (some (.builtin "ValueError.__init__"))
  ini : findIn K (.ref C) "__init__" = some (some (.ref f))
  sa : findIn K (.ref C) "__setattr__" = some (some (.builtin "object.__setattr__"))
  noV : findIn K (.ref C) "value" = some none
  exC : subIn K (.ref C) (.type "ValueError") = some true
  slf : mroIn K C (.ref C) = some true
  opq : nsIn K cStatics "thirdparty.any" = some none
  tyF : typeIn K (.ref f) = some (.type "function")
  top : (P.main.scope.names.lookup ("super" : Str)).isSome = false
  fn : ∃ (oc dV kV doc pm cda : Value) (cA cc : Addr) (od an : Option Addr) (osl : Array (Option Value)) (ct : Value) (qual : Str) (p1 p2 p3 q1 q2 q3 q4 q5 q6 q7 q8 q9 : Pos),
    K.lookup f = some ⟨oc, od, .func (ksFn "__init__" qual (iArgs p1 p2 p3) (iBody q1 q2 q3 q4 q5 q6 q7 q8 q9) iScope dV kV doc pm an (.ref cA) ct cc), osl⟩ ∧ codeIn K (.ref cA) qual = true ∧
    (∃ T oT its n, dV = .ref T ∧ K.lookup T = some oT ∧ oT.data = .seq its n ∧ its.toList = [.none]) ∧
    (∃ ccl cdd vs ccs file tf, K.lookup cA = some ⟨ccl, cdd, .fields vs, ccs⟩ ∧ vs[2]? = some (.str file tf) ∧ ((P.main.file : Str) == file) = true) ∧ (q3.endLine == q4.line) = true ∧
    ∃ cl cld csl, K.lookup cc = some ⟨cl, cld, .cell (some (.ref C)), csl⟩
/-- what __init__ leaves of a fresh exception at x -/
structure Made (h h' : Heap) (x C dx t1 : Addr) (v : Value) : Prop where
  keep : ∀ b o, b ≠ x → h.get? b = some o → h'.get? b = some o
  obj : h'.get? x = some { cls := .ref C, dict := some dx, data := .fields #[.ref t1, .none, .none, .none, .bool false, .none] }
  dbig : h.objs.size ≤ dx
  dne : dx ≠ x
  ns : h'.Ns1 dx (fun y => if y = "value" then some v else none)
section
variable {P : Program} {w : World} {A : Around} {E : Value → Shared → Prop} {R : Result → Shared → Prop} {s : Shared} {K : Frag} {C f : Addr}
theorem isInst_exc {x : Addr} {ox : Obj} {od : Option Obj} (T : ErrC K P C f) (X : K.In s.heap) (I : InstAt s.heap x ox C od) : Looks (model P w) s.heap (isInstance (.ref x) (.type "ValueError")) true :=
  I.type.andThen (looks_subIn X T.exC)
/-- super().__init__() of the built-in, called -/
theorem call_wrapper {u x t0 : Addr} {Q : Value → Shared → Prop} {nm q : Str} {N : Addr} {bs bm : List Value} {hdct : Bool} {sn : List Str} {sub : List Value} {ab : Bool} {col : Option Bool} {dd : Option Addr} {k0 k1 k2 k3 k5 : Option Value}
    (hC : s.heap.get? C = some (excClassObj nm q C N bs bm hdct sn sub ab col dd k0 k1 k2 k3 k5 "ValueError.__new__")) (hx : s.heap.get? x = some (excO C t0)) (hu : s.heap.get? u = some (kxs_mw "ValueError.__init__" x))
    (hq : ∀ h' t1, (∀ b o, b ≠ x → s.heap.get? b = some o → h'.get? b = some o) → h'.get? x = some (excO C t1) → Q .none { s with heap := h' }) :
    wpAny (model P w) A (call (.ref u) []) Q E s := by
  obtain ⟨hh, g, d, tk, os⟩ := s
  refine wpAny_call (codeAny_of_tree ?_)
  show wpAny _ A.in1 (callAny (.ref u) ⟨[], []⟩) _ _ _
  simp only [callAny]
  refine wpAny_bind (wpAny_load hu ?_)
  simp only [kxs_mw, show (Value.type "method-wrapper" == Value.type "method" || Value.type "method-wrapper" == Value.type "builtin_function_or_method" || Value.type "method-wrapper" == Value.type "method-wrapper") = true by decide, if_true]
  refine KFB.if_so (by decide) ?_
  refine wpAny_bind (check_bound_init F.excBase_ValueError.toExcCallFacts hC hx rfl ?_)
  refine wpAny_bind (wpAny_pure (wpAny_pure ?_))
  refine ⟨plainId_quiet F.excBase_ValueError.init.plain _, codeAny_builtin F.excBase_ValueError.initEntry ?_⟩
  exact exc_init_tree (cls := .ref C) (t0 := t0) (dv := none) (c2 := .none) (c3 := .none) (b4 := .bool false) hx (Nat.zero_le _) fun h' k e _ => hq h' hh.objs.size k e
theorem ldK {M : Model} {name : Str} {scope : Scope} {L a cc : Addr} {cd : Value} {m : Str → Option Value} {x : Str} {pos : Pos} {v : Value} {Q : Value → Shared → Prop} (hn : s.heap.Ns L m) (hv : m x = some v) (h : Q v s)
    (hk : scope.kind = .function := by rfl) (hl : (ksEnv name scope L a cd cc).kindOf x = some .local := by rfl) (hd : (x == ("__debug__" : Str)) = false := by decide) :
    wpAny M A (eval (.Name x pos) (ksEnv name scope L a cd cc)) Q E s := wpAny_Name (wpAny_loadName_local hk hl hn hv h) hd
theorem he_super {q1 q2 q3 q4 : Pos} {env : Env} (hline : (q3.endLine == q4.line) = true) :
    eval (.Call (.Attribute (.Call (.Name "super" q1) [] [] q2) "__init__" q3) [] [] q4) env = (do
      let ov ← attributeBase (.Call (.Name "super" q1) [] [] q2) "__init__" env (eval (.Call (.Name "super" q1) [] [] q2) env)
      standAt q3.atName
      let (f, first) ← holding [ov] (getMethod ov "__init__" (do return (← importBound (.Call (.Name "super" q1) [] [] q2) env).getD true))
      callWith q4 f first (backTo q4 (starEach [] env)) []) := by
  rw [arm_eval_Call]
  have e : ∀ ov, methodCall (.Call (.Name "super" q1) [] [] q2) "__init__" q3 q4 env ov (([] : List Expr).length + ([] : List Keyword).length) (backTo q4 (starEach [] env)) (backToKw q4 (keywordEach [] env)) = (do
      let (f, first) ← holding [ov] (getMethod ov "__init__" (do return (← importBound (.Call (.Name "super" q1) [] [] q2) env).getD true))
      callWith q4 f first (backTo q4 (starEach [] env)) []) := fun ov => by
    have f : methodCallForm (([] : List Expr).length + ([] : List Keyword).length) (backTo q4 (starEach [] env)) (backToKw q4 (keywordEach [] env)) = true := by rfl
    have g : methodCallPos true (.Call (.Name "super" q1) [] [] q2) env q3 q4 = pure q4 := by unfold methodCallPos; simp [hline]
    unfold methodCall calleeOf
    rw [f, g]
    rfl
  simp only [e]
theorem init_run {mg mb : Str → Option Value} {x t0 : Addr} {v : Value} {args : Args} (T : ErrC K P C f) (X : K.In s.heap) (hlim : s.heap.NoLimit) (hg : s.heap.Ns mainGlobals mg) (hgs : mg "super" = none) (hb : s.heap.Ns builtinsNs mb) (hbs : mb "super" = some (.type "super"))
    (hx : s.heap.get? x = some (excO C t0)) (hnx : K.lookup x = none) (hroom : A.depth < recursionLimit) (hbind : ∀ fd oc od osl, K.lookup f = some ⟨oc, od, .func fd, osl⟩ → BindsTo s fd args [("self", .ref x), ("value", v)])
    (hq : ∀ h' tk dx t1, Made s.heap h' x C dx t1 v → R (.ok (.ret .none)) { s with heap := h', toks := tk }) :
    codeAny (model P w) A (.call (.ref f) args) R s := by
  obtain ⟨nm, q, N, bs, bm, sn, sub, ab, col, dd, k0, k1, k2, k3, k5, hC, hbm, hal⟩ := T.cls
  obtain ⟨oc, dV, kV, doc, pm, cda, cA, cc, od, an, osl, ct, qual, p1, p2, p3, q1, q2, q3, q4, q5, q6, q7, q8, q9, ho, hcd, _, ⟨ccl, cdd, vs, ccs, file, tf, hcode, hvs, hfile⟩, hline, ⟨cl, cld, csl, hcell⟩⟩ := T.fn
  have hcl : clsIn K C = some { name := nm, bases := bs, mro := .ref C :: bm, ns := N, qualname := q, hasDict := true, slotNames := sn, subclasses := sub, abstract := ab, collection := col, hasDel := false } := by unfold clsIn; rw [hC] <;> rfl
  have hxC : x ≠ C := fun z => by
    have e := X _ _ hC
    rw [z] at hx
    rw [hx] at e
    cases e
  have hloc : ∀ y ∈ ([(("self" : Str), Value.ref x), (("value" : Str), v)] : List (Str × Value)), iScope.names.lookup y.1 = some .local := fun y hy => by
    rcases List.mem_cons.mp hy with rfl | hy
    · rfl
    · rcases List.mem_cons.mp hy with rfl | hy
      · rfl
      · cases hy
  refine ks_codeAny_call_defAt (fd := ksFn "__init__" qual (iArgs p1 p2 p3) (iBody q1 q2 q3 q4 q5 q6 q7 q8 q9) iScope dV kV doc pm an (.ref cA) ct cc) (body := iBody q1 q2 q3 q4 q5 q6 q7 q8 q9) (binds := [("self", .ref x), ("value", v)]) hroom (X _ _ ho) rfl hlim (codeRec_of X hcd) rfl (hbind _ _ _ _ ho) (show ∀ x ∈ iScope.names, x.2 ≠ .cell by decide) hloc (fun h₁ hns hk₁ => ?_)
  have X₁ : K.In h₁ := X.keeps hk₁
  have hx₁ := hk₁ _ _ hx
  have L1 : h₁.Ns s.heap.objs.size (fun y => ([(("value" : Str), v), (("self" : Str), Value.ref x)] : List (Str × Value)).lookup y) := hns
  obtain ⟨hh, g, d, tk, os⟩ := s
  show wpAt _ _ (.func _ (ksEnv qual iScope hh.objs.size f (.ref cA) cc)) (execs _ (ksEnv qual iScope hh.objs.size f (.ref cA) cc)) _ _ ⟨h₁, g, d, _, os⟩
  refine ks_wpAt_execs_cons (ks_wpAt_Expr_any (ks_wpAt_MethodCall (pl := do return (← importBound (.Call (.Name "super" q1) [] [] q2) (ksEnv qual iScope hh.objs.size f (.ref cA) cc)).getD true) ?_ (he_super hline)))
  -- super()
  refine ks_wpAt_super_base (env := ksEnv qual iScope hh.objs.size f (.ref cA) cc) (by rfl) (by rfl) (by decide) rfl (X₁ _ _ ho) rfl (by rfl) rfl (X₁ _ _ hcode) rfl hvs hfile T.top ?_
  refine ks_loadName_global rfl (by rfl) (loadGlobal_builtin (env := ksEnv qual iScope hh.objs.size f (.ref cA) cc) (hg.keeps hk₁) hgs (hb.keeps hk₁) hbs ⟨rfl, ?_⟩)
  refine wpAny_loadName_free rfl (by rfl) rfl ⟨_, X₁ _ _ hcell, rfl⟩ ?_
  refine wpAny_loadName_local rfl (by rfl) L1 (by rfl) ?_
  refine ks_wpAny_isType_cls (X₁ _ _ hC) rfl ⟨rfl, ?_⟩
  refine ks_wpAny_call_super (X₁ _ _ hC) rfl hx₁ rfl (fun c e => by cases e) (looks_mroIn X₁ T.slf) (fun h₂ e₂ k₂ => ?_)
  -- .__init__
  have X₂ : K.In h₂ := X₁.keeps k₂
  have hx₂ := k₂ _ _ hx₁
  have I₂ : InstAt h₂ x (excO C t0) C none := ⟨hx₂, rfl, rfl, trivial⟩
  refine kxs_getMethod kxs_ValueError e₂ (looks_opaque X₂ T.opq) (l₀ := .ref C :: bm) (fun A Q E s k q => wpAny_bind ((looks_clsIn X₂ hcl) A _ E s k (wpAny_pure q))) rfl X₂ hal (I₂.type.andThen (looks_subIn X₂ T.exC)) hxC (by decide) ?_
  -- ()
  refine kxs_callWith (i := "ValueError.__init__") (x := x) rfl (evalArgs_empty ⟨Heap.get?_push_at rfl rfl, ?_⟩)
  have k₃ : ∀ b o, h₂.get? b = some o → (h₂.push (kxs_mw "ValueError.__init__" x)).get? b = some o := fun b o e => Heap.get?_push_of_some _ e
  refine call_wrapper (C := C) (t0 := t0) (k₃ _ _ (X₂ _ _ hC)) (k₃ _ _ hx₂) (Heap.get?_push_at rfl rfl) (fun h₃ t1 k₄ hx₃ => ?_)
  -- self.value = value
  have neL : hh.objs.size ≠ x := Nat.ne_of_gt (Heap.lt_size hx)
  have kk : ∀ b o, b ≠ x → h₁.get? b = some o → h₃.get? b = some o := fun b o hb e => k₄ b o hb (k₃ b o (k₂ b o e))
  have X₃ : K.In h₃ := fun b o e => kk b o (fun z => by rw [z, hnx] at e; cases e) (X₁ _ _ e)
  have L3 : h₃.Ns hh.objs.size (fun y => ([(("value" : Str), v), (("self" : Str), Value.ref x)] : List (Str × Value)).lookup y) := by
    obtain ⟨oL, es, ep, hL, r⟩ := L1
    exact ⟨oL, es, ep, kk _ _ neL hL, r⟩
  refine wpAt_of_wpAny (wpAny_execs_cons (plainObj_wpAny_Assign_Attribute ?_))
  refine ldK (v := v) L3 (by rfl) (ldK (v := .ref x) L3 (by rfl) ?_)
  refine set_plain X₃ (ox := excO C t1) (od := none) ⟨hx₃, rfl, rfl, trivial⟩ T.sa ?_
  refine exc_osa X₃ hx₃ hcl (show refsVE (.ref C :: bm) = true from hbm) rfl T.noV (fun h₄ tk₄ dx k₅ dn dne hx₄ hn₄ => ?_)
  show wpAny _ _ (execs _ _) _ _ _
  refine wpAny_execs_nil (hq h₄ tk₄ dx t1 ⟨fun b o hb' e => k₅ b o hb' (kk b o hb' (hk₁ b o e)), hx₄, ?_, dne, hn₄⟩)
  obtain ⟨oL, es, ep, hL, r⟩ := L3
  exact Nat.le_trans (Nat.le_of_lt (Heap.lt_size hL)) dn
end
end Err
end PySem
/-! Such errors as values in the hand layer: made by place, by name, without an argument; the field read; isinstance. -/
namespace Err
open PySem PySem.Spec PyProof.Rows L2 PySem.Err
/-- what the written part says of any own class of errors over ValueError, as to reading and kinds -/
structure ErrA (K : PySem.W.Frag) (C : Addr) : Prop where
  cls : ∃ nm q N bs bm sn sub ab col dd k0 k1 k2 k3 k5, K.lookup C = some (excClassObj nm q C N bs bm true sn sub ab col dd k0 k1 k2 k3 k5 "ValueError.__new__") ∧ PySem.HandSPX.refsVE bm = true
  ga : PySem.W.findIn K (.ref C) "__getattribute__" = some (some (.builtin "BaseException.__getattribute__"))
  gg : PySem.W.findIn K (.ref C) "__getattr__" = some none
  exB : PySem.W.subIn K (.ref C) (.type "BaseException") = some true
  hd : PySem.W.hasDictIn K C = true
  kp : PySem.W.keepIn K (.ref C) = true
  noV : PySem.W.findIn K (.ref C) "value" = some none
  ca : PySem.W.findIn K (.ref C) "__class__" = some (some (.builtin "object.__class__"))
  cg : PySem.W.specialIn K (.builtin "object.__class__") "__get__" = some (some (.builtin "getset_descriptor.__get__"))
  ct : PySem.W.takesIn K (.builtin "object.__class__") = some true
  co : PySem.W.mroIn K C (.type "object") = some true
  cs : (PySem.W.clsIn K C).isSome = true
/-- the exception made: at e, its dict at d -/
def laidE (H : Hp) (C e d : Addr) (v : V) : Hp := upd (upd H d (exd d [(("value" : Str), v)])) e (exo e C (some d))
theorem relO_value {v : V} {u : Value} (r : RelV v u) (y : Str) : RelO (List.lookup y [(("value" : Str), v)]) (if y = "value" then some u else none) := by
  rw [lookup_put]
  by_cases h : y = ("value" : Str)
  · rw [if_pos h, if_pos h]
    exact r
  · rw [if_neg h, if_neg h]
    exact True.intro
section
variable {X : Cx} {pins : List (Addr × Obj)} {σ : L2.St} {H : Hp} {s : Shared} {C f : Addr} {v : V} {u : Value}
theorem bind1 (T : ErrC X.K X.prog C f) (KX : X.K.In s.heap) {x : Addr} : ∀ fd oc od osl, X.K.lookup f = some ⟨oc, od, .func fd, osl⟩ → BindsTo s fd ⟨[.ref x, u], []⟩ [("self", .ref x), ("value", u)] := by
  intro fd oc' od' osl' h
  obtain ⟨oc, dV, kV, doc, pm, cda, cA, cc, od, an, osl, ct, qual, p1, p2, p3, q1, q2, q3, q4, q5, q6, q7, q8, q9, ho, _, ⟨D, oD, its, n, rfl, hD, hd, hi⟩, _⟩ := T.fn
  rw [ho] at h
  cases h
  obtain ⟨l⟩ := its
  cases (show l = [Value.none] from hi)
  exact PySem.W.binds_K KX rfl hD hd (by rfl) (by rfl)
theorem bindK (T : ErrC X.K X.prog C f) (KX : X.K.In s.heap) {x : Addr} : ∀ fd oc od osl, X.K.lookup f = some ⟨oc, od, .func fd, osl⟩ → BindsTo s fd ⟨[.ref x], [("value", u)]⟩ [("self", .ref x), ("value", u)] := by
  intro fd oc' od' osl' h
  obtain ⟨oc, dV, kV, doc, pm, cda, cA, cc, od, an, osl, ct, qual, p1, p2, p3, q1, q2, q3, q4, q5, q6, q7, q8, q9, ho, _, ⟨D, oD, its, n, rfl, hD, hd, hi⟩, _⟩ := T.fn
  rw [ho] at h
  cases h
  obtain ⟨l⟩ := its
  cases (show l = [Value.none] from hi)
  exact PySem.W.binds_K KX rfl hD hd (by rfl) (by rfl)
theorem bind0 (T : ErrC X.K X.prog C f) (KX : X.K.In s.heap) {x : Addr} : ∀ fd oc od osl, X.K.lookup f = some ⟨oc, od, .func fd, osl⟩ → BindsTo s fd ⟨[.ref x], []⟩ [("self", .ref x), ("value", .none)] := by
  intro fd oc' od' osl' h
  obtain ⟨oc, dV, kV, doc, pm, cda, cA, cc, od, an, osl, ct, qual, p1, p2, p3, q1, q2, q3, q4, q5, q6, q7, q8, q9, ho, _, ⟨D, oD, its, n, rfl, hD, hd, hi⟩, _⟩ := T.fn
  rw [ho] at h
  cases h
  obtain ⟨l⟩ := its
  cases (show l = [Value.none] from hi)
  exact PySem.W.binds_K KX rfl hD hd (by rfl) (by rfl)
/-- a class called: us, kw bind to v -/
theorem mk_ok {us : List Value} {kw : List (Str × Value)} {Q : Value → Shared → Prop} {E : Value → Shared → Prop} (T : ErrC X.K X.prog C f) (I : Inv X pins σ H s) (hr : Room 1 X.A) (hgs : X.mg "super" = none) (hus : us.length ≤ 1) (ru : RelV v u)
    (hb : ∀ (s' : Shared) (x : Addr), X.K.In s'.heap → ∀ fd oc od osl, X.K.lookup f = some ⟨oc, od, .func fd, osl⟩ → BindsTo s' fd ⟨.ref x :: us, kw⟩ [("self", .ref x), ("value", u)])
    (h : ∀ e d s', H e = none → H d = none → d ≠ e → Inv X pins σ (laidE H C e d v) s' → Q (.ref e) s') : wpAny (model X.prog X.w) X.A (call (.ref C) us kw) Q E s := by
  obtain ⟨nm, q, N, bs, bm, sn, sub, ab, col, dd, k0, k1, k2, k3, k5, hC, hbm, hal⟩ := T.cls
  obtain ⟨mb, hb1, hb2⟩ := I.mod.blt
  have X0 := I.kIn
  have lim := I.nolimit
  have hg0 : s.heap.Ns mainGlobals X.mg := I.mod.glob.keeps I.bk
  have hb0 : s.heap.Ns builtinsNs mb := hb1.keeps I.bk
  obtain ⟨hp, g, dr, tk, os⟩ := s
  have hus' : us.length ≤ sizeLine := by rw [sizeLine_eq]; omega
  have kk : ∀ b o, hp.get? b = some o → ((hp.push (PySem.W.kdv_tup us)).push (PySem.HandSPX.excO C hp.objs.size)).get? b = some o := fun b o e => Heap.get?_push_of_some _ (Heap.get?_push_of_some _ e)
  have hget : ((hp.push (PySem.W.kdv_tup us)).push (PySem.HandSPX.excO C hp.objs.size)).get? (hp.objs.size + 1) = some (PySem.HandSPX.excO C hp.objs.size) := by heap_get
  have hnx : X.K.lookup (hp.objs.size + 1) = none := by
    cases e : X.K.lookup (hp.objs.size + 1) with
    | none => rfl
    | some o => exact absurd (Nat.lt_of_succ_lt (Heap.lt_size (X0 _ _ e))) (Nat.lt_irrefl _)
  refine wpAny_call (call_kw F.excBase_ValueError (fun Y => PySem.HandSPX.refsVE_contains Y bm hbm) (X0 _ _ hC) (PySem.W.looks_findIn X0 T.ini) (fun self => PySem.W.bind_fn X0 self T.tyF) hus' ?_)
  refine init_run (s := ⟨(hp.push (PySem.W.kdv_tup us)).push (PySem.HandSPX.excO C hp.objs.size), g, dr, tk, os⟩) (v := u) (t0 := hp.objs.size) T (X0.keeps kk) (lim.keeps kk) (hg0.keeps kk) hgs (hb0.keeps kk) ((hb2 "super" (by decide)).trans (by decide +kernel)) hget hnx (hr.make C us kw).depth (hb _ _ (X0.keeps kk)) (fun h' tk' dx t1 M => ⟨rfl, ?_⟩)
  have dbig : hp.objs.size ≤ dx := Nat.le_trans (by rw [Heap.size_push, Heap.size_push]; omega) M.dbig
  have ebig : hp.objs.size ≤ hp.objs.size + 1 := Nat.le_succ _
  have hde : H dx = none := I.hok.fresh dbig
  have hee : H (hp.objs.size + 1) = none := I.hok.fresh ebig
  have old : ∀ b o, hp.get? b = some o → h'.get? b = some o := fun b o e => M.keep b o (Nat.ne_of_lt (Nat.lt_succ_of_lt (Heap.lt_size e))) (kk b o e)
  have nde : dx ≠ hp.objs.size + 1 := M.dne
  have nd : ∀ {b : Addr} {o : Obj}, hp.get? b = some o → b ≠ dx := fun {b o} q => Nat.ne_of_lt (Nat.lt_of_lt_of_le (Heap.lt_size q) dbig)
  have ne : ∀ {b : Addr} {o : Obj}, hp.get? b = some o → b ≠ hp.objs.size + 1 := fun {b o} q => Nat.ne_of_lt (Nat.lt_of_lt_of_le (Heap.lt_size q) ebig)
  have th : ∀ {b : Addr} {o : HO}, H b = some o → laidE H C (hp.objs.size + 1) dx v b = some o := fun {b o} q => by
    unfold laidE
    rw [upd_ne (ne_of_none q hee), upd_ne (ne_of_none q hde)]
    exact q
  have U : Un X.fs [] H (laidE H C (hp.objs.size + 1) dx v) hp h' := {
    keep := fun b o q _ _ _ => old b o q
    slot := fun b o q _ _ _ => ⟨o.slots, old b o q⟩
    free := fun b o q n _ => by
      unfold laidE
      rw [upd_ne (ne q), upd_ne (nd q)]
      exact n
    there := fun b o q _ => ⟨o, old b o q⟩
    tups := fun b xs q => th q
    frzs := fun b o u q => th q
    tbls := fun b ps q => ⟨#[], by rw [th q]; simp⟩ }
  refine h _ _ ⟨h', g, dr, tk', os⟩ hee hde M.dne (I.un (t' := tk') U fun b o q => ?_)
  unfold laidE at q
  by_cases hbe : b = hp.objs.size + 1
  · subst hbe
    rw [upd_same] at q
    cases q
    exact exo_ok M.obj
  · rw [upd_ne hbe] at q
    by_cases hbd : b = dx
    · subst hbd
      rw [upd_same] at q
      cases q
      exact exd_ok M.ns (relO_value ru)
    · rw [upd_ne hbd] at q
      exact (I.hok b o q).stay (fun c u _ z => old c u z) (fun c z => th z) fun c xs z => th z
end
/-! ### readings and rules -/
def tMkE (C : Addr) (ta : TA) : TE := fun σ H Q => ta σ H fun vs H1 => ∃ v, vs = [v] ∧ ∀ e d, H1 e = none → H1 d = none → d ≠ e → Q (.ref e) (laidE H1 C e d v)
def tMkE0 (C : Addr) : TE := fun _ H Q => ∀ e d, H e = none → H d = none → d ≠ e → Q (.ref e) (laidE H C e d .non)
def tErrV (K : PySem.W.Frag) (te : TE) : TE := fun σ H Q => te σ H fun x H1 => ∃ e C d v, x = .ref e ∧ ErrA K C ∧ H1 e = some (exo e C (some d)) ∧ H1 d = some (exd d [(("value" : Str), v)]) ∧ Q v H1
/-- isinstance(x, c), x such an error -/
def rIsE (K : PySem.W.Frag) : List V → Hp → VK → Prop := fun xs H Q => ∃ (e C : Addr) (od : Option Addr) (c : V) (u : Value) (b : Bool), xs = [.ref e, c] ∧ ClsV c u ∧ ErrA K C ∧ H e = some (exo e C od) ∧
  (∀ d, od = some d → ∃ fs, H d = some (exd d fs)) ∧ PySem.W.kitOne K (.ref C) u = some b ∧ Q (.bl b) H
section
variable {X : Cx} {C f : Addr} {x : Str} {p pos : Pos} {e : Expr} {te : TE} {kpos : Pos}
theorem pe_mkE (T : ErrC X.K X.prog C f) (kp : PySem.W.keepIn X.K (.ref C) = true) (hr : Room 1 X.A) (hgs : X.mg "super" = none) (hg : Gl X x) (hm : X.mg x = some (.ref C)) (ha : PE X e te)
    (hdb : (x == ("__debug__" : Str)) = false := by decide) (he : starEach [e] X.env = (false, eval e X.env) :: starEach [] X.env := by rfl) :
    PE X (.Call (.Name x p) [e] [] pos) (tMkE C (tCons te tNil)) := by
  refine ⟨fun pins s σ H Q I h => wpAny_Call_Name_kw (ld_glob I hg hm ?_ hdb)⟩
  refine PySem.W.callWith_K (h₀ := X.base) I.ok.mod.kin kp (thn ((pa_cons ha pa_nil he).run pos pins s σ H _ I h) fun us s1 ⟨vs, H1, I1, r, v, ev, q⟩ => ⟨I1.kIn, ?_⟩) he rfl
  subst ev
  obtain ⟨u, rfl, ru⟩ := vals1 r
  exact mk_ok T I1 hr hgs (Nat.le_refl 1) ru (fun s' x KX => bind1 T KX) fun e d s' h1 h2 h3 J => ⟨.ref e, _, J, rfl, q e d h1 h2 h3⟩
theorem pe_mkE0 (T : ErrC X.K X.prog C f) (kp : PySem.W.keepIn X.K (.ref C) = true) (hr : Room 1 X.A) (hgs : X.mg "super" = none) (hg : Gl X x) (hm : X.mg x = some (.ref C))
    (hdb : (x == ("__debug__" : Str)) = false := by decide) : PE X (.Call (.Name x p) [] [] pos) (tMkE0 C) := by
  refine ⟨fun pins s σ H Q I h => wpAny_Call_Name_kw (ld_glob I hg hm ?_ hdb)⟩
  refine PySem.W.callWith_K0 I.kIn kp ?_
  exact mk_ok (us := []) (kw := []) (v := .non) (u := .none) T I hr hgs (Nat.zero_le 1) rfl (fun s' x KX => bind0 T KX) fun e d s' h1 h2 h3 J => ⟨.ref e, _, J, rfl, h e d h1 h2 h3⟩
theorem pe_mkEK (T : ErrC X.K X.prog C f) (kp : PySem.W.keepIn X.K (.ref C) = true) (hr : Room 1 X.A) (hgs : X.mg "super" = none) (hg : Gl X x) (hm : X.mg x = some (.ref C)) (ha : PE X e te)
    (hdb : (x == ("__debug__" : Str)) = false := by decide) (hall : (backToKw pos (keywordEach [⟨some "value", e, kpos⟩] X.env)).all (·.1.isSome) = true := by rfl)
    (hks : (backToKw pos (keywordEach [⟨some "value", e, kpos⟩] X.env)).filterMap (·.1) = [("value" : Str)] := by rfl)
    (hpl : ((backTo pos (starEach [] X.env)).any (·.1) || (backToKw pos (keywordEach [⟨some "value", e, kpos⟩] X.env)).any (·.1.isNone)) = false := by rfl) :
    PE X (.Call (.Name x p) [] [⟨some "value", e, kpos⟩] pos) (tMkE C (tCons te tNil)) := by
  refine ⟨fun pins s σ H Q I h => wpAny_Call_Name_kw (ld_glob I hg hm ?_ hdb)⟩
  refine PySem.W.callWith_KW0 (h₀ := X.base) I.ok.mod.kin kp hall (thn ((pk_cons ha pk_nil).run pos pins s σ H _ I h) fun us s1 ⟨vs, H1, I1, r, v, ev, q⟩ => ⟨I1.kIn, ?_⟩) hpl
  rw [hks]
  subst ev
  obtain ⟨u, rfl, ru⟩ := vals1 r
  exact mk_ok (us := []) (kw := [("value", u)]) T I1 hr hgs (Nat.zero_le 1) ru (fun s' x KX => bindK T KX) fun e d s' h1 h2 h3 J => ⟨.ref e, _, J, rfl, q e d h1 h2 h3⟩
theorem pe_errV (he : PE X e te) (hb : attributeBase e "value" X.env (eval e X.env) = eval e X.env := by rfl) : PE X (.Attribute e "value" pos) (tErrV X.K te) := by
  refine ⟨fun pins s σ H Q I h => attr_of hb (thn (he.run pins s σ H _ I h) fun u s1 ⟨x, H1, I1, rx, a, C, d, v, ex, T, ea, ed, q⟩ => ?_)⟩
  subst ex
  cases (show u = Value.ref a from rx)
  obtain ⟨t1, ho⟩ := exo_at I1.hok ea
  obtain ⟨mA, hns, rel⟩ := exd_at I1.hok ed
  obtain ⟨od, hod, hl⟩ := lookIn_ns hns
  obtain ⟨u2, hu, ru⟩ := RelO.some_of (v := v) (o := mA "value") (by
    have z := rel "value"
    rw [lookup_put, if_pos rfl] at z
    exact z)
  exact PySem.HandSPX.exc_get I1.kIn (od := some od) ⟨ho, rfl, rfl, hod⟩ T.ga T.gg T.exB (PySem.W.findObj_own T.hd T.noV rfl (by rw [hl, hu])) (handed_of ru) ⟨v, H1, I1.tok _, ru, q⟩
theorem call_isE : CallR X (.builtin "isinstance") (rIsE X.K) := by
  intro pins s σ H xs us Q I r h
  obtain ⟨e, C, od, c, u, b, rfl, k, T, ea, ed, ek, q⟩ := h
  obtain ⟨u1, u2, rfl, r1, r2⟩ := vals2 r
  cases k.eq r2
  cases (show u1 = Value.ref e from r1)
  obtain ⟨t1, ho⟩ := exo_at I.hok ea
  have Z : ∀ (ox : Obj) (od : Option Obj), PySem.W.KitX X.K (.ref e) (.ref C) (fun h => PySem.W.InstAt h e ox C od) := fun ox od => PySem.W.kitx_exc T.cs T.ga T.gg T.exB T.ca T.cg T.ct T.co
  cases od with
  | none => exact PySem.W.kia_one (Z _ none) I.kIn ⟨ho, rfl, rfl, trivial⟩ ek (fun z => nomatch z) fun tk => ⟨.bl b, H, I.tok tk, rfl, q⟩
  | some d =>
    obtain ⟨fs, efs⟩ := ed d rfl
    obtain ⟨mA, hns, rel⟩ := exd_at I.hok efs
    obtain ⟨od, hod, hl⟩ := lookIn_ns hns
    exact PySem.W.kia_one (Z _ (some od)) I.kIn ⟨ho, rfl, rfl, hod⟩ ek (fun z => nomatch z) fun tk => ⟨.bl b, H, I.tok tk, rfl, q⟩
end
end Err
/-! An own class of errors without an __init__ of its own, called without arguments. -/
namespace Err
open PySem PySem.Spec PyProof.Rows L2 PySem.Err
structure ErrB (K : PySem.W.Frag) (C : Addr) : Prop where
  cls : ∃ nm q N bs bm sn sub ab col dd k0 k1 k2 k3 k5, K.lookup C = some (excClassObj nm q C N bs bm true sn sub ab col dd k0 k1 k2 k3 k5 "ValueError.__new__") ∧ PySem.HandSPX.refsVE bm = true
  ini : PySem.W.findIn K (.ref C) "__init__" = some (some (.builtin "ValueError.__init__"))
def tMkB (C : Addr) : TE := fun _ H Q => ∀ e, H e = none → Q (.ref e) (upd H e (exo e C none))
section
variable {X : Cx} {C : Addr} {x : Str} {p pos : Pos}
theorem pe_mkB (T : ErrB X.K C) (kp : PySem.W.keepIn X.K (.ref C) = true) (hg : Gl X x) (hm : X.mg x = some (.ref C)) (hdb : (x == ("__debug__" : Str)) = false := by decide) : PE X (.Call (.Name x p) [] [] pos) (tMkB C) := by
  refine ⟨fun pins s σ H Q I h => wpAny_Call_Name_kw (ld_glob I hg hm ?_ hdb)⟩
  refine PySem.W.callWith_K0 I.kIn kp ?_
  obtain ⟨nm, q, N, bs, bm, sn, sub, ab, col, dd, k0, k1, k2, k3, k5, hC, hbm⟩ := T.cls
  have X0 := I.kIn
  obtain ⟨hp, g, dr, tk, os⟩ := s
  refine PySem.W.call_B F.excBase_ValueError (fun Y => PySem.HandSPX.refsVE_contains Y bm hbm) (X0 _ _ hC) (PySem.W.looks_findIn X0 T.ini) (Nat.zero_le _) (fun h' k he ht => ?_)
  have ebig : hp.objs.size ≤ hp.objs.size + 1 := Nat.le_succ _
  have hee : H (hp.objs.size + 1) = none := I.hok.fresh ebig
  have ne : ∀ {b : Addr} {o : Obj}, hp.get? b = some o → b ≠ hp.objs.size + 1 := fun {b o} q => Nat.ne_of_lt (Nat.lt_of_lt_of_le (Heap.lt_size q) ebig)
  have th : ∀ {b : Addr} {o : HO}, H b = some o → upd H (hp.objs.size + 1) (exo (hp.objs.size + 1) C none) b = some o := fun {b o} q => by
    rw [upd_ne (ne_of_none q hee)]
    exact q
  have U : Un X.fs [] H (upd H (hp.objs.size + 1) (exo (hp.objs.size + 1) C none)) hp h' := {
    keep := fun b o q _ _ _ => k b o q
    slot := fun b o q _ _ _ => ⟨o.slots, k b o q⟩
    free := fun b o q n _ => by
      rw [upd_ne (ne q)]
      exact n
    there := fun b o q _ => ⟨o, k b o q⟩
    tups := fun b xs q => th q
    frzs := fun b o u q => th q
    tbls := fun b ps q => ⟨#[], by rw [th q]; simp⟩ }
  refine ⟨.ref (hp.objs.size + 1), _, I.un (t' := tk) U fun b o q => ?_, rfl, h _ hee⟩
  by_cases hbe : b = hp.objs.size + 1
  · subst hbe
    rw [upd_same] at q
    cases q
    exact exo_ok he
  · rw [upd_ne hbe] at q
    exact (I.hok b o q).stay (fun c u _ z => k c u z) (fun c z => th z) fun c xs z => th z
end
end Err
/-! repr of data at any depth: nothing, truths, ints, texts, lists, tuples, dicts of int and text keys. -/
namespace Rp
open PySem PySem.Spec PyProof.Rows L2
def kD : Key → PyData
  | .inl i => .int i
  | .inr x => .str x
mutual
inductive Dx (K : PySem.W.Frag) (H : Hp) : V → PyData → Prop where
  | non : Dx K H .non .none
  | bl (b : Bool) : Dx K H (.bl b) (.bool b)
  | int (i : Int) : Dx K H (.int i) (.int i)
  | str (x : Str) : Dx K H (.str x) (.str x)
  | lst {a : Addr} {xs : List V} {ds : List PyData} : H a = some (.lst xs) → DxAll K H xs ds → Dx K H (.ref a) (.list ds)
  | tup {a : Addr} {xs : List V} {ds : List PyData} : H a = some (.tup xs) → DxAll K H xs ds → Dx K H (.ref a) (.tuple ds)
  | dct {a : Addr} {kvs : List (Key × V)} {ds : List (PyData × PyData)} : H a = some (.dK kvs) → DxKv K H kvs ds → Dx K H (.ref a) (.dict ds)
inductive DxAll (K : PySem.W.Frag) (H : Hp) : List V → List PyData → Prop where
  | nil : DxAll K H [] []
  | cons {v : V} {vs : List V} {d : PyData} {ds : List PyData} : Dx K H v d → DxAll K H vs ds → DxAll K H (v :: vs) (d :: ds)
inductive DxKv (K : PySem.W.Frag) (H : Hp) : List (Key × V) → List (PyData × PyData) → Prop where
  | nil : DxKv K H [] []
  | cons {k : Key} {v : V} {vs : List (Key × V)} {d : PyData} {ds : List (PyData × PyData)} : Dx K H v d → DxKv K H vs ds → DxKv K H ((k, v) :: vs) ((kD k, d) :: ds)
end
/-- sys.modules is one of the module's own objects -/
def SysIn (K : PySem.W.Frag) : Prop := ∃ o, K.lookup sysModules = some o
theorem reads_key {h : Heap} {k : Key} {v : Value} (e : keyIs k v = true) : Reads h v (kD k) [] := by
  rcases keyIs_shape e with ⟨i, t, rfl, rfl⟩ | ⟨x, t, rfl, rfl⟩
  · exact Reads.int i t
  · exact Reads.str x t
section
variable {X : Cx} {pins : List (Addr × Obj)} {σ : L2.St} {H : Hp} {s : Shared}
theorem sys_free (SY : SysIn X.K) (I : Inv X pins σ H s) {a : Addr} {o : HO} (e : H a = some o) : a ≠ sysModules := fun z => by
  obtain ⟨ob, hob⟩ := SY
  have q := (I.bs _ _ (I.ok.mod.kin _ _ hob)).2
  rw [z, q] at e
  cases e
mutual
theorem Dx.reads (SY : SysIn X.K) (I : Inv X pins σ H s) : ∀ (d : PyData) (v : V) (u : Value), Dx X.K H v d → RelV v u → ∃ as, Reads s.heap u d as ∧ sysModules ∉ as
  | .none, _, _, h, r => by
    cases h
    cases r
    exact ⟨_, Reads.none, by simp⟩
  | .bool b, _, _, h, r => by
    cases h
    cases r
    exact ⟨_, Reads.bool b, by simp⟩
  | .int i, _, _, h, r => by
    cases h
    obtain ⟨t, rfl⟩ := r
    exact ⟨_, Reads.int i t, by simp⟩
  | .str x, _, _, h, r => by
    cases h
    obtain ⟨t, rfl⟩ := r
    exact ⟨_, Reads.str x t, by simp⟩
  | .list ds, _, _, h, r => by
    cases h with
    | @lst a xs _ ea hA =>
      cases (show _ = Value.ref a from r)
      obtain ⟨_, its, n, rv, ho⟩ := (show ObjOk X.prog X.w H s.heap a (.lst xs) from I.hok a _ ea)
      obtain ⟨as, ra, ns⟩ := DxAll.reads SY I ds xs its hA rv
      refine ⟨_, Reads.list ho rfl rfl (by simpa using ra), fun z => ?_⟩
      rcases List.mem_cons.mp z with z | z
      · exact sys_free SY I ea z.symm
      · exact ns z
  | .tuple ds, _, _, h, r => by
    cases h with
    | @tup a xs _ ea hA =>
      cases (show _ = Value.ref a from r)
      obtain ⟨_, its, rv, o, h1, h2, n, h3⟩ := (show ObjOk X.prog X.w H s.heap a (.tup xs) from I.hok a _ ea)
      obtain ⟨as, ra, ns⟩ := DxAll.reads SY I ds xs its hA rv
      exact ⟨_, Reads.tuple h1 h2 h3 (by simpa using ra), ns⟩
  | .dict ds, _, _, h, r => by
    cases h with
    | @dct a kvs _ ea hA =>
      cases (show _ = Value.ref a from r)
      obtain ⟨_, hsy, vs, kv, o, es, ep, h1, h2, h3, h4, h5, _⟩ := (show ObjOk X.prog X.w H s.heap a (.dK kvs) from I.hok a _ ea)
      obtain ⟨as, bs, ra, rb, na, nb⟩ := DxKv.reads SY I ds kvs vs es.toList hA kv h5
      refine ⟨_, Reads.dict h1 h2.1 h3 ra rb, fun z => ?_⟩
      rcases List.mem_append.mp z with z | z
      · rcases List.mem_cons.mp z with z | z
        · exact sys_free SY I ea z.symm
        · exact na z
      · exact nb z
theorem DxAll.reads (SY : SysIn X.K) (I : Inv X pins σ H s) : ∀ (ds : List PyData) (vs : List V) (us : List Value), DxAll X.K H vs ds → Vals vs us → ∃ as, ReadsAll s.heap us ds as ∧ sysModules ∉ as
  | [], _, _, h, r => by
    cases h
    cases r
    exact ⟨[], ReadsAll.nil, by simp⟩
  | d :: ds, _, _, h, r => by
    cases h with
    | cons h1 h2 =>
      cases r with
      | cons r1 r2 =>
        obtain ⟨as, ra, na⟩ := Dx.reads SY I d _ _ h1 r1
        obtain ⟨bs, rb, nb⟩ := DxAll.reads SY I ds _ _ h2 r2
        exact ⟨_, ReadsAll.cons ra rb, fun z => (List.mem_append.mp z).elim na nb⟩
theorem DxKv.reads (SY : SysIn X.K) (I : Inv X pins σ H s) : ∀ (ds : List (PyData × PyData)) (kvs : List (Key × V)) (vs : List (Key × Value)) (es : List DictEntry), DxKv X.K H kvs ds → KV kvs vs → Pairs (mixKind X.prog X.w) es vs →
    ∃ as bs, ReadsAll s.heap (es.map (·.key)) (ds.map (·.1)) as ∧ ReadsAll s.heap (es.map (·.val)) (ds.map (·.2)) bs ∧ sysModules ∉ as ∧ sysModules ∉ bs
  | [], _, _, _, h, r, p => by
    cases h
    cases r
    cases p
    exact ⟨[], [], ReadsAll.nil, ReadsAll.nil, by simp, by simp⟩
  | d :: ds, _, _, _, h, r, p => by
    cases h with
    | cons h1 h2 =>
      cases r with
      | cons r1 r2 =>
        cases p with
        | @cons e q es' kvs' p1 p2 p3 =>
          rename_i k v vs' d' ws' q0
          obtain ⟨as, ra, na⟩ := Dx.reads SY I _ _ _ h1 r1.2
          obtain ⟨cs, bs, rc, rb, nc, nb⟩ := DxKv.reads SY I ds _ _ _ h2 r2 p3
          obtain ⟨e1, e2⟩ := r1
          refine ⟨_, _, ReadsAll.cons (reads_key (k := k) (by
            have z : keyIs ws'.1 e.key = true := p1
            rw [← e1] at z
            exact z)) rc, ReadsAll.cons (by show Reads s.heap e.val d' as; rw [p2]; exact ra) rb, by simpa using nc, fun z => (List.mem_append.mp z).elim na nb⟩
end
/-- repr(x) of such data -/
def rRepr (K : PySem.W.Frag) : List V → Hp → VK → Prop := fun xs H Q => ∃ (v : V) (d : PyData), xs = [v] ∧ Dx K H v d ∧ d.showable = true ∧ d.depth ≤ 50 ∧ d.shown.length ≤ sizeLine ∧ Q (.str d.shown) H
theorem call_reprD (hgu : X.A.guards = some []) (hu : X.A.units + 64 < cLine) (SY : SysIn X.K) : CallR X (.builtin "repr") (rRepr X.K) := by
  intro pins s σ H xs us Q I r h
  obtain ⟨v, d, rfl, hd, hs, hz, hl, q⟩ := h
  obtain ⟨u, rfl, ru⟩ := vals1 r
  obtain ⟨as, ra, na⟩ := Dx.reads SY I d v u hd ru
  cases hd with
  | non =>
    cases (show u = Value.none from ru)
    exact PySem.P.repr_of_none ⟨.str _, H, I.tok _, ⟨_, rfl⟩, by simpa only [PyData.shown] using q⟩
  | bl b =>
    cases (show u = Value.bool b from ru)
    exact PySem.P.repr_of_bool ⟨.str _, H, I.tok _, ⟨_, rfl⟩, by simpa only [PyData.shown] using q⟩
  | int i =>
    obtain ⟨t, rfl⟩ := ru
    exact PySem.P.repr_of_int (by simpa [PyData.showable] using hs) ⟨.str _, H, I.tok _, ⟨_, rfl⟩, by simpa only [PyData.shown] using q⟩
  | str x =>
    obtain ⟨t, rfl⟩ := ru
    exact PySem.P.repr_of_str ⟨.str _, H, I.tok _, ⟨_, rfl⟩, by simpa only [PyData.shown] using q⟩ (by simpa only [PyData.shown] using hl)
  | lst ea hA =>
    cases (show u = _ from ru)
    exact PySem.repr_of_reads' ra hs (fun _ => na) hgu (by omega) (fun _ _ e => e) (fun h' tk t k => ⟨.str _, H, I.kept k, ⟨_, rfl⟩, q⟩) hl
  | tup ea hA =>
    cases (show u = _ from ru)
    exact PySem.repr_of_reads' ra hs (fun _ => na) hgu (by omega) (fun _ _ e => e) (fun h' tk t k => ⟨.str _, H, I.kept k, ⟨_, rfl⟩, q⟩) hl
  | dct ea hA =>
    cases (show u = _ from ru)
    exact PySem.repr_of_reads' ra hs (fun _ => na) hgu (by omega) (fun _ _ e => e) (fun h' tk t k => ⟨.str _, H, I.kept k, ⟨_, rfl⟩, q⟩) hl
end
end Rp
/-! The words with which the bodies are read: a def by its name alone, operations by the kinds of their values, readings one after the other. -/
namespace Go
open PySem PySem.Spec PyProof.Rows L2
/-! ### a def of the module by its name: what it promises -/
structure Fb (P : Program) (w : World) (K : PySem.W.Frag) (mg : Str → Option Value) (base : Heap) (k : Nat) (x : Str) (ps : List Str) (dvs : List V) (sp : Sp) : Prop where
  ex : ∃ (f : Addr) (fd : FuncData) (ds : List Value), mg x = some (.ref f) ∧ PySem.W.keepIn K (.ref f) = true ∧ FnOk P w K mg base CX0 k f fd ps sp ∧ Binds K fd ps ds ∧ Vals dvs ds
structure FbG (P : Program) (w : World) (K : PySem.W.Frag) (mg : Str → Option Value) (base : Heap) (k : Nat) (x : Str) (ps : List Str) (dvs : List V) (sp : Sp) : Prop where
  ex : ∃ (f : Addr) (fd : FuncData) (ds : List Value), mg x = some (.ref f) ∧ PySem.W.keepIn K (.ref f) = true ∧ GL.FnG P w K mg base CX0 k f fd ps sp ∧ Binds K fd ps ds ∧ Vals dvs ds
section
variable {X : Cx} {k j : Nat} {x : Str} {ps : List Str} {dvs : List V} {sp : Sp} {p pos : Pos} {e : Expr} {es : List Expr} {t : TA}
theorem pe_fb (F : Fb X.prog X.w X.K X.mg X.base k x ps dvs sp) (hr : Room j X.A) (hg : Gl X x) (ha : PA X (e :: es) t) (hk : k ≤ j := by decide) (hdb : (x == ("__debug__" : Str)) = false := by decide)
    (he : starEach (e :: es) X.env = (false, eval e X.env) :: starEach es X.env := by rfl) (hpl : (backTo pos (starEach es X.env)).any (·.1) = false := by rfl) :
    PE X (.Call (.Name x p) (e :: es) [] pos) (tCall sp dvs E0 t) := by
  obtain ⟨f, fd, ds, hm, kp, F, b, hd⟩ := F.ex
  exact pe_call F (hr.mono hk) hg hm kp b hd pass0 ha hdb he hpl
theorem pe_fb0 (F : Fb X.prog X.w X.K X.mg X.base k x ps dvs sp) (hr : Room j X.A) (hg : Gl X x) (hk : k ≤ j := by decide) (hdb : (x == ("__debug__" : Str)) = false := by decide) :
    PE X (.Call (.Name x p) [] [] pos) (tCall sp dvs E0 tNil) := by
  obtain ⟨f, fd, ds, hm, kp, F, b, hd⟩ := F.ex
  exact pe_call0 F (hr.mono hk) hg hm kp b hd pass0 hdb
theorem pe_fbG (F : FbG X.prog X.w X.K X.mg X.base k x ps dvs sp) (hgu : X.A.guards = some []) (hr : Room j X.A) (hg : Gl X x) (ha : PA X (e :: es) t) (hk : k ≤ j := by decide) (hdb : (x == ("__debug__" : Str)) = false := by decide)
    (he : starEach (e :: es) X.env = (false, eval e X.env) :: starEach es X.env := by rfl) (hpl : (backTo pos (starEach es X.env)).any (·.1) = false := by rfl) :
    PE X (.Call (.Name x p) (e :: es) [] pos) (tCall sp dvs E0 t) := by
  obtain ⟨f, fd, ds, hm, kp, F, b, hd⟩ := F.ex
  exact GL.pe_callG F hgu (hr.mono hk) hg hm kp b hd pass0 ha hdb he hpl
end
/-! ### operations by the kinds of values -/
def rOr (r r' : R2) : R2 := fun x y H Q => r x y H Q ∨ r' x y H Q
section
variable {X : Cx} {f : Value → Value → Sem Value} {r r' : R2}
theorem op_or2 (h : OpR X f r) (h' : OpR X f r') : OpR X f (rOr r r') := fun pins s σ H x y v u Q I rx ry q => q.elim (h pins s σ H x y v u Q I rx ry) (h' pins s σ H x y v u Q I rx ry)
theorem ixK {X : Cx} {K : PySem.W.Frag} (e : X.K = K := by rfl) : IxR X (rIx K) := e ▸ ix_seq
/-- a ** b of any size -/
def CPowW (i j : Int) : Prop := 0 ≤ j ∧ (Builtin.Int.intBits i : Int) * j ≤ 2 ^ 27
theorem op_powW : OpR X (binaryOp .Pow) (rI CPowW fun i j => .int (i ^ j.toNat)) := opI fun _ _ _ _ _ _ _ hc q => PyProof.Rows.pow_int hc.1 hc.2 q
end
/-! ### readings one after the other -/
section
variable {σ : L2.St} {H : Hp} {Q : VK} {D : Ends} {v : V} {i : Nat} {te ta tb : TE} {t u : TS} {g : TG} {c c' : TT} {tr : TA} {r r' : R2} {K : PySem.W.Frag}
theorem var (h : σ[i]? = some (some v)) (q : Q v H) : tVar i σ H Q := ⟨v, h, q⟩
theorem con (q : Q v H) : tC v σ H Q := q
theorem op (h : ta σ H fun x H1 => tb σ H1 fun y H2 => r x y H2 Q) : tOp r ta tb σ H Q := h
theorem nilA {Q : List V → Hp → Prop} (h : Q [] H) : tNil σ H Q := h
theorem consA {Q : List V → Hp → Prop} (h : ta σ H fun x H1 => tr σ H1 fun xs H2 => Q (x :: xs) H2) : tCons ta tr σ H Q := h
theorem cb {r : List V → Hp → VK → Prop} (h : tr σ H fun vs H1 => r vs H1 Q) : tCB r tr σ H Q := h
theorem call {sp : Sp} {dvs : List V} {E : XK} (h : tr σ H fun vs H1 => sp (vs ++ dvs) H1 Q E) : tCall sp dvs E tr σ H Q := h
theorem lst (h : tr σ H fun xs H1 => xs.length ≤ sizeLine ∧ ∀ p, H1 p = none → Q (.ref p) (upd H1 p (.lst xs))) : tLst tr σ H Q := h
theorem tup (h : tr σ H fun xs H1 => xs.length ≤ sizeLine ∧ ∀ p, H1 p = none → Q (.ref p) (upd H1 p (.tup xs))) : tTup tr σ H Q := h
theorem seq (h : t { D with nx := u D } σ H) : tSeq t u D σ H := h
theorem asg (h : te σ H fun x H1 => g x σ H1 D.nx) : tAsg te g D σ H := h
theorem name {Q : L2.St → Hp → Prop} (h : Q (σ.set i (some v)) H) : gName i v σ H Q := h
theorem ret (h : te σ H D.rt) : tRet te D σ H := h
theorem retN (h : D.rt .non H) : tRetN D σ H := h
theorem drop (h : te σ H fun _ H1 => D.nx σ H1) : tDrop te D σ H := h
theorem nxt (h : D.nx σ H) : tNext D σ H := h
theorem ifs (h : c σ H fun b H1 => if b = true then t D σ H1 else u D σ H1) : tIfS c t u D σ H := h
theorem ife (h : c σ H fun b H1 => if b = true then ta σ H1 Q else tb σ H1 Q) : tIf c ta tb σ H Q := h
theorem ifeI {m n : Int} (h : c σ H fun b H1 => Q (.int (if b = true then m else n)) H1) : tIf c (tC (.int m)) (tC (.int n)) σ H Q := by
  have e : (fun b H1 => if b = true then tC (.int m) σ H1 Q else tC (.int n) σ H1 Q) = fun b H1 => Q (.int (if b = true then m else n)) H1 := by
    funext b H1
    cases b <;> rfl
  show c σ H _
  rw [e]
  exact h
theorem test {Q : Bool → Hp → Prop} (h : te σ H fun x H' => ∃ k, x = .bl k ∧ Q k H') : tTest te σ H Q := h
theorem tb_ {Q : Bool → Hp → Prop} (h : te σ H fun x H' => ∃ k, x = .bl k ∧ Q k H') : tB te σ H Q := h
theorem isb {Q : Bool → Prop} {b : Bool} (h : Q b) : ∃ k, V.bl b = .bl k ∧ Q k := ⟨b, rfl, h⟩
theorem tand {Q : Bool → Hp → Prop} (h : c σ H fun b H1 => if b = true then c' σ H1 Q else Q false H1) : tAnd c c' σ H Q := h
theorem tor {Q : Bool → Hp → Prop} (h : c σ H fun b H1 => if b = true then Q true H1 else c' σ H1 Q) : tOr c c' σ H Q := h
theorem tnot {Q : Bool → Hp → Prop} (h : c σ H fun b H1 => Q (!b) H1) : tNot c σ H Q := h
theorem andV (h : ta σ H fun x H1 => ∃ b, x = .bl b ∧ if b = true then tb σ H1 Q else Q (.bl false) H1) : tAndV ta tb σ H Q := h
theorem orV (h : ta σ H fun x H1 => ∃ b, x = .bl b ∧ if b = true then Q (.bl true) H1 else tb σ H1 Q) : tOrV ta tb σ H Q := h
theorem notV (h : ta σ H fun x H1 => ∃ b, x = .bl b ∧ Q (.bl (!b)) H1) : tNotV ta σ H Q := h
theorem yes {Q : Bool → Hp → Prop} (h : Q true H) : tYes σ H Q := h
theorem ifT {A B : Prop} (h : A) : if true = true then A else B := h
theorem ifF {A B : Prop} (h : B) : if false = true then A else B := by rw [if_neg Bool.false_ne_true]; exact h
theorem ifb {b : Bool} {A B : Prop} (h1 : b = true → A) (h2 : b = false → B) : if b = true then A else B := by
  cases b with
  | true => exact h1 rfl
  | false => exact ifF (h2 rfl)
/-- ints -/
theorem i0 {g : Int → Int → V} {m n : Int} (h : Q (g m n) H) : rI0 g (.int m) (.int n) H Q := ⟨m, n, rfl, rfl, h⟩
theorem i1 {C : Int → Int → Prop} {g : Int → Int → V} {m n : Int} (hc : C m n) (h : Q (g m n) H) : rI C g (.int m) (.int n) H Q := ⟨m, n, rfl, rfl, hc, h⟩
theorem eqS {x y : V} (hs : scal x y = true) (h : Q (.bl (decide (x = y))) H) : rEq x y H Q := ⟨hs, h⟩
theorem neS {x y : V} (hs : scal x y = true) (h : Q (.bl (!decide (x = y))) H) : rNe x y H Q := ⟨hs, h⟩
theorem ix {p : Addr} {xs : List V} {m : Int} (hl : SqL K H p xs) (ha : atI xs m = some v) (h : Q v H) : rIx K (.ref p) (.int m) H Q := .inl ⟨p, xs, m, v, rfl, rfl, hl, ha, h⟩
theorem ixt {p : Addr} {xs : List V} {m : Int} (hl : SqT K H p xs) (ha : atI xs m = some v) (h : Q v H) : rIx K (.ref p) (.int m) H Q := .inr (.inl ⟨p, xs, m, v, rfl, rfl, hl, ha, h⟩)
theorem ixs {z : Str} {m : Int} {d : Nat} (hl : z.length ≤ sizeLine) (ha : atI z.cps.toList m = some d) (h : Q (.str ⟨#[d]⟩) H) : rIx K (.str z) (.int m) H Q := .inr (.inr ⟨z, m, d, rfl, rfl, hl, ha, h⟩)
theorem gsub {to ti : TE} {ts : TSet} {Q : L2.St → Hp → Prop} (h : to σ H fun o H1 => ti σ H1 fun i H2 => ts o i v H2 fun H3 => Q σ H3) : gSub to ti ts v σ H Q := h
theorem setL {p : Addr} {xs : List V} {m : Int} {j : Nat} {Q : Hp → Prop} (hl : H p = some (.lst xs)) (hj : ixN xs.length m = some j) (h : Q (upd H p (.lst (xs.set j v)))) : rSetL (.ref p) (.int m) v H Q := ⟨p, xs, m, j, rfl, rfl, hl, hj, h⟩
theorem md {m n : Int} (hn : 0 < n) (h : ∀ z : Int, 0 ≤ z → z < n → Q (.int z) H) : rI (fun _ j => 0 < j) (fun i j => .int (i % j)) (.int m) (.int n) H Q :=
  ⟨m, n, rfl, rfl, hn, h _ (Int.emod_nonneg _ (by omega)) (Int.emod_lt_of_pos _ hn)⟩
theorem ml {m n : Int} (hc : CMul m n) (h : Q (.int (m * n)) H) : rI CMul (fun i j => .int (i * j)) (.int m) (.int n) H Q := ⟨m, n, rfl, rfl, hc, h⟩
theorem dv {m n : Int} (hc : CDivW m n) (h : Q (.int (m / n)) H) : rI CDivW (fun i j => .int (i / j)) (.int m) (.int n) H Q := ⟨m, n, rfl, rfl, hc, h⟩
theorem bits (h : te σ H fun x H1 => ∃ i, x = .int i ∧ Q (.int (Builtin.Int.intBits i : Nat)) H1) : tBits te σ H Q := h
theorem sl {rs : V → Option Int → Option Int → Hp → VK → Prop} {tl th : TO} (h : te σ H fun x H1 => tl σ H1 fun l H2 => th σ H2 fun u H3 => rs x l u H3 Q) : tSl rs te tl th σ H Q := h
theorem part {Q : Option Int → Hp → Prop} (h : te σ H fun x H1 => ∃ i, x = .int i ∧ Q (some i) H1) : tPart te σ H Q := h
theorem noPart {Q : Option Int → Hp → Prop} (h : Q none H) : tNoPart σ H Q := h
theorem isi {m : Int} {Q : Int → Prop} (h : Q m) : ∃ i, V.int m = .int i ∧ Q i := ⟨m, rfl, h⟩
theorem bm {T : String} {r : V → List V → Hp → VK → Prop} (h : te σ H fun x H1 => tyV K T x H1 ∧ tr σ H1 fun xs H2 => r x xs H2 Q) : tBM K T r te tr σ H Q := h
theorem bm0 {T : String} {r : V → List V → Hp → VK → Prop} (h : te σ H fun x H1 => tyV K T x H1 ∧ r x [] H1 Q) : tBM0 K T r te σ H Q := h
end
/-! ### loops -/
section
variable {σ : L2.St} {H H1 : Hp} {D : Ends} {g : TG} {tb : TS} {ta : TA} {te : TE} {K : PySem.W.Frag} {tt : TT} {vs : List Nat} {Q : VK} {tl : TE}
/-- for i in range(n) -/
theorem forR (n : Nat) (ev : ∀ Q : List V → Hp → Prop, Q [.int n] H1 → ta σ H Q) (hn : n < 2 ^ 62) (Pv : Nat → L2.St → Hp → Prop) (h0 : Pv 0 σ H1)
    (hs : ∀ i σ H, i < n → Pv i σ H → g (.int i) σ H fun σ2 H2 => tb { D with nx := Pv (i + 1), ct := Pv (i + 1), bk := D.nx } σ2 H2) (hd : ∀ σ H, Pv n σ H → D.nx σ H) : tFor (iRng1 ta) g tb D σ H := by
  refine ev _ ⟨n, rfl, by omega, by omega, ?_⟩
  have e : ((n : Int)).toNat = n := by omega
  rw [e]
  exact for_range (lo := 0) (n := n) Pv h0 (fun i σ H hi p => by
    have z := hs i σ H hi p
    rwa [show ((0 : Int) + (i : Int)) = i by omega]) hd
/-- for x in xs, a list: what the walked expression leaves is told by St -/
theorem forL (St : V → Hp → Prop) (ev : ∀ Q : VK, (∀ v H1, St v H1 → Q v H1) → tl σ H Q)
    (k : ∀ v H1, St v H1 → ∃ (a : Addr) (xs : List V) (Pv : Nat → L2.St → Hp → Prop), v = .ref a ∧ (∀ i σ H, i ≤ xs.length → Pv i σ H → SqL K H a xs) ∧ Pv 0 σ H1 ∧
    (∀ i x σ H, xs[i]? = some x → Pv i σ H → g x σ H fun σ2 H2 => tb { D with nx := Pv (i + 1), ct := Pv (i + 1), bk := D.nx } σ2 H2) ∧ ∀ σ H, Pv xs.length σ H → D.nx σ H) : tFor (iList K tl) g tb D σ H := by
  refine ev _ fun v H1 q => ?_
  obtain ⟨a, xs, Pv, rfl, hl, h0, hs, hd⟩ := k v H1 q
  exact ⟨a, rfl, ⟨xs, hl 0 σ H1 (Nat.zero_le _) h0⟩, for_list (xs := xs) Pv h0 hl hs hd⟩
/-- [e for x in xs if t], a list -/
theorem lcL (a : Addr) (xs : List V) (ev : ∀ Q : VK, Q (.ref a) H1 → tl σ H Q) (hS : SqL K H1 a xs) (k : ∀ D, H1 D = none → ∃ (Pv : Nat → Hp → Prop), Pv 0 (upd H1 D (.lst [])) ∧ (∀ i H, i ≤ xs.length → Pv i H → SqL K H a xs) ∧
    (∀ i x H, xs[i]? = some x → Pv i H → g x (wipe σ vs) H fun σ2 H2 => wipe σ2 vs = wipe σ vs ∧ tt σ2 H2 fun b H3 =>
      if b = true then te σ2 H3 fun y H4 => ∃ acc, H4 D = some (.lst acc) ∧ acc.length < sizeLine ∧ Pv (i + 1) (upd H4 D (.lst (acc ++ [y]))) else Pv (i + 1) H3) ∧ ∀ H, Pv xs.length H → Q (.ref D) H) : tLc (iList K tl) g tt te vs σ H Q := by
  refine ev _ ⟨a, rfl, ⟨xs, hS⟩, fun D nD => ?_⟩
  obtain ⟨Pv, h0, hl, hs, hd⟩ := k D nD
  exact lc_list (xs := xs) Pv h0 hl hs hd
/-- [e for i in range(n) if t] -/
theorem lcR (n : Nat) (ev : ∀ Q : List V → Hp → Prop, Q [.int n] H1 → ta σ H Q) (hn : n < 2 ^ 62) (k : ∀ D, H1 D = none → ∃ (Pv : Nat → Hp → Prop), Pv 0 (upd H1 D (.lst [])) ∧
    (∀ i H, i < n → Pv i H → g (.int i) (wipe σ vs) H fun σ2 H2 => wipe σ2 vs = wipe σ vs ∧ tt σ2 H2 fun b H3 =>
      if b = true then te σ2 H3 fun y H4 => ∃ acc, H4 D = some (.lst acc) ∧ acc.length < sizeLine ∧ Pv (i + 1) (upd H4 D (.lst (acc ++ [y]))) else Pv (i + 1) H3) ∧ ∀ H, Pv n H → Q (.ref D) H) : tLc (iRng1 ta) g tt te vs σ H Q := by
  refine ev _ ⟨n, rfl, by omega, by omega, fun D nD => ?_⟩
  obtain ⟨Pv, h0, hs, hd⟩ := k D nD
  have e : ((n : Int)).toNat = n := by omega
  rw [e]
  exact lc_range (lo := 0) (n := n) Pv h0 (fun i H hi p => by
    have z := hs i H hi p
    rwa [show ((0 : Int) + (i : Int)) = i by omega]) hd
end
theorem m1 {σ : L2.St} {H : Hp} {Q : VK} {r : V → List V → Hp → VK → Prop} {to te : TE} (h : to σ H fun x H1 => (∃ a, x = .str a) ∧ te σ H1 fun y H2 => r x [y] H2 Q) : tM1 r to te σ H Q := h
theorem isS {z : Str} {A : Prop} (h : A) : (∃ a, V.str z = .str a) ∧ A := ⟨⟨z, rfl⟩, h⟩
theorem wp {s t : L2.St} {vs : List Nat} {A : Prop} (h : wipe s vs = wipe t vs) (k : A) : wipe s vs = wipe t vs ∧ A := ⟨h, k⟩
/-! ### built-ins -/
def rInt : List V → Hp → VK → Prop := fun xs H Q => ∃ i, xs = [.int i] ∧ Q (.int i) H
theorem callInt {X : Cx} : CallR X (.type "int") rInt := fun pins s σ H xs us Q I r h => call_int1 pins s σ H xs us Q I r (.inl h)
theorem int1 {H : Hp} {Q : VK} {i : Int} (h : Q (.int i) H) : rInt [.int i] H Q := ⟨i, rfl, h⟩
def rMx : List V → Hp → VK → Prop := fun xs H Q => ∃ i j, xs = [.int i, .int j] ∧ Q (.int (if j > i then j else i)) H
def rMn : List V → Hp → VK → Prop := fun xs H Q => ∃ i j, xs = [.int i, .int j] ∧ Q (.int (if j < i then j else i)) H
theorem callMx {X : Cx} (hc : X.calm = true) : CallR X (.builtin "max") rMx := call_max2 hc
theorem callMn {X : Cx} (hc : X.calm = true) : CallR X (.builtin "min") rMn := call_min2 hc
theorem mx {H : Hp} {Q : VK} {i j : Int} (h : Q (.int (if j > i then j else i)) H) : rMx [.int i, .int j] H Q := ⟨i, j, rfl, h⟩
theorem mn {H : Hp} {Q : VK} {i j : Int} (h : Q (.int (if j < i then j else i)) H) : rMn [.int i, .int j] H Q := ⟨i, j, rfl, h⟩
theorem mul_ok {m n : Int} (h : -(2 ^ 64) < m ∧ m < 2 ^ 64 ∨ -(2 ^ 64) < n ∧ n < 2 ^ 64) : CMul m n := h
end Go
namespace LawB
open PySem PySem.Spec PyProof.Rows L2
local macro_rules | `(tactic| walk_at "ari") => `(tactic| first | omega | exact Go.mul_ok (Or.inl ⟨by omega, by omega⟩) | exact Go.mul_ok (Or.inr ⟨by omega, by omega⟩))
local macro_rules | `(tactic| walk_at "hp") => `(tactic| first | assumption | exact upd_same | (with_reducible refine Eq.trans (upd_ne ?cc) ?_; (case cc => walk_at "ne"); walk_at "hp"))
local macro_rules | `(tactic| walk_at "ne") => `(tactic| first | assumption | (refine Ne.symm ?_; assumption) | exact ne_of_none (by assumption) (by assumption) | exact (ne_of_none (by assumption) (by assumption)).symm)
local macro_rules | `(tactic| walk_at "go") => `(tactic| first
  | with_reducible refine Go.seq ?_ | with_reducible refine Go.asg ?_ | with_reducible refine Go.name ?_ | with_reducible refine Go.op ?_ | with_reducible refine Go.con ?_ | with_reducible refine Go.consA ?_ | with_reducible refine Go.nilA ?_
  | with_reducible refine Go.cb ?_ | with_reducible refine Go.call ?_ | with_reducible refine Go.lst ?_ | with_reducible refine Go.tup ?_
  | with_reducible refine Go.ret ?_ | with_reducible refine Go.drop ?_ | with_reducible refine Go.nxt ?_ | with_reducible refine Go.ifs ?_ | with_reducible refine Go.ifeI ?_ | with_reducible refine Go.ife ?_ | with_reducible refine Go.test ?_ | with_reducible refine Go.tb_ ?_ | with_reducible refine Go.isb ?_
  | with_reducible refine Go.tand ?_ | with_reducible refine Go.tor ?_ | with_reducible refine Go.tnot ?_ | with_reducible refine Go.gsub ?_ | with_reducible refine Go.i0 ?_
  | with_reducible refine Go.bits ?_ | with_reducible refine Go.sl ?_ | with_reducible refine Go.part ?_ | with_reducible refine Go.noPart ?_ | with_reducible refine Go.isi ?_ | with_reducible refine Go.int1 ?_ | with_reducible refine Go.mx ?_ | with_reducible refine Go.mn ?_
  | with_reducible refine Go.m1 ?_ | with_reducible refine Go.isS ?_ | with_reducible refine Go.wp (by with_unfolding_all rfl) ?_ | with_reducible refine Go.yes ?_ | with_reducible refine Go.ifT ?_ | with_reducible refine Go.ifF ?_
  | ((with_reducible refine Go.md ?cc ?_); (case cc => omega); intro _ _ _) | ((with_reducible refine Go.ml ?cc ?_); (case cc => walk_at "ari"))
  | with_reducible refine Go.ix (SqL.of (by walk_at "hp")) (by with_unfolding_all rfl) ?_
  | with_reducible refine Go.setL (by walk_at "hp") (by with_unfolding_all rfl) ?_
  | with_reducible refine Go.var (by with_unfolding_all rfl) ?_)
def top (i : Nat) : Stmt := PySem.Challenge.pw_anychance_k01_errors_made.main.body.getD i (.Pass ⟨0, 0, 0, 0⟩)
/-- the built-in names that the text leaves alone -/
structure Bl (mg : Str → Option Value) : Prop where
  sum : mg "sum" = none
  int : mg "int" = none
  max : mg "max" = none
  min : mg "min" = none
  len : mg "len" = none
  range : mg "range" = none
/-! ### purses -/
/-- a purse, from which k more draws are let -/
def PO (k : Nat) (o : HO) : Prop := ∃ a b c t : Int, o = .lst [.int a, .int b, .int c, .int t] ∧ 0 ≤ a ∧ a < 10 ^ 480 ∧ 0 ≤ b ∧ b < 2147483629 ∧ 0 ≤ c ∧ c + k ≤ 1000000000 ∧ 0 ≤ t ∧ t ≤ 100
theorem PO.mono {k j : Nat} {o : HO} (h : PO k o) (l : j ≤ k) : PO j o := by
  obtain ⟨a, b, c, t, e, h1, h2, h3, h4, h5, h6, h7, h8⟩ := h
  exact ⟨a, b, c, t, e, h1, h2, h3, h4, h5, by omega, h7, h8⟩
abbrev sPurse : Stmt := top 33
abbrev sMixed : Stmt := top 34
abbrev sDraw : Stmt := top 35
def spPurse (K : PySem.W.Frag) : Sp := fun vs H Q _ => ∃ (a : Addr) (ns : List Int) (i : Nat), vs = [.ref a, .int i] ∧ SqL K H a (ns.map V.int) ∧ i ≤ 100 ∧
  ∀ p H' o, H p = none → Evl.Ex H H' → H' p = some o → PO 1000000000 o → Q (.ref p) H'
def spMixed : Sp := fun vs H Q _ => ∃ s t a : Int, vs = [.int s, .int t, .int a] ∧ 0 ≤ s ∧ s < 2147483648 ∧ 0 ≤ t ∧ t ≤ 1000000001 ∧ 0 ≤ a ∧ a ≤ 100 ∧ ∀ r, 0 ≤ r → r < 2147483587 → Q (.int r) H
def spDraw : Sp := fun vs H Q _ => ∃ (p : Addr) (m : Int) (k : Nat) (o : HO), vs = [.ref p, .int m] ∧ 1 ≤ m ∧ m ≤ 100000000 ∧ H p = some o ∧ PO (k + 1) o ∧ ∀ r o', 0 ≤ r → r < m → PO k o' → Q (.int r) (upd H p o')
theorem cut_ints (ns : List Int) (lo hi : Option Int) : ∃ ms : List Int, cutV (ns.map V.int) lo hi = ms.map V.int :=
  ⟨(ns.drop (HT.sIx (ns.map V.int).length 0 lo)).take (HT.sIx (ns.map V.int).length (ns.map V.int).length hi - HT.sIx (ns.map V.int).length 0 lo), by unfold cutV; rw [List.map_take, List.map_drop]⟩
theorem scPurse : FnScope ["script", "at", "seed"] ["script", "at"] (defScope sPurse) := ⟨rfl, rfl, rfl, by decide +kernel, rfl, by decide +kernel, by decide +kernel⟩
theorem scMixed : FnScope ["seed", "turn", "at", "mixed"] ["seed", "turn", "at"] (defScope sMixed) := ⟨rfl, rfl, rfl, by decide +kernel, rfl, by decide +kernel, by decide +kernel⟩
theorem scDraw : FnScope ["purse", "many", "drawn", "found", "piece"] ["purse", "many"] (defScope sDraw) := ⟨rfl, rfl, rfl, by decide +kernel, rfl, by decide +kernel, by decide +kernel⟩
abbrev FnP (K : PySem.W.Frag) (x : Str) (st : Stmt) : Prop := ∃ fd, FunD K x x (defArgs st) (defBody st) (defScope st) [] [] (He.ga K x) fd
theorem pow480 : ((10 : Int) ^ (60 : Int).toNat) ^ (8 : Int).toNat = 10 ^ 480 := by decide +kernel
theorem pow18 : ((10 : Int) ^ (18 : Int).toNat) = 1000000000000000000 := by decide +kernel
section
variable {P : Program} {w : World} {K : PySem.W.Frag} {mg : Str → Option Value} {base : Heap}
theorem ok_mixed {f : Addr} {fd : FuncData} (F : FunD K "_law_mixed" "_law_mixed" (defArgs sMixed) (defBody sMixed) (defScope sMixed) [] [] f fd) (B : Bl mg) : FnOk P w K mg base CX0 1 f fd ["seed", "turn", "at"] spMixed := by
  refine F.ok scMixed (fun vs H Q E h => ?_) (fun cdv A outer s H vs Q E hr h => ?_)
  · obtain ⟨s, t, a, rfl, _⟩ := h
    rfl
  · obtain ⟨z, t, a, rfl, z0, z1, t0, t1, a0, a1, k⟩ := h
    refine ⟨_, PSs.nox (pss_cons (ps_set (i := 3) scMixed.nd rfl (.inl rfl) (pe_op op_add (pe_op op_mul (pv 0) pe_int) (pe_op op_mul (pe_op op_mul pe_int (pv 1)) (pv 1))))
      (pss_cons (ps_set (i := 3) scMixed.nd rfl (.inl rfl) (pe_op op_mod (pe_callTy Go.callInt (by rfl) B.int boot_int (pa_cons (pe_op op_add (pe_op op_add (pv 3) (pe_op op_mul pe_int (pv 2))) (pv 1)) pa_nil)) pe_int))
      (pss_cons (ps_set (i := 3) scMixed.nd rfl (.inl rfl) (pe_op op_mod (pe_callTy Go.callInt (by rfl) B.int boot_int (pa_cons (pe_op op_add (pe_op op_mul (pv 3) (pv 3)) pe_int) pa_nil)) pe_int))
      (pss_one (ps_ret (pe_op op_mod (pe_callTy Go.callInt (by rfl) B.int boot_int (pa_cons (pe_op op_mul (pv 3) pe_int) pa_nil)) pe_int)))))), ?_⟩
    repeat walk_at "go"
    exact k _ (by omega) (by omega)
theorem ok_purse {f : Addr} {fd : FuncData} (F : FunD K "_law_purse" "_law_purse" (defArgs sPurse) (defBody sPurse) (defScope sPurse) [] [] f fd) (B : Bl mg) : FnOk P w K mg base CX0 1 f fd ["script", "at"] (spPurse K) := by
  refine F.ok scPurse (fun vs H Q E h => ?_) (fun cdv A outer s H vs Q E hr h => ?_)
  · obtain ⟨a, ns, i, rfl, _⟩ := h
    rfl
  · obtain ⟨a, ns, i, rfl, hS, hi, k⟩ := h
    refine ⟨_, PSs.nox (pss_cons (ps_set (i := 2) scPurse.nd rfl (.inl rfl) (pe_callB (cr_sum rfl) (by rfl) B.sum boot_sum (pa_cons (pe_slice sl_list (pv 0) (po_some (pv 1)) (po_some (pe_op op_add (pv 1) pe_int))) pa_nil)))
      (pss_one (ps_ret (pe_lst (pa_cons (pe_op op_mod (pe_callTy Go.callInt (by rfl) B.int boot_int (pa_cons (pe_callB (Go.callMx rfl) (by rfl) B.max boot_max (pa_cons (pe_op op_sub (pv 2) (pe_op op_pow pe_int pe_int)) (pa_cons pe_int pa_nil))) pa_nil)) (pe_op Go.op_powW (pe_op op_pow pe_int pe_int) pe_int))
        (pa_cons (pe_op op_mod (pe_callTy Go.callInt (by rfl) B.int boot_int (pa_cons (pv 2) pa_nil)) pe_int) (pa_cons pe_int (pa_cons (pv 1) pa_nil)))))))), ?_⟩
    repeat walk_at "go"
    obtain ⟨ms, em⟩ := cut_ints ns (some (i : Int)) (some ((i : Int) + 1))
    refine ⟨a, _, rfl, hS, fun p np => ?_⟩
    repeat walk_at "go"
    refine ⟨p, ms, rfl, SqL.of (by rw [upd_same, em]), ?_⟩
    repeat walk_at "go"
    refine Go.i1 ⟨by decide, by decide, by decide⟩ ?_
    repeat walk_at "go"
    refine Go.i1 ⟨by decide, by decide, by decide⟩ ?_
    repeat walk_at "go"
    refine Go.i1 ⟨by decide, by decide +kernel⟩ ?_
    rw [pow480]
    refine Go.md (by decide +kernel) ?_
    intro z0 y0 y1
    repeat walk_at "go"
    rename_i z1 y2 y3
    refine ⟨(by show 4 ≤ sizeLine; decide), fun q nq => ?_⟩
    refine k q _ _ ?_ ((Evl.Ex.new np).trans (Evl.Ex.new nq)) upd_same ⟨z0, z1, 0, i, rfl, y0, y1, y2, by omega, by omega, by omega, by omega, by omega⟩
    exact Evl.fresh_back (Evl.Ex.new np) nq
/-- one draw: a number below many, the purse with one draw less -/
theorem ok_draw {f : Addr} {fd : FuncData} (F : FunD K "_law_draw" "_law_draw" (defArgs sDraw) (defBody sDraw) (defScope sDraw) [] [] f fd) (B : Bl mg) (FM : Go.Fb P w K mg base 1 "_law_mixed" ["seed", "turn", "at"] [] spMixed) :
    FnOk P w K mg base CX0 2 f fd ["purse", "many"] spDraw := by
  refine F.ok scDraw (fun vs H Q E h => ?_) (fun cdv A outer s H vs Q E hr h => ?_)
  · obtain ⟨p, m, k, o, rfl, _⟩ := h
    rfl
  · obtain ⟨p, m, n, o, rfl, m1, m2, hp, ⟨a, b, c, t, rfl, a0, a1, b0, b1, c0, c1, t0, t1⟩, k⟩ := h
    refine ⟨_, PSs.nox (pss_cons (ps_if (pt_cmpR op_gt (pe_ix Go.ixK (pv 0) pe_int (fun _ _ => rfl)) pe_int (nomark _))
        (pss_cons (ps_set (i := 2) scDraw.nd rfl (.inl rfl) (pe_op op_mod (pe_callTy Go.callInt (by rfl) B.int boot_int (pa_cons (pe_ix Go.ixK (pv 0) pe_int (fun _ _ => rfl)) pa_nil)) (pv 1)))
        (pss_cons (ps_asg (pe_op op_fdivW (pe_ix Go.ixK (pv 0) pe_int (fun _ _ => rfl)) (pv 1)) (pg_sub (pv 0) pe_int set_list))
        (pss_one (ps_ret (pv 2))))) pss_nil)
      (pss_cons (ps_set (i := 3) scDraw.nd rfl (.inl rfl) pe_int)
      (pss_cons (ps_for PassesOwn.never rfl (pi_range1 (by rfl) B.range (pa_cons (pe_op op_add pe_int (pe_op op_fdivW (pe_bits (pv 1)) pe_int)) pa_nil)) (pg_name (i := 4) scDraw.nd rfl (Or.inl rfl))
        (pss_cons (ps_asg (pe_op op_add (pe_ix Go.ixK (pv 0) pe_int (fun _ _ => rfl)) pe_int) (pg_sub (pv 0) pe_int set_list))
        (pss_one (ps_set (i := 3) scDraw.nd rfl (.inl rfl) (pe_op op_add (pe_op op_mul (pv 3) pe_int)
          (Go.pe_fb FM hr rfl (pa_cons (pe_ix Go.ixK (pv 0) pe_int (fun _ _ => rfl)) (pa_cons (pe_ix Go.ixK (pv 0) pe_int (fun _ _ => rfl)) (pa_cons (pe_ix Go.ixK (pv 0) pe_int (fun _ _ => rfl)) pa_nil)))))))))
      (pss_one (ps_ret (pe_op op_mod (pe_callTy Go.callInt (by rfl) B.int boot_int (pa_cons (pv 3) pa_nil)) (pv 1))))))), ?_⟩
    repeat walk_at "go"
    refine Go.ifb (fun c1 => ?_) (fun c1 => ?_)
    · have hpos : 0 < a := of_decide_eq_true c1
      repeat walk_at "go"
      rename_i r r0 r1
      refine Go.dv ⟨by omega, ?_⟩ ?_
      · exact Nat.lt_of_lt_of_le (PySem.Flt.log2_lt_of (k := 30) (by decide) (by omega)) (by decide)
      repeat walk_at "go"
      refine k r _ r0 r1 ⟨a / m, b, c, t, rfl, Int.ediv_nonneg a0 (by omega), ?_, b0, b1, c0, by omega, t0, t1⟩
      exact Int.lt_of_le_of_lt (Int.ediv_le_self _ a0) a1
    · repeat walk_at "go"
      refine Go.forR 1 (H1 := H) (fun Q q => ?_) (by decide) (fun i σ H' => (i = 0 ∧ σ = [some (.ref p), some (.int m), none, some (.int 0), none] ∧ H' = H) ∨
        (i = 1 ∧ ∃ r : Int, 0 ≤ r ∧ σ = [some (.ref p), some (.int m), none, some (.int r), some (.int 0)] ∧ H' = upd H p (.lst [.int a, .int b, .int (c + 1), .int t]))) (.inl ⟨rfl, rfl, rfl⟩) (fun i σ H' hi p' => ?_) (fun σ H' p' => ?_)
      · repeat walk_at "go"
        repeat walk_at "go"
        refine Go.dv ?_ ?_
        · exact ⟨by decide, by decide +kernel⟩
        have lb : Builtin.Int.intBits m ≤ 27 := by
          have z := PySem.Flt.log2_lt_of (k := 27) (n := m.natAbs) (by decide) (by omega)
          unfold Builtin.Int.intBits
          split <;> omega
        repeat walk_at "go"
        rw [show ((1 : Int) + ((Builtin.Int.intBits m : Nat) : Int) / 28) = ((1 : Nat) : Int) by omega]
        exact q
      · rcases p' with ⟨rfl, rfl, rfl⟩ | ⟨rfl, _⟩
        · repeat walk_at "go"
          refine ⟨b, c + 1, t, rfl, b0, by omega, by omega, by omega, t0, t1, fun r r0 r1 => ?_⟩
          repeat walk_at "go"
          exact .inr ⟨rfl, _, by omega, rfl, rfl⟩
        · exact absurd hi (by decide)
      · rcases p' with ⟨h0, _⟩ | ⟨_, r, r0, rfl, rfl⟩
        · cases h0
        · repeat walk_at "go"
          rename_i z z0 z1
          exact k z _ z0 z1 ⟨a, b, c + 1, t, rfl, a0, a1, b0, b1, by omega, by omega, t0, t1⟩
end
abbrev sPurses : Stmt := top 36
abbrev sOneOf : Stmt := top 37
abbrev sWord : Stmt := top 38
theorem scPurses : FnScope ["script", "few", "at"] ["script", "few"] (defScope sPurses) := ⟨rfl, rfl, rfl, by decide +kernel, rfl, by decide +kernel, by decide +kernel⟩
theorem scOneOf : FnScope ["purse", "some"] ["purse", "some"] (defScope sOneOf) := ⟨rfl, rfl, rfl, by decide +kernel, rfl, by decide +kernel, by decide +kernel⟩
theorem scWord : FnScope ["purse", "size", "turn"] ["purse"] (defScope sWord) := ⟨rfl, rfl, rfl, by decide +kernel, rfl, by decide +kernel, by decide +kernel⟩
def few (m n : Nat) : Nat := max 1 (min m n)
def spPurses (K : PySem.W.Frag) : Sp := fun vs H Q _ => ∃ (a : Addr) (ns : List Int) (m : Nat), vs = [.ref a, .int m] ∧ SqL K H a (ns.map V.int) ∧ m ≤ 10 ∧ ns.length ≤ 63 ∧
  ∀ (L : Addr) (H' : Hp) (qs : List Addr), H L = none → Evl.Ex H H' → H' L = some (.lst (qs.map V.ref)) → qs.length = few m ns.length → (∀ q ∈ qs, H q = none ∧ q ≠ L ∧ ∃ o, H' q = some o ∧ PO 1000000000 o) → qs.Nodup → Q (.ref L) H'
def spOneOf (K : PySem.W.Frag) : Sp := fun vs H Q _ => ∃ (p a : Addr) (xs : List V) (k : Nat) (o : HO), vs = [.ref p, .ref a] ∧ SqL K H a xs ∧ a ≠ p ∧ 1 ≤ xs.length ∧ xs.length ≤ 100000000 ∧ H p = some o ∧ PO (k + 1) o ∧
  ∀ (i : Nat) x o', xs[i]? = some x → PO k o' → Q x (upd H p o')
/-- a word of the law's: one to eight letters -/
def Wd (x : Str) : Prop := 1 ≤ x.length ∧ x.length ≤ 8 ∧ ∀ c ∈ x.cps.toList, 97 ≤ c ∧ c ≤ 122
/-- what is made besides the purse at p stays -/
def ExB (p : Addr) (H H' : Hp) : Prop := ∀ a o, a ≠ p → H a = some o → H' a = some o
def spWord : Sp := fun vs H Q _ => ∃ (p : Addr) (k : Nat) (o : HO), vs = [.ref p] ∧ H p = some o ∧ PO (k + 10) o ∧ ∀ x H' o', Wd x → ExB p H H' → H' p = some o' → PO k o' → (∀ b, H' b = none → H b = none) → Q (.str x) H'
theorem join_codes : ∀ ys : List Str, (Str.join (Str.ofString "") ys).cps.toList = ys.flatMap (·.cps.toList)
  | [] => rfl
  | [x] => by simp [Str.join]
  | x :: y :: r => by
    have ih := join_codes (y :: r)
    show ((x ++ Str.ofString "" ++ Str.join (Str.ofString "") (y :: r) : Str)).cps.toList = _
    have e : ∀ a b : Str, (a ++ b : Str).cps.toList = a.cps.toList ++ b.cps.toList := fun a b => by
      show (a.cps ++ b.cps).toList = _
      simp
    rw [e, e, ih]
    simp [show (Str.ofString "").cps.toList = [] from by decide +kernel]
def Letter (y : Str) : Prop := ∃ c, y = ⟨#[c]⟩ ∧ 97 ≤ c ∧ c ≤ 122
theorem word_of {ys : List Str} (h : ∀ y ∈ ys, Letter y) (h1 : 1 ≤ ys.length) (h8 : ys.length ≤ 8) : Wd (Txt.join (Str.ofString "") ys) := by
  have len : ∀ zs : List Str, (∀ y ∈ zs, Letter y) → (zs.flatMap (·.cps.toList)).length = zs.length ∧ ∀ c ∈ zs.flatMap (·.cps.toList), 97 ≤ c ∧ c ≤ 122 := by
    intro zs
    induction zs with
    | nil => exact fun _ => ⟨rfl, fun c hc => by simp at hc⟩
    | cons z r ih =>
      intro hz
      obtain ⟨a, b⟩ := ih fun y hy => hz y (List.mem_cons_of_mem _ hy)
      obtain ⟨c, rfl, c1, c2⟩ := hz z (List.mem_cons_self ..)
      refine ⟨by rw [List.flatMap_cons, List.length_append, a]; simp; omega, fun d hd => ?_⟩
      rw [List.flatMap_cons] at hd
      rcases List.mem_append.mp hd with q | q
      · rw [show d = c by simpa using q]
        exact ⟨c1, c2⟩
      · exact b d q
  obtain ⟨a, b⟩ := len ys h
  have e : (Txt.join (Str.ofString "") ys).cps.toList = ys.flatMap (·.cps.toList) := by rw [show Txt.join (Str.ofString "") ys = Str.join (Str.ofString "") ys from PySem.StrLaws.glued_eq_join _ _, join_codes]
  have l : (Txt.join (Str.ofString "") ys).length = ys.length := by
    show (Txt.join (Str.ofString "") ys).cps.size = _
    rw [← Array.length_toList, e, a]
  exact ⟨by omega, by omega, by rw [e]; exact b⟩
def abc : Str := Str.ofString "abcdefghijklmnopqrstuvwxyz"
theorem abc_at {r : Int} (r0 : 0 ≤ r) (r1 : r < 26) : ∃ c, atI abc.cps.toList r = some c ∧ 97 ≤ c ∧ c ≤ 122 := by
  have key : ∀ j : Fin 26, ∃ c, abc.cps.toList[(j : Nat)]? = some c ∧ 97 ≤ c ∧ c ≤ 122 := by decide +kernel
  obtain ⟨c, h, h1, h2⟩ := key ⟨r.toNat, by omega⟩
  refine ⟨c, ?_, h1, h2⟩
  have z := atI_nat h
  rwa [show (((⟨r.toNat, by omega⟩ : Fin 26) : Nat) : Int) = r by show ((r.toNat : Nat) : Int) = r; omega] at z
section
variable {P : Program} {w : World} {K : PySem.W.Frag} {mg : Str → Option Value} {base : Heap}
theorem ok_purses {f : Addr} {fd : FuncData} (F : FunD K "_law_purses" "_law_purses" (defArgs sPurses) (defBody sPurses) (defScope sPurses) [] [] f fd) (B : Bl mg) (FP : Go.Fb P w K mg base 1 "_law_purse" ["script", "at"] [] (spPurse K)) :
    FnOk P w K mg base CX0 2 f fd ["script", "few"] (spPurses K) := by
  refine F.ok scPurses (fun vs H Q E h => ?_) (fun cdv A outer s H vs Q E hr h => ?_)
  · obtain ⟨a, ns, m, rfl, _⟩ := h
    rfl
  · obtain ⟨a, ns, m, rfl, hS, hm, hl, k⟩ := h
    refine ⟨_, PSs.nox (pss_one (ps_ret (pe_lc (own := [("at", 2)]) (g := gName 2) (tt := tYes) rfl scPurses.nd (pi_range1 (by rfl) B.range (pa_cons (pe_callB (Go.callMx rfl) (by rfl) B.max boot_max (pa_cons pe_int (pa_cons (pe_callB (Go.callMn rfl) (by rfl) B.min boot_min (pa_cons (pv 1) (pa_cons (pe_callB call_len_seq (by rfl) B.len boot_len (pa_cons (pv 0) pa_nil)) pa_nil))) pa_nil))) pa_nil))
      (blkOk_by (own := [("at", 2)]) (N := ["script", "few", "at"]) (sc := defScope sPurses) (by decide +kernel)) (fun _ _ _ _ _ => pg_name (i := 2) scPurses.nd rfl (Or.inl rfl)) (fun _ _ _ _ _ => pts_nil)
      (fun _ _ _ _ _ => Go.pe_fb FP hr rfl (pa_cons (pv 0) (pa_cons (pv 2) pa_nil)))))), ?_⟩
    repeat walk_at "go"
    refine Go.lcR (few m ns.length) (H1 := H) (fun Q q => ?_) (by unfold few; omega) (fun D nD => ⟨fun i H' => Evl.Ex H H' ∧ ∃ qs : List Addr, qs.length = i ∧ H' D = some (.lst (qs.map V.ref)) ∧ (∀ q ∈ qs, H q = none ∧ q ≠ D ∧ ∃ o, H' q = some o ∧ PO 1000000000 o) ∧ qs.Nodup,
      ⟨Evl.Ex.new nD, [], rfl, upd_same, (fun q hq => by cases hq), List.nodup_nil⟩, fun i H' hi p' => ?_, fun H' p' => ?_⟩)
    · repeat walk_at "go"
      refine ⟨a, _, rfl, .inl hS, ?_⟩
      repeat walk_at "go"
      rw [List.length_map, show (if (if (ns.length : Int) < (m : Int) then (ns.length : Int) else (m : Int)) > 1 then (if (ns.length : Int) < (m : Int) then (ns.length : Int) else (m : Int)) else 1) = ((few m ns.length : Nat) : Int) by unfold few; omega]
      exact q
    · obtain ⟨ex, qs, hlq, hD, hq, nd⟩ := p'
      have hi' : i ≤ 100 := by unfold few at hi; omega
      repeat walk_at "go"
      refine ⟨a, ns, i, rfl, Evl.ex_l ex hS, hi', fun p H'' o np ex2 hp po => ?_⟩
      have pD : p ≠ D := (ne_of_none hD np).symm
      have hD2 := ex2 D _ hD
      have fresh : H p = none := Evl.fresh_back ex np
      refine ⟨_, hD2, ?_, ?_, qs ++ [p], by rw [List.length_append, hlq]; rfl, by rw [upd_same, List.map_append]; rfl, fun q hq' => ?_, ?_⟩
      · rw [List.length_map, hlq, sizeLine_eq]
        omega
      · exact (ex.trans ex2).mut nD
      · rcases List.mem_append.mp hq' with z | z
        · obtain ⟨h1, h2, o', h3, h4⟩ := hq q z
          exact ⟨h1, h2, o', by rw [upd_ne h2]; exact ex2 q _ h3, h4⟩
        · rw [List.mem_singleton.mp z]
          exact ⟨fresh, pD, o, by rw [upd_ne pD]; exact hp, po⟩
      · refine List.nodup_append.mpr ⟨nd, by simp, fun x hx y hy => ?_⟩
        rw [List.mem_singleton.mp hy]
        rintro rfl
        obtain ⟨_, _, o', h3, _⟩ := hq x hx
        rw [np] at h3
        cases h3
    · obtain ⟨ex, qs, hlq, hD, hq, nd⟩ := p'
      exact k D H' qs nD ex hD hlq hq nd
theorem ok_oneOf {f : Addr} {fd : FuncData} (F : FunD K "_law_one_of" "_law_one_of" (defArgs sOneOf) (defBody sOneOf) (defScope sOneOf) [] [] f fd) (B : Bl mg) (FD : Go.Fb P w K mg base 2 "_law_draw" ["purse", "many"] [] spDraw) :
    FnOk P w K mg base CX0 3 f fd ["purse", "some"] (spOneOf K) := by
  refine F.ok scOneOf (fun vs H Q E h => ?_) (fun cdv A outer s H vs Q E hr h => ?_)
  · obtain ⟨p, a, xs, k, o, rfl, _⟩ := h
    rfl
  · obtain ⟨p, a, xs, n, o, rfl, hS, nap, l1, l2, hp, po, k⟩ := h
    refine ⟨_, PSs.nox (pss_one (ps_ret (pe_ix Go.ixK (pv 1) (Go.pe_fb FD hr rfl (pa_cons (pv 0) (pa_cons (pe_callB call_len_seq (by rfl) B.len boot_len (pa_cons (pv 1) pa_nil)) pa_nil))) (fun _ _ => rfl)))), ?_⟩
    repeat walk_at "go"
    refine ⟨a, xs, rfl, .inl hS, ?_⟩
    repeat walk_at "go"
    refine ⟨p, _, n, o, rfl, by omega, by omega, hp, po, fun r o' r0 r1 po' => ?_⟩
    have hl : r.toNat < xs.length := by omega
    have ha : atI xs r = some xs[r.toNat] := by
      have z := atI_nat (xs := xs) (j := r.toNat) (v := xs[r.toNat]) (List.getElem?_eq_getElem hl)
      rwa [show ((r.toNat : Nat) : Int) = r by omega] at z
    refine Go.ix ?_ ha (k r.toNat _ o' (List.getElem?_eq_getElem hl) po')
    rcases hS with hS | hS
    · rcases hS with hS | ⟨ob, hS⟩
      · exact .inl (.inl (by rw [upd_ne nap]; exact hS))
      · exact .inl (.inr ⟨ob, by rw [upd_ne nap]; exact hS⟩)
    · exact .inr hS
theorem ok_word {f : Addr} {fd : FuncData} (F : FunD K "_law_word" "_law_word" (defArgs sWord) (defBody sWord) (defScope sWord) [] [] f fd) (B : Bl mg) (FD : Go.Fb P w K mg base 2 "_law_draw" ["purse", "many"] [] spDraw) :
    FnOk P w K mg base CX0 3 f fd ["purse"] spWord := by
  refine F.ok scWord (fun vs H Q E h => ?_) (fun cdv A outer s H vs Q E hr h => ?_)
  · obtain ⟨p, k, o, rfl, _⟩ := h
    rfl
  · obtain ⟨p, n, o, rfl, hp, po, k⟩ := h
    refine ⟨_, PSs.nox (pss_cons (ps_set (i := 1) scWord.nd rfl (.inl rfl) (pe_op op_add pe_int (Go.pe_fb FD hr rfl (pa_cons (pv 0) (pa_cons (pe_ifExp (pt_cmpR op_eq (Go.pe_fb FD hr rfl (pa_cons (pv 0) (pa_cons pe_int pa_nil))) pe_int (nomark _)) pe_int pe_int) pa_nil)))))
      (pss_one (ps_ret (pe_join pe_str (pe_lc (own := [("turn", 2)]) (g := gName 2) (tt := tYes) rfl scWord.nd (pi_range1 (by rfl) B.range (pa_cons (pv 1) pa_nil))
        (blkOk_by (own := [("turn", 2)]) (N := ["purse", "size", "turn"]) (sc := defScope sWord) (by decide +kernel)) (fun _ _ _ _ _ => pg_name (i := 2) scWord.nd rfl (Or.inl rfl)) (fun _ _ _ _ _ => pts_nil)
        (fun _ _ _ _ _ => pe_ix Go.ixK pe_str (Go.pe_fb FD hr rfl (pa_cons (pv 0) (pa_cons pe_int pa_nil))) (fun _ _ => rfl))))))), ?_⟩
    repeat walk_at "go"
    refine ⟨p, 3, n + 9, o, rfl, by omega, by omega, hp, po, fun r1 o1 r10 r11 po1 => ?_⟩
    repeat walk_at "go"
    refine Go.eqS rfl ?_
    repeat walk_at "go"
    refine ⟨p, _, n + 8, o1, rfl, by split <;> omega, by split <;> omega, upd_same, po1, fun r2 o2 r20 r21 po2 => ?_⟩
    rw [upd_upd]
    have hm : r2 < 8 := by split at r21 <;> omega
    repeat walk_at "go"
    have z0 : ((1 : Int) + r2) = (((1 + r2).toNat : Nat) : Int) := by omega
    refine Go.lcR (1 + r2).toNat (H1 := upd H p o2) (fun Q q => ?_) (by omega) (fun D nD => ?_)
    · repeat walk_at "go"
      rw [z0]
      exact q
    have Dp : D ≠ p := by
      intro z
      rw [z, upd_same] at nD
      cases nD
    have HD : H D = none := by rwa [upd_ne Dp] at nD
    refine ⟨fun i H' => ExB p H H' ∧ (∃ o', H' p = some o' ∧ PO (n + (8 - i)) o') ∧ (∀ b, H' b = none → H b = none) ∧ ∃ ys : List Str, ys.length = i ∧ H' D = some (.lst (ys.map V.str)) ∧ ∀ y ∈ ys, Letter y,
      ⟨?_, ⟨o2, by rw [upd_ne Dp.symm, upd_same], po2⟩, fun b hb => ?_, [], rfl, upd_same, (fun q hq => by cases hq)⟩, fun i H' hi p' => ?_, fun H' p' => ?_⟩
    · intro a u ha e
      rw [upd_ne (ne_of_none e HD), upd_ne ha]
      exact e
    · by_cases h1 : b = D
      · rw [h1, upd_same] at hb
        cases hb
      · by_cases h2 : b = p
        · rw [upd_ne h1, h2, upd_same] at hb
          cases hb
        · rwa [upd_ne h1, upd_ne h2] at hb
    · obtain ⟨ex, ⟨o', hp', po'⟩, fr, ys, ly, hD, hy⟩ := p'
      repeat walk_at "go"
      refine ⟨p, 26, n + (8 - (i + 1)), o', rfl, by decide, by decide, hp', po'.mono (by omega), fun r o3 r0 r1 po3 => ?_⟩
      obtain ⟨c, hc, c1, c2⟩ := abc_at r0 r1
      refine Go.ixs (by decide +kernel) hc ?_
      refine ⟨_, by rw [upd_ne Dp]; exact hD, by rw [List.length_map, ly, sizeLine_eq]; omega, ?_, ⟨o3, by rw [upd_ne Dp.symm, upd_same], po3⟩, fun b hb => ?_, ys ++ [⟨#[c]⟩], by rw [List.length_append, ly]; rfl, by rw [upd_same, List.map_append]; rfl, fun y hy' => ?_⟩
      · intro a u ha e
        rw [upd_ne (ne_of_none e HD), upd_ne ha]
        exact ex a u ha e
      · by_cases h1 : b = D
        · rw [h1, upd_same] at hb
          cases hb
        · by_cases h2 : b = p
          · rw [upd_ne h1, h2, upd_same] at hb
            cases hb
          · rw [upd_ne h1, upd_ne h2] at hb
            exact fr b hb
      · rcases List.mem_append.mp hy' with z | z
        · exact hy y z
        · rw [List.mem_singleton.mp z]
          exact ⟨c, rfl, c1, c2⟩
    · obtain ⟨ex, ⟨o', hp', po'⟩, fr, ys, ly, hD, hy⟩ := p'
      have l1 : ∀ zs : List Str, (∀ y ∈ zs, Letter y) → (zs.map (·.length)).sum = zs.length := by
        intro zs
        induction zs with
        | nil => exact fun _ => rfl
        | cons z r ih =>
          intro hz
          obtain ⟨c, rfl, _⟩ := hz z (List.mem_cons_self ..)
          have e := ih fun y hy => hz y (List.mem_cons_of_mem _ hy)
          rw [List.map_cons, List.sum_cons, e, List.length_cons]
          show 1 + _ = _
          omega
      refine ⟨_, D, ys, rfl, rfl, .inl (SqL.of hD), ?_, k _ H' o' (word_of hy (by omega) (by omega)) ex hp' (po'.mono (by omega)) fr⟩
      rw [l1 ys hy]
      have e0 : (Str.ofString "").length = 0 := by decide +kernel
      rw [e0]
      omega
end
end LawB
namespace K1
open PySem PySem.Spec PyProof.Rows L2 LawB Err
local macro_rules | `(tactic| walk_at "ari") => `(tactic| first | omega | exact Go.mul_ok (Or.inl ⟨by omega, by omega⟩) | exact Go.mul_ok (Or.inr ⟨by omega, by omega⟩))
local macro_rules | `(tactic| walk_at "hp") => `(tactic| first | assumption | exact upd_same | (with_reducible refine Eq.trans (upd_ne ?cc) ?_; (case cc => walk_at "ne"); walk_at "hp"))
local macro_rules | `(tactic| walk_at "ne") => `(tactic| first | assumption | (refine Ne.symm ?_; assumption) | exact ne_of_none (by assumption) (by assumption) | exact (ne_of_none (by assumption) (by assumption)).symm)
local macro_rules | `(tactic| walk_at "go") => `(tactic| first
  | with_reducible refine Go.seq ?_ | with_reducible refine Go.asg ?_ | with_reducible refine Go.name ?_ | with_reducible refine Go.op ?_ | with_reducible refine Go.con ?_ | with_reducible refine Go.consA ?_ | with_reducible refine Go.nilA ?_
  | with_reducible refine Go.cb ?_ | with_reducible refine Go.call ?_ | with_reducible refine Go.lst ?_ | with_reducible refine Go.tup ?_
  | with_reducible refine Go.ret ?_ | with_reducible refine Go.drop ?_ | with_reducible refine Go.nxt ?_ | with_reducible refine Go.ifs ?_ | with_reducible refine Go.ifeI ?_ | with_reducible refine Go.ife ?_ | with_reducible refine Go.test ?_ | with_reducible refine Go.tb_ ?_ | with_reducible refine Go.isb ?_
  | with_reducible refine Go.tand ?_ | with_reducible refine Go.tor ?_ | with_reducible refine Go.tnot ?_ | with_reducible refine Go.gsub ?_ | with_reducible refine Go.i0 ?_
  | with_reducible refine Go.bits ?_ | with_reducible refine Go.sl ?_ | with_reducible refine Go.part ?_ | with_reducible refine Go.noPart ?_ | with_reducible refine Go.isi ?_ | with_reducible refine Go.int1 ?_ | with_reducible refine Go.mx ?_ | with_reducible refine Go.mn ?_
  | with_reducible refine Go.m1 ?_ | with_reducible refine Go.isS ?_ | with_reducible refine Go.wp (by with_unfolding_all rfl) ?_ | with_reducible refine Go.yes ?_ | with_reducible refine Go.ifT ?_ | with_reducible refine Go.ifF ?_
  | ((with_reducible refine Go.md ?cc ?_); (case cc => omega); intro _ _ _) | ((with_reducible refine Go.ml ?cc ?_); (case cc => walk_at "ari"))
  | with_reducible refine Go.ix (SqL.of (by walk_at "hp")) (by with_unfolding_all rfl) ?_
  | with_reducible refine Go.setL (by walk_at "hp") (by with_unfolding_all rfl) ?_
  | with_reducible refine Go.var (by with_unfolding_all rfl) ?_)

/-- the classes in their order: with a field, without one, the base -/
def nm : List Str := ["InvalidWord", "InvalidBook", "InvalidState", "InvalidDesk", "InvalidDesks", "InvalidNames", "InvalidChange", "InvalidChanges", "InvalidTalk", "InvalidPair", "InvalidLot", "InvalidWords", "InvalidCount", "InvalidLevels", "InvalidPartner", "InvalidScene", "InvalidDeeds", "InvalidArms", "InvalidFrame", "InvalidHall", "InvalidSpot", "InvalidScript", "InvalidText", "InvalidLog", "Hopeless", "Refused", "InvalidShares", "InvalidFraction", "NothingToUndo", "NothingToRedo", "DeskError"]
abbrev cl (K : PySem.W.Frag) (i : Nat) : Addr := He.ga K (nm.getD i "")
structure Txt (K : PySem.W.Frag) (P : Program) (m : Str → Option Value) : Prop where
  err : ∀ i, i < 28 → ErrC K P (cl K i) (He.ma K (cl K i) "__init__")
  kp : ∀ i, i < 31 → PySem.W.keepIn K (.ref (cl K i)) = true
  mg : ∀ i, i < 31 → m (nm.getD i "") = some (.ref (cl K i))
  errA : ∀ i, i < 31 → ErrA K (cl K i)
  kit : ∀ i j, i < 31 → j < 30 → PySem.W.kitOne K (.ref (cl K i)) (.ref (cl K j)) = some (decide (i = j))
  kitD : ∀ i, i < 31 → PySem.W.kitOne K (.ref (cl K i)) (.ref (cl K 30)) = some true
  kitV : ∀ i, i < 31 → PySem.W.kitOne K (.ref (cl K i)) (.type "ValueError") = some true
  sup : m "super" = none
  isi : m "isinstance" = none
  ve : m "ValueError" = none
  bl : Bl m

/-! ### many errors made -/
def ErrL (H : Hp) (v : V) : List Addr → List V → Prop := Paired fun c x => ∃ e d, x = V.ref e ∧ H e = some (exo e c (some d)) ∧ H d = some (exd d [(("value" : Str), v)])
theorem ErrL.mono {H H' : Hp} {v : V} (ex : Evl.Ex H H') : ∀ {cs : List Addr} {es : List V}, ErrL H v cs es → ErrL H' v cs es
  | _, _, .nil => .nil
  | _, _, .cons ⟨e, d, a, b, c⟩ t => .cons ⟨e, d, a, ex _ _ b, ex _ _ c⟩ (ErrL.mono ex t)
theorem ErrL.append {H : Hp} {v : V} : ∀ {cs ds : List Addr} {es gs : List V}, ErrL H v cs es → ErrL H v ds gs → ErrL H v (cs ++ ds) (es ++ gs)
  | _, _, _, _, .nil, s => s
  | _, _, _, _, .cons r t, s => .cons r (ErrL.append t s)
def mkL (mk : Addr → TE) : List Addr → TA
  | [] => tNil
  | c :: cs => tCons (mk c) (mkL mk cs)
theorem ex_laid {H : Hp} {C e d : Addr} {v : V} (he : H e = none) (hd : H d = none) : Evl.Ex H (laidE H C e d v) := fun a o h => by
  unfold laidE
  rw [upd_ne (ne_of_none h he), upd_ne (ne_of_none h hd)]
  exact h
theorem mkL_ok {mk : Addr → TE} {σ : L2.St} {v : V} (hmk : ∀ c H Q, (∀ e d, H e = none → H d = none → d ≠ e → Q (.ref e) (laidE H c e d v)) → mk c σ H Q) :
    ∀ (cs : List Addr) (H : Hp) (Q : List V → Hp → Prop), (∀ vs H', Evl.Ex H H' → ErrL H' v cs vs → Q vs H') → mkL mk cs σ H Q
  | [], H, Q, k => k [] H (Evl.Ex.refl H) .nil
  | c :: cs, H, Q, k => hmk c H _ fun e d he hd ne => mkL_ok hmk cs _ _ fun vs H' ex hl => k _ H' ((ex_laid he hd).trans ex) (.cons ⟨e, d, rfl, ex _ _ upd_same, ex _ _ (by unfold laidE; rw [upd_ne ne, upd_same])⟩ hl)
theorem ErrL.length {H : Hp} {v : V} {cs : List Addr} {es : List V} (h : ErrL H v cs es) : es.length = cs.length := (Paired.length h).symm
/-- found = found + [..]; ..; return found -/
def blk (mk : Addr → TE) (i : Nat) : List (List Addr) → TS
  | [] => tRet (tVar i)
  | g :: gs => tSeq (tAsg (tOp rCat (tVar i) (tLst (mkL mk g))) (gName i)) (blk mk i gs)
theorem small_line {n : Nat} (h : n ≤ 1000) : n ≤ sizeLine := by rw [sizeLine_eq]; omega
theorem blk_ok {mk : Addr → TE} {i : Nat} {v : V} {R : VK} {H0 : Hp} (cs : List Addr) (hR : ∀ L H' es, H0 L = none → Evl.Ex H0 H' → H' L = some (.lst es) → ErrL H' v cs es → R (.ref L) H') :
    ∀ (gs : List (List Addr)) (as : List Addr) (σ : L2.St) (H : Hp) (l : Addr) (es : List V) (D : Ends), (∀ τ : L2.St, (∃ u, τ = σ.set i u) → ∀ c H Q, (∀ e d, H e = none → H d = none → d ≠ e → Q (.ref e) (laidE H c e d v)) → mk c τ H Q) → i < σ.length → as ++ gs.flatten = cs → cs.length ≤ 100 →
      σ[i]? = some (some (.ref l)) → Evl.Ex H0 H → H0 l = none → H l = some (.lst es) → ErrL H v as es → D.rt = R → blk mk i gs D σ H
  | [], as, σ, H, l, es, D, _, _, e, _, hl, ex, hn, hL, hE, hr => by
    have e' : as = cs := by simpa using e
    subst e'
    exact ⟨_, hl, by rw [hr]; exact hR l H es hn ex hL hE⟩
  | g :: gs, as, σ, H, l, es, D, hmk, hi, e, hz, hl, ex, hn, hL, hE, hr => by
    have e' : as ++ g ++ gs.flatten = cs := by rw [← e]; simp
    have hz1 : as.length + g.length ≤ 100 := by
      have z := congrArg List.length e'
      rw [List.length_append, List.length_append] at z
      omega
    have hm : ∀ c H Q, (∀ e d, H e = none → H d = none → d ≠ e → Q (.ref e) (laidE H c e d v)) → mk c σ H Q := hmk σ ⟨some (.ref l), by
      rw [← Option.some.inj ((List.getElem?_eq_getElem hi).symm.trans hl), List.set_getElem_self]⟩
    refine ⟨_, hl, mkL_ok hm g H _ fun vs H1 ex1 hE1 => ?_⟩
    have lv := hE1.length
    have le := hE.length
    refine ⟨small_line (by omega), fun b nb => ?_⟩
    have exb : Evl.Ex H1 (upd H1 b (.lst vs)) := Evl.Ex.new nb
    refine ⟨l, b, es, vs, rfl, rfl, exb _ _ (ex1 _ _ hL), upd_same, small_line (by omega), fun p np => ?_⟩
    have exp : Evl.Ex (upd H1 b (.lst vs)) (upd (upd H1 b (.lst vs)) p (.lst (es ++ vs))) := Evl.Ex.new np
    have ex2 := (ex1.trans exb).trans exp
    refine blk_ok cs hR gs (as ++ g) (σ.set i (some (.ref p))) _ p (es ++ vs) _ (fun τ ⟨u, hu⟩ => hmk τ ⟨u, by rw [hu, List.set_set]⟩) (by rw [List.length_set]; exact hi) e' hz ?_ (ex.trans ex2) (Evl.fresh_back (ex.trans (ex1.trans exb)) np) upd_same
      ((hE.mono ex2).append (hE1.mono (exb.trans exp))) hr
    rw [List.getElem?_set_self hi]
/-- found = [..]; then the rest -/
theorem all_ok {mk : Addr → TE} {i : Nat} {v : V} {R : VK} {H0 : Hp} (cs : List Addr) (hR : ∀ L H' es, H0 L = none → Evl.Ex H0 H' → H' L = some (.lst es) → ErrL H' v cs es → R (.ref L) H')
    (g : List Addr) (gs : List (List Addr)) (σ : L2.St) (D : Ends) (hmk : ∀ τ : L2.St, (∃ u, τ = σ.set i u) → ∀ c H Q, (∀ e d, H e = none → H d = none → d ≠ e → Q (.ref e) (laidE H c e d v)) → mk c τ H Q) (hi : i < σ.length) (e : g ++ gs.flatten = cs) (hz : cs.length ≤ 100) (hr : D.rt = R) :
    tSeq (tAsg (tLst (mkL mk g)) (gName i)) (blk mk i gs) D σ H0 := by
  have hm : ∀ c H Q, (∀ e d, H e = none → H d = none → d ≠ e → Q (.ref e) (laidE H c e d v)) → mk c σ H Q := hmk σ ⟨σ[i], by rw [List.set_getElem_self]⟩
  refine mkL_ok hm g H0 _ fun vs H1 ex1 hE1 => ?_
  have lv := hE1.length
  have hg : g.length ≤ 100 := by
    have z := congrArg List.length e
    rw [List.length_append] at z
    omega
  refine ⟨small_line (by omega), fun b nb => ?_⟩
  have exb : Evl.Ex H1 (upd H1 b (.lst vs)) := Evl.Ex.new nb
  refine blk_ok cs hR gs g (σ.set i (some (.ref b))) _ b vs _ (fun τ ⟨u, hu⟩ => hmk τ ⟨u, by rw [hu, List.set_set]⟩) (by rw [List.length_set]; exact hi) e hz (by rw [List.getElem?_set_self hi]) (ex1.trans exb) (Evl.fresh_back ex1 nb) upd_same (hE1.mono exb) hr

abbrev sFirst : Stmt := top 39
abbrev sCalled : Stmt := top 40
abbrev sBare : Stmt := top 41
abbrev sCode : Stmt := top 42
abbrev sIsErr : Stmt := top 43
abbrev sRight : Stmt := top 44
abbrev sLaw : Stmt := top 45
def cls (K : PySem.W.Frag) : List Addr := (List.range 28).map (cl K)
def spMany (K : PySem.W.Frag) : Sp := fun vs H Q _ => ∃ v, vs = [v] ∧ ∀ L H' es, H L = none → Evl.Ex H H' → H' L = some (.lst es) → ErrL H' v (cls K) es → Q (.ref L) H'
def spBare (K : PySem.W.Frag) : Sp := fun vs H Q _ => vs = [] ∧ ∀ L H' es, H L = none → Evl.Ex H H' → H' L = some (.lst es) → ErrL H' .non (cls K) es → Q (.ref L) H'
theorem scFirst : FnScope ["thing", "found"] ["thing"] (defScope sFirst) := ⟨rfl, rfl, rfl, by decide +kernel, rfl, by decide +kernel, by decide +kernel⟩
theorem scCalled : FnScope ["thing", "found"] ["thing"] (defScope sCalled) := ⟨rfl, rfl, rfl, by decide +kernel, rfl, by decide +kernel, by decide +kernel⟩
theorem scBare : FnScope ["found"] [] (defScope sBare) := ⟨rfl, rfl, rfl, by decide +kernel, rfl, by decide +kernel, by decide +kernel⟩
def cut (K : PySem.W.Frag) (a n : Nat) : List Addr := ((List.range n).map (· + a)).map (cl K)
section
variable {P : Program} {w : World} {K : PySem.W.Frag} {mg : Str → Option Value} {base : Heap} {f : Addr} {fd : FuncData}

theorem ok_first (F : FunD K "_law_first" "_law_first" (defArgs sFirst) (defBody sFirst) (defScope sFirst) [] [] f fd) (T : Txt K P mg) : FnOk P w K mg base CX0 3 f fd ["thing"] (spMany K) := by
  refine F.ok scFirst (fun vs H Q E h => ?_) (fun cdv A outer s H vs Q E hr h => ?_)
  · obtain ⟨v, rfl, _⟩ := h
    rfl
  · obtain ⟨v, rfl, k⟩ := h
    refine ⟨tSeq (tAsg (tLst (mkL (fun c => tMkE c (tCons (tVar 0) tNil)) [cl K 0, cl K 1, cl K 2, cl K 3, cl K 4])) (gName 1)) (blk (fun c => tMkE c (tCons (tVar 0) tNil)) 1 [[cl K 5, cl K 6, cl K 7, cl K 8], [cl K 9, cl K 10, cl K 11, cl K 12], [cl K 13, cl K 14, cl K 15, cl K 16], [cl K 17, cl K 18, cl K 19, cl K 20], [cl K 21, cl K 22, cl K 23, cl K 24, cl K 25], [cl K 26, cl K 27]]), PSs.nox (pss_cons (ps_set (i := 1) scFirst.nd rfl (.inl rfl) (pe_lst (pa_cons (pe_mkE (T.err 0 (by decide)) (T.kp 0 (by decide)) (hr.mono (by decide)) T.sup rfl (T.mg 0 (by decide)) (pv 0)) (pa_cons (pe_mkE (T.err 1 (by decide)) (T.kp 1 (by decide)) (hr.mono (by decide)) T.sup rfl (T.mg 1 (by decide)) (pv 0)) (pa_cons (pe_mkE (T.err 2 (by decide)) (T.kp 2 (by decide)) (hr.mono (by decide)) T.sup rfl (T.mg 2 (by decide)) (pv 0)) (pa_cons (pe_mkE (T.err 3 (by decide)) (T.kp 3 (by decide)) (hr.mono (by decide)) T.sup rfl (T.mg 3 (by decide)) (pv 0)) (pa_cons (pe_mkE (T.err 4 (by decide)) (T.kp 4 (by decide)) (hr.mono (by decide)) T.sup rfl (T.mg 4 (by decide)) (pv 0)) pa_nil)))))))
      (pss_cons (ps_set (i := 1) scFirst.nd rfl (.inl rfl) (pe_op op_cat (pv 1) (pe_lst (pa_cons (pe_mkE (T.err 5 (by decide)) (T.kp 5 (by decide)) (hr.mono (by decide)) T.sup rfl (T.mg 5 (by decide)) (pv 0)) (pa_cons (pe_mkE (T.err 6 (by decide)) (T.kp 6 (by decide)) (hr.mono (by decide)) T.sup rfl (T.mg 6 (by decide)) (pv 0)) (pa_cons (pe_mkE (T.err 7 (by decide)) (T.kp 7 (by decide)) (hr.mono (by decide)) T.sup rfl (T.mg 7 (by decide)) (pv 0)) (pa_cons (pe_mkE (T.err 8 (by decide)) (T.kp 8 (by decide)) (hr.mono (by decide)) T.sup rfl (T.mg 8 (by decide)) (pv 0)) pa_nil)))))))
      (pss_cons (ps_set (i := 1) scFirst.nd rfl (.inl rfl) (pe_op op_cat (pv 1) (pe_lst (pa_cons (pe_mkE (T.err 9 (by decide)) (T.kp 9 (by decide)) (hr.mono (by decide)) T.sup rfl (T.mg 9 (by decide)) (pv 0)) (pa_cons (pe_mkE (T.err 10 (by decide)) (T.kp 10 (by decide)) (hr.mono (by decide)) T.sup rfl (T.mg 10 (by decide)) (pv 0)) (pa_cons (pe_mkE (T.err 11 (by decide)) (T.kp 11 (by decide)) (hr.mono (by decide)) T.sup rfl (T.mg 11 (by decide)) (pv 0)) (pa_cons (pe_mkE (T.err 12 (by decide)) (T.kp 12 (by decide)) (hr.mono (by decide)) T.sup rfl (T.mg 12 (by decide)) (pv 0)) pa_nil)))))))
      (pss_cons (ps_set (i := 1) scFirst.nd rfl (.inl rfl) (pe_op op_cat (pv 1) (pe_lst (pa_cons (pe_mkE (T.err 13 (by decide)) (T.kp 13 (by decide)) (hr.mono (by decide)) T.sup rfl (T.mg 13 (by decide)) (pv 0)) (pa_cons (pe_mkE (T.err 14 (by decide)) (T.kp 14 (by decide)) (hr.mono (by decide)) T.sup rfl (T.mg 14 (by decide)) (pv 0)) (pa_cons (pe_mkE (T.err 15 (by decide)) (T.kp 15 (by decide)) (hr.mono (by decide)) T.sup rfl (T.mg 15 (by decide)) (pv 0)) (pa_cons (pe_mkE (T.err 16 (by decide)) (T.kp 16 (by decide)) (hr.mono (by decide)) T.sup rfl (T.mg 16 (by decide)) (pv 0)) pa_nil)))))))
      (pss_cons (ps_set (i := 1) scFirst.nd rfl (.inl rfl) (pe_op op_cat (pv 1) (pe_lst (pa_cons (pe_mkE (T.err 17 (by decide)) (T.kp 17 (by decide)) (hr.mono (by decide)) T.sup rfl (T.mg 17 (by decide)) (pv 0)) (pa_cons (pe_mkE (T.err 18 (by decide)) (T.kp 18 (by decide)) (hr.mono (by decide)) T.sup rfl (T.mg 18 (by decide)) (pv 0)) (pa_cons (pe_mkE (T.err 19 (by decide)) (T.kp 19 (by decide)) (hr.mono (by decide)) T.sup rfl (T.mg 19 (by decide)) (pv 0)) (pa_cons (pe_mkE (T.err 20 (by decide)) (T.kp 20 (by decide)) (hr.mono (by decide)) T.sup rfl (T.mg 20 (by decide)) (pv 0)) pa_nil)))))))
      (pss_cons (ps_set (i := 1) scFirst.nd rfl (.inl rfl) (pe_op op_cat (pv 1) (pe_lst (pa_cons (pe_mkE (T.err 21 (by decide)) (T.kp 21 (by decide)) (hr.mono (by decide)) T.sup rfl (T.mg 21 (by decide)) (pv 0)) (pa_cons (pe_mkE (T.err 22 (by decide)) (T.kp 22 (by decide)) (hr.mono (by decide)) T.sup rfl (T.mg 22 (by decide)) (pv 0)) (pa_cons (pe_mkE (T.err 23 (by decide)) (T.kp 23 (by decide)) (hr.mono (by decide)) T.sup rfl (T.mg 23 (by decide)) (pv 0)) (pa_cons (pe_mkE (T.err 24 (by decide)) (T.kp 24 (by decide)) (hr.mono (by decide)) T.sup rfl (T.mg 24 (by decide)) (pv 0)) (pa_cons (pe_mkE (T.err 25 (by decide)) (T.kp 25 (by decide)) (hr.mono (by decide)) T.sup rfl (T.mg 25 (by decide)) (pv 0)) pa_nil))))))))
      (pss_cons (ps_set (i := 1) scFirst.nd rfl (.inl rfl) (pe_op op_cat (pv 1) (pe_lst (pa_cons (pe_mkE (T.err 26 (by decide)) (T.kp 26 (by decide)) (hr.mono (by decide)) T.sup rfl (T.mg 26 (by decide)) (pv 0)) (pa_cons (pe_mkE (T.err 27 (by decide)) (T.kp 27 (by decide)) (hr.mono (by decide)) T.sup rfl (T.mg 27 (by decide)) (pv 0)) pa_nil)))))
      (pss_one (ps_ret (pv 1)))))))))), ?_⟩
    refine all_ok (v := v) (H0 := H) (cls K) k _ _ _ _ (fun τ ⟨u, hu⟩ c H Q q => ?_) (by show 1 < 2; decide) (by rfl) (by unfold cls; rw [List.length_map, List.length_range]; decide) rfl
    subst hu
    exact ⟨v, by rfl, v, rfl, q⟩
theorem ok_called (F : FunD K "_law_called" "_law_called" (defArgs sCalled) (defBody sCalled) (defScope sCalled) [] [] f fd) (T : Txt K P mg) : FnOk P w K mg base CX0 3 f fd ["thing"] (spMany K) := by
  refine F.ok scCalled (fun vs H Q E h => ?_) (fun cdv A outer s H vs Q E hr h => ?_)
  · obtain ⟨v, rfl, _⟩ := h
    rfl
  · obtain ⟨v, rfl, k⟩ := h
    refine ⟨tSeq (tAsg (tLst (mkL (fun c => tMkE c (tCons (tVar 0) tNil)) [cl K 0, cl K 1, cl K 2])) (gName 1)) (blk (fun c => tMkE c (tCons (tVar 0) tNil)) 1 [[cl K 3, cl K 4, cl K 5], [cl K 6, cl K 7, cl K 8], [cl K 9, cl K 10, cl K 11], [cl K 12, cl K 13, cl K 14], [cl K 15, cl K 16, cl K 17], [cl K 18, cl K 19, cl K 20], [cl K 21, cl K 22, cl K 23], [cl K 24, cl K 25, cl K 26, cl K 27]]), PSs.nox (pss_cons (ps_set (i := 1) scCalled.nd rfl (.inl rfl) (pe_lst (pa_cons (pe_mkEK (T.err 0 (by decide)) (T.kp 0 (by decide)) (hr.mono (by decide)) T.sup rfl (T.mg 0 (by decide)) (pv 0)) (pa_cons (pe_mkEK (T.err 1 (by decide)) (T.kp 1 (by decide)) (hr.mono (by decide)) T.sup rfl (T.mg 1 (by decide)) (pv 0)) (pa_cons (pe_mkEK (T.err 2 (by decide)) (T.kp 2 (by decide)) (hr.mono (by decide)) T.sup rfl (T.mg 2 (by decide)) (pv 0)) pa_nil)))))
      (pss_cons (ps_set (i := 1) scCalled.nd rfl (.inl rfl) (pe_op op_cat (pv 1) (pe_lst (pa_cons (pe_mkEK (T.err 3 (by decide)) (T.kp 3 (by decide)) (hr.mono (by decide)) T.sup rfl (T.mg 3 (by decide)) (pv 0)) (pa_cons (pe_mkEK (T.err 4 (by decide)) (T.kp 4 (by decide)) (hr.mono (by decide)) T.sup rfl (T.mg 4 (by decide)) (pv 0)) (pa_cons (pe_mkEK (T.err 5 (by decide)) (T.kp 5 (by decide)) (hr.mono (by decide)) T.sup rfl (T.mg 5 (by decide)) (pv 0)) pa_nil))))))
      (pss_cons (ps_set (i := 1) scCalled.nd rfl (.inl rfl) (pe_op op_cat (pv 1) (pe_lst (pa_cons (pe_mkEK (T.err 6 (by decide)) (T.kp 6 (by decide)) (hr.mono (by decide)) T.sup rfl (T.mg 6 (by decide)) (pv 0)) (pa_cons (pe_mkEK (T.err 7 (by decide)) (T.kp 7 (by decide)) (hr.mono (by decide)) T.sup rfl (T.mg 7 (by decide)) (pv 0)) (pa_cons (pe_mkEK (T.err 8 (by decide)) (T.kp 8 (by decide)) (hr.mono (by decide)) T.sup rfl (T.mg 8 (by decide)) (pv 0)) pa_nil))))))
      (pss_cons (ps_set (i := 1) scCalled.nd rfl (.inl rfl) (pe_op op_cat (pv 1) (pe_lst (pa_cons (pe_mkEK (T.err 9 (by decide)) (T.kp 9 (by decide)) (hr.mono (by decide)) T.sup rfl (T.mg 9 (by decide)) (pv 0)) (pa_cons (pe_mkEK (T.err 10 (by decide)) (T.kp 10 (by decide)) (hr.mono (by decide)) T.sup rfl (T.mg 10 (by decide)) (pv 0)) (pa_cons (pe_mkEK (T.err 11 (by decide)) (T.kp 11 (by decide)) (hr.mono (by decide)) T.sup rfl (T.mg 11 (by decide)) (pv 0)) pa_nil))))))
      (pss_cons (ps_set (i := 1) scCalled.nd rfl (.inl rfl) (pe_op op_cat (pv 1) (pe_lst (pa_cons (pe_mkEK (T.err 12 (by decide)) (T.kp 12 (by decide)) (hr.mono (by decide)) T.sup rfl (T.mg 12 (by decide)) (pv 0)) (pa_cons (pe_mkEK (T.err 13 (by decide)) (T.kp 13 (by decide)) (hr.mono (by decide)) T.sup rfl (T.mg 13 (by decide)) (pv 0)) (pa_cons (pe_mkEK (T.err 14 (by decide)) (T.kp 14 (by decide)) (hr.mono (by decide)) T.sup rfl (T.mg 14 (by decide)) (pv 0)) pa_nil))))))
      (pss_cons (ps_set (i := 1) scCalled.nd rfl (.inl rfl) (pe_op op_cat (pv 1) (pe_lst (pa_cons (pe_mkEK (T.err 15 (by decide)) (T.kp 15 (by decide)) (hr.mono (by decide)) T.sup rfl (T.mg 15 (by decide)) (pv 0)) (pa_cons (pe_mkEK (T.err 16 (by decide)) (T.kp 16 (by decide)) (hr.mono (by decide)) T.sup rfl (T.mg 16 (by decide)) (pv 0)) (pa_cons (pe_mkEK (T.err 17 (by decide)) (T.kp 17 (by decide)) (hr.mono (by decide)) T.sup rfl (T.mg 17 (by decide)) (pv 0)) pa_nil))))))
      (pss_cons (ps_set (i := 1) scCalled.nd rfl (.inl rfl) (pe_op op_cat (pv 1) (pe_lst (pa_cons (pe_mkEK (T.err 18 (by decide)) (T.kp 18 (by decide)) (hr.mono (by decide)) T.sup rfl (T.mg 18 (by decide)) (pv 0)) (pa_cons (pe_mkEK (T.err 19 (by decide)) (T.kp 19 (by decide)) (hr.mono (by decide)) T.sup rfl (T.mg 19 (by decide)) (pv 0)) (pa_cons (pe_mkEK (T.err 20 (by decide)) (T.kp 20 (by decide)) (hr.mono (by decide)) T.sup rfl (T.mg 20 (by decide)) (pv 0)) pa_nil))))))
      (pss_cons (ps_set (i := 1) scCalled.nd rfl (.inl rfl) (pe_op op_cat (pv 1) (pe_lst (pa_cons (pe_mkEK (T.err 21 (by decide)) (T.kp 21 (by decide)) (hr.mono (by decide)) T.sup rfl (T.mg 21 (by decide)) (pv 0)) (pa_cons (pe_mkEK (T.err 22 (by decide)) (T.kp 22 (by decide)) (hr.mono (by decide)) T.sup rfl (T.mg 22 (by decide)) (pv 0)) (pa_cons (pe_mkEK (T.err 23 (by decide)) (T.kp 23 (by decide)) (hr.mono (by decide)) T.sup rfl (T.mg 23 (by decide)) (pv 0)) pa_nil))))))
      (pss_cons (ps_set (i := 1) scCalled.nd rfl (.inl rfl) (pe_op op_cat (pv 1) (pe_lst (pa_cons (pe_mkEK (T.err 24 (by decide)) (T.kp 24 (by decide)) (hr.mono (by decide)) T.sup rfl (T.mg 24 (by decide)) (pv 0)) (pa_cons (pe_mkEK (T.err 25 (by decide)) (T.kp 25 (by decide)) (hr.mono (by decide)) T.sup rfl (T.mg 25 (by decide)) (pv 0)) (pa_cons (pe_mkEK (T.err 26 (by decide)) (T.kp 26 (by decide)) (hr.mono (by decide)) T.sup rfl (T.mg 26 (by decide)) (pv 0)) (pa_cons (pe_mkEK (T.err 27 (by decide)) (T.kp 27 (by decide)) (hr.mono (by decide)) T.sup rfl (T.mg 27 (by decide)) (pv 0)) pa_nil)))))))
      (pss_one (ps_ret (pv 1)))))))))))), ?_⟩
    refine all_ok (v := v) (H0 := H) (cls K) k _ _ _ _ (fun τ ⟨u, hu⟩ c H Q q => ?_) (by show 1 < 2; decide) (by rfl) (by unfold cls; rw [List.length_map, List.length_range]; decide) rfl
    subst hu
    exact ⟨v, by rfl, v, rfl, q⟩
theorem ok_bare (F : FunD K "_law_bare" "_law_bare" (defArgs sBare) (defBody sBare) (defScope sBare) [] [] f fd) (T : Txt K P mg) : FnOk P w K mg base CX0 3 f fd [] (spBare K) := by
  refine F.ok scBare (fun vs H Q E h => ?_) (fun cdv A outer s H vs Q E hr h => ?_)
  · obtain ⟨rfl, _⟩ := h
    rfl
  · obtain ⟨rfl, k⟩ := h
    refine ⟨tSeq (tAsg (tLst (mkL tMkE0 [cl K 0, cl K 1, cl K 2, cl K 3, cl K 4, cl K 5])) (gName 0)) (blk tMkE0 0 [[cl K 6, cl K 7, cl K 8, cl K 9, cl K 10], [cl K 11, cl K 12, cl K 13, cl K 14, cl K 15], [cl K 16, cl K 17, cl K 18, cl K 19, cl K 20, cl K 21], [cl K 22, cl K 23, cl K 24, cl K 25, cl K 26, cl K 27]]), PSs.nox (pss_cons (ps_set (i := 0) scBare.nd rfl (.inl rfl) (pe_lst (pa_cons (pe_mkE0 (T.err 0 (by decide)) (T.kp 0 (by decide)) (hr.mono (by decide)) T.sup rfl (T.mg 0 (by decide))) (pa_cons (pe_mkE0 (T.err 1 (by decide)) (T.kp 1 (by decide)) (hr.mono (by decide)) T.sup rfl (T.mg 1 (by decide))) (pa_cons (pe_mkE0 (T.err 2 (by decide)) (T.kp 2 (by decide)) (hr.mono (by decide)) T.sup rfl (T.mg 2 (by decide))) (pa_cons (pe_mkE0 (T.err 3 (by decide)) (T.kp 3 (by decide)) (hr.mono (by decide)) T.sup rfl (T.mg 3 (by decide))) (pa_cons (pe_mkE0 (T.err 4 (by decide)) (T.kp 4 (by decide)) (hr.mono (by decide)) T.sup rfl (T.mg 4 (by decide))) (pa_cons (pe_mkE0 (T.err 5 (by decide)) (T.kp 5 (by decide)) (hr.mono (by decide)) T.sup rfl (T.mg 5 (by decide))) pa_nil))))))))
      (pss_cons (ps_set (i := 0) scBare.nd rfl (.inl rfl) (pe_op op_cat (pv 0) (pe_lst (pa_cons (pe_mkE0 (T.err 6 (by decide)) (T.kp 6 (by decide)) (hr.mono (by decide)) T.sup rfl (T.mg 6 (by decide))) (pa_cons (pe_mkE0 (T.err 7 (by decide)) (T.kp 7 (by decide)) (hr.mono (by decide)) T.sup rfl (T.mg 7 (by decide))) (pa_cons (pe_mkE0 (T.err 8 (by decide)) (T.kp 8 (by decide)) (hr.mono (by decide)) T.sup rfl (T.mg 8 (by decide))) (pa_cons (pe_mkE0 (T.err 9 (by decide)) (T.kp 9 (by decide)) (hr.mono (by decide)) T.sup rfl (T.mg 9 (by decide))) (pa_cons (pe_mkE0 (T.err 10 (by decide)) (T.kp 10 (by decide)) (hr.mono (by decide)) T.sup rfl (T.mg 10 (by decide))) pa_nil))))))))
      (pss_cons (ps_set (i := 0) scBare.nd rfl (.inl rfl) (pe_op op_cat (pv 0) (pe_lst (pa_cons (pe_mkE0 (T.err 11 (by decide)) (T.kp 11 (by decide)) (hr.mono (by decide)) T.sup rfl (T.mg 11 (by decide))) (pa_cons (pe_mkE0 (T.err 12 (by decide)) (T.kp 12 (by decide)) (hr.mono (by decide)) T.sup rfl (T.mg 12 (by decide))) (pa_cons (pe_mkE0 (T.err 13 (by decide)) (T.kp 13 (by decide)) (hr.mono (by decide)) T.sup rfl (T.mg 13 (by decide))) (pa_cons (pe_mkE0 (T.err 14 (by decide)) (T.kp 14 (by decide)) (hr.mono (by decide)) T.sup rfl (T.mg 14 (by decide))) (pa_cons (pe_mkE0 (T.err 15 (by decide)) (T.kp 15 (by decide)) (hr.mono (by decide)) T.sup rfl (T.mg 15 (by decide))) pa_nil))))))))
      (pss_cons (ps_set (i := 0) scBare.nd rfl (.inl rfl) (pe_op op_cat (pv 0) (pe_lst (pa_cons (pe_mkE0 (T.err 16 (by decide)) (T.kp 16 (by decide)) (hr.mono (by decide)) T.sup rfl (T.mg 16 (by decide))) (pa_cons (pe_mkE0 (T.err 17 (by decide)) (T.kp 17 (by decide)) (hr.mono (by decide)) T.sup rfl (T.mg 17 (by decide))) (pa_cons (pe_mkE0 (T.err 18 (by decide)) (T.kp 18 (by decide)) (hr.mono (by decide)) T.sup rfl (T.mg 18 (by decide))) (pa_cons (pe_mkE0 (T.err 19 (by decide)) (T.kp 19 (by decide)) (hr.mono (by decide)) T.sup rfl (T.mg 19 (by decide))) (pa_cons (pe_mkE0 (T.err 20 (by decide)) (T.kp 20 (by decide)) (hr.mono (by decide)) T.sup rfl (T.mg 20 (by decide))) (pa_cons (pe_mkE0 (T.err 21 (by decide)) (T.kp 21 (by decide)) (hr.mono (by decide)) T.sup rfl (T.mg 21 (by decide))) pa_nil)))))))))
      (pss_cons (ps_set (i := 0) scBare.nd rfl (.inl rfl) (pe_op op_cat (pv 0) (pe_lst (pa_cons (pe_mkE0 (T.err 22 (by decide)) (T.kp 22 (by decide)) (hr.mono (by decide)) T.sup rfl (T.mg 22 (by decide))) (pa_cons (pe_mkE0 (T.err 23 (by decide)) (T.kp 23 (by decide)) (hr.mono (by decide)) T.sup rfl (T.mg 23 (by decide))) (pa_cons (pe_mkE0 (T.err 24 (by decide)) (T.kp 24 (by decide)) (hr.mono (by decide)) T.sup rfl (T.mg 24 (by decide))) (pa_cons (pe_mkE0 (T.err 25 (by decide)) (T.kp 25 (by decide)) (hr.mono (by decide)) T.sup rfl (T.mg 25 (by decide))) (pa_cons (pe_mkE0 (T.err 26 (by decide)) (T.kp 26 (by decide)) (hr.mono (by decide)) T.sup rfl (T.mg 26 (by decide))) (pa_cons (pe_mkE0 (T.err 27 (by decide)) (T.kp 27 (by decide)) (hr.mono (by decide)) T.sup rfl (T.mg 27 (by decide))) pa_nil)))))))))
      (pss_one (ps_ret (pv 0)))))))), ?_⟩
    refine all_ok (v := .non) (H0 := H) (cls K) k _ _ _ _ (fun τ ⟨u, hu⟩ c H Q q => q) (by show 0 < 1; decide) (by rfl) (by unfold cls; rw [List.length_map, List.length_range]; decide) rfl
end
end K1
namespace K1
open PySem PySem.Spec PyProof.Rows L2 LawB Err
local macro_rules | `(tactic| walk_at "ari") => `(tactic| first | omega | exact Go.mul_ok (Or.inl ⟨by omega, by omega⟩) | exact Go.mul_ok (Or.inr ⟨by omega, by omega⟩))
local macro_rules | `(tactic| walk_at "hp") => `(tactic| first | assumption | exact upd_same | (with_reducible refine Eq.trans (upd_ne ?cc) ?_; (case cc => walk_at "ne"); walk_at "hp"))
local macro_rules | `(tactic| walk_at "ne") => `(tactic| first | assumption | (refine Ne.symm ?_; assumption) | exact ne_of_none (by assumption) (by assumption) | exact (ne_of_none (by assumption) (by assumption)).symm)
local macro_rules | `(tactic| walk_at "go") => `(tactic| first
  | with_reducible refine Go.seq ?_ | with_reducible refine Go.asg ?_ | with_reducible refine Go.name ?_ | with_reducible refine Go.op ?_ | with_reducible refine Go.con ?_ | with_reducible refine Go.consA ?_ | with_reducible refine Go.nilA ?_
  | with_reducible refine Go.cb ?_ | with_reducible refine Go.call ?_ | with_reducible refine Go.lst ?_ | with_reducible refine Go.tup ?_
  | with_reducible refine Go.ret ?_ | with_reducible refine Go.drop ?_ | with_reducible refine Go.nxt ?_ | with_reducible refine Go.ifs ?_ | with_reducible refine Go.ifeI ?_ | with_reducible refine Go.ife ?_ | with_reducible refine Go.test ?_ | with_reducible refine Go.tb_ ?_ | with_reducible refine Go.isb ?_
  | with_reducible refine Go.tand ?_ | with_reducible refine Go.tor ?_ | with_reducible refine Go.tnot ?_ | with_reducible refine Go.gsub ?_ | with_reducible refine Go.i0 ?_
  | with_reducible refine Go.bits ?_ | with_reducible refine Go.sl ?_ | with_reducible refine Go.part ?_ | with_reducible refine Go.noPart ?_ | with_reducible refine Go.isi ?_ | with_reducible refine Go.int1 ?_ | with_reducible refine Go.mx ?_ | with_reducible refine Go.mn ?_
  | with_reducible refine Go.m1 ?_ | with_reducible refine Go.isS ?_ | with_reducible refine Go.wp (by with_unfolding_all rfl) ?_ | with_reducible refine Go.yes ?_ | with_reducible refine Go.ifT ?_ | with_reducible refine Go.ifF ?_
  | ((with_reducible refine Go.md ?cc ?_); (case cc => omega); intro _ _ _) | ((with_reducible refine Go.ml ?cc ?_); (case cc => walk_at "ari"))
  | with_reducible refine Go.ix (SqL.of (by walk_at "hp")) (by with_unfolding_all rfl) ?_
  | with_reducible refine Go.setL (by walk_at "hp") (by with_unfolding_all rfl) ?_
  | with_reducible refine Go.var (by with_unfolding_all rfl) ?_)

section
variable {P : Program} {w : World} {K : PySem.W.Frag} {mg : Str → Option Value} {base : Heap} {f : Addr} {fd : FuncData}
/-! ### kinds -/
def isL (K : PySem.W.Frag) : List Addr → TA
  | [] => tNil
  | c :: cs => tCons (tCB (rIsE K) (tCons (tVar 0) (tCons (tC (.ref c)) tNil))) (isL K cs)
/-- an error of the i-th class stands at e -/
def AtE (K : PySem.W.Frag) (H : Hp) (e : Addr) (i : Nat) : Prop := ∃ od, H e = some (exo e (cl K i) od) ∧ ∀ d, od = some d → ∃ fs, H d = some (exd d fs)
theorem AtE.mono {H H' : Hp} {e : Addr} {i : Nat} (ex : Evl.Ex H H') (h : AtE K H e i) : AtE K H' e i := by
  obtain ⟨od, a, b⟩ := h
  exact ⟨od, ex _ _ a, fun d hd => (b d hd).imp fun fs z => ex _ _ z⟩
theorem isL_ok (T : Txt K P mg) {i : Nat} (hi : i < 31) {e : Addr} {σ : L2.St} (hσ : σ[0]? = some (some (.ref e))) {H : Hp} (hE : AtE K H e i) : ∀ (js : List Nat), (∀ j ∈ js, j < 30) → ∀ Q : List V → Hp → Prop, Q (js.map fun j => V.bl (decide (i = j))) H → isL K (js.map (cl K)) σ H Q
  | [], _, Q, q => q
  | j :: js, hj, Q, q => by
    obtain ⟨od, a, b⟩ := hE
    refine ⟨_, hσ, e, cl K i, od, _, _, _, rfl, .own _, T.errA i hi, a, b, T.kit i j hi (hj j (List.mem_cons_self ..)), ?_⟩
    exact isL_ok T hi hσ ⟨od, a, b⟩ js (fun j' h => hj j' (List.mem_cons_of_mem _ h)) _ q
/-- found = found + [..]; .. -/
def cblk (K : PySem.W.Frag) (u : TS) : List (List Nat) → TS
  | [] => u
  | g :: gs => tSeq (tAsg (tOp rCat (tVar 1) (tLst (isL K (g.map (cl K))))) (gName 1)) (cblk K u gs)
theorem cblk_ok (T : Txt K P mg) {i : Nat} (hi : i < 31) {e : Addr} {u : TS} {H0 : Hp} {z : Option V} {D : Ends} (js : List Nat) (hu : ∀ D' : Ends, D'.rt = D.rt → ∀ l H', Evl.Ex H0 H' → H' l = some (.lst (js.map fun j => V.bl (decide (i = j)))) → u D' [some (.ref e), some (.ref l), z] H') :
    ∀ (gs : List (List Nat)) (as : List Nat) (H : Hp) (l : Addr) (D' : Ends), D'.rt = D.rt → (∀ j ∈ js, j < 30) → as ++ gs.flatten = js → js.length ≤ 100 → AtE K H e i → Evl.Ex H0 H → H0 l = none → H l = some (.lst (as.map fun j => V.bl (decide (i = j)))) → cblk K u gs D' [some (.ref e), some (.ref l), z] H
  | [], as, H, l, D', hD', hj, e', hz, hE, ex, hn, hl => by
    have e2 : as = js := by simpa using e'
    subst e2
    exact hu D' hD' l H ex hl
  | g :: gs, as, H, l, D', hD', hj, e', hz, hE, ex, hn, hl => by
    have e2 : as ++ g ++ gs.flatten = js := by rw [← e']; simp
    have lz : as.length + g.length ≤ 100 := by
      have q := congrArg List.length e2
      rw [List.length_append, List.length_append] at q
      omega
    refine ⟨_, rfl, isL_ok T hi (by rfl) hE g (fun j h => hj j (by rw [← e2]; simp [h])) _ ⟨small_line (by rw [List.length_map]; omega), fun b nb => ?_⟩⟩
    have exb := Evl.Ex.new (o := .lst (g.map fun j => V.bl (decide (i = j)))) nb
    refine ⟨l, b, _, _, rfl, rfl, exb _ _ hl, upd_same, small_line (by rw [List.length_map, List.length_map]; omega), fun p np => ?_⟩
    have exp := Evl.Ex.new (o := .lst ((as.map fun j => V.bl (decide (i = j))) ++ g.map fun j => V.bl (decide (i = j)))) np
    refine cblk_ok T hi js hu gs (as ++ g) _ p _ hD' hj e2 hz (hE.mono (exb.trans exp)) (ex.trans (exb.trans exp)) (Evl.fresh_back (ex.trans exb) np) ?_
    rw [List.map_append]
    exact upd_same
def ix (i : Nat) : List V := if i < 30 then [.int i] else []
def spCode (K : PySem.W.Frag) : Sp := fun vs H Q _ => ∃ (e : Addr) (i : Nat), vs = [.ref e] ∧ i < 31 ∧ AtE K H e i ∧ ∀ L H', H L = none → Evl.Ex H H' → H' L = some (.lst (ix i)) → Q (.ref L) H'
theorem scCode : FnScope ["error", "found", "at"] ["error"] (defScope sCode) := ⟨rfl, rfl, rfl, by decide +kernel, rfl, by decide +kernel, by decide +kernel⟩
theorem ok_code (F : FunD K "_law_code" "_law_code" (defArgs sCode) (defBody sCode) (defScope sCode) [] [] f fd) (T : Txt K P mg) : FnOk P w K mg base CX0 3 f fd ["error"] (spCode K) := by
  refine F.ok scCode (fun vs H Q E h => ?_) (fun cdv A outer s H vs Q E hr h => ?_)
  · obtain ⟨e, i, rfl, _⟩ := h
    rfl
  · obtain ⟨e, i, rfl, hi, hE, k⟩ := h
    refine ⟨tSeq (tAsg (tLst (isL K (([0, 1, 2] : List Nat).map (cl K)))) (gName 1)) (cblk K (tRet (tLc (iRng1 (tCons (tCB (fun xs H Q => ∃ p ys, xs = [.ref p] ∧ (SqL K H p ys ∨ SqT K H p ys) ∧ Q (.int ys.length) H) (tCons (tVar 1) tNil)) tNil)) (gName 2) (tB (tOp (rIx K) (tVar 1) (tVar 2))) (tVar 2) [2])) [[3, 4], [5, 6], [7, 8], [9, 10], [11, 12], [13, 14], [15, 16], [17, 18], [19, 20], [21, 22], [23, 24, 25], [26, 27], [28, 29]]), PSs.nox (pss_cons (ps_set (i := 1) scCode.nd rfl (Or.inr rfl) (pe_lst (pa_cons (pe_callB call_isE (by rfl) T.isi boot_isinstance (pa_cons (pv 0) (pa_cons (pe_glob rfl (T.mg 0 (by decide)) rfl) pa_nil))) (pa_cons (pe_callB call_isE (by rfl) T.isi boot_isinstance (pa_cons (pv 0) (pa_cons (pe_glob rfl (T.mg 1 (by decide)) rfl) pa_nil))) (pa_cons (pe_callB call_isE (by rfl) T.isi boot_isinstance (pa_cons (pv 0) (pa_cons (pe_glob rfl (T.mg 2 (by decide)) rfl) pa_nil))) pa_nil)))))
      (pss_cons (ps_set (i := 1) scCode.nd rfl (Or.inr rfl) (pe_op op_cat (pv 1) (pe_lst (pa_cons (pe_callB call_isE (by rfl) T.isi boot_isinstance (pa_cons (pv 0) (pa_cons (pe_glob rfl (T.mg 3 (by decide)) rfl) pa_nil))) (pa_cons (pe_callB call_isE (by rfl) T.isi boot_isinstance (pa_cons (pv 0) (pa_cons (pe_glob rfl (T.mg 4 (by decide)) rfl) pa_nil))) pa_nil)))))
      (pss_cons (ps_set (i := 1) scCode.nd rfl (Or.inr rfl) (pe_op op_cat (pv 1) (pe_lst (pa_cons (pe_callB call_isE (by rfl) T.isi boot_isinstance (pa_cons (pv 0) (pa_cons (pe_glob rfl (T.mg 5 (by decide)) rfl) pa_nil))) (pa_cons (pe_callB call_isE (by rfl) T.isi boot_isinstance (pa_cons (pv 0) (pa_cons (pe_glob rfl (T.mg 6 (by decide)) rfl) pa_nil))) pa_nil)))))
      (pss_cons (ps_set (i := 1) scCode.nd rfl (Or.inr rfl) (pe_op op_cat (pv 1) (pe_lst (pa_cons (pe_callB call_isE (by rfl) T.isi boot_isinstance (pa_cons (pv 0) (pa_cons (pe_glob rfl (T.mg 7 (by decide)) rfl) pa_nil))) (pa_cons (pe_callB call_isE (by rfl) T.isi boot_isinstance (pa_cons (pv 0) (pa_cons (pe_glob rfl (T.mg 8 (by decide)) rfl) pa_nil))) pa_nil)))))
      (pss_cons (ps_set (i := 1) scCode.nd rfl (Or.inr rfl) (pe_op op_cat (pv 1) (pe_lst (pa_cons (pe_callB call_isE (by rfl) T.isi boot_isinstance (pa_cons (pv 0) (pa_cons (pe_glob rfl (T.mg 9 (by decide)) rfl) pa_nil))) (pa_cons (pe_callB call_isE (by rfl) T.isi boot_isinstance (pa_cons (pv 0) (pa_cons (pe_glob rfl (T.mg 10 (by decide)) rfl) pa_nil))) pa_nil)))))
      (pss_cons (ps_set (i := 1) scCode.nd rfl (Or.inr rfl) (pe_op op_cat (pv 1) (pe_lst (pa_cons (pe_callB call_isE (by rfl) T.isi boot_isinstance (pa_cons (pv 0) (pa_cons (pe_glob rfl (T.mg 11 (by decide)) rfl) pa_nil))) (pa_cons (pe_callB call_isE (by rfl) T.isi boot_isinstance (pa_cons (pv 0) (pa_cons (pe_glob rfl (T.mg 12 (by decide)) rfl) pa_nil))) pa_nil)))))
      (pss_cons (ps_set (i := 1) scCode.nd rfl (Or.inr rfl) (pe_op op_cat (pv 1) (pe_lst (pa_cons (pe_callB call_isE (by rfl) T.isi boot_isinstance (pa_cons (pv 0) (pa_cons (pe_glob rfl (T.mg 13 (by decide)) rfl) pa_nil))) (pa_cons (pe_callB call_isE (by rfl) T.isi boot_isinstance (pa_cons (pv 0) (pa_cons (pe_glob rfl (T.mg 14 (by decide)) rfl) pa_nil))) pa_nil)))))
      (pss_cons (ps_set (i := 1) scCode.nd rfl (Or.inr rfl) (pe_op op_cat (pv 1) (pe_lst (pa_cons (pe_callB call_isE (by rfl) T.isi boot_isinstance (pa_cons (pv 0) (pa_cons (pe_glob rfl (T.mg 15 (by decide)) rfl) pa_nil))) (pa_cons (pe_callB call_isE (by rfl) T.isi boot_isinstance (pa_cons (pv 0) (pa_cons (pe_glob rfl (T.mg 16 (by decide)) rfl) pa_nil))) pa_nil)))))
      (pss_cons (ps_set (i := 1) scCode.nd rfl (Or.inr rfl) (pe_op op_cat (pv 1) (pe_lst (pa_cons (pe_callB call_isE (by rfl) T.isi boot_isinstance (pa_cons (pv 0) (pa_cons (pe_glob rfl (T.mg 17 (by decide)) rfl) pa_nil))) (pa_cons (pe_callB call_isE (by rfl) T.isi boot_isinstance (pa_cons (pv 0) (pa_cons (pe_glob rfl (T.mg 18 (by decide)) rfl) pa_nil))) pa_nil)))))
      (pss_cons (ps_set (i := 1) scCode.nd rfl (Or.inr rfl) (pe_op op_cat (pv 1) (pe_lst (pa_cons (pe_callB call_isE (by rfl) T.isi boot_isinstance (pa_cons (pv 0) (pa_cons (pe_glob rfl (T.mg 19 (by decide)) rfl) pa_nil))) (pa_cons (pe_callB call_isE (by rfl) T.isi boot_isinstance (pa_cons (pv 0) (pa_cons (pe_glob rfl (T.mg 20 (by decide)) rfl) pa_nil))) pa_nil)))))
      (pss_cons (ps_set (i := 1) scCode.nd rfl (Or.inr rfl) (pe_op op_cat (pv 1) (pe_lst (pa_cons (pe_callB call_isE (by rfl) T.isi boot_isinstance (pa_cons (pv 0) (pa_cons (pe_glob rfl (T.mg 21 (by decide)) rfl) pa_nil))) (pa_cons (pe_callB call_isE (by rfl) T.isi boot_isinstance (pa_cons (pv 0) (pa_cons (pe_glob rfl (T.mg 22 (by decide)) rfl) pa_nil))) pa_nil)))))
      (pss_cons (ps_set (i := 1) scCode.nd rfl (Or.inr rfl) (pe_op op_cat (pv 1) (pe_lst (pa_cons (pe_callB call_isE (by rfl) T.isi boot_isinstance (pa_cons (pv 0) (pa_cons (pe_glob rfl (T.mg 23 (by decide)) rfl) pa_nil))) (pa_cons (pe_callB call_isE (by rfl) T.isi boot_isinstance (pa_cons (pv 0) (pa_cons (pe_glob rfl (T.mg 24 (by decide)) rfl) pa_nil))) (pa_cons (pe_callB call_isE (by rfl) T.isi boot_isinstance (pa_cons (pv 0) (pa_cons (pe_glob rfl (T.mg 25 (by decide)) rfl) pa_nil))) pa_nil))))))
      (pss_cons (ps_set (i := 1) scCode.nd rfl (Or.inr rfl) (pe_op op_cat (pv 1) (pe_lst (pa_cons (pe_callB call_isE (by rfl) T.isi boot_isinstance (pa_cons (pv 0) (pa_cons (pe_glob rfl (T.mg 26 (by decide)) rfl) pa_nil))) (pa_cons (pe_callB call_isE (by rfl) T.isi boot_isinstance (pa_cons (pv 0) (pa_cons (pe_glob rfl (T.mg 27 (by decide)) rfl) pa_nil))) pa_nil)))))
      (pss_cons (ps_set (i := 1) scCode.nd rfl (Or.inr rfl) (pe_op op_cat (pv 1) (pe_lst (pa_cons (pe_callB call_isE (by rfl) T.isi boot_isinstance (pa_cons (pv 0) (pa_cons (pe_glob rfl (T.mg 28 (by decide)) rfl) pa_nil))) (pa_cons (pe_callB call_isE (by rfl) T.isi boot_isinstance (pa_cons (pv 0) (pa_cons (pe_glob rfl (T.mg 29 (by decide)) rfl) pa_nil))) pa_nil)))))
      (pss_one (ps_ret (pe_lc (own := [("at", 2)]) (g := gName 2) rfl scCode.nd (pi_range1 (by rfl) T.bl.range (pa_cons (pe_callB call_len_seq (by rfl) T.bl.len boot_len (pa_cons (pv 1) pa_nil)) pa_nil)) (blkOk_by (own := [("at", 2)]) (N := ["error", "found", "at"]) (sc := defScope sCode) (by decide +kernel)) (fun _ _ _ _ _ => pg_name (i := 2) scCode.nd rfl (Or.inl rfl)) (fun _ _ _ _ _ => pts_one (pt_val (pe_ix Go.ixK (pv 1) (pv 2) (fun _ _ => rfl)))) (fun _ _ _ _ _ => pv 2)))))))))))))))))), ?_⟩
    refine Go.seq (Go.asg (Go.lst ?_))
    refine isL_ok T hi rfl hE [0, 1, 2] (by decide) _ ⟨small_line (by rw [List.length_map]; decide), fun b nb => ?_⟩
    have exb := Evl.Ex.new (o := .lst (([0, 1, 2] : List Nat).map fun j => V.bl (decide (i = j)))) nb
    refine cblk_ok (D := { nx := fun _ H' => Q .non H', rt := Q }) T hi (List.range 30) (fun D' hD' l H' ex hl => ?_) _ [0, 1, 2] _ b _ rfl (by intro j hj; exact List.mem_range.mp hj) (by rfl) (by decide) (hE.mono exb) exb nb upd_same
    refine Go.ret ?_
    rw [hD']
    refine Go.lcR 30 (H1 := H') (fun Q q => ⟨_, rfl, l, _, rfl, .inl (SqL.of hl), q⟩) (by decide) (fun D nD => ⟨fun j H2 => Evl.Ex H' H2 ∧ H2 D = some (.lst (if i < j then [.int i] else [])), ⟨Evl.Ex.new nD, by rw [upd_same]; simp⟩, fun j H2 hj p' => ?_, fun H2 p' => ?_⟩)
    · obtain ⟨ex2, hD⟩ := p'
      repeat walk_at "go"
      refine Go.ix (SqL.of (ex2 _ _ hl)) (v := .bl (decide (i = j))) ?_ ?_
      · refine atI_nat ?_
        rw [List.getElem?_map, List.getElem?_range hj]
        rfl
      repeat walk_at "go"
      refine Go.ifb (fun c => ?_) (fun c => ?_)
      · have e := of_decide_eq_true c
        subst e
        refine ⟨_, rfl, _, hD, small_line (by split <;> simp), ex2.mut nD, ?_⟩
        rw [upd_same, if_neg (Nat.lt_irrefl _), if_pos (Nat.lt_succ_self _)]
        rfl
      · have e := of_decide_eq_false c
        refine ⟨ex2, ?_⟩
        rw [hD]
        by_cases h1 : i < j
        · rw [if_pos h1, if_pos (by omega)]
        · rw [if_neg h1, if_neg (by omega)]
    · obtain ⟨ex2, hD⟩ := p'
      exact k D H2 (Evl.fresh_back ex nD) (ex.trans ex2) hD
end
end K1
namespace K1
open PySem PySem.Spec PyProof.Rows L2 LawB Err
local macro_rules | `(tactic| walk_at "ari") => `(tactic| first | omega | exact Go.mul_ok (Or.inl ⟨by omega, by omega⟩) | exact Go.mul_ok (Or.inr ⟨by omega, by omega⟩))
local macro_rules | `(tactic| walk_at "hp") => `(tactic| first | assumption | exact upd_same | (with_reducible refine Eq.trans (upd_ne ?cc) ?_; (case cc => walk_at "ne"); walk_at "hp"))
local macro_rules | `(tactic| walk_at "ne") => `(tactic| first | assumption | (refine Ne.symm ?_; assumption) | exact ne_of_none (by assumption) (by assumption) | exact (ne_of_none (by assumption) (by assumption)).symm)
local macro_rules | `(tactic| walk_at "go") => `(tactic| first
  | with_reducible refine Go.seq ?_ | with_reducible refine Go.asg ?_ | with_reducible refine Go.name ?_ | with_reducible refine Go.op ?_ | with_reducible refine Go.con ?_ | with_reducible refine Go.consA ?_ | with_reducible refine Go.nilA ?_
  | with_reducible refine Go.cb ?_ | with_reducible refine Go.call ?_ | with_reducible refine Go.lst ?_ | with_reducible refine Go.tup ?_
  | with_reducible refine Go.ret ?_ | with_reducible refine Go.drop ?_ | with_reducible refine Go.nxt ?_ | with_reducible refine Go.ifs ?_ | with_reducible refine Go.ifeI ?_ | with_reducible refine Go.ife ?_ | with_reducible refine Go.test ?_ | with_reducible refine Go.tb_ ?_ | with_reducible refine Go.isb ?_
  | with_reducible refine Go.tand ?_ | with_reducible refine Go.tor ?_ | with_reducible refine Go.tnot ?_ | with_reducible refine Go.gsub ?_ | with_reducible refine Go.i0 ?_
  | with_reducible refine Go.bits ?_ | with_reducible refine Go.sl ?_ | with_reducible refine Go.part ?_ | with_reducible refine Go.noPart ?_ | with_reducible refine Go.isi ?_ | with_reducible refine Go.int1 ?_ | with_reducible refine Go.mx ?_ | with_reducible refine Go.mn ?_
  | with_reducible refine Go.m1 ?_ | with_reducible refine Go.isS ?_ | with_reducible refine Go.wp (by with_unfolding_all rfl) ?_ | with_reducible refine Go.yes ?_ | with_reducible refine Go.ifT ?_ | with_reducible refine Go.ifF ?_
  | ((with_reducible refine Go.md ?cc ?_); (case cc => omega); intro _ _ _) | ((with_reducible refine Go.ml ?cc ?_); (case cc => walk_at "ari"))
  | with_reducible refine Go.ix (SqL.of (by walk_at "hp")) (by with_unfolding_all rfl) ?_
  | with_reducible refine Go.setL (by walk_at "hp") (by with_unfolding_all rfl) ?_
  | with_reducible refine Go.var (by with_unfolding_all rfl) ?_)

section
variable {P : Program} {w : World} {K : PySem.W.Frag} {mg : Str → Option Value} {base : Heap} {f : Addr} {fd : FuncData}
/-! ### the kinds of all, the field of all -/
def spIsErr (K : PySem.W.Frag) : Sp := fun vs H Q _ => ∃ (e : Addr) (i : Nat), vs = [.ref e] ∧ i < 31 ∧ AtE K H e i ∧ Q (.bl true) H
theorem pe_errVK {X : Cx} {K : PySem.W.Frag} {e : Expr} {te : TE} {pos : Pos} (he : PE X e te) (hk : X.K = K := by rfl) (hb : attributeBase e "value" X.env (eval e X.env) = eval e X.env := by rfl) : PE X (.Attribute e "value" pos) (tErrV K te) := hk ▸ pe_errV he hb
theorem call_reprK {X : Cx} {K : PySem.W.Frag} (hgu : X.A.guards = some []) (hu : X.A.units + 64 < cLine) (SY : Rp.SysIn K) (hk : X.K = K := by rfl) : CallR X (.builtin "repr") (Rp.rRepr K) := hk ▸ Rp.call_reprD hgu hu (hk ▸ SY)
theorem errV_go {K : PySem.W.Frag} {te : TE} {σ : L2.St} {H : Hp} {Q : VK} (h : te σ H fun x H1 => ∃ e C d v, x = .ref e ∧ ErrA K C ∧ H1 e = some (exo e C (some d)) ∧ H1 d = some (exd d [(("value" : Str), v)]) ∧ Q v H1) : tErrV K te σ H Q := h
theorem boot_VE : bootBuiltins "ValueError" = some (.type "ValueError") := by decide +kernel
theorem scIsErr : FnScope ["error"] ["error"] (defScope sIsErr) := ⟨rfl, rfl, rfl, by decide +kernel, rfl, by decide +kernel, by decide +kernel⟩
theorem isE {T : Txt K P mg} {i : Nat} (hi : i < 31) {e : Addr} {H : Hp} {c : V} {u : Value} {b : Bool} {Q : VK} (hE : AtE K H e i) (hc : ClsV c u) (hk : PySem.W.kitOne K (.ref (cl K i)) u = some b) (q : Q (.bl b) H) : rIsE K [.ref e, c] H Q := by
  obtain ⟨od, a, z⟩ := hE
  exact ⟨e, cl K i, od, c, u, b, rfl, hc, T.errA i hi, a, z, hk, q⟩
theorem ok_isErr (F : FunD K "_law_is_error" "_law_is_error" (defArgs sIsErr) (defBody sIsErr) (defScope sIsErr) [] [] f fd) (T : Txt K P mg) : FnOk P w K mg base CX0 1 f fd ["error"] (spIsErr K) := by
  refine F.ok scIsErr (fun vs H Q E h => ?_) (fun cdv A outer s H vs Q E hr h => ?_)
  · obtain ⟨e, i, rfl, _⟩ := h
    rfl
  · obtain ⟨e, i, rfl, hi, hE, k⟩ := h
    refine ⟨_, PSs.nox (pss_one (ps_ret (pe_and (pe_callB call_isE (by rfl) T.isi boot_isinstance (pa_cons (pv 0) (pa_cons (pe_glob (v := .ref (cl K 30)) rfl (T.mg 30 (by decide)) rfl) pa_nil)))
      (pe_one (pe_callB call_isE (by rfl) T.isi boot_isinstance (pa_cons (pv 0) (pa_cons (pe_bltn (v := .ty "ValueError") rfl T.ve boot_VE rfl) pa_nil))))))), ?_⟩
    refine Go.ret (Go.andV ?_)
    repeat walk_at "go"
    refine isE (T := T) hi hE (.own _) (T.kitD i hi) ⟨true, rfl, Go.ifT ?_⟩
    repeat walk_at "go"
    exact isE (T := T) hi hE (.ty _) (T.kitV i hi) k
structure Bl2 (mg : Str → Option Value) : Prop where
  repr : mg "repr" = none
  lst : mg "list" = none
  dct : mg "dict" = none
  tpl : mg "tuple" = none
  all : mg "all" = none
mutual
theorem dx_mono {H H' : Hp} (ex : Evl.Ex H H') : ∀ (d : PyData) (v : V), Rp.Dx K H v d → Rp.Dx K H' v d
  | .none, _, h => by
    cases h
    exact .non
  | .bool b, _, h => by
    cases h
    exact .bl b
  | .int i, _, h => by
    cases h
    exact .int i
  | .str x, _, h => by
    cases h
    exact .str x
  | .list ds, _, h => by
    cases h with
    | @lst a xs _ ea hA => exact .lst (ex _ _ ea) (dxAll_mono ex ds xs hA)
  | .tuple ds, _, h => by
    cases h with
    | @tup a xs _ ea hA => exact .tup (ex _ _ ea) (dxAll_mono ex ds xs hA)
  | .dict ds, _, h => by
    cases h with
    | @dct a kvs _ ea hA => exact .dct (ex _ _ ea) (dxKv_mono ex ds kvs hA)
theorem dxAll_mono {H H' : Hp} (ex : Evl.Ex H H') : ∀ (ds : List PyData) (vs : List V), Rp.DxAll K H vs ds → Rp.DxAll K H' vs ds
  | [], _, h => by
    cases h
    exact .nil
  | d :: ds, _, h => by
    cases h with
    | cons h1 h2 => exact .cons (dx_mono ex d _ h1) (dxAll_mono ex ds _ h2)
theorem dxKv_mono {H H' : Hp} (ex : Evl.Ex H H') : ∀ (ds : List (PyData × PyData)) (vs : List (Key × V)), Rp.DxKv K H vs ds → Rp.DxKv K H' vs ds
  | [], _, h => by
    cases h
    exact .nil
  | d :: ds, _, h => by
    cases h with
    | cons h1 h2 => exact .cons (dx_mono ex _ _ h1) (dxKv_mono ex ds _ h2)
end
theorem ErrL.at {H : Hp} {v : V} {cs : List Addr} {es : List V} (h : ErrL H v cs es) : ∀ {i : Nat} {x : V}, es[i]? = some x → ∃ c, cs[i]? = some c ∧ ∃ e d, x = V.ref e ∧ H e = some (exo e c (some d)) ∧ H d = some (exd d [(("value" : Str), v)]) := by
  induction h with
  | nil => intro i x h; cases h
  | cons r t ih =>
    intro i x h
    cases i with
    | zero =>
      cases h
      exact ⟨_, rfl, r⟩
    | succ i => exact ih h
theorem cls_at {i : Nat} {c : Addr} (h : (cls K)[i]? = some c) : i < 28 ∧ c = cl K i := by
  unfold cls at h
  rw [List.getElem?_map] at h
  by_cases hi : i < 28
  · rw [List.getElem?_range hi] at h
    cases h
    exact ⟨hi, rfl⟩
  · rw [List.getElem?_eq_none (by rw [List.length_range]; omega)] at h
    cases h
/-- what both lists of numbers are -/
def nums (n : Nat) : List PyData := (List.range n).map fun (j : Nat) => .list [.int (j : Int)]
def Nums (H : Hp) (D : Addr) (n : Nat) (vs : List V) : Prop := vs.length = n ∧ ∀ (j : Nat) (x : V), vs[j]? = some x → ∃ L : Addr, x = V.ref L ∧ L ≠ D ∧ H L = some (.lst [.int (j : Int)])
theorem Nums.mono {H H' : Hp} {D : Addr} (ex : Evl.Ex H H') {n : Nat} {vs : List V} (h : Nums H D n vs) : Nums H' D n vs := ⟨h.1, fun j x hx => (h.2 j x hx).imp fun L z => ⟨z.1, z.2.1, ex _ _ z.2.2⟩⟩
theorem Nums.upd {H : Hp} {D : Addr} {o : HO} {n : Nat} {vs : List V} (h : Nums H D n vs) : Nums (upd H D o) D n vs := ⟨h.1, fun j x hx => (h.2 j x hx).imp fun L z => ⟨z.1, z.2.1, by rw [upd_ne z.2.1]; exact z.2.2⟩⟩
theorem Nums.snoc {H : Hp} {D : Addr} {n : Nat} {vs : List V} {L : Addr} (h : Nums H D n vs) (hL : H L = some (.lst [.int (n : Int)])) (ne : L ≠ D) : Nums H D (n + 1) (vs ++ [.ref L]) := by
  refine ⟨by rw [List.length_append, h.1]; rfl, fun j x hx => ?_⟩
  by_cases hj : j < vs.length
  · rw [List.getElem?_append_left hj] at hx
    exact h.2 j x hx
  · rw [List.getElem?_append_right (by omega)] at hx
    by_cases e : j = n
    · subst e
      rw [h.1, Nat.sub_self] at hx
      cases hx
      exact ⟨L, rfl, ne, hL⟩
    · have e1 := h.1
      rw [List.getElem?_eq_none (by simp; omega)] at hx
      cases hx
theorem dpAll_of {H : Hp} : ∀ (ds : List PyData) (vs : List V), vs.length = ds.length → (∀ (j : Nat) (x : V) (d : PyData), vs[j]? = some x → ds[j]? = some d → Dp K H x d) → DpAll K H vs ds
  | [], [], _, _ => .nil
  | d :: ds, v :: vs, e, h => .cons (h 0 v d rfl rfl) (dpAll_of ds vs (by simpa using e) fun j x d' h1 h2 => h (j + 1) x d' h1 h2)
theorem Nums.dp {H : Hp} {n : Nat} {vs : List V} {D : Addr} (h : Nums H D n vs) (hD : H D = some (.lst vs)) : Dp K H (.ref D) (.list (nums n)) := by
  refine .lst (SqL.of hD) (dpAll_of _ _ (by unfold nums; rw [h.1]; simp) fun j x d hx hd => ?_)
  obtain ⟨L, rfl, _, hL⟩ := h.2 j x hx
  unfold nums at hd
  rw [List.getElem?_map] at hd
  have hj : j < n := by
    rcases Nat.lt_or_ge j n with z | z
    · exact z
    · rw [List.getElem?_eq_none (by rw [h.1]; exact z)] at hx
      cases hx
  rw [List.getElem?_range hj] at hd
  cases hd
  exact .lst (SqL.of hL) (.cons (.int _) .nil)
def spRight (K : PySem.W.Frag) : Sp := fun vs H Q _ => ∃ (a : Addr) (es : List V) (v : V) (d : PyData), vs = [.ref a, .str d.shown] ∧ H a = some (.lst es) ∧ ErrL H v (cls K) es ∧ Rp.Dx K H v d ∧ d.showable = true ∧ d.depth ≤ 50 ∧ d.shown.length ≤ sizeLine ∧ ∀ H', Evl.Ex H H' → Q (.bl true) H'
theorem scRight : FnScope ["some", "noted", "error", "at"] ["some", "noted"] (defScope sRight) := ⟨rfl, rfl, rfl, by decide +kernel, rfl, by decide +kernel, by decide +kernel⟩
theorem nums_eqv : PyData.eqv (.list (nums 28)) (.list (nums 28)) = true := by decide +kernel
theorem nums_shaped : SeqAt.shaped (.list (nums 28)) = true := by decide +kernel
theorem ok_right (F : FunD K "_law_right" "_law_right" (defArgs sRight) (defBody sRight) (defScope sRight) [] [] f fd) (T : Txt K P mg) (T2 : Bl2 mg) (SY : Rp.SysIn K)
    (BC : Go.Fb P w K mg base 3 "_law_code" ["error"] [] (spCode K)) (BI : Go.Fb P w K mg base 1 "_law_is_error" ["error"] [] (spIsErr K)) : GL.FnG P w K mg base CX0 4 f fd ["some", "noted"] (spRight K) := by
  refine GL.fnG_body F scRight (fun vs H Q E h => ?_) (fun cdv A outer s H vs Q E hg hr h => ?_)
  · obtain ⟨a, es, v, d, rfl, _⟩ := h
    rfl
  · obtain ⟨a, es, v, d, rfl, hL, hE, hd, hs, hz, hl, k⟩ := h
    have hu : (A.deeper (envOfC "_law_right" (defScope sRight) s.heap.objs.size f cdv)).units + 64 < cLine := by
      have := hr.un
      omega
    refine ⟨_, PSs.nox (pss_cons (ps_if (pt_cmpR (op_neD hu) (pe_lc (own := [("error", 2)]) (g := gName 2) rfl scRight.nd (pi_list (pv 0)) (blkOk_by (own := [("error", 2)]) (N := ["some", "noted", "error", "at"]) (sc := defScope sRight) (by decide +kernel)) (fun _ _ _ _ _ => pg_name (i := 2) scRight.nd rfl (Or.inl rfl)) (fun _ _ _ _ _ => pts_nil) (fun _ _ _ _ _ => Go.pe_fb BC hr rfl (pa_cons (pv 2) pa_nil)))
        (pe_lc (own := [("at", 3)]) (g := gName 3) rfl scRight.nd (pi_range1 (by rfl) T.bl.range (pa_cons pe_int pa_nil)) (blkOk_by (own := [("at", 3)]) (N := ["some", "noted", "error", "at"]) (sc := defScope sRight) (by decide +kernel)) (fun _ _ _ _ _ => pg_name (i := 3) scRight.nd rfl (Or.inl rfl)) (fun _ _ _ _ _ => pts_nil) (fun _ _ _ _ _ => pe_lst (pa_cons (pv 3) pa_nil))) (nomark _))
        (pss_one (ps_ret pe_bl)) pss_nil)
      (pss_one (ps_ret (pe_cmpR (op_eqD hu) (pe_lc (own := [("error", 2)]) (g := gName 2) rfl scRight.nd (pi_list (pv 0)) (blkOk_by (own := [("error", 2)]) (N := ["some", "noted", "error", "at"]) (sc := defScope sRight) (by decide +kernel)) (fun _ _ _ _ _ => pg_name (i := 2) scRight.nd rfl (Or.inl rfl))
          (fun _ _ _ _ _ => pts_one (PW.pt (pw_or (pt_not (pt_val (Go.pe_fb BI hr rfl (pa_cons (pv 2) pa_nil)))) (pw_or1 (pt_cmpR op_ne (pe_callB (call_reprK (K := K) hg hu SY) (by rfl) T2.repr boot_repr (pa_cons (pe_errVK (K := K) (pv 2)) pa_nil)) (pv 1) (nomark _))))))
          (fun _ _ _ _ _ => pv 2)) (pe_lst pa_nil) (nomark _))))), ?_⟩
    refine Go.seq (Go.ifs (Go.test (Go.op ?_)))
    have le : es.length = 28 := by
      rw [hE.length]
      unfold cls
      simp
    refine Go.lcL a es (H1 := H) (fun Q q => ⟨_, rfl, q⟩) (SqL.of hL) fun D nD => ⟨fun i H1 => Evl.Ex H H1 ∧ ∃ acc, H1 D = some (.lst acc) ∧ Nums H1 D i acc, ⟨Evl.Ex.new nD, [], upd_same, rfl, fun j x h => by cases h⟩, fun i H1 _ p => SqL.of (p.1 _ _ hL), fun i x H1 hx p => ?_, fun H1 p => ?_⟩
    · obtain ⟨ex, acc, hD, hN⟩ := p
      obtain ⟨c, hc, e, dd, rfl, he, hdd⟩ := hE.at hx
      obtain ⟨hi, rfl⟩ := cls_at hc
      have DD : D ≠ e := (ne_of_none he nD).symm
      repeat walk_at "go"
      refine ⟨e, i, rfl, by omega, ⟨some dd, ex _ _ he, fun d h => by cases h; exact ⟨_, ex _ _ hdd⟩⟩, fun L H2 hL2 ex2 h2 => ?_⟩
      have hD2 := ex2 _ _ hD
      have exD : Evl.Ex H (upd H2 D (.lst (acc ++ [V.ref L]))) := (ex.trans ex2).mut nD
      refine ⟨acc, hD2, by rw [hN.1, sizeLine_eq]; omega, exD, _, upd_same, ?_⟩
      have neL : L ≠ D := (ne_of_none hD hL2).symm
      have e2 : ix i = [V.int i] := if_pos (by omega)
      rw [e2] at h2
      exact ((hN.mono ex2).snoc h2 neL).upd
    · obtain ⟨ex, acc, hD, hN⟩ := p
      rw [le] at hN
      refine Go.lcR 28 (H1 := H1) (fun Q q => q) (by decide) fun D2 nD2 => ⟨fun i H2 => Evl.Ex H1 H2 ∧ ∃ acc, H2 D2 = some (.lst acc) ∧ Nums H2 D2 i acc, ⟨Evl.Ex.new nD2, [], upd_same, rfl, fun j x h => by cases h⟩, fun i H2 hi p => ?_, fun H2 p => ?_⟩
      · obtain ⟨ex2, ac2, hD2, hN2⟩ := p
        repeat walk_at "go"
        refine ⟨small_line (by rw [List.length_singleton]; decide), fun L nL => ?_⟩
        have neL : L ≠ D2 := (ne_of_none hD2 nL).symm
        have exL := Evl.Ex.new (o := .lst [.int ((0 : Int) + (i : Int))]) nL
        refine ⟨ac2, by rw [upd_ne neL.symm]; exact hD2, by rw [hN2.1, sizeLine_eq]; omega, (ex2.trans (Evl.Ex.new nL)).mut nD2, _, upd_same, ?_⟩
        exact ((hN2.mono (Evl.Ex.new nL)).snoc upd_same neL).upd
      · obtain ⟨ex2, ac2, hD2, hN2⟩ := p
        refine ⟨_, _, (hN.mono ex2).dp (ex2 _ _ hD), hN2.dp hD2, nums_shaped, nums_shaped, ?_⟩
        rw [nums_eqv]
        refine Go.isb (Go.ifF ?_)
        repeat walk_at "go"
        have exA := ex.trans ex2
        refine Go.lcL a es (H1 := H2) (fun Q q => ⟨_, rfl, q⟩) (SqL.of (exA _ _ hL)) fun D3 nD3 => ⟨fun i H3 => Evl.Ex H2 H3 ∧ H3 D3 = some (.lst []), ⟨Evl.Ex.new nD3, upd_same⟩, fun i H3 _ p => SqL.of (p.1 _ _ (exA _ _ hL)), fun i x H3 hx p => ?_, fun H3 p => ?_⟩
        · obtain ⟨ex3, hD3⟩ := p
          obtain ⟨c, hc, e, dd, rfl, he, hdd⟩ := hE.at hx
          obtain ⟨hi, rfl⟩ := cls_at hc
          have ex4 := exA.trans ex3
          repeat walk_at "go"
          refine ⟨e, i, rfl, by omega, ⟨some dd, ex4 _ _ he, fun d h => by cases h; exact ⟨_, ex4 _ _ hdd⟩⟩, ?_⟩
          repeat walk_at "go"
          refine Go.ifF ?_
          repeat walk_at "go"
          refine errV_go ?_
          repeat walk_at "go"
          refine ⟨e, cl K i, dd, v, rfl, T.errA i (by omega), ex4 _ _ he, ex4 _ _ hdd, ?_⟩
          repeat walk_at "go"
          refine ⟨v, d, rfl, dx_mono ex4 d v hd, hs, hz, hl, ?_⟩
          repeat walk_at "go"
          refine Go.neS rfl ?_
          rw [decide_eq_true (rfl : V.str d.shown = V.str d.shown)]
          refine Go.isb (Go.ifF ?_)
          exact ⟨ex3, hD3⟩
        · obtain ⟨ex3, hD3⟩ := p
          repeat walk_at "go"
          refine ⟨by decide, fun b nb => ?_⟩
          have nbD : b ≠ D3 := (ne_of_none hD3 nb).symm
          refine ⟨_, _, .lst (SqL.of (by rw [upd_ne nbD.symm]; exact hD3)) .nil, .lst (SqL.of upd_same) .nil, by decide +kernel, by decide +kernel, ?_⟩
          exact k _ (exA.trans (ex3.trans (Evl.Ex.new nb)))
end
end K1
namespace K1
open PySem PySem.Spec PyProof.Rows L2 LawB Err
local macro_rules | `(tactic| walk_at "ari") => `(tactic| first | omega | exact Go.mul_ok (Or.inl ⟨by omega, by omega⟩) | exact Go.mul_ok (Or.inr ⟨by omega, by omega⟩))
local macro_rules | `(tactic| walk_at "hp") => `(tactic| first | assumption | exact upd_same | (with_reducible refine Eq.trans (upd_ne ?cc) ?_; (case cc => walk_at "ne"); walk_at "hp"))
local macro_rules | `(tactic| walk_at "ne") => `(tactic| first | assumption | (refine Ne.symm ?_; assumption) | exact ne_of_none (by assumption) (by assumption) | exact (ne_of_none (by assumption) (by assumption)).symm)
local macro_rules | `(tactic| walk_at "go") => `(tactic| first
  | with_reducible refine Go.seq ?_ | with_reducible refine Go.asg ?_ | with_reducible refine Go.name ?_ | with_reducible refine Go.op ?_ | with_reducible refine Go.con ?_ | with_reducible refine Go.consA ?_ | with_reducible refine Go.nilA ?_
  | with_reducible refine Go.cb ?_ | with_reducible refine Go.call ?_ | with_reducible refine Go.lst ?_ | with_reducible refine Go.tup ?_
  | with_reducible refine Go.ret ?_ | with_reducible refine Go.drop ?_ | with_reducible refine Go.nxt ?_ | with_reducible refine Go.ifs ?_ | with_reducible refine Go.ifeI ?_ | with_reducible refine Go.ife ?_ | with_reducible refine Go.test ?_ | with_reducible refine Go.tb_ ?_ | with_reducible refine Go.isb ?_
  | with_reducible refine Go.tand ?_ | with_reducible refine Go.tor ?_ | with_reducible refine Go.tnot ?_ | with_reducible refine Go.gsub ?_ | with_reducible refine Go.i0 ?_
  | with_reducible refine Go.bits ?_ | with_reducible refine Go.sl ?_ | with_reducible refine Go.part ?_ | with_reducible refine Go.noPart ?_ | with_reducible refine Go.isi ?_ | with_reducible refine Go.int1 ?_ | with_reducible refine Go.mx ?_ | with_reducible refine Go.mn ?_
  | with_reducible refine Go.m1 ?_ | with_reducible refine Go.isS ?_ | with_reducible refine Go.wp (by with_unfolding_all rfl) ?_ | with_reducible refine Go.yes ?_ | with_reducible refine Go.ifT ?_ | with_reducible refine Go.ifF ?_
  | ((with_reducible refine Go.md ?cc ?_); (case cc => omega); intro _ _ _) | ((with_reducible refine Go.ml ?cc ?_); (case cc => walk_at "ari"))
  | with_reducible refine Go.ix (SqL.of (by walk_at "hp")) (by with_unfolding_all rfl) ?_
  | with_reducible refine Go.setL (by walk_at "hp") (by with_unfolding_all rfl) ?_
  | with_reducible refine Go.var (by with_unfolding_all rfl) ?_)

section
variable {P : Program} {w : World} {K : PySem.W.Frag} {mg : Str → Option Value} {base : Heap} {f : Addr} {fd : FuncData}
/-! ### the drawn object, its change -/
structure OkD (d : PyData) : Prop where
  sh : d.showable = true
  dp : d.depth ≤ 50
  sz : d.shown.length ≤ sizeLine
theorem okd {d : PyData} (h1 : d.showable = true) (h2 : d.depth ≤ 50) (h3 : d.leavesShort 13 = true) (h4 : d.weight ≤ 1000) : OkD d := ⟨h1, h2, PyData.shown_fits (B := 13) (by decide) (by decide) h3 (Nat.le_trans h4 (by decide))⟩
theorem wd_short {x : Str} (h : Wd x) : (PyData.str x).leavesShort 13 = true := by
  simp only [PyData.leavesShort, List.all_eq_true, decide_eq_true_eq]
  intro c hc
  have z := h.2.2 c hc
  omega
theorem wd_size {x : Str} (h : Wd x) : x.cps.size ≤ 8 := h.2.1
/-- x is the drawn object, ms are its lists, tuples, dicts -/
inductive ThK (K : PySem.W.Frag) (H : Hp) (x : Str) : V → List Addr → Prop where
  | non : ThK K H x .non []
  | bl (b : Bool) : ThK K H x (.bl b) []
  | int (i : Int) (h : i.natAbs < 2147483648) : ThK K H x (.int i) []
  | str : ThK K H x (.str x) []
  | tupD (T D : Addr) (h1 : H T = some (.tup [.str "says", .ref D])) (h2 : H D = some (.dK [(.inr x, .str x)])) : ThK K H x (.ref T) [T, D]
  | tupL (T L : Addr) (h1 : H T = some (.tup [.str x, .ref L])) (h2 : H L = some (.lst [.str x])) : ThK K H x (.ref T) [T, L]
  | dct (D L : Addr) (h1 : H D = some (.dK [(.inr x, .ref L)])) (h2 : H L = some (.lst [.str x])) : ThK K H x (.ref D) [D, L]
  | lst (L : Addr) (h1 : H L = some (.lst [.str x])) : ThK K H x (.ref L) [L]
  | deep (L M D : Addr) (h1 : H L = some (.lst [.ref M, .ref D])) (h2 : H M = some (.lst [.str x])) (h3 : H D = some (.dK [(.inr "done", .str x)])) : ThK K H x (.ref L) [L, M, D]
theorem ThK.mono {H H' : Hp} {x : Str} {v : V} {ms : List Addr} (ex : Evl.Ex H H') (h : ThK K H x v ms) : ThK K H' x v ms := by
  cases h with
  | non => exact .non
  | bl b => exact .bl b
  | int i h => exact .int i h
  | str => exact .str
  | tupD T D h1 h2 => exact .tupD T D (ex _ _ h1) (ex _ _ h2)
  | tupL T L h1 h2 => exact .tupL T L (ex _ _ h1) (ex _ _ h2)
  | dct D L h1 h2 => exact .dct D L (ex _ _ h1) (ex _ _ h2)
  | lst L h1 => exact .lst L (ex _ _ h1)
  | deep L M D h1 h2 h3 => exact .deep L M D (ex _ _ h1) (ex _ _ h2) (ex _ _ h3)
theorem ThK.there {H : Hp} {x : Str} {v : V} {ms : List Addr} (h : ThK K H x v ms) : ∀ m ∈ ms, (∃ xs, H m = some (.lst xs)) ∨ (∃ xs, H m = some (.tup xs)) ∨ ∃ ks, H m = some (.dK ks) := by
  cases h with
  | non => intro m hm; cases hm
  | bl b => intro m hm; cases hm
  | int i h => intro m hm; cases hm
  | str => intro m hm; cases hm
  | tupD T D h1 h2 =>
    intro m hm
    rcases List.mem_cons.mp hm with rfl | hm
    · exact .inr (.inl ⟨_, h1⟩)
    · cases List.mem_singleton.mp hm
      exact .inr (.inr ⟨_, h2⟩)
  | tupL T L h1 h2 =>
    intro m hm
    rcases List.mem_cons.mp hm with rfl | hm
    · exact .inr (.inl ⟨_, h1⟩)
    · cases List.mem_singleton.mp hm
      exact .inl ⟨_, h2⟩
  | dct D L h1 h2 =>
    intro m hm
    rcases List.mem_cons.mp hm with rfl | hm
    · exact .inr (.inr ⟨_, h1⟩)
    · cases List.mem_singleton.mp hm
      exact .inl ⟨_, h2⟩
  | lst L h1 =>
    intro m hm
    cases List.mem_singleton.mp hm
    exact .inl ⟨_, h1⟩
  | deep L M D h1 h2 h3 =>
    intro m hm
    rcases List.mem_cons.mp hm with rfl | hm
    · exact .inl ⟨_, h1⟩
    · rcases List.mem_cons.mp hm with rfl | hm
      · exact .inl ⟨_, h2⟩
      · cases List.mem_singleton.mp hm
        exact .inr (.inr ⟨_, h3⟩)
theorem int_short {i : Int} (h : i.natAbs < 2147483648) : (PyData.int i).showable = true ∧ (PyData.int i).leavesShort 13 = true ∧ (PyData.int i).weight ≤ 100 := by
  have l : i.natAbs.log2 < 31 ∨ i.natAbs = 0 := by
    rcases Nat.eq_zero_or_pos i.natAbs with z | z
    · exact .inr z
    · exact .inl ((Nat.log2_lt (by omega)).mpr (by omega))
  have l2 : i.natAbs.log2 < 31 := l.elim id fun z => by rw [z]; decide
  refine ⟨?_, ?_, ?_⟩
  · simp only [PyData.showable, decide_eq_true_eq]
    omega
  · have z : (PyData.shown (.int i)).length ≤ 11 := by
      simp only [PyData.shown]
      show (Str.ofString (toString i)).length ≤ 11
      have e := int_text_length_le10 (a := i) (k := 10) (by decide) (by omega)
      rw [PySem.ofString_length]
      omega
    simp only [PyData.leavesShort, decide_eq_true_eq]
    omega
  · simp only [PyData.weight]
    split <;> omega
theorem q1 : ((Str.ofString "says").cps.toList.all fun c => decide (c < 16 ^ 8)) = true := by decide +kernel
theorem q2 : ((Str.ofString "done").cps.toList.all fun c => decide (c < 16 ^ 8)) = true := by decide +kernel
theorem q3 : ((Str.ofString "later").cps.toList.all fun c => decide (c < 16 ^ 8)) = true := by decide +kernel
theorem q4 : ((Str.ofString "LATER").cps.toList.all fun c => decide (c < 16 ^ 8)) = true := by decide +kernel
theorem q5 : decide ((PyData.shown (.int 1)).length ≤ 13) = true := by decide +kernel
theorem ThK.data {H : Hp} {x : Str} (hx : Wd x) {v : V} {ms : List Addr} (h : ThK K H x v ms) : ∃ d, Rp.Dx K H v d ∧ OkD d := by
  have s1 : (x.cps.toList.all fun c => decide (c < 16 ^ 8)) = true := wd_short hx
  have s2 := wd_size hx
  have s3 : (PyData.str x).showable = true := rfl
  cases h with
  | non => exact ⟨_, .non, okd rfl (by decide) rfl (by decide)⟩
  | bl b => exact ⟨_, .bl b, okd rfl (by simp [PyData.depth]) rfl (by simp [PyData.weight])⟩
  | int i h =>
    obtain ⟨a, b, c⟩ := int_short h
    exact ⟨_, .int i, okd a (by simp [PyData.depth]) b (by omega)⟩
  | str => exact ⟨_, .str x, okd rfl (by simp [PyData.depth]) (wd_short hx) (by simp only [PyData.weight]; omega)⟩
  | tupD T D h1 h2 => exact ⟨_, .tup h1 (.cons (.str _) (.cons (.dct h2 (.cons (.str _) .nil)) .nil)), okd (by simp [PyData.showable, PyData.showableAll, PyData.showableKv, Rp.kD]) (by simp [PyData.depth, PyData.depthAll, PyData.depthKv, Rp.kD]) (by simp only [PyData.leavesShort, PyData.leavesShortAll, PyData.leavesShortKv, Rp.kD, s1, q1, q2, q3, q4, q5, Bool.and_self]) (by simp only [PyData.weight, PyData.weightAll, PyData.weightKv, Rp.kD]; have e1 : ("says" : Str).cps.size = 4 := rfl; have e2 : ("done" : Str).cps.size = 4 := rfl; have e3 : ("later" : Str).cps.size = 5 := rfl; have e4 : ("LATER" : Str).cps.size = 5 := rfl; have e5 : (if (1 : Int) == 0 then 0 else (1 : Int).natAbs.log2 + 1) = 1 := (by decide +kernel); omega)⟩
  | tupL T L h1 h2 => exact ⟨_, .tup h1 (.cons (.str _) (.cons (.lst h2 (.cons (.str _) .nil)) .nil)), okd (by simp [PyData.showable, PyData.showableAll, PyData.showableKv, Rp.kD]) (by simp [PyData.depth, PyData.depthAll, PyData.depthKv, Rp.kD]) (by simp only [PyData.leavesShort, PyData.leavesShortAll, PyData.leavesShortKv, Rp.kD, s1, q1, q2, q3, q4, q5, Bool.and_self]) (by simp only [PyData.weight, PyData.weightAll, PyData.weightKv, Rp.kD]; have e1 : ("says" : Str).cps.size = 4 := rfl; have e2 : ("done" : Str).cps.size = 4 := rfl; have e3 : ("later" : Str).cps.size = 5 := rfl; have e4 : ("LATER" : Str).cps.size = 5 := rfl; have e5 : (if (1 : Int) == 0 then 0 else (1 : Int).natAbs.log2 + 1) = 1 := (by decide +kernel); omega)⟩
  | dct D L h1 h2 => exact ⟨_, .dct h1 (.cons (.lst h2 (.cons (.str _) .nil)) .nil), okd (by simp [PyData.showable, PyData.showableAll, PyData.showableKv, Rp.kD]) (by simp [PyData.depth, PyData.depthAll, PyData.depthKv, Rp.kD]) (by simp only [PyData.leavesShort, PyData.leavesShortAll, PyData.leavesShortKv, Rp.kD, s1, q1, q2, q3, q4, q5, Bool.and_self]) (by simp only [PyData.weight, PyData.weightAll, PyData.weightKv, Rp.kD]; have e1 : ("says" : Str).cps.size = 4 := rfl; have e2 : ("done" : Str).cps.size = 4 := rfl; have e3 : ("later" : Str).cps.size = 5 := rfl; have e4 : ("LATER" : Str).cps.size = 5 := rfl; have e5 : (if (1 : Int) == 0 then 0 else (1 : Int).natAbs.log2 + 1) = 1 := (by decide +kernel); omega)⟩
  | lst L h1 => exact ⟨_, .lst h1 (.cons (.str _) .nil), okd (by simp [PyData.showable, PyData.showableAll, PyData.showableKv, Rp.kD]) (by simp [PyData.depth, PyData.depthAll, PyData.depthKv, Rp.kD]) (by simp only [PyData.leavesShort, PyData.leavesShortAll, PyData.leavesShortKv, Rp.kD, s1, q1, q2, q3, q4, q5, Bool.and_self]) (by simp only [PyData.weight, PyData.weightAll, PyData.weightKv, Rp.kD]; have e1 : ("says" : Str).cps.size = 4 := rfl; have e2 : ("done" : Str).cps.size = 4 := rfl; have e3 : ("later" : Str).cps.size = 5 := rfl; have e4 : ("LATER" : Str).cps.size = 5 := rfl; have e5 : (if (1 : Int) == 0 then 0 else (1 : Int).natAbs.log2 + 1) = 1 := (by decide +kernel); omega)⟩
  | deep L M D h1 h2 h3 => exact ⟨_, .lst h1 (.cons (.lst h2 (.cons (.str _) .nil)) (.cons (.dct h3 (.cons (.str _) .nil)) .nil)), okd (by simp [PyData.showable, PyData.showableAll, PyData.showableKv, Rp.kD]) (by simp [PyData.depth, PyData.depthAll, PyData.depthKv, Rp.kD]) (by simp only [PyData.leavesShort, PyData.leavesShortAll, PyData.leavesShortKv, Rp.kD, s1, q1, q2, q3, q4, q5, Bool.and_self]) (by simp only [PyData.weight, PyData.weightAll, PyData.weightKv, Rp.kD]; have e1 : ("says" : Str).cps.size = 4 := rfl; have e2 : ("done" : Str).cps.size = 4 := rfl; have e3 : ("later" : Str).cps.size = 5 := rfl; have e4 : ("LATER" : Str).cps.size = 5 := rfl; have e5 : (if (1 : Int) == 0 then 0 else (1 : Int).natAbs.log2 + 1) = 1 := (by decide +kernel); omega)⟩
/-! the four changes -/
def isI (K : PySem.W.Frag) (te : TE) (T : String) : TT := tB (tCB (rIsi K) (tCons te (tCons (tC (.ty T)) tNil)))
def app (K : PySem.W.Frag) (te : TE) : TS := tDrop (tBM K "list" rAppend te (tCons (tC (.str "later")) tNil))
def put (te : TE) : TS := tAsg (tC (.int 1)) (gSub te (tC (.str "LATER")) rSetD)
def at1 (K : PySem.W.Frag) : TE := tOp (rIx K) (tVar 4) (tC (.int 1))
def mut1 (K : PySem.W.Frag) : TS := tIfS (isI K (tVar 4) "list") (app K (tVar 4)) tNext
def mut2 (K : PySem.W.Frag) : TS := tIfS (isI K (tVar 4) "dict") (tSeq (app K (tDGet (tVar 4) (tVar 2))) (put (tVar 4))) tNext
def mut3 (K : PySem.W.Frag) : TS := tIfS (tAnd (isI K (tVar 4) "tuple") (isI K (at1 K) "list")) (app K (at1 K)) tNext
def mut4 (K : PySem.W.Frag) : TS := tIfS (tAnd (isI K (tVar 4) "tuple") (isI K (at1 K) "dict")) (put (at1 K)) tNext
theorem isI_ok {te : TE} {T t : String} {x : V} {b : Bool} {σ : L2.St} {H : Hp} {Q : Bool → Hp → Prop} (hv : ∀ Q : VK, Q x H → te σ H Q) (ty : TyX K H x (.type t)) (hb : kitB t T = some b) (q : Q b H) : isI K te T σ H Q :=
  hv _ ⟨x, .ty T, .type t, .type T, b, rfl, .ty T, ty, kit_ty hb, b, rfl, q⟩
theorem app_ok {te : TE} {L : Addr} {xs : List V} {σ : L2.St} {H : Hp} {D : Ends} (hv : ∀ Q : VK, Q (.ref L) H → te σ H Q) (h : H L = some (.lst xs)) (hz : xs.length < 100) (q : D.nx σ (upd H L (.lst (xs ++ [.str "later"])))) : app K te D σ H :=
  hv _ ⟨.inl ⟨rfl, xs, SqL.of h⟩, L, xs, .str "later", rfl, rfl, h, by rw [sizeLine_eq]; omega, q⟩
theorem put_ok {te : TE} {L : Addr} {ks : List (Key × V)} {σ : L2.St} {H : Hp} {D : Ends} (hv : ∀ Q : VK, Q (.ref L) H → te σ H Q) (h : H L = some (.dK ks)) (hz : ks.length < 100) (q : D.nx σ (upd H L (.dK (putK ks (.inr "LATER") (.int 1))))) : put te D σ H :=
  hv _ ⟨L, _, rfl, DPut.k (k := .inr "LATER") h (by rw [sizeLine_eq]; omega), q⟩
theorem not1 {t : String} {x : V} {σ : L2.St} {H : Hp} {D : Ends} (hv : σ[4]? = some (some x)) (ty : TyX K H x (.type t)) (hb : kitB t "list" = some false) (q : D.nx σ H) : mut1 K D σ H :=
  isI_ok (fun Q k => ⟨x, hv, k⟩) ty hb q
theorem not2 {t : String} {x : V} {σ : L2.St} {H : Hp} {D : Ends} (hv : σ[4]? = some (some x)) (ty : TyX K H x (.type t)) (hb : kitB t "dict" = some false) (q : D.nx σ H) : mut2 K D σ H :=
  isI_ok (fun Q k => ⟨x, hv, k⟩) ty hb q
theorem not3 {t : String} {x : V} {σ : L2.St} {H : Hp} {D : Ends} (hv : σ[4]? = some (some x)) (ty : TyX K H x (.type t)) (hb : kitB t "tuple" = some false) (q : D.nx σ H) : mut3 K D σ H :=
  isI_ok (fun Q k => ⟨x, hv, k⟩) ty hb q
theorem not4 {t : String} {x : V} {σ : L2.St} {H : Hp} {D : Ends} (hv : σ[4]? = some (some x)) (ty : TyX K H x (.type t)) (hb : kitB t "tuple" = some false) (q : D.nx σ H) : mut4 K D σ H :=
  isI_ok (fun Q k => ⟨x, hv, k⟩) ty hb q
theorem flat4 {t : String} {x : V} {σ : L2.St} {H : Hp} {u : TS} {D : Ends} (hv : σ[4]? = some (some x)) (ty : TyX K H x (.type t)) (h1 : kitB t "list" = some false) (h2 : kitB t "dict" = some false) (h3 : kitB t "tuple" = some false) (q : u D σ H) :
    (tSeq (mut1 K) (tSeq (mut2 K) (tSeq (mut3 K) (tSeq (mut4 K) u)))) D σ H := not1 hv ty h1 (not2 hv ty h2 (not3 hv ty h3 (not4 hv ty h3 q)))
theorem at1_ok {T : Addr} {a b : V} {σ : L2.St} {H : Hp} (hv : σ[4]? = some (some (.ref T))) (h : H T = some (.tup [a, b])) (Q : VK) (q : Q b H) : at1 K σ H Q :=
  ⟨_, hv, Go.ixt (SqT.of h) (by with_unfolding_all rfl) q⟩
end
end K1
namespace K1
open PySem PySem.Spec PyProof.Rows L2 LawB Err
local macro_rules | `(tactic| walk_at "ari") => `(tactic| first | omega | exact Go.mul_ok (Or.inl ⟨by omega, by omega⟩) | exact Go.mul_ok (Or.inr ⟨by omega, by omega⟩))
local macro_rules | `(tactic| walk_at "hp") => `(tactic| first | assumption | exact upd_same | (with_reducible refine Eq.trans (upd_ne ?cc) ?_; (case cc => walk_at "ne"); walk_at "hp"))
local macro_rules | `(tactic| walk_at "ne") => `(tactic| first | assumption | (refine Ne.symm ?_; assumption) | exact ne_of_none (by assumption) (by assumption) | exact (ne_of_none (by assumption) (by assumption)).symm)
local macro_rules | `(tactic| walk_at "go") => `(tactic| first
  | with_reducible refine Go.seq ?_ | with_reducible refine Go.asg ?_ | with_reducible refine Go.name ?_ | with_reducible refine Go.op ?_ | with_reducible refine Go.con ?_ | with_reducible refine Go.consA ?_ | with_reducible refine Go.nilA ?_
  | with_reducible refine Go.cb ?_ | with_reducible refine Go.call ?_ | with_reducible refine Go.lst ?_ | with_reducible refine Go.tup ?_
  | with_reducible refine Go.ret ?_ | with_reducible refine Go.drop ?_ | with_reducible refine Go.nxt ?_ | with_reducible refine Go.ifs ?_ | with_reducible refine Go.ifeI ?_ | with_reducible refine Go.ife ?_ | with_reducible refine Go.test ?_ | with_reducible refine Go.tb_ ?_ | with_reducible refine Go.isb ?_
  | with_reducible refine Go.tand ?_ | with_reducible refine Go.tor ?_ | with_reducible refine Go.tnot ?_ | with_reducible refine Go.gsub ?_ | with_reducible refine Go.i0 ?_
  | with_reducible refine Go.bits ?_ | with_reducible refine Go.sl ?_ | with_reducible refine Go.part ?_ | with_reducible refine Go.noPart ?_ | with_reducible refine Go.isi ?_ | with_reducible refine Go.int1 ?_ | with_reducible refine Go.mx ?_ | with_reducible refine Go.mn ?_
  | with_reducible refine Go.m1 ?_ | with_reducible refine Go.isS ?_ | with_reducible refine Go.wp (by with_unfolding_all rfl) ?_ | with_reducible refine Go.yes ?_ | with_reducible refine Go.ifT ?_ | with_reducible refine Go.ifF ?_
  | ((with_reducible refine Go.md ?cc ?_); (case cc => omega); intro _ _ _) | ((with_reducible refine Go.ml ?cc ?_); (case cc => walk_at "ari"))
  | with_reducible refine Go.ix (SqL.of (by walk_at "hp")) (by with_unfolding_all rfl) ?_
  | with_reducible refine Go.setL (by walk_at "hp") (by with_unfolding_all rfl) ?_
  | with_reducible refine Go.var (by with_unfolding_all rfl) ?_)

section
variable {P : Program} {w : World} {K : PySem.W.Frag} {mg : Str → Option Value} {base : Heap} {f : Addr} {fd : FuncData}
theorem lg1 : Nat.log2 1 < 1920 := by decide +kernel
theorem wd_later {x : Str} (h : Wd x) : x ≠ "LATER" := fun e => by
  subst e
  have z := h.2.2 76 (by decide +kernel)
  omega
theorem putK_new {x : Str} (h : Wd x) (y z : V) : putK [((.inr x : Key), y)] (.inr "LATER") z = [(.inr x, y), (.inr "LATER", z)] := by
  have n : (Sum.inr x : Key) ≠ Sum.inr (Str.ofString "LATER") := fun e => wd_later h (Sum.inr.inj e)
  simp [putK, n]
theorem not_in {a b : Addr} {ms : List Addr} (h : a ∉ ms) (hb : b ∈ ms) : a ≠ b := fun e => h (e ▸ hb)
theorem kLL : kitB "list" "list" = some true := by decide +kernel
theorem kLD : kitB "list" "dict" = some false := by decide +kernel
theorem kLT : kitB "list" "tuple" = some false := by decide +kernel
theorem kDL : kitB "dict" "list" = some false := by decide +kernel
theorem kDD : kitB "dict" "dict" = some true := by decide +kernel
theorem kDT : kitB "dict" "tuple" = some false := by decide +kernel
theorem kTL : kitB "tuple" "list" = some false := by decide +kernel
theorem kTD : kitB "tuple" "dict" = some false := by decide +kernel
theorem kTT : kitB "tuple" "tuple" = some true := by decide +kernel
theorem mut_ok {H : Hp} {x : Str} {v : V} {ms : List Addr} {σ : L2.St} {D : Ends} {u : TS} (h : ThK K H x v ms) (hx : Wd x) (hv : σ[4]? = some (some v)) (hw : σ[2]? = some (some (.str x)))
    (k : ∀ H' d, Rp.Dx K H' v d → OkD d → (∀ a o, a ∉ ms → H a = some o → H' a = some o) → u D σ H') : (tSeq (mut1 K) (tSeq (mut2 K) (tSeq (mut3 K) (tSeq (mut4 K) u)))) D σ H := by
  have s1 : (x.cps.toList.all fun c => decide (c < 16 ^ 8)) = true := wd_short hx
  have s2 := wd_size hx
  have s3 : (PyData.str x).showable = true := rfl
  have hv' : ∀ (H : Hp) (Q : VK), Q v H → tVar 4 σ H Q := fun H Q q => ⟨v, hv, q⟩
  have old : ∀ {d : PyData}, Rp.Dx K H v d → OkD d → u D σ H := fun h1 h2 => k H _ h1 h2 fun a o _ e => e
  obtain ⟨d0, hd0, ok0⟩ := h.data hx
  cases h with
  | non => exact flat4 hv (.base .non) (by decide +kernel) (by decide +kernel) (by decide +kernel) (old hd0 ok0)
  | bl b => exact flat4 hv (.base (.bl b)) (by decide +kernel) (by decide +kernel) (by decide +kernel) (old hd0 ok0)
  | int i h => exact flat4 hv (.base (.int i)) (by decide +kernel) (by decide +kernel) (by decide +kernel) (old hd0 ok0)
  | str => exact flat4 hv (.base (.str x)) (by decide +kernel) (by decide +kernel) (by decide +kernel) (old hd0 ok0)
  | tupD T E h1 h2 =>
    have ne : T ≠ E := at_ne h2 h1 (by simp)
    refine not1 hv (.base (.tup h1)) kTL (not2 hv (.base (.tup h1)) kTD ?_)
    refine isI_ok (hv' _) (.base (.tup h1)) kTT (isI_ok (at1_ok hv h1) (.base (.dK h2)) kDL ?_)
    refine isI_ok (hv' _) (.base (.tup h1)) kTT (isI_ok (at1_ok hv h1) (.base (.dK h2)) kDD (put_ok (at1_ok hv h1) h2 (by simp) ?_))
    refine k _ _ (.tup (by rw [upd_ne ne]; exact h1) (.cons (.str _) (.cons (.dct (by rw [upd_same, putK_new hx]) (.cons (.str _) (.cons (.int 1) .nil))) .nil))) (okd (by simp [PyData.showable, PyData.showableAll, PyData.showableKv, Rp.kD, lg1]) (by simp [PyData.depth, PyData.depthAll, PyData.depthKv, Rp.kD]) (by simp only [PyData.leavesShort, PyData.leavesShortAll, PyData.leavesShortKv, Rp.kD, s1, q1, q2, q3, q4, q5, Bool.and_self]) (by simp only [PyData.weight, PyData.weightAll, PyData.weightKv, Rp.kD]; have e1 : ("says" : Str).cps.size = 4 := rfl; have e2 : ("done" : Str).cps.size = 4 := rfl; have e3 : ("later" : Str).cps.size = 5 := rfl; have e4 : ("LATER" : Str).cps.size = 5 := rfl; have e5 : (if (1 : Int) == 0 then 0 else (1 : Int).natAbs.log2 + 1) = 1 := (by decide +kernel); omega)) fun a o na e => ?_
    rw [upd_ne (not_in na (by simp))]
    exact e
  | tupL T L h1 h2 =>
    have ne : T ≠ L := at_ne h2 h1 (by simp)
    refine not1 hv (.base (.tup h1)) kTL (not2 hv (.base (.tup h1)) kTD ?_)
    refine isI_ok (hv' _) (.base (.tup h1)) kTT (isI_ok (at1_ok hv h1) (.base (.lst h2)) kLL (app_ok (at1_ok hv h1) h2 (by simp) ?_))
    have h3 : (upd H L (.lst ([.str x] ++ [.str "later"]))) T = some (.tup [.str x, .ref L]) := by
      rw [upd_ne ne]
      exact h1
    refine isI_ok (hv' _) (.base (.tup h3)) kTT (isI_ok (at1_ok hv h3) (.base (.lst upd_same)) kLD ?_)
    refine k _ _ (.tup h3 (.cons (.str _) (.cons (.lst upd_same (.cons (.str _) (.cons (.str _) .nil))) .nil))) (okd (by simp [PyData.showable, PyData.showableAll, PyData.showableKv, Rp.kD, lg1]) (by simp [PyData.depth, PyData.depthAll, PyData.depthKv, Rp.kD]) (by simp only [PyData.leavesShort, PyData.leavesShortAll, PyData.leavesShortKv, Rp.kD, s1, q1, q2, q3, q4, q5, Bool.and_self]) (by simp only [PyData.weight, PyData.weightAll, PyData.weightKv, Rp.kD]; have e1 : ("says" : Str).cps.size = 4 := rfl; have e2 : ("done" : Str).cps.size = 4 := rfl; have e3 : ("later" : Str).cps.size = 5 := rfl; have e4 : ("LATER" : Str).cps.size = 5 := rfl; have e5 : (if (1 : Int) == 0 then 0 else (1 : Int).natAbs.log2 + 1) = 1 := (by decide +kernel); omega)) fun a o na e => ?_
    rw [upd_ne (not_in na (by simp))]
    exact e
  | dct E L h1 h2 =>
    have ne : E ≠ L := at_ne h2 h1 (by simp)
    refine not1 hv (.base (.dK h1)) kDL ?_
    refine isI_ok (hv' _) (.base (.dK h1)) kDD (app_ok (fun Q q => ⟨_, hv, _, hw, E, .ref L, rfl, ?_, q⟩) h2 (by simp) ?_)
    · have z := DGet.k (k := .inr x) h1
      rw [valV_pos rfl] at z
      exact z
    have h3 : (upd H L (.lst ([.str x] ++ [.str "later"]))) E = some (.dK [(.inr x, .ref L)]) := by
      rw [upd_ne ne]
      exact h1
    refine put_ok (hv' _) h3 (by simp) ?_
    refine not3 hv (.base (.dK upd_same)) kDT (not4 hv (.base (.dK upd_same)) kDT ?_)
    refine k _ _ (.dct (by rw [upd_same, putK_new hx]) (.cons (.lst (xs := [.str x, .str "later"]) (by rw [upd_ne ne.symm, upd_same]; rfl) (.cons (.str _) (.cons (.str _) .nil))) (.cons (.int 1) .nil))) (okd (by simp [PyData.showable, PyData.showableAll, PyData.showableKv, Rp.kD, lg1]) (by simp [PyData.depth, PyData.depthAll, PyData.depthKv, Rp.kD]) (by simp only [PyData.leavesShort, PyData.leavesShortAll, PyData.leavesShortKv, Rp.kD, s1, q1, q2, q3, q4, q5, Bool.and_self]) (by simp only [PyData.weight, PyData.weightAll, PyData.weightKv, Rp.kD]; have e1 : ("says" : Str).cps.size = 4 := rfl; have e2 : ("done" : Str).cps.size = 4 := rfl; have e3 : ("later" : Str).cps.size = 5 := rfl; have e4 : ("LATER" : Str).cps.size = 5 := rfl; have e5 : (if (1 : Int) == 0 then 0 else (1 : Int).natAbs.log2 + 1) = 1 := (by decide +kernel); omega)) fun a o na e => ?_
    rw [upd_ne (not_in na (by simp)), upd_ne (not_in na (by simp))]
    exact e
  | lst L h1 =>
    refine isI_ok (hv' _) (.base (.lst h1)) kLL (app_ok (hv' _) h1 (by simp) ?_)
    refine not2 hv (.base (.lst upd_same)) kLD (not3 hv (.base (.lst upd_same)) kLT (not4 hv (.base (.lst upd_same)) kLT ?_))
    refine k _ _ (.lst upd_same (.cons (.str _) (.cons (.str _) .nil))) (okd (by simp [PyData.showable, PyData.showableAll, PyData.showableKv, Rp.kD, lg1]) (by simp [PyData.depth, PyData.depthAll, PyData.depthKv, Rp.kD]) (by simp only [PyData.leavesShort, PyData.leavesShortAll, PyData.leavesShortKv, Rp.kD, s1, q1, q2, q3, q4, q5, Bool.and_self]) (by simp only [PyData.weight, PyData.weightAll, PyData.weightKv, Rp.kD]; have e1 : ("says" : Str).cps.size = 4 := rfl; have e2 : ("done" : Str).cps.size = 4 := rfl; have e3 : ("later" : Str).cps.size = 5 := rfl; have e4 : ("LATER" : Str).cps.size = 5 := rfl; have e5 : (if (1 : Int) == 0 then 0 else (1 : Int).natAbs.log2 + 1) = 1 := (by decide +kernel); omega)) fun a o na e => ?_
    rw [upd_ne (not_in na (by simp))]
    exact e
  | deep L M E h1 h2 h3 =>
    have n1 : M ≠ L := at_ne h1 h2 (by simp)
    have n2 : E ≠ L := at_ne h1 h3 (by simp)
    refine isI_ok (hv' _) (.base (.lst h1)) kLL (app_ok (hv' _) h1 (by simp) ?_)
    refine not2 hv (.base (.lst upd_same)) kLD (not3 hv (.base (.lst upd_same)) kLT (not4 hv (.base (.lst upd_same)) kLT ?_))
    refine k _ _ (.lst upd_same (.cons (.lst (by rw [upd_ne n1]; exact h2) (.cons (.str _) .nil)) (.cons (.dct (by rw [upd_ne n2]; exact h3) (.cons (.str _) .nil)) (.cons (.str _) .nil)))) (okd (by simp [PyData.showable, PyData.showableAll, PyData.showableKv, Rp.kD, lg1]) (by simp [PyData.depth, PyData.depthAll, PyData.depthKv, Rp.kD]) (by simp only [PyData.leavesShort, PyData.leavesShortAll, PyData.leavesShortKv, Rp.kD, s1, q1, q2, q3, q4, q5, Bool.and_self]) (by simp only [PyData.weight, PyData.weightAll, PyData.weightKv, Rp.kD]; have e1 : ("says" : Str).cps.size = 4 := rfl; have e2 : ("done" : Str).cps.size = 4 := rfl; have e3 : ("later" : Str).cps.size = 5 := rfl; have e4 : ("LATER" : Str).cps.size = 5 := rfl; have e5 : (if (1 : Int) == 0 then 0 else (1 : Int).natAbs.log2 + 1) = 1 := (by decide +kernel); omega)) fun a o na e => ?_
    rw [upd_ne (not_in na (by simp))]
    exact e
end
end K1
namespace K1
open PySem PySem.Spec PyProof.Rows L2 LawB Err
local macro_rules | `(tactic| walk_at "ari") => `(tactic| first | omega | exact Go.mul_ok (Or.inl ⟨by omega, by omega⟩) | exact Go.mul_ok (Or.inr ⟨by omega, by omega⟩))
local macro_rules | `(tactic| walk_at "hp") => `(tactic| first | assumption | exact upd_same | (with_reducible refine Eq.trans (upd_ne ?cc) ?_; (case cc => walk_at "ne"); walk_at "hp"))
local macro_rules | `(tactic| walk_at "ne") => `(tactic| first | assumption | (refine Ne.symm ?_; assumption) | exact ne_of_none (by assumption) (by assumption) | exact (ne_of_none (by assumption) (by assumption)).symm)
local macro_rules | `(tactic| walk_at "go") => `(tactic| first
  | with_reducible refine Go.seq ?_ | with_reducible refine Go.asg ?_ | with_reducible refine Go.name ?_ | with_reducible refine Go.op ?_ | with_reducible refine Go.con ?_ | with_reducible refine Go.consA ?_ | with_reducible refine Go.nilA ?_
  | with_reducible refine Go.cb ?_ | with_reducible refine Go.call ?_ | with_reducible refine Go.lst ?_ | with_reducible refine Go.tup ?_
  | with_reducible refine Go.ret ?_ | with_reducible refine Go.drop ?_ | with_reducible refine Go.nxt ?_ | with_reducible refine Go.ifs ?_ | with_reducible refine Go.ifeI ?_ | with_reducible refine Go.ife ?_ | with_reducible refine Go.test ?_ | with_reducible refine Go.tb_ ?_ | with_reducible refine Go.isb ?_
  | with_reducible refine Go.tand ?_ | with_reducible refine Go.tor ?_ | with_reducible refine Go.tnot ?_ | with_reducible refine Go.gsub ?_ | with_reducible refine Go.i0 ?_
  | with_reducible refine Go.bits ?_ | with_reducible refine Go.sl ?_ | with_reducible refine Go.part ?_ | with_reducible refine Go.noPart ?_ | with_reducible refine Go.isi ?_ | with_reducible refine Go.int1 ?_ | with_reducible refine Go.mx ?_ | with_reducible refine Go.mn ?_
  | with_reducible refine Go.m1 ?_ | with_reducible refine Go.isS ?_ | with_reducible refine Go.wp (by with_unfolding_all rfl) ?_ | with_reducible refine Go.yes ?_ | with_reducible refine Go.ifT ?_ | with_reducible refine Go.ifF ?_
  | ((with_reducible refine Go.md ?cc ?_); (case cc => omega); intro _ _ _) | ((with_reducible refine Go.ml ?cc ?_); (case cc => walk_at "ari"))
  | with_reducible refine Go.ix (SqL.of (by walk_at "hp")) (by with_unfolding_all rfl) ?_
  | with_reducible refine Go.setL (by walk_at "hp") (by with_unfolding_all rfl) ?_
  | with_reducible refine Go.var (by with_unfolding_all rfl) ?_)

section
variable {P : Program} {w : World} {K : PySem.W.Frag} {mg : Str → Option Value} {base : Heap} {f : Addr} {fd : FuncData} {x : Str} {σ : L2.St} {H0 : Hp}
/-! ### objects made: each is new, each is one of the drawn kinds -/
def Can (K : PySem.W.Frag) (x : Str) (H : Hp) (v : V) (H' : Hp) : Prop := ∃ ms, ThK K H' x v ms ∧ ∀ m ∈ ms, H m = none
def Cans (K : PySem.W.Frag) (x : Str) (n : Nat) (H : Hp) (vs : List V) (H' : Hp) : Prop := vs.length = n ∧ ∀ v ∈ vs, Can K x H v H'
theorem Can.mono {H H1 H2 H3 : Hp} {v : V} (h : Can K x H1 v H2) (a : Evl.Ex H H1) (b : Evl.Ex H2 H3) : Can K x H v H3 := by
  obtain ⟨ms, t, fr⟩ := h
  exact ⟨ms, t.mono b, fun m hm => Evl.fresh_back a (fr m hm)⟩
def Mk (te : TE) (σ : L2.St) (H0 : Hp) (R : Hp → V → Hp → Prop) : Prop := ∀ H, Evl.Ex H0 H → ∀ Q : VK, (∀ v H', Evl.Ex H H' → R H v H' → Q v H') → te σ H Q
def MkA (ta : TA) (σ : L2.St) (H0 : Hp) (R : Hp → List V → Hp → Prop) : Prop := ∀ H, Evl.Ex H0 H → ∀ Q : List V → Hp → Prop, (∀ v H', Evl.Ex H H' → R H v H' → Q v H') → ta σ H Q
theorem mkA_nil : MkA tNil σ H0 (Cans K x 0) := fun H e Q q => q _ _ (Evl.Ex.refl H) ⟨rfl, fun v hv => by cases hv⟩
theorem mkA_cons {te : TE} {ta : TA} {n : Nat} (h : Mk te σ H0 (Can K x)) (t : MkA ta σ H0 (Cans K x n)) : MkA (tCons te ta) σ H0 (Cans K x (n + 1)) := fun H e Q q =>
  h H e _ fun v H1 e1 r => t H1 (e.trans e1) _ fun vs H2 e2 ⟨l, rs⟩ => q _ _ (e1.trans e2) ⟨by rw [List.length_cons, l], fun u hu => by
    rcases List.mem_cons.mp hu with rfl | hu
    · exact r.mono (Evl.Ex.refl H) e2
    · exact (rs u hu).mono e1 (Evl.Ex.refl H2)⟩
theorem mk_lst {ta : TA} {n : Nat} (t : MkA ta σ H0 (Cans K x n)) (hn : n ≤ 100) : Mk (tLst ta) σ H0 fun H v H' => ∃ p xs, v = .ref p ∧ H p = none ∧ H' p = some (.lst xs) ∧ Cans K x n H xs H' := fun H e Q q =>
  t H e _ fun vs H1 e1 ⟨l, rs⟩ => ⟨small_line (by omega), fun p np => q _ _ (e1.trans (Evl.Ex.new np)) ⟨p, vs, rfl, Evl.fresh_back e1 np, upd_same, l, fun v hv => (rs v hv).mono (Evl.Ex.refl H) (Evl.Ex.new np)⟩⟩
theorem mk_con {v : V} (h : ∀ H, ThK K H x v []) : Mk (tC v) σ H0 (Can K x) := fun H e Q q => q _ _ (Evl.Ex.refl H) ⟨[], h H, fun m hm => by cases hm⟩
theorem mk_var {i : Nat} (hv : σ[i]? = some (some (.str x))) : Mk (tVar i) σ H0 (Can K x) := fun H e Q q => ⟨_, hv, q _ _ (Evl.Ex.refl H) ⟨[], .str, fun m hm => by cases hm⟩⟩
theorem mk_neg {i : Nat} {p : Addr} {a b c t : Int} (hv : σ[i]? = some (some (.ref p))) (hp : H0 p = some (.lst [.int a, .int b, .int c, .int t])) (hb : b.natAbs < 2147483648) : Mk (tUn (rU fun i => .int (-i)) (tOp (rIx K) (tVar i) (tC (.int 1)))) σ H0 (Can K x) := fun H e Q q =>
  ⟨_, hv, Go.ix (SqL.of (e _ _ hp)) (by with_unfolding_all rfl) ⟨b, rfl, q _ _ (Evl.Ex.refl H) ⟨[], .int _ (by omega), fun m hm => by cases hm⟩⟩⟩
theorem disp1 {tk tv : TE} {k : Str} {v : V} {H : Hp} {Q : VK} (hk : ∀ H (Q : VK), Q (.str k) H → tk σ H Q) (hv : ∀ H (Q : VK), Q v H → tv σ H Q) (q : ∀ p H', H p = none → Evl.Ex H H' → H' p = some (.dK [(.inr k, v)]) → Q (.ref p) H') : tDisp [(tk, tv)] σ H Q :=
  fun p np => hk _ _ (hv _ _ ⟨upd_same, [(.inr k, v)], rfl, by simp, q p _ np ((Evl.Ex.new np).mut np) upd_same⟩)
theorem disp1L {tk : TE} {tr : TA} {k : Str} {xs : List V} {H : Hp} {Q : VK} (hk : ∀ H (Q : VK), Q (.str k) H → tk σ H Q) (hv : ∀ H (Q : List V → Hp → Prop), Q xs H → tr σ H Q) (hn : xs.length ≤ 100)
    (q : ∀ p L H', H p = none → H L = none → Evl.Ex H H' → H' p = some (.dK [(.inr k, .ref L)]) → H' L = some (.lst xs) → Q (.ref p) H') : tDisp [(tk, tLst tr)] σ H Q :=
  fun p np => hk _ _ (hv _ _ ⟨small_line (by omega), fun L nL => by
    have ne : p ≠ L := (ne_of_none upd_same nL)
    have nL' : H L = none := Evl.fresh_back (Evl.Ex.new np) nL
    refine ⟨by rw [upd_ne ne, upd_same], [(.inr k, .ref L)], rfl, by simp, q p L _ np nL' (((Evl.Ex.new np).trans (Evl.Ex.new nL)).mut np) upd_same (by rw [upd_ne ne.symm, upd_same])⟩⟩)
theorem lstF {tr : TA} {xs : List V} {H : Hp} {Q : VK} (hv : ∀ H (Q : List V → Hp → Prop), Q xs H → tr σ H Q) (hn : xs.length ≤ 100) (q : ∀ p H', H p = none → Evl.Ex H H' → H' p = some (.lst xs) → Q (.ref p) H') : tLst tr σ H Q :=
  hv _ _ ⟨small_line (by omega), fun p np => q p _ np (Evl.Ex.new np) upd_same⟩
variable (hv : σ[2]? = some (some (.str x)))
include hv
theorem v2 (H : Hp) (Q : VK) (q : Q (.str x) H) : tVar 2 σ H Q := ⟨_, hv, q⟩
theorem v2s (H : Hp) (Q : List V → Hp → Prop) (q : Q [.str x] H) : tCons (tVar 2) tNil σ H Q := ⟨_, hv, q⟩
theorem mk_tupD : Mk (tTup (tCons (tC (.str "says")) (tCons (tDisp [(tVar 2, tVar 2)]) tNil))) σ H0 (Can K x) := by
  intro H e Q q
  refine Go.tup (Go.consA (Go.con (Go.consA ?_)))
  exact disp1 (v2 hv) (v2 hv) fun p H' np ex hp => ⟨small_line (by simp), fun t nt => q _ _ (ex.trans (Evl.Ex.new nt)) ⟨[t, p], .tupD t p upd_same (by rw [upd_ne (ne_of_none hp nt)]; exact hp), fun m hm => by
    rcases List.mem_cons.mp hm with rfl | hm
    · exact Evl.fresh_back ex nt
    · cases List.mem_singleton.mp hm
      exact np⟩⟩
theorem mk_tupL : Mk (tTup (tCons (tVar 2) (tCons (tLst (tCons (tVar 2) tNil)) tNil))) σ H0 (Can K x) := by
  intro H e Q q
  refine Go.tup (Go.consA (Go.var hv (Go.consA ?_)))
  exact lstF (v2s hv) (by simp) fun p H' np ex hp => ⟨small_line (by simp), fun t nt => q _ _ (ex.trans (Evl.Ex.new nt)) ⟨[t, p], .tupL t p upd_same (by rw [upd_ne (ne_of_none hp nt)]; exact hp), fun m hm => by
    rcases List.mem_cons.mp hm with rfl | hm
    · exact Evl.fresh_back ex nt
    · cases List.mem_singleton.mp hm
      exact np⟩⟩
theorem mk_dct : Mk (tDisp [(tVar 2, tLst (tCons (tVar 2) tNil))]) σ H0 (Can K x) := fun H e Q q =>
  disp1L (v2 hv) (v2s hv) (by simp) fun p L H' np nL ex hp hL => q _ _ ex ⟨[p, L], .dct p L hp hL, fun m hm => by
    rcases List.mem_cons.mp hm with rfl | hm
    · exact np
    · cases List.mem_singleton.mp hm
      exact nL⟩
theorem mk_one : Mk (tLst (tCons (tVar 2) tNil)) σ H0 (Can K x) := fun H e Q q =>
  lstF (v2s hv) (by simp) fun p H' np ex hp => q _ _ ex ⟨[p], .lst p hp, fun m hm => by
    cases List.mem_singleton.mp hm
    exact np⟩
theorem mk_deep : Mk (tLst (tCons (tLst (tCons (tVar 2) tNil)) (tCons (tDisp [(tC (.str "done"), tVar 2)]) tNil))) σ H0 (Can K x) := by
  intro H e Q q
  refine Go.lst (Go.consA ?_)
  refine lstF (v2s hv) (by simp) fun m H1 nm e1 hm => Go.consA ?_
  exact disp1 (k := "done") (fun H Q q => q) (v2 hv) fun d H2 nd e2 hd => ⟨small_line (by simp), fun l nl => by
    have e3 : Evl.Ex H2 (upd H2 l (.lst [.ref m, .ref d])) := Evl.Ex.new nl
    refine q _ _ ((e1.trans e2).trans e3) ⟨[l, m, d], .deep l m d upd_same (e3 _ _ (e2 _ _ hm)) (e3 _ _ hd), fun z hz => ?_⟩
    rcases List.mem_cons.mp hz with rfl | hz
    · exact Evl.fresh_back (e1.trans e2) nl
    · rcases List.mem_cons.mp hz with rfl | hz
      · exact nm
      · cases List.mem_singleton.mp hz
        exact Evl.fresh_back e1 nd⟩
end
section
variable {K : PySem.W.Frag} {x : Str}
theorem ThK.kept {H H' : Hp} {v : V} {ms : List Addr} (h : ThK K H x v ms) (k : ∀ m ∈ ms, H' m = H m) : ThK K H' x v ms := by
  cases h with
  | non => exact .non
  | bl b => exact .bl b
  | int i h => exact .int i h
  | str => exact .str
  | tupD T D h1 h2 => exact .tupD T D ((k T (by simp)).trans h1) ((k D (by simp)).trans h2)
  | tupL T L h1 h2 => exact .tupL T L ((k T (by simp)).trans h1) ((k L (by simp)).trans h2)
  | dct D L h1 h2 => exact .dct D L ((k D (by simp)).trans h1) ((k L (by simp)).trans h2)
  | lst L h1 => exact .lst L ((k L (by simp)).trans h1)
  | deep L M D h1 h2 h3 => exact .deep L M D ((k L (by simp)).trans h1) ((k M (by simp)).trans h2) ((k D (by simp)).trans h3)
theorem ErrL.kept {H H' : Hp} {v : V} {ms : List Addr} (th : ∀ m ∈ ms, (∃ xs, H m = some (.lst xs)) ∨ (∃ xs, H m = some (.tup xs)) ∨ ∃ ks, H m = some (.dK ks)) (k : ∀ a o, a ∉ ms → H a = some o → H' a = some o) :
    ∀ {cs : List Addr} {es : List V}, ErrL H v cs es → ErrL H' v cs es
  | _, _, .nil => .nil
  | _, _, .cons ⟨e, d, a, b, c⟩ t => by
    refine .cons ⟨e, d, a, k _ _ (fun hm => ?_) b, k _ _ (fun hm => ?_) c⟩ (ErrL.kept th k t)
    · rcases th e hm with ⟨xs, z⟩ | ⟨xs, z⟩ | ⟨ks, z⟩ <;> exact nomatch Option.some.inj (z.symm.trans b)
    · rcases th d hm with ⟨xs, z⟩ | ⟨xs, z⟩ | ⟨ks, z⟩ <;> exact nomatch Option.some.inj (z.symm.trans c)
end
end K1
namespace K1
open PySem PySem.Spec PyProof.Rows L2 LawB Err
local macro_rules | `(tactic| walk_at "ari") => `(tactic| first | omega | exact Go.mul_ok (Or.inl ⟨by omega, by omega⟩) | exact Go.mul_ok (Or.inr ⟨by omega, by omega⟩))
local macro_rules | `(tactic| walk_at "hp") => `(tactic| first | assumption | exact upd_same | (with_reducible refine Eq.trans (upd_ne ?cc) ?_; (case cc => walk_at "ne"); walk_at "hp"))
local macro_rules | `(tactic| walk_at "ne") => `(tactic| first | assumption | (refine Ne.symm ?_; assumption) | exact ne_of_none (by assumption) (by assumption) | exact (ne_of_none (by assumption) (by assumption)).symm)
local macro_rules | `(tactic| walk_at "go") => `(tactic| first
  | with_reducible refine Go.seq ?_ | with_reducible refine Go.asg ?_ | with_reducible refine Go.name ?_ | with_reducible refine Go.op ?_ | with_reducible refine Go.con ?_ | with_reducible refine Go.consA ?_ | with_reducible refine Go.nilA ?_
  | with_reducible refine Go.cb ?_ | with_reducible refine Go.call ?_ | with_reducible refine Go.lst ?_ | with_reducible refine Go.tup ?_
  | with_reducible refine Go.ret ?_ | with_reducible refine Go.drop ?_ | with_reducible refine Go.nxt ?_ | with_reducible refine Go.ifs ?_ | with_reducible refine Go.ifeI ?_ | with_reducible refine Go.ife ?_ | with_reducible refine Go.test ?_ | with_reducible refine Go.tb_ ?_ | with_reducible refine Go.isb ?_
  | with_reducible refine Go.tand ?_ | with_reducible refine Go.tor ?_ | with_reducible refine Go.tnot ?_ | with_reducible refine Go.gsub ?_ | with_reducible refine Go.i0 ?_
  | with_reducible refine Go.bits ?_ | with_reducible refine Go.sl ?_ | with_reducible refine Go.part ?_ | with_reducible refine Go.noPart ?_ | with_reducible refine Go.isi ?_ | with_reducible refine Go.int1 ?_ | with_reducible refine Go.mx ?_ | with_reducible refine Go.mn ?_
  | with_reducible refine Go.m1 ?_ | with_reducible refine Go.isS ?_ | with_reducible refine Go.wp (by with_unfolding_all rfl) ?_ | with_reducible refine Go.yes ?_ | with_reducible refine Go.ifT ?_ | with_reducible refine Go.ifF ?_
  | ((with_reducible refine Go.md ?cc ?_); (case cc => omega); intro _ _ _) | ((with_reducible refine Go.ml ?cc ?_); (case cc => walk_at "ari"))
  | with_reducible refine Go.ix (SqL.of (by walk_at "hp")) (by with_unfolding_all rfl) ?_
  | with_reducible refine Go.setL (by walk_at "hp") (by with_unfolding_all rfl) ?_
  | with_reducible refine Go.var (by with_unfolding_all rfl) ?_)

theorem scLaw : FnScope ["script", "purse", "word", "plain", "thing", "noted", "some", "called", "later", "rest", "error"] ["script"] (defScope sLaw) := ⟨rfl, rfl, rfl, by decide +kernel, rfl, by decide +kernel, by decide +kernel⟩
theorem boot_li : bootBuiltins "list" = some (.type "list") := by decide +kernel
theorem boot_di : bootBuiltins "dict" = some (.type "dict") := by decide +kernel
theorem boot_tu : bootBuiltins "tuple" = some (.type "tuple") := by decide +kernel
theorem boot_al : bootBuiltins "all" = some (.builtin "all") := by decide +kernel
structure Fns (P : Program) (w : World) (K : PySem.W.Frag) (mg : Str → Option Value) (base : Heap) : Prop where
  purses : Go.Fb P w K mg base 2 "_law_purses" ["script", "few"] [] (spPurses K)
  word : Go.Fb P w K mg base 3 "_law_word" ["purse"] [] spWord
  oneOf : Go.Fb P w K mg base 3 "_law_one_of" ["purse", "some"] [] (spOneOf K)
  first : Go.Fb P w K mg base 3 "_law_first" ["thing"] [] (spMany K)
  called : Go.Fb P w K mg base 3 "_law_called" ["thing"] [] (spMany K)
  bare : Go.Fb P w K mg base 3 "_law_bare" [] [] (spBare K)
  code : Go.Fb P w K mg base 3 "_law_code" ["error"] [] (spCode K)
  isE : Go.Fb P w K mg base 1 "_law_is_error" ["error"] [] (spIsErr K)
  right : Go.FbG P w K mg base 4 "_law_right" ["some", "noted"] [] (spRight K)
  undo : ErrB K (cl K 28)
  redo : ErrB K (cl K 29)
  desk : ErrB K (cl K 30)
section
variable {P : Program} {w : World} {K : PySem.W.Frag} {mg : Str → Option Value} {base : Heap} {f : Addr} {fd : FuncData}
def spLaw (K : PySem.W.Frag) : Sp := fun vs H Q _ => ∃ (a : Addr) (ns : List Int), vs = [.ref a] ∧ SqL K H a (ns.map V.int) ∧ ns.length ≤ 63 ∧ ∀ H', Q (.bl true) H'
theorem okd_later {x : Str} (hx : Wd x) : OkD (.tuple [.str "later", .str x]) := by
  have s1 : (x.cps.toList.all fun c => decide (c < 16 ^ 8)) = true := wd_short hx
  have s2 := wd_size hx
  exact (okd (by simp [PyData.showable, PyData.showableAll, PyData.showableKv, Rp.kD]) (by simp [PyData.depth, PyData.depthAll, PyData.depthKv, Rp.kD]) (by simp only [PyData.leavesShort, PyData.leavesShortAll, PyData.leavesShortKv, Rp.kD, s1, q1, q2, q3, q4, q5, Bool.and_self]) (by simp only [PyData.weight, PyData.weightAll, PyData.weightKv, Rp.kD]; have e1 : ("says" : Str).cps.size = 4 := rfl; have e2 : ("done" : Str).cps.size = 4 := rfl; have e3 : ("later" : Str).cps.size = 5 := rfl; have e4 : ("LATER" : Str).cps.size = 5 := rfl; have e5 : (if (1 : Int) == 0 then 0 else (1 : Int).natAbs.log2 + 1) = 1 := (by decide +kernel); omega))
theorem par3 {i j l : Nat} {ta : TA} {D : Ends} {σ : L2.St} {H : Hp} (h : ta σ H fun vs H1 => ∃ u v w, vs = [u, v, w] ∧ D.nx (((σ.set i (some u)).set j (some v)).set l (some w)) H1) : tPar3 i j l ta D σ H := h
theorem ok_law (F : FunD K "law" "law" (defArgs sLaw) (defBody sLaw) (defScope sLaw) [] [] f fd) (T : Txt K P mg) (T2 : Bl2 mg) (SY : Rp.SysIn K) (B : Fns P w K mg base) : GL.FnG P w K mg base CX0 5 f fd ["script"] (spLaw K) := by
  refine GL.fnG_body F scLaw (fun vs H Q E h => ?_) (fun cdv A outer s H vs Q E hg hr h => ?_)
  · obtain ⟨a, ns, rfl, _⟩ := h
    rfl
  · obtain ⟨a, ns, rfl, hS, hl, k⟩ := h
    have hu : (A.deeper (envOfC "law" (defScope sLaw) s.heap.objs.size f cdv)).units + 64 < cLine := by
      have := hr.un
      omega
    have hu1 : (A.deeper (envOfC "law" (defScope sLaw) s.heap.objs.size f cdv)).units + 1 < cLine := by omega
    refine ⟨_, PSs.nox (pss_cons (ps_for PassesOwn.never rfl (pi_list (Go.pe_fb B.purses hr rfl (pa_cons (pv 0) (pa_cons pe_int pa_nil)))) (pg_name (i := 1) scLaw.nd rfl (Or.inl rfl)) (pss_cons (ps_set (i := 2) scLaw.nd rfl (.inl rfl) (Go.pe_fb B.word hr rfl (pa_cons (pv 1) pa_nil)))
      (pss_cons (ps_set (i := 3) scLaw.nd rfl (.inl rfl) (pe_lst (pa_cons pe_non (pa_cons pe_bl (pa_cons pe_bl (pa_cons pe_int (pa_cons (pv 2) (pa_cons (pe_un un_neg (pe_ix Go.ixK (pv 1) pe_int (fun _ _ => rfl))) (pa_cons (pe_tup (pa_cons pe_str (pa_cons (pe_disp (pps_cons (pv 2) (pv 2) pps_nil) rfl rfl (by simp) (by decide)) pa_nil))) (pa_cons (pe_tup (pa_cons (pv 2) (pa_cons (pe_lst (pa_cons (pv 2) pa_nil)) pa_nil))) (pa_cons (pe_disp (pps_cons (pv 2) (pe_lst (pa_cons (pv 2) pa_nil)) pps_nil) rfl rfl (by simp) (by decide)) pa_nil)))))))))))
      (pss_cons (ps_set (i := 4) scLaw.nd rfl (.inl rfl) (Go.pe_fb B.oneOf hr rfl (pa_cons (pv 1) (pa_cons (pe_op op_cat (pv 3) (pe_lst (pa_cons (pe_lst (pa_cons (pv 2) pa_nil)) (pa_cons (pe_lst (pa_cons (pe_lst (pa_cons (pv 2) pa_nil)) (pa_cons (pe_disp (pps_cons pe_str (pv 2) pps_nil) rfl rfl (by simp) (by decide)) pa_nil))) pa_nil)))) pa_nil))))
      (pss_cons (ps_set (i := 5) scLaw.nd rfl (.inl rfl) (pe_callB (call_reprK (K := K) hg hu SY) (by rfl) T2.repr boot_repr (pa_cons (pv 4) pa_nil)))
      (pss_cons (ps_par3 (i := 6) (j := 7) (l := 8) rfl scLaw.nd rfl rfl rfl (by decide) (by decide) (by decide) rfl rfl rfl (pa_cons (Go.pe_fb B.first hr rfl (pa_cons (pv 4) pa_nil)) (pa_cons (Go.pe_fb B.called hr rfl (pa_cons (pv 4) pa_nil)) (pa_cons (Go.pe_fb B.first hr rfl (pa_cons (pe_tup (pa_cons pe_str (pa_cons (pv 2) pa_nil))) pa_nil)) pa_nil))) rfl)
      (pss_cons (ps_if (PW.pt (pw_or (pt_not (pt_val (Go.pe_fbG B.right hg hr rfl (pa_cons (Go.pe_fb0 B.bare hr rfl) (pa_cons pe_str pa_nil))))) (pw_or1 (pt_not (pt_val (Go.pe_fbG B.right hg hr rfl (pa_cons (pv 8) (pa_cons (pe_callB (call_reprK (K := K) hg hu SY) (by rfl) T2.repr boot_repr (pa_cons (pe_tup (pa_cons pe_str (pa_cons (pv 2) pa_nil))) pa_nil)) pa_nil)))))))) (pss_one (ps_ret pe_bl)) pss_nil)
      (pss_cons (ps_if (PW.pt (pw_or (pt_not (pt_val (Go.pe_fbG B.right hg hr rfl (pa_cons (pv 6) (pa_cons (pv 5) pa_nil))))) (pw_or1 (pt_not (pt_val (Go.pe_fbG B.right hg hr rfl (pa_cons (pv 7) (pa_cons (pv 5) pa_nil)))))))) (pss_one (ps_ret pe_bl)) pss_nil)
      (pss_cons (ps_if (pt_val (pe_callB (call_isi) (by rfl) T.isi boot_isinstance (pa_cons (pv 4) (pa_cons (pe_bltn (v := .ty "list") rfl T2.lst boot_li rfl) pa_nil)))) (pss_one (ps_expr (pe_bm PySem.F.plainAttrs_list PySem.F.slot_list_append PySem.F.type_list_append mt_append (pv 4) (pa_cons pe_str pa_nil)))) pss_nil)
      (pss_cons (ps_if (pt_val (pe_callB (call_isi) (by rfl) T.isi boot_isinstance (pa_cons (pv 4) (pa_cons (pe_bltn (v := .ty "dict") rfl T2.dct boot_di rfl) pa_nil)))) (pss_cons (ps_expr (pe_bm PySem.F.plainAttrs_list PySem.F.slot_list_append PySem.F.type_list_append mt_append (pe_dget hu1 (pv 4) (pv 2) (fun _ _ => rfl)) (pa_cons pe_str pa_nil))) (pss_one (ps_asg pe_int (pg_sub (pv 4) pe_str (set_dict hu1))))) pss_nil)
      (pss_cons (ps_if (PW.pt (pw_and (pt_val (pe_callB (call_isi) (by rfl) T.isi boot_isinstance (pa_cons (pv 4) (pa_cons (pe_bltn (v := .ty "tuple") rfl T2.tpl boot_tu rfl) pa_nil)))) (pw_and1 (pt_val (pe_callB (call_isi) (by rfl) T.isi boot_isinstance (pa_cons (pe_ix Go.ixK (pv 4) pe_int (fun _ _ => rfl)) (pa_cons (pe_bltn (v := .ty "list") rfl T2.lst boot_li rfl) pa_nil))))))) (pss_one (ps_expr (pe_bm PySem.F.plainAttrs_list PySem.F.slot_list_append PySem.F.type_list_append mt_append (pe_ix Go.ixK (pv 4) pe_int (fun _ _ => rfl)) (pa_cons pe_str pa_nil)))) pss_nil)
      (pss_cons (ps_if (PW.pt (pw_and (pt_val (pe_callB (call_isi) (by rfl) T.isi boot_isinstance (pa_cons (pv 4) (pa_cons (pe_bltn (v := .ty "tuple") rfl T2.tpl boot_tu rfl) pa_nil)))) (pw_and1 (pt_val (pe_callB (call_isi) (by rfl) T.isi boot_isinstance (pa_cons (pe_ix Go.ixK (pv 4) pe_int (fun _ _ => rfl)) (pa_cons (pe_bltn (v := .ty "dict") rfl T2.dct boot_di rfl) pa_nil))))))) (pss_one (ps_asg pe_int (pg_sub (pe_ix Go.ixK (pv 4) pe_int (fun _ _ => rfl)) pe_str (set_dict hu1)))) pss_nil)
      (pss_one (ps_if (PW.pt (pw_or (pt_not (pt_val (Go.pe_fbG B.right hg hr rfl (pa_cons (pv 6) (pa_cons (pe_callB (call_reprK (K := K) hg hu SY) (by rfl) T2.repr boot_repr (pa_cons (pv 4) pa_nil)) pa_nil))))) (pw_or1 (pt_not (pt_val (Go.pe_fbG B.right hg hr rfl (pa_cons (pv 7) (pa_cons (pe_callB (call_reprK (K := K) hg hu SY) (by rfl) T2.repr boot_repr (pa_cons (pv 4) pa_nil)) pa_nil)))))))) (pss_one (ps_ret pe_bl)) pss_nil)))))))))))))) (pss_cons (ps_set (i := 9) scLaw.nd rfl (.inl rfl) (pe_lst (pa_cons (pe_mkB B.undo (T.kp 28 (by decide)) rfl (T.mg 28 (by decide))) (pa_cons (pe_mkB B.redo (T.kp 29 (by decide)) rfl (T.mg 29 (by decide))) pa_nil))))
      (pss_cons (ps_if (pt_cmpR (op_neD hu) (pe_lc (own := [("error", 10)]) (g := gName 10) rfl scLaw.nd (pi_list (pv 9)) (blkOk_by (own := [("error", 10)]) (N := ["script", "purse", "word", "plain", "thing", "noted", "some", "called", "later", "rest", "error"]) (sc := defScope sLaw) (by decide +kernel)) (fun _ _ _ _ _ => pg_name (i := 10) scLaw.nd rfl (Or.inl rfl)) (fun _ _ _ _ _ => pts_nil) (fun _ _ _ _ _ => Go.pe_fb B.code hr rfl (pa_cons (pv 10) pa_nil))) (pe_lst (pa_cons (pe_lst (pa_cons pe_int pa_nil)) (pa_cons (pe_lst (pa_cons pe_int pa_nil)) pa_nil))) (nomark _)) (pss_one (ps_ret pe_bl)) pss_nil)
      (pss_cons (ps_expr (pe_bm PySem.F.plainAttrs_list PySem.F.slot_list_append PySem.F.type_list_append mt_append (pv 9) (pa_cons (pe_mkB B.desk (T.kp 30 (by decide)) rfl (T.mg 30 (by decide))) pa_nil)))
      (pss_one (ps_ret (pe_and (pe_callB (cr_all rfl) (by rfl) T2.all boot_al (pa_cons (pe_lc (own := [("error", 10)]) (g := gName 10) rfl scLaw.nd (pi_list (pv 9)) (blkOk_by (own := [("error", 10)]) (N := ["script", "purse", "word", "plain", "thing", "noted", "some", "called", "later", "rest", "error"]) (sc := defScope sLaw) (by decide +kernel)) (fun _ _ _ _ _ => pg_name (i := 10) scLaw.nd rfl (Or.inl rfl)) (fun _ _ _ _ _ => pts_nil) (fun _ _ _ _ _ => Go.pe_fb B.isE hr rfl (pa_cons (pv 10) pa_nil))) pa_nil)) (pe_one (pe_cmpR (op_eqD hu) (Go.pe_fb B.code hr rfl (pa_cons (pe_ix Go.ixK (pv 9) pe_int (fun _ _ => rfl)) pa_nil)) (pe_lst pa_nil) (nomark _)))))))))), ?_⟩
    refine Go.seq ?_
    refine Go.forL (fun v H1 => ∃ (L : Addr) (qs : List Addr), v = .ref L ∧ H1 L = some (.lst (qs.map V.ref)) ∧ (∀ q ∈ qs, q ≠ L ∧ ∃ o, H1 q = some o ∧ PO 1000000000 o) ∧ qs.Nodup) (fun Q q => ?_) (fun v H1 hst => ?_)
    · repeat walk_at "go"
      refine ⟨a, ns, 3, rfl, hS, by omega, by omega, fun L H' qs hL ex hL' hlq hq nd => ?_⟩
      exact q _ _ ⟨L, qs, rfl, hL', fun q hq' => ⟨(hq q hq').2.1, (hq q hq').2.2⟩, nd⟩
    · obtain ⟨L, qs, rfl, hL, hq, nd⟩ := hst
      refine ⟨L, qs.map V.ref, fun i σ H => (∃ x1 x2 x3 x4 x5 x6 x7 x8 x9 x10, σ = [some (.ref a), x1, x2, x3, x4, x5, x6, x7, x8, x9, x10]) ∧ H L = some (.lst (qs.map V.ref)) ∧ ∀ j q, i ≤ j → qs[j]? = some q → ∃ o, H q = some o ∧ PO 1000000000 o, rfl, fun i σ H _ p => SqL.of p.2.1,
        ⟨⟨none, none, none, none, none, none, none, none, none, none, rfl⟩, hL, fun j q _ e => (hq q (List.mem_of_getElem? e)).2⟩, fun i x σ H hx p => ?_, fun σ H p => ?_⟩
      · obtain ⟨⟨x1, x2, x3, x4, x5, x6, x7, x8, x9, x10, rfl⟩, hLH, hqH⟩ := p
        rw [List.getElem?_map] at hx
        obtain ⟨q, hqi, rfl⟩ := Option.map_eq_some_iff.mp hx
        obtain ⟨o, ho, po⟩ := hqH i q (Nat.le_refl i) hqi
        have qL : q ≠ L := (hq q (List.mem_of_getElem? hqi)).1
        repeat walk_at "go"
        refine ⟨q, 20, o, rfl, ho, po.mono (by decide), fun x H1 o1 hx1 ex1 ho1 po1 fr1 => ?_⟩
        have hL1 := ex1 L _ qL.symm hLH
        obtain ⟨pa, pb, pc, pt, rfl, a0, a1, b0, b1, c0, c1, t0, t1⟩ := id po1
        with_reducible refine Go.name ?_
        with_reducible refine Go.seq ?_
        with_reducible refine Go.asg ?_
        refine mk_lst (K := K) (x := x) (n := 9) (mkA_cons (mk_con fun _ => .non) (mkA_cons (mk_con fun _ => .bl _) (mkA_cons (mk_con fun _ => .bl _) (mkA_cons (mk_con fun _ => .int 0 (by decide)) (mkA_cons (mk_var rfl) (mkA_cons (mk_neg rfl ho1 (by omega)) (mkA_cons (mk_tupD rfl) (mkA_cons (mk_tupL rfl) (mkA_cons (mk_dct rfl) mkA_nil))))))))) (by decide) H1 (Evl.Ex.refl H1) _ fun v H2 e2 r => ?_
        obtain ⟨PL, xs, rfl, nPL, hPL, lxs, cxs⟩ := r
        with_reducible refine Go.name ?_
        with_reducible refine Go.seq ?_
        with_reducible refine Go.asg ?_
        with_reducible refine Go.call ?_
        with_reducible refine Go.consA ?_
        with_reducible refine Go.var (by with_unfolding_all rfl) ?_
        with_reducible refine Go.consA ?_
        with_reducible refine Go.op ?_
        with_reducible refine Go.var (by with_unfolding_all rfl) ?_
        refine mk_lst (K := K) (x := x) (n := 2) (mkA_cons (mk_one rfl) (mkA_cons (mk_deep rfl) mkA_nil)) (by decide) H2 (Evl.Ex.refl H2) _ fun v H3 e3 r => ?_
        obtain ⟨L7, ys, rfl, n7, h7, lys, cys⟩ := r
        refine ⟨PL, L7, xs, ys, rfl, rfl, e3 _ _ hPL, h7, small_line (by omega), fun p np => ?_⟩
        have e4 : Evl.Ex H3 (upd H3 p (.lst (xs ++ ys))) := Evl.Ex.new np
        have h4 : (upd H3 p (.lst (xs ++ ys))) p = some (.lst (xs ++ ys)) := upd_same
        generalize upd H3 p (.lst (xs ++ ys)) = H4 at e4 h4
        have e14 := e2.trans (e3.trans e4)
        have pq : p ≠ q := (ne_of_none (e3 _ _ (e2 _ _ ho1)) np).symm
        repeat walk_at "go"
        refine ⟨q, p, xs ++ ys, 19, _, rfl, SqL.of h4, pq, by rw [List.length_append, lxs]; omega, by rw [List.length_append, lxs, lys]; decide, e14 _ _ ho1, po1, fun j y o2 hj po2 => ?_⟩
        have cy : Can K x H1 y H4 := by
          rcases List.mem_append.mp (List.mem_of_getElem? hj) with z | z
          · exact (cxs y z).mono (Evl.Ex.refl H1) (e3.trans e4)
          · exact (cys y z).mono e2 e4
        obtain ⟨ms, hT, fr⟩ := cy
        have qms : ∀ m ∈ ms, m ≠ q := fun m hm => (ne_of_none ho1 (fr m hm)).symm
        have hT5 : ThK K (upd H4 q o2) x y ms := hT.kept fun m hm => upd_ne (qms m hm)
        have hq5 : (upd H4 q o2) q = some o2 := upd_same
        have k5 : ∀ c u, c ≠ q → H4 c = some u → (upd H4 q o2) c = some u := fun c u hc e => by
          rw [upd_ne hc]
          exact e
        have hL5 := k5 L _ qL.symm (e14 _ _ hL1)
        generalize upd H4 q o2 = H5 at hT5 hq5 k5 hL5
        obtain ⟨d, hd, od⟩ := hT5.data hx1
        repeat walk_at "go"
        refine ⟨y, d, rfl, hd, od.sh, od.dp, od.sz, ?_⟩
        with_reducible refine Go.name ?_
        with_reducible refine Go.seq ?_
        refine par3 ?_
        repeat walk_at "go"
        refine ⟨y, rfl, fun LS H6 es1 nS e6 hS E1 => ?_⟩
        repeat walk_at "go"
        refine ⟨y, rfl, fun LC H7 es2 nC e7 hC E2 => ?_⟩
        repeat walk_at "go"
        refine ⟨small_line (by simp), fun t nt => ?_⟩
        have e8 : Evl.Ex H7 (upd H7 t (.tup [.str "later", .str x])) := Evl.Ex.new nt
        have ht8 : (upd H7 t (.tup [.str "later", .str x])) t = some (.tup [.str "later", .str x]) := upd_same
        generalize upd H7 t (.tup [.str "later", .str x]) = H8 at e8 ht8
        repeat walk_at "go"
        refine ⟨.ref t, rfl, fun LL H9 es3 nLL e9 hLL E3 => ?_⟩
        repeat walk_at "go"
        refine ⟨_, _, _, rfl, ?_⟩
        repeat walk_at "go"
        refine ⟨rfl, fun LB H10 es4 nB e10 hB E4 => ?_⟩
        repeat walk_at "go"
        refine ⟨LB, es4, .non, .none, rfl, hB, E4, .non, rfl, by decide, by decide, fun H11 e11 => ?_⟩
        repeat walk_at "go"
        refine Go.ifF ?_
        repeat walk_at "go"
        refine ⟨small_line (by simp), fun t2 nt2 => ?_⟩
        have e12 : Evl.Ex H11 (upd H11 t2 (.tup [.str "later", .str x])) := Evl.Ex.new nt2
        have ht12 : (upd H11 t2 (.tup [.str "later", .str x])) t2 = some (.tup [.str "later", .str x]) := upd_same
        generalize upd H11 t2 (.tup [.str "later", .str x]) = H12 at e12 ht12
        have odl := okd_later hx1
        repeat walk_at "go"
        refine ⟨.ref t2, .tuple [.str "later", .str x], rfl, .tup ht12 (.cons (.str _) (.cons (.str _) .nil)), odl.sh, odl.dp, odl.sz, ?_⟩
        repeat walk_at "go"
        have e912 := e10.trans (e11.trans e12)
        refine ⟨LL, es3, .ref t, .tuple [.str "later", .str x], rfl, e912 _ _ hLL, E3.mono e912, .tup (e912 _ _ (e9 _ _ ht8)) (.cons (.str _) (.cons (.str _) .nil)), odl.sh, odl.dp, odl.sz, fun H13 e13 => ?_⟩
        repeat walk_at "go"
        refine Go.ifF ?_
        repeat walk_at "go"
        have e613 := e7.trans (e8.trans (e9.trans (e912.trans e13)))
        refine ⟨LS, es1, y, d, rfl, e613 _ _ hS, E1.mono e613, dx_mono (e6.trans e613) d y hd, od.sh, od.dp, od.sz, fun H15 e15 => ?_⟩
        repeat walk_at "go"
        refine Go.ifF ?_
        repeat walk_at "go"
        have e715 := e8.trans (e9.trans (e912.trans (e13.trans e15)))
        refine ⟨LC, es2, y, d, rfl, e715 _ _ hC, E2.mono e715, dx_mono (e6.trans (e613.trans e15)) d y hd, od.sh, od.dp, od.sz, fun H16 e16 => ?_⟩
        repeat walk_at "go"
        refine Go.ifF ?_
        with_reducible refine Go.nxt ?_
        have e516 := e6.trans (e613.trans (e15.trans e16))
        refine mut_ok (K := K) (hT5.mono e516) hx1 ?_ ?_ fun H17 d2 hd2 od2 kp => ?_
        · rfl
        · rfl
        have th5 := hT5.there
        have thE := (hT5.mono e516).there
        have nin : ∀ c, H5 c = none → c ∉ ms := fun c hc hm => by
          rcases th5 c hm with ⟨xs, z⟩ | ⟨xs, z⟩ | ⟨ks, z⟩ <;> (rw [hc] at z; cases z)
        repeat walk_at "go"
        refine ⟨y, d2, rfl, hd2, od2.sh, od2.dp, od2.sz, ?_⟩
        repeat walk_at "go"
        have e616 := e613.trans (e15.trans e16)
        have e716 := e715.trans e16
        refine ⟨LS, es1, y, d2, rfl, kp _ _ (nin LS nS) (e616 _ _ hS), (E1.mono e616).kept thE kp, hd2, od2.sh, od2.dp, od2.sz, fun H18 e18 => ?_⟩
        repeat walk_at "go"
        refine Go.ifF ?_
        repeat walk_at "go"
        refine ⟨y, d2, rfl, dx_mono e18 d2 y hd2, od2.sh, od2.dp, od2.sz, ?_⟩
        repeat walk_at "go"
        refine ⟨LC, es2, y, d2, rfl, e18 _ _ (kp _ _ (nin LC (Evl.fresh_back e6 nC)) (e716 _ _ hC)), ((E2.mono e716).kept thE kp).mono e18, dx_mono e18 d2 y hd2, od2.sh, od2.dp, od2.sz, fun H19 e19 => ?_⟩
        repeat walk_at "go"
        refine Go.ifF ?_
        repeat walk_at "go"
        have fin : ∀ c u, c ≠ q → H c = some u → H19 c = some u := fun c u hc hu => by
          have h1 := ex1 c u hc hu
          have nm : c ∉ ms := fun hm => by
            have z := fr c hm
            rw [h1] at z
            cases z
          exact e19 _ _ (e18 _ _ (kp _ _ nm (e516 _ _ (k5 _ _ hc (e14 _ _ h1)))))
        refine ⟨⟨_, _, _, _, _, _, _, _, _, _, rfl⟩, fin _ _ qL.symm hLH, fun j q' hj hq' => ?_⟩
        obtain ⟨o', ho', po'⟩ := hqH j q' (by omega) hq'
        refine ⟨o', fin _ _ (fun e => ?_) ho', po'⟩
        subst e
        have z := (List.getElem?_inj (by rcases Nat.lt_or_ge j qs.length with z | z; exact z; rw [List.getElem?_eq_none z] at hq'; cases hq') nd).mp (hq'.trans hqi.symm)
        omega
      · obtain ⟨⟨x1, x2, x3, x4, x5, x6, x7, x8, x9, x10, rfl⟩, _, _⟩ := p
        repeat walk_at "go"
        intro e1 n1
        have x1 : Evl.Ex H (upd H e1 (exo e1 (cl K 28) none)) := Evl.Ex.new n1
        have h1 : (upd H e1 (exo e1 (cl K 28) none)) e1 = some (exo e1 (cl K 28) none) := upd_same
        generalize upd H e1 (exo e1 (cl K 28) none) = H1 at x1 h1
        repeat walk_at "go"
        intro e2 n2
        have x2 : Evl.Ex H1 (upd H1 e2 (exo e2 (cl K 29) none)) := Evl.Ex.new n2
        have h2 : (upd H1 e2 (exo e2 (cl K 29) none)) e2 = some (exo e2 (cl K 29) none) := upd_same
        generalize upd H1 e2 (exo e2 (cl K 29) none) = H2 at x2 h2
        repeat walk_at "go"
        refine ⟨small_line (by simp), fun l nl => ?_⟩
        have x3 : Evl.Ex H2 (upd H2 l (.lst [.ref e1, .ref e2])) := Evl.Ex.new nl
        have h3 : (upd H2 l (.lst [.ref e1, .ref e2])) l = some (.lst [.ref e1, .ref e2]) := upd_same
        generalize upd H2 l (.lst [.ref e1, .ref e2]) = H3 at x3 h3
        repeat walk_at "go"
        have he1 := x3 _ _ (x2 _ _ h1)
        have he2 := x3 _ _ h2
        refine Go.lcL l [.ref e1, .ref e2] (H1 := H3) (fun Q q => ⟨_, rfl, q⟩) (SqL.of h3) fun D nD => ⟨fun i H4 => Evl.Ex H3 H4 ∧ ∃ acc, H4 D = some (.lst acc) ∧ ((i = 0 ∧ acc = []) ∨ (i = 1 ∧ ∃ a1, acc = [.ref a1] ∧ a1 ≠ D ∧ H4 a1 = some (.lst [.int 28])) ∨
          (i = 2 ∧ ∃ a1 a2, acc = [.ref a1, .ref a2] ∧ H4 a1 = some (.lst [.int 28]) ∧ H4 a2 = some (.lst [.int 29]))), ⟨Evl.Ex.new nD, [], upd_same, .inl ⟨rfl, rfl⟩⟩, fun i H4 _ p => SqL.of (p.1 _ _ h3), fun i x H4 hx p => ?_, fun H4 p => ?_⟩
        · obtain ⟨x4, acc, hD, cs⟩ := p
          have i2 : i = 0 ∧ x = .ref e1 ∨ i = 1 ∧ x = .ref e2 := by
            rcases i with _ | _ | i
            · cases hx
              exact .inl ⟨rfl, rfl⟩
            · cases hx
              exact .inr ⟨rfl, rfl⟩
            · simp at hx
          rcases i2 with ⟨rfl, rfl⟩ | ⟨rfl, rfl⟩
          · repeat walk_at "go"
            refine ⟨e1, 28, rfl, by decide, ⟨none, x4 _ _ he1, fun d z => by cases z⟩, fun L4 H5 n4 x5 h5 => ?_⟩
            have DL : L4 ≠ D := (ne_of_none hD n4).symm
            refine ⟨acc, x5 _ _ hD, ?_, (x4.trans x5).mut nD, _, upd_same, .inr (.inl ⟨rfl, L4, ?_, DL, ?_⟩)⟩
            · rcases cs with ⟨_, rfl⟩ | ⟨z, _⟩ | ⟨z, _⟩
              · simp [sizeLine_eq]
              · cases z
              · cases z
            · rcases cs with ⟨_, rfl⟩ | ⟨z, _⟩ | ⟨z, _⟩
              · rfl
              · cases z
              · cases z
            · rw [upd_ne DL]
              exact h5
          · repeat walk_at "go"
            refine ⟨e2, 29, rfl, by decide, ⟨none, x4 _ _ he2, fun d z => by cases z⟩, fun L4 H5 n4 x5 h5 => ?_⟩
            have DL : L4 ≠ D := (ne_of_none hD n4).symm
            rcases cs with ⟨z, _⟩ | ⟨_, a1, rfl, d1, ha1⟩ | ⟨z, _⟩
            · cases z
            · refine ⟨_, x5 _ _ hD, by simp [sizeLine_eq], (x4.trans x5).mut nD, _, upd_same, .inr (.inr ⟨rfl, a1, L4, rfl, ?_, ?_⟩)⟩
              · rw [upd_ne d1]
                exact x5 _ _ ha1
              · rw [upd_ne DL]
                exact h5
            · cases z
        · obtain ⟨x4, acc, hD, cs⟩ := p
          rcases cs with ⟨z, _⟩ | ⟨z, _⟩ | ⟨_, a1, a2, rfl, ha1, ha2⟩
          · cases z
          · cases z
          repeat walk_at "go"
          refine ⟨small_line (by simp), fun m1 nm1 => ?_⟩
          have x5 : Evl.Ex H4 (upd H4 m1 (.lst [.int 28])) := Evl.Ex.new nm1
          have h5 : (upd H4 m1 (.lst [.int 28])) m1 = some (.lst [.int 28]) := upd_same
          generalize upd H4 m1 (.lst [.int 28]) = H5 at x5 h5
          repeat walk_at "go"
          refine ⟨small_line (by simp), fun m2 nm2 => ?_⟩
          have x6 : Evl.Ex H5 (upd H5 m2 (.lst [.int 29])) := Evl.Ex.new nm2
          have h6 : (upd H5 m2 (.lst [.int 29])) m2 = some (.lst [.int 29]) := upd_same
          generalize upd H5 m2 (.lst [.int 29]) = H6 at x6 h6
          repeat walk_at "go"
          refine ⟨small_line (by simp), fun m3 nm3 => ?_⟩
          have x7 : Evl.Ex H6 (upd H6 m3 (.lst [.ref m1, .ref m2])) := Evl.Ex.new nm3
          have h7 : (upd H6 m3 (.lst [.ref m1, .ref m2])) m3 = some (.lst [.ref m1, .ref m2]) := upd_same
          generalize upd H6 m3 (.lst [.ref m1, .ref m2]) = H7 at x7 h7
          have x47 := x5.trans (x6.trans x7)
          refine ⟨.list [.list [.int 28], .list [.int 29]], .list [.list [.int 28], .list [.int 29]], .lst (SqL.of (x47 _ _ hD)) (.cons (.lst (SqL.of (x47 _ _ ha1)) (.cons (.int _) .nil)) (.cons (.lst (SqL.of (x47 _ _ ha2)) (.cons (.int _) .nil)) .nil)),
            .lst (SqL.of h7) (.cons (.lst (SqL.of (x7 _ _ (x6 _ _ h5))) (.cons (.int _) .nil)) (.cons (.lst (SqL.of (x7 _ _ h6)) (.cons (.int _) .nil)) .nil)), by decide +kernel, by decide +kernel, ?_⟩
          rw [show PyData.eqv (.list [.list [.int 28], .list [.int 29]]) (.list [.list [.int 28], .list [.int 29]]) = true by decide +kernel]
          refine Go.isb (Go.ifF ?_)
          repeat walk_at "go"
          refine Go.bm ?_
          repeat walk_at "go"
          have x37 := x4.trans x47
          refine ⟨.inl ⟨rfl, _, SqL.of (x37 _ _ h3)⟩, ?_⟩
          repeat walk_at "go"
          intro e3 n3
          have x8 : Evl.Ex H7 (upd H7 e3 (exo e3 (cl K 30) none)) := Evl.Ex.new n3
          have h8 : (upd H7 e3 (exo e3 (cl K 30) none)) e3 = some (exo e3 (cl K 30) none) := upd_same
          generalize upd H7 e3 (exo e3 (cl K 30) none) = H8 at x8 h8
          repeat walk_at "go"
          have x38 := x37.trans x8
          refine ⟨l, _, .ref e3, rfl, rfl, x38 _ _ h3, by simp [sizeLine_eq], ?_⟩
          have n31 : e1 ≠ l := at_ne h3 he1 (fun z => nomatch z)
          have n32 : e2 ≠ l := at_ne h3 he2 (fun z => nomatch z)
          have n33 : e3 ≠ l := (ne_of_none (x37 _ _ h3) n3).symm
          have g1 : (upd H8 l (.lst ([.ref e1, .ref e2] ++ [.ref e3]))) e1 = some (exo e1 (cl K 28) none) := by
            rw [upd_ne n31]
            exact x38 _ _ he1
          have g2 : (upd H8 l (.lst ([.ref e1, .ref e2] ++ [.ref e3]))) e2 = some (exo e2 (cl K 29) none) := by
            rw [upd_ne n32]
            exact x38 _ _ he2
          have g3 : (upd H8 l (.lst ([.ref e1, .ref e2] ++ [.ref e3]))) e3 = some (exo e3 (cl K 30) none) := by
            rw [upd_ne n33]
            exact h8
          have gl : (upd H8 l (.lst ([.ref e1, .ref e2] ++ [.ref e3]))) l = some (.lst [.ref e1, .ref e2, .ref e3]) := upd_same
          generalize upd H8 l (.lst ([.ref e1, .ref e2] ++ [.ref e3])) = H9 at g1 g2 g3 gl
          repeat walk_at "go"
          refine Go.andV ?_
          repeat walk_at "go"
          refine Go.lcL l [.ref e1, .ref e2, .ref e3] (H1 := H9) (fun Q q => ⟨_, rfl, q⟩) (SqL.of gl) fun D nD => ⟨fun i H4 => Evl.Ex H9 H4 ∧ H4 D = some (.lst ((List.replicate i true).map V.bl)), ⟨Evl.Ex.new nD, upd_same⟩, fun i H4 _ p => SqL.of (p.1 _ _ gl), fun i x H4 hx p => ?_, fun H4 p => ?_⟩
          · obtain ⟨x4, hD⟩ := p
            have i3 : i ≤ 2 ∧ ∃ e, x = .ref e ∧ AtE K H9 e (28 + i) := by
              rcases i with _ | _ | _ | i
              · cases hx
                exact ⟨by omega, e1, rfl, none, g1, fun d z => by cases z⟩
              · cases hx
                exact ⟨by omega, e2, rfl, none, g2, fun d z => by cases z⟩
              · cases hx
                exact ⟨by omega, e3, rfl, none, g3, fun d z => by cases z⟩
              · simp at hx
            obtain ⟨hi, e, rfl, he⟩ := i3
            repeat walk_at "go"
            refine ⟨e, 28 + i, rfl, by omega, he.mono x4, _, hD, by simp [sizeLine_eq]; omega, x4.mut nD, ?_⟩
            rw [upd_same, List.replicate_succ', List.map_append]
            rfl
          · obtain ⟨x4, hD⟩ := p
            repeat walk_at "go"
            refine ⟨D, List.replicate 3 true, rfl, SqL.of hD, true, rfl, Go.ifT ?_⟩
            repeat walk_at "go"
            refine Go.ix (SqL.of (x4 _ _ gl)) (by with_unfolding_all rfl) ?_
            repeat walk_at "go"
            refine ⟨e3, 30, rfl, by decide, ⟨none, x4 _ _ g3, fun d z => by cases z⟩, fun L5 H5 n5 x5 h5 => ?_⟩
            repeat walk_at "go"
            refine ⟨small_line (by simp), fun m nm => ?_⟩
            have ne : L5 ≠ m := ne_of_none h5 nm
            refine ⟨.list [], .list [], .lst (SqL.of (by rw [upd_ne ne]; exact h5)) .nil, .lst (SqL.of upd_same) .nil, by decide +kernel, by decide +kernel, ?_⟩
            exact k _

end
end K1
/-! The head's facts with two things more: a test of one's own, the __init__ of own errors. -/
namespace HX
open PySem PySem.Spec PyProof.Rows L2 He Err
abbrev FnE : Type := Option (Str × Str × Arguments × FuncBody × Scope × Addr × Addr)
def fnE (K : PySem.W.Frag) (x : Str) : FnE := match K.lookup (ma K (ga K x) "__init__") with
  | some ⟨_, _, .func fd, _⟩ => some (fd.name, fd.qualname, fd.params, fd.body, fd.scope, fd.globals, fd.builtins)
  | _ => none
abbrev AlX : Type := AlD × Bool × List FnE
def asX (g : Addr → Option Obj) (n : Nat) : List Addr := asD g n ++ [cStatics, sysModules]
def obsX (fa : List Fa) (fn : List DefD) (xb : PySem.W.Frag → Bool) (xf : List Str) (K : PySem.W.Frag) : AlX := (obsD fa fn K, xb K, xf.map fun x => fnE K x)
def SaysX (fa : List Fa) (fn : List DefD) (xb : PySem.W.Frag → Bool) (xf : List Str) (vf : List FnE) (K : PySem.W.Frag) : Prop := obsX fa fn xb xf K = (valD fn, true, vf)
def obsXG (n : Nat) (fa : List Fa) (fn : List DefD) (xb : PySem.W.Frag → Bool) (xf : List Str) (g : Addr → Option Obj) : AlX := obsX fa fn xb xf (frG g (asX g n))
def hookX (n : Nat) (fa : List Fa) (fn : List DefD) (xb : PySem.W.Frag → Bool) (xf : List Str) (vf : List FnE) : PySem.W.Hook where
  α := AlX
  obs := fun s => obsXG n fa fn xb xf s.heap.get?
  val := fun _ => (valD fn, true, vf)
  says := fun _ h => ∃ K : PySem.W.Frag, K.In h ∧ SaysX fa fn xb xf vf K
  of := fun _ _ e => ⟨_, frG_in, e⟩
  keeps := fun _ _ _ ⟨K, hK, c⟩ k => ⟨K, PySem.W.Frag.In.keeps hK k, c⟩
theorem obsXG_eq {n : Nat} {fa : List Fa} {fn : List DefD} {xb : PySem.W.Frag → Bool} {xf : List Str} {vf : List FnE} {g : Addr → Option Obj} {s : Shared} (h : ∀ a, g a = s.heap.get? a) : obsXG n fa fn xb xf g = (hookX n fa fn xb xf vf).obs s := by
  have e : g = s.heap.get? := funext h
  rw [e] <;> rfl
section
variable {fa : List Fa} {fn : List DefD} {xb : PySem.W.Frag → Bool} {xf : List Str} {vf : List FnE} {K : PySem.W.Frag}
theorem SaysX.d (c : SaysX fa fn xb xf vf K) : SaysD fa fn K := congrArg (fun z : AlX => z.1) c
theorem SaysX.x (c : SaysX fa fn xb xf vf K) : xb K = true := congrArg (fun z : AlX => z.2.1) c
theorem SaysX.f (c : SaysX fa fn xb xf vf K) (i : Nat) {x : Str} {v : FnE} (h : xf[i]? = some x) (hv : vf[i]? = some v) : fnE K x = v := by
  have e : xf.map (fun x => fnE K x) = vf := congrArg (fun z : AlX => z.2.2) c
  have e2 : (xf.map fun x => fnE K x)[i]? = vf[i]? := by rw [e]
  rw [List.getElem?_map, h, hv] at e2
  exact Option.some.inj e2
end
/-! ### classes of errors -/
def clsB (K : PySem.W.Frag) (C : Addr) : Bool := match K.lookup C with
  | some ⟨.type t, _, .cls cd, sl⟩ => (match cd.mro, sl.toList with
    | .ref C' :: bm, [_, _, _, _, some (.builtin n), _] => decide (t = "type") && (decide (C' = C) && (decide (n = "ValueError.__new__") && (!cd.hasDel && (cd.hasDict && PySem.HandSPX.refsVE bm))))
    | _, _ => false)
  | _ => false
theorem clsB_ok {K : PySem.W.Frag} {C : Addr} (q : clsB K C = true) : ∃ nm q N bs bm sn sub ab col dd k0 k1 k2 k3 k5, K.lookup C = some (excClassObj nm q C N bs bm true sn sub ab col dd k0 k1 k2 k3 k5 "ValueError.__new__") ∧ PySem.HandSPX.refsVE bm = true := by
  unfold clsB at q
  split at q
  · rename_i t dd cd sl ho
    split at q
    · rename_i C' bm k0 k1 k2 k3 n k5 hm hs
      obtain ⟨h1, q⟩ := ba q
      obtain ⟨h2, q⟩ := ba q
      obtain ⟨h3, q⟩ := ba q
      obtain ⟨h4, q⟩ := ba q
      obtain ⟨h5, h6⟩ := ba q
      have h1 := of_decide_eq_true h1
      have h2 := of_decide_eq_true h2
      have h3 := of_decide_eq_true h3
      obtain ⟨nm, bs, mro, ns, qn, hd, sn, sub, ab, col, del⟩ := cd
      dsimp only at hm h4 h5
      have h4 : del = false := by simpa using h4
      subst hm h4 h1 h2 h3
      have h5 : hd = true := h5
      subst h5
      have hsl : sl = #[k0, k1, k2, k3, some (.builtin "ValueError.__new__"), k5] := by
        obtain ⟨l⟩ := sl
        simp only at hs
        rw [hs]
      subst hsl
      exact ⟨nm, qn, ns, bs, bm, sn, sub, ab, col, dd, k0, k1, k2, k3, k5, ho, h6⟩
    · cases q
  · cases q
def alB (K : PySem.W.Frag) (C : Addr) : Bool := match K.lookup C with
  | some ⟨_, _, .cls cd, _⟩ => eqO (PySem.W.alongIn K "__init__" ((cd.mro.dropWhile (· != .ref C)).drop 1)) (some (some (.builtin "ValueError.__init__")))
  | _ => false
def attrB (K : PySem.W.Frag) (C : Addr) : Bool := clsB K C && (eqO (PySem.W.findIn K (.ref C) "__getattribute__") (some (some (.builtin "BaseException.__getattribute__"))) && (eqO (PySem.W.findIn K (.ref C) "__getattr__") (some none) && (decide (PySem.W.subIn K (.ref C) (.type "BaseException") = some true) &&
  (PySem.W.hasDictIn K C && (PySem.W.keepIn K (.ref C) && (eqO (PySem.W.findIn K (.ref C) "value") (some none) && (eqO (PySem.W.findIn K (.ref C) "__class__") (some (some (.builtin "object.__class__"))) && (decide (PySem.W.mroIn K C (.type "object") = some true) && (PySem.W.clsIn K C).isSome))))))))
def getB (K : PySem.W.Frag) : Bool := eqO (PySem.W.specialIn K (.builtin "object.__class__") "__get__") (some (some (.builtin "getset_descriptor.__get__"))) && decide (PySem.W.takesIn K (.builtin "object.__class__") = some true)
theorem attrB_ok {K : PySem.W.Frag} {C : Addr} (g : getB K = true) (h : attrB K C = true) : ErrA K C := by
  obtain ⟨h1, h⟩ := ba h
  obtain ⟨h2, h⟩ := ba h
  obtain ⟨h3, h⟩ := ba h
  obtain ⟨h4, h⟩ := ba h
  obtain ⟨h5, h⟩ := ba h
  obtain ⟨h6, h⟩ := ba h
  obtain ⟨h7, h⟩ := ba h
  obtain ⟨h8, h⟩ := ba h
  obtain ⟨h9, h10⟩ := ba h
  obtain ⟨g1, g2⟩ := ba g
  exact ⟨clsB_ok h1, eqO_ok h2, eqO_ok h3, of_decide_eq_true h4, h5, h6, eqO_ok h7, eqO_ok h8, eqO_ok g1, of_decide_eq_true g2, of_decide_eq_true h9, h10⟩
def bareB (K : PySem.W.Frag) (C : Addr) : Bool := eqO (PySem.W.findIn K (.ref C) "__init__") (some (some (.builtin "ValueError.__init__")))
theorem bareB_ok {K : PySem.W.Frag} {C : Addr} (h : clsB K C = true) (h2 : bareB K C = true) : ErrB K C := ⟨clsB_ok h, eqO_ok h2⟩
/-- the __init__ at f -/
def dflNone (K : PySem.W.Frag) : Value → Bool
  | .ref T => (match K.lookup T with
    | some ⟨_, _, .seq its _, _⟩ => (match its.toList with
      | [.none] => true
      | _ => false)
    | _ => false)
  | _ => false
theorem dflNone_ok {K : PySem.W.Frag} {dV : Value} (h : dflNone K dV = true) : ∃ T oT its n, dV = .ref T ∧ K.lookup T = some oT ∧ oT.data = .seq its n ∧ its.toList = [.none] := by
  unfold dflNone at h
  split at h
  · split at h
    · rename_i hT
      split at h
      · rename_i he
        exact ⟨_, _, _, _, rfl, hT, rfl, he⟩
      · cases h
    · cases h
  · cases h
def fileB (K : PySem.W.Frag) (file : Str) : Value → Bool
  | .ref cA => (match K.lookup cA with
    | some ⟨_, _, .fields vs, _⟩ => (match (vs[2]? : Option Value) with
      | some (.str fl _) => (file == fl)
      | _ => false)
    | _ => false)
  | _ => false
theorem fileB_ok {K : PySem.W.Frag} {file : Str} {cV : Value} (h : fileB K file cV = true) : ∃ cA, cV = .ref cA ∧ ∃ ccl cdd vs ccs fl tf, K.lookup cA = some ⟨ccl, cdd, .fields vs, ccs⟩ ∧ vs[2]? = some (.str fl tf) ∧ (file == fl) = true := by
  unfold fileB at h
  split at h
  · split at h
    · rename_i hT
      split at h
      · rename_i he
        exact ⟨_, rfl, _, _, _, _, _, _, hT, he, h⟩
      · cases h
    · cases h
  · cases h
def cellB (K : PySem.W.Frag) (C : Addr) : List (Str × Addr) → Bool
  | [(n, cc)] => decide (n = "__class__") && (match K.lookup cc with
    | some ⟨_, _, .cell (some (.ref D)), _⟩ => decide (D = C)
    | _ => false)
  | _ => false
theorem cellB_ok {K : PySem.W.Frag} {C : Addr} {cl : List (Str × Addr)} (h : cellB K C cl = true) : ∃ cc, cl = [(("__class__" : Str), cc)] ∧ ∃ c1 c2 c3, K.lookup cc = some ⟨c1, c2, .cell (some (.ref C)), c3⟩ := by
  unfold cellB at h
  split at h
  · rename_i n cc
    obtain ⟨h1, h⟩ := ba h
    have h1 := of_decide_eq_true h1
    subst h1
    split at h
    · rename_i hT
      have e := of_decide_eq_true h
      subst e
      exact ⟨_, rfl, _, _, _, hT⟩
    · cases h
  · cases h
def initB (K : PySem.W.Frag) (file : Str) (C f : Addr) : Bool := match K.lookup f with
  | some ⟨_, _, .func fd, _⟩ => PySem.W.codeIn K fd.code fd.qualname && (dflNone K fd.defaults && (fileB K file fd.code && cellB K C fd.closure))
  | _ => false
def errB (K : PySem.W.Frag) (file : Str) (C f : Addr) : Bool := clsB K C && (alB K C && (eqO (PySem.W.findIn K (.ref C) "__init__") (some (some (.ref f))) && (eqO (PySem.W.findIn K (.ref C) "__setattr__") (some (some (.builtin "object.__setattr__"))) && (eqO (PySem.W.findIn K (.ref C) "value") (some none) &&
  (decide (PySem.W.subIn K (.ref C) (.type "ValueError") = some true) && (decide (PySem.W.mroIn K C (.ref C) = some true) && (decide (PySem.W.typeIn K (.ref f) = some (.type "function")) && initB K file C f)))))))
theorem errB_ok {K : PySem.W.Frag} {P : Program} {x : Str} {qual : Str} {p1 p2 p3 q1 q2 q3 q4 q5 q6 q7 q8 q9 : Pos} (opq : PySem.W.nsIn K cStatics "thirdparty.any" = some none) (top : (P.main.scope.names.lookup ("super" : Str)).isSome = false) (hl : (q3.endLine == q4.line) = true)
    (h : errB K P.main.file (ga K x) (ma K (ga K x) "__init__") = true) (e : fnE K x = (some (("__init__" : Str), qual, iArgs p1 p2 p3, FuncBody.stmts (iBody q1 q2 q3 q4 q5 q6 q7 q8 q9), iScope, mainGlobals, builtinsNs) : FnE)) : ErrC K P (ga K x) (ma K (ga K x) "__init__") := by
  obtain ⟨h1, h⟩ := ba h
  obtain ⟨h2, h⟩ := ba h
  obtain ⟨h3, h⟩ := ba h
  obtain ⟨h4, h⟩ := ba h
  obtain ⟨h5, h⟩ := ba h
  obtain ⟨h6, h⟩ := ba h
  obtain ⟨h7, h⟩ := ba h
  obtain ⟨h8, h9⟩ := ba h
  obtain ⟨nm, q, N, bs, bm, sn, sub, ab, col, dd, k0, k1, k2, k3, k5, hC, hbm⟩ := clsB_ok h1
  unfold alB at h2
  rw [hC] at h2
  unfold fnE at e
  unfold initB at h9
  cases hq : K.lookup (ma K (ga K x) "__init__") with
  | none =>
    rw [hq] at h9
    cases h9
  | some o =>
    obtain ⟨oc, od, dt, osl⟩ := o
    rw [hq] at h9 e
    cases dt with
    | func fd =>
      obtain ⟨n1, n2, n3, n4, n5, n6, n7, n8, n9, n10, n11, n12, n13, n14, n15⟩ := fd
      have e2 : (some (n1, n2, n3, n4, n5, n6, n15) : FnE) = (some (("__init__" : Str), qual, iArgs p1 p2 p3, FuncBody.stmts (iBody q1 q2 q3 q4 q5 q6 q7 q8 q9), iScope, mainGlobals, builtinsNs) : FnE) := e
      simp only [Option.some.injEq, Prod.mk.injEq] at e2
      obtain ⟨a1, a2, a3, a4, a5, a6, a7⟩ := e2
      subst a1 a2 a3 a4 a5 a6 a7
      have h9 : (PySem.W.codeIn K n13 n2 && (dflNone K n8 && (fileB K P.main.file n13 && cellB K (ga K x) n7))) = true := h9
      obtain ⟨b1, h9⟩ := ba h9
      obtain ⟨b2, h9⟩ := ba h9
      obtain ⟨b3, b4⟩ := ba h9
      obtain ⟨cA, rfl, hcA⟩ := fileB_ok b3
      obtain ⟨cc, rfl, hcc⟩ := cellB_ok b4
      exact ⟨⟨nm, q, N, bs, bm, sn, sub, ab, col, dd, k0, k1, k2, k3, k5, hC, hbm, eqO_ok h2⟩, eqO_ok h3, eqO_ok h4, eqO_ok h5, of_decide_eq_true h6, of_decide_eq_true h7, opq, of_decide_eq_true h8, top,
        ⟨oc, n8, n9, n10, n11, .none, cA, cc, od, n12, osl, n14, n2, p1, p2, p3, q1, q2, q3, q4, q5, q6, q7, q8, q9, hq, b1, dflNone_ok b2, hcA, hl, hcc⟩⟩
    | _ => cases h9
def sysB (K : PySem.W.Frag) : Bool := (K.lookup sysModules).isSome && eqO (PySem.W.nsIn K cStatics "thirdparty.any") (some none)
theorem sysB_ok {K : PySem.W.Frag} (h : sysB K = true) : Rp.SysIn K ∧ PySem.W.nsIn K cStatics "thirdparty.any" = some none := by
  obtain ⟨h1, h2⟩ := ba h
  exact ⟨Option.isSome_iff_exists.mp h1, eqO_ok h2⟩
end HX
namespace K1
open PySem PySem.Spec PyProof.Rows L2 LawB Err
/-! ### the head of law_k01: facts by names -/
abbrev R : PySem.W.OpenRow := PySem.W.OpenLaw.row PySem.Challenge.rw_anychance_k01_errors_made
def clsBody : Stmt → List Stmt
  | .ClassDef (body := b) .. => b
  | _ => []
def inn (i : Nat) : Stmt := (clsBody (top i)).getD 0 (.Pass ⟨0, 0, 0, 0⟩)
def v (i : Nat) (q : Str) : HX.FnE := some ("__init__", q, defArgs (inn i), .stmts (defBody (inn i)), defScope (inn i), mainGlobals, builtinsNs)
def vf : List HX.FnE := [v 2 "InvalidWord.__init__", v 3 "InvalidBook.__init__", v 4 "InvalidState.__init__", v 5 "InvalidDesk.__init__", v 6 "InvalidDesks.__init__", v 7 "InvalidNames.__init__", v 8 "InvalidChange.__init__", v 9 "InvalidChanges.__init__", v 10 "InvalidTalk.__init__", v 11 "InvalidPair.__init__", v 12 "InvalidLot.__init__", v 13 "InvalidWords.__init__", v 14 "InvalidCount.__init__", v 15 "InvalidLevels.__init__", v 16 "InvalidPartner.__init__", v 17 "InvalidScene.__init__", v 18 "InvalidDeeds.__init__", v 19 "InvalidArms.__init__", v 20 "InvalidFrame.__init__", v 21 "InvalidHall.__init__", v 22 "InvalidSpot.__init__", v 23 "InvalidScript.__init__", v 24 "InvalidText.__init__", v 25 "InvalidLog.__init__", v 28 "Hopeless.__init__", v 29 "Refused.__init__", v 26 "InvalidShares.__init__", v 27 "InvalidFraction.__init__"]
def xf : List Str := nm.take 28
def fn : List He.DefD := [⟨("_law_purse", none), "_law_purse", "_law_purse", defArgs sPurse, defBody sPurse, defScope sPurse, [], []⟩, ⟨("_law_mixed", none), "_law_mixed", "_law_mixed", defArgs sMixed, defBody sMixed, defScope sMixed, [], []⟩, ⟨("_law_draw", none), "_law_draw", "_law_draw", defArgs sDraw, defBody sDraw, defScope sDraw, [], []⟩, ⟨("_law_purses", none), "_law_purses", "_law_purses", defArgs sPurses, defBody sPurses, defScope sPurses, [], []⟩, ⟨("_law_one_of", none), "_law_one_of", "_law_one_of", defArgs sOneOf, defBody sOneOf, defScope sOneOf, [], []⟩, ⟨("_law_word", none), "_law_word", "_law_word", defArgs sWord, defBody sWord, defScope sWord, [], []⟩, ⟨("_law_first", none), "_law_first", "_law_first", defArgs sFirst, defBody sFirst, defScope sFirst, [], []⟩, ⟨("_law_called", none), "_law_called", "_law_called", defArgs sCalled, defBody sCalled, defScope sCalled, [], []⟩, ⟨("_law_bare", none), "_law_bare", "_law_bare", defArgs sBare, defBody sBare, defScope sBare, [], []⟩, ⟨("_law_code", none), "_law_code", "_law_code", defArgs sCode, defBody sCode, defScope sCode, [], []⟩, ⟨("_law_is_error", none), "_law_is_error", "_law_is_error", defArgs sIsErr, defBody sIsErr, defScope sIsErr, [], []⟩, ⟨("_law_right", none), "_law_right", "_law_right", defArgs sRight, defBody sRight, defScope sRight, [], []⟩, ⟨("law", none), "law", "law", defArgs sLaw, defBody sLaw, defScope sLaw, [], []⟩]
def fa : List He.Fa := (nm ++ (["_law_purse", "_law_mixed", "_law_draw", "_law_purses", "_law_one_of", "_law_word", "_law_first", "_law_called", "_law_bare", "_law_code", "_law_is_error", "_law_right", "law"] : List Str)).map He.Fa.glo ++ [.free "sum", .free "int", .free "max", .free "min", .free "len", .free "range", .free "isinstance", .free "repr", .free "list", .free "dict", .free "tuple", .free "all", .free "super", .free "ValueError"]
def ve : List Value := [.type "ValueError", .type "Exception", .type "BaseException", .type "object"]
def mroB (K : PySem.W.Frag) (C : Addr) (m : List Value) : Bool := match PySem.W.clsIn K C with
  | some cd => decide (cd.mro = m)
  | none => false
def typB (K : PySem.W.Frag) (C : Addr) : Bool := decide (PySem.W.typeIn K (.ref C) = some (.type "type"))
def oneB (K : PySem.W.Frag) (file : Str) (D : Addr) (x : Str) : Bool := HandSHeadRun.frNat (He.ga K x) fun C => HandSHeadRun.frNat (He.ma K C "__init__") fun f => HX.errB K file C f
def two (K : PySem.W.Frag) (D : Addr) (x : Str) : Bool := HandSHeadRun.frNat (He.ga K x) fun C => HX.attrB K C && (typB K C && (decide (PySem.W.kitOne K (.ref C) (.ref D) = some true) && decide (PySem.W.kitOne K (.ref C) (.type "ValueError") = some true)))
def six (K : PySem.W.Frag) (D : Addr) (x : Str) : Bool := HandSHeadRun.frNat (He.ga K x) fun C => mroB K C (.ref C :: .ref D :: ve)
def xb (K : PySem.W.Frag) : Bool := HandSHeadRun.frNat (He.ga K "DeskError") fun D => HX.sysB K && (HX.getB K && ((nm.take 28).all (oneB K (PySem.Challenge.pw_anychance_k01_errors_made.main.file) D) && (nm.all (two K D) && ((nm.take 30).all (six K D) && (mroB K D (.ref D :: ve) &&
  (decide (nm.map (He.ga K)).Nodup && ((HX.clsB K (He.ga K "NothingToUndo") && HX.bareB K (He.ga K "NothingToUndo")) && ((HX.clsB K (He.ga K "NothingToRedo") && HX.bareB K (He.ga K "NothingToRedo")) && (HX.clsB K D && HX.bareB K D)))))))))
abbrev hk : PySem.W.Hook := HX.hookX 4 fa fn xb xf vf
def ob (s : PySem.W.SharedT) : HX.AlX := HX.obsXG 4 fa fn xb xf (HandSHeadRun.getT s)
theorem ob_eq (s : PySem.W.SharedT) : ob s = hk.obs s.abs := HX.obsXG_eq (HandSHeadRun.getT_eq s)
def loose0 : List PySem.Str := ["DeskError", "InvalidWord", "InvalidBook", "InvalidState", "InvalidDesk", "InvalidDesks", "InvalidNames", "InvalidChange", "InvalidChanges", "InvalidTalk", "InvalidPair", "InvalidLot", "InvalidWords", "InvalidCount", "InvalidLevels", "InvalidPartner", "InvalidScene", "InvalidDeeds", "InvalidArms", "InvalidFrame", "InvalidHall", "InvalidSpot", "InvalidScript", "InvalidText", "InvalidLog", "InvalidShares", "InvalidFraction", "Hopeless", "Refused", "NothingToUndo"]
def loose1 : List PySem.Str := ["NothingToRedo", "_law_purse", "_law_mixed", "_law_draw", "_law_purses", "_law_one_of", "_law_word", "_law_first", "_law_called", "_law_bare", "_law_code", "_law_is_error", "_law_right"]
abbrev loose : List PySem.Str := loose0 ++ loose1
end K1
namespace K1
open PySem PySem.Spec PyProof.Rows L2 LawB Err
theorem run (w : World) : HandSHeadRun.RunEq R (PySem.W.view R.prog [45]) hk ob 20000 loose w := by
  intro os
  kernel_rfl
end K1
namespace K1
open PySem PySem.Spec PyProof.Rows L2 LawB Err
theorem vf_at : ∀ i, i < 28 → ∃ (q : Str) (p1 p2 p3 q1 q2 q3 q4 q5 q6 q7 q8 q9 : Pos), vf[i]? = some (some (("__init__" : Str), q, iArgs p1 p2 p3, FuncBody.stmts (iBody q1 q2 q3 q4 q5 q6 q7 q8 q9), iScope, mainGlobals, builtinsNs) : HX.FnE) ∧ (q3.endLine == q4.line) = true
  | 0, _ => ⟨_, _, _, _, _, _, _, _, _, _, _, _, _, rfl, rfl⟩
  | 1, _ => ⟨_, _, _, _, _, _, _, _, _, _, _, _, _, rfl, rfl⟩
  | 2, _ => ⟨_, _, _, _, _, _, _, _, _, _, _, _, _, rfl, rfl⟩
  | 3, _ => ⟨_, _, _, _, _, _, _, _, _, _, _, _, _, rfl, rfl⟩
  | 4, _ => ⟨_, _, _, _, _, _, _, _, _, _, _, _, _, rfl, rfl⟩
  | 5, _ => ⟨_, _, _, _, _, _, _, _, _, _, _, _, _, rfl, rfl⟩
  | 6, _ => ⟨_, _, _, _, _, _, _, _, _, _, _, _, _, rfl, rfl⟩
  | 7, _ => ⟨_, _, _, _, _, _, _, _, _, _, _, _, _, rfl, rfl⟩
  | 8, _ => ⟨_, _, _, _, _, _, _, _, _, _, _, _, _, rfl, rfl⟩
  | 9, _ => ⟨_, _, _, _, _, _, _, _, _, _, _, _, _, rfl, rfl⟩
  | 10, _ => ⟨_, _, _, _, _, _, _, _, _, _, _, _, _, rfl, rfl⟩
  | 11, _ => ⟨_, _, _, _, _, _, _, _, _, _, _, _, _, rfl, rfl⟩
  | 12, _ => ⟨_, _, _, _, _, _, _, _, _, _, _, _, _, rfl, rfl⟩
  | 13, _ => ⟨_, _, _, _, _, _, _, _, _, _, _, _, _, rfl, rfl⟩
  | 14, _ => ⟨_, _, _, _, _, _, _, _, _, _, _, _, _, rfl, rfl⟩
  | 15, _ => ⟨_, _, _, _, _, _, _, _, _, _, _, _, _, rfl, rfl⟩
  | 16, _ => ⟨_, _, _, _, _, _, _, _, _, _, _, _, _, rfl, rfl⟩
  | 17, _ => ⟨_, _, _, _, _, _, _, _, _, _, _, _, _, rfl, rfl⟩
  | 18, _ => ⟨_, _, _, _, _, _, _, _, _, _, _, _, _, rfl, rfl⟩
  | 19, _ => ⟨_, _, _, _, _, _, _, _, _, _, _, _, _, rfl, rfl⟩
  | 20, _ => ⟨_, _, _, _, _, _, _, _, _, _, _, _, _, rfl, rfl⟩
  | 21, _ => ⟨_, _, _, _, _, _, _, _, _, _, _, _, _, rfl, rfl⟩
  | 22, _ => ⟨_, _, _, _, _, _, _, _, _, _, _, _, _, rfl, rfl⟩
  | 23, _ => ⟨_, _, _, _, _, _, _, _, _, _, _, _, _, rfl, rfl⟩
  | 24, _ => ⟨_, _, _, _, _, _, _, _, _, _, _, _, _, rfl, rfl⟩
  | 25, _ => ⟨_, _, _, _, _, _, _, _, _, _, _, _, _, rfl, rfl⟩
  | 26, _ => ⟨_, _, _, _, _, _, _, _, _, _, _, _, _, rfl, rfl⟩
  | 27, _ => ⟨_, _, _, _, _, _, _, _, _, _, _, _, _, rfl, rfl⟩
  | n + 28, h => absurd h (by omega)
theorem nm_at {i : Nat} (h : i < 31) : nm[i]? = some (nm.getD i "") := by
  have l : i < nm.length := h
  rw [List.getD_eq_getElem?_getD, List.getElem?_eq_getElem l]
  rfl
theorem mem_take {i n : Nat} (h : i < n) (h2 : i < 31) : nm.getD i "" ∈ nm.take n := by
  refine List.mem_of_getElem? (i := i) ?_
  rw [List.getElem?_take, if_pos h]
  exact nm_at h2
theorem mem_nm {i : Nat} (h2 : i < 31) : nm.getD i "" ∈ nm := List.mem_of_getElem? (nm_at h2)
section
variable {K : PySem.W.Frag} {h : Heap} {mg : Str → Option Value} {w : World}
abbrev P0 : Program := (PySem.Challenge.rw_anychance_k01_errors_made).prog
theorem mro_of {C : Addr} {m : List Value} (h : mroB K C m = true) : ∃ cd, PySem.W.clsIn K C = some cd ∧ cd.mro = m := by
  unfold mroB at h
  split at h
  · exact ⟨_, by assumption, of_decide_eq_true h⟩
  · cases h
theorem kit_at {Ci Cj : Addr} {r : List Value} (h : mroB K Ci (.ref Ci :: r) = true) (hj : ∃ cd, PySem.W.clsIn K Cj = some cd) (tj : typB K Cj = true) : PySem.W.kitOne K (.ref Ci) (.ref Cj) = some ((.ref Ci :: r : List Value).contains (.ref Cj)) := by
  obtain ⟨cd, hc, hm⟩ := mro_of h
  unfold PySem.W.kitOne
  by_cases e : (Value.ref Ci == Value.ref Cj) = true
  · rw [if_pos e]
    have e2 : (Value.ref Cj == Value.ref Ci) = true := by
      have z := eq_of_beq e
      rw [z]
      exact beq_self_eq_true _
    rw [List.contains_cons, e2, Bool.true_or]
  · rw [if_neg e]
    obtain ⟨cj, hcj⟩ := hj
    unfold PySem.W.kitCls
    have t := of_decide_eq_true tj
    show (if ((PySem.W.clsIn K Cj).isSome && PySem.W.typeIn K (Value.ref Cj) == some (Value.type "type")) = true then PySem.W.subIn K (Value.ref Ci) (Value.ref Cj) else none) = _
    rw [hcj, t]
    have z : ((some cj).isSome && (some (Value.type "type") == some (Value.type "type"))) = true := by simp
    rw [if_pos z]
    show PySem.W.mroIn K Ci (.ref Cj) = _
    unfold PySem.W.mroIn
    rw [hc]
    show (if cd.mro.isEmpty = true then none else some (cd.mro.contains (.ref Cj))) = _
    rw [hm]
    rfl
theorem facts {f : Addr} (X : K.In h) (G : h.Ns mainGlobals mg) (hfa : mg ("law" : Str) = some (.ref f)) (c : HX.SaysX fa fn xb xf vf K) :
    ∃ fd : FuncData, (∀ (s : Shared) (v : Value), BindsTo s fd ⟨[v], []⟩ [("script", v)]) ∧ ∀ base : Heap, K.In base → base.Ns mainGlobals mg → GL.FnG P0 w K mg base CX0 5 f fd ["script"] (spLaw K) := by
  have cx := c.x
  unfold xb at cx
  rw [HandSHeadRun.frNat_eq] at cx
  obtain ⟨b1, cx⟩ := He.ba cx
  obtain ⟨b2, cx⟩ := He.ba cx
  obtain ⟨b3, cx⟩ := He.ba cx
  obtain ⟨b4, cx⟩ := He.ba cx
  obtain ⟨b5, cx⟩ := He.ba cx
  obtain ⟨b6, cx⟩ := He.ba cx
  obtain ⟨b7, cx⟩ := He.ba cx
  obtain ⟨b8, cx⟩ := He.ba cx
  obtain ⟨b9, b10⟩ := He.ba cx
  obtain ⟨SY, opq⟩ := HX.sysB_ok b1
  have one : ∀ i, i < 28 → HX.errB K P0.main.file (cl K i) (He.ma K (cl K i) "__init__") = true := fun i hi => by
    have z := List.all_eq_true.mp b3 _ (mem_take hi (by omega))
    unfold oneB at z
    rw [HandSHeadRun.frNat_eq, HandSHeadRun.frNat_eq] at z
    exact z
  have tw : ∀ i, i < 31 → HX.attrB K (cl K i) = true ∧ typB K (cl K i) = true ∧ PySem.W.kitOne K (.ref (cl K i)) (.ref (cl K 30)) = some true ∧ PySem.W.kitOne K (.ref (cl K i)) (.type "ValueError") = some true := fun i hi => by
    have z := List.all_eq_true.mp b4 _ (mem_nm hi)
    unfold two at z
    rw [HandSHeadRun.frNat_eq] at z
    obtain ⟨z1, z⟩ := He.ba z
    obtain ⟨z2, z⟩ := He.ba z
    obtain ⟨z3, z4⟩ := He.ba z
    exact ⟨z1, z2, of_decide_eq_true z3, of_decide_eq_true z4⟩
  have six : ∀ i, i < 30 → mroB K (cl K i) (.ref (cl K i) :: .ref (cl K 30) :: ve) = true := fun i hi => by
    have z := List.all_eq_true.mp b5 _ (mem_take hi (by omega))
    unfold K1.six at z
    rw [HandSHeadRun.frNat_eq] at z
    exact z
  have nd : (nm.map (He.ga K)).Nodup := of_decide_eq_true b7
  have inj : ∀ i j, i < 31 → j < 31 → cl K i = cl K j → i = j := fun i j hi hj e => by
    refine (List.getElem?_inj (l := nm.map (He.ga K)) (by rw [List.length_map]; exact hi) nd).mp ?_
    rw [List.getElem?_map, List.getElem?_map, nm_at hi, nm_at hj]
    exact congrArg some e
  have kp : ∀ i, i < 31 → PySem.W.keepIn K (.ref (cl K i)) = true := fun i hi => (HX.attrB_ok b2 (tw i hi).1).kp
  have kit : ∀ i j, i < 31 → j < 30 → PySem.W.kitOne K (.ref (cl K i)) (.ref (cl K j)) = some (decide (i = j)) := fun i j hi hj => by
    have hjc := mro_of (six j hj)
    have c1 : ∀ k, k < 31 → (Value.ref (cl K j) == Value.ref (cl K k)) = decide (k = j) := fun k hk => by
      by_cases e : k = j
      · subst e
        rw [decide_eq_true rfl]
        exact beq_self_eq_true _
      · rw [decide_eq_false e]
        refine beq_eq_false_iff_ne.mpr fun z => e ?_
        injection z with z
        exact (inj j k (by omega) hk z).symm
    by_cases h30 : i < 30
    · rw [kit_at (six i h30) ⟨_, hjc.choose_spec.1⟩ (tw j (by omega)).2.1]
      rw [List.contains_cons, List.contains_cons, c1 i hi, c1 30 (by omega), show ve.contains (Value.ref (cl K j)) = false from rfl, decide_eq_false (show ¬ (30 : Nat) = j by omega)]
      simp
    · have e : i = 30 := by omega
      subst e
      have b6' : mroB K (cl K 30) (.ref (cl K 30) :: ve) = true := b6
      rw [kit_at b6' ⟨_, hjc.choose_spec.1⟩ (tw j (by omega)).2.1]
      rw [List.contains_cons]
      rw [c1 30 (by omega), show ve.contains (Value.ref (cl K j)) = false from rfl]
      simp
  have T : Txt K P0 mg := {
    err := fun i hi => by
      obtain ⟨q, p1, p2, p3, q1, q2, q3, q4, q5, q6, q7, q8, q9, hv, hl⟩ := vf_at i hi
      exact HX.errB_ok opq (by decide +kernel) hl (one i hi) (c.f i (by unfold xf; rw [List.getElem?_take, if_pos hi]; exact nm_at (by omega)) hv)
    kp := kp
    mg := fun i hi => He.glo_ok X G (c.d.fact i (f := .glo (nm.getD i "")) (by
      unfold fa
      rw [List.getElem?_append_left (by rw [List.length_map, List.length_append]; exact Nat.lt_of_lt_of_le hi (by decide)), List.getElem?_map, List.getElem?_append_left (show i < nm.length from hi), nm_at hi]
      rfl))
    errA := fun i hi => HX.attrB_ok b2 (tw i hi).1
    kit := kit
    kitD := fun i hi => (tw i hi).2.2.1
    kitV := fun i hi => (tw i hi).2.2.2
    sup := He.free_ok X G (c.d.fact 56 (f := .free "super") rfl)
    isi := He.free_ok X G (c.d.fact 50 (f := .free "isinstance") rfl)
    ve := He.free_ok X G (c.d.fact 57 (f := .free "ValueError") rfl)
    bl := ⟨He.free_ok X G (c.d.fact 44 (f := .free "sum") rfl), He.free_ok X G (c.d.fact 45 (f := .free "int") rfl), He.free_ok X G (c.d.fact 46 (f := .free "max") rfl), He.free_ok X G (c.d.fact 47 (f := .free "min") rfl), He.free_ok X G (c.d.fact 48 (f := .free "len") rfl), He.free_ok X G (c.d.fact 49 (f := .free "range") rfl)⟩ }
  have T2 : Bl2 mg := ⟨He.free_ok X G (c.d.fact 51 (f := .free "repr") rfl), He.free_ok X G (c.d.fact 52 (f := .free "list") rfl), He.free_ok X G (c.d.fact 53 (f := .free "dict") rfl), He.free_ok X G (c.d.fact 54 (f := .free "tuple") rfl), He.free_ok X G (c.d.fact 55 (f := .free "all") rfl)⟩
  obtain ⟨fd0, F0⟩ := c.d.def_ 0 rfl
  obtain ⟨fd1, F1⟩ := c.d.def_ 1 rfl
  obtain ⟨fd2, F2⟩ := c.d.def_ 2 rfl
  obtain ⟨fd3, F3⟩ := c.d.def_ 3 rfl
  obtain ⟨fd4, F4⟩ := c.d.def_ 4 rfl
  obtain ⟨fd5, F5⟩ := c.d.def_ 5 rfl
  obtain ⟨fd6, F6⟩ := c.d.def_ 6 rfl
  obtain ⟨fd7, F7⟩ := c.d.def_ 7 rfl
  obtain ⟨fd8, F8⟩ := c.d.def_ 8 rfl
  obtain ⟨fd9, F9⟩ := c.d.def_ 9 rfl
  obtain ⟨fd10, F10⟩ := c.d.def_ 10 rfl
  obtain ⟨fd11, F11⟩ := c.d.def_ 11 rfl
  obtain ⟨fd12, F12⟩ := c.d.def_ 12 rfl
  have e := hfa.symm.trans (He.glo_ok X G (c.d.fact 43 (f := .glo "law") rfl))
  cases e
  have b := FunD.bindsA (ps := ["script"]) F12 fun _ _ _ _ _ _ us hl => match us, hl with | [_], _ => rfl
  refine ⟨fd12, fun s v => b s [v] rfl, fun base _ _ => ?_⟩
  have B0 : Go.Fb P0 w K mg base 1 "_law_purse" ["script", "at"] [] (spPurse K) := ⟨_, fd0, [], He.glo_ok X G (c.d.fact 31 (f := .glo "_law_purse") rfl), F0.kp, ok_purse F0 T.bl, F0.bindsN fun _ _ _ _ _ _ us hl => match us, hl with | [_, _], _ => rfl, .nil⟩
  have B1 : Go.Fb P0 w K mg base 1 "_law_mixed" ["seed", "turn", "at"] [] (spMixed) := ⟨_, fd1, [], He.glo_ok X G (c.d.fact 32 (f := .glo "_law_mixed") rfl), F1.kp, ok_mixed F1 T.bl, F1.bindsN fun _ _ _ _ _ _ us hl => match us, hl with | [_, _, _], _ => rfl, .nil⟩
  have B2 : Go.Fb P0 w K mg base 2 "_law_draw" ["purse", "many"] [] (spDraw) := ⟨_, fd2, [], He.glo_ok X G (c.d.fact 33 (f := .glo "_law_draw") rfl), F2.kp, ok_draw F2 T.bl B1, F2.bindsN fun _ _ _ _ _ _ us hl => match us, hl with | [_, _], _ => rfl, .nil⟩
  have B3 : Go.Fb P0 w K mg base 2 "_law_purses" ["script", "few"] [] (spPurses K) := ⟨_, fd3, [], He.glo_ok X G (c.d.fact 34 (f := .glo "_law_purses") rfl), F3.kp, ok_purses F3 T.bl B0, F3.bindsN fun _ _ _ _ _ _ us hl => match us, hl with | [_, _], _ => rfl, .nil⟩
  have B4 : Go.Fb P0 w K mg base 3 "_law_one_of" ["purse", "some"] [] (spOneOf K) := ⟨_, fd4, [], He.glo_ok X G (c.d.fact 35 (f := .glo "_law_one_of") rfl), F4.kp, ok_oneOf F4 T.bl B2, F4.bindsN fun _ _ _ _ _ _ us hl => match us, hl with | [_, _], _ => rfl, .nil⟩
  have B5 : Go.Fb P0 w K mg base 3 "_law_word" ["purse"] [] (spWord) := ⟨_, fd5, [], He.glo_ok X G (c.d.fact 36 (f := .glo "_law_word") rfl), F5.kp, ok_word F5 T.bl B2, F5.bindsN fun _ _ _ _ _ _ us hl => match us, hl with | [_], _ => rfl, .nil⟩
  have B6 : Go.Fb P0 w K mg base 3 "_law_first" ["thing"] [] (spMany K) := ⟨_, fd6, [], He.glo_ok X G (c.d.fact 37 (f := .glo "_law_first") rfl), F6.kp, ok_first F6 T, F6.bindsN fun _ _ _ _ _ _ us hl => match us, hl with | [_], _ => rfl, .nil⟩
  have B7 : Go.Fb P0 w K mg base 3 "_law_called" ["thing"] [] (spMany K) := ⟨_, fd7, [], He.glo_ok X G (c.d.fact 38 (f := .glo "_law_called") rfl), F7.kp, ok_called F7 T, F7.bindsN fun _ _ _ _ _ _ us hl => match us, hl with | [_], _ => rfl, .nil⟩
  have B8 : Go.Fb P0 w K mg base 3 "_law_bare" [] [] (spBare K) := ⟨_, fd8, [], He.glo_ok X G (c.d.fact 39 (f := .glo "_law_bare") rfl), F8.kp, ok_bare F8 T, F8.bindsN fun _ _ _ _ _ _ us hl => match us, hl with | [], _ => rfl, .nil⟩
  have B9 : Go.Fb P0 w K mg base 3 "_law_code" ["error"] [] (spCode K) := ⟨_, fd9, [], He.glo_ok X G (c.d.fact 40 (f := .glo "_law_code") rfl), F9.kp, ok_code F9 T, F9.bindsN fun _ _ _ _ _ _ us hl => match us, hl with | [_], _ => rfl, .nil⟩
  have B10 : Go.Fb P0 w K mg base 1 "_law_is_error" ["error"] [] (spIsErr K) := ⟨_, fd10, [], He.glo_ok X G (c.d.fact 41 (f := .glo "_law_is_error") rfl), F10.kp, ok_isErr F10 T, F10.bindsN fun _ _ _ _ _ _ us hl => match us, hl with | [_], _ => rfl, .nil⟩
  have B11 : Go.FbG P0 w K mg base 4 "_law_right" ["some", "noted"] [] (spRight K) := ⟨_, fd11, [], He.glo_ok X G (c.d.fact 42 (f := .glo "_law_right") rfl), F11.kp, ok_right F11 T T2 SY B9 B10, F11.bindsN fun _ _ _ _ _ _ us hl => match us, hl with | [_, _], _ => rfl, .nil⟩
  exact ok_law F12 T T2 SY ⟨B3, B5, B4, B6, B7, B8, B9, B10, B11, HX.bareB_ok (He.ba b8).1 (He.ba b8).2, HX.bareB_ok (He.ba b9).1 (He.ba b9).2, HX.bareB_ok (He.ba b10).1 (He.ba b10).2⟩
end
end K1
open PySem PySem.W PySem.Calls PyProof.Rows
theorem PySem.Challenge.cw_anychance_k01_errors_made_holds : PySem.Challenge.rw_anychance_k01_errors_made.Holds := by
  w_on; o_law
  refine HandSHeadRun.head_any (r := OpenLaw.row PySem.Challenge.rw_anychance_k01_errors_made) (q := view (OpenLaw.row PySem.Challenge.rw_anychance_k01_errors_made).prog [45]) (H := K1.hk) (ob := K1.ob) (M := 20000) (loose := K1.loose) (d := HandSHeadRun.topDef (OpenLaw.row PySem.Challenge.rw_anychance_k01_errors_made).prog 45) (kwd := []) K1.ob_eq
    (by kernel_rfl) (fun s => by kernel_rfl) K1.run (by kernel_rfl) (by kernel_rfl) (by kernel_rfl) (by rfl) (by first | assumption | decide +kernel) (by decide +kernel) ⟨rfl, rfl, rfl, rfl, rfl, by decide +kernel⟩ ?hw ?hc
  case hw => w_witness2
  case hc =>
    refine GL.walkG (l := PySem.Challenge.rw_anychance_k01_errors_made) (n := 63) (k := 5) (x := "script") (CX := L2.CX0) rfl (by decide) (by kernel_rfl) ⟨rfl, by decide, by decide⟩ ?F (fun _ _ _ _ z => z)
    intro w mg fa h Y G hmg0
    obtain ⟨K, KX, c⟩ := Y
    have hmg : mg ("law" : PySem.Str) = some (.ref fa) := by
      have e : (HandSHeadRun.topDef (OpenLaw.row PySem.Challenge.rw_anychance_k01_errors_made).prog 45).name = ("law" : PySem.Str) := by kernel_rfl
      rw [← e]
      exact hmg0
    obtain ⟨fd, hb, hF⟩ := K1.facts (w := w) KX G hmg c
    exact ⟨K, fd, K1.spLaw K, KX, hb, fun H a ns hl _ hS => ⟨a, ns, rfl, hS, hl, fun _ => rfl⟩, hF⟩
