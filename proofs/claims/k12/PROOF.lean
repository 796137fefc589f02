import PyProof.Rows.All
import Wide.All
import OpenK.AllK
import Wide.FinOn
import HandS.ForMost
import HandS.ForExc
import HandS.Lambda
import HandS.Property
import HandS.CallSlots
import HandS.EndTab
import HandS.Defaults
import KE.DataEq
import KE.DataCmp
import HandS.Style
import HandS.IsInst
import HandS.Text
import HandS.Steps
import HandS.Comp
import HandS.Iter
import HandS.WordsDict
import KE.KSortedM
import HandS.WordsExc
import HandS.Star
import HandS.FStr
import PyProof.InstNe
import PyProof.InstSpecial
import PyProof.FactsAll.object_2
import HandS.ExcInit
import HandS.TryMany
import HandS.ExcField
import KE.KExcInit
import PyProof.ExcBaseAll.LookupError
import PyProof.ExcBaseAll.RuntimeError
import PyProof.ExcBaseAll.OverflowError
import PyProof.ExcBaseAll.ValueError
import PyProof.ZipIter
import PyProof.Rows.CallKwBuiltin
import HandS.Nested
import HandS.EndOwn
import KE.KNestM
import HandS.Conv
import HandS.Dict
import HandS.DictComp
import HandS.Small
import KE.SortData
import KE.GoesEnum
import HandS.SortKw
import HandS.TupMul
import HandS.TupSets
import PyProof.ReprRoads
import PyProof.SumAny
import HandS.ExcValue
import HandS.SetFor
import HandS.TupAny
import KE.KExcIs
import PySem.Challenge.RW_fullestfirst_k12_change_logs
set_option Elab.async false
set_option linter.all false
set_option maxRecDepth 100000
/-! DG: the contracts of defs once more, with what is known of the guards of repr: none stands around. -/
namespace DL
open PySem PySem.Spec PyProof.Rows L2
structure Room (k : Nat) (A : Around) : Prop extends L2.Room k A where
  gd : A.guards = some []
section
variable {j k : Nat} {A : Around}
theorem Room.mono (r : Room k A) (h : j ≤ k) : Room j A := ⟨r.toRoom.mono h, r.gd⟩
theorem Room.deeper (r : Room (k + 1) A) (env : Env) : Room k (A.deeper env) := ⟨r.toRoom.deeper env, r.gd⟩
theorem Room.in1 (r : Room (k + 1) A) : Room k A.in1 := ⟨r.toRoom.in1, r.gd⟩
theorem Room.make (r : Room (k + 1) A) (C : Addr) (us : List Value) (kw : List (Str × Value)) : Room k (A.under (.builtin "type.__call__" ⟨.ref C :: us, kw⟩)) := ⟨r.toRoom.make C us kw, by
  rw [show (A.under (Code.builtin "type.__call__" ⟨.ref C :: us, kw⟩)).guards = pushGuards (Code.builtin "type.__call__" ⟨.ref C :: us, kw⟩).guards A.guards from rfl, r.gd]
  rfl⟩
end
structure FnOk (P : Program) (w : World) (K : PySem.W.Frag) (mg : Str → Option Value) (base : Heap) (cx : CXT) (k : Nat) (f : Addr) (fd : FuncData) (ps : List Str) (sp : Sp) : Prop where
  len : ∀ vs H Q E, sp vs H Q E → vs.length = ps.length
  run : ∀ (A : Around) (outer : List Env) (s : Shared) (H : Hp) (args : Args) (us : List Value) (vs : List V) (Q : VK) (E : XK), Room k A → Env0 P w K mg base A outer s H → BindsTo s fd args (ps.zip us) → Vals vs us → sp vs H Q E → codeAny (model P w) A (.call (.ref f) args) (CR cx outer P w H s Q E) s
def FnR (P : Program) (w : World) (K : PySem.W.Frag) (mg : Str → Option Value) (base : Heap) (cx : CXT) (k : Nat) (f : Addr) (sp : Sp) : Prop :=
  ∀ (A : Around) (outer : List Env) (s : Shared) (H : Hp) (us : List Value) (vs : List V) (Q : VK) (E : XK), Room k A → Env0 P w K mg base A outer s H → Vals vs us → sp vs H Q E → codeAny (model P w) A (.call (.ref f) ⟨us, []⟩) (CR cx outer P w H s Q E) s
section
variable {P : Program} {w : World} {K : PySem.W.Frag} {mg : Str → Option Value} {base : Heap} {cx : CXT} {j k : Nat} {f : Addr} {fd : FuncData} {ps : List Str} {sp sp' : Sp}
theorem FnOk.mono (F : FnOk P w K mg base cx j f fd ps sp) (h : j ≤ k) : FnOk P w K mg base cx k f fd ps sp := ⟨F.len, fun A o s H ar us vs Q E r => F.run A o s H ar us vs Q E (r.mono h)⟩
theorem FnOk.imp (F : FnOk P w K mg base cx k f fd ps sp) (h : ∀ vs H Q E, sp' vs H Q E → sp vs H Q E) : FnOk P w K mg base cx k f fd ps sp' := ⟨fun vs H Q E q => F.len vs H Q E (h _ _ _ _ q), fun A o s H ar us vs Q E r e b v q => F.run A o s H ar us vs Q E r e b v (h _ _ _ _ q)⟩
theorem FnR.mono (F : FnR P w K mg base cx j f sp) (h : j ≤ k) : FnR P w K mg base cx k f sp := fun A o s H us vs Q E r => F A o s H us vs Q E (r.mono h)
theorem FnOk.raw {ds : List Value} {dvs : List V} (F : FnOk P w K mg base cx k f fd ps sp) (hb : Binds K fd ps ds) (hd : Vals dvs ds) : FnR P w K mg base cx k f (fun vs H Q E => sp (vs ++ dvs) H Q E) := fun A o s H us vs Q E r e v q => by
  have v2 := Vals.append v hd
  have KX : K.In s.heap := e.mod.kin.keeps fun b u z => (e.bs b u z).1
  exact F.run A o s H ⟨us, []⟩ _ _ Q E r e (hb s us KX (v2.length.symm.trans (F.len _ _ _ _ q))) v2 q
end
/-- a def by its body -/
theorem fn_of {P : Program} {w : World} {K : PySem.W.Frag} {mg : Str → Option Value} {base : Heap} {cx : CXT} {k : Nat} {f : Addr} {name qual : Str} {params : Arguments} {body : List Stmt} {scope : Scope} {dV kV doc pm cdv ct oc : Value} {an od : Option Addr} {osl : Array (Option Value)} {N ps : List Str} {sp : Sp}
    (lk : K.lookup f = some ⟨oc, od, .func (PySem.W.fnOf name qual params body scope dV kV doc pm an cdv ct), osl⟩) (hcd : PySem.W.codeIn K cdv qual = true) (S : FnScope N ps scope) (len : ∀ vs H Q E, sp vs H Q E → vs.length = ps.length)
    (hbody : ∀ (A : Around) (o : List Env) (s : Shared) (H : Hp) (vs : List V) (Q : VK) (E : XK), Room k (A.deeper (envOfC qual scope s.heap.objs.size f cdv)) → sp vs H Q E → ∃ t, PSs (cxOf cx P w K mg base N qual scope f cdv A o s H E) body t ∧ t { nx := fun _ H' => Q .non H', rt := Q } (L2.start N vs) H) :
    FnOk P w K mg base cx (k + 1) f (PySem.W.fnOf name qual params body scope dV kV doc pm an cdv ct) ps sp where
  len := len
  run := fun A o s H ar us vs Q E r e b v q => by
    have ll := len _ _ _ _ q
    have old : ∀ c u, base.get? c = some u → s.heap.get? c = some u := fun c u z => (e.bs c u z).1
    refine codeAny_call_function r.toRoom.depth (e.mod.kin.keeps old _ _ lk) rfl S.co S.gen rfl (PySem.W.codeRec_of (e.mod.kin.keeps old) hcd) (b _ _ _ _ (wpAny_newFunctionEnv_cells S.kind (fun y hy => ?_) fun env he s1 x => ?_))
    · rcases S.par y.1 (List.of_mem_zip (show (y.1, y.2) ∈ ps.zip us from hy)).1 with z | z
      · exact Or.inl z
      · exact Or.inr ⟨z, PySem.W.cellsFrom_some _ _ _ (Or.inl z)⟩
    · cases he
      obtain ⟨t, ht, hq⟩ := hbody A o s H vs Q E (r.deeper _) q
      refine ⟨(e.mod.nolimit.keeps old).keeps x.toInCall.keep, codeAny_func (wpAny_mono (ht.run [] s1 (L2.start N vs) H _ (inv_start S r.toRoom.hd e ll v x) hq) (fun fl s' z => ?_) fun _ _ z => z)⟩
      match fl, z with
      | .ret u, ⟨v', σ', H', J, rv, q'⟩ => exact ⟨v', H', J.os, J.bare, J.base, J.hok, rv, q'⟩
      | .next, ⟨σ', H', J, q'⟩ => exact ⟨V.non, H', J.os, J.bare, J.base, J.hok, rfl, q'⟩
      | .brk, ⟨_, _, _, q'⟩ => exact q'.elim
      | .cont, ⟨_, _, _, q'⟩ => exact q'.elim
theorem okG {P : Program} {w : World} {K : PySem.W.Frag} {mg : Str → Option Value} {base : Heap} {x qual : Str} {params : Arguments} {body : List Stmt} {scope : Scope} {dvs : List V} {kws : List (Str × V)} {f : Addr} {fd : FuncData} {cx : CXT} {N ps : List Str} {k : Nat} {sp : Sp} (F : FunD K x qual params body scope dvs kws f fd) (S : FnScope N ps scope) (len : ∀ vs H Q E, sp vs H Q E → vs.length = ps.length)
    (hbody : ∀ (cdv : Value) (A : Around) (o : List Env) (s : Shared) (H : Hp) (vs : List V) (Q : VK) (E : XK), Room k (A.deeper (envOfC qual scope s.heap.objs.size f cdv)) → sp vs H Q E → ∃ t, PSs (cxOf cx P w K mg base N qual scope f cdv A o s H E) body t ∧ t { nx := fun _ H' => Q .non H', rt := Q } (L2.start N vs) H) :
    FnOk P w K mg base cx (k + 1) f fd ps sp := by
  obtain ⟨_, _, _, _, _, _, _, cdv, _, _, rfl, lk, hcd, _⟩ := F.ex
  exact fn_of lk hcd S len (hbody cdv)
section
variable {X : Cx} {cx : CXT} {k : Nat} {f : Addr} {fd : FuncData} {ps : List Str} {sp : Sp} {dvs : List V} {ds : List Value} {x : Str} {p pos : Pos} {e : Expr} {es : List Expr} {t : TA}
theorem run_fnSD {E : XK} {pins : List (Addr × Obj)} {σ : L2.St} {H : Hp} {s : Shared} {Q : VK} {us : List Value} {vs : List V} (F : FnOk X.prog X.w X.K X.mg X.base cx k f fd ps sp) (hr : Room k X.A) (hb : Binds X.K fd ps ds) (hd : Vals dvs ds) (hx : PassesAt cx X σ E) (I : Inv X pins σ H s) (r : Vals vs us) (h : sp (vs ++ dvs) H Q E) :
    wpAny (model X.prog X.w) X.A (call (.ref f) us) (EP X pins σ Q) X.xe s := wpAny_call (codeAny_mono (F.raw hb hd X.A X.stack s H us vs Q E hr I.env0 r h) fun
  | .error er, s', z => hx pins H s er s' I z
  | .ok (.ret u), s', z => I.after z
  | .ok .next, s', z => z.elim
  | .ok .brk, s', z => z.elim
  | .ok .cont, s', z => z.elim)
theorem pe_callSD {E : L2.St → XK} (F : FnOk X.prog X.w X.K X.mg X.base cx k f fd ps sp) (hr : Room k X.A) (hg : Gl X x) (hm : X.mg x = some (.ref f)) (hk : PySem.W.keepIn X.K (.ref f) = true) (hb : Binds X.K fd ps ds) (hd : Vals dvs ds) (hx : ∀ σ, PassesAt cx X σ (E σ)) (ha : PA X (e :: es) t)
    (hdb : (x == ("__debug__" : Str)) = false := by decide) (he : starEach (e :: es) X.env = (false, eval e X.env) :: starEach es X.env := by rfl) (hpl : (backTo pos (starEach es X.env)).any (·.1) = false := by rfl) : PE X (.Call (.Name x p) (e :: es) [] pos) (tCallSD sp dvs E t) :=
  ⟨fun pins s σ H Q I h => wpAny_Call_Name_kw (ld_glob I hg hm (PySem.W.callWith_K (h₀ := X.base) I.ok.mod.kin hk (thn (ha.run pos pins s σ H _ I h) fun us s1 ⟨vs, H1, I1, r, q⟩ => ⟨I1.kIn, run_fnSD F hr hb hd (hx σ) I1 r q⟩) he hpl) hdb)⟩
/-- a property's value -/
theorem getprop_ok {C p0 g a dx : Addr} {fs : List (Str × V)} {nm : Str} {E : XK} {pins : List (Addr × Obj)} {σ : L2.St} {H : Hp} {s : Shared} {Q : VK} {b : Bool} {E' : Value → Shared → Prop} (I : Inv X pins σ H s) (ea : H a = some (.ins C dx fs)) (c : Cls X.K C) (hp : PropOf X.K C nm p0 g) (F : FnOk X.prog X.w X.K X.mg X.base cx k g fd ps sp) (hr : Room (k + 1) X.A) (hb : Binds X.K fd ps ds) (hd : Vals dvs ds) (hx : Passes cx X.nox E) (h : sp (.ref a :: dvs) H Q E) :
    wpAny (model X.prog X.w) X.A (getAttr (.ref a) nm b) (EP X pins σ Q) E' s := by
  have lk := (ins_get I.hok ea).choose_spec.1.look.choose_spec.1
  obtain ⟨rest, hrec⟩ := hp.rec_
  obtain ⟨cd, hc, _⟩ := PySem.W.any_some c.hd
  have hc' : (PySem.W.clsIn X.K C).isSome = true := by rw [hc]; rfl
  have J := I.tok (s.toks + 1)
  have pg := PySem.W.plainGet_of (c.get nm)
  refine PySem.W.get_bind I.kIn lk pg.1 (PySem.W.findObj_data hc' hp.at_ hp.get hp.tak) pg.2 (wpAny_call (PySem.W.prop_get (s := { s with toks := s.toks + 1 }) I.kIn hrec (codeAny_mono (F.raw hb hd X.A.in1 X.stack { s with toks := s.toks + 1 } H [.ref a] [.ref a] Q E hr.in1 J.env0.in1 (.cons rfl .nil) h) fun r s' z => ?_)))
  match r, z with
  | .error er, z => exact (hx pins σ H { s with toks := s.toks + 1 } er s' (J.wish _) z).elim
  | .ok .next, z => exact z.elim
  | .ok .brk, z => exact z.elim
  | .ok .cont, z => exact z.elim
  | .ok (.ret u), z =>
    obtain ⟨v, H', J2, rv, q⟩ := J.after z
    show wpAny _ _ (handedOut u) _ _ _
    rw [PySem.W.handedOut_of (handed_of rv)]
    exact wpAny_pure ⟨v, H', J2, rv, q⟩
theorem pe_prop {C p0 g : Addr} {nm : Str} {E : XK} {ta : TE} (he : PE X e ta) (c : Cls X.K C) (hp : PropOf X.K C nm p0 g) (F : FnOk X.prog X.w X.K X.mg X.base cx k g fd ps sp) (hr : Room (k + 1) X.A) (hb : Binds X.K fd ps ds) (hd : Vals dvs ds) (hx : Passes cx X.nox E) (hab : attributeBase e nm X.env (eval e X.env) = eval e X.env) : PE X (.Attribute e nm pos) (tProp C sp dvs E ta) :=
  ⟨fun pins s σ H Q I h => attr_of hab (thn (he.run pins s σ H _ I h) fun u s1 ⟨v, H1, I1, rv, a, dx, fs, ev, ea, q⟩ => by
    cases ev
    cases rv
    exact getprop_ok I1 ea c hp F hr hb hd hx q)⟩
end
end DL
set_option maxHeartbeats 2000000
namespace DL
open PySem PySem.Spec PyProof.Rows L2 LamX
section
variable {cs : List (Addr × Addr)} {a : Addr} {fr : Prop} [Decidable fr] {ob : Obj} {lv : List V}
/-- what a law's call starts with: the tables, and its script (if it isn't a constant) -/
def H00 (cs : List (Addr × Addr)) (a : Addr) (fr : Prop) [Decidable fr] (ob : Obj) (lv : List V) : Hp := fun b => if b ∈ cs.map (·.2) then some (.tbl #[]) else if b = a ∧ fr then some (.frz ob (.lst lv)) else none
theorem H00_tab {b : Addr} (h : b ∈ cs.map (·.2)) : H00 cs a fr ob lv b = some (.tbl #[]) := by unfold H00; rw [if_pos h]
theorem H00_own (h : a ∉ cs.map (·.2)) (f : fr) : H00 cs a fr ob lv a = some (.frz ob (.lst lv)) := by unfold H00; rw [if_neg h, if_pos ⟨rfl, f⟩]
theorem H00_cases (b : Addr) : (b ∈ cs.map (·.2) ∧ H00 cs a fr ob lv b = some (.tbl #[])) ∨ (b = a ∧ fr ∧ b ∉ cs.map (·.2) ∧ H00 cs a fr ob lv b = some (.frz ob (.lst lv))) ∨ H00 cs a fr ob lv b = none := by
  by_cases h : b ∈ cs.map (·.2)
  · exact Or.inl ⟨h, H00_tab h⟩
  · by_cases k : b = a ∧ fr
    · exact Or.inr (Or.inl ⟨k.1, k.2, h, by unfold H00; rw [if_neg h, if_pos k]⟩)
    · exact Or.inr (Or.inr (by unfold H00; rw [if_neg h, if_neg k]))
end
open Classical in
theorem law_callTs {P : Program} {w : World} {K : PySem.W.Frag} {mg mb : Str → Option Value} {cx : CXT} {k : Nat} {fa a : Addr} {cs : List (Addr × Addr)} {fd : FuncData} {x : Str} {sp : Sp} {s₁ : Shared} {vs : List Value} {ns : List Int}
    (KX : K.In s₁.heap) (hns : s₁.heap.Ns mainGlobals mg) (hb : s₁.heap.Ns builtinsNs mb) (hbb : ∀ y : Str, y ≠ "__name__" → mb y = bootBuiltins y) (hlim : s₁.heap.NoLimit) (hg : s₁.gens = #[]) (hT : ∀ p ∈ cs, s₁.heap.get? p.2 = some { cls := .none, data := .fields #[] }) (nT : ∀ p ∈ cs, K.lookup p.2 = none) (C : ∀ p ∈ cs, PySem.W.CodeHd s₁.heap p.1 p.2)
    (hbm : ∃ (bm : Addr) (o : Obj), mg "__builtins__" = some (.ref bm) ∧ bm ≠ builtinsNs ∧ s₁.heap.get? bm = some o ∧ o.cls = .type "module" ∧ o.dict = some builtinsNs ∧ o.data = .plain) (ha : s₁.heap.get? a = some { cls := .type "list", data := .seq vs.toArray }) (hi : IntsAre vs ns) (hl : ns.length ≤ sizeLine) (hr : Room k callerA)
    (F : ∀ base : Heap, K.In base → base.Ns mainGlobals mg → (∀ p ∈ cs, TabB base mg p.1 p.2) → FnOk P w K mg base cx k fa fd [x] sp) (hbind : ∀ (s : Shared) (u : Value), BindsTo s fd ⟨[u], []⟩ [(x, u)]) (hsp : ∀ H : Hp, (∀ p ∈ cs, H p.2 = some (.tbl #[])) → SqL K H a (ns.map V.int) → sp [.ref a] H (fun v _ => v = .bl true) fun _ _ _ => False)
    (hcx : ∀ H e s', cx [] H s₁ (fun _ _ _ => False) e s' → False) : codeAny (model P w) callerA (.call (.ref fa) ⟨[.ref a], []⟩) (fun r s' => r = .ok (.ret (.bool true)) ∧ OldK s₁.heap s'.heap ∧ s'.os = s₁.os ∧ AllBare s'.gens) s₁ := by
  have rv := vals_ints hi
  have tb : ∀ b ∈ cs.map (·.2), s₁.heap.get? b = some { cls := .none, data := .fields #[] } := fun b h => by
    obtain ⟨p, hp, rfl⟩ := List.mem_map.mp h
    exact hT p hp
  have tm : ∀ p ∈ cs, p.2 ∈ cs.map (·.2) := fun p hp => List.mem_map_of_mem hp
  have na : a ∉ cs.map (·.2) := fun z => by
    have q := (tb a z).symm.trans ha
    cases q
  obtain ⟨H, hH⟩ : ∃ H, H = H00 cs a (K.lookup a = none) { cls := .type "list", data := .seq vs.toArray } (ns.map V.int) := ⟨_, rfl⟩
  have hc : ∀ b, (b ∈ cs.map (·.2) ∧ H b = some (.tbl #[])) ∨ (b = a ∧ K.lookup a = none ∧ b ∉ cs.map (·.2) ∧ H b = some (.frz { cls := .type "list", data := .seq vs.toArray } (.lst (ns.map V.int)))) ∨ H b = none := fun b => by rw [hH]; exact H00_cases b
  have ht : ∀ p ∈ cs, H p.2 = some (.tbl #[]) := fun p hp => by rw [hH]; exact H00_tab (tm p hp)
  -- what holds no list and no fields is not tracked
  have free : ∀ {b : Addr} {o : Obj}, s₁.heap.get? b = some o → (∀ us n, o.data ≠ .seq us n) → o.data ≠ .fields #[] → H b = none := fun {b o} e h1 h2 => by
    rcases hc b with ⟨m, _⟩ | ⟨rfl, _, _, _⟩ | z
    · exact absurd (congrArg Obj.data (Option.some.inj (e.symm.trans (tb b m)))) h2
    · exact absurd (congrArg Obj.data (Option.some.inj (e.symm.trans ha))) (h1 _ _)
    · exact z
  have keep : ∀ {b : Addr} {o : Obj}, s₁.heap.get? b = some o → (∀ us n, o.data ≠ .seq us n) → o.data ≠ .fields #[] → (hidT s₁.heap H).get? b = some o := fun e h1 h2 => hidT_get e (free e h1 h2)
  have nsd : ∀ {b : Addr} {m : Str → Option Value}, s₁.heap.Ns b m → (hidT s₁.heap H).Ns b m := fun ⟨o, es, ep, e, d, r⟩ => ⟨o, es, ep, keep e (fun us n z => by rw [d] at z; cases z) (fun z => by rw [d] at z; cases z), d, r⟩
  have KB : K.In (hidT s₁.heap H) := fun b o e => hidT_get (KX b o e) (by
    rcases hc b with ⟨m, _⟩ | ⟨rfl, z, _, _⟩ | z
    · obtain ⟨p, hp, rfl⟩ := List.mem_map.mp m
      rw [nT p hp] at e
      cases e
    · rw [z] at e
      cases e
    · exact z)
  have hseq : SqL K H a (ns.map V.int) := by
    cases hk : K.lookup a with
    | none => exact Or.inl (Or.inr ⟨{ cls := .type "list", data := .seq vs.toArray }, by rw [hH]; exact H00_own na hk⟩)
    | some o =>
      cases ha.symm.trans (KX a o hk)
      exact Or.inr ⟨_, vs.toArray, _, hk, rfl, rfl, rfl, by rw [List.size_toArray, hi.length]; exact hl, by simpa using rv⟩
  have hok : HOk P w H s₁.heap := fun b u z => by
    rcases hc b with ⟨m, e⟩ | ⟨rfl, _, _, e⟩ | e
    · cases z.symm.trans e
      exact tb b m
    · cases z.symm.trans e
      exact ⟨ha, by rw [List.length_map]; exact hl, vs, _, rv, ha⟩
    · cases z.symm.trans e
  have TBs : ∀ p ∈ cs, TabB (hidT s₁.heap H) mg p.1 p.2 := fun p hp => by
    obtain ⟨bm, o, b1, b2, b3, b4, b5, b6⟩ := hbm
    obtain ⟨oc, us, file, tf, flags, tg, inF, text, tt, e1, r1, r2, r3, rest⟩ := C p hp
    refine ⟨⟨oc, us, file, tf, flags, tg, inF, text, tt, keep e1 (fun us' n z => by rw [r2] at z; cases z) (fun z => by rw [r2] at z; cases z; simp at r3), r1, r2, r3, rest⟩, ⟨bm, o, b1, b2, fun q => ?_, fun q => ?_, keep b3 (fun us' n z => by rw [b6] at z; cases z) (fun z => by rw [b6] at z; cases z), b4, b5, b6⟩, fun z => ?_⟩
    · obtain ⟨o', es, ep, e, hd, _⟩ := hns
      rw [q, e] at b3
      cases b3
      cases b6.symm.trans hd
    · rw [q, hT p hp] at b3
      cases b3
      cases b6
    · obtain ⟨o', es, ep, e, hd, _⟩ := hns
      rw [z, hT p hp] at e
      cases e
      cases hd
  obtain ⟨lm, li1, li2⟩ := hlim
  have E0 : Env0 P w K mg (hidT s₁.heap H) callerA [] s₁ H := ⟨rfl, ⟨KB, nsd hns, ⟨mb, nsd hb, hbb⟩, ⟨lm, nsd li1, li2⟩⟩, fun b o e => of_hidT e, Nat.le_of_eq (hidT_size _ _), trivial, fun b m => (by cases m), hok, .of_eq hg⟩
  refine codeAny_mono ((F _ KB (nsd hns) TBs).run callerA [] s₁ H ⟨[.ref a], []⟩ [.ref a] [.ref a] _ _ hr E0 (hbind s₁ (.ref a)) (.cons rfl .nil) (hsp H ht hseq)) fun r s' z => ?_
  match r, z with
  | .error e, z => exact (hcx H e s' z).elim
  | .ok .next, z => exact z.elim
  | .ok .brk, z => exact z.elim
  | .ok .cont, z => exact z.elim
  | .ok (.ret u), ⟨v, H', os, bare, un, hok', r', (q : v = .bl true)⟩ =>
    subst q
    cases (show u = Value.bool true from r')
    have stay : ∀ b o, b ∉ cs.map (·.2) → s₁.heap.get? b = some o → s'.heap.get? b = some o := fun b o n e => by
      rcases hc b with ⟨m, _⟩ | ⟨_, _, _, z⟩ | z
      · exact absurd m n
      · have z2 := un.frzs b _ _ z
        obtain ⟨e1, _⟩ := hok b _ z
        obtain ⟨e2, _⟩ := hok' b _ z2
        cases e.symm.trans e1
        exact e2
      · exact un.keep b o e z (fun m => by cases m) (by simp)
    have more : ∀ p ∈ cs, ∃ us : Array Value, s'.heap.get? p.2 = some { cls := .none, data := .fields us } := fun p hp => by
      obtain ⟨us, z⟩ := un.tbls p.2 #[] (ht p hp)
      exact ⟨_, hok' p.2 _ z⟩
    refine ⟨rfl, ⟨fun b o e => ?_, fun b o e => ?_⟩, os, bare⟩
    · by_cases m : b ∈ cs.map (·.2)
      · obtain ⟨p, hp, rfl⟩ := List.mem_map.mp m
        obtain ⟨us, hu⟩ := more p hp
        cases e.symm.trans (hT p hp)
        exact Or.inr (Or.inl ⟨((C p hp).tab (hT p hp)).isCodeTable, rfl, #[], us, rfl, by rw [Array.empty_append]; exact hu⟩)
      · exact Or.inl (stay b o m e)
    · by_cases m : b ∈ cs.map (·.2)
      · obtain ⟨p, hp, rfl⟩ := List.mem_map.mp m
        obtain ⟨us, hu⟩ := more p hp
        exact ⟨_, hu⟩
      · exact ⟨o, stay b o m e⟩
end DL
/-! DL: a data layer over HandS. Plain data D (trees), what it means that a value stands for data (Rep), slots that hold data, shared or owned (Sync), and the primitive steps. -/
namespace DL
open PySem L2
/-! ### data -/
inductive D where
  | non | bl (b : Bool) | int (i : Int) | str (x : Str) | ty (n : String) | rf (a : Addr)
  | lst (xs : List D) | tup (xs : List D)
  | kl (xs : List D)
  | dK (kvs : List (Key × D)) | dT (kvs : List (List Key × D))
  | obj (C : Addr) (fs : List (Str × D))
  | box (d : D)
  | clo (id : Nat)
/-- an exception of one's own: its class, its attributes -/
structure Exc where
  cls : Value
  fs : List (Str × D)
/-- a lambda's text, and the cells that it captures -/
structure LamT where
  q : Str
  params : Arguments
  body : Expr
  scope : Scope
  cl : List (Str × Addr)
/-- the lambdas that may be met, by their numbers -/
class LC where
  lam : Nat → Option LamT
/-- the object at f is such a lambda -/
def LamO (L : LamT) (f c' : Addr) : HO := .ext fun h => ∃ (pm ct : Value), h.get? f = some (PySem.W.kla_obj "<lambda>" L.q L.params L.body L.scope L.cl pm c' ct)
variable [LC]
mutual
inductive Rep (K : PySem.W.Frag) (G : Hp) : D → V → Prop
  | non : Rep K G .non .non
  | bl (b : Bool) : Rep K G (.bl b) (.bl b)
  | int (i : Int) : Rep K G (.int i) (.int i)
  | str (x : Str) : Rep K G (.str x) (.str x)
  | ty (n : String) : Rep K G (.ty n) (.ty n)
  | rf (a : Addr) : Rep K G (.rf a) (.ref a)
  | lst {a : Addr} {vs : List V} {ds : List D} : G a = some (.lst vs) → RepA K G ds vs → Rep K G (.lst ds) (.ref a)
  | kl {a : Addr} {vs : List V} {ds : List D} : SqL K G a vs → RepA K G ds vs → Rep K G (.kl ds) (.ref a)
  | tup {a : Addr} {vs : List V} {ds : List D} : SqT K G a vs → RepA K G ds vs → Rep K G (.tup ds) (.ref a)
  | dK {a : Addr} {kv : List (Key × V)} {kd : List (Key × D)} : Rd G a (.dK kv) → kv.map (·.1) = kd.map (·.1) → RepA K G (kd.map (·.2)) (kv.map (·.2)) → Rep K G (.dK kd) (.ref a)
  | dT {a : Addr} {kv : List (List Key × V)} {kd : List (List Key × D)} : Rd G a (.dT kv) → kv.map (·.1) = kd.map (·.1) → RepA K G (kd.map (·.2)) (kv.map (·.2)) → Rep K G (.dT kd) (.ref a)
  | obj {a C dx : Addr} {fv : List (Str × V)} {fd : List (Str × D)} : G a = some (.ins C dx fv) → fv.map (·.1) = fd.map (·.1) → RepA K G (fd.map (·.2)) (fv.map (·.2)) → Rep K G (.obj C fd) (.ref a)
  | clo {id : Nat} {L : LamT} {f c' : Addr} : LC.lam id = some L → G f = some (LamO L f c') → G c' = some (LamX.CodeO c' L.q) → Rep K G (.clo id) (.ref f)
inductive RepA (K : PySem.W.Frag) (G : Hp) : List D → List V → Prop
  | nil : RepA K G [] []
  | cons {d : D} {v : V} {ds : List D} {vs : List V} : Rep K G d v → RepA K G ds vs → RepA K G (d :: ds) (v :: vs)
end
/-- an object that stands for data, its parts shared -/
inductive OR (K : PySem.W.Frag) (G : Hp) : HO → D → Prop
  | lst {vs : List V} {ds : List D} : RepA K G ds vs → OR K G (.lst vs) (.lst ds)
  | tup {vs : List V} {ds : List D} : RepA K G ds vs → OR K G (.tup vs) (.tup ds)
  | dK {kv : List (Key × V)} {kd : List (Key × D)} : kv.map (·.1) = kd.map (·.1) → RepA K G (kd.map (·.2)) (kv.map (·.2)) → OR K G (.dK kv) (.dK kd)
  | dT {kv : List (List Key × V)} {kd : List (List Key × D)} : kv.map (·.1) = kd.map (·.1) → RepA K G (kd.map (·.2)) (kv.map (·.2)) → OR K G (.dT kv) (.dT kd)
  | obj {C dx : Addr} {fv : List (Str × V)} {fd : List (Str × D)} : fv.map (·.1) = fd.map (·.1) → RepA K G (fd.map (·.2)) (fv.map (·.2)) → OR K G (.ins C dx fv) (.obj C fd)
section
variable {K : PySem.W.Frag} {G G' : Hp}
theorem sqT_mono {a : Addr} {xs : List V} (e : Same G G') (h : SqT K G a xs) : SqT K G' a xs := by
  rcases h with (h | ⟨o, h⟩) | h
  · exact .inl (.inl (e a _ h))
  · exact .inl (.inr ⟨o, e a _ h⟩)
  · exact .inr h
theorem rd_mono {a : Addr} {u : HO} (e : Same G G') (h : Rd G a u) : Rd G' a u := by
  rcases h with h | ⟨o, h⟩
  · exact .inl (e a _ h)
  · exact .inr ⟨o, e a _ h⟩
mutual
theorem Rep.mono (e : Same G G') : ∀ {d : D} {v : V}, Rep K G d v → Rep K G' d v
  | _, _, .non => .non
  | _, _, .bl b => .bl b
  | _, _, .int i => .int i
  | _, _, .str x => .str x
  | _, _, .ty n => .ty n
  | _, _, .rf a => .rf a
  | _, _, .lst h r => .lst (e _ _ h) (RepA.mono e r)
  | _, _, .kl h r => .kl (e.seq h) (RepA.mono e r)
  | _, _, .tup h r => .tup (sqT_mono e h) (RepA.mono e r)
  | _, _, .dK h k r => .dK (rd_mono e h) k (RepA.mono e r)
  | _, _, .dT h k r => .dT (rd_mono e h) k (RepA.mono e r)
  | _, _, .obj h k r => .obj (e _ _ h) k (RepA.mono e r)
  | _, _, .clo l h k => .clo l (e _ _ h) (e _ _ k)
theorem RepA.mono (e : Same G G') : ∀ {ds : List D} {vs : List V}, RepA K G ds vs → RepA K G' ds vs
  | _, _, .nil => .nil
  | _, _, .cons h t => .cons (Rep.mono e h) (RepA.mono e t)
end
theorem OR.mono (e : Same G G') {o : HO} {d : D} (h : OR K G o d) : OR K G' o d := by
  cases h with
  | lst r => exact .lst (r.mono e)
  | tup r => exact .tup (r.mono e)
  | dK k r => exact .dK k (r.mono e)
  | dT k r => exact .dT k (r.mono e)
  | obj k r => exact .obj k (r.mono e)
theorem OR.rep {o : HO} {d : D} {a : Addr} (h : OR K G o d) (e : G a = some o) : Rep K G d (.ref a) := by
  cases h with
  | lst r => exact .lst e r
  | tup r => exact .tup (.inl (.inl e)) r
  | dK k r => exact .dK (.inl e) k r
  | dT k r => exact .dT (.inl e) k r
  | obj k r => exact .obj e k r
theorem RepA.length : ∀ {ds : List D} {vs : List V}, RepA K G ds vs → ds.length = vs.length
  | _, _, .nil => rfl
  | _, _, .cons _ t => congrArg (· + 1) (RepA.length t)
theorem RepA.get : ∀ {ds : List D} {vs : List V} {i : Nat} {d : D}, RepA K G ds vs → ds[i]? = some d → ∃ v, vs[i]? = some v ∧ Rep K G d v
  | _, _, _, _, .nil, e => by simp at e
  | _, _, 0, _, .cons h _, e => by simp at e; subst e; exact ⟨_, rfl, h⟩
  | _, _, i + 1, d, .cons _ t, e => by
    obtain ⟨v, h1, h2⟩ := RepA.get (i := i) (d := d) t (by simpa using e)
    exact ⟨v, by simpa using h1, h2⟩
theorem RepA.append : ∀ {ds es : List D} {vs us : List V}, RepA K G ds vs → RepA K G es us → RepA K G (ds ++ es) (vs ++ us)
  | _, _, _, _, .nil, s => s
  | _, _, _, _, .cons r t, s => .cons r (RepA.append t s)
theorem RepA.take : ∀ {ds : List D} {vs : List V} (n : Nat), RepA K G ds vs → RepA K G (ds.take n) (vs.take n)
  | _, _, 0, _ => .nil
  | _, _, _ + 1, .nil => .nil
  | _, _, n + 1, .cons r t => .cons r (RepA.take n t)
theorem RepA.drop : ∀ {ds : List D} {vs : List V} (n : Nat), RepA K G ds vs → RepA K G (ds.drop n) (vs.drop n)
  | _, _, 0, r => r
  | _, _, _ + 1, .nil => .nil
  | _, _, n + 1, .cons _ t => RepA.drop n t
theorem RepA.set {d : D} {v : V} (r : Rep K G d v) : ∀ {ds : List D} {vs : List V} (i : Nat), RepA K G ds vs → RepA K G (ds.set i d) (vs.set i v)
  | _, _, _, .nil => .nil
  | _, _, 0, .cons _ t => .cons r t
  | _, _, i + 1, .cons q t => .cons q (RepA.set r i t)
theorem RepA.reverse {ds : List D} {vs : List V} (h : RepA K G ds vs) : RepA K G ds.reverse vs.reverse := by
  induction ds generalizing vs with
  | nil => cases h; exact .nil
  | cons d ds ih =>
    cases h with
    | cons r t => rw [List.reverse_cons, List.reverse_cons]; exact (ih t).append (.cons r .nil)
theorem RepA.eraseIdx : ∀ {ds : List D} {vs : List V} (i : Nat), RepA K G ds vs → RepA K G (ds.eraseIdx i) (vs.eraseIdx i)
  | _, _, _, .nil => .nil
  | _, _, 0, .cons _ t => t
  | _, _, i + 1, .cons q t => .cons q (RepA.eraseIdx i t)
theorem RepA.ints : ∀ {ns : List Int} {vs : List V}, RepA K G (ns.map D.int) vs → vs = ns.map V.int
  | [], _, .nil => rfl
  | n :: ns, _, .cons h t => by cases h; rw [RepA.ints (ns := ns) t]; rfl
theorem RepA.bls : ∀ {ns : List Bool} {vs : List V}, RepA K G (ns.map D.bl) vs → vs = ns.map V.bl
  | [], _, .nil => rfl
  | n :: ns, _, .cons h t => by cases h; rw [RepA.bls (ns := ns) t]; rfl
theorem RepA.strs : ∀ {ns : List Str} {vs : List V}, RepA K G (ns.map D.str) vs → vs = ns.map V.str
  | [], _, .nil => rfl
  | n :: ns, _, .cons h t => by cases h; rw [RepA.strs (ns := ns) t]; rfl
theorem RepA.of_ints : ∀ (ns : List Int), RepA K G (ns.map D.int) (ns.map V.int)
  | [] => .nil
  | n :: ns => .cons (.int n) (RepA.of_ints ns)
end
/-! ### owned things: an object of one's own, its boxed parts one's own too -/
inductive ChA (K : PySem.W.Frag) (G H : Hp) : List D → List V → List Addr → Prop
  | nil : ChA K G H [] [] []
  | sh {d : D} {v : V} {ds : List D} {vs : List V} {fp : List Addr} : Rep K G d v → ChA K G H ds vs fp → ChA K G H (d :: ds) (v :: vs) fp
  | bx {d : D} {b : Addr} {o : HO} {ds : List D} {vs : List V} {fp : List Addr} : H b = some o → OR K G o d → ChA K G H ds vs fp → ChA K G H (.box d :: ds) (.ref b :: vs) (b :: fp)
inductive Own (K : PySem.W.Frag) (G H : Hp) : D → Addr → List Addr → Prop
  | flat {a : Addr} {o : HO} {d : D} : H a = some o → OR K G o d → Own K G H d a [a]
  | obj {a C dx : Addr} {fv : List (Str × V)} {fd : List (Str × D)} {fp : List Addr} : H a = some (.ins C dx fv) → fv.map (·.1) = fd.map (·.1) → ChA K G H (fd.map (·.2)) (fv.map (·.2)) fp → Own K G H (.obj C fd) a (a :: fp)
section
variable {K : PySem.W.Frag} {G G' H H' : Hp}
theorem ChA.mono (e : Same G G') {ds : List D} {vs : List V} {fp : List Addr} (h : ChA K G H ds vs fp) : (∀ b ∈ fp, H' b = H b) → ChA K G' H' ds vs fp := by
  induction h with
  | nil => exact fun _ => .nil
  | sh r _ ih => exact fun k => .sh (r.mono e) (ih k)
  | bx hb r _ ih => exact fun k => .bx (by rw [k _ List.mem_cons_self]; exact hb) (r.mono e) (ih fun b z => k b (List.mem_cons_of_mem _ z))
theorem Own.mono (e : Same G G') {d : D} {a : Addr} {fp : List Addr} (h : Own K G H d a fp) (k : ∀ b ∈ fp, H' b = H b) : Own K G' H' d a fp := by
  cases h with
  | flat h r => exact .flat (by rw [k _ List.mem_cons_self]; exact h) (r.mono e)
  | obj h f c => exact .obj (by rw [k _ List.mem_cons_self]; exact h) f (c.mono e fun b z => k b (List.mem_cons_of_mem _ z))
theorem ChA.live {ds : List D} {vs : List V} {fp : List Addr} (h : ChA K G H ds vs fp) : ∀ b ∈ fp, ∃ o, H b = some o := by
  induction h with
  | nil => exact fun _ z => nomatch z
  | sh _ _ ih => exact ih
  | bx hb _ _ ih =>
    intro b z
    rcases List.mem_cons.mp z with rfl | z
    · exact ⟨_, hb⟩
    · exact ih b z
theorem Own.live {d : D} {a : Addr} {fp : List Addr} (h : Own K G H d a fp) : ∀ b ∈ fp, ∃ o, H b = some o := by
  cases h with
  | flat h r =>
    intro b z
    rw [List.mem_singleton] at z
    subst z
    exact ⟨_, h⟩
  | obj h f c =>
    intro b z
    rcases List.mem_cons.mp z with rfl | z
    · exact ⟨_, h⟩
    · exact c.live b z
/-- no code table, nothing that only the kit tells -/
def Pl (o : HO) : Prop := (∀ ps, o ≠ .tbl ps) ∧ ∀ f, o ≠ .ext f
theorem OR.pl {o : HO} {d : D} (h : OR K G o d) : Pl o := by
  cases h <;> exact ⟨fun _ z => (nomatch z), fun _ z => (nomatch z)⟩
theorem ChA.pl {ds : List D} {vs : List V} {fp : List Addr} (h : ChA K G H ds vs fp) : ∀ b ∈ fp, ∃ o, H b = some o ∧ Pl o := by
  induction h with
  | nil => exact fun _ z => nomatch z
  | sh _ _ ih => exact ih
  | bx hb r _ ih =>
    intro b z
    rcases List.mem_cons.mp z with rfl | z
    · exact ⟨_, hb, r.pl⟩
    · exact ih b z
theorem Own.pl {d : D} {a : Addr} {fp : List Addr} (h : Own K G H d a fp) : ∀ b ∈ fp, ∃ o, H b = some o ∧ Pl o := by
  cases h with
  | flat h r =>
    intro b z
    rw [List.mem_singleton] at z
    subst z
    exact ⟨_, h, r.pl⟩
  | obj h f c =>
    intro b z
    rcases List.mem_cons.mp z with rfl | z
    · exact ⟨_, h, ⟨fun _ z => (nomatch z), fun _ z => (nomatch z)⟩⟩
    · exact c.pl b z
theorem Own.mem {d : D} {a : Addr} {fp : List Addr} (h : Own K G H d a fp) : a ∈ fp := by
  cases h <;> exact List.mem_cons_self
end
/-! ### code tables -/
/-- the code tables of the text that make lambdas -/
class TB where
  T : List (Addr × Str)
def noTb : Option HO → Option HO
  | some (.tbl _) => none
  | some (.ext _) => none
  | o => o
theorem noTb_ok {o : Option HO} {u : HO} (h : noTb o = some u) : o = some u ∧ Pl u := by
  unfold noTb at h
  split at h
  · cases h
  · cases h
  · rename_i k k2
    exact ⟨h, fun ps z => k ps (by rw [h, z]), fun f z => k2 f (by rw [h, z])⟩
theorem noTb_eq {u : HO} (h : Pl u) : noTb (some u) = some u := by
  unfold noTb
  split
  · rename_i ps e
    exact absurd (Option.some.inj e) (h.1 ps)
  · rename_i ps e
    exact absurd (Option.some.inj e) (h.2 ps)
  · rfl
theorem noTb_no' {H : Hp} {b : Addr} {u : HO} (e : H b = some u) (h : Pl u) : noTb (H b) ≠ none := by
  rw [e, noTb_eq h]
  exact fun z => nomatch z
theorem noTb_none {H : Hp} {b : Addr} (e : H b = none) : noTb (H b) = none := by
  rw [e]; rfl
def NoT (G : Hp) : Prop := ∀ a ps, G a ≠ some (.tbl ps)
/-- plain things alone -/
def PlP (G : Hp) : Prop := ∀ a o, G a = some o → Pl o
theorem PlP.upd {G : Hp} {p : Addr} {o : HO} (n : PlP G) (h : Pl o) : PlP (upd G p o) := fun a u e => by
  by_cases z : a = p
  · subst z; rw [upd_same] at e; cases e; exact h
  · rw [upd_ne z] at e; exact n a u e
section
variable [TB] {H H' : Hp}
theorem NoT.upd {G : Hp} {p : Addr} {o : HO} (n : NoT G) (h : ∀ ps, o ≠ .tbl ps) : NoT (upd G p o) := fun a ps e => by
  by_cases z : a = p
  · subst z; rw [upd_same] at e; exact h ps (Option.some.inj e)
  · rw [upd_ne z] at e; exact n a ps e
/-- what is plain may be written -/
theorem tabs_but (t : LamX.Tabs TB.T H) (k : ∀ b o, H b = some o → ¬ Pl o → H' b = some o) : LamX.Tabs TB.T H' := fun p hp => by
  obtain ⟨ps, h1, h2, h3⟩ := t p hp
  refine ⟨ps, k _ _ h1 fun z => z.1 ps rfl, h2, fun pos cv hc => ?_⟩
  obtain ⟨c, e1, e2⟩ := h3 pos cv hc
  exact ⟨c, e1, k _ _ e2 fun z => z.2 _ rfl⟩
end
end DL
namespace DL
variable [TB] [LC]
open PySem L2
/-! ### slots that hold data; the state in step with the heap -/
/-- shared data; data of one's own (mu: lent by the caller) -/
inductive Slot where
  | sh (d : D) | ow (mu : Bool) (d : D)
abbrev DSt := List (Option Slot)
/-- a def's entry: the heap; its shared part; what must stay as it is; the addresses that were lent; which slot was lent what -/
structure Fr where
  He : Hp
  G0 : Hp
  pr : Hp
  hid : Addr → Prop
  mfp : Nat → List Addr
  mua : Nat → Option Addr
  /-- slots that hold what they hold, for good -/
  gv : Nat → Option (Option V)
/-- the def's own slots, fewer than n, are none of these -/
class GvOk (F : Fr) (n : outParam Nat) : Prop where
  ok : ∀ i x, F.gv i = some x → n ≤ i
theorem GvOk.none {F : Fr} {n i : Nat} (k : GvOk F n) (h : i < n) : F.gv i = none := by
  cases e : F.gv i with
  | none => rfl
  | some x => exact absurd (k.ok i x e) (by omega)
def isOw (st : DSt) (i : Nat) : Prop := ∃ m d, st[i]? = some (some (Slot.ow m d))
structure Sync (K : PySem.W.Frag) (F : Fr) (G : Hp) (fpf : Nat → List Addr) (σ : St) (H : Hp) (st : DSt) : Prop where
  len : st.length = σ.length
  sh : ∀ (i : Nat) (d : D), st[i]? = some (some (Slot.sh d)) → ∃ v, σ[i]? = some (some v) ∧ Rep K G d v
  ow : ∀ (i : Nat) (m : Bool) (d : D), st[i]? = some (some (Slot.ow m d)) → ∃ a, σ[i]? = some (some (.ref a)) ∧ Own K G H d a (fpf i) ∧ (fpf i).Nodup ∧ (∀ b ∈ fpf i, G b = none ∧ (F.He b = none ∨ (m = true ∧ b ∈ F.mfp i)) ∧ F.pr b = none) ∧ (m = true → F.mua i = some a)
  sep : ∀ (i j : Nat), isOw st i → isOw st j → i ≠ j → ∀ b ∈ fpf i, b ∉ fpf j
  g0 : Same F.G0 G
  gh : Same G H
  new : ∀ a o, G a = some o → F.G0 a = some o ∨ F.He a = none
  pr : Same F.pr H
  live : ∀ a o, F.He a = some o → ∃ o', H a = some o' ∧ Pl o'
  hidG : ∀ a, F.hid a → G a = none
  hidP : ∀ a, F.hid a → ∃ o, F.pr a = some o
  ng : NoT G
  np : PlP F.pr
  tab : LamX.Tabs TB.T H
  gv : ∀ i x, F.gv i = some x → σ[i]? = some x
section
variable {K : PySem.W.Frag} {F : Fr} {G H : Hp} {fpf : Nat → List Addr} {σ : St} {st : DSt}
theorem same_upd {G H : Hp} {p : Addr} {o : HO} (g : Same G H) (hp : H p = none) : Same G (upd G p o) := fun b u e => by
  have : b ≠ p := fun z => by subst z; rw [g _ _ e] at hp; cases hp
  rw [upd_ne this]; exact e
theorem same_upd2 {G H : Hp} {p : Addr} {o : HO} (g : Same G H) : Same (upd G p o) (upd H p o) := fun b u e => by
  by_cases z : b = p
  · subst z; rw [upd_same] at e ⊢; exact e
  · rw [upd_ne z] at e ⊢; exact g _ _ e
theorem Sync.fresh' (S : Sync K F G fpf σ H st) {p : Addr} (hp : noTb (H p) = none) : F.He p = none := by
  cases e : F.He p with
  | none => rfl
  | some o =>
    obtain ⟨o', e', nt⟩ := S.live p o e
    exact absurd hp (noTb_no' e' nt)
theorem Sync.freshP' (S : Sync K F G fpf σ H st) {p : Addr} (hp : noTb (H p) = none) : F.pr p = none := by
  cases e : F.pr p with
  | none => rfl
  | some o => exact absurd hp (noTb_no' (S.pr p o e) (S.np p o e))
theorem Sync.ne_fp' (S : Sync K F G fpf σ H st) {p : Addr} (hp : noTb (H p) = none) {i : Nat} (h : isOw st i) : ∀ b ∈ fpf i, b ≠ p := fun b hb z => by
  obtain ⟨m, d, e⟩ := h
  obtain ⟨a, _, ow, _⟩ := S.ow i m d e
  obtain ⟨o, eo, pl⟩ := ow.pl b hb
  rw [z] at eo
  exact absurd hp (noTb_no' eo pl)
theorem Sync.fresh (S : Sync K F G fpf σ H st) {p : Addr} (hp : H p = none) : F.He p = none := S.fresh' (noTb_none hp)
theorem Sync.freshP (S : Sync K F G fpf σ H st) {p : Addr} (hp : H p = none) : F.pr p = none := S.freshP' (noTb_none hp)
theorem Sync.freshG (S : Sync K F G fpf σ H st) {p : Addr} (hp : H p = none) : G p = none := by
  cases e : G p with
  | none => rfl
  | some o => rw [S.gh p o e] at hp; cases hp
theorem Sync.hid_ne (S : Sync K F G fpf σ H st) {p a : Addr} (hp : H p = none) (ha : F.hid a) : a ≠ p := fun z => by
  obtain ⟨o, e⟩ := S.hidP a ha
  rw [z] at e
  rw [S.pr p o e] at hp; cases hp
theorem Sync.ne_fp (S : Sync K F G fpf σ H st) {p : Addr} (hp : H p = none) {i : Nat} (h : isOw st i) : ∀ b ∈ fpf i, b ≠ p := S.ne_fp' (noTb_none hp) h
/-- the heap grows, all slots as they are -/
theorem Sync.grow (S : Sync K F G fpf σ H st) {G' H' : Hp} (gg : Same G G') (gh : Same G' H') (new : ∀ a o, G' a = some o → G a = some o ∨ F.He a = none) (hh : ∀ a o, H a = some o → H' a = some o)
    (off : ∀ (i : Nat), isOw st i → ∀ b ∈ fpf i, G' b = none) (hd : ∀ a, F.hid a → G' a = none) (ng : NoT G') : Sync K F G' fpf σ H' st where
  len := S.len
  sh := fun i d e => let ⟨v, e1, r⟩ := S.sh i d e; ⟨v, e1, r.mono gg⟩
  ow := fun i m d e => by
    obtain ⟨a, e1, o, nd, f, mm⟩ := S.ow i m d e
    refine ⟨a, e1, o.mono gg (fun b hb => ?_), nd, fun b hb => ⟨off i ⟨m, d, e⟩ b hb, (f b hb).2⟩, mm⟩
    obtain ⟨u, eu⟩ := o.live b hb
    rw [eu]; exact hh b u eu
  sep := S.sep
  g0 := S.g0.trans gg
  gh := gh
  new := fun a o e => (new a o e).elim (S.new a o) .inr
  pr := fun a o e => hh a o (S.pr a o e)
  live := fun a o e => let ⟨o', e', nt⟩ := S.live a o e; ⟨o', hh _ _ e', nt⟩
  hidG := hd
  hidP := S.hidP
  ng := ng
  np := S.np
  tab := S.tab.ext hh
  gv := S.gv
/-- the heap moves, all slots as they are -/
theorem Sync.move (S : Sync K F G fpf σ H st) {G' H' : Hp} (gg : Same G G') (gh : Same G' H') (new : ∀ a o, G' a = some o → G a = some o ∨ F.He a = none) (ko : ∀ (i : Nat), isOw st i → ∀ b ∈ fpf i, H' b = H b) (kp : ∀ a o, F.pr a = some o → H' a = some o)
    (kl : ∀ a o, F.He a = some o → ∃ o', H' a = some o' ∧ Pl o') (off : ∀ (i : Nat), isOw st i → ∀ b ∈ fpf i, G' b = none) (hd : ∀ a, F.hid a → G' a = none) (ng : NoT G') (tb : LamX.Tabs TB.T H') : Sync K F G' fpf σ H' st where
  len := S.len
  sh := fun i d e => let ⟨v, e1, r⟩ := S.sh i d e; ⟨v, e1, r.mono gg⟩
  ow := fun i m d e => by
    obtain ⟨a, e1, o, nd, f, mm⟩ := S.ow i m d e
    exact ⟨a, e1, o.mono gg (fun b hb => ko i ⟨m, d, e⟩ b hb), nd, fun b hb => ⟨off i ⟨m, d, e⟩ b hb, (f b hb).2⟩, mm⟩
  sep := S.sep
  g0 := S.g0.trans gg
  gh := gh
  new := fun a o e => (new a o e).elim (S.new a o) .inr
  pr := kp
  live := kl
  hidG := hd
  hidP := S.hidP
  ng := ng
  np := S.np
  tab := tb
  gv := S.gv
/-- all but tables stay -/
theorem Sync.ext (S : Sync K F G fpf σ H st) {H' : Hp} (x : LamX.ExtN H H') (tb : LamX.Tabs TB.T H') : Sync K F G fpf σ H' st :=
  S.move (Same.refl G) (fun a o e => x a o (S.gh a o e) fun ps z => S.ng a ps (z ▸ e)) (fun a o e => .inl e) (fun i hi b hb => by
    obtain ⟨m, d, e⟩ := hi
    obtain ⟨a, _, ow, _⟩ := S.ow i m d e
    obtain ⟨o, eo, pl⟩ := ow.pl b hb
    rw [eo, x b o eo pl.1]) (fun a o e => x a o (S.pr a o e) (S.np a o e).1) (fun a o e => by
    obtain ⟨o', e', nt⟩ := S.live a o e
    exact ⟨o', x a o' e' nt.1, nt⟩) (fun i hi b hb => by
    obtain ⟨m, d, e⟩ := hi
    obtain ⟨_, _, _, _, f, _⟩ := S.ow i m d e
    exact (f b hb).1) S.hidG S.ng tb
/-- a new shared object -/
theorem Sync.alloc (S : Sync K F G fpf σ H st) {p : Addr} {o : HO} (hp : H p = none) (pl : ∀ ps, o ≠ .tbl ps) : Sync K F (upd G p o) fpf σ (upd H p o) st :=
  S.grow (same_upd S.gh hp) (same_upd2 S.gh) (fun a u e => by
    by_cases z : a = p
    · subst z; exact .inr (S.fresh hp)
    · rw [upd_ne z] at e; exact .inl e) (fun a u e => by rw [upd_ne (ne_of_none e hp)]; exact e) (fun i hi b hb => by
    rw [upd_ne (S.ne_fp hp hi b hb)]
    obtain ⟨m, d, e⟩ := hi
    obtain ⟨_, _, _, _, f, _⟩ := S.ow i m d e
    exact (f b hb).1) (fun a ha => by rw [upd_ne fun (z : a = p) => S.hid_ne hp ha z]; exact S.hidG a ha) (S.ng.upd pl)
/-- a new object that is not (yet) shared -/
theorem Sync.allocH (S : Sync K F G fpf σ H st) {p : Addr} {o : HO} (hp : H p = none) : Sync K F G fpf σ (upd H p o) st :=
  S.grow (Same.refl G) (fun a u e => by rw [upd_ne (ne_of_none (S.gh a u e) hp)]; exact S.gh a u e) (fun a u e => .inl e) (fun a u e => by rw [upd_ne (ne_of_none e hp)]; exact e) (fun i ⟨m, d, e⟩ b hb => by
    obtain ⟨_, _, _, _, f, _⟩ := S.ow i m d e
    exact (f b hb).1) S.hidG S.ng
/-- a fresh thing: nobody else's -/
structure Fresh (K : PySem.W.Frag) (F : Fr) (G : Hp) (fpf : Nat → List Addr) (st : DSt) (H : Hp) (d : D) (v : V) : Prop where
  ex : ∃ a fp, v = .ref a ∧ Own K G H d a fp ∧ fp.Nodup ∧ ∀ b ∈ fp, G b = none ∧ (F.He b = none ∧ F.pr b = none) ∧ ∀ (j : Nat), isOw st j → b ∉ fpf j
theorem get_set {α : Type} {l : List α} {i j : Nat} {x y : α} (h : (l.set i x)[j]? = some y) : (j = i ∧ y = x ∧ i < l.length) ∨ (j ≠ i ∧ l[j]? = some y) := by
  rw [List.getElem?_set] at h
  by_cases e : i = j
  · subst e
    rw [if_pos rfl] at h
    by_cases z : i < l.length
    · rw [if_pos z] at h; cases h; exact .inl ⟨rfl, rfl, z⟩
    · rw [if_neg z] at h; cases h
  · rw [if_neg e] at h; exact .inr ⟨fun z => e z.symm, h⟩
theorem ow_set {i j : Nat} {x : Option Slot} (h : isOw (st.set i x) j) : (j = i ∧ ∃ m d, x = some (Slot.ow m d)) ∨ (j ≠ i ∧ isOw st j) := by
  obtain ⟨m, d, e⟩ := h
  rcases get_set e with ⟨a, b, _⟩ | ⟨a, b⟩
  · exact .inl ⟨a, m, d, b.symm⟩
  · exact .inr ⟨a, m, d, b⟩
/-- a slot takes a shared value -/
theorem Sync.assign (S : Sync K F G fpf σ H st) (i : Nat) {d : D} {v : V} (r : Rep K G d v) (hg : F.gv i = none) : Sync K F G fpf (σ.set i (some v)) H (st.set i (some (Slot.sh d))) where
  len := by simp [S.len]
  sh := fun j e h => by
    rcases get_set h with ⟨rfl, b, l⟩ | ⟨a, b⟩
    · cases b
      exact ⟨v, by rw [List.getElem?_set_self (by rw [← S.len]; exact l)], r⟩
    · obtain ⟨u, h1, h2⟩ := S.sh j e b
      exact ⟨u, by rw [List.getElem?_set_ne (Ne.symm a)]; exact h1, h2⟩
  ow := fun j m e h => by
    rcases get_set h with ⟨rfl, b, l⟩ | ⟨a, b⟩
    · cases b
    · obtain ⟨u, h1, h2⟩ := S.ow j m e b
      exact ⟨u, by rw [List.getElem?_set_ne (Ne.symm a)]; exact h1, h2⟩
  sep := fun j k hj hk n => by
    rcases ow_set hj with ⟨_, m, e, z⟩ | ⟨_, hj⟩
    · cases z
    · rcases ow_set hk with ⟨_, m, e, z⟩ | ⟨_, hk⟩
      · cases z
      · exact S.sep j k hj hk n
  g0 := S.g0
  gh := S.gh
  new := S.new
  pr := S.pr
  live := S.live
  hidG := S.hidG
  hidP := S.hidP
  ng := S.ng
  np := S.np
  tab := S.tab
  gv := fun j x e => by
    have n : i ≠ j := fun z => by rw [z, e] at hg; cases hg
    rw [List.getElem?_set_ne n]; exact S.gv j x e
/-- a slot takes a fresh thing -/
theorem Sync.assignF (S : Sync K F G fpf σ H st) (i : Nat) {d : D} {v : V} (f : Fresh K F G fpf st H d v) (hg : F.gv i = none) : ∃ fpf', Sync K F G fpf' (σ.set i (some v)) H (st.set i (some (Slot.ow false d))) := by
  obtain ⟨a, fp, rfl, o, nd, off⟩ := f.ex
  refine ⟨fun j => if j = i then fp else fpf j, ⟨by simp [S.len], fun j e h => ?_, fun j m e h => ?_, fun j k hj hk n b hb => ?_, S.g0, S.gh, S.new, S.pr, S.live, S.hidG, S.hidP, S.ng, S.np, S.tab, fun j x e => by
    have n : i ≠ j := fun z => by rw [z, e] at hg; cases hg
    rw [List.getElem?_set_ne n]; exact S.gv j x e⟩⟩
  · rcases get_set h with ⟨rfl, b, l⟩ | ⟨z, b⟩
    · cases b
    · obtain ⟨u, h1, h2⟩ := S.sh j e b
      exact ⟨u, by rw [List.getElem?_set_ne (Ne.symm z)]; exact h1, h2⟩
  · rcases get_set h with ⟨rfl, b, l⟩ | ⟨z, b⟩
    · cases b
      rw [if_pos rfl]
      exact ⟨a, by rw [List.getElem?_set_self (by rw [← S.len]; exact l)], o, nd, fun b hb => ⟨(off b hb).1, .inl (off b hb).2.1.1, (off b hb).2.1.2⟩, fun z => nomatch z⟩
    · rw [if_neg z]
      obtain ⟨u, h1, h2⟩ := S.ow j m e b
      exact ⟨u, by rw [List.getElem?_set_ne (Ne.symm z)]; exact h1, h2⟩
  · rcases ow_set hj with ⟨ej, _⟩ | ⟨nj, oj⟩
    · rcases ow_set hk with ⟨ek, _⟩ | ⟨nk, ok⟩
      · exact absurd (ej.trans ek.symm) n
      · simp only [if_neg nk]
        simp only [if_pos ej] at hb
        exact (off b hb).2.2 k ok
    · simp only [if_neg nj] at hb
      rcases ow_set hk with ⟨ek, _⟩ | ⟨nk, ok⟩
      · simp only [if_pos ek]
        exact fun z => (off b z).2.2 j oj hb
      · simp only [if_neg nk]
        exact S.sep j k oj ok n b hb
/-- a slot is forgotten -/
theorem Sync.forget (S : Sync K F G fpf σ H st) (i : Nat) : Sync K F G fpf σ H (st.set i none) where
  len := by simp [S.len]
  sh := fun j e h => by
    rcases get_set h with ⟨rfl, b, l⟩ | ⟨a, b⟩
    · cases b
    · exact S.sh j e b
  ow := fun j m e h => by
    rcases get_set h with ⟨rfl, b, l⟩ | ⟨a, b⟩
    · cases b
    · exact S.ow j m e b
  sep := fun j k hj hk n => by
    rcases ow_set hj with ⟨_, m, e, z⟩ | ⟨_, hj⟩
    · cases z
    · rcases ow_set hk with ⟨_, m, e, z⟩ | ⟨_, hk⟩
      · cases z
      · exact S.sep j k hj hk n
  g0 := S.g0
  gh := S.gh
  new := S.new
  pr := S.pr
  live := S.live
  hidG := S.hidG
  hidP := S.hidP
  ng := S.ng
  np := S.np
  tab := S.tab
  gv := S.gv
/-- .. and it may then hold anything -/
theorem Sync.any (S : Sync K F G fpf σ H st) (i : Nat) (x : Option V) (hg : F.gv i = none) : Sync K F G fpf (σ.set i x) H (st.set i none) where
  len := by simp [S.len]
  sh := fun j e h => by
    rcases get_set h with ⟨rfl, b, l⟩ | ⟨a, b⟩
    · cases b
    · obtain ⟨u, h1, h2⟩ := S.sh j e b
      exact ⟨u, by rw [List.getElem?_set_ne (Ne.symm a)]; exact h1, h2⟩
  ow := fun j m e h => by
    rcases get_set h with ⟨rfl, b, l⟩ | ⟨a, b⟩
    · cases b
    · obtain ⟨u, h1, h2⟩ := S.ow j m e b
      exact ⟨u, by rw [List.getElem?_set_ne (Ne.symm a)]; exact h1, h2⟩
  sep := fun j k hj hk n => by
    rcases ow_set hj with ⟨_, m, e, z⟩ | ⟨_, hj⟩
    · cases z
    · rcases ow_set hk with ⟨_, m, e, z⟩ | ⟨_, hk⟩
      · cases z
      · exact S.sep j k hj hk n
  g0 := S.g0
  gh := S.gh
  new := S.new
  pr := S.pr
  live := S.live
  hidG := S.hidG
  hidP := S.hidP
  ng := S.ng
  np := S.np
  tab := S.tab
  gv := fun j y e => by
    have n : i ≠ j := fun z => by rw [z, e] at hg; cases hg
    rw [List.getElem?_set_ne n]; exact S.gv j y e
/-! ### sharing what was one's own -/
def isBox : D → Bool
  | .box _ => true
  | _ => false
/-- nothing boxed in it -/
def flatD : D → Bool
  | .obj _ fs => fs.all fun p => !isBox p.2
  | _ => true
theorem ChA.flat {ds : List D} {vs : List V} {fp : List Addr} (h : ChA K G H ds vs fp) : (∀ d ∈ ds, isBox d = false) → fp = [] ∧ RepA K G ds vs := by
  induction h with
  | nil => exact fun _ => ⟨rfl, .nil⟩
  | sh r _ ih =>
    intro k
    obtain ⟨a, b⟩ := ih fun d hd => k d (List.mem_cons_of_mem _ hd)
    exact ⟨a, .cons r b⟩
  | bx hb r _ ih =>
    intro k
    have := k _ List.mem_cons_self
    cases this
theorem Own.isFlat {d : D} {a : Addr} {fp : List Addr} (h : Own K G H d a fp) (f : flatD d = true) : ∃ o, H a = some o ∧ OR K G o d ∧ fp = [a] := by
  cases h with
  | flat h r => exact ⟨_, h, r, rfl⟩
  | obj h k c =>
    obtain ⟨e, r⟩ := c.flat fun d hd => by
      obtain ⟨p, hp, rfl⟩ := List.mem_map.mp hd
      have := List.all_eq_true.mp f p hp
      simpa using this
    subst e
    exact ⟨_, h, .obj k r, rfl⟩
theorem Sync.freeze (S : Sync K F G fpf σ H st) {i : Nat} {d : D} (e : st[i]? = some (some (Slot.ow false d))) (f : flatD d = true) :
    ∃ G' v, Same G G' ∧ Sync K F G' fpf σ H (st.set i (some (Slot.sh d))) ∧ σ[i]? = some (some v) ∧ Rep K G' d v := by
  obtain ⟨a, e1, ow, nd, off, _⟩ := S.ow i false d e
  obtain ⟨o, ho, r, hfp⟩ := ow.isFlat f
  have hG : G a = none := (off a ow.mem).1
  have hE : F.He a = none := by
    rcases (off a ow.mem).2.1 with z | ⟨z, _⟩
    · exact z
    · cases z
  have gg : Same G (upd G a o) := fun b u q => by rw [upd_ne (ne_of_none q hG)]; exact q
  have rr : Rep K (upd G a o) d (.ref a) := (r.mono gg).rep upd_same
  have aj : ∀ (j : Nat), isOw st j → j ≠ i → a ∉ fpf j := fun j hj n z => S.sep j i hj ⟨_, _, e⟩ n a z ow.mem
  refine ⟨upd G a o, .ref a, gg, ⟨by simp [S.len], fun j d' h => ?_, fun j m d' h => ?_, fun j k hj hk n => ?_, S.g0.trans gg, fun b u q => ?_, fun b u q => ?_, S.pr, S.live, fun b hb => ?_, S.hidP, S.ng.upd r.pl.1, S.np, S.tab, S.gv⟩, e1, rr⟩
  · rcases get_set h with ⟨rfl, b, l⟩ | ⟨z, b⟩
    · cases b; exact ⟨_, e1, rr⟩
    · obtain ⟨u, h1, h2⟩ := S.sh j d' b
      exact ⟨u, h1, h2.mono gg⟩
  · rcases get_set h with ⟨rfl, b, l⟩ | ⟨z, b⟩
    · cases b
    · obtain ⟨u, h1, h2, h3, h4, h5⟩ := S.ow j m d' b
      refine ⟨u, h1, h2.mono gg fun _ _ => rfl, h3, fun c hc => ⟨?_, (h4 c hc).2⟩, h5⟩
      rw [upd_ne fun (q : c = a) => aj j ⟨m, d', b⟩ z (q ▸ hc)]
      exact (h4 c hc).1
  · rcases ow_set hj with ⟨_, m, e, z⟩ | ⟨_, hj⟩
    · cases z
    · rcases ow_set hk with ⟨_, m, e, z⟩ | ⟨_, hk⟩
      · cases z
      · exact S.sep j k hj hk n
  · by_cases z : b = a
    · subst z; rw [upd_same] at q; cases q; exact ho
    · rw [upd_ne z] at q; exact S.gh b u q
  · by_cases z : b = a
    · subst z; exact .inr hE
    · rw [upd_ne z] at q; exact S.new b u q
  · by_cases z : b = a
    · subst z
      obtain ⟨o, e⟩ := S.hidP b hb
      rw [(off b ow.mem).2.2] at e; cases e
    · rw [upd_ne z]; exact S.hidG b hb
/-- a fresh flat thing becomes shared -/
theorem Sync.share (S : Sync K F G fpf σ H st) {d : D} {v : V} (f : Fresh K F G fpf st H d v) (fl : flatD d = true) : ∃ G', Same G G' ∧ Sync K F G' fpf σ H st ∧ Rep K G' d v := by
  obtain ⟨a, fp, rfl, ow, nd, off⟩ := f.ex
  obtain ⟨o, ho, r, hfp⟩ := ow.isFlat fl
  obtain ⟨hG, ⟨hE, hP⟩, hj⟩ := off a ow.mem
  have gg : Same G (upd G a o) := fun b u q => by rw [upd_ne (ne_of_none q hG)]; exact q
  refine ⟨upd G a o, gg, S.grow gg (fun b u q => ?_) (fun b u q => ?_) (fun _ _ q => q) (fun i hi b hb => ?_) (fun b hb => ?_) (S.ng.upd r.pl.1), (r.mono gg).rep upd_same⟩
  · by_cases z : b = a
    · subst z; rw [upd_same] at q; cases q; exact ho
    · rw [upd_ne z] at q; exact S.gh b u q
  · by_cases z : b = a
    · subst z; exact .inr hE
    · rw [upd_ne z] at q; exact .inl q
  · rw [upd_ne fun (q : b = a) => hj i hi (q ▸ hb)]
    obtain ⟨m, d', e⟩ := hi
    obtain ⟨_, _, _, _, f, _⟩ := S.ow i m d' e
    exact (f b hb).1
  · by_cases z : b = a
    · subst z
      obtain ⟨o, e⟩ := S.hidP b hb
      rw [hP] at e; cases e
    · rw [upd_ne z]; exact S.hidG b hb
/-! ### writing to one's own -/
/-- the things of slot i have become d' by writes to its own addresses -/
theorem Sync.write (S : Sync K F G fpf σ H st) {i : Nat} {m : Bool} {d d' : D} {H' : Hp} (e : st[i]? = some (some (Slot.ow m d)))
    (ow' : ∀ a, σ[i]? = some (some (.ref a)) → Own K G H' d' a (fpf i)) (k : ∀ b, b ∉ fpf i → H' b = H b) : Sync K F G fpf σ H' (st.set i (some (Slot.ow m d'))) := by
  obtain ⟨a, e1, ow, nd, off, mm⟩ := S.ow i m d e
  have il : i < st.length := (List.getElem?_eq_some_iff.mp e).1
  have keepO : ∀ b o, H b = some o → b ∉ fpf i → H' b = some o := fun b o q n => by rw [k b n]; exact q
  refine ⟨by simp [S.len], fun j e' h => ?_, fun j m' e' h => ?_, fun j l hj hk n => ?_, S.g0, fun b u q => ?_, S.new, fun b o q => ?_, fun b o q => ?_, S.hidG, S.hidP, S.ng, S.np, tabs_but S.tab fun b o q np => keepO b o q fun hb => ?_, S.gv⟩
  · rcases get_set h with ⟨rfl, b, l⟩ | ⟨z, b⟩
    · cases b
    · exact S.sh j e' b
  · rcases get_set h with ⟨rfl, b, l⟩ | ⟨z, b⟩
    · cases b; exact ⟨a, e1, ow' a e1, nd, off, mm⟩
    · obtain ⟨u, h1, h2, h3⟩ := S.ow j m' e' b
      exact ⟨u, h1, h2.mono (Same.refl G) fun c hc => k c (S.sep j i ⟨_, _, b⟩ ⟨_, _, e⟩ z c hc), h3⟩
  · have o1 : ∀ {x}, isOw (st.set i (some (Slot.ow m d'))) x → isOw st x := fun {x} hx => by
      rcases ow_set hx with ⟨rfl, _⟩ | ⟨_, hx⟩
      · exact ⟨_, _, e⟩
      · exact hx
    exact S.sep j l (o1 hj) (o1 hk) n
  · refine keepO b u (S.gh b u q) fun hb => ?_
    rw [(off b hb).1] at q; cases q
  · refine keepO b o (S.pr b o q) fun hb => ?_
    rw [(off b hb).2.2] at q; cases q
  · by_cases hb : b ∈ fpf i
    · obtain ⟨u, eu, pl⟩ := (ow' a e1).pl b hb
      exact ⟨u, eu, pl⟩
    · obtain ⟨o', q', nt⟩ := S.live b o q
      exact ⟨o', keepO b o' q' hb, nt⟩
  · obtain ⟨o', e', p'⟩ := ow.pl b hb
    rw [q] at e'
    cases e'
    exact np p'
/-- .. the one flat object of slot i -/
theorem Sync.write1 (S : Sync K F G fpf σ H st) {i : Nat} {m : Bool} {d d' : D} {a : Addr} {o' : HO} (e : st[i]? = some (some (Slot.ow m d))) (ea : σ[i]? = some (some (.ref a))) (f : flatD d = true)
    (r : OR K G o' d') : Sync K F G fpf σ (upd H a o') (st.set i (some (Slot.ow m d'))) := by
  obtain ⟨a', e1, ow, nd, off, mm⟩ := S.ow i m d e
  obtain ⟨o, ho, r0, hfp⟩ := ow.isFlat f
  have : a' = a := by rw [ea] at e1; cases e1; rfl
  subst this
  refine S.write e (fun b hb => ?_) fun b hb => upd_ne fun z => hb (by rw [z]; exact ow.mem)
  rw [ea] at hb
  cases hb
  rw [hfp]
  exact .flat upd_same r
/-! ### a thing that is hidden meanwhile -/
/-- the thing at a is kept as it is, and hidden -/
def Fr.hide (F : Fr) (a : Addr) (o : HO) : Fr := { F with pr := upd F.pr a o, hid := fun b => F.hid b ∨ b = a }
instance gvHide {F : Fr} {n : Nat} {a : Addr} {o : HO} [k : GvOk F n] : GvOk (F.hide a o) n := ⟨k.ok⟩
/-- a is nobody's yet -/
structure Apart (F : Fr) (G : Hp) (fpf : Nat → List Addr) (st : DSt) (a : Addr) : Prop where
  g : G a = none
  he : F.He a = none
  pr : F.pr a = none
  fp : ∀ (i : Nat), isOw st i → a ∉ fpf i
theorem Sync.hide (S : Sync K F G fpf σ H st) {a : Addr} {o : HO} (p : Apart F G fpf st a) (ha : H a = some o) (pl : Pl o) : Sync K (F.hide a o) G fpf σ H st where
  len := S.len
  sh := S.sh
  ow := fun i m d e => by
    obtain ⟨u, h1, h2, h3, h4, h5⟩ := S.ow i m d e
    refine ⟨u, h1, h2, h3, fun b hb => ⟨(h4 b hb).1, (h4 b hb).2.1, ?_⟩, h5⟩
    show upd F.pr a o b = none
    rw [upd_ne fun (z : b = a) => p.fp i ⟨m, d, e⟩ (z ▸ hb)]
    exact (h4 b hb).2.2
  sep := S.sep
  g0 := S.g0
  gh := S.gh
  new := S.new
  pr := fun b u e => by
    by_cases z : b = a
    · subst z
      have e' : upd F.pr b o b = some u := e
      rw [upd_same] at e'; cases e'; exact ha
    · have e' : upd F.pr a o b = some u := e
      rw [upd_ne z] at e'; exact S.pr b u e'
  live := S.live
  hidG := fun b hb => hb.elim (S.hidG b) fun z => by rw [z]; exact p.g
  hidP := fun b hb => by
    by_cases z : b = a
    · exact ⟨o, by rw [z]; exact upd_same⟩
    · obtain ⟨u, e⟩ := S.hidP b (hb.resolve_right z)
      exact ⟨u, (upd_ne (H := F.pr) z).trans e⟩
  ng := S.ng
  np := S.np.upd pl
  tab := S.tab
  gv := S.gv
theorem Sync.unhide {a : Addr} {o : HO} (S : Sync K (F.hide a o) G fpf σ H st) (hp : F.pr a = none) (he : F.He a = none) (hh : ∀ b, F.hid b → ∃ u, F.pr b = some u) : Sync K F G fpf σ H st ∧ Apart F G fpf st a ∧ H a = some o := by
  have sp : Same F.pr (upd F.pr a o) := fun b u e => by rw [upd_ne (ne_of_none e hp)]; exact e
  refine ⟨⟨S.len, S.sh, fun i m d e => ?_, S.sep, S.g0, S.gh, S.new, fun b u e => S.pr b u (sp b u e), S.live, fun b hb => S.hidG b (.inl hb), hh, S.ng, fun b ps e => S.np b ps (sp b _ e), S.tab, S.gv⟩, ⟨S.hidG a (.inr rfl), he, hp, fun i hi hb => ?_⟩, S.pr a o upd_same⟩
  · obtain ⟨u, h1, h2, h3, h4, h5⟩ := S.ow i m d e
    refine ⟨u, h1, h2, h3, fun b hb => ⟨(h4 b hb).1, (h4 b hb).2.1, ?_⟩, h5⟩
    have z : upd F.pr a o b = none := (h4 b hb).2.2
    by_cases y : b = a
    · subst y; exact hp
    · rw [upd_ne y] at z; exact z
  · obtain ⟨m, d, e⟩ := hi
    obtain ⟨_, _, _, _, h4, _⟩ := S.ow i m d e
    have z : upd F.pr a o a = none := (h4 a hb).2.2
    rw [upd_same] at z; cases z
/-- .. and changed -/
theorem Sync.poke (S : Sync K F G fpf σ H st) {a : Addr} {o : HO} (p : Apart F G fpf st a) (hp : ∃ o, H a = some o ∧ Pl o) (po : Pl o) : Sync K F G fpf σ (upd H a o) st where
  len := S.len
  sh := S.sh
  ow := fun i m d e => by
    obtain ⟨u, h1, h2, h3⟩ := S.ow i m d e
    exact ⟨u, h1, h2.mono (Same.refl G) fun b hb => upd_ne fun (z : b = a) => p.fp i ⟨m, d, e⟩ (z ▸ hb), h3⟩
  sep := S.sep
  g0 := S.g0
  gh := fun b u e => by rw [upd_ne (ne_of_none e p.g)]; exact S.gh b u e
  new := S.new
  pr := fun b u e => by rw [upd_ne (ne_of_none e p.pr)]; exact S.pr b u e
  live := fun b u e => by
    by_cases z : b = a
    · exact ⟨o, by rw [z]; exact upd_same, po⟩
    · obtain ⟨w, q, nt⟩ := S.live b u e
      exact ⟨w, by rw [upd_ne z]; exact q, nt⟩
  hidG := S.hidG
  hidP := S.hidP
  ng := S.ng
  np := S.np
  tab := tabs_but S.tab fun b o q np => by
    rw [upd_ne fun z => ?_]
    · exact q
    · obtain ⟨o', e', p'⟩ := hp
      rw [z, e'] at q
      cases q
      exact np p'
  gv := S.gv
end
end DL
namespace DL
variable [TB] [LC]
open PySem L2
/-! ### computations over data -/
inductive Res (α : Type) where
  | ok (a : α) (st : DSt) | err (x : Exc) (st : DSt) | stuck
abbrev M (α : Type) := DSt → Res α
def ret {α : Type} (a : α) : M α := fun st => .ok a st
def bnd {α β : Type} (m : M α) (f : α → M β) : M β := fun st => match m st with
  | .ok a st' => f a st'
  | .err x st' => .err x st'
  | .stuck => .stuck
def lift {α : Type} (o : Option α) : M α := fun st => match o with
  | some a => .ok a st
  | none => .stuck
def stuckM {α : Type} : M α := fun _ => .stuck
/-! ### what a computation asks of the state: its result stands for data (R), in a heap that grew -/
abbrev Rl (α ρ : Type) := Hp → (Nat → List Addr) → DSt → Hp → α → ρ → Prop
section
variable (K : PySem.W.Frag) (F : Fr) (W : WX) {α β ρ τ : Type}
def At (q : Bool) (R : Rl α ρ) (r : Res α) (st : DSt) (G : Hp) (fpf : Nat → List Addr) (σ : St) (H : Hp) (Q : ρ → Hp → Prop) : Prop :=
  match r with
  | .ok d st' => ∀ (v : ρ) (H' G' : Hp) (fpf' : Nat → List Addr), (q = true → H' = H ∧ G' = G ∧ fpf' = fpf) → Same G G' → Sync K F G' fpf' σ H' st' → R G' fpf' st' H' d v → Q v H'
  | .err x st' => ∀ (a : Addr) (fv : List (Str × V)) (H' G' : Hp) (fpf' : Nat → List Addr), Same G G' → Sync K F G' fpf' σ H' st' → Apart F G' fpf' st' a → H' a = some (.xd fv) → fv.map (·.1) = x.fs.map (·.1) → RepA K G' (x.fs.map (·.2)) (fv.map (·.2)) → W x.cls (some a) σ H'
  | .stuck => False
def tM (q : Bool) (R : Rl α ρ) (m : M α) : St → Hp → (ρ → Hp → Prop) → Prop := fun σ H Q =>
  ∃ (st : DSt) (G : Hp) (fpf : Nat → List Addr), Sync K F G fpf σ H st ∧ At K F W q R (m st) st G fpf σ H Q
end
section
variable {K : PySem.W.Frag} {F : Fr} {W : WX} {α β ρ τ : Type} {q q1 q2 : Bool} {R : Rl α ρ} {R1 : Rl β τ} {r : Res α} {st : DSt} {G H : Hp} {fpf : Nat → List Addr} {σ : St} {Q Q' : ρ → Hp → Prop}
theorem At.imp (h : At K F W q R r st G fpf σ H Q) (k : ∀ v H', Q v H' → Q' v H') : At K F W q R r st G fpf σ H Q' := by
  cases r with
  | ok d st' => exact fun v H' G' fpf' a b c d => k _ _ (h v H' G' fpf' a b c d)
  | err x st' => exact h
  | stuck => exact h
/-- what is asked of any end is asked of a quiet one -/
theorem At.quiet (h : At K F W false R r st G fpf σ H Q) : At K F W q R r st G fpf σ H Q := by
  cases r with
  | ok d st' => exact fun v H' G' fpf' _ b c d => h v H' G' fpf' (fun z => nomatch z) b c d
  | err x st' => exact h
  | stuck => exact h
/-- m, then f -/
theorem At.bnd {m : M β} {f : β → M α} (hq : q = true → q1 = true ∧ q2 = true) (h : At K F W q R (DL.bnd m f st) st G fpf σ H Q) :
    At K F W q1 R1 (m st) st G fpf σ H fun v H1 => ∃ d st1 G1 fpf1, Same G G1 ∧ Sync K F G1 fpf1 σ H1 st1 ∧ (q1 = true → H1 = H ∧ G1 = G ∧ fpf1 = fpf) ∧ m st = .ok d st1 ∧ R1 G1 fpf1 st1 H1 d v ∧ At K F W q2 R (f d st1) st1 G1 fpf1 σ H1 Q := by
  unfold DL.bnd at h
  cases e : m st with
  | stuck => rw [e] at h; exact h
  | err x st1 => rw [e] at h; exact h
  | ok d st1 =>
    rw [e] at h
    refine fun v H1 G1 fpf1 z gg S1 r1 => ⟨d, st1, G1, fpf1, gg, S1, z, rfl, r1, ?_⟩
    revert h
    show At K F W q R (f d st1) st G fpf σ H Q → _
    cases f d st1 with
    | stuck => exact fun h => h
    | err x st2 => exact fun h a fv H' G' fpf' gg' => h a fv H' G' fpf' (gg.trans gg')
    | ok c st2 =>
      intro h
      refine fun v H' G' fpf' z' gg' S' r' => h v H' G' fpf' (fun y => ?_) (gg.trans gg') S' r'
      obtain ⟨y1, y2⟩ := hq y
      obtain ⟨a1, a2, a3⟩ := z y1
      obtain ⟨b1, b2, b3⟩ := z' y2
      exact ⟨b1.trans a1, b2.trans a2, b3.trans a3⟩
end
/-! ### how results stand -/
/-- to be read, now: shared, or one's own -/
inductive Rp (K : PySem.W.Frag) (G H : Hp) : D → V → Prop
  | rep {d : D} {v : V} : Rep K G d v → Rp K G H d v
  | own {d : D} {a : Addr} {fp : List Addr} : Own K G H d a fp → Rp K G H d (.ref a)
inductive RpA (K : PySem.W.Frag) (G H : Hp) : List D → List V → Prop
  | nil : RpA K G H [] []
  | cons {d : D} {v : V} {ds : List D} {vs : List V} : Rp K G H d v → RpA K G H ds vs → RpA K G H (d :: ds) (v :: vs)
def RSh (K : PySem.W.Frag) : Rl D V := fun G _ _ _ d v => Rep K G d v
def RPk (K : PySem.W.Frag) : Rl D V := fun G _ _ H d v => Rp K G H d v
def RFr (K : PySem.W.Frag) (F : Fr) : Rl D V := fun G fpf st H d v => Fresh K F G fpf st H d v
def REq {α : Type} : Rl α α := fun _ _ _ _ b c => c = b
def RLs (K : PySem.W.Frag) : Rl (List D) (List V) := fun G _ _ _ ds vs => RepA K G ds vs
theorem RpA.of {K : PySem.W.Frag} {G H : Hp} : ∀ {ds : List D} {vs : List V}, RepA K G ds vs → RpA K G H ds vs
  | _, _, .nil => .nil
  | _, _, .cons h t => .cons (.rep h) (RpA.of t)
section
variable {K : PySem.W.Frag} {G H : Hp} {v : V}
theorem Rp.non (h : Rp K G H .non v) : v = .non := by
  cases h with
  | rep h => cases h; rfl
  | own h => cases h with | flat h r => cases r
theorem Rp.bl {b : Bool} (h : Rp K G H (.bl b) v) : v = .bl b := by
  cases h with
  | rep h => cases h; rfl
  | own h => cases h with | flat h r => cases r
theorem Rp.int {i : Int} (h : Rp K G H (.int i) v) : v = .int i := by
  cases h with
  | rep h => cases h; rfl
  | own h => cases h with | flat h r => cases r
theorem Rp.str {x : Str} (h : Rp K G H (.str x) v) : v = .str x := by
  cases h with
  | rep h => cases h; rfl
  | own h => cases h with | flat h r => cases r
theorem Rp.ty {n : String} (h : Rp K G H (.ty n) v) : v = .ty n := by
  cases h with
  | rep h => cases h; rfl
  | own h => cases h with | flat h r => cases r
theorem Rp.rf {a : Addr} (h : Rp K G H (.rf a) v) : v = .ref a := by
  cases h with
  | rep h => cases h; rfl
  | own h => cases h with | flat h r => cases r
theorem Rp.lst {ds : List D} (g : Same G H) (h : Rp K G H (.lst ds) v) : ∃ a vs, v = .ref a ∧ H a = some (.lst vs) ∧ RepA K G ds vs := by
  cases h with
  | rep h => cases h with | lst h r => exact ⟨_, _, rfl, g _ _ h, r⟩
  | own h => cases h with | flat h r => cases r with | lst r => exact ⟨_, _, rfl, h, r⟩
theorem Rp.kl {ds : List D} (g : Same G H) (h : Rp K G H (.kl ds) v) : ∃ a vs, v = .ref a ∧ SqL K H a vs ∧ RepA K G ds vs := by
  cases h with
  | rep h => cases h with | kl h r => exact ⟨_, _, rfl, g.seq h, r⟩
  | own h => cases h with | flat h r => cases r
theorem Rp.seqL {d : D} {ds : List D} (g : Same G H) (h : Rp K G H d v) (e : d = .lst ds ∨ d = .kl ds) : ∃ a vs, v = .ref a ∧ SqL K H a vs ∧ RepA K G ds vs := by
  rcases e with rfl | rfl
  · obtain ⟨a, vs, rfl, h, r⟩ := h.lst g
    exact ⟨a, vs, rfl, .inl (.inl h), r⟩
  · exact h.kl g
theorem Rp.tup {ds : List D} (g : Same G H) (h : Rp K G H (.tup ds) v) : ∃ a vs, v = .ref a ∧ SqT K H a vs ∧ RepA K G ds vs := by
  cases h with
  | rep h => cases h with | tup h r => exact ⟨_, _, rfl, sqT_mono g h, r⟩
  | own h => cases h with | flat h r => cases r with | tup r => exact ⟨_, _, rfl, .inl (.inl h), r⟩
theorem Rp.dK {kd : List (Key × D)} (g : Same G H) (h : Rp K G H (.dK kd) v) : ∃ a kv, v = .ref a ∧ Rd H a (.dK kv) ∧ kv.map (·.1) = kd.map (·.1) ∧ RepA K G (kd.map (·.2)) (kv.map (·.2)) := by
  cases h with
  | rep h => cases h with | dK h k r => exact ⟨_, _, rfl, rd_mono g h, k, r⟩
  | own h => cases h with | flat h r => cases r with | dK k r => exact ⟨_, _, rfl, .inl h, k, r⟩
theorem Rp.dT {kd : List (List Key × D)} (g : Same G H) (h : Rp K G H (.dT kd) v) : ∃ a kv, v = .ref a ∧ Rd H a (.dT kv) ∧ kv.map (·.1) = kd.map (·.1) ∧ RepA K G (kd.map (·.2)) (kv.map (·.2)) := by
  cases h with
  | rep h => cases h with | dT h k r => exact ⟨_, _, rfl, rd_mono g h, k, r⟩
  | own h => cases h with | flat h r => cases r with | dT k r => exact ⟨_, _, rfl, .inl h, k, r⟩
end
/-- the end of an operation: a value as it is, or one new object -/
def Res1 (K : PySem.W.Frag) (G H : Hp) (z : D) (v : V) (H' : Hp) : Prop :=
  (H' = H ∧ Rep K G z v) ∨ ∃ p o, H p = none ∧ v = .ref p ∧ H' = upd H p o ∧ OR K G o z
/-- a new object -/
def ResN (K : PySem.W.Frag) (G H : Hp) (z : D) (v : V) (H' : Hp) : Prop := ∃ p o, H p = none ∧ v = .ref p ∧ H' = upd H p o ∧ OR K G o z
section
variable {K : PySem.W.Frag} {F : Fr} {W : WX} {q : Bool} {st : DSt} {G H H' : Hp} {fpf : Nat → List Addr} {σ : St} {z : D} {v : V} {Q : VK}
theorem At.end0 (S : Sync K F G fpf σ H st) (h : At K F W q (RSh K) (.ok z st) st G fpf σ H Q) (r : Rep K G z v) : Q v H :=
  h v H G fpf (fun _ => ⟨rfl, rfl, rfl⟩) (Same.refl G) S r
theorem At.endN (S : Sync K F G fpf σ H st) (h : At K F W false (RSh K) (.ok z st) st G fpf σ H Q) (r : ResN K G H z v H') : Q v H' := by
  obtain ⟨p, o, hp, rfl, rfl, r⟩ := r
  have gg : Same G (upd G p o) := same_upd S.gh hp
  exact h _ _ (upd G p o) fpf (fun z => nomatch z) gg (S.alloc hp r.pl.1) ((r.mono gg).rep upd_same)
theorem At.end1 (S : Sync K F G fpf σ H st) (h : At K F W false (RSh K) (.ok z st) st G fpf σ H Q) (r : Res1 K G H z v H') : Q v H' := by
  rcases r with ⟨rfl, r⟩ | r
  · exact h.end0 S r
  · exact h.endN S r
theorem At.endF (S : Sync K F G fpf σ H st) (h : At K F W false (RFr K F) (.ok z st) st G fpf σ H Q) (r : ResN K G H z v H') : Q v H' := by
  obtain ⟨p, o, hp, rfl, rfl, r⟩ := r
  refine h _ _ G fpf (fun z => nomatch z) (Same.refl G) (S.allocH hp) ⟨⟨p, [p], rfl, .flat upd_same r, by simp, fun b hb => ?_⟩⟩
  rw [List.mem_singleton] at hb
  subst hb
  exact ⟨S.freshG hp, ⟨S.fresh hp, S.freshP hp⟩, fun j hj hb => S.ne_fp hp hj _ hb rfl⟩
end
theorem PE_mono {X : Cx} {e : Expr} {t t' : TE} (h : PE X e t) (k : ∀ σ H Q, t' σ H Q → t σ H Q) : PE X e t' := ⟨fun pins s σ H Q I q => h.run pins s σ H Q I (k _ _ _ q)⟩
theorem PT_mono {X : Cx} {e : Expr} {t t' : TT} (h : PT X e t) (k : ∀ σ H Q, t' σ H Q → t σ H Q) : PT X e t' := ⟨fun pins s σ H Q I q => h.run pins s σ H Q I (k _ _ _ q)⟩
theorem PA_mono {X : Cx} {es : List Expr} {t t' : TA} (h : PA X es t) (k : ∀ σ H Q, t' σ H Q → t σ H Q) : PA X es t' := ⟨fun pos pins s σ H Q I q => h.run pos pins s σ H Q I (k _ _ _ q)⟩
theorem PW_mono {X : Cx} {e : Expr} {t t' : TT} (h : PW X e t) (k : ∀ σ H Q, t' σ H Q → t σ H Q) : PW X e t' := ⟨fun wh pins s σ H Q I q => h.run wh pins s σ H Q I (k _ _ _ q)⟩
end DL
namespace DL
variable [TB] [LC]
open PySem L2
/-! ### operations on data -/
def OpS (K : PySem.W.Frag) (r : R2) (g : D → D → Option D) : Prop := ∀ {G H : Hp} {d e z : D} {x y : V} {Q : VK}, Same G H → Rp K G H d x → Rp K G H e y → g d e = some z → (∀ v H', Res1 K G H z v H' → Q v H') → r x y H Q
/-- .. that make nothing -/
def OpS0 (K : PySem.W.Frag) (r : R2) (g : D → D → Option D) : Prop := ∀ {G H : Hp} {d e z : D} {x y : V} {Q : VK}, Same G H → Rp K G H d x → Rp K G H e y → g d e = some z → (∀ v, Rep K G z v → Q v H) → r x y H Q
/-- .. that make a new object -/
def OpSN (K : PySem.W.Frag) (r : R2) (g : D → D → Option D) : Prop := ∀ {G H : Hp} {d e z : D} {x y : V} {Q : VK}, Same G H → Rp K G H d x → Rp K G H e y → g d e = some z → (∀ v H', ResN K G H z v H' → Q v H') → r x y H Q
theorem OpS0.any {K : PySem.W.Frag} {r : R2} {g : D → D → Option D} (h : OpS0 K r g) : OpS K r g := fun a b c d k => h a b c d fun v q => k v _ (.inl ⟨rfl, q⟩)
theorem OpSN.any {K : PySem.W.Frag} {r : R2} {g : D → D → Option D} (h : OpSN K r g) : OpS K r g := fun a b c d k => h a b c d fun v H' q => k v H' (.inr q)
/-- two rules for one operator -/
def orD (g g' : D → D → Option D) : D → D → Option D := fun d e => match g d e with
  | some z => some z
  | none => g' d e
theorem OpS.or {K : PySem.W.Frag} {r r' : R2} {g g' : D → D → Option D} (h : OpS K r g) (h' : OpS K r' g') : OpS K (fun x y H Q => r x y H Q ∨ r' x y H Q) (orD g g') := fun {G H d e z x y Q} a b c k q => by
  unfold orD at k
  cases w : g d e with
  | some u => rw [w] at k; cases k; exact .inl (h a b c w q)
  | none => rw [w] at k; exact .inr (h' a b c k q)
theorem OpS0.or {K : PySem.W.Frag} {r r' : R2} {g g' : D → D → Option D} (h : OpS0 K r g) (h' : OpS0 K r' g') : OpS0 K (fun x y H Q => r x y H Q ∨ r' x y H Q) (orD g g') := fun {G H d e z x y Q} a b c k q => by
  unfold orD at k
  cases w : g d e with
  | some u => rw [w] at k; cases k; exact .inl (h a b c w q)
  | none => rw [w] at k; exact .inr (h' a b c k q)
theorem OpR.or {X : Cx} {f : Value → Value → Sem Value} {r r' : R2} (h : OpR X f r) (h' : OpR X f r') : OpR X f (fun x y H Q => r x y H Q ∨ r' x y H Q) := by
  intro pins s σ H x y v u Q I rx ry q
  rcases q with q | q
  · exact h pins s σ H x y v u Q I rx ry q
  · exact h' pins s σ H x y v u Q I rx ry q
def opM (g : D → D → Option D) (ma mb : M D) : M D := bnd ma fun x => bnd mb fun y => lift (g x y)
def unM (g : D → Option D) (ma : M D) : M D := bnd ma fun x => lift (g x)
def UnS (K : PySem.W.Frag) (r : V → Hp → VK → Prop) (g : D → Option D) : Prop := ∀ {G H : Hp} {d z : D} {x : V} {Q : VK}, Same G H → Rp K G H d x → g d = some z → (∀ v, Rep K G z v → Q v H) → r x H Q
def testM (m : M D) : M Bool := bnd m fun d => match d with
  | .bl b => ret b
  | _ => stuckM
def andM (ma mb : M Bool) : M Bool := bnd ma fun c => if c = true then mb else ret false
def orM (ma mb : M Bool) : M Bool := bnd ma fun c => if c = true then ret true else mb
def notM (ma : M Bool) : M Bool := bnd ma fun c => ret (!c)
def iteM {α : Type} (mc : M Bool) (ma mb : M α) : M α := bnd mc fun c => if c = true then ma else mb
def andV (ma mb : M D) : M D := bnd ma fun d => match d with
  | .bl true => mb
  | .bl false => ret (.bl false)
  | _ => stuckM
def orV (ma mb : M D) : M D := bnd ma fun d => match d with
  | .bl true => ret (.bl true)
  | .bl false => mb
  | _ => stuckM
def notV (ma : M D) : M D := bnd ma fun d => match d with
  | .bl b => ret (.bl (!b))
  | _ => stuckM
def shareM (m : M D) : M D := bnd m fun d => if flatD d = true then ret d else stuckM
def varM (i : Nat) : M D := fun st => match st[i]? with
  | some (some (Slot.sh d)) => .ok d st
  | some (some (Slot.ow false d)) => if flatD d = true then .ok d (st.set i (some (Slot.sh d))) else .stuck
  | _ => .stuck
def peekM (i : Nat) : M D := fun st => match st[i]? with
  | some (some (Slot.sh d)) => .ok d st
  | some (some (Slot.ow _ d)) => .ok d st
  | _ => .stuck
def argsM : List (M D) → M (List D)
  | [] => ret []
  | m :: ms => bnd m fun d => bnd (argsM ms) fun ds => ret (d :: ds)
section
variable {K : PySem.W.Frag} {F : Fr} {W : WX} {q q1 q2 : Bool} {σ : St} {H : Hp} {g : D → D → Option D} {r : R2} {ma mb : M D}
theorem nq {P : Prop} : false = true → P := fun z => Bool.noConfusion z
theorem At.bndK {α ρ β τ : Type} {R : Rl α ρ} {R1 : Rl β τ} {m : M β} {f : β → M α} {st : DSt} {G : Hp} {fpf : Nat → List Addr} {Q : ρ → Hp → Prop} {T : τ → Hp → Prop} (hq : q = true → q1 = true ∧ q2 = true) (h : At K F W q R (DL.bnd m f st) st G fpf σ H Q)
    (k : ∀ d st1 G1 fpf1 v H1, Same G G1 → Sync K F G1 fpf1 σ H1 st1 → (q1 = true → H1 = H ∧ G1 = G ∧ fpf1 = fpf) → m st = .ok d st1 → R1 G1 fpf1 st1 H1 d v → At K F W q2 R (f d st1) st1 G1 fpf1 σ H1 Q → T v H1) : At K F W q1 R1 (m st) st G fpf σ H T :=
  (h.bnd (q1 := q1) (q2 := q2) (R1 := R1) hq).imp fun v H1 z => by
    obtain ⟨d, st1, G1, fpf1, a, b, c, e, f, g⟩ := z
    exact k d st1 G1 fpf1 v H1 a b c e f g
theorem op_of (hs : OpS K r g) {Q : VK} (h : tM K F W false (RSh K) (opM g ma mb) σ H Q) : tOp r (tM K F W q1 (RSh K) ma) (tM K F W q2 (RPk K) mb) σ H Q := by
  obtain ⟨st, G, fpf, S, A⟩ := h
  refine ⟨st, G, fpf, S, A.bndK (q1 := q1) (q2 := false) (R1 := RSh K) nq fun d st1 G1 fpf1 v H1 g1 S1 z1 e1 r1 A1 => ?_⟩
  refine ⟨st1, G1, fpf1, S1, A1.bndK (q1 := q2) (q2 := false) (R1 := RPk K) nq fun e st2 G2 fpf2 u H2 g2 S2 z2 e2 r2 A2 => ?_⟩
  unfold lift at A2
  cases w : g d e with
  | none => rw [w] at A2; exact A2.elim
  | some z => rw [w] at A2; exact hs S2.gh (.rep (Rep.mono g2 r1)) r2 w fun v H' k => A2.end1 S2 k
theorem op_ofQ (hs : OpS K r g) {Q : VK} (h : tM K F W false (RSh K) (opM g ma mb) σ H Q) : tOp r (tM K F W q1 (RPk K) ma) (tM K F W true (RPk K) mb) σ H Q := by
  obtain ⟨st, G, fpf, S, A⟩ := h
  refine ⟨st, G, fpf, S, A.bndK (q1 := q1) (q2 := false) (R1 := RPk K) nq fun d st1 G1 fpf1 v H1 g1 S1 z1 e1 r1 A1 => ?_⟩
  refine ⟨st1, G1, fpf1, S1, A1.bndK (q1 := true) (q2 := false) (R1 := RPk K) nq fun e st2 G2 fpf2 u H2 g2 S2 z2 e2 r2 A2 => ?_⟩
  obtain ⟨rfl, rfl, rfl⟩ := z2 rfl
  unfold lift at A2
  cases w : g d e with
  | none => rw [w] at A2; exact A2.elim
  | some z => rw [w] at A2; exact hs S2.gh r1 r2 w fun v H' k => A2.end1 S2 k
theorem op_of0 (hs : OpS0 K r g) {Q : VK} (h : tM K F W (q1 && q2) (RSh K) (opM g ma mb) σ H Q) : tOp r (tM K F W q1 (RSh K) ma) (tM K F W q2 (RPk K) mb) σ H Q := by
  obtain ⟨st, G, fpf, S, A⟩ := h
  refine ⟨st, G, fpf, S, A.bndK (q1 := q1) (q2 := q2) (R1 := RSh K) (fun z => Bool.and_eq_true_iff.mp z) fun d st1 G1 fpf1 v H1 g1 S1 z1 e1 r1 A1 => ?_⟩
  refine ⟨st1, G1, fpf1, S1, A1.bndK (q1 := q2) (q2 := true) (R1 := RPk K) (fun z => ⟨z, rfl⟩) fun e st2 G2 fpf2 u H2 g2 S2 z2 e2 r2 A2 => ?_⟩
  unfold lift at A2
  cases w : g d e with
  | none => rw [w] at A2; exact A2.elim
  | some z => rw [w] at A2; exact hs S2.gh (.rep (Rep.mono g2 r1)) r2 w fun v k => A2.end0 S2 k
theorem op_of0Q (hs : OpS0 K r g) {Q : VK} (h : tM K F W q1 (RSh K) (opM g ma mb) σ H Q) : tOp r (tM K F W q1 (RPk K) ma) (tM K F W true (RPk K) mb) σ H Q := by
  obtain ⟨st, G, fpf, S, A⟩ := h
  refine ⟨st, G, fpf, S, A.bndK (q1 := q1) (q2 := true) (R1 := RPk K) (fun z => ⟨z, rfl⟩) fun d st1 G1 fpf1 v H1 g1 S1 z1 e1 r1 A1 => ?_⟩
  refine ⟨st1, G1, fpf1, S1, A1.bndK (q1 := true) (q2 := true) (R1 := RPk K) (fun z => ⟨z, rfl⟩) fun e st2 G2 fpf2 u H2 g2 S2 z2 e2 r2 A2 => ?_⟩
  obtain ⟨rfl, rfl, rfl⟩ := z2 rfl
  unfold lift at A2
  cases w : g d e with
  | none => rw [w] at A2; exact A2.elim
  | some z => rw [w] at A2; exact hs S2.gh r1 r2 w fun v k => A2.end0 S2 k
theorem un_of {g : D → Option D} {r : V → Hp → VK → Prop} (hs : UnS K r g) {Q : VK} (h : tM K F W q (RSh K) (unM g ma) σ H Q) : tUn r (tM K F W q (RPk K) ma) σ H Q := by
  obtain ⟨st, G, fpf, S, A⟩ := h
  refine ⟨st, G, fpf, S, A.bndK (q1 := q) (q2 := true) (R1 := RPk K) (fun z => ⟨z, rfl⟩) fun d st1 G1 fpf1 v H1 g1 S1 z1 e1 r1 A1 => ?_⟩
  unfold lift at A1
  cases w : g d with
  | none => rw [w] at A1; exact A1.elim
  | some z => rw [w] at A1; exact hs S1.gh r1 w fun v k => A1.end0 S1 k
theorem test_of {m : M D} {Q : Bool → Hp → Prop} (h : tM K F W q REq (testM m) σ H Q) : tM K F W q (RSh K) m σ H (fun x H' => ∃ k, x = .bl k ∧ Q k H') := by
  obtain ⟨st, G, fpf, S, A⟩ := h
  refine ⟨st, G, fpf, S, A.bndK (q1 := q) (q2 := true) (R1 := RSh K) (fun z => ⟨z, rfl⟩) fun d st1 G1 fpf1 v H1 g1 S1 z1 e1 r1 A1 => ?_⟩
  cases d with
  | bl b => exact ⟨b, (Rp.rep (H := H1) r1).bl, A1 b H1 G1 fpf1 (fun _ => ⟨rfl, rfl, rfl⟩) (Same.refl G1) S1 rfl⟩
  | _ => exact A1.elim
/-- shared is readable -/
theorem pk_of {m : M D} {Q : VK} (h : tM K F W q (RPk K) m σ H Q) : tM K F W q (RSh K) m σ H Q := by
  obtain ⟨st, G, fpf, S, A⟩ := h
  refine ⟨st, G, fpf, S, ?_⟩
  revert A
  cases m st with
  | ok d st' => exact fun A v H' G' fpf' a b c e => A v H' G' fpf' a b c (.rep e)
  | err x st' => exact id
  | stuck => exact id
/-- a fresh flat thing is shared -/
theorem share_of {m : M D} {Q : VK} (h : tM K F W false (RSh K) (shareM m) σ H Q) : tM K F W q (RFr K F) m σ H Q := by
  obtain ⟨st, G, fpf, S, A⟩ := h
  refine ⟨st, G, fpf, S, A.bndK (q1 := q) (q2 := false) (R1 := RFr K F) nq fun d st1 G1 fpf1 v H1 g1 S1 z1 e1 r1 A1 => ?_⟩
  by_cases f : flatD d = true
  · rw [if_pos f] at A1
    obtain ⟨G2, gg, S2, rr⟩ := S1.share r1 f
    exact A1 v H1 G2 fpf1 nq gg S2 rr
  · rw [if_neg f] at A1
    exact A1.elim
theorem bind_of {α ρ β τ : Type} {R : Rl α ρ} {R1 : Rl β τ} {m : M β} {f : β → M α} (hq : q = true → q1 = true ∧ q2 = true) {Q : ρ → Hp → Prop} {T : τ → Hp → Prop} (h : tM K F W q R (bnd m f) σ H Q)
    (k : ∀ d st1 G1 fpf1 v H1, Sync K F G1 fpf1 σ H1 st1 → R1 G1 fpf1 st1 H1 d v → At K F W q2 R (f d st1) st1 G1 fpf1 σ H1 Q → T v H1) : tM K F W q1 R1 m σ H T := by
  obtain ⟨st, G, fpf, S, A⟩ := h
  exact ⟨st, G, fpf, S, (A.bnd (q1 := q1) (q2 := q2) (R1 := R1) hq).imp fun v H1 ⟨d, st1, G1, fpf1, g1, S1, z1, e1, r1, A1⟩ => k d st1 G1 fpf1 v H1 S1 r1 A1⟩
theorem At.done {α ρ : Type} {R : Rl α ρ} {d : α} {st : DSt} {G : Hp} {fpf : Nat → List Addr} {Q : ρ → Hp → Prop} {v : ρ} (A : At K F W q R (.ok d st) st G fpf σ H Q) (S : Sync K F G fpf σ H st) (r : R G fpf st H d v) : Q v H :=
  A v H G fpf (fun _ => ⟨rfl, rfl, rfl⟩) (Same.refl G) S r
end
section
variable {X : Cx} {F : Fr} {W : WX} {q q1 q2 : Bool} {a b c e o : Expr} {es : List Expr} {pos p : Pos} {ma mb mc m : M D} {ta tb : M Bool}
/-! ### constants, names -/
theorem de_int {i : Int} {j : Nat} : PE X (.Constant (.int i) j pos) (tM X.K F W q (RSh X.K) (ret (.int i))) := PE_mono pe_int fun σ H Q ⟨st, G, fpf, S, A⟩ => A.done S (.int i)
theorem de_bl {i : Bool} {j : Nat} : PE X (.Constant (.bool i) j pos) (tM X.K F W q (RSh X.K) (ret (.bl i))) := PE_mono pe_bl fun σ H Q ⟨st, G, fpf, S, A⟩ => A.done S (.bl i)
theorem de_non {j : Nat} : PE X (.Constant .none j pos) (tM X.K F W q (RSh X.K) (ret .non)) := PE_mono pe_non fun σ H Q ⟨st, G, fpf, S, A⟩ => A.done S .non
theorem de_str {x : Str} {j : Nat} : PE X (.Constant (.str x) j pos) (tM X.K F W q (RSh X.K) (ret (.str x))) := PE_mono pe_str fun σ H Q ⟨st, G, fpf, S, A⟩ => A.done S (.str x)
theorem de_glob {x : Str} {v : V} {u : Value} {d : D} (hg : Gl X x) (hm : X.mg x = some u) (r : RelV v u) (rd : ∀ G, Rep X.K G d v) (hd : (x == ("__debug__" : Str)) = false := by decide) : PE X (.Name x pos) (tM X.K F W q (RSh X.K) (ret d)) :=
  PE_mono (pe_glob hg hm r hd) fun σ H Q ⟨st, G, fpf, S, A⟩ => A.done S (rd G)
theorem de_var (i : Nat) {x : Str} (hN : X.N[i]? = some x := by rfl) (hv : Vis X.env.scope x := by first | exact Or.inl rfl | exact Or.inr (Or.inl rfl) | exact Or.inr (Or.inr rfl)) (hd : (x == ("__debug__" : Str)) = false := by decide) (hcd : (x == ("__classdict__" : Str)) = false := by decide) :
    PE X (.Name x pos) (tM X.K F W false (RSh X.K) (varM i)) := PE_mono (pv i hN hv hd hcd) fun σ H Q ⟨st, G, fpf, S, A⟩ => by
  unfold varM at A
  cases h : st[i]? with
  | none => rw [h] at A; exact A.elim
  | some s =>
    rw [h] at A
    cases s with
    | none => exact A.elim
    | some s =>
      cases s with
      | sh d =>
        obtain ⟨v, h1, h2⟩ := S.sh i d h
        exact ⟨v, h1, A.done S h2⟩
      | ow mu d =>
        cases mu with
        | true => exact A.elim
        | false =>
          dsimp only at A
          by_cases f : flatD d = true
          · rw [if_pos f] at A
            obtain ⟨G', v, gg, S', h1, h2⟩ := S.freeze h f
            exact ⟨v, h1, A v H G' fpf nq gg S' h2⟩
          · rw [if_neg f] at A; exact A.elim
theorem dp_var (i : Nat) {x : Str} (hN : X.N[i]? = some x := by rfl) (hv : Vis X.env.scope x := by first | exact Or.inl rfl | exact Or.inr (Or.inl rfl) | exact Or.inr (Or.inr rfl)) (hd : (x == ("__debug__" : Str)) = false := by decide) (hcd : (x == ("__classdict__" : Str)) = false := by decide) :
    PE X (.Name x pos) (tM X.K F W q (RPk X.K) (peekM i)) := PE_mono (pv i hN hv hd hcd) fun σ H Q ⟨st, G, fpf, S, A⟩ => by
  unfold peekM at A
  cases h : st[i]? with
  | none => rw [h] at A; exact A.elim
  | some s =>
    rw [h] at A
    cases s with
    | none => exact A.elim
    | some s =>
      cases s with
      | sh d =>
        obtain ⟨v, h1, h2⟩ := S.sh i d h
        exact ⟨v, h1, A.done S (.rep h2)⟩
      | ow mu d =>
        obtain ⟨a, h1, h2, _⟩ := S.ow i mu d h
        exact ⟨.ref a, h1, A.done S (.own h2)⟩
theorem de_pk (h : PE X e (tM X.K F W q (RSh X.K) m)) : PE X e (tM X.K F W q (RPk X.K) m) := PE_mono h fun _ _ _ z => pk_of z
theorem de_fr (h : PE X e (tM X.K F W q (RFr X.K F) m)) : PE X e (tM X.K F W false (RSh X.K) (shareM m)) := PE_mono h fun _ _ _ z => share_of z
/-! ### operators -/
variable {op : Operator} {cop : CmpOp} {r r' : R2} {g g' : D → D → Option D}
theorem de_op (ho : OpR X (binaryOp op) r) (hs : OpS X.K r g) (ha : PE X a (tM X.K F W q1 (RSh X.K) ma)) (hb : PE X b (tM X.K F W q2 (RPk X.K) mb)) : PE X (.BinOp a op b pos) (tM X.K F W false (RSh X.K) (opM g ma mb)) :=
  PE_mono (pe_op ho ha hb) fun _ _ _ h => op_of hs h
theorem de_opQ (ho : OpR X (binaryOp op) r) (hs : OpS X.K r g) (ha : PE X a (tM X.K F W q1 (RPk X.K) ma)) (hb : PE X b (tM X.K F W true (RPk X.K) mb)) : PE X (.BinOp a op b pos) (tM X.K F W false (RSh X.K) (opM g ma mb)) :=
  PE_mono (pe_op ho ha hb) fun _ _ _ h => op_ofQ hs h
theorem de_op0 (ho : OpR X (binaryOp op) r) (hs : OpS0 X.K r g) (ha : PE X a (tM X.K F W q1 (RSh X.K) ma)) (hb : PE X b (tM X.K F W q2 (RPk X.K) mb)) : PE X (.BinOp a op b pos) (tM X.K F W (q1 && q2) (RSh X.K) (opM g ma mb)) :=
  PE_mono (pe_op ho ha hb) fun _ _ _ h => op_of0 hs h
theorem de_op0Q (ho : OpR X (binaryOp op) r) (hs : OpS0 X.K r g) (ha : PE X a (tM X.K F W q1 (RPk X.K) ma)) (hb : PE X b (tM X.K F W true (RPk X.K) mb)) : PE X (.BinOp a op b pos) (tM X.K F W q1 (RSh X.K) (opM g ma mb)) :=
  PE_mono (pe_op ho ha hb) fun _ _ _ h => op_of0Q hs h
theorem de_un {uop : UnaryOp} {r : V → Hp → VK → Prop} {g : D → Option D} (ho : UnR X (unaryOp uop) r) (hs : UnS X.K r g) (ha : PE X a (tM X.K F W q (RPk X.K) ma)) : PE X (.UnaryOp uop a pos) (tM X.K F W q (RSh X.K) (unM g ma)) :=
  PE_mono (pe_un ho ha) fun _ _ _ h => un_of hs h
theorem de_cmp (ho : OpR X (compareOp cop) r) (hs : OpS0 X.K r g) (ha : PE X a (tM X.K F W q1 (RSh X.K) ma)) (hb : PE X b (tM X.K F W q2 (RPk X.K) mb)) (hm : behindInMarks cop b = false) : PE X (.Compare a [cop] [b] pos) (tM X.K F W (q1 && q2) (RSh X.K) (opM g ma mb)) :=
  PE_mono (pe_cmpR ho ha hb hm) fun _ _ _ h => op_of0 hs h
theorem de_cmpQ (ho : OpR X (compareOp cop) r) (hs : OpS0 X.K r g) (ha : PE X a (tM X.K F W q1 (RPk X.K) ma)) (hb : PE X b (tM X.K F W true (RPk X.K) mb)) (hm : behindInMarks cop b = false) : PE X (.Compare a [cop] [b] pos) (tM X.K F W q1 (RSh X.K) (opM g ma mb)) :=
  PE_mono (pe_cmpR ho ha hb hm) fun _ _ _ h => op_of0Q hs h
theorem dt_cmp (ho : OpR X (compareOp cop) r) (hs : OpS0 X.K r g) (ha : PE X a (tM X.K F W q1 (RSh X.K) ma)) (hb : PE X b (tM X.K F W q2 (RPk X.K) mb)) (hm : behindInMarks cop b = false) : PT X (.Compare a [cop] [b] pos) (tM X.K F W (q1 && q2) REq (testM (opM g ma mb))) :=
  PT_mono (pt_cmpR ho ha hb hm) fun _ _ _ h => op_of0 hs (test_of h)
theorem dt_cmpQ (ho : OpR X (compareOp cop) r) (hs : OpS0 X.K r g) (ha : PE X a (tM X.K F W q1 (RPk X.K) ma)) (hb : PE X b (tM X.K F W true (RPk X.K) mb)) (hm : behindInMarks cop b = false) : PT X (.Compare a [cop] [b] pos) (tM X.K F W q1 REq (testM (opM g ma mb))) :=
  PT_mono (pt_cmpR ho ha hb hm) fun _ _ _ h => op_of0Q hs (test_of h)
theorem dt_val (h : PE X e (tM X.K F W q (RSh X.K) m)) (he : ∀ whole, isTrue e X.env whole = (do let v ← whole; standAt e.pos; holding [v] (truthy v)) := by intro _; rfl) : PT X e (tM X.K F W q REq (testM m)) :=
  PT_mono (pt_val h he) fun _ _ _ h => test_of h
/-! ### and, or, not -/
theorem dt_and1 (ha : PT X a (tM X.K F W q REq ta)) : PW X (.BoolOp .And [a] pos) (tM X.K F W q REq ta) := pw_and1 ha
theorem dt_or1 (ha : PT X a (tM X.K F W q REq ta)) : PW X (.BoolOp .Or [a] pos) (tM X.K F W q REq ta) := pw_or1 ha
theorem dt_and (ha : PT X a (tM X.K F W q1 REq ta)) (hb : PW X (.BoolOp .And (b :: es) pos) (tM X.K F W q2 REq tb)) : PW X (.BoolOp .And (a :: b :: es) pos) (tM X.K F W (q1 && q2) REq (andM ta tb)) :=
  PW_mono (pw_and ha hb) fun σ H Q h => bind_of (q2 := q2) (fun z => Bool.and_eq_true_iff.mp z) h fun d st1 G1 fpf1 v H1 S1 r1 A1 => by
    cases r1
    cases d with
    | true => rw [if_pos rfl] at A1 ⊢; exact ⟨st1, G1, fpf1, S1, A1⟩
    | false => rw [if_neg Bool.false_ne_true] at A1 ⊢; exact A1.done S1 rfl
theorem dt_or (ha : PT X a (tM X.K F W q1 REq ta)) (hb : PW X (.BoolOp .Or (b :: es) pos) (tM X.K F W q2 REq tb)) : PW X (.BoolOp .Or (a :: b :: es) pos) (tM X.K F W (q1 && q2) REq (orM ta tb)) :=
  PW_mono (pw_or ha hb) fun σ H Q h => bind_of (q2 := q2) (fun z => Bool.and_eq_true_iff.mp z) h fun d st1 G1 fpf1 v H1 S1 r1 A1 => by
    cases r1
    cases d with
    | true => rw [if_pos rfl] at A1 ⊢; exact A1.done S1 rfl
    | false => rw [if_neg Bool.false_ne_true] at A1 ⊢; exact ⟨st1, G1, fpf1, S1, A1⟩
theorem dt_not (ha : PT X a (tM X.K F W q REq ta)) : PT X (.UnaryOp .Not a pos) (tM X.K F W q REq (notM ta)) :=
  PT_mono (pt_not ha) fun σ H Q h => bind_of (q2 := true) (fun z => ⟨z, rfl⟩) h fun d st1 G1 fpf1 v H1 S1 r1 A1 => by
    cases r1
    exact A1.done S1 rfl
theorem de_one {bop : BoolOp} (h : PE X a (tM X.K F W q (RSh X.K) m)) : PE X (.BoolOp bop [a] pos) (tM X.K F W q (RSh X.K) m) := pe_one h
theorem de_and (ha : PE X a (tM X.K F W q1 (RSh X.K) ma)) (hb : PE X (.BoolOp .And (b :: es) pos) (tM X.K F W q2 (RSh X.K) mb)) : PE X (.BoolOp .And (a :: b :: es) pos) (tM X.K F W (q1 && q2) (RSh X.K) (andV ma mb)) :=
  PE_mono (pe_and ha hb) fun σ H Q h => bind_of (q2 := q2) (fun z => Bool.and_eq_true_iff.mp z) h fun d st1 G1 fpf1 v H1 S1 r1 A1 => by
    cases d with
    | bl k =>
      refine ⟨k, (Rp.rep (H := H1) r1).bl, ?_⟩
      cases k with
      | true => rw [if_pos rfl]; exact ⟨st1, G1, fpf1, S1, A1⟩
      | false => rw [if_neg Bool.false_ne_true]; exact A1.done S1 (.bl false)
    | _ => exact A1.elim
theorem de_not (ha : PE X a (tM X.K F W q (RSh X.K) ma)) : PE X (.UnaryOp .Not a pos) (tM X.K F W q (RSh X.K) (notV ma)) :=
  PE_mono (pe_not ha) fun σ H Q h => bind_of (q2 := true) (fun z => ⟨z, rfl⟩) h fun d st1 G1 fpf1 v H1 S1 r1 A1 => by
    cases d with
    | bl k => exact ⟨k, (Rp.rep (H := H1) r1).bl, A1.done S1 (.bl _)⟩
    | _ => exact A1.elim
theorem de_if {c : Expr} (hc : PT X c (tM X.K F W q REq ta)) (ha : PE X a (tM X.K F W q1 (RSh X.K) ma)) (hb : PE X b (tM X.K F W q2 (RSh X.K) mb)) : PE X (.IfExp c a b pos) (tM X.K F W (q && (q1 && q2)) (RSh X.K) (iteM ta ma mb)) :=
  PE_mono (pe_ifExp hc ha hb) fun σ H Q h => bind_of (q2 := q1 && q2) (fun z => Bool.and_eq_true_iff.mp z) h fun d st1 G1 fpf1 v H1 S1 r1 A1 => by
    cases r1
    cases d with
    | true =>
      rw [if_pos rfl] at A1 ⊢
      refine ⟨st1, G1, fpf1, S1, ?_⟩
      revert A1
      cases ma st1 with
      | ok d st' => exact fun A1 v H' G' fpf' z => A1 v H' G' fpf' fun y => z (Bool.and_eq_true_iff.mp y).1
      | err x st' => exact id
      | stuck => exact id
    | false =>
      rw [if_neg Bool.false_ne_true] at A1 ⊢
      refine ⟨st1, G1, fpf1, S1, ?_⟩
      revert A1
      cases mb st1 with
      | ok d st' => exact fun A1 v H' G' fpf' z => A1 v H' G' fpf' fun y => z (Bool.and_eq_true_iff.mp y).2
      | err x st' => exact id
      | stuck => exact id
/-! ### argument lists, displays -/
variable {ms : List (M D)}
theorem da_nil : PA X [] (tM X.K F W q (RLs X.K) (argsM [])) := PA_mono pa_nil fun σ H Q ⟨st, G, fpf, S, A⟩ => A.done S RepA.nil
theorem da_cons (ha : PE X a (tM X.K F W q1 (RSh X.K) m)) (hr : PA X es (tM X.K F W q2 (RLs X.K) (argsM ms))) (hs : starEach (a :: es) X.env = (false, eval a X.env) :: starEach es X.env := by rfl) : PA X (a :: es) (tM X.K F W (q1 && q2) (RLs X.K) (argsM (m :: ms))) :=
  PA_mono (pa_cons ha hr hs) fun σ H Q ⟨st, G, fpf, S, A⟩ => by
    refine ⟨st, G, fpf, S, A.bndK (q1 := q1) (q2 := q2) (R1 := RSh X.K) (fun z => Bool.and_eq_true_iff.mp z) fun d st1 G1 fpf1 v H1 g1 S1 z1 e1 r1 A1 => ?_⟩
    refine ⟨st1, G1, fpf1, S1, A1.bndK (q1 := q2) (q2 := true) (R1 := RLs X.K) (fun z => ⟨z, rfl⟩) fun ds st2 G2 fpf2 u H2 g2 S2 z2 e2 r2 A2 => ?_⟩
    exact A2.done S2 (RepA.cons (Rep.mono g2 r1) r2)
theorem argsM_len : ∀ {ms : List (M D)} {st st' : DSt} {ds : List D}, argsM ms st = .ok ds st' → ds.length = ms.length
  | [], st, st', ds, h => by
    simp only [argsM, ret] at h
    cases h; rfl
  | m :: ms, st, st', ds, h => by
    unfold argsM bnd at h
    cases e : m st with
    | stuck => rw [e] at h; cases h
    | err x s => rw [e] at h; cases h
    | ok d s =>
      rw [e] at h
      dsimp only at h
      cases e2 : argsM ms s with
      | stuck => rw [e2] at h; cases h
      | err x s => rw [e2] at h; cases h
      | ok ds' s' =>
        rw [e2] at h
        dsimp only [ret] at h
        cases h
        rw [List.length_cons, List.length_cons, argsM_len e2]
def lstM (ms : List (M D)) : M D := bnd (argsM ms) fun ds => ret (.lst ds)
def tupM (ms : List (M D)) : M D := bnd (argsM ms) fun ds => ret (.tup ds)
theorem small {n : Nat} (h : n ≤ 1000) : n ≤ sizeLine := by rw [sizeLine_eq]; omega
theorem df_lst (h : PA X es (tM X.K F W q (RLs X.K) (argsM ms))) (hl : ms.length ≤ 1000 := by exact Nat.le_of_ble_eq_true rfl) : PE X (.List es pos) (tM X.K F W false (RFr X.K F) (lstM ms)) :=
  PE_mono (pe_lst h) fun σ H Q ⟨st, G, fpf, S, A⟩ => by
    refine ⟨st, G, fpf, S, A.bndK (q1 := q) (q2 := false) (R1 := RLs X.K) nq fun ds st1 G1 fpf1 vs H1 g1 S1 z1 e1 r1 A1 => ?_⟩
    have r1' : RepA X.K G1 ds vs := r1
    refine ⟨by rw [← r1'.length, argsM_len e1]; exact small hl, fun p hp => A1.endF S1 ⟨p, _, hp, rfl, rfl, .lst r1'⟩⟩
theorem de_tup {x1 : Nat} (h : PA X es (tM X.K F W q (RLs X.K) (argsM ms))) (hl : ms.length ≤ 1000 := by exact Nat.le_of_ble_eq_true rfl) : PE X (.Tuple es x1 pos) (tM X.K F W false (RSh X.K) (tupM ms)) :=
  PE_mono (pe_tup h) fun σ H Q ⟨st, G, fpf, S, A⟩ => by
    refine ⟨st, G, fpf, S, A.bndK (q1 := q) (q2 := false) (R1 := RLs X.K) nq fun ds st1 G1 fpf1 vs H1 g1 S1 z1 e1 r1 A1 => ?_⟩
    have r1' : RepA X.K G1 ds vs := r1
    refine ⟨by rw [← r1'.length, argsM_len e1]; exact small hl, fun p hp => A1.endN S1 ⟨p, _, hp, rfl, rfl, .tup r1'⟩⟩
end
end DL
namespace DL
variable [TB] [LC]
open PySem L2
/-! ### plain data as the library's -/
mutual
def toP : D → Option PyData
  | .non => some .none
  | .bl b => some (.bool b)
  | .int i => some (.int i)
  | .str x => some (.str x)
  | .lst ds => (toPs ds).map .list
  | .kl ds => (toPs ds).map .list
  | .tup ds => (toPs ds).map .tuple
  | _ => none
def toPs : List D → Option (List PyData)
  | [] => some []
  | d :: ds => match toP d, toPs ds with
    | some p, some ps => some (p :: ps)
    | _, _ => none
end
mutual
theorem plain_toP : ∀ {d : D} {p : PyData}, toP d = some p → p.plain = true
  | .non, p, h => by simp only [toP, Option.some.injEq] at h; subst h; rfl
  | .bl b, p, h => by simp only [toP, Option.some.injEq] at h; subst h; rfl
  | .int b, p, h => by simp only [toP, Option.some.injEq] at h; subst h; rfl
  | .str b, p, h => by simp only [toP, Option.some.injEq] at h; subst h; rfl
  | .lst ds, p, h => by
    simp only [toP, Option.map_eq_some_iff] at h
    obtain ⟨ps, e, rfl⟩ := h
    simp only [PyData.plain]; exact plain_toPs e
  | .kl ds, p, h => by
    simp only [toP, Option.map_eq_some_iff] at h
    obtain ⟨ps, e, rfl⟩ := h
    simp only [PyData.plain]; exact plain_toPs e
  | .tup ds, p, h => by
    simp only [toP, Option.map_eq_some_iff] at h
    obtain ⟨ps, e, rfl⟩ := h
    simp only [PyData.plain]; exact plain_toPs e
  | .ty n, p, h => by simp [toP] at h
  | .rf n, p, h => by simp [toP] at h
  | .dK n, p, h => by simp [toP] at h
  | .dT n, p, h => by simp [toP] at h
  | .obj c n, p, h => by simp [toP] at h
  | .box n, p, h => by simp [toP] at h
theorem plain_toPs : ∀ {ds : List D} {ps : List PyData}, toPs ds = some ps → PyData.plainAll ps = true
  | [], ps, h => by simp only [toPs, Option.some.injEq] at h; subst h; rfl
  | d :: ds, ps, h => by
    unfold toPs at h
    cases e1 : toP d with
    | none => rw [e1] at h; cases h
    | some p =>
      cases e2 : toPs ds with
      | none => rw [e1, e2] at h; cases h
      | some qs =>
        rw [e1, e2] at h
        cases h
        simp only [PyData.plainAll, Bool.and_eq_true]
        exact ⟨plain_toP e1, plain_toPs e2⟩
end
section
variable {K : PySem.W.Frag} {G H : Hp}
mutual
theorem Rep.dp : ∀ {d : D} {v : V} {p : PyData}, Rep K G d v → toP d = some p → Dp K G v p
  | _, _, p, .non, h => by simp only [toP, Option.some.injEq] at h; subst h; exact .non
  | _, _, p, .bl b, h => by simp only [toP, Option.some.injEq] at h; subst h; exact .bl b
  | _, _, p, .int b, h => by simp only [toP, Option.some.injEq] at h; subst h; exact .int b
  | _, _, p, .str b, h => by simp only [toP, Option.some.injEq] at h; subst h; exact .str b
  | _, _, p, .ty b, h => by simp [toP] at h
  | _, _, p, .rf b, h => by simp [toP] at h
  | _, _, p, .lst q r, h => by
    simp only [toP, Option.map_eq_some_iff] at h
    obtain ⟨ps, e, rfl⟩ := h
    exact .lst (.inl (.inl q)) (RepA.dp r e)
  | _, _, p, .kl q r, h => by
    simp only [toP, Option.map_eq_some_iff] at h
    obtain ⟨ps, e, rfl⟩ := h
    exact .lst q (RepA.dp r e)
  | _, _, p, .tup q r, h => by
    simp only [toP, Option.map_eq_some_iff] at h
    obtain ⟨ps, e, rfl⟩ := h
    exact .tup q (RepA.dp r e)
  | _, _, p, .dK _ _ _, h => by simp [toP] at h
  | _, _, p, .dT _ _ _, h => by simp [toP] at h
  | _, _, p, .obj _ _ _, h => by simp [toP] at h
theorem RepA.dp : ∀ {ds : List D} {vs : List V} {ps : List PyData}, RepA K G ds vs → toPs ds = some ps → DpAll K G vs ps
  | _, _, ps, .nil, h => by simp only [toPs, Option.some.injEq] at h; subst h; exact .nil
  | d :: ds, _, ps, .cons r t, h => by
    unfold toPs at h
    cases e1 : toP d with
    | none => rw [e1] at h; cases h
    | some p =>
      cases e2 : toPs ds with
      | none => rw [e1, e2] at h; cases h
      | some qs =>
        rw [e1, e2] at h
        cases h
        exact .cons (Rep.dp r e1) (RepA.dp t e2)
end
theorem Rp.dp {d : D} {v : V} {p : PyData} (g : Same G H) (h : Rp K G H d v) (e : toP d = some p) : Dp K H v p := by
  cases h with
  | rep h => exact (h.mono g).dp e
  | own h =>
    cases h with
    | flat q r => exact ((r.mono g).rep q).dp e
    | obj => simp [toP] at e
end
/-! ### ==, !=, <, <=, >, >= -/
def eqvD (d e : D) : Option Bool := match toP d, toP e with
  | some p, some q => if min p.depth q.depth ≤ 64 then some (PyData.eqv p q) else none
  | _, _ => none
def eqD (d e : D) : Option D := (eqvD d e).map .bl
def neD (d e : D) : Option D := (eqvD d e).map fun b => .bl (!b)
def isNo : PyData → Bool
  | .none => true
  | _ => false
theorem isNo_ne {p : PyData} (h : isNo p = false) : p ≠ .none := by
  rintro rfl
  cases h
def ltvD (d e : D) : Option Bool := match d, e with
  | .int i, .int j => some (decide (i < j))
  | d, e => match toP d, toP e with
    | some p, some q => if min p.depth q.depth ≤ 64 ∧ PySem.W.alike p q = true ∧ isNo p = false then some (PySem.W.dataLt p q) else none
    | _, _ => none
def levD (d e : D) : Option Bool := match d, e with
  | .int i, .int j => some (decide (i ≤ j))
  | d, e => match toP d, toP e with
    | some p, some q => if min p.depth q.depth ≤ 64 ∧ PySem.W.alike p q = true ∧ isNo p = false then some (!PySem.W.dataLt q p) else none
    | _, _ => none
def gtvD (d e : D) : Option Bool := match d, e with
  | .int i, .int j => some (decide (j < i))
  | d, e => match toP d, toP e with
    | some p, some q => if min p.depth q.depth ≤ 64 ∧ PySem.W.alike p q = true ∧ isNo p = false then some (PySem.W.dataLt q p) else none
    | _, _ => none
def gevD (d e : D) : Option Bool := match d, e with
  | .int i, .int j => some (decide (j ≤ i))
  | d, e => match toP d, toP e with
    | some p, some q => if min p.depth q.depth ≤ 64 ∧ PySem.W.alike p q = true ∧ isNo p = false then some (!PySem.W.dataLt p q) else none
    | _, _ => none
def ltD (d e : D) : Option D := (ltvD d e).map .bl
def leD (d e : D) : Option D := (levD d e).map .bl
def gtD (d e : D) : Option D := (gtvD d e).map .bl
def geD (d e : D) : Option D := (gevD d e).map .bl
def rEqP (K : PySem.W.Frag) : R2 := fun x y H Q => ∃ d e, Dp K H x d ∧ Dp K H y e ∧ d.plain = true ∧ e.plain = true ∧ min d.depth e.depth ≤ 64 ∧ Q (.bl (PyData.eqv d e)) H
def rNeP (K : PySem.W.Frag) : R2 := fun x y H Q => ∃ d e, Dp K H x d ∧ Dp K H y e ∧ d.plain = true ∧ e.plain = true ∧ min d.depth e.depth ≤ 64 ∧ Q (.bl (!PyData.eqv d e)) H
def rCmpP (K : PySem.W.Frag) (f : PyData → PyData → Bool) : R2 := fun x y H Q => ∃ d e, Dp K H x d ∧ Dp K H y e ∧ PySem.W.alike d e = true ∧ d ≠ .none ∧ min d.depth e.depth ≤ 64 ∧ Q (.bl (f d e)) H
section
variable {X : Cx}
theorem op_eqP (hu : X.A.units + 64 < cLine) : OpR X (compareOp .Eq) (rEqP X.K) := by
  intro pins s σ H x y v u Q I rx ry h
  obtain ⟨d, e, hd, he, sd, se, hm, q⟩ := h
  obtain ⟨as, r1⟩ := Dp.reads I d x v hd rx
  obtain ⟨bs, r2⟩ := Dp.reads I e y u he ry
  exact PySem.SeqAt.eq_plain r1 r2 sd se (by omega) ⟨.bl _, H, I, rfl, q⟩
theorem op_neP (hu : X.A.units + 64 < cLine) : OpR X (compareOp .NotEq) (rNeP X.K) := by
  intro pins s σ H x y v u Q I rx ry h
  obtain ⟨d, e, hd, he, sd, se, hm, q⟩ := h
  obtain ⟨as, r1⟩ := Dp.reads I d x v hd rx
  obtain ⟨bs, r2⟩ := Dp.reads I e y u he ry
  exact PySem.SeqAt.ne_plain r1 r2 sd se (by omega) ⟨.bl _, H, I, rfl, q⟩
theorem op_ltP (hu : X.A.units + 64 < cLine) : OpR X (compareOp .Lt) (rCmpP X.K fun p q => PySem.W.dataLt p q) := by
  intro pins s σ H x y v u Q I rx ry h
  obtain ⟨d, e, hd, he, al, nn, hm, q⟩ := h
  obtain ⟨as, r1⟩ := Dp.reads I d x v hd rx
  obtain ⟨bs, r2⟩ := Dp.reads I e y u he ry
  exact PySem.W.lt_data r1 r2 al nn (by omega) ⟨.bl _, H, I, rfl, q⟩
theorem op_gtP (hu : X.A.units + 64 < cLine) : OpR X (compareOp .Gt) (rCmpP X.K fun p q => PySem.W.dataLt q p) := by
  intro pins s σ H x y v u Q I rx ry h
  obtain ⟨d, e, hd, he, al, nn, hm, q⟩ := h
  obtain ⟨as, r1⟩ := Dp.reads I d x v hd rx
  obtain ⟨bs, r2⟩ := Dp.reads I e y u he ry
  exact PySem.W.gt_data r1 r2 al nn (by omega) ⟨.bl _, H, I, rfl, q⟩
theorem op_leP (hu : X.A.units + 64 < cLine) : OpR X (compareOp .LtE) (rCmpP X.K fun p q => !PySem.W.dataLt q p) := by
  intro pins s σ H x y v u Q I rx ry h
  obtain ⟨d, e, hd, he, al, nn, hm, q⟩ := h
  obtain ⟨as, r1⟩ := Dp.reads I d x v hd rx
  obtain ⟨bs, r2⟩ := Dp.reads I e y u he ry
  exact PySem.W.le_data r1 r2 al nn (by omega) ⟨.bl _, H, I, rfl, q⟩
theorem op_geP (hu : X.A.units + 64 < cLine) : OpR X (compareOp .GtE) (rCmpP X.K fun p q => !PySem.W.dataLt p q) := by
  intro pins s σ H x y v u Q I rx ry h
  obtain ⟨d, e, hd, he, al, nn, hm, q⟩ := h
  obtain ⟨as, r1⟩ := Dp.reads I d x v hd rx
  obtain ⟨bs, r2⟩ := Dp.reads I e y u he ry
  exact PySem.W.ge_data r1 r2 al nn (by omega) ⟨.bl _, H, I, rfl, q⟩
end
section
variable {K : PySem.W.Frag}
theorem s_eq : OpS0 K (rEqP K) eqD := fun {G H d e z x y Q} g rx ry h q => by
  obtain ⟨b, hb, rfl⟩ := Option.map_eq_some_iff.mp h
  unfold eqvD at hb
  cases e1 : toP d with
  | none => rw [e1] at hb; cases hb
  | some p =>
    cases e2 : toP e with
    | none => rw [e1, e2] at hb; cases hb
    | some p' =>
      rw [e1, e2] at hb
      dsimp only at hb
      by_cases hm : min p.depth p'.depth ≤ 64
      · rw [if_pos hm] at hb; cases hb
        exact ⟨p, p', rx.dp g e1, ry.dp g e2, plain_toP e1, plain_toP e2, hm, q _ (.bl _)⟩
      · rw [if_neg hm] at hb; cases hb
theorem s_ne : OpS0 K (rNeP K) neD := fun {G H d e z x y Q} g rx ry h q => by
  obtain ⟨b, hb, rfl⟩ := Option.map_eq_some_iff.mp h
  unfold eqvD at hb
  cases e1 : toP d with
  | none => rw [e1] at hb; cases hb
  | some p =>
    cases e2 : toP e with
    | none => rw [e1, e2] at hb; cases hb
    | some p' =>
      rw [e1, e2] at hb
      dsimp only at hb
      by_cases hm : min p.depth p'.depth ≤ 64
      · rw [if_pos hm] at hb; cases hb
        exact ⟨p, p', rx.dp g e1, ry.dp g e2, plain_toP e1, plain_toP e2, hm, q _ (.bl _)⟩
      · rw [if_neg hm] at hb; cases hb
/-- an order of data, ints apart -/
theorem s_cmp {f : PyData → PyData → Bool} {p : Int → Int → Bool} {gv : D → D → Option Bool} (h1 : ∀ i j, gv (.int i) (.int j) = some (p i j))
    (h2 : ∀ d e b, gv d e = some b → (∃ i j, d = .int i ∧ e = .int j) ∨ ∃ x y, toP d = some x ∧ toP e = some y ∧ min x.depth y.depth ≤ 64 ∧ PySem.W.alike x y = true ∧ isNo x = false ∧ b = f x y) :
    OpS0 K (fun x y H Q => rI0 (fun i j => .bl (p i j)) x y H Q ∨ rCmpP K f x y H Q) (fun d e => (gv d e).map .bl) := fun {G H d e z x y Q} g rx ry h q => by
  obtain ⟨b, hb, rfl⟩ := Option.map_eq_some_iff.mp h
  rcases h2 d e b hb with ⟨i, j, rfl, rfl⟩ | ⟨a, c, e1, e2, hm, al, nn, rfl⟩
  · rw [h1] at hb; cases hb
    exact .inl ⟨i, j, rx.int, ry.int, q _ (.bl _)⟩
  · exact .inr ⟨a, c, rx.dp g e1, ry.dp g e2, al, isNo_ne nn, hm, q _ (.bl _)⟩
end
theorem ltvD_cases (d e : D) (b : Bool) (h : ltvD d e = some b) : (∃ i j, d = .int i ∧ e = .int j) ∨ ∃ x y, toP d = some x ∧ toP e = some y ∧ min x.depth y.depth ≤ 64 ∧ PySem.W.alike x y = true ∧ isNo x = false ∧ b = PySem.W.dataLt x y := by
  unfold ltvD at h
  split at h
  · exact .inl ⟨_, _, rfl, rfl⟩
  · cases e1 : toP d with
    | none => rw [e1] at h; cases h
    | some x =>
      cases e2 : toP e with
      | none => rw [e1, e2] at h; cases h
      | some y =>
        rw [e1, e2] at h
        dsimp only at h
        by_cases hm : min x.depth y.depth ≤ 64 ∧ PySem.W.alike x y = true ∧ isNo x = false
        · rw [if_pos hm] at h; cases h
          exact .inr ⟨x, y, rfl, rfl, hm.1, hm.2.1, hm.2.2, rfl⟩
        · rw [if_neg hm] at h; cases h
theorem levD_cases (d e : D) (b : Bool) (h : levD d e = some b) : (∃ i j, d = .int i ∧ e = .int j) ∨ ∃ x y, toP d = some x ∧ toP e = some y ∧ min x.depth y.depth ≤ 64 ∧ PySem.W.alike x y = true ∧ isNo x = false ∧ b = !PySem.W.dataLt y x := by
  unfold levD at h
  split at h
  · exact .inl ⟨_, _, rfl, rfl⟩
  · cases e1 : toP d with
    | none => rw [e1] at h; cases h
    | some x =>
      cases e2 : toP e with
      | none => rw [e1, e2] at h; cases h
      | some y =>
        rw [e1, e2] at h
        dsimp only at h
        by_cases hm : min x.depth y.depth ≤ 64 ∧ PySem.W.alike x y = true ∧ isNo x = false
        · rw [if_pos hm] at h; cases h
          exact .inr ⟨x, y, rfl, rfl, hm.1, hm.2.1, hm.2.2, rfl⟩
        · rw [if_neg hm] at h; cases h
theorem gtvD_cases (d e : D) (b : Bool) (h : gtvD d e = some b) : (∃ i j, d = .int i ∧ e = .int j) ∨ ∃ x y, toP d = some x ∧ toP e = some y ∧ min x.depth y.depth ≤ 64 ∧ PySem.W.alike x y = true ∧ isNo x = false ∧ b = PySem.W.dataLt y x := by
  unfold gtvD at h
  split at h
  · exact .inl ⟨_, _, rfl, rfl⟩
  · cases e1 : toP d with
    | none => rw [e1] at h; cases h
    | some x =>
      cases e2 : toP e with
      | none => rw [e1, e2] at h; cases h
      | some y =>
        rw [e1, e2] at h
        dsimp only at h
        by_cases hm : min x.depth y.depth ≤ 64 ∧ PySem.W.alike x y = true ∧ isNo x = false
        · rw [if_pos hm] at h; cases h
          exact .inr ⟨x, y, rfl, rfl, hm.1, hm.2.1, hm.2.2, rfl⟩
        · rw [if_neg hm] at h; cases h
theorem gevD_cases (d e : D) (b : Bool) (h : gevD d e = some b) : (∃ i j, d = .int i ∧ e = .int j) ∨ ∃ x y, toP d = some x ∧ toP e = some y ∧ min x.depth y.depth ≤ 64 ∧ PySem.W.alike x y = true ∧ isNo x = false ∧ b = !PySem.W.dataLt x y := by
  unfold gevD at h
  split at h
  · exact .inl ⟨_, _, rfl, rfl⟩
  · cases e1 : toP d with
    | none => rw [e1] at h; cases h
    | some x =>
      cases e2 : toP e with
      | none => rw [e1, e2] at h; cases h
      | some y =>
        rw [e1, e2] at h
        dsimp only at h
        by_cases hm : min x.depth y.depth ≤ 64 ∧ PySem.W.alike x y = true ∧ isNo x = false
        · rw [if_pos hm] at h; cases h
          exact .inr ⟨x, y, rfl, rfl, hm.1, hm.2.1, hm.2.2, rfl⟩
        · rw [if_neg hm] at h; cases h
section
variable {K : PySem.W.Frag} {X : Cx}
def rLt (K : PySem.W.Frag) : R2 := fun x y H Q => rI0 (fun i j => .bl (decide (i < j))) x y H Q ∨ rCmpP K (fun p q => PySem.W.dataLt p q) x y H Q
def rLe (K : PySem.W.Frag) : R2 := fun x y H Q => rI0 (fun i j => .bl (decide (i ≤ j))) x y H Q ∨ rCmpP K (fun p q => !PySem.W.dataLt q p) x y H Q
def rGt (K : PySem.W.Frag) : R2 := fun x y H Q => rI0 (fun i j => .bl (decide (j < i))) x y H Q ∨ rCmpP K (fun p q => PySem.W.dataLt q p) x y H Q
def rGe (K : PySem.W.Frag) : R2 := fun x y H Q => rI0 (fun i j => .bl (decide (j ≤ i))) x y H Q ∨ rCmpP K (fun p q => !PySem.W.dataLt p q) x y H Q
theorem s_lt : OpS0 K (rLt K) ltD := s_cmp (gv := ltvD) (fun _ _ => rfl) ltvD_cases
theorem s_le : OpS0 K (rLe K) leD := s_cmp (gv := levD) (fun _ _ => rfl) levD_cases
theorem s_gt : OpS0 K (rGt K) gtD := s_cmp (gv := gtvD) (fun _ _ => rfl) gtvD_cases
theorem s_ge : OpS0 K (rGe K) geD := s_cmp (gv := gevD) (fun _ _ => rfl) gevD_cases
theorem o_lt (hu : X.A.units + 64 < cLine) : OpR X (compareOp .Lt) (rLt X.K) := OpR.or op_lt (op_ltP hu)
theorem o_le (hu : X.A.units + 64 < cLine) : OpR X (compareOp .LtE) (rLe X.K) := OpR.or op_le (op_leP hu)
theorem o_gt (hu : X.A.units + 64 < cLine) : OpR X (compareOp .Gt) (rGt X.K) := OpR.or op_gt (op_gtP hu)
theorem o_ge (hu : X.A.units + 64 < cLine) : OpR X (compareOp .GtE) (rGe X.K) := OpR.or op_ge (op_geP hu)
end
end DL
namespace DL
variable [TB] [LC]
open PySem L2
/-! ### ints -/
def addI : D → D → Option D
  | .int i, .int j => some (.int (i + j))
  | _, _ => none
def subI : D → D → Option D
  | .int i, .int j => some (.int (i - j))
  | _, _ => none
def mulI : D → D → Option D
  | .int i, .int j => if (-18446744073709551616 < i ∧ i < 18446744073709551616) ∨ (-18446744073709551616 < j ∧ j < 18446744073709551616) then some (.int (i * j)) else none
  | _, _ => none
def divI : D → D → Option D
  | .int i, .int j => if 0 < j ∧ j < 1073741824 then some (.int (i / j)) else none
  | _, _ => none
def modI : D → D → Option D
  | .int i, .int j => if 0 < j then some (.int (i % j)) else none
  | _, _ => none
def powI : D → D → Option D
  | .int i, .int j => if 0 ≤ j ∧ j ≤ 1000000 ∧ i.natAbs < 18446744073709551616 then some (.int (i ^ j.toNat)) else none
  | _, _ => none
def negI : D → Option D
  | .int i => some (.int (-i))
  | _ => none
section
variable {K : PySem.W.Frag}
theorem s_I0 {f : Int → Int → D} {fv : Int → Int → V} {g : D → D → Option D} (hg : ∀ d e z, g d e = some z → ∃ i j, d = .int i ∧ e = .int j ∧ z = f i j) (hr : ∀ i j G, Rep K G (f i j) (fv i j)) : OpS0 K (rI0 fv) g := fun {G H d e z x y Q} _ rx ry h q => by
  obtain ⟨i, j, rfl, rfl, rfl⟩ := hg d e z h
  exact ⟨i, j, rx.int, ry.int, q _ (hr i j G)⟩
theorem s_I {C : Int → Int → Prop} {f : Int → Int → D} {fv : Int → Int → V} {g : D → D → Option D} (hg : ∀ d e z, g d e = some z → ∃ i j, d = .int i ∧ e = .int j ∧ z = f i j ∧ C i j) (hr : ∀ i j G, Rep K G (f i j) (fv i j)) : OpS0 K (rI C fv) g := fun {G H d e z x y Q} _ rx ry h q => by
  obtain ⟨i, j, rfl, rfl, rfl, c⟩ := hg d e z h
  exact ⟨i, j, rx.int, ry.int, c, q _ (hr i j G)⟩
theorem s_add : OpS0 K (rI0 fun i j => .int (i + j)) addI := s_I0 (f := fun i j => .int (i + j)) (fun d e z h => by
  cases d <;> cases e <;> simp only [addI, Option.some.injEq, reduceCtorEq] at h
  exact ⟨_, _, rfl, rfl, h.symm⟩) fun i j G => .int _
theorem s_sub : OpS0 K (rI0 fun i j => .int (i - j)) subI := s_I0 (f := fun i j => .int (i - j)) (fun d e z h => by
  cases d <;> cases e <;> simp only [subI, Option.some.injEq, reduceCtorEq] at h
  exact ⟨_, _, rfl, rfl, h.symm⟩) fun i j G => .int _
theorem if_some {c : Prop} [Decidable c] {a z : D} (h : (if c then some a else none) = some z) : c ∧ z = a := by
  by_cases k : c
  · rw [if_pos k] at h; exact ⟨k, (Option.some.inj h).symm⟩
  · rw [if_neg k] at h; cases h
theorem s_mul : OpS0 K (rI CMul fun i j => .int (i * j)) mulI := s_I (f := fun i j => .int (i * j)) (fun d e z h => by
  cases d <;> cases e <;> simp only [mulI, reduceCtorEq] at h
  exact ⟨_, _, rfl, rfl, (if_some h).2, (if_some h).1⟩) fun i j G => .int _
theorem s_div : OpS0 K (rI CDiv fun i j => .int (i / j)) divI := s_I (f := fun i j => .int (i / j)) (fun d e z h => by
  cases d <;> cases e <;> simp only [divI, reduceCtorEq] at h
  exact ⟨_, _, rfl, rfl, (if_some h).2, (if_some h).1⟩) fun i j G => .int _
theorem s_mod : OpS0 K (rI (fun _ j => 0 < j) fun i j => .int (i % j)) modI := s_I (f := fun i j => .int (i % j)) (fun d e z h => by
  cases d <;> cases e <;> simp only [modI, reduceCtorEq] at h
  exact ⟨_, _, rfl, rfl, (if_some h).2, (if_some h).1⟩) fun i j G => .int _
theorem s_pow : OpS0 K (rI CPow fun i j => .int (i ^ j.toNat)) powI := s_I (f := fun i j => .int (i ^ j.toNat)) (fun d e z h => by
  cases d <;> cases e <;> simp only [powI, reduceCtorEq] at h
  exact ⟨_, _, rfl, rfl, (if_some h).2, (if_some h).1⟩) fun i j G => .int _
theorem s_neg : UnS K (rU fun i => .int (-i)) negI := fun {G H d z x Q} _ rx h q => by
  cases d <;> simp only [negI, Option.some.injEq, reduceCtorEq] at h
  subst h
  exact ⟨_, rx.int, q _ (.int _)⟩
/-! ### + of ints, texts, lists, tuples; * of a list, a text -/
def addS : D → D → Option D
  | .str x, .str y => if x.length + y.length ≤ 16777216 then some (.str (x ++ y)) else none
  | _, _ => none
def addL : D → D → Option D
  | .lst xs, .lst ys => if xs.length + ys.length ≤ 16777216 then some (.lst (xs ++ ys)) else none
  | _, _ => none
def addT : D → D → Option D
  | .tup xs, .tup ys => if xs.length + ys.length ≤ 16777216 ∧ xs.isEmpty = false ∧ ys.isEmpty = false then some (.tup (xs ++ ys)) else none
  | _, _ => none
def addD : D → D → Option D
  | .int i, .int j => some (.int (i + j))
  | .str x, .str y => addS (.str x) (.str y)
  | .lst xs, .lst ys => addL (.lst xs) (.lst ys)
  | .tup xs, .tup ys => addT (.tup xs) (.tup ys)
  | _, _ => none
theorem leLine {n : Nat} (h : n ≤ 16777216) : n ≤ sizeLine := by rw [sizeLine_eq]; exact h
theorem s_addL : OpSN K rCat addL := fun {G H d e z x y Q} g rx ry h q => by
  cases d <;> cases e <;> simp only [addL, reduceCtorEq] at h
  obtain ⟨c, rfl⟩ := if_some h
  obtain ⟨a, vs, rfl, ha, ra⟩ := rx.lst g
  obtain ⟨b, us, rfl, hb, rb⟩ := ry.lst g
  exact ⟨a, b, vs, us, rfl, rfl, ha, hb, by rw [← ra.length, ← rb.length]; exact leLine c, fun p hp => q _ _ ⟨p, _, hp, rfl, rfl, .lst (ra.append rb)⟩⟩
def rAddS : R2 := fun x y H Q => ∃ i j, x = .str i ∧ y = .str j ∧ i.length + j.length ≤ sizeLine ∧ Q (.str (i ++ j)) H
theorem s_addS : OpS0 K rAddS addS := fun {G H d e z x y Q} g rx ry h q => by
  cases d <;> cases e <;> simp only [addS, reduceCtorEq] at h
  obtain ⟨c, rfl⟩ := if_some h
  exact ⟨_, _, rx.str, ry.str, leLine c, q _ (.str _)⟩
theorem s_addT : OpSN K (rCatT K) addT := fun {G H d e z x y Q} g rx ry h q => by
  cases d <;> cases e <;> simp only [addT, reduceCtorEq] at h
  obtain ⟨⟨c, n1, n2⟩, rfl⟩ := if_some h
  obtain ⟨a, vs, rfl, ha, ra⟩ := rx.tup g
  obtain ⟨b, us, rfl, hb, rb⟩ := ry.tup g
  refine ⟨a, b, vs, us, rfl, rfl, ha, hb, fun z => ?_, by rw [← ra.length, ← rb.length]; exact leLine c, fun z => ?_, fun _ p hp => q _ _ ⟨p, _, hp, rfl, rfl, .tup (ra.append rb)⟩⟩
  · subst z; cases ra; cases n1
  · subst z; cases rb; cases n2
def rAddD (K : PySem.W.Frag) : R2 := fun x y H Q => rI0 (fun i j => .int (i + j)) x y H Q ∨ rAddS x y H Q ∨ rCat x y H Q ∨ rCatT K x y H Q
theorem s_addD : OpS K (rAddD K) addD := fun {G H d e z x y Q} g rx ry h q => by
  unfold addD at h
  split at h
  · exact .inl (s_add.any g rx ry h q)
  · exact .inr (.inl (s_addS.any g rx ry h q))
  · exact .inr (.inr (.inl (s_addL.any g rx ry h q)))
  · exact .inr (.inr (.inr (s_addT.any g rx ry h q)))
  · cases h
theorem o_addD {X : Cx} : OpR X (binaryOp .Add) (rAddD X.K) := OpR.or op_add (OpR.or op_add_str (OpR.or op_cat op_catT))
end
end DL
namespace DL
variable [TB] [LC]
open PySem L2
/-! ### subscripts, slices -/
def ixD : D → D → Option D
  | .lst xs, .int i => atI xs i
  | .kl xs, .int i => atI xs i
  | .tup xs, .int i => atI xs i
  | .str z, .int i => if z.length ≤ 16777216 then (atI z.cps.toList i).map fun c => .str ⟨#[c]⟩ else none
  | _, _ => none
section
variable {K : PySem.W.Frag}
theorem atI_rep {G : Hp} {ds : List D} {vs : List V} {i : Int} {d : D} (r : RepA K G ds vs) (h : atI ds i = some d) : ∃ v, atI vs i = some v ∧ Rep K G d v := by
  unfold atI at h ⊢
  rw [← r.length]
  cases e : ixN ds.length i with
  | none => rw [e] at h; cases h
  | some j =>
    rw [e] at h
    exact r.get (i := j) h
theorem s_ix : OpS0 K (rIx K) ixD := fun {G H d e z x y Q} g rx ry h q => by
  unfold ixD at h
  split at h
  · obtain ⟨a, vs, rfl, ha, ra⟩ := rx.seqL g (.inl rfl)
    obtain ⟨v, hv, rv⟩ := atI_rep ra h
    exact .inl ⟨a, vs, _, v, rfl, ry.int, ha, hv, q _ rv⟩
  · obtain ⟨a, vs, rfl, ha, ra⟩ := rx.seqL g (.inr rfl)
    obtain ⟨v, hv, rv⟩ := atI_rep ra h
    exact .inl ⟨a, vs, _, v, rfl, ry.int, ha, hv, q _ rv⟩
  · obtain ⟨a, vs, rfl, ha, ra⟩ := rx.tup g
    obtain ⟨v, hv, rv⟩ := atI_rep ra h
    exact .inr (.inl ⟨a, vs, _, v, rfl, ry.int, ha, hv, q _ rv⟩)
  · rename_i w i
    by_cases c : w.length ≤ 16777216
    · rw [if_pos c] at h
      obtain ⟨k, hk, rfl⟩ := Option.map_eq_some_iff.mp h
      exact .inr (.inr ⟨w, i, k, rx.str, ry.int, leLine c, hk, q _ (.str _)⟩)
    · rw [if_neg c] at h; cases h
  · cases h
end
def cutD (xs : List D) (lo hi : Option Int) : List D := (xs.drop (HT.sIx xs.length 0 lo)).take (HT.sIx xs.length xs.length hi - HT.sIx xs.length 0 lo)
def slL : D → Option Int → Option Int → Option D
  | .lst xs, lo, hi => some (.lst (cutD xs lo hi))
  | .kl xs, lo, hi => some (.lst (cutD xs lo hi))
  | _, _, _ => none
def slS : D → Option Int → Option Int → Option D
  | .str z, lo, hi => if z.length ≤ 16777216 then some (.str (cutS z lo hi)) else none
  | _, _, _ => none
def slT : D → Option Int → Option Int → Option D
  | .tup xs, lo, hi => if HT.sIx xs.length 0 lo = 0 ∧ HT.sIx xs.length xs.length hi = xs.length then none else some (.tup (cutD xs lo hi))
  | _, _, _ => none
def slD : D → Option Int → Option Int → Option D
  | .lst xs, lo, hi => some (.lst (cutD xs lo hi))
  | .kl xs, lo, hi => some (.lst (cutD xs lo hi))
  | .tup xs, lo, hi => slT (.tup xs) lo hi
  | .str z, lo, hi => slS (.str z) lo hi
  | _, _, _ => none
def SlS (K : PySem.W.Frag) (r : V → Option Int → Option Int → Hp → VK → Prop) (g : D → Option Int → Option Int → Option D) : Prop := ∀ {G H : Hp} {d z : D} {lo hi : Option Int} {x : V} {Q : VK}, Same G H → Rp K G H d x → g d lo hi = some z → (∀ v H', Res1 K G H z v H' → Q v H') → r x lo hi H Q
def SlSN (K : PySem.W.Frag) (r : V → Option Int → Option Int → Hp → VK → Prop) (g : D → Option Int → Option Int → Option D) : Prop := ∀ {G H : Hp} {d z : D} {lo hi : Option Int} {x : V} {Q : VK}, Same G H → Rp K G H d x → g d lo hi = some z → (∀ v H', ResN K G H z v H' → Q v H') → r x lo hi H Q
section
variable {K : PySem.W.Frag}
theorem cut_rep {G : Hp} {ds : List D} {vs : List V} (r : RepA K G ds vs) (lo hi : Option Int) : RepA K G (cutD ds lo hi) (cutV vs lo hi) := by
  unfold cutD cutV
  rw [r.length]
  exact (r.drop _).take _
theorem s_slL : SlSN K (rSlL K) slL := fun {G H d z lo hi x Q} g rx h q => by
  unfold slL at h
  split at h
  · cases h
    obtain ⟨a, vs, rfl, ha, ra⟩ := rx.seqL g (.inl rfl)
    exact ⟨a, vs, rfl, ha, fun p hp => q _ _ ⟨p, _, hp, rfl, rfl, .lst (cut_rep ra lo hi)⟩⟩
  · cases h
    obtain ⟨a, vs, rfl, ha, ra⟩ := rx.seqL g (.inr rfl)
    exact ⟨a, vs, rfl, ha, fun p hp => q _ _ ⟨p, _, hp, rfl, rfl, .lst (cut_rep ra lo hi)⟩⟩
  · cases h
def rSlD (K : PySem.W.Frag) : V → Option Int → Option Int → Hp → VK → Prop := fun x lo hi H Q => rSlL K x lo hi H Q ∨ rSlT K x lo hi H Q ∨ rSlS x lo hi H Q
theorem s_slD : SlS K (rSlD K) slD := fun {G H d z lo hi x Q} g rx h q => by
  unfold slD at h
  split at h
  · exact .inl (s_slL g rx (by exact h) fun v H' k => q v H' (.inr k))
  · exact .inl (s_slL g rx (by exact h) fun v H' k => q v H' (.inr k))
  · unfold slT at h
    dsimp only at h
    rename_i xs
    by_cases c : HT.sIx xs.length 0 lo = 0 ∧ HT.sIx xs.length xs.length hi = xs.length
    · rw [if_pos c] at h; cases h
    · rw [if_neg c] at h
      cases h
      obtain ⟨a, vs, rfl, ha, ra⟩ := rx.tup g
      exact .inr (.inl ⟨a, vs, rfl, ha, by rw [← ra.length]; exact c, fun p hp => q _ _ (.inr ⟨p, _, hp, rfl, rfl, .tup (cut_rep ra lo hi)⟩)⟩)
  · unfold slS at h
    dsimp only at h
    obtain ⟨c, rfl⟩ := if_some h
    exact .inr (.inr ⟨_, rx.str, leLine c, q _ _ (.inl ⟨rfl, .str _⟩)⟩)
  · cases h
end
theorem o_slD {X : Cx} : SlR X (rSlD X.K) := SlR.or sl_list (SlR.or sl_tup sl_str)
def partM : Option (M D) → M (Option Int)
  | none => ret none
  | some m => bnd m fun d => match d with
    | .int i => ret (some i)
    | _ => stuckM
def slM (g : D → Option Int → Option Int → Option D) (me : M D) (lo hi : Option (M D)) : M D := bnd me fun x => bnd (partM lo) fun l => bnd (partM hi) fun h => lift (g x l h)
section
variable {X : Cx} {F : Fr} {W : WX} {q q1 q2 q3 : Bool} {a b e : Expr} {lo hi : Option Expr} {pos p2 : Pos} {ma mb me : M D} {ml mh : Option (M D)}
theorem dx_some {m : M D} (h : PE X e (tM X.K F W q (RSh X.K) m)) : PO X (some e) (tM X.K F W q REq (partM (some m))) :=
  ⟨fun pins s σ H Q I z => (po_some h).run pins s σ H Q I (bind_of (q2 := true) (R1 := RSh X.K) (fun y => ⟨y, rfl⟩) z fun d st1 G1 fpf1 v H1 S1 r1 A1 => by
    cases d with
    | int i => exact ⟨i, (Rp.rep (H := H1) r1).int, A1.done S1 rfl⟩
    | _ => exact A1.elim)⟩
theorem sl_of {K : PySem.W.Frag} {r : V → Option Int → Option Int → Hp → VK → Prop} {g : D → Option Int → Option Int → Option D} {σ : St} {H : Hp} {Q : VK} (hs : SlS K r g) (h : tM K F W false (RSh K) (slM g me ml mh) σ H Q) :
    tSl r (tM K F W q1 (RSh K) me) (tM K F W q2 REq (partM ml)) (tM K F W q3 REq (partM mh)) σ H Q := by
  refine bind_of (q2 := false) (R1 := RSh K) nq h fun d st1 G1 fpf1 v H1 S1 r1 A1 => ?_
  refine ⟨st1, G1, fpf1, S1, A1.bndK (q1 := q2) (q2 := false) (R1 := REq) nq fun l st2 G2 fpf2 l' H2 g2 S2 z2 e2 r2 A2 => ?_⟩
  refine ⟨st2, G2, fpf2, S2, A2.bndK (q1 := q3) (q2 := false) (R1 := REq) nq fun u st3 G3 fpf3 u' H3 g3 S3 z3 e3 r3 A3 => ?_⟩
  cases r2
  cases r3
  unfold lift at A3
  cases w : g d l u with
  | none => rw [w] at A3; exact A3.elim
  | some z => rw [w] at A3; exact hs S3.gh (.rep ((Rep.mono g2 r1).mono g3)) w fun v H' k => A3.end1 S3 k
theorem de_ix (ha : PE X a (tM X.K F W q1 (RSh X.K) ma)) (hb : PE X b (tM X.K F W q2 (RPk X.K) mb)) (hs : PlainIx b) : PE X (.Subscript a b pos) (tM X.K F W (q1 && q2) (RSh X.K) (opM ixD ma mb)) :=
  PE_mono (pe_ix ix_seq ha hb hs) fun _ _ _ h => op_of0 s_ix h
theorem de_ixQ (ha : PE X a (tM X.K F W q1 (RPk X.K) ma)) (hb : PE X b (tM X.K F W true (RPk X.K) mb)) (hs : PlainIx b) : PE X (.Subscript a b pos) (tM X.K F W q1 (RSh X.K) (opM ixD ma mb)) :=
  PE_mono (pe_ix ix_seq ha hb hs) fun _ _ _ h => op_of0Q s_ix h
theorem de_sl (he : PE X e (tM X.K F W q1 (RSh X.K) me)) (hl : PO X lo (tM X.K F W q2 REq (partM ml))) (hh : PO X hi (tM X.K F W q3 REq (partM mh))) : PE X (.Subscript e (.Slice lo hi none p2) pos) (tM X.K F W false (RSh X.K) (slM slD me ml mh)) :=
  PE_mono (pe_slice o_slD he hl hh) fun _ _ _ h => sl_of s_slD h
end
/-! ### in, is -/
def seqP : PyData → Option (List PyData)
  | .list ps => some ps
  | .tuple ps => some ps
  | _ => none
def invD (d e : D) : Option Bool := match toP d, toP e with
  | some (.str x), some (.str z) => match x.cps.toList with
    | [c] => some (decide (c ∈ z.cps.toList))
    | _ => none
  | some p, some q => match seqP q with
    | some ps => if min (PyData.depthAll ps) p.depth ≤ 60 then some (ps.any fun y => PyData.eqv y p) else none
    | none => none
  | _, _ => none
def inD (d e : D) : Option D := (invD d e).map .bl
def rInP (K : PySem.W.Frag) (f : Bool → Bool) : R2 := fun x y H Q => (∃ (c : Nat) (z : Str), x = .str ⟨#[c]⟩ ∧ y = .str z ∧ Q (.bl (f (decide (c ∈ z.cps.toList)))) H) ∨
  ∃ d e ps, Dp K H x d ∧ Dp K H y e ∧ d.plain = true ∧ e.plain = true ∧ seqP e = some ps ∧ min (PyData.depthAll ps) d.depth ≤ 60 ∧ Q (.bl (f (ps.any fun y => PyData.eqv y d))) H
section
variable {X : Cx}
theorem o_in (hu : X.A.units + 64 < cLine) : OpR X (compareOp .In) (rInP X.K id) := by
  intro pins s σ H x y v u Q I rx ry h
  rcases h with ⟨c, z, hx, hy, q⟩ | ⟨d, e, ps, hd, he, sd, se, hq, hm, q⟩
  · exact op_in_sign pins s σ H x y v u Q I rx ry ⟨c, z, hx, hy, q⟩
  · obtain ⟨as, r1⟩ := Dp.reads I d x v hd rx
    obtain ⟨bs, r2⟩ := Dp.reads I e y u he ry
    unfold seqP at hq
    split at hq
    · cases hq
      exact PySem.SeqAt.in_list_data r2 r1 (by simpa [PyData.plain] using se) sd (by omega) ⟨.bl _, H, I, rfl, q⟩
    · cases hq
      exact PySem.SeqAt.in_tuple_data r2 r1 (by simpa [PyData.plain] using se) sd (by omega) ⟨.bl _, H, I, rfl, q⟩
    · cases hq
end
section
variable {K : PySem.W.Frag}
theorem toP_str {d : D} {x : Str} (h : toP d = some (.str x)) : d = .str x := by
  cases d <;> simp [toP] at h
  rw [h]
theorem inv_cases {d e : D} {b : Bool} (h : invD d e = some b) : (∃ c z, d = .str ⟨#[c]⟩ ∧ e = .str z ∧ b = decide (c ∈ z.cps.toList)) ∨
    ∃ p q ps, toP d = some p ∧ toP e = some q ∧ seqP q = some ps ∧ min (PyData.depthAll ps) p.depth ≤ 60 ∧ b = ps.any fun y => PyData.eqv y p := by
  unfold invD at h
  split at h
  · rename_i x z e1 e2
    split at h
    · rename_i c ec
      cases h
      refine .inl ⟨c, z, ?_, toP_str e2, rfl⟩
      rw [toP_str e1]
      congr 1
      cases x
      congr 1
      exact Array.toList_inj.mp ec
    · cases h
  · rename_i p q _ e1 e2
    split at h
    · rename_i ps eq
      by_cases c : min (PyData.depthAll ps) p.depth ≤ 60
      · rw [if_pos c] at h; cases h
        exact .inr ⟨p, q, ps, e1, e2, eq, c, rfl⟩
      · rw [if_neg c] at h; cases h
    · cases h
  · cases h
theorem s_inv {f : Bool → Bool} : OpS0 K (rInP K f) (fun d e => (invD d e).map fun b => .bl (f b)) := fun {G H d e z x y Q} g rx ry h q => by
  obtain ⟨b, hb, rfl⟩ := Option.map_eq_some_iff.mp h
  rcases inv_cases hb with ⟨c, w, rfl, rfl, rfl⟩ | ⟨p, q', ps, e1, e2, eq, c, rfl⟩
  · exact .inl ⟨c, w, rx.str, ry.str, q _ (.bl _)⟩
  · exact .inr ⟨p, q', ps, rx.dp g e1, ry.dp g e2, plain_toP e1, plain_toP e2, eq, c, q _ (.bl _)⟩
theorem s_in : OpS0 K (rInP K id) inD := s_inv
def isNon : D → Bool
  | .non => true
  | _ => false
theorem rp_non {G H : Hp} {d : D} {v : V} (h : Rp K G H d v) : decide (v = .non) = isNon d := by
  cases h with
  | rep h => cases h <;> simp [isNon]
  | own h => cases h with
    | flat q r => cases r <;> simp [isNon]
    | obj => simp [isNon]
def isnD : D → D → Option D
  | d, .non => some (.bl (!isNon d))
  | .bl a, .bl b => some (.bl (!decide (a = b)))
  | _, _ => none
def rIsn : R2 := fun x y H Q => (y = .non ∧ Q (.bl (!decide (x = .non))) H) ∨ rNotB x y H Q
theorem s_isn : OpS0 K rIsn isnD := fun {G H d e z x y Q} g rx ry h q => by
  unfold isnD at h
  split at h
  · cases h; exact .inl ⟨ry.non, by rw [rp_non rx]; exact q _ (.bl _)⟩
  · cases h; exact .inr ⟨_, _, rx.bl, ry.bl, q _ (.bl _)⟩
  · cases h
theorem o_isn {X : Cx} : OpR X (compareOp .IsNot) rIsn := OpR.or op_notN op_notBl
end
end DL
namespace DL
variable [TB] [LC]
open PySem L2
/-! ### statements -/
inductive Out where
  | nx (st : DSt) | rt (fr : Bool) (d : D) (st : DSt) | bk (st : DSt) | ct (st : DSt) | err (x : Exc) (st : DSt) | stuck
abbrev MS := DSt → Out
section
variable (K : PySem.W.Frag) (F : Fr) (W : WX)
def AtS (r : Out) (G : Hp) (E : Ends) : Prop := match r with
  | .nx st' => ∀ (σ' : St) (H' G' : Hp) (fpf' : Nat → List Addr), Same G G' → Sync K F G' fpf' σ' H' st' → E.nx σ' H'
  | .rt false d st' => ∀ (v : V) (σ' : St) (H' G' : Hp) (fpf' : Nat → List Addr), Same G G' → Sync K F G' fpf' σ' H' st' → Rep K G' d v → E.rt v H'
  | .rt true d st' => ∀ (v : V) (σ' : St) (H' G' : Hp) (fpf' : Nat → List Addr), Same G G' → Sync K F G' fpf' σ' H' st' → Fresh K F G' fpf' st' H' d v → E.rt v H'
  | .bk st' => ∀ (σ' : St) (H' G' : Hp) (fpf' : Nat → List Addr), Same G G' → Sync K F G' fpf' σ' H' st' → E.bk σ' H'
  | .ct st' => ∀ (σ' : St) (H' G' : Hp) (fpf' : Nat → List Addr), Same G G' → Sync K F G' fpf' σ' H' st' → E.ct σ' H'
  | .err x st' => ∀ (a : Addr) (fv : List (Str × V)) (σ' : St) (H' G' : Hp) (fpf' : Nat → List Addr), Same G G' → Sync K F G' fpf' σ' H' st' → Apart F G' fpf' st' a → H' a = some (.xd fv) → fv.map (·.1) = x.fs.map (·.1) → RepA K G' (x.fs.map (·.2)) (fv.map (·.2)) → W x.cls (some a) σ' H'
  | .stuck => False
def tS (m : MS) : TS := fun E σ H => ∃ (st : DSt) (G : Hp) (fpf : Nat → List Addr), Sync K F G fpf σ H st ∧ AtS K F W (m st) G E
end
section
variable {K : PySem.W.Frag} {F : Fr} {W : WX} {r : Out} {G G0 : Hp} {E E' : Ends}
theorem AtS.back (h : AtS K F W r G0 E) (g : Same G0 G) : AtS K F W r G E := by
  cases r with
  | nx st' => exact fun σ' H' G' fpf' gg => h σ' H' G' fpf' (g.trans gg)
  | rt fr d st' =>
    cases fr with
    | true => exact fun v σ' H' G' fpf' gg => h v σ' H' G' fpf' (g.trans gg)
    | false => exact fun v σ' H' G' fpf' gg => h v σ' H' G' fpf' (g.trans gg)
  | bk st' => exact fun σ' H' G' fpf' gg => h σ' H' G' fpf' (g.trans gg)
  | ct st' => exact fun σ' H' G' fpf' gg => h σ' H' G' fpf' (g.trans gg)
  | err x st' => exact fun a fv σ' H' G' fpf' gg => h a fv σ' H' G' fpf' (g.trans gg)
  | stuck => exact h
end
/-- a computation, then what is done with its result -/
def doM {α : Type} (m : M α) (f : α → MS) : MS := fun st => match m st with
  | .ok d st' => f d st'
  | .err x st' => .err x st'
  | .stuck => .stuck
def skipM : MS := fun st => .nx st
def seqM (a b : MS) : MS := fun st => match a st with
  | .nx st' => b st'
  | r => r
def ifM (c : M Bool) (a b : MS) : MS := doM c fun k => if k = true then a else b
def dropM {α : Type} (m : M α) : MS := doM m fun _ => skipM
def retM (m : M D) : MS := doM m fun d st => .rt false d st
def retF (m : M D) : MS := doM m fun d st => .rt true d st
def retN : MS := fun st => .rt false .non st
def bkM : MS := fun st => .bk st
def ctM : MS := fun st => .ct st
structure Tg where
  sl : List Nat
  run : D → DSt → Option DSt
def nameT (i : Nat) : Tg := ⟨[i], fun d st => some (st.set i (some (Slot.sh d)))⟩
def tgsT : List Tg → List D → DSt → Option DSt
  | [], [], st => some st
  | t :: ts, d :: ds, st => match t.run d st with
    | some st' => tgsT ts ds st'
    | none => none
  | _, _, _ => none
def tupT (ts : List Tg) : Tg := ⟨ts.flatMap (·.sl), fun d st => match d with
  | .tup ds => tgsT ts ds st
  | _ => none⟩
def asgM (m : M D) (t : Tg) : MS := doM m fun d st => match t.run d st with
  | some st' => .nx st'
  | none => .stuck
def asgF (m : M D) (i : Nat) : MS := doM m fun d st => .nx (st.set i (some (Slot.ow false d)))
def retOw (i : Nat) : MS := fun st => match st[i]? with
  | some (some (Slot.ow false d)) => .rt true d (st.set i none)
  | _ => .stuck
theorem PS_mono {X : Cx} {s : Stmt} {t t' : TS} (h : PS X s t) (k : ∀ D σ H, t' D σ H → t D σ H) : PS X s t' := ⟨fun pins st σ H D I q => h.run pins st σ H D I (k _ _ _ q)⟩
theorem PSs_mono {X : Cx} {s : List Stmt} {t t' : TS} (h : PSs X s t) (k : ∀ D σ H, t' D σ H → t D σ H) : PSs X s t' := ⟨fun pins st σ H D I q => h.run pins st σ H D I (k _ _ _ q)⟩
section
variable {K : PySem.W.Frag} {F : Fr} {W : WX} {α ρ : Type} {q : Bool} {R : Rl α ρ} {E : Ends} {σ : St} {H : Hp}
theorem do_of {m : M α} {f : α → MS} {T : ρ → Hp → Prop} (h : tS K F W (doM m f) E σ H)
    (k : ∀ d st1 G1 fpf1 v H1, Sync K F G1 fpf1 σ H1 st1 → R G1 fpf1 st1 H1 d v → AtS K F W (f d st1) G1 E → T v H1) : tM K F W q R m σ H T := by
  obtain ⟨st, G, fpf, S, A⟩ := h
  refine ⟨st, G, fpf, S, ?_⟩
  unfold doM at A
  cases e : m st with
  | stuck => rw [e] at A; exact A
  | err x st' => rw [e] at A; exact fun a fv H' G' fpf' g S' => A a fv σ H' G' fpf' g S'
  | ok d st' => rw [e] at A; exact fun v H' G' fpf' _ g S' r => k d st' G' fpf' v H' S' r (A.back g)
end
section
variable {X : Cx} {F : Fr} {W : WX} {q : Bool} {e : Expr} {s : Stmt} {ss : List Stmt} {pos : Pos} {m : M D} {a b : MS} {c : M Bool}
theorem dss_nil : PSs X [] (tS X.K F W skipM) := PSs_mono pss_nil fun D σ H ⟨st, G, fpf, S, A⟩ => A σ H G fpf (Same.refl G) S
theorem dss_cons (h1 : PS X s (tS X.K F W a)) (h2 : PSs X ss (tS X.K F W b)) : PSs X (s :: ss) (tS X.K F W (seqM a b)) :=
  PSs_mono (pss_cons h1 h2) fun D σ H ⟨st, G, fpf, S, A⟩ => by
    refine ⟨st, G, fpf, S, ?_⟩
    unfold seqM at A
    cases e : a st with
    | nx st' => rw [e] at A; exact fun σ' H' G' fpf' g S' => ⟨st', G', fpf', S', AtS.back A g⟩
    | rt fr d st' => rw [e] at A; cases fr <;> exact A
    | bk st' => rw [e] at A; exact A
    | ct st' => rw [e] at A; exact A
    | err x st' => rw [e] at A; exact A
    | stuck => rw [e] at A; exact A
theorem dss_one (h1 : PS X s (tS X.K F W a)) : PSs X [s] (tS X.K F W a) := pss_one h1
theorem ds_expr {R : Rl D V} (he : PE X e (tM X.K F W q R m)) (hs : swapsWith e none pos.line X.env = pure false := by rfl) : PS X (.Expr e pos) (tS X.K F W (dropM m)) :=
  PS_mono (ps_expr he hs) fun D σ H h => do_of h fun d st1 G1 fpf1 v H1 S1 r1 A1 => A1 σ H1 G1 fpf1 (Same.refl G1) S1
theorem ds_ret (he : PE X e (tM X.K F W q (RSh X.K) m)) : PS X (.Return (some e) pos) (tS X.K F W (retM m)) :=
  PS_mono (ps_ret he) fun D σ H h => do_of h fun d st1 G1 fpf1 v H1 S1 r1 A1 => A1 v σ H1 G1 fpf1 (Same.refl G1) S1 r1
theorem ds_retF (he : PE X e (tM X.K F W q (RFr X.K F) m)) : PS X (.Return (some e) pos) (tS X.K F W (retF m)) :=
  PS_mono (ps_ret he) fun D σ H h => do_of h fun d st1 G1 fpf1 v H1 S1 r1 A1 => A1 v σ H1 G1 fpf1 (Same.refl G1) S1 r1
theorem ds_if {c' : Expr} {sa sb : List Stmt} (hc : PT X c' (tM X.K F W q REq c)) (ha : PSs X sa (tS X.K F W a)) (hb : PSs X sb (tS X.K F W b)) : PS X (.If c' sa sb pos) (tS X.K F W (ifM c a b)) :=
  PS_mono (ps_if hc ha hb) fun D σ H h => do_of h fun d st1 G1 fpf1 v H1 S1 r1 A1 => by
    cases r1
    cases d with
    | true => rw [if_pos rfl] at A1 ⊢; exact ⟨st1, G1, fpf1, S1, A1⟩
    | false => rw [if_neg Bool.false_ne_true] at A1 ⊢; exact ⟨st1, G1, fpf1, S1, A1⟩
/-! ### targets, stores to names -/
theorem wipe_set {σ : St} {x : Option V} : ∀ {vs : List Nat} {i : Nat}, i ∈ vs → wipe (σ.set i x) vs = wipe σ vs
  | v :: vs, i, h => by
    unfold wipe
    by_cases hi : i ∈ vs
    · rw [wipe_set hi]
    · rcases List.mem_cons.mp h with rfl | h
      · have : ∀ (ws : List Nat), i ∉ ws → wipe (σ.set i x) ws = (wipe σ ws).set i x := by
          intro ws
          induction ws with
          | nil => intro _; rfl
          | cons w ws ih =>
            intro hw
            unfold wipe
            rw [ih fun z => hw (List.mem_cons_of_mem _ z), List.set_comm _ _ fun z => hw (by rw [← z]; exact List.mem_cons_self)]
        rw [this vs hi, List.set_set]
      · exact absurd h hi
def tG (K : PySem.W.Frag) (F : Fr) (t : Tg) : TG := fun v σ H Q => ∃ (d : D) (st : DSt) (G : Hp) (fpf : Nat → List Addr), Sync K F G fpf σ H st ∧ Rep K G d v ∧ ∃ st', t.run d st = some st' ∧ ∀ σ', Sync K F G fpf σ' H st' → (∀ vs, (∀ i ∈ t.sl, i ∈ vs) → wipe σ' vs = wipe σ vs) → Q σ' H
theorem PG_mono {X : Cx} {e : Expr} {t t' : TG} (h : PG X e t) (k : ∀ v σ H Q, t' v σ H Q → t v σ H Q) : PG X e t' := ⟨fun pins s σ H v u Q I r q => h.run pins s σ H v u Q I r (k _ _ _ _ q)⟩
theorem dg_name (i : Nat) {x : Str} (hN : X.N.Nodup) (hi : X.N[i]? = some x := by rfl) (hx : Loc X.env.scope x := by first | exact Or.inl rfl | exact Or.inr rfl) (hf : X.fn x = true ∨ X.env.scope.names.lookup x = some .local := by first | exact .inl rfl | exact .inr rfl) {n : Nat} [gk : GvOk F n] (hgi : i < n := by decide) : PG X (.Name x pos) (tG X.K F (nameT i)) :=
  PG_mono (pg_name hN hi hx hf) fun v σ H Q ⟨d, st, G, fpf, S, r, st', e, k⟩ => by
    cases e
    exact k _ (S.assign i r (gk.none hgi)) fun vs h => wipe_set (h i List.mem_cons_self)
theorem ds_set (i : Nat) {x : Str} {p : Pos} (hN : X.N.Nodup) (he : PE X e (tM X.K F W q (RSh X.K) m)) (hi : X.N[i]? = some x := by rfl) (hx : Loc X.env.scope x := by first | exact Or.inl rfl | exact Or.inr rfl)
    (hs : swapsWith e (some (.Name x p)) pos.line X.env = pure false := by rfl) (hf : X.fn x = true ∨ X.env.scope.names.lookup x = some .local := by first | exact .inl rfl | exact .inr rfl) {n : Nat} [gk : GvOk F n] (hgi : i < n := by decide) : PS X (.Assign [.Name x p] e pos) (tS X.K F W (asgM m (nameT i))) :=
  PS_mono (ps_set hN hi hx he hs hf) fun D σ H h => do_of (R := RSh X.K) h fun d st1 G1 fpf1 v H1 S1 r1 A1 => A1 _ H1 G1 fpf1 (Same.refl G1) (S1.assign i r1 (gk.none hgi))
theorem ds_setF (i : Nat) {x : Str} {p : Pos} (hN : X.N.Nodup) (he : PE X e (tM X.K F W q (RFr X.K F) m)) (hi : X.N[i]? = some x := by rfl) (hx : Loc X.env.scope x := by first | exact Or.inl rfl | exact Or.inr rfl)
    (hs : swapsWith e (some (.Name x p)) pos.line X.env = pure false := by rfl) (hf : X.fn x = true ∨ X.env.scope.names.lookup x = some .local := by first | exact .inl rfl | exact .inr rfl) {n : Nat} [gk : GvOk F n] (hgi : i < n := by decide) : PS X (.Assign [.Name x p] e pos) (tS X.K F W (asgF m i)) :=
  PS_mono (ps_set hN hi hx he hs hf) fun D σ H h => do_of (R := RFr X.K F) h fun d st1 G1 fpf1 v H1 S1 r1 A1 => by
    obtain ⟨fpf', S'⟩ := S1.assignF i r1 (gk.none hgi)
    exact A1 _ H1 G1 fpf' (Same.refl G1) S'
/-- a, b = x, y -/
def parM (m : M (List D)) (i j : Nat) : MS := doM m fun ds st => match ds with
  | [d, e] => .nx ((st.set i (some (Slot.sh d))).set j (some (Slot.sh e)))
  | _ => .stuck
end
end DL
namespace DL
variable [TB] [LC]
open PySem L2
/-! ### while -/
def whileM : Nat → M Bool → MS → MS
  | 0, _, _ => fun _ => .stuck
  | n + 1, c, b => doM c fun k => if k = true then fun st => match b st with
      | .nx st' => whileM n c b st'
      | .ct st' => whileM n c b st'
      | .bk st' => .nx st'
      | r => r
    else skipM
theorem ds_while (n : Nat) {X : Cx} {F : Fr} {W : WX} {q : Bool} {c : Expr} {body : List Stmt} {pos : Pos} {mc : M Bool} {b : MS} (hp : PassesOwn (model X.prog X.w) X.A X.env X.xe) (hc : PT X c (tM X.K F W q REq mc)) (hb : PSs X body (tS X.K F W b)) :
    PS X (.While c body [] pos) (tS X.K F W (whileM n mc b)) := PS_mono (ps_while hp hc hb) fun D σ H h => by
  refine ⟨fun m σ H => ∃ st G fpf, Sync X.K F G fpf σ H st ∧ AtS X.K F W (whileM m mc b st) G D, ⟨n, h⟩, ?_⟩
  rintro m σ H ⟨st, G, fpf, S, A⟩
  cases m with
  | zero => exact A.elim
  | succ m =>
    refine do_of (R := REq) ⟨st, G, fpf, S, A⟩ fun d st1 G1 fpf1 v H1 S1 r1 A1 => ?_
    cases r1
    cases d with
    | false => rw [if_neg Bool.false_ne_true] at A1 ⊢; exact A1 σ H1 G1 fpf1 (Same.refl G1) S1
    | true =>
      rw [if_pos rfl] at A1 ⊢
      refine ⟨fun σ' H' => ∃ st' G' fpf', Sync X.K F G' fpf' σ' H' st' ∧ AtS X.K F W (whileM m mc b st') G' D, fun σ' H' z => ⟨m, Nat.lt_succ_self m, z⟩, st1, G1, fpf1, S1, ?_⟩
      cases e : b st1 with
      | nx st' => rw [e] at A1; exact fun σ' H' G' fpf' g S' => ⟨st', G', fpf', S', AtS.back A1 g⟩
      | ct st' => rw [e] at A1; exact fun σ' H' G' fpf' g S' => ⟨st', G', fpf', S', AtS.back A1 g⟩
      | bk st' => rw [e] at A1; exact A1
      | rt fr d st' => rw [e] at A1; cases fr <;> exact A1
      | err x st' => rw [e] at A1; exact A1
      | stuck => rw [e] at A1; exact A1
/-! ### what is walked -/
/-- J yields these data, in any later heap -/
def ItR (K : PySem.W.Frag) (J : It) (G : Hp) (ds : List D) : Prop := ∀ (G2 H2 : Hp), Same G G2 → Same G2 H2 → ∀ i : Nat, (∀ d, ds[i]? = some d → J.go i H2 ∧ ∀ x H3, J.yld i H2 x H3 → Res1 K G2 H2 d x H3) ∧ (ds[i]? = none → J.stop i H2)
def AtI (K : PySem.W.Frag) (F : Fr) (W : WX) (r : Res (List D)) (G : Hp) (σ : St) (R : It → Hp → Prop) : Prop := match r with
  | .ok ds st' => ∀ (J : It) (H' G' : Hp) (fpf' : Nat → List Addr), Same G G' → Sync K F G' fpf' σ H' st' → ItR K J G' ds → R J H'
  | .err x st' => ∀ (a : Addr) (fv : List (Str × V)) (H' G' : Hp) (fpf' : Nat → List Addr), Same G G' → Sync K F G' fpf' σ H' st' → Apart F G' fpf' st' a → H' a = some (.xd fv) → fv.map (·.1) = x.fs.map (·.1) → RepA K G' (x.fs.map (·.2)) (fv.map (·.2)) → W x.cls (some a) σ H'
  | .stuck => False
def tI (K : PySem.W.Frag) (F : Fr) (W : WX) (mi : M (List D)) : TI := fun σ H R => ∃ (st : DSt) (G : Hp) (fpf : Nat → List Addr), Sync K F G fpf σ H st ∧ AtI K F W (mi st) G σ R
theorem AtI.back {K : PySem.W.Frag} {F : Fr} {W : WX} {r : Res (List D)} {G0 G : Hp} {σ : St} {R : It → Hp → Prop} (h : AtI K F W r G0 σ R) (g : Same G0 G) : AtI K F W r G σ R := by
  cases r with
  | ok ds st' => exact fun J H' G' fpf' gg => h J H' G' fpf' (g.trans gg)
  | err x st' => exact fun a fv H' G' fpf' gg => h a fv H' G' fpf' (g.trans gg)
  | stuck => exact h
theorem PI_mono {X : Cx} {tg e : Expr} {t t' : TI} (h : PI X tg e t) (k : ∀ σ H R, t' σ H R → t σ H R) : PI X tg e t' := ⟨fun pins s σ H R I q => h.run pins s σ H R I (k _ _ _ q)⟩
theorem PI.or {X : Cx} {tg e : Expr} {t t' : TI} (h : PI X tg e t) (h' : PI X tg e t') : PI X tg e (fun σ H R => t σ H R ∨ t' σ H R) := ⟨fun pins s σ H R I q => q.elim (h.run pins s σ H R I) (h'.run pins s σ H R I)⟩
section
variable {K : PySem.W.Frag} {G : Hp}
theorem itr_list {a : Addr} {vs : List V} {ds : List D} (h : SqL K G a vs) (r : RepA K G ds vs) : ItR K (Itl K a) G ds := fun G2 H2 g1 g2 i => by
  have hs : SqL K H2 a vs := g2.seq (g1.seq h)
  refine ⟨fun d hd => ?_, fun hn => ⟨vs, hs, ?_⟩⟩
  · obtain ⟨v, hv, rv⟩ := r.get hd
    refine ⟨⟨vs, v, hs, hv⟩, fun x H3 y => ?_⟩
    obtain ⟨rfl, y⟩ := y
    have := y vs hs
    rw [hv] at this; cases this
    exact .inl ⟨rfl, rv.mono g1⟩
  · rw [← r.length]; exact List.getElem?_eq_none_iff.mp hn
theorem itr_tup {a : Addr} {vs : List V} {ds : List D} (h : SqT K G a vs) (r : RepA K G ds vs) : ItR K (Itt K a) G ds := fun G2 H2 g1 g2 i => by
  have hs : SqT K H2 a vs := sqT_mono g2 (sqT_mono g1 h)
  refine ⟨fun d hd => ?_, fun hn => ⟨vs, hs, ?_⟩⟩
  · obtain ⟨v, hv, rv⟩ := r.get hd
    refine ⟨⟨vs, v, hs, hv⟩, fun x H3 y => ?_⟩
    obtain ⟨rfl, y⟩ := y
    have := y vs hs
    rw [hv] at this; cases this
    exact .inl ⟨rfl, rv.mono g1⟩
  · rw [← r.length]; exact List.getElem?_eq_none_iff.mp hn
def rangeD (lo : Int) (n : Nat) : List D := (List.range n).map fun i => .int (lo + (i : Nat))
theorem itr_rng {lo : Int} {n : Nat} : ItR K (Itr lo n) G (rangeD lo n) := fun G2 H2 g1 g2 i => by
  refine ⟨fun d hd => ?_, fun hn => ?_⟩
  · unfold rangeD at hd
    rw [List.getElem?_map, Option.map_eq_some_iff] at hd
    obtain ⟨j, hj, rfl⟩ := hd
    obtain ⟨hl, hj⟩ := List.getElem?_eq_some_iff.mp hj
    rw [List.getElem_range] at hj
    subst hj
    rw [List.length_range] at hl
    refine ⟨hl, fun x H3 y => ?_⟩
    obtain ⟨rfl, rfl⟩ := y
    exact .inl ⟨rfl, .int _⟩
  · have := List.getElem?_eq_none_iff.mp hn
    unfold rangeD at this
    rw [List.length_map, List.length_range] at this
    exact this
end
def strD (z : Str) : List D := z.cps.toList.map fun c => .str ⟨#[c]⟩
section
variable {X : Cx} {F : Fr} {W : WX} {q q1 q2 q3 : Bool} {tg e iter : Expr} {es : List Expr} {m : M D} {pos : Pos}
def seqM' (m : M D) : M (List D) := bnd m fun d => match d with
  | .lst ds => ret ds
  | .kl ds => ret ds
  | _ => stuckM
def tupM' (m : M D) : M (List D) := bnd m fun d => match d with
  | .tup ds => ret ds
  | _ => stuckM
theorem di_of {K : PySem.W.Frag} {α ρ : Type} {m : M α} {f : α → M (List D)} {σ : St} {H : Hp} {R : It → Hp → Prop} {T : ρ → Hp → Prop} {RR : Rl α ρ} (h : tI K F W (bnd m f) σ H R)
    (k : ∀ d st1 G1 fpf1 v H1, Sync K F G1 fpf1 σ H1 st1 → RR G1 fpf1 st1 H1 d v → AtI K F W (f d st1) G1 σ R → T v H1) : tM K F W q RR m σ H T := by
  obtain ⟨st, G, fpf, S, A⟩ := h
  refine ⟨st, G, fpf, S, ?_⟩
  unfold bnd at A
  cases e : m st with
  | stuck => rw [e] at A; exact A
  | err x st' => rw [e] at A; exact A
  | ok d st' =>
    rw [e] at A
    exact fun v H1 G1 fpf1 _ g S1 r1 => k d st' G1 fpf1 v H1 S1 r1 (AtI.back A g)
theorem di_list (h : PE X e (tM X.K F W q (RSh X.K) m)) : PI X tg e (tI X.K F W (seqM' m)) :=
  PI_mono (pi_list h) fun σ H R z => di_of (RR := RSh X.K) z fun d st1 G1 fpf1 v H1 S1 r1 A1 => by
    have go : ∀ ds, (d = .lst ds ∨ d = .kl ds) → (∀ (J : It) (H' G' : Hp) (fpf' : Nat → List Addr), Same G1 G' → Sync X.K F G' fpf' σ H' st1 → ItR X.K J G' ds → R J H') → ∃ a, v = .ref a ∧ (∃ xs, SqL X.K H1 a xs) ∧ R (Itl X.K a) H1 := fun ds e k => by
      have : ∃ a vs, v = .ref a ∧ SqL X.K G1 a vs ∧ RepA X.K G1 ds vs := by
        have r1' : Rep X.K G1 d v := r1
        rcases e with rfl | rfl
        · cases r1' with | lst h r => exact ⟨_, _, rfl, .inl (.inl h), r⟩
        · cases r1' with | kl h r => exact ⟨_, _, rfl, h, r⟩
      obtain ⟨a, vs, rfl, ha, ra⟩ := this
      exact ⟨a, rfl, ⟨vs, S1.gh.seq ha⟩, k _ H1 G1 fpf1 (Same.refl G1) S1 (itr_list ha ra)⟩
    cases d with
    | lst ds => exact go ds (.inl rfl) A1
    | kl ds => exact go ds (.inr rfl) A1
    | _ => exact A1.elim
theorem di_tup (h : PE X e (tM X.K F W q (RSh X.K) m)) : PI X tg e (tI X.K F W (tupM' m)) :=
  PI_mono (pi_tup h) fun σ H R z => di_of (RR := RSh X.K) z fun d st1 G1 fpf1 v H1 S1 r1 A1 => by
    cases d with
    | tup ds =>
      have r1' : Rep X.K G1 (.tup ds) v := r1
      cases r1' with
      | tup h r => exact ⟨_, rfl, ⟨_, sqT_mono S1.gh h⟩, A1 _ H1 G1 fpf1 (Same.refl G1) S1 (itr_tup h r)⟩
    | _ => exact A1.elim
/-- range(n), range(a, b) -/
def rng1M (m : M D) : M (List D) := bnd m fun d => match d with
  | .int j => if -4611686018427387904 ≤ j ∧ j < 4611686018427387904 then ret (rangeD 0 j.toNat) else stuckM
  | _ => stuckM
theorem one_of {K : PySem.W.Frag} {α : Type} {R : Rl α V} {ma : M α} {σ : St} {H : Hp} {Q : List V → Hp → Prop} (h : tM K F W q R ma σ H fun v H' => Q [v] H') : tCons (tM K F W q R ma) tNil σ H Q := h
theorem di_rng1 {p1 : Pos} (hg : Gl X "range") (hm : X.mg "range" = none) (ha : PE X e (tM X.K F W q (RSh X.K) m)) (hs : starEach [e] X.env = [(false, eval e X.env)] := by rfl) :
    PI X tg (.Call (.Name "range" p1) [e] [] pos) (tI X.K F W (rng1M m)) :=
  PI_mono (pi_range1 hg hm (pa_cons ha pa_nil hs) hs) fun σ H R z => one_of (di_of (RR := RSh X.K) z fun d st1 G1 fpf1 v H1 S1 r1 A1 => by
    cases d with
    | int j =>
      by_cases c : -4611686018427387904 ≤ j ∧ j < 4611686018427387904
      · dsimp only at A1; rw [if_pos c] at A1
        exact ⟨j, by rw [(Rp.rep (H := H1) r1).int], c.1, c.2, A1 _ H1 G1 fpf1 (Same.refl G1) S1 itr_rng⟩
      · dsimp only at A1; rw [if_neg c] at A1; exact A1.elim
    | _ => exact A1.elim)
end
/-! ### for -/
def loopM (t : Tg) (b : MS) : List D → MS
  | [] => skipM
  | d :: ds => fun st => match t.run d st with
    | none => .stuck
    | some st1 => match b st1 with
      | .nx st2 => loopM t b ds st2
      | .ct st2 => loopM t b ds st2
      | .bk st2 => .nx st2
      | r => r
def forM (mi : M (List D)) (t : Tg) (b : MS) : MS := doM mi (loopM t b)
/-- what an item of a walk brings: the item stands, maybe made new -/
theorem Sync.took {K : PySem.W.Frag} {F : Fr} {G : Hp} {fpf : Nat → List Addr} {σ : St} {H H' : Hp} {st : DSt} (S : Sync K F G fpf σ H st) {d : D} {v : V} (r : Res1 K G H d v H') : ∃ G', Same G G' ∧ Sync K F G' fpf σ H' st ∧ Rep K G' d v := by
  rcases r with ⟨rfl, r⟩ | ⟨p, o, hp, rfl, rfl, r⟩
  · exact ⟨G, Same.refl G, S, r⟩
  · exact ⟨upd G p o, same_upd S.gh hp, S.alloc hp r.pl.1, (r.mono (same_upd S.gh hp)).rep upd_same⟩
theorem ds_for {X : Cx} {F : Fr} {W : WX} {tg iter : Expr} {body : List Stmt} {pos : Pos} {mi : M (List D)} {t : Tg} {b : MS} (hp : PassesOwn (model X.prog X.w) X.A X.env X.xe) (hc : X.calm = true) (hi : PI X tg iter (tI X.K F W mi)) (hg : PG X tg (tG X.K F t)) (hb : PSs X body (tS X.K F W b))
    (hs : ∀ x, foldedSetIterable iter X.env x = pure x := by intro _; rfl) : PS X (.For tg iter body [] pos) (tS X.K F W (forM mi t b)) := PS_mono (ps_for hp hc hi hg hb hs) fun D σ H h => by
  obtain ⟨st, G, fpf, S, A⟩ := h
  refine ⟨st, G, fpf, S, ?_⟩
  unfold forM doM at A
  cases e : mi st with
  | stuck => rw [e] at A; exact A
  | err x st' => rw [e] at A; exact fun a fv H' G' fpf' g S' => A a fv σ H' G' fpf' g S'
  | ok ds st' =>
    rw [e] at A
    intro J H1 G1 fpf1 g1 S1 it
    refine ⟨fun i m σ' H' => m = ds.length - i ∧ i ≤ ds.length ∧ ∃ st2 G2 fpf2, Same G1 G2 ∧ Sync X.K F G2 fpf2 σ' H' st2 ∧ AtS X.K F W (loopM t b (ds.drop i) st2) G2 D, ⟨ds.length, by simp, Nat.zero_le _, st', G1, fpf1, Same.refl G1, S1, by rw [List.drop_zero]; exact AtS.back A g1⟩, ?_⟩
    rintro i m σ' H' ⟨rfl, hi, st2, G2, fpf2, g2, S2, A2⟩
    obtain ⟨it1, it2⟩ := it G2 H' g2 S2.gh i
    by_cases hl : i < ds.length
    · rw [List.drop_eq_getElem_cons hl] at A2
      obtain ⟨go, yl⟩ := it1 ds[i] (List.getElem?_eq_getElem hl)
      refine .inr ⟨go, fun σ3 H3 => ∃ st3 G3 fpf3, Same G1 G3 ∧ Sync X.K F G3 fpf3 σ3 H3 st3 ∧ AtS X.K F W (loopM t b (ds.drop (i + 1)) st3) G3 D, fun σ3 H3 z => ⟨ds.length - (i + 1), by omega, rfl, hl, z⟩, fun x H3 y => ?_⟩
      obtain ⟨G3, g3, S3, r3⟩ := S2.took (yl x H3 y)
      unfold loopM at A2
      cases et : t.run ds[i] st2 with
      | none => rw [et] at A2; exact A2.elim
      | some st4 =>
        rw [et] at A2
        dsimp only at A2
        refine ⟨ds[i], st2, G3, fpf2, S3, r3, st4, et, fun σ4 S4 _ => ⟨st4, G3, fpf2, S4, ?_⟩⟩
        cases eb : b st4 with
        | nx st5 => rw [eb] at A2; exact fun σ5 H5 G5 fpf5 g5 S5 => ⟨st5, G5, fpf5, (g2.trans g3).trans g5, S5, AtS.back A2 (g3.trans g5)⟩
        | ct st5 => rw [eb] at A2; exact fun σ5 H5 G5 fpf5 g5 S5 => ⟨st5, G5, fpf5, (g2.trans g3).trans g5, S5, AtS.back A2 (g3.trans g5)⟩
        | bk st5 => rw [eb] at A2; exact fun σ5 H5 G5 fpf5 g5 S5 => A2 σ5 H5 G5 fpf5 (g3.trans g5) S5
        | rt fr d st5 => rw [eb] at A2; cases fr <;> exact fun v σ5 H5 G5 fpf5 g5 S5 r5 => A2 v σ5 H5 G5 fpf5 (g3.trans g5) S5 r5
        | err x st5 => rw [eb] at A2; exact fun a fv σ5 H5 G5 fpf5 g5 S5 => A2 a fv σ5 H5 G5 fpf5 (g3.trans g5) S5
        | stuck => rw [eb] at A2; exact A2
    · rw [List.drop_eq_nil_of_le (by omega)] at A2
      exact .inl ⟨it2 (List.getElem?_eq_none_iff.mpr (by omega)), A2 σ' H' G2 fpf2 (Same.refl G2) S2⟩
end DL
namespace DL
variable [TB] [LC]
open PySem L2
/-! ### list comprehensions -/
def WF : WX := fun _ _ _ _ => False
def wipeD (st : DSt) : List Nat → DSt
  | [] => st
  | v :: vs => (wipeD st vs).set v none
def compL (vs : List Nat) (t : Tg) (mt : M Bool) (me : M D) : List D → List D → M D
  | [], acc => fun st => .ok (.lst acc) st
  | d :: ds, acc => fun st => match t.run d st with
    | none => .stuck
    | some st1 => match mt st1 with
      | .ok true st2 => match me st2 with
        | .ok y st3 => if acc.length < 16777216 then compL vs t mt me ds (acc ++ [y]) (wipeD st3 vs) else .stuck
        | _ => .stuck
      | .ok false st2 => compL vs t mt me ds acc (wipeD st2 vs)
      | _ => .stuck
def compM (vs : List Nat) (mi : M (List D)) (t : Tg) (mt : M Bool) (me : M D) : M D := bnd mi fun ds st => compL vs t mt me ds [] (wipeD st vs)
section
variable {K : PySem.W.Frag} {F : Fr} {G : Hp} {fpf : Nat → List Addr} {σ : St} {H : Hp} {st : DSt}
theorem Sync.wipe (S : Sync K F G fpf σ H st) : ∀ vs : List Nat, (∀ v ∈ vs, F.gv v = none) → Sync K F G fpf (L2.wipe σ vs) H (wipeD st vs)
  | [], _ => S
  | v :: vs, h => (Sync.wipe S vs fun u z => h u (List.mem_cons_of_mem _ z)).any v none (h v List.mem_cons_self)
theorem wipe_get {σ : St} {i : Nat} : ∀ {vs : List Nat}, i ∉ vs → (L2.wipe σ vs)[i]? = σ[i]?
  | [], _ => rfl
  | v :: vs, h => by
    unfold L2.wipe
    rw [List.getElem?_set_ne fun z => h (by rw [z]; exact List.mem_cons_self)]
    exact wipe_get fun z => h (List.mem_cons_of_mem _ z)
theorem wipeD_none {st : DSt} {i : Nat} : ∀ {vs : List Nat}, i ∈ vs → ∀ s, (wipeD st vs)[i]? ≠ some (some s)
  | v :: vs, h, s, e => by
    unfold wipeD at e
    rcases get_set e with ⟨_, b, _⟩ | ⟨a, b⟩
    · cases b
    · rcases List.mem_cons.mp h with z | z
      · exact a z
      · exact wipeD_none z s b
theorem wipeS_none {σ : St} {i : Nat} : ∀ {vs : List Nat}, i ∈ vs → ∀ s, (L2.wipe σ vs)[i]? ≠ some (some s)
  | v :: vs, h, s, e => by
    unfold L2.wipe at e
    rcases get_set e with ⟨_, b, _⟩ | ⟨a, b⟩
    · cases b
    · rcases List.mem_cons.mp h with z | z
      · exact a z
      · exact wipeS_none z s b
theorem wipe_wipe (σ : St) (vs : List Nat) : L2.wipe (L2.wipe σ vs) vs = L2.wipe σ vs := by
  apply List.ext_getElem?
  intro i
  by_cases h : i ∈ vs
  · cases e : (L2.wipe σ vs)[i]? with
    | none =>
      rw [List.getElem?_eq_none_iff] at e ⊢
      rw [wipe_length]; exact e
    | some s =>
      cases s with
      | some s => exact absurd e (wipeS_none h s)
      | none =>
        have li := (List.getElem?_eq_some_iff.mp e).1
        cases e2 : (L2.wipe (L2.wipe σ vs) vs)[i]? with
        | none => rw [List.getElem?_eq_none_iff, wipe_length] at e2; omega
        | some s2 =>
          cases s2 with
          | none => rfl
          | some s2 => exact absurd e2 (wipeS_none h s2)
  · rw [wipe_get h]
/-- back from the block -/
theorem Sync.unwipe {vs : List Nat} (S : Sync K F G fpf (L2.wipe σ vs) H (wipeD st vs)) (hv : ∀ v ∈ vs, F.gv v = none) : Sync K F G fpf σ H (wipeD st vs) where
  len := by rw [S.len, wipe_length]
  sh := fun i d e => by
    have h : i ∉ vs := fun z => wipeD_none z _ e
    obtain ⟨v, h1, h2⟩ := S.sh i d e
    exact ⟨v, by rw [← wipe_get h]; exact h1, h2⟩
  ow := fun i m d e => by
    have h : i ∉ vs := fun z => wipeD_none z _ e
    obtain ⟨v, h1, h2⟩ := S.ow i m d e
    exact ⟨v, by rw [← wipe_get h]; exact h1, h2⟩
  sep := S.sep
  g0 := S.g0
  gh := S.gh
  new := S.new
  pr := S.pr
  live := S.live
  hidG := S.hidG
  hidP := S.hidP
  ng := S.ng
  np := S.np
  tab := S.tab
  gv := fun i x e => by
    have n : i ∉ vs := fun z => by rw [hv i z] at e; cases e
    rw [← wipe_get n]; exact S.gv i x e
theorem wipe_idem' {σ σ2 : St} {vs : List Nat} (h : L2.wipe σ2 vs = L2.wipe σ vs) (S : Sync K F G fpf σ2 H st) (hv : ∀ v ∈ vs, F.gv v = none) : Sync K F G fpf (L2.wipe σ vs) H (wipeD st vs) := by
  rw [← h]; exact S.wipe vs hv
end
structure LcI (K : PySem.W.Frag) (F : Fr) (W : WX) (vs : List Nat) (t : Tg) (mt : M Bool) (me : M D) (σ : St) (G1 : Hp) (Dn : Addr) (Q : VK) (ds : List D) (H' : Hp) : Prop where
  ex : ∃ (st2 : DSt) (G2 : Hp) (fpf2 : Nat → List Addr) (acc : List D) (va : List V), Same G1 G2 ∧ Sync K F G2 fpf2 (L2.wipe σ vs) H' (wipeD st2 vs) ∧ Apart F G2 fpf2 (wipeD st2 vs) Dn ∧ H' Dn = some (.lst va) ∧ RepA K G2 acc va ∧ At K F W false (RFr K F) (compL vs t mt me ds acc (wipeD st2 vs)) (wipeD st2 vs) G2 fpf2 σ H' Q
theorem At.move {K : PySem.W.Frag} {F : Fr} {W : WX} {α ρ : Type} {R : Rl α ρ} {r : Res α} {st st' : DSt} {G G' H H' : Hp} {fpf fpf' : Nat → List Addr} {σ : St} {Q : ρ → Hp → Prop} (h : At K F W false R r st G fpf σ H Q) (g : Same G G') : At K F W false R r st' G' fpf' σ H' Q := by
  cases r with
  | ok d s => exact fun v H2 G2 fpf2 _ gg => h v H2 G2 fpf2 nq (g.trans gg)
  | err x s => exact fun a fv H2 G2 fpf2 gg => h a fv H2 G2 fpf2 (g.trans gg)
  | stuck => exact h
section
variable {X : Cx} {F : Fr} {W : WX} {q1 q2 : Bool} {elt tg iter : Expr} {ifs : List Expr} {scope : Scope} {own : List (Str × Nat)} {pos spos : Pos} {mi : M (List D)} {t : Tg} {mt : M Bool} {me : M D}
theorem lc_of {K : PySem.W.Frag} {n : Nat} {σ : St} {H : Hp} {Q : VK} {vs : List Nat} [gk : GvOk F n] (hvn : ∀ v ∈ vs, v < n) (ht : ∀ i ∈ t.sl, i ∈ vs) (h : tM K F W false (RFr K F) (compM vs mi t mt me) σ H Q) :
    tLc (tI K F W mi) (fun v σ H Q => ∃ F', GvOk F' n ∧ tG K F' t v σ H Q) (fun σ H Q => ∃ F', GvOk F' n ∧ tM K F' WF q1 REq mt σ H Q) (fun σ H Q => ∃ F', GvOk F' n ∧ tM K F' WF q2 (RSh K) me σ H Q) vs σ H Q := by
  have hgv : ∀ v ∈ vs, F.gv v = none := fun v z => gk.none (hvn v z)
  obtain ⟨st, G, fpf, S, A⟩ := h
  refine ⟨st, G, fpf, S, ?_⟩
  unfold compM bnd at A
  cases e : mi st with
  | stuck => rw [e] at A; exact A
  | err x st' => rw [e] at A; exact A
  | ok ds st' =>
    rw [e] at A
    intro J H1 G1 fpf1 g1 S1 it Dn hDn
    have ap : Apart F G1 fpf1 (wipeD st' vs) Dn := ⟨S1.freshG hDn, S1.fresh hDn, S1.freshP hDn, fun i hi hb => (S1.wipe vs hgv).ne_fp hDn hi _ hb rfl⟩
    refine ⟨fun i m H' => m = ds.length - i ∧ i ≤ ds.length ∧ LcI K F W vs t mt me σ G1 Dn Q (ds.drop i) H', ⟨ds.length, by simp, Nat.zero_le _, ⟨⟨st', G1, fpf1, [], [], Same.refl G1, (S1.wipe vs hgv).allocH hDn, ap, upd_same, .nil, by rw [List.drop_zero]; exact At.move A g1⟩⟩⟩, ?_⟩
    rintro i m H' ⟨rfl, hi, ⟨st2, G2, fpf2, acc, va, g2, S2, ap2, hD, ra, A2⟩⟩
    obtain ⟨it1, it2⟩ := it G2 H' g2 S2.gh i
    by_cases hl : i < ds.length
    · rw [List.drop_eq_getElem_cons hl] at A2
      obtain ⟨go, yl⟩ := it1 ds[i] (List.getElem?_eq_getElem hl)
      refine .inr ⟨go, fun H3 => LcI K F W vs t mt me σ G1 Dn Q (ds.drop (i + 1)) H3, fun H3 z => ⟨ds.length - (i + 1), by omega, rfl, hl, z⟩, fun x H3 y => ?_⟩
      have S2' := S2.hide ap2 hD ⟨fun _ z => (nomatch z), fun _ z => (nomatch z)⟩
      have hh := S2.hidP
      obtain ⟨G3, g3, S3, r3⟩ := S2'.took (yl x H3 y)
      unfold compL at A2
      cases et : t.run ds[i] (wipeD st2 vs) with
      | none => rw [et] at A2; exact A2.elim
      | some st4 =>
        rw [et] at A2
        dsimp only at A2
        refine ⟨F.hide Dn (.lst va), inferInstance, ds[i], wipeD st2 vs, G3, fpf2, S3, r3, st4, et, fun σ4 S4 w4 => ⟨?_, ?_⟩⟩
        · rw [w4 vs ht]
          exact wipe_wipe σ vs
        · have w5 : L2.wipe σ4 vs = L2.wipe σ vs := (w4 vs ht).trans (wipe_wipe σ vs)
          refine ⟨F.hide Dn (.lst va), inferInstance, st4, G3, fpf2, S4, ?_⟩
          cases em : mt st4 with
          | stuck => rw [em] at A2; exact A2.elim
          | err x s => rw [em] at A2; exact A2.elim
          | ok b st5 =>
            rw [em] at A2
            intro b' H5 G5 fpf5 _ g5 S5 eb
            have eb' : b' = b := eb
            subst eb'
            cases b' with
            | false =>
              dsimp only at A2
              rw [if_neg Bool.false_ne_true]
              obtain ⟨U, ap5, hD5⟩ := (wipe_idem' w5 S5 hgv).unhide ap2.pr ap2.he hh
              exact ⟨⟨st5, G5, fpf5, acc, va, (g2.trans g3).trans g5, U, ap5, hD5, (ra.mono g3).mono g5, At.move A2 (g3.trans g5)⟩⟩
            | true =>
              dsimp only at A2
              rw [if_pos rfl]
              refine ⟨F.hide Dn (.lst va), inferInstance, st5, G5, fpf5, S5, ?_⟩
              cases ee : me st5 with
              | stuck => rw [ee] at A2; exact A2.elim
              | err x s => rw [ee] at A2; exact A2.elim
              | ok y st6 =>
                rw [ee] at A2
                intro v H6 G6 fpf6 _ g6 S6 r6
                have r6' : Rep K G6 y v := r6
                dsimp only at A2
                by_cases c : acc.length < 16777216
                · rw [if_pos c] at A2
                  obtain ⟨U, ap6, hD6⟩ := (wipe_idem' w5 S6 hgv).unhide ap2.pr ap2.he hh
                  refine ⟨va, hD6, by rw [← ra.length, sizeLine_eq]; exact c, ⟨⟨st6, G6, fpf6, acc ++ [y], va ++ [v], ((g2.trans g3).trans g5).trans g6, U.poke ap6 ⟨_, hD6, ⟨fun _ z => (nomatch z), fun _ z => (nomatch z)⟩⟩ ⟨fun _ z => (nomatch z), fun _ z => (nomatch z)⟩, ap6, upd_same, (((ra.mono g3).mono g5).mono g6).append (.cons r6' .nil), At.move A2 ((g3.trans g5).trans g6)⟩⟩⟩
                · rw [if_neg c] at A2; exact A2.elim
    · rw [List.drop_eq_nil_of_le (by omega)] at A2
      refine .inl ⟨it2 (List.getElem?_eq_none_iff.mpr (by omega)), ?_⟩
      exact A2 (.ref Dn) H' G2 fpf2 nq (Same.refl G2) (S2.unwipe hgv) ⟨⟨Dn, [Dn], rfl, .flat hD (.lst ra), by simp, fun b hb => by
        rw [List.mem_singleton] at hb
        subst hb
        exact ⟨ap2.g, ⟨ap2.he, ap2.pr⟩, fun j hj => ap2.fp j hj⟩⟩⟩
theorem df_lc {n : Nat} [gk : GvOk F n] (hc : X.calm = true) (hN : X.N.Nodup) (hi : PI X tg iter (tI X.K F W mi)) (ok : BlkOk X.N X.env.scope scope own)
    (hg : ∀ (s : Shared) (H : Hp) (C : Addr) (cl : List (Str × Addr)) (fp : List Addr) (F' : Fr) [GvOk F' n], PG (X.blk s H scope (compEnvC scope cl C X.env) fp) tg (tG X.K F' t))
    (ht : ∀ (s : Shared) (H : Hp) (C : Addr) (cl : List (Str × Addr)) (fp : List Addr) (F' : Fr) [GvOk F' n], PTs (X.blk s H scope (compEnvC scope cl C X.env) fp) ifs (tM X.K F' WF q1 REq mt))
    (he : ∀ (s : Shared) (H : Hp) (C : Addr) (cl : List (Str × Addr)) (fp : List Addr) (F' : Fr) [GvOk F' n], PE (X.blk s H scope (compEnvC scope cl C X.env) fp) elt (tM X.K F' WF q2 (RSh X.K) me))
    (hv : ∀ i ∈ t.sl, i ∈ own.map (·.2) := by decide) (hvn : ∀ v ∈ own.map (·.2), v < n := by decide) (hs : ∀ x, foldedSetIterable iter X.env x = pure x := by intro _; rfl) :
    PE X (.ListComp elt [⟨tg, iter, ifs, 0⟩] scope pos) (tM X.K F W false (RFr X.K F) (compM (own.map (·.2)) mi t mt me)) :=
  PE_mono (pe_lc hc hN hi ok (fun s H C cl fp => ⟨fun pins s' σ H' v u Q I r ⟨F', kk, z⟩ => (hg s H C cl fp F').run pins s' σ H' v u Q I r z⟩) (fun s H C cl fp => ⟨fun pins s' σ H' Q I ⟨F', kk, z⟩ => (ht s H C cl fp F').run pins s' σ H' Q I z⟩)
    (fun s H C cl fp => ⟨fun pins s' σ H' Q I ⟨F', kk, z⟩ => (he s H C cl fp F').run pins s' σ H' Q I z⟩) hs) fun σ H Q h => lc_of hvn hv h
theorem dt_yes : PTs X [] (tM X.K F WF true REq (ret true)) := ⟨fun pins s σ H Q I ⟨st, G, fpf, S, A⟩ => pts_nil.run pins s σ H Q I (A.done S rfl)⟩
theorem dt_ifs {c : Expr} {q : Bool} (h : PT X c (tM X.K F WF q REq mt)) : PTs X [c] (tM X.K F WF q REq mt) := pts_one h
end
end DL
namespace DL
variable [TB] [LC]
open PySem L2
/-! ### calls of built-ins -/
def Ca (K : PySem.W.Frag) (r : List V → Hp → VK → Prop) (g : D → Option D) : Prop := ∀ {G H : Hp} {d z : D} {x : V} {Q : VK}, Same G H → Rp K G H d x → g d = some z → (∀ v H', Res1 K G H z v H' → Q v H') → r [x] H Q
def Ca0 (K : PySem.W.Frag) (r : List V → Hp → VK → Prop) (g : D → Option D) : Prop := ∀ {G H : Hp} {d z : D} {x : V} {Q : VK}, Same G H → Rp K G H d x → g d = some z → (∀ v, Rep K G z v → Q v H) → r [x] H Q
def CaN (K : PySem.W.Frag) (r : List V → Hp → VK → Prop) (g : D → Option D) : Prop := ∀ {G H : Hp} {d z : D} {x : V} {Q : VK}, Same G H → Rp K G H d x → g d = some z → (∀ v H', ResN K G H z v H' → Q v H') → r [x] H Q
def Cb0 (K : PySem.W.Frag) (r : List V → Hp → VK → Prop) (g : D → D → Option D) : Prop := ∀ {G H : Hp} {d e z : D} {x y : V} {Q : VK}, Same G H → Rp K G H d x → Rp K G H e y → g d e = some z → (∀ v, Rep K G z v → Q v H) → r [x, y] H Q
def Cb (K : PySem.W.Frag) (r : List V → Hp → VK → Prop) (g : D → D → Option D) : Prop := ∀ {G H : Hp} {d e z : D} {x y : V} {Q : VK}, Same G H → Rp K G H d x → Rp K G H e y → g d e = some z → (∀ v H', Res1 K G H z v H' → Q v H') → r [x, y] H Q
theorem Ca0.any {K : PySem.W.Frag} {r : List V → Hp → VK → Prop} {g : D → Option D} (h : Ca0 K r g) : Ca K r g := fun a b c k => h a b c fun v q => k v _ (.inl ⟨rfl, q⟩)
theorem CaN.any {K : PySem.W.Frag} {r : List V → Hp → VK → Prop} {g : D → Option D} (h : CaN K r g) : Ca K r g := fun a b c k => h a b c fun v H' q => k v H' (.inr q)
theorem Cb0.any {K : PySem.W.Frag} {r : List V → Hp → VK → Prop} {g : D → D → Option D} (h : Cb0 K r g) : Cb K r g := fun a b c d k => h a b c d fun v q => k v _ (.inl ⟨rfl, q⟩)
section
variable {K : PySem.W.Frag} {F : Fr} {W : WX} {q q1 q2 : Bool} {σ : St} {H : Hp} {m ma mb : M D} {r : List V → Hp → VK → Prop} {Q : VK}
theorem ca_of0 {g : D → Option D} (hs : Ca0 K r g) (h : tM K F W q (RSh K) (unM g m) σ H Q) : tCB r (tCons (tM K F W q (RPk K) m) tNil) σ H Q :=
  bind_of (q2 := true) (R1 := RPk K) (fun z => ⟨z, rfl⟩) h fun d st1 G1 fpf1 v H1 S1 r1 A1 => by
    unfold lift at A1
    cases w : g d with
    | none => rw [w] at A1; exact A1.elim
    | some z => rw [w] at A1; exact hs S1.gh r1 w fun v k => A1.end0 S1 k
theorem ca_ofN {g : D → Option D} (hs : CaN K r g) (h : tM K F W false (RFr K F) (unM g m) σ H Q) : tCB r (tCons (tM K F W q (RPk K) m) tNil) σ H Q :=
  bind_of (q2 := false) (R1 := RPk K) nq h fun d st1 G1 fpf1 v H1 S1 r1 A1 => by
    unfold lift at A1
    cases w : g d with
    | none => rw [w] at A1; exact A1.elim
    | some z => rw [w] at A1; exact hs S1.gh r1 w fun v H' k => A1.endF S1 k
theorem cb_of0 {g : D → D → Option D} (hs : Cb0 K r g) (h : tM K F W (q1 && q2) (RSh K) (opM g ma mb) σ H Q) : tCB r (tCons (tM K F W q1 (RSh K) ma) (tCons (tM K F W q2 (RPk K) mb) tNil)) σ H Q := by
  refine bind_of (q2 := q2) (R1 := RSh K) (fun z => Bool.and_eq_true_iff.mp z) h fun d st1 G1 fpf1 v H1 S1 r1 A1 => ?_
  refine ⟨st1, G1, fpf1, S1, A1.bndK (q1 := q2) (q2 := true) (R1 := RPk K) (fun z => ⟨z, rfl⟩) fun e st2 G2 fpf2 u H2 g2 S2 z2 e2 r2 A2 => ?_⟩
  unfold lift at A2
  cases w : g d e with
  | none => rw [w] at A2; exact A2.elim
  | some z => rw [w] at A2; exact hs S2.gh (.rep (Rep.mono g2 r1)) r2 w fun v k => A2.end0 S2 k
end
section
variable {X : Cx} {F : Fr} {W : WX} {q q1 q2 : Bool} {e a b : Expr} {x : Str} {pos p : Pos} {m ma mb : M D} {r : List V → Hp → VK → Prop} {id T : String}
theorem de_call0 {g : D → Option D} (hc : CallR X (.builtin id) r) (hs : Ca0 X.K r g) (hg : Gl X x) (hm : X.mg x = none) (ha : PE X e (tM X.K F W q (RPk X.K) m)) (hv : bootBuiltins x = some (.builtin id) := by decide +kernel) (hn : x ≠ "__name__" := by decide) (hdb : (x == ("__debug__" : Str)) = false := by decide)
    (he : starEach [e] X.env = (false, eval e X.env) :: starEach [] X.env := by rfl) (hpl : (backTo pos (starEach [] X.env)).any (·.1) = false := by rfl) : PE X (.Call (.Name x p) [e] [] pos) (tM X.K F W q (RSh X.K) (unM g m)) :=
  PE_mono (pe_callB hc hg hm hv (pa_cons ha pa_nil he) hn hdb he hpl) fun σ H Q h => ca_of0 hs h
theorem de_callT0 {g : D → Option D} (hc : CallR X (.type T) r) (hs : Ca0 X.K r g) (hg : Gl X x) (hm : X.mg x = none) (ha : PE X e (tM X.K F W q (RPk X.K) m)) (hv : bootBuiltins x = some (.type T) := by decide +kernel) (hn : x ≠ "__name__" := by decide) (hdb : (x == ("__debug__" : Str)) = false := by decide)
    (he : starEach [e] X.env = (false, eval e X.env) :: starEach [] X.env := by rfl) (hpl : (backTo pos (starEach [] X.env)).any (·.1) = false := by rfl) : PE X (.Call (.Name x p) [e] [] pos) (tM X.K F W q (RSh X.K) (unM g m)) :=
  PE_mono (pe_callTy hc hg hm hv (pa_cons ha pa_nil he) hn hdb he hpl) fun σ H Q h => ca_of0 hs h
theorem df_callT {g : D → Option D} (hc : CallR X (.type T) r) (hs : CaN X.K r g) (hg : Gl X x) (hm : X.mg x = none) (ha : PE X e (tM X.K F W q (RPk X.K) m)) (hv : bootBuiltins x = some (.type T) := by decide +kernel) (hn : x ≠ "__name__" := by decide) (hdb : (x == ("__debug__" : Str)) = false := by decide)
    (he : starEach [e] X.env = (false, eval e X.env) :: starEach [] X.env := by rfl) (hpl : (backTo pos (starEach [] X.env)).any (·.1) = false := by rfl) : PE X (.Call (.Name x p) [e] [] pos) (tM X.K F W false (RFr X.K F) (unM g m)) :=
  PE_mono (pe_callTy hc hg hm hv (pa_cons ha pa_nil he) hn hdb he hpl) fun σ H Q h => ca_ofN hs h
theorem de_call2 {g : D → D → Option D} (hc : CallR X (.builtin id) r) (hs : Cb0 X.K r g) (hg : Gl X x) (hm : X.mg x = none) (ha : PE X a (tM X.K F W q1 (RSh X.K) ma)) (hb : PE X b (tM X.K F W q2 (RPk X.K) mb)) (hv : bootBuiltins x = some (.builtin id) := by decide +kernel) (hn : x ≠ "__name__" := by decide) (hdb : (x == ("__debug__" : Str)) = false := by decide)
    (hb1 : starEach [b] X.env = (false, eval b X.env) :: starEach [] X.env := by rfl) (he : starEach [a, b] X.env = (false, eval a X.env) :: starEach [b] X.env := by rfl) (hpl : (backTo pos (starEach [b] X.env)).any (·.1) = false := by rfl) : PE X (.Call (.Name x p) [a, b] [] pos) (tM X.K F W (q1 && q2) (RSh X.K) (opM g ma mb)) :=
  PE_mono (pe_callB hc hg hm hv (pa_cons ha (pa_cons hb pa_nil hb1) he) hn hdb he hpl) fun σ H Q h => cb_of0 hs h
end
/-! ### the built-ins by data -/
def lenD : D → Option D
  | .lst xs => some (.int xs.length)
  | .kl xs => some (.int xs.length)
  | .tup xs => some (.int xs.length)
  | .str z => if z.length ≤ 16777216 then some (.int z.length) else none
  | _ => none
def intD : D → Option D
  | .int i => some (.int i)
  | .bl b => some (.int (if b then 1 else 0))
  | _ => none
def max2D : D → D → Option D
  | .int i, .int j => some (.int (if j > i then j else i))
  | _, _ => none
def min2D : D → D → Option D
  | .int i, .int j => some (.int (if j < i then j else i))
  | _, _ => none
def listD : D → Option D
  | .lst xs => some (.lst xs)
  | .kl xs => some (.lst xs)
  | .tup xs => some (.lst xs)
  | _ => none
def asInts : List D → Option (List Int)
  | [] => some []
  | .int i :: ds => (asInts ds).map (i :: ·)
  | _ => none
def asBls : List D → Option (List Bool)
  | [] => some []
  | .bl i :: ds => (asBls ds).map (i :: ·)
  | _ => none
def seqOf : D → Option (List D)
  | .lst xs => some xs
  | .kl xs => some xs
  | _ => none
def intsOf (d : D) : Option (List Int) := (seqOf d).bind asInts
def blsOf (d : D) : Option (List Bool) := (seqOf d).bind asBls
def allD (d : D) : Option D := (blsOf d).map fun bs => .bl (bs.all id)
theorem asBls_inv : ∀ {ds : List D} {ns : List Bool}, asBls ds = some ns → ds = ns.map .bl
  | [], ns, h => by cases h; rfl
  | d :: ds, ns, h => by
    cases d <;> simp only [asBls, reduceCtorEq] at h
    obtain ⟨ms, e, rfl⟩ := Option.map_eq_some_iff.mp h
    rw [asBls_inv e]; rfl
section
variable {K : PySem.W.Frag}
def rLenD (K : PySem.W.Frag) : List V → Hp → VK → Prop := fun xs H Q => (∃ p ys, xs = [.ref p] ∧ (SqL K H p ys ∨ SqT K H p ys) ∧ Q (.int ys.length) H) ∨ ∃ z, xs = [.str z] ∧ z.length ≤ sizeLine ∧ Q (.int z.length) H
theorem k_len {X : Cx} : CallR X (.builtin "len") (rLenD X.K) := CallR.or call_len_seq call_len_str
theorem s_len : Ca0 K (rLenD K) lenD := fun {G H d z x Q} g rx h q => by
  unfold lenD at h
  split at h
  · cases h
    obtain ⟨a, vs, rfl, ha, ra⟩ := rx.seqL g (.inl rfl)
    exact .inl ⟨a, vs, rfl, .inl ha, by rw [← ra.length]; exact q _ (.int _)⟩
  · cases h
    obtain ⟨a, vs, rfl, ha, ra⟩ := rx.seqL g (.inr rfl)
    exact .inl ⟨a, vs, rfl, .inl ha, by rw [← ra.length]; exact q _ (.int _)⟩
  · cases h
    obtain ⟨a, vs, rfl, ha, ra⟩ := rx.tup g
    exact .inl ⟨a, vs, rfl, .inr ha, by rw [← ra.length]; exact q _ (.int _)⟩
  · obtain ⟨c, rfl⟩ := if_some h
    exact .inr ⟨_, by rw [rx.str], leLine c, q _ (.int _)⟩
  · cases h
def rInt1 : List V → Hp → VK → Prop := fun xs H Q => (∃ i, xs = [.int i] ∧ Q (.int i) H) ∨ ∃ k, xs = [.bl k] ∧ Q (.int (if k then 1 else 0)) H
theorem s_int : Ca0 K rInt1 intD := fun {G H d z x Q} g rx h q => by
  unfold intD at h
  split at h
  · cases h; exact .inl ⟨_, by rw [rx.int], q _ (.int _)⟩
  · cases h; exact .inr ⟨_, by rw [rx.bl], q _ (.int _)⟩
  · cases h
def rMax2 : List V → Hp → VK → Prop := fun xs H Q => ∃ i j, xs = [.int i, .int j] ∧ Q (.int (if j > i then j else i)) H
def rMin2 : List V → Hp → VK → Prop := fun xs H Q => ∃ i j, xs = [.int i, .int j] ∧ Q (.int (if j < i then j else i)) H
theorem s_max2 : Cb0 K rMax2 max2D := fun {G H d e z x y Q} g rx ry h q => by
  unfold max2D at h
  split at h
  · cases h; exact ⟨_, _, by rw [rx.int, ry.int], q _ (.int _)⟩
  · cases h
theorem s_min2 : Cb0 K rMin2 min2D := fun {G H d e z x y Q} g rx ry h q => by
  unfold min2D at h
  split at h
  · cases h; exact ⟨_, _, by rw [rx.int, ry.int], q _ (.int _)⟩
  · cases h
def rListD (K : PySem.W.Frag) : List V → Hp → VK → Prop := fun xs H Q => ∃ p ys, xs = [.ref p] ∧ (SqL K H p ys ∨ SqT K H p ys) ∧ ∀ l, H l = none → Q (.ref l) (upd H l (.lst ys))
theorem s_list : CaN K (rListD K) listD := fun {G H d z x Q} g rx h q => by
  unfold listD at h
  split at h
  · cases h
    obtain ⟨a, vs, rfl, ha, ra⟩ := rx.seqL g (.inl rfl)
    exact ⟨a, vs, rfl, .inl ha, fun p hp => q _ _ ⟨p, _, hp, rfl, rfl, .lst ra⟩⟩
  · cases h
    obtain ⟨a, vs, rfl, ha, ra⟩ := rx.seqL g (.inr rfl)
    exact ⟨a, vs, rfl, .inl ha, fun p hp => q _ _ ⟨p, _, hp, rfl, rfl, .lst ra⟩⟩
  · cases h
    obtain ⟨a, vs, rfl, ha, ra⟩ := rx.tup g
    exact ⟨a, vs, rfl, .inr ha, fun p hp => q _ _ ⟨p, _, hp, rfl, rfl, .lst ra⟩⟩
  · cases h
theorem bls_of {G H : Hp} {d : D} {x : V} {ns : List Bool} (g : Same G H) (rx : Rp K G H d x) (h : blsOf d = some ns) : ∃ a, x = .ref a ∧ SqL K H a (ns.map V.bl) := by
  unfold blsOf at h
  obtain ⟨ds, e1, e2⟩ := Option.bind_eq_some_iff.mp h
  have e3 := asBls_inv e2
  subst e3
  unfold seqOf at e1
  split at e1
  · cases e1
    obtain ⟨a, vs, rfl, ha, ra⟩ := rx.seqL g (.inl rfl)
    rw [ra.bls] at ha
    exact ⟨a, rfl, ha⟩
  · cases e1
    obtain ⟨a, vs, rfl, ha, ra⟩ := rx.seqL g (.inr rfl)
    rw [ra.bls] at ha
    exact ⟨a, rfl, ha⟩
  · cases e1
theorem s_all : Ca0 K (rAll K) allD := fun {G H d z x Q} g rx h q => by
  obtain ⟨ns, e, rfl⟩ := Option.map_eq_some_iff.mp h
  obtain ⟨a, rfl, ha⟩ := bls_of g rx e
  exact ⟨a, ns, rfl, ha, q _ (.bl _)⟩
end
end DL
namespace DL
variable [TB] [LC]
open PySem PySem.Spec PyProof.Rows L2
/-! ### own calls: what is lent, what comes back -/
inductive FRes where
  | ok (fr : Bool) (d : D) (ms : List D) | err (x : Exc) (ms : List D) | stuck
abbrev FD := List D → FRes
structure Ags (K : PySem.W.Frag) (G H : Hp) (mu : List Bool) (ds : List D) (vs : List V) (fp : Nat → List Addr) : Prop where
  lm : mu.length = vs.length
  ld : ds.length = vs.length
  sh : ∀ (i : Nat) (d : D), mu[i]? = some false → ds[i]? = some d → ∃ v, vs[i]? = some v ∧ Rep K G d v
  ow : ∀ (i : Nat) (d : D), mu[i]? = some true → ds[i]? = some d → ∃ a, vs[i]? = some (.ref a) ∧ Own K G H d a (fp i) ∧ (fp i).Nodup ∧ ∀ b ∈ fp i, G b = none
  sep : ∀ (i j : Nat), mu[i]? = some true → mu[j]? = some true → i ≠ j → ∀ b ∈ fp i, b ∉ fp j
def lent (mu : List Bool) (fp : Nat → List Addr) (b : Addr) : Prop := ∃ i : Nat, mu[i]? = some true ∧ b ∈ fp i
structure Bck (K : PySem.W.Frag) (G H G' H' : Hp) (mu : List Bool) (ms : List D) (vs : List V) (fp fp' : Nat → List Addr) : Prop where
  lm : ms.length = mu.length
  ow : ∀ (i : Nat), mu[i]? = some true → ∃ d a, ms[i]? = some d ∧ vs[i]? = some (.ref a) ∧ Own K G' H' d a (fp' i) ∧ (fp' i).Nodup ∧ ∀ b ∈ fp' i, G' b = none ∧ (b ∈ fp i ∨ noTb (H b) = none)
  sep : ∀ (i j : Nat), mu[i]? = some true → mu[j]? = some true → i ≠ j → ∀ b ∈ fp' i, b ∉ fp' j
  gg : Same G G'
  gh : Same G' H'
  new : ∀ a o, G' a = some o → G a = some o ∨ noTb (H a) = none
  keep : ∀ b o, H b = some o → ¬ lent mu fp b → Pl o → H' b = some o
  live : ∀ b o, H b = some o → Pl o → ∃ o', H' b = some o' ∧ Pl o'
  ng : NoT G'
  tab : LamX.Tabs TB.T H'
/-- a result that is nobody's yet -/
def NewR (K : PySem.W.Frag) (G' H H' : Hp) (mu : List Bool) (fp' : Nat → List Addr) (d : D) (v : V) : Prop :=
  ∃ a fp0, v = .ref a ∧ Own K G' H' d a fp0 ∧ fp0.Nodup ∧ ∀ b ∈ fp0, G' b = none ∧ noTb (H b) = none ∧ ¬ lent mu fp' b
/-- a def's promise by data -/
def NewX (G' H : Hp) (mu : List Bool) (fp' : Nat → List Addr) (a : Addr) : Prop := G' a = none ∧ noTb (H a) = none ∧ ¬ lent mu fp' a
def spD (K : PySem.W.Frag) (mu : List Bool) (f : FD) : Sp := fun vs H Q E => ∃ (ds : List D) (G : Hp) (fp : Nat → List Addr), Same G H ∧ NoT G ∧ LamX.Tabs TB.T H ∧ Ags K G H mu ds vs fp ∧
  match f ds with
  | .ok false d ms => ∀ (v : V) (H' G' : Hp) (fp' : Nat → List Addr), Bck K G H G' H' mu ms vs fp fp' → Rep K G' d v → Q v H'
  | .ok true d ms => ∀ (v : V) (H' G' : Hp) (fp' : Nat → List Addr), Bck K G H G' H' mu ms vs fp fp' → NewR K G' H H' mu fp' d v → Q v H'
  | .err x ms => ∀ (a : Addr) (fv : List (Str × V)) (H' G' : Hp) (fp' : Nat → List Addr), Bck K G H G' H' mu ms vs fp fp' → NewX G' H mu fp' a → H' a = some (.xd fv) → fv.map (·.1) = x.fs.map (·.1) → RepA K G' (x.fs.map (·.2)) (fv.map (·.2)) → E x.cls (some a) H'
  | .stuck => False
theorem spD_len {K : PySem.W.Frag} {mu : List Bool} {f : FD} {vs : List V} {H : Hp} {Q : VK} {E : XK} (h : spD K mu f vs H Q E) : vs.length = mu.length := by
  obtain ⟨ds, G, fp, _, _, _, A, _⟩ := h
  exact A.lm.symm
/-! ### the callee -/
def initS : List Bool → List D → DSt
  | m :: mu, d :: ds => some (if m = true then Slot.ow true d else Slot.sh d) :: initS mu ds
  | _, _ => []
def outS : List Bool → DSt → Option (List D)
  | [], _ => some []
  | true :: mu, some (Slot.ow true d) :: st => (outS mu st).map (d :: ·)
  | false :: mu, _ :: st => (outS mu st).map (D.non :: ·)
  | _, _ => none
theorem initS_len : ∀ {mu : List Bool} {ds : List D}, mu.length = ds.length → (initS mu ds).length = ds.length
  | [], [], _ => rfl
  | _ :: _, _ :: _, h => congrArg (· + 1) (initS_len (Nat.succ.inj h))
  | [], _ :: _, h => by cases h
  | _ :: _, [], h => by cases h
theorem initS_get : ∀ {mu : List Bool} {ds : List D} {i : Nat} {s : Slot}, (initS mu ds)[i]? = some (some s) → ∃ m d, mu[i]? = some m ∧ ds[i]? = some d ∧ s = if m = true then Slot.ow true d else Slot.sh d
  | [], _, _, _, h => by simp [initS] at h
  | _ :: _, [], _, _, h => by simp [initS] at h
  | m :: mu, d :: ds, 0, s, h => by simp [initS] at h; exact ⟨m, d, rfl, rfl, h.symm⟩
  | m :: mu, d :: ds, i + 1, s, h => by
    obtain ⟨m', d', a, b, c⟩ := initS_get (mu := mu) (ds := ds) (i := i) (s := s) (by simpa [initS] using h)
    exact ⟨m', d', by simpa using a, by simpa using b, c⟩
theorem outS_len : ∀ {mu : List Bool} {st : DSt} {ms : List D}, outS mu st = some ms → ms.length = mu.length
  | [], _, _, h => by unfold outS at h; cases h; rfl
  | true :: mu, some (Slot.ow true d) :: st, ms, h => by
    unfold outS at h
    obtain ⟨ms', e, rfl⟩ := Option.map_eq_some_iff.mp h
    exact congrArg (· + 1) (outS_len e)
  | false :: mu, _ :: st, ms, h => by
    unfold outS at h
    obtain ⟨ms', e, rfl⟩ := Option.map_eq_some_iff.mp h
    exact congrArg (· + 1) (outS_len e)
  | true :: mu, [], ms, h => by simp [outS] at h
  | true :: mu, none :: st, ms, h => by simp [outS] at h
  | true :: mu, some (Slot.sh d) :: st, ms, h => by simp [outS] at h
  | true :: mu, some (Slot.ow false d) :: st, ms, h => by simp [outS] at h
  | false :: mu, [], ms, h => by simp [outS] at h
theorem outS_get : ∀ {mu : List Bool} {st : DSt} {ms : List D} {i : Nat}, outS mu st = some ms → mu[i]? = some true → ∃ d, ms[i]? = some d ∧ st[i]? = some (some (Slot.ow true d))
  | [], _, _, _, _, e => by simp at e
  | true :: mu, some (Slot.ow true d) :: st, ms, 0, h, e => by
    unfold outS at h
    obtain ⟨ms', _, rfl⟩ := Option.map_eq_some_iff.mp h
    exact ⟨d, rfl, rfl⟩
  | true :: mu, some (Slot.ow true d) :: st, ms, i + 1, h, e => by
    unfold outS at h
    obtain ⟨ms', h', rfl⟩ := Option.map_eq_some_iff.mp h
    obtain ⟨d', a, b⟩ := outS_get (i := i) h' (by simpa using e)
    exact ⟨d', by simpa using a, by simpa using b⟩
  | false :: mu, _ :: st, ms, 0, h, e => by simp at e
  | false :: mu, _ :: st, ms, i + 1, h, e => by
    unfold outS at h
    obtain ⟨ms', h', rfl⟩ := Option.map_eq_some_iff.mp h
    obtain ⟨d', a, b⟩ := outS_get (i := i) h' (by simpa using e)
    exact ⟨d', by simpa using a, by simpa using b⟩
  | true :: mu, [], ms, _, h, _ => by simp [outS] at h
  | true :: mu, none :: st, ms, _, h, _ => by simp [outS] at h
  | true :: mu, some (Slot.sh d) :: st, ms, _, h, _ => by simp [outS] at h
  | true :: mu, some (Slot.ow false d) :: st, ms, _, h, _ => by simp [outS] at h
  | false :: mu, [], ms, _, h, _ => by simp [outS] at h
def endF (mu : List Bool) (f : List D → FRes) (st : DSt) : FRes := match outS mu st with
  | some ms => f ms
  | none => .stuck
/-- a def's body as a function of its arguments -/
def runF (mu : List Bool) (n : Nat) (body : MS) : FD := fun ds => match body (initS mu ds ++ List.replicate (n - ds.length) none) with
  | .nx st => endF mu (.ok false .non) st
  | .rt fr d st => endF mu (.ok fr d) st
  | .err x st => endF mu (.err x) st
  | _ => .stuck
open Classical in
noncomputable def entry (G H : Hp) (mu : List Bool) (vs : List V) (fp : Nat → List Addr) : Fr where
  He := fun b => noTb (H b)
  G0 := G
  pr := fun b => if lent mu fp b then none else noTb (H b)
  hid := fun _ => False
  mfp := fp
  mua := fun i => match vs[i]? with
    | some (.ref a) => some a
    | _ => none
  gv := fun _ => none
section
variable {K : PySem.W.Frag} {G H : Hp} {mu : List Bool} {ds : List D} {vs : List V} {fp : Nat → List Addr} {n : Nat}
theorem entry_mua {G H : Hp} {mu : List Bool} {vs : List V} {fp : Nat → List Addr} {i : Nat} {a : Addr} : (entry G H mu vs fp).mua i = some a ↔ vs[i]? = some (.ref a) := by
  unfold entry
  dsimp only
  split
  · rename_i b e
    rw [e]
    constructor
    · intro h; cases h; rfl
    · intro h; cases h; rfl
  · rename_i h
    constructor
    · intro z; cases z
    · intro z; exact absurd z (h a)
open Classical in
theorem entry_sync {N : List Str} (g : Same G H) (nG : NoT G) (tb : LamX.Tabs TB.T H) (A : Ags K G H mu ds vs fp) (hn : vs.length ≤ N.length) : Sync K (entry G H mu vs fp) G fp (L2.start N vs) H (initS mu ds ++ List.replicate (N.length - ds.length) none) := by
  have gi : ∀ {i : Nat} {s : Slot}, (initS mu ds ++ List.replicate (N.length - ds.length) none)[i]? = some (some s) → i < vs.length ∧ ∃ m d, mu[i]? = some m ∧ ds[i]? = some d ∧ s = if m = true then Slot.ow true d else Slot.sh d := fun {i s} h => by
    by_cases hi : i < (initS mu ds).length
    · rw [List.getElem?_append_left hi] at h
      exact ⟨by rw [initS_len (A.lm.trans A.ld.symm), A.ld] at hi; exact hi, initS_get h⟩
    · rw [List.getElem?_append_right (Nat.le_of_not_lt hi), List.getElem?_replicate] at h
      split at h <;> cases h
  have sv : ∀ {i : Nat} {v : V}, vs[i]? = some v → (L2.start N vs)[i]? = some (some v) := fun {i v} h => by
    have hi : i < vs.length := (List.getElem?_eq_some_iff.mp h).1
    unfold L2.start
    rw [List.getElem?_append_left (by simpa using hi), List.getElem?_map, h]
    rfl
  refine ⟨?_, fun i d h => ?_, fun i m d h => ?_, fun i j hi hj n => ?_, Same.refl G, g, fun a o e => .inl e, fun a o e => ?_, fun a o e => ⟨o, noTb_ok e⟩, fun a z => z.elim, fun a z => z.elim, nG, fun a ps e => ?_, tb, fun i x z => nomatch z⟩
  · unfold L2.start
    rw [List.length_append, List.length_append, List.length_replicate, List.length_replicate, List.length_map, initS_len (A.lm.trans A.ld.symm), A.ld]
  · obtain ⟨_, m, d', h1, h2, h3⟩ := gi h
    cases m with
    | true => rw [if_pos rfl] at h3; cases h3
    | false =>
      rw [if_neg Bool.false_ne_true] at h3
      cases h3
      obtain ⟨v, a, b⟩ := A.sh i d h1 h2
      exact ⟨v, sv a, b⟩
  · obtain ⟨_, m', d', h1, h2, h3⟩ := gi h
    cases m' with
    | false => rw [if_neg Bool.false_ne_true] at h3; cases h3
    | true =>
      rw [if_pos rfl] at h3
      cases h3
      obtain ⟨a, e1, e2, e3, e4⟩ := A.ow i d h1 h2
      refine ⟨a, sv e1, e2, e3, fun b hb => ⟨e4 b hb, .inr ⟨rfl, hb⟩, ?_⟩, fun _ => entry_mua.mpr e1⟩
      show (if lent mu fp b then none else noTb (H b)) = none
      rw [if_pos ⟨i, h1, hb⟩]
  · have om : ∀ {i : Nat}, isOw (initS mu ds ++ List.replicate (N.length - ds.length) none) i → mu[i]? = some true := fun {i} ⟨m, d, h⟩ => by
      obtain ⟨_, m', d', h1, h2, h3⟩ := gi h
      cases m' with
      | false => rw [if_neg Bool.false_ne_true] at h3; cases h3
      | true => exact h1
    exact A.sep i j (om hi) (om hj) n
  · have e' : (if lent mu fp a then none else noTb (H a)) = some o := e
    by_cases c : lent mu fp a
    · rw [if_pos c] at e'; cases e'
    · rw [if_neg c] at e'; exact (noTb_ok e').1
  · have e' : (if lent mu fp a then none else noTb (H a)) = some ps := e
    by_cases c : lent mu fp a
    · rw [if_pos c] at e'; cases e'
    · rw [if_neg c] at e'; exact (noTb_ok e').2
open Classical in
theorem out_bck {G' H' : Hp} {fp' : Nat → List Addr} {σ' : L2.St} {st' : DSt} {ms : List D} (S : Sync K (entry G H mu vs fp) G' fp' σ' H' st') (o : outS mu st' = some ms) : Bck K G H G' H' mu ms vs fp fp' := by
  refine ⟨outS_len o, fun i hi => ?_, fun i j hi hj n => ?_, S.g0, S.gh, S.new, fun b u e nl nt => S.pr b u ?_, fun b u e nt => S.live b u (by show noTb (H b) = some u; rw [e]; exact noTb_eq nt), S.ng, S.tab⟩
  · obtain ⟨d, h1, h2⟩ := outS_get o hi
    obtain ⟨a, e1, e2, e3, e4, e5⟩ := S.ow i true d h2
    refine ⟨d, a, h1, entry_mua.mp (e5 rfl), e2, e3, fun b hb => ⟨(e4 b hb).1, ?_⟩⟩
    rcases (e4 b hb).2.1 with z | ⟨_, z⟩
    · exact .inr z
    · exact .inl z
  · obtain ⟨d, _, h2⟩ := outS_get o hi
    obtain ⟨d', _, h2'⟩ := outS_get o hj
    exact S.sep i j ⟨_, _, h2⟩ ⟨_, _, h2'⟩ n
  · show (if lent mu fp b then none else noTb (H b)) = some u
    rw [if_neg nl, e]; exact noTb_eq nt
theorem out_new {G' H' : Hp} {fp' : Nat → List Addr} {st' : DSt} {ms : List D} {d : D} {v : V} (o : outS mu st' = some ms) (f : Fresh K (entry G H mu vs fp) G' fp' st' H' d v) : NewR K G' H H' mu fp' d v := by
  obtain ⟨a, fp0, e, ow, nd, off⟩ := f.ex
  refine ⟨a, fp0, e, ow, nd, fun b hb => ⟨(off b hb).1, (off b hb).2.1.1, fun ⟨i, hi, hb'⟩ => ?_⟩⟩
  obtain ⟨d', _, h2⟩ := outS_get o hi
  exact (off b hb).2.2 i ⟨_, _, h2⟩ hb'
end
section
variable {P : Program} {w : World} {K : PySem.W.Frag} {mg : Str → Option Value} {base : Heap}
theorem out_newx {G H : Hp} {mu : List Bool} {vs : List V} {fp : Nat → List Addr} {G' : Hp} {fp' : Nat → List Addr} {st' : DSt} {ms : List D} {a : Addr} (o : outS mu st' = some ms) (ap : Apart (entry G H mu vs fp) G' fp' st' a) : NewX G' H mu fp' a :=
  ⟨ap.g, ap.he, fun ⟨i, hi, hb⟩ => by
    obtain ⟨d, _, h2⟩ := outS_get o hi
    exact ap.fp i ⟨_, _, h2⟩ hb⟩
/-- THE RULE for a def -/
theorem fnD {x qual : Str} {params : Arguments} {body : List Stmt} {scope : Scope} {dvs : List V} {kws : List (Str × V)} {f : Addr} {fd : FuncData} {N ps : List Str} {k : Nat} {mu : List Bool} {m : MS}
    (F : FunD K x qual params body scope dvs kws f fd) (S : FnScope N ps scope) (hmu : mu.length = ps.length)
    (hb : ∀ (cdv : Value) (A : Around) (outer : List Env) (s : Shared) (H : Hp) (E : XK), Room k (A.deeper (envOfC qual scope s.heap.objs.size f cdv)) → ∀ (F : Fr) [GvOk F N.length] (W : WX), Takes (cxOf (CX P w) P w K mg base N qual scope f cdv A outer s H E) W →
      PassesOwn (model P w) (cxOf (CX P w) P w K mg base N qual scope f cdv A outer s H E).A (cxOf (CX P w) P w K mg base N qual scope f cdv A outer s H E).env (cxOf (CX P w) P w K mg base N qual scope f cdv A outer s H E).xe →
      PSs (cxOf (CX P w) P w K mg base N qual scope f cdv A outer s H E) body (tS K F W m)) : FnOk P w K mg base (CX P w) (k + 1) f fd ps (spD K mu (runF mu N.length m)) := by
  refine okG F S (fun vs H Q E h => (spD_len h).trans hmu) fun cdv A outer s H vs Q E hr h => ?_
  have hl := spD_len h
  obtain ⟨ds, G, fp, g, nG, tb, Ag, h⟩ := h
  have hN : vs.length ≤ N.length := by
    rw [hl, hmu]
    have := congrArg List.length S.pre
    rw [List.length_take] at this
    omega
  haveI : GvOk (entry G H mu vs fp) N.length := ⟨fun i x z => nomatch z⟩
  refine ⟨_, hb cdv A outer s H E hr (entry G H mu vs fp) (fun cls d _ H' => E cls d H') (takes_of rfl rfl rfl rfl) (passes_of rfl), _, G, fp, entry_sync g nG tb Ag hN, ?_⟩
  unfold runF at h
  revert h
  cases m (initS mu ds ++ List.replicate (N.length - ds.length) none) with
  | nx st' =>
    intro h
    dsimp only [endF] at h
    cases o : outS mu st' with
    | none => rw [o] at h; exact h.elim
    | some ms =>
      rw [o] at h
      exact fun σ' H' G' fp' gg S' => h .non H' G' fp' (out_bck S' o) .non
  | rt fr d st' =>
    intro h
    dsimp only [endF] at h
    cases o : outS mu st' with
    | none => rw [o] at h; exact h.elim
    | some ms =>
      rw [o] at h
      cases fr with
      | false => exact fun v σ' H' G' fp' gg S' r => h v H' G' fp' (out_bck S' o) r
      | true => exact fun v σ' H' G' fp' gg S' r => h v H' G' fp' (out_bck S' o) (out_new o r)
  | err x st' =>
    intro h
    dsimp only [endF] at h
    cases o : outS mu st' with
    | none => rw [o] at h; exact h.elim
    | some ms =>
      rw [o] at h
      exact fun a fv σ' H' G' fp' gg S' ap e1 e2 e3 => h a fv H' G' fp' (out_bck S' o) (out_newx o ap) e1 e2 e3
  | bk st' => exact fun h => h.elim
  | ct st' => exact fun h => h.elim
  | stuck => exact fun h => h.elim
end
end DL
namespace DL
variable [TB] [LC]
open PySem L2
/-! ### the caller -/
/-- an argument: data, or the thing of a slot, lent -/
inductive AV where
  | d (x : D) | m (i : Nat)
def avSl : AV → Option Nat
  | .m i => some i
  | .d _ => none
def AvR (K : PySem.W.Frag) (G : Hp) (σ : St) (a : AV) (v : V) : Prop := match a with
  | .d x => Rep K G x v
  | .m i => σ[i]? = some (some v)
inductive AvA (K : PySem.W.Frag) (G : Hp) (σ : St) : List AV → List V → Prop
  | nil : AvA K G σ [] []
  | cons {a : AV} {v : V} {as : List AV} {vs : List V} : AvR K G σ a v → AvA K G σ as vs → AvA K G σ (a :: as) (v :: vs)
def getA (st : DSt) : List Bool → List AV → Option (List D)
  | [], [] => some []
  | false :: mu, .d x :: as => (getA st mu as).map (x :: ·)
  | true :: mu, .m i :: as => match st[i]? with
    | some (some (Slot.ow _ d)) => (getA st mu as).map (d :: ·)
    | _ => none
  | _, _ => none
def setOw (st : DSt) (i : Nat) (d : D) : DSt := match st[i]? with
  | some (some (Slot.ow m _)) => st.set i (some (Slot.ow m d))
  | _ => st
def setBack : List AV → List D → DSt → DSt
  | .m i :: as, d :: ms, st => setBack as ms (setOw st i d)
  | .d _ :: as, _ :: ms, st => setBack as ms st
  | _, _, st => st
def callQ (mu : List Bool) (f : FD) (as : List AV) : M D := fun st => if (as.filterMap avSl).Nodup then (match getA st mu as with
    | some ds => match f ds with
      | .ok false d ms => .ok d (setBack as ms st)
      | .ok true d ms => if flatD d = true then .ok d (setBack as ms st) else .stuck
      | .err x ms => .err x (setBack as ms st)
      | .stuck => .stuck
    | none => .stuck) else .stuck
def callN (mu : List Bool) (f : FD) (as : List AV) : M D := fun st => if (as.filterMap avSl).Nodup then (match getA st mu as with
    | some ds => match f ds with
      | .ok true d ms => .ok d (setBack as ms st)
      | .err x ms => .err x (setBack as ms st)
      | _ => .stuck
    | none => .stuck) else .stuck
section
variable {K : PySem.W.Frag} {F : Fr} {W : WX} {G H : Hp} {fpf : Nat → List Addr} {σ : St} {st : DSt} {mu : List Bool} {as : List AV} {vs : List V} {ds ms : List D}
theorem AvA.mono {G' : Hp} (g : Same G G') : ∀ {as : List AV} {vs : List V}, AvA K G σ as vs → AvA K G' σ as vs
  | _, _, .nil => .nil
  | .d x :: _, _, .cons h t => .cons (show Rep K G' x _ from Rep.mono g h) (AvA.mono g t)
  | .m i :: _, _, .cons h t => .cons h (AvA.mono g t)
theorem AvA.append : ∀ {as bs : List AV} {vs us : List V}, AvA K G σ as vs → AvA K G σ bs us → AvA K G σ (as ++ bs) (vs ++ us)
  | _, _, _, _, .nil, s => s
  | _, _, _, _, .cons r t, s => .cons r (AvA.append t s)
theorem AvA.of_rep : ∀ {ds : List D} {vs : List V}, RepA K G ds vs → AvA K G σ (ds.map AV.d) vs
  | _, _, .nil => .nil
  | _, _, .cons r t => .cons r (AvA.of_rep t)
theorem AvA.length : ∀ {as : List AV} {vs : List V}, AvA K G σ as vs → as.length = vs.length
  | _, _, .nil => rfl
  | _, _, .cons _ t => congrArg (· + 1) (AvA.length t)
theorem AvA.get : ∀ {as : List AV} {vs : List V} {i : Nat} {a : AV}, AvA K G σ as vs → as[i]? = some a → ∃ v, vs[i]? = some v ∧ AvR K G σ a v
  | _, _, _, _, .nil, e => by simp at e
  | _, _, 0, _, .cons h _, e => by simp at e; subst e; exact ⟨_, rfl, h⟩
  | _, _, i + 1, a, .cons _ t, e => by
    obtain ⟨v, h1, h2⟩ := AvA.get (i := i) (a := a) t (by simpa using e)
    exact ⟨v, by simpa using h1, h2⟩
structure GetA (st : DSt) (mu : List Bool) (as : List AV) (ds : List D) : Prop where
  lm : mu.length = as.length
  ld : ds.length = as.length
  sh : ∀ (i : Nat) (d : D), mu[i]? = some false → ds[i]? = some d → as[i]? = some (AV.d d)
  ow : ∀ (i : Nat) (d : D), mu[i]? = some true → ds[i]? = some d → ∃ j m, as[i]? = some (AV.m j) ∧ st[j]? = some (some (Slot.ow m d))
  mo : ∀ (i j : Nat), as[i]? = some (AV.m j) → mu[i]? = some true ∧ isOw st j
theorem GetA.c0 {x : D} (h : GetA st mu as ds) : GetA st (false :: mu) (.d x :: as) (x :: ds) := by
  refine ⟨congrArg (· + 1) h.lm, congrArg (· + 1) h.ld, fun i d a b => ?_, fun i d a b => ?_, fun i j a => ?_⟩
  · cases i with
    | zero => simp at b; subst b; rfl
    | succ i => simpa using h.sh i d (by simpa using a) (by simpa using b)
  · cases i with
    | zero => simp at a
    | succ i => simpa using h.ow i d (by simpa using a) (by simpa using b)
  · cases i with
    | zero => simp at a
    | succ i => simpa using h.mo i j (by simpa using a)
theorem GetA.c1 {x : D} {k : Nat} {m : Bool} (e : st[k]? = some (some (Slot.ow m x))) (h : GetA st mu as ds) : GetA st (true :: mu) (.m k :: as) (x :: ds) := by
  refine ⟨congrArg (· + 1) h.lm, congrArg (· + 1) h.ld, fun i d a b => ?_, fun i d a b => ?_, fun i j a => ?_⟩
  · cases i with
    | zero => simp at a
    | succ i => simpa using h.sh i d (by simpa using a) (by simpa using b)
  · cases i with
    | zero => simp at b; subst b; exact ⟨k, m, rfl, e⟩
    | succ i => simpa using h.ow i d (by simpa using a) (by simpa using b)
  · cases i with
    | zero => simp at a; subst a; exact ⟨rfl, _, _, e⟩
    | succ i => simpa using h.mo i j (by simpa using a)
theorem getA_ok : ∀ {mu : List Bool} {as : List AV} {ds : List D}, getA st mu as = some ds → GetA st mu as ds
  | [], [], ds, h => by
    unfold getA at h; cases h
    exact ⟨rfl, rfl, fun i d a => by simp at a, fun i d a => by simp at a, fun i j a => by simp at a⟩
  | false :: mu, .d x :: as, ds, h => by
    unfold getA at h
    obtain ⟨ds', e, rfl⟩ := Option.map_eq_some_iff.mp h
    exact (getA_ok e).c0
  | true :: mu, .m k :: as, ds, h => by
    unfold getA at h
    split at h
    · rename_i m x e1
      obtain ⟨ds', e, rfl⟩ := Option.map_eq_some_iff.mp h
      exact (getA_ok e).c1 e1
    · cases h
  | false :: mu, .m k :: as, ds, h => by simp [getA] at h
  | true :: mu, .d x :: as, ds, h => by simp [getA] at h
  | [], _ :: _, ds, h => by simp [getA] at h
  | true :: _, [], ds, h => by simp [getA] at h
  | false :: _, [], ds, h => by simp [getA] at h
theorem slot_mem : ∀ {as : List AV} {i : Nat}, i ∈ as.filterMap avSl ↔ ∃ k : Nat, as[k]? = some (AV.m i) := fun {as i} => by
  rw [List.mem_filterMap]
  constructor
  · rintro ⟨a, ha, e⟩
    cases a with
    | d x => cases e
    | m j => cases e; exact List.mem_iff_getElem?.mp ha
  · rintro ⟨k, e⟩
    exact ⟨_, List.mem_iff_getElem?.mpr ⟨k, e⟩, rfl⟩
theorem slot_uq : ∀ {as : List AV} {i k l : Nat}, (as.filterMap avSl).Nodup → as[k]? = some (AV.m i) → as[l]? = some (AV.m i) → k = l
  | [], _, _, _, _, h, _ => by simp at h
  | a :: as, i, 0, 0, _, _, _ => rfl
  | a :: as, i, 0, l + 1, nd, h, h' => by
    simp at h h'
    subst h
    rw [List.filterMap_cons_some (by rfl)] at nd
    exact absurd (slot_mem.mpr ⟨l, h'⟩) (List.nodup_cons.mp nd).1
  | a :: as, i, k + 1, 0, nd, h, h' => by
    simp at h h'
    subst h'
    rw [List.filterMap_cons_some (by rfl)] at nd
    exact absurd (slot_mem.mpr ⟨k, h⟩) (List.nodup_cons.mp nd).1
  | a :: as, i, k + 1, l + 1, nd, h, h' => by
    simp at h h'
    have nd' : (as.filterMap avSl).Nodup := by
      cases a with
      | d x => rwa [List.filterMap_cons_none (by rfl)] at nd
      | m j => rw [List.filterMap_cons_some (by rfl)] at nd; exact (List.nodup_cons.mp nd).2
    rw [slot_uq nd' h h']
theorem setOw_len {i : Nat} {d : D} : (setOw st i d).length = st.length := by
  unfold setOw
  split
  · exact List.length_set
  · rfl
theorem setOw_get {i j : Nat} {d : D} {s : Slot} (h : (setOw st i d)[j]? = some (some s)) : (j = i ∧ ∃ m d0, st[i]? = some (some (Slot.ow m d0)) ∧ s = .ow m d) ∨ ((j ≠ i ∨ ¬ isOw st i) ∧ st[j]? = some (some s)) := by
  unfold setOw at h
  split at h
  · rename_i m d0 e
    rcases get_set h with ⟨rfl, b, _⟩ | ⟨a, b⟩
    · cases b; exact .inl ⟨rfl, m, d0, e, rfl⟩
    · exact .inr ⟨.inl a, b⟩
  · rename_i k
    exact .inr ⟨.inr fun ⟨m, d, e⟩ => k m d e, h⟩
theorem setOw_ow {i j : Nat} {d : D} (h : isOw st j) : isOw (setOw st i d) j := by
  obtain ⟨m, d', e⟩ := h
  unfold setOw
  split
  · rename_i m0 d0 e0
    by_cases c : i = j
    · subst c
      exact ⟨m0, d, by rw [List.getElem?_set_self (List.getElem?_eq_some_iff.mp e0).1]⟩
    · exact ⟨m, d', by rw [List.getElem?_set_ne c]; exact e⟩
  · exact ⟨m, d', e⟩
theorem setBack_len : ∀ {as : List AV} {ms : List D} {st : DSt}, (setBack as ms st).length = st.length
  | [], _, _ => by unfold setBack; rfl
  | .m i :: as, d :: ms, st => by unfold setBack; rw [setBack_len, setOw_len]
  | .d _ :: as, _ :: ms, st => by unfold setBack; rw [setBack_len]
  | .m i :: as, [], st => by unfold setBack; rfl
  | .d i :: as, [], st => by unfold setBack; rfl
theorem setBack_get : ∀ {as : List AV} {ms : List D} {st : DSt} {j : Nat} {s : Slot}, ms.length = as.length → (as.filterMap avSl).Nodup → (∀ k i : Nat, as[k]? = some (AV.m i) → isOw st i) → (setBack as ms st)[j]? = some (some s) →
    (∃ (k : Nat) (m : Bool) (d0 d : D), as[k]? = some (AV.m j) ∧ ms[k]? = some d ∧ st[j]? = some (some (Slot.ow m d0)) ∧ s = .ow m d) ∨ ((∀ k : Nat, as[k]? ≠ some (AV.m j)) ∧ st[j]? = some (some s))
  | [], _, _, _, _, _, _, _, h => by unfold setBack at h; exact .inr ⟨fun k => by simp, h⟩
  | .m i :: as, d :: ms, st, j, s, hl, nd, hw, h => by
    unfold setBack at h
    rw [List.filterMap_cons_some (by rfl)] at nd
    obtain ⟨n1, n2⟩ := List.nodup_cons.mp nd
    rcases setBack_get (Nat.succ.inj hl) n2 (fun k i' e => setOw_ow (hw (k + 1) i' (by simpa using e))) h with ⟨k, m, d0, d', e1, e2, e3, e4⟩ | ⟨e1, e2⟩
    · have hj : j ≠ i := fun z => n1 (slot_mem.mpr ⟨k, z ▸ e1⟩)
      rcases setOw_get e3 with ⟨z, _⟩ | ⟨_, e3⟩
      · exact absurd z hj
      · exact .inl ⟨k + 1, m, d0, d', by simpa using e1, by simpa using e2, e3, e4⟩
    · rcases setOw_get e2 with ⟨rfl, m, d0, e3, e4⟩ | ⟨z, e3⟩
      · exact .inl ⟨0, m, d0, d, rfl, rfl, e3, e4⟩
      · rcases z with z | z
        · refine .inr ⟨fun k e => ?_, e3⟩
          cases k with
          | zero => simp at e; exact z e.symm
          | succ k => exact e1 k (by simpa using e)
        · exact absurd (hw 0 i rfl) z
  | .d x :: as, _ :: ms, st, j, s, hl, nd, hw, h => by
    unfold setBack at h
    rw [List.filterMap_cons_none (by rfl)] at nd
    rcases setBack_get (Nat.succ.inj hl) nd (fun k i' e => hw (k + 1) i' (by simpa using e)) h with ⟨k, m, d0, d', e1, e2, e3, e4⟩ | ⟨e1, e2⟩
    · exact .inl ⟨k + 1, m, d0, d', by simpa using e1, by simpa using e2, e3, e4⟩
    · refine .inr ⟨fun k e => ?_, e2⟩
      cases k with
      | zero => simp at e
      | succ k => exact e1 k (by simpa using e)
  | .m _ :: _, [], _, _, _, hl, _, _, _ => by cases hl
  | .d _ :: _, [], _, _, _, hl, _, _, _ => by cases hl
/-- whose addresses argument k is -/
def argFp (fpf : Nat → List Addr) (as : List AV) (k : Nat) : List Addr := match as[k]? with
  | some (AV.m i) => fpf i
  | _ => []
open Classical in
noncomputable def backFp (fpf fp' : Nat → List Addr) (as : List AV) (j : Nat) : List Addr := if h : ∃ k : Nat, as[k]? = some (AV.m j) then fp' h.choose else fpf j
theorem backFp_m {fpf fp' : Nat → List Addr} {j k : Nat} (nd : (as.filterMap avSl).Nodup) (h : as[k]? = some (AV.m j)) : backFp fpf fp' as j = fp' k := by
  have e : ∃ k : Nat, as[k]? = some (AV.m j) := ⟨k, h⟩
  unfold backFp
  rw [dif_pos e, slot_uq nd e.choose_spec h]
theorem backFp_o {fpf fp' : Nat → List Addr} {j : Nat} (h : ∀ k : Nat, as[k]? ≠ some (AV.m j)) : backFp fpf fp' as j = fpf j := by
  unfold backFp
  rw [dif_neg fun ⟨k, e⟩ => h k e]
theorem args_of (S : Sync K F G fpf σ H st) (r : AvA K G σ as vs) (nd : (as.filterMap avSl).Nodup) (g : getA st mu as = some ds) : Ags K G H mu ds vs (argFp fpf as) := by
  have g := getA_ok g
  refine ⟨g.lm.trans r.length, g.ld.trans r.length, fun i d h1 h2 => ?_, fun i d h1 h2 => ?_, fun i j hi hj n b hb => ?_⟩
  · exact r.get (g.sh i d h1 h2)
  · obtain ⟨j, m, e1, e2⟩ := g.ow i d h1 h2
    obtain ⟨v, e3, e4⟩ := r.get e1
    obtain ⟨a, e5, e6, e7, e8, _⟩ := S.ow j m d e2
    have e4' : σ[j]? = some (some v) := e4
    rw [e5] at e4'
    cases e4'
    have : argFp fpf as i = fpf j := by unfold argFp; rw [e1]
    rw [this]
    exact ⟨a, e3, e6, e7, fun b hb => (e8 b hb).1⟩
  · have hx : ∀ {i : Nat}, mu[i]? = some true → ∃ j, as[i]? = some (AV.m j) ∧ isOw st j := fun {i} h => by
      have hi : i < mu.length := (List.getElem?_eq_some_iff.mp h).1
      rw [g.lm, ← g.ld] at hi
      obtain ⟨j, m, e1, e2⟩ := g.ow i _ h (List.getElem?_eq_getElem hi)
      exact ⟨j, e1, _, _, e2⟩
    obtain ⟨i', ei, oi⟩ := hx hi
    obtain ⟨j', ej, oj⟩ := hx hj
    have e1 : argFp fpf as i = fpf i' := by unfold argFp; rw [ei]
    have e2 : argFp fpf as j = fpf j' := by unfold argFp; rw [ej]
    rw [e1] at hb
    rw [e2]
    refine S.sep i' j' oi oj (fun z => n ?_) b hb
    subst z
    exact slot_uq nd ei ej
theorem Sync.called (S : Sync K F G fpf σ H st) {fp' : Nat → List Addr} {G' H' : Hp} (r : AvA K G σ as vs) (nd : (as.filterMap avSl).Nodup) (g : getA st mu as = some ds) (B : Bck K G H G' H' mu ms vs (argFp fpf as) fp') :
    Sync K F G' (backFp fpf fp' as) σ H' (setBack as ms st) ∧ ∀ b, noTb (H b) = none → ¬ lent mu fp' b → ∀ j, isOw (setBack as ms st) j → b ∉ backFp fpf fp' as j := by
  have g := getA_ok g
  have hl : ms.length = as.length := B.lm.trans g.lm
  have hw : ∀ k i : Nat, as[k]? = some (AV.m i) → isOw st i := fun k i e => (g.mo k i e).2
  have cs : ∀ {j : Nat} {s : Slot}, (setBack as ms st)[j]? = some (some s) → (∃ (k : Nat) (m : Bool) (d0 d : D), as[k]? = some (AV.m j) ∧ ms[k]? = some d ∧ st[j]? = some (some (Slot.ow m d0)) ∧ s = .ow m d) ∨ ((∀ k : Nat, as[k]? ≠ some (AV.m j)) ∧ st[j]? = some (some s)) := fun h => setBack_get hl nd hw h
  have om : ∀ {j : Nat}, isOw (setBack as ms st) j → isOw st j := fun {j} ⟨m, d, e⟩ => by
    rcases cs e with ⟨k, m, d0, d, _, _, e3, _⟩ | ⟨_, e2⟩
    · exact ⟨_, _, e3⟩
    · exact ⟨_, _, e2⟩
  have notLent : ∀ {j : Nat} {b : Addr}, isOw st j → (∀ k : Nat, as[k]? ≠ some (AV.m j)) → b ∈ fpf j → ¬ lent mu (argFp fpf as) b := fun {j b} oj hn hb ⟨i, hi, hb'⟩ => by
    unfold argFp at hb'
    split at hb'
    · rename_i k e
      exact S.sep j k oj (hw i k e) (fun z => hn i (z ▸ e)) b hb hb'
    · cases hb'
  have liveB : ∀ {j : Nat} {b : Addr}, isOw st j → b ∈ fpf j → ∃ o, H b = some o := fun {j b} ⟨m, d, e⟩ hb => by
    obtain ⟨a, _, ow, _⟩ := S.ow j m d e
    exact ow.live b hb
  have noneG : ∀ {j : Nat} {b : Addr}, isOw st j → b ∈ fpf j → G b = none := fun {j b} ⟨m, d, e⟩ hb => by
    obtain ⟨a, _, _, _, f, _⟩ := S.ow j m d e
    exact (f b hb).1
  have noneG' : ∀ {j : Nat} {b : Addr}, isOw st j → b ∈ fpf j → G' b = none := fun {j b} oj hb => by
    cases e : G' b with
    | none => rfl
    | some o =>
      rcases B.new b o e with z | z
      · rw [noneG oj hb] at z; cases z
      · exact absurd rfl (S.ne_fp' z oj b hb)
  have argE : ∀ {k j : Nat}, as[k]? = some (AV.m j) → argFp fpf as k = fpf j := fun {k j} e => by unfold argFp; rw [e]
  refine ⟨⟨by rw [setBack_len]; exact S.len, fun j d h => ?_, fun j m d h => ?_, fun i j hi hj n b hb => ?_, S.g0.trans B.gg, B.gh, fun a o e => ?_, fun a o e => ?_, fun a o e => ?_, fun a ha => ?_, S.hidP, B.ng, S.np, B.tab, S.gv⟩, fun b hb nl j hj hbj => ?_⟩
  · rcases cs h with ⟨_, _, _, _, _, _, _, z⟩ | ⟨_, e2⟩
    · cases z
    · obtain ⟨v, e1, r⟩ := S.sh j d e2
      exact ⟨v, e1, r.mono B.gg⟩
  · rcases cs h with ⟨k, m', d0, d', e1, e2, e3, e4⟩ | ⟨e1, e2⟩
    · cases e4
      obtain ⟨a, q1, q2, q3, q4, q5⟩ := S.ow j m d0 e3
      obtain ⟨d', a', p1, p2, p3, p4, p5⟩ := B.ow k (g.mo k j e1).1
      rw [e2] at p1
      cases p1
      obtain ⟨v, p6, p7⟩ := r.get e1
      have p7' : σ[j]? = some (some v) := p7
      rw [p2] at p6
      cases p6
      rw [q1] at p7'
      cases p7'
      rw [backFp_m nd e1]
      refine ⟨a, q1, p3, p4, fun b hb => ⟨(p5 b hb).1, ?_⟩, q5⟩
      rcases (p5 b hb).2 with z | z
      · rw [argE e1] at z
        exact (q4 b z).2
      · exact ⟨.inl (S.fresh' z), S.freshP' z⟩
    · obtain ⟨a, q1, q2, q3, q4, q5⟩ := S.ow j m d e2
      rw [backFp_o e1]
      refine ⟨a, q1, q2.mono B.gg fun b hb => ?_, q3, fun b hb => ⟨noneG' ⟨_, _, e2⟩ hb, (q4 b hb).2⟩, q5⟩
      obtain ⟨o, eo, po⟩ := q2.pl b hb
      rw [eo, B.keep b o eo (notLent ⟨_, _, e2⟩ e1 hb) po]
  · have two : ∀ {i j : Nat} {b : Addr}, isOw st i → isOw st j → i ≠ j → (∃ k : Nat, as[k]? = some (AV.m i)) → (∀ k : Nat, as[k]? ≠ some (AV.m j)) → b ∈ backFp fpf fp' as i → b ∈ backFp fpf fp' as j → False := fun {i j b} oi oj n ⟨k, e⟩ hn h1 h2 => by
      rw [backFp_m nd e] at h1
      rw [backFp_o hn] at h2
      obtain ⟨_, _, _, _, _, _, p5⟩ := B.ow k (g.mo k i e).1
      rcases (p5 b h1).2 with z | z
      · rw [argE e] at z
        exact S.sep i j oi oj n b z h2
      · exact absurd rfl (S.ne_fp' z oj b h2)
    intro hb'
    by_cases ci : ∃ k : Nat, as[k]? = some (AV.m i)
    · by_cases cj : ∃ k : Nat, as[k]? = some (AV.m j)
      · obtain ⟨k, ek⟩ := ci
        obtain ⟨l, el⟩ := cj
        rw [backFp_m nd ek] at hb
        rw [backFp_m nd el] at hb'
        refine B.sep k l (g.mo k i ek).1 (g.mo l j el).1 (fun z => n ?_) b hb hb'
        subst z
        rw [ek] at el
        cases el
        rfl
      · exact two (om hi) (om hj) n ci (fun k e => cj ⟨k, e⟩) hb hb'
    · by_cases cj : ∃ k : Nat, as[k]? = some (AV.m j)
      · exact two (om hj) (om hi) (Ne.symm n) cj (fun k e => ci ⟨k, e⟩) hb' hb
      · rw [backFp_o fun k e => ci ⟨k, e⟩] at hb
        rw [backFp_o fun k e => cj ⟨k, e⟩] at hb'
        exact S.sep i j (om hi) (om hj) n b hb hb'
  · rcases B.new a o e with z | z
    · exact S.new a o z
    · exact .inr (S.fresh' z)
  · refine B.keep a o (S.pr a o e) (fun ⟨i, hi, hb⟩ => ?_) (S.np a o e)
    unfold argFp at hb
    split at hb
    · rename_i k ek
      obtain ⟨m, d, ed⟩ := hw i k ek
      obtain ⟨_, _, _, _, f, _⟩ := S.ow k m d ed
      rw [(f a hb).2.2] at e; cases e
    · cases hb
  · obtain ⟨o', e', nt⟩ := S.live a o e
    exact B.live a o' e' nt
  · cases e : G' a with
    | none => rfl
    | some o =>
      rcases B.new a o e with z | z
      · rw [S.hidG a ha] at z; cases z
      · obtain ⟨u, eu⟩ := S.hidP a ha
        exact absurd z (noTb_no' (S.pr a u eu) (S.np a u eu))
  · by_cases cj : ∃ k : Nat, as[k]? = some (AV.m j)
    · obtain ⟨k, ek⟩ := cj
      rw [backFp_m nd ek] at hbj
      exact nl ⟨k, (g.mo k j ek).1, hbj⟩
    · rw [backFp_o fun k e => cj ⟨k, e⟩] at hbj
      exact absurd rfl (S.ne_fp' hb (om hj) b hbj)
variable {f : FD} {Q : VK}
theorem called_new (S : Sync K F G fpf σ H st) {fp' : Nat → List Addr} {G' H' : Hp} {d : D} {v : V} (r : AvA K G σ as vs) (nd : (as.filterMap avSl).Nodup) (g : getA st mu as = some ds) (B : Bck K G H G' H' mu ms vs (argFp fpf as) fp') (n : NewR K G' H H' mu fp' d v) :
    Fresh K F G' (backFp fpf fp' as) (setBack as ms st) H' d v := by
  obtain ⟨a, fp0, rfl, ow, nd0, off⟩ := n
  exact ⟨⟨a, fp0, rfl, ow, nd0, fun b hb => ⟨(off b hb).1, ⟨S.fresh' (off b hb).2.1, S.freshP' (off b hb).2.1⟩, (S.called r nd g B).2 b (off b hb).2.1 (off b hb).2.2⟩⟩⟩
theorem called_newx (S : Sync K F G fpf σ H st) {fp' : Nat → List Addr} {G' H' : Hp} {a : Addr} (r : AvA K G σ as vs) (nd : (as.filterMap avSl).Nodup) (g : getA st mu as = some ds) (B : Bck K G H G' H' mu ms vs (argFp fpf as) fp') (n : NewX G' H mu fp' a) :
    Apart F G' (backFp fpf fp' as) (setBack as ms st) a := ⟨n.1, S.fresh' n.2.1, S.freshP' n.2.1, (S.called r nd g B).2 a n.2.1 n.2.2⟩
theorem callQ_at (S : Sync K F G fpf σ H st) (r : AvA K G σ as vs) (A : At K F W false (RSh K) (callQ mu f as st) st G fpf σ H Q) : spD K mu f vs H Q (WE W σ) := by
  unfold callQ at A
  by_cases nd : (as.filterMap avSl).Nodup
  · rw [if_pos nd] at A
    cases g : getA st mu as with
    | none => rw [g] at A; exact A.elim
    | some ds =>
      rw [g] at A
      refine ⟨ds, G, argFp fpf as, S.gh, S.ng, S.tab, args_of S r nd g, ?_⟩
      dsimp only at A
      revert A
      cases f ds with
      | ok fr d ms =>
        cases fr with
        | false => exact fun A v H' G' fp' B rr => A v H' G' _ nq B.gg (S.called r nd g B).1 rr
        | true =>
          intro A v H' G' fp' B n
          dsimp only at A
          by_cases c : flatD d = true
          · rw [if_pos c] at A
            obtain ⟨G2, gg, S2, rr⟩ := (S.called r nd g B).1.share (called_new S r nd g B n) c
            exact A v H' G2 _ nq (B.gg.trans gg) S2 rr
          · rw [if_neg c] at A; exact A.elim
      | err x ms => exact fun A a fv H' G' fp' B nx e1 e2 e3 => A a fv H' G' _ B.gg (S.called r nd g B).1 (called_newx S r nd g B nx) e1 e2 e3
      | stuck => exact fun A => A.elim
  · rw [if_neg nd] at A; exact A.elim
theorem callN_at (S : Sync K F G fpf σ H st) (r : AvA K G σ as vs) (A : At K F W false (RFr K F) (callN mu f as st) st G fpf σ H Q) : spD K mu f vs H Q (WE W σ) := by
  unfold callN at A
  by_cases nd : (as.filterMap avSl).Nodup
  · rw [if_pos nd] at A
    cases g : getA st mu as with
    | none => rw [g] at A; exact A.elim
    | some ds =>
      rw [g] at A
      refine ⟨ds, G, argFp fpf as, S.gh, S.ng, S.tab, args_of S r nd g, ?_⟩
      dsimp only at A
      revert A
      cases f ds with
      | ok fr d ms =>
        cases fr with
        | false => exact fun A => A.elim
        | true => exact fun A v H' G' fp' B n => A v H' G' _ nq B.gg (S.called r nd g B).1 (called_new S r nd g B n)
      | err x ms => exact fun A a fv H' G' fp' B nx e1 e2 e3 => A a fv H' G' _ B.gg (S.called r nd g B).1 (called_newx S r nd g B nx) e1 e2 e3
      | stuck => exact fun A => A.elim
  · rw [if_neg nd] at A; exact A.elim
end
/-! ### argument lists of calls -/
def avsM : List (M AV) → M (List AV)
  | [] => ret []
  | m :: ms => bnd m fun a => bnd (avsM ms) fun as => ret (a :: as)
def shA (m : M D) : M AV := bnd m fun d => ret (.d d)
def lnA (i : Nat) : M AV := fun st => match st[i]? with
  | some (some (Slot.ow _ _)) => .ok (.m i) st
  | _ => .stuck
def callM (mu : List Bool) (f : FD) (dD : List D) (ma : M (List AV)) : M D := bnd ma fun as => callQ mu f (as ++ dD.map AV.d)
def callF (mu : List Bool) (f : FD) (dD : List D) (ma : M (List AV)) : M D := bnd ma fun as => callN mu f (as ++ dD.map AV.d)
def tAv (K : PySem.W.Frag) (F : Fr) (W : WX) (q : Bool) (m : M AV) : TE := fun σ H Q => tM K F W q (fun G _ _ _ a v => AvR K G σ a v) m σ H Q
def tAvs (K : PySem.W.Frag) (F : Fr) (W : WX) (q : Bool) (m : M (List AV)) : TA := fun σ H Q => tM K F W q (fun G _ _ _ a v => AvA K G σ a v) m σ H Q
section
variable {X : Cx} {F : Fr} {W : WX} {q q1 q2 : Bool} {e : Expr} {es : List Expr} {m : M D} {a : M AV} {as : List (M AV)} {pos p : Pos}
theorem dv_sh (h : PE X e (tM X.K F W q (RSh X.K) m)) : PE X e (tAv X.K F W q (shA m)) := PE_mono h fun σ H Q z => bind_of (q2 := true) (R1 := RSh X.K) (fun y => ⟨y, rfl⟩) z fun d st1 G1 fpf1 v H1 S1 r1 A1 => A1.done S1 r1
theorem dv_ln (i : Nat) {x : Str} (hN : X.N[i]? = some x := by rfl) (hv : Vis X.env.scope x := by first | exact Or.inl rfl | exact Or.inr (Or.inl rfl) | exact Or.inr (Or.inr rfl)) (hd : (x == ("__debug__" : Str)) = false := by decide) (hcd : (x == ("__classdict__" : Str)) = false := by decide) :
    PE X (.Name x pos) (tAv X.K F W q (lnA i)) := PE_mono (pv i hN hv hd hcd) fun σ H Q ⟨st, G, fpf, S, A⟩ => by
  unfold lnA at A
  split at A
  · rename_i m d e
    obtain ⟨a, e1, _⟩ := S.ow i m d e
    exact ⟨.ref a, e1, A.done S e1⟩
  · exact A.elim
theorem dvs_nil : PA X [] (tAvs X.K F W q (avsM [])) := PA_mono pa_nil fun σ H Q ⟨st, G, fpf, S, A⟩ => A.done S .nil
theorem dvs_cons (ha : PE X e (tAv X.K F W q1 a)) (hr : PA X es (tAvs X.K F W q2 (avsM as))) (hs : starEach (e :: es) X.env = (false, eval e X.env) :: starEach es X.env := by rfl) : PA X (e :: es) (tAvs X.K F W (q1 && q2) (avsM (a :: as))) :=
  PA_mono (pa_cons ha hr hs) fun σ H Q ⟨st, G, fpf, S, A⟩ => by
    refine ⟨st, G, fpf, S, A.bndK (q1 := q1) (q2 := q2) (R1 := fun G _ _ _ a v => AvR X.K G σ a v) (fun z => Bool.and_eq_true_iff.mp z) fun d st1 G1 fpf1 v H1 g1 S1 z1 e1 r1 A1 => ?_⟩
    refine ⟨st1, G1, fpf1, S1, A1.bndK (q1 := q2) (q2 := true) (R1 := fun G _ _ _ a v => AvA X.K G σ a v) (fun z => ⟨z, rfl⟩) fun ds st2 G2 fpf2 u H2 g2 S2 z2 e2 r2 A2 => ?_⟩
    exact A2.done S2 (AvA.cons (by
      cases d with
      | d x => exact (show Rep X.K G2 x v from Rep.mono g2 r1)
      | m i => exact r1) r2)
variable {k : Nat} {f : Addr} {fd : FuncData} {ps : List Str} {mu : List Bool} {fn : FD} {dvs : List V} {ds : List Value} {dD : List D} {x : Str} {ma : M (List AV)}
theorem de_own (F0 : FnOk X.prog X.w X.K X.mg X.base (CX X.prog X.w) k f fd ps (spD X.K mu fn)) (hr : Room k X.A) (tk : Takes X W) (hg : Gl X x) (hm : X.mg x = some (.ref f)) (hk : PySem.W.keepIn X.K (.ref f) = true) (hb : Binds X.K fd ps ds) (hd : Vals dvs ds) (hD : ∀ G, RepA X.K G dD dvs)
    (ha : PA X (e :: es) (tAvs X.K F W q ma)) (hdb : (x == ("__debug__" : Str)) = false := by decide) (he : starEach (e :: es) X.env = (false, eval e X.env) :: starEach es X.env := by rfl) (hpl : (backTo pos (starEach es X.env)).any (·.1) = false := by rfl) :
    PE X (.Call (.Name x p) (e :: es) [] pos) (tM X.K F W false (RSh X.K) (callM mu fn dD ma)) :=
  PE_mono (pe_callSD (E := WE W) F0 hr hg hm hk hb hd (fun σ => passAt tk σ) ha hdb he hpl) fun σ H Q h => bind_of (q2 := false) (R1 := fun G _ _ _ a v => AvA X.K G σ a v) nq h fun as st1 G1 fpf1 vs H1 S1 r1 A1 =>
    callQ_at S1 (AvA.append r1 (AvA.of_rep (hD G1))) A1
theorem df_own (F0 : FnOk X.prog X.w X.K X.mg X.base (CX X.prog X.w) k f fd ps (spD X.K mu fn)) (hr : Room k X.A) (tk : Takes X W) (hg : Gl X x) (hm : X.mg x = some (.ref f)) (hk : PySem.W.keepIn X.K (.ref f) = true) (hb : Binds X.K fd ps ds) (hd : Vals dvs ds) (hD : ∀ G, RepA X.K G dD dvs)
    (ha : PA X (e :: es) (tAvs X.K F W q ma)) (hdb : (x == ("__debug__" : Str)) = false := by decide) (he : starEach (e :: es) X.env = (false, eval e X.env) :: starEach es X.env := by rfl) (hpl : (backTo pos (starEach es X.env)).any (·.1) = false := by rfl) :
    PE X (.Call (.Name x p) (e :: es) [] pos) (tM X.K F W false (RFr X.K F) (callF mu fn dD ma)) :=
  PE_mono (pe_callSD (E := WE W) F0 hr hg hm hk hb hd (fun σ => passAt tk σ) ha hdb he hpl) fun σ H Q h => bind_of (q2 := false) (R1 := fun G _ _ _ a v => AvA X.K G σ a v) nq h fun as st1 G1 fpf1 vs H1 S1 r1 A1 =>
    callN_at S1 (AvA.append r1 (AvA.of_rep (hD G1))) A1
end
end DL
namespace DL
variable [TB] [LC]
open PySem L2
/-! ### objects: their attributes -/
theorem keys_look {α β : Type} {f : Str} : ∀ {l : List (Str × α)} {m : List (Str × β)}, l.map (·.1) = m.map (·.1) → m.lookup f = none → l.lookup f = none
  | [], _, _, _ => rfl
  | (g, x) :: l, [], h, _ => by cases h
  | (g, x) :: l, (g', y) :: m, h, e => by
    simp only [List.map_cons, List.cons.injEq] at h
    obtain ⟨h1, h2⟩ := h
    subst h1
    simp only [List.lookup] at e ⊢
    split at e
    · cases e
    · rename_i q
      exact keys_look h2 e
theorem look_rep {K : PySem.W.Frag} {G : Hp} {f : Str} {d : D} : ∀ {fv : List (Str × V)} {fd : List (Str × D)}, fv.map (·.1) = fd.map (·.1) → RepA K G (fd.map (·.2)) (fv.map (·.2)) → fd.lookup f = some d → ∃ v, fv.lookup f = some v ∧ Rep K G d v
  | [], [], _, _, e => by cases e
  | (g, x) :: l, [], h, _, _ => by cases h
  | [], (g, x) :: l, h, _, _ => by cases h
  | (g, x) :: l, (g', y) :: m, h, r, e => by
    simp only [List.map_cons, List.cons.injEq] at h
    obtain ⟨h1, h2⟩ := h
    subst h1
    cases r with
    | cons r t =>
      simp only [List.lookup] at e ⊢
      split at e
      · rename_i q
        cases e
        exact ⟨x, rfl, r⟩
      · exact look_rep h2 t e
theorem look_chA {K : PySem.W.Frag} {G H : Hp} {f : Str} {d : D} (nb : isBox d = false) : ∀ {fv : List (Str × V)} {fd : List (Str × D)} {fp : List Addr}, fv.map (·.1) = fd.map (·.1) → ChA K G H (fd.map (·.2)) (fv.map (·.2)) fp → fd.lookup f = some d → ∃ v, fv.lookup f = some v ∧ Rep K G d v
  | [], [], _, _, _, e => by cases e
  | (g, x) :: l, [], _, h, _, _ => by cases h
  | [], (g, x) :: l, _, h, _, _ => by cases h
  | (g, x) :: l, (g', y) :: m, fp, h, r, e => by
    simp only [List.map_cons, List.cons.injEq] at h
    obtain ⟨h1, h2⟩ := h
    subst h1
    simp only [List.lookup] at e ⊢
    split at e
    · cases e
      generalize ey : m.map (·.2) = ms at r
      generalize ev : l.map (·.2) = vs at r
      simp only [List.map_cons] at r
      rw [ey, ev] at r
      cases r with
      | sh r t => exact ⟨x, rfl, r⟩
      | bx hb r t => cases nb
    · simp only [List.map_cons] at r
      cases r with
      | sh r t => exact look_chA nb h2 t e
      | bx hb r t => exact look_chA nb h2 t e
theorem Rp.obj {K : PySem.W.Frag} {G H : Hp} {v : V} {C : Addr} {fd : List (Str × D)} (g : Same G H) (h : Rp K G H (.obj C fd) v) : ∃ a dx fv, v = .ref a ∧ H a = some (.ins C dx fv) ∧ fv.map (·.1) = fd.map (·.1) ∧ ∀ f d, fd.lookup f = some d → isBox d = false → ∃ u, fv.lookup f = some u ∧ Rep K G d u := by
  cases h with
  | rep h => cases h with | obj h k r => exact ⟨_, _, _, rfl, g _ _ h, k, fun f d e _ => look_rep k r e⟩
  | own h =>
    cases h with
    | flat h r => cases r with | obj k r => exact ⟨_, _, _, rfl, h, k, fun f d e _ => look_rep k r e⟩
    | obj h k c => exact ⟨_, _, _, rfl, h, k, fun f d e nb => look_chA nb k c e⟩
/-- an attribute, shared -/
def attD (C : Addr) (f : Str) : D → Option D
  | .obj C' fs => if C' = C then (match fs.lookup f with
    | some d => if isBox d = true then none else some d
    | none => none) else none
  | _ => none
section
variable {X : Cx} {F : Fr} {W : WX} {q : Bool} {C : Addr} {f : Str} {e o : Expr} {pos pos' p : Pos} {m : M D}
theorem de_fld (c : Cls X.K C) (n : NoAttr X.K C f) (he : PE X e (tM X.K F W q (RPk X.K) m)) (hb : attributeBase e f X.env (eval e X.env) = eval e X.env := by rfl) : PE X (.Attribute e f pos) (tM X.K F W q (RSh X.K) (unM (attD C f) m)) :=
  PE_mono (pe_fld he hb) fun σ H Q h => bind_of (q2 := true) (R1 := RPk X.K) (fun y => ⟨y, rfl⟩) h fun d st1 G1 fpf1 v H1 S1 r1 A1 => by
    unfold lift at A1
    cases w : attD C f d with
    | none => rw [w] at A1; exact A1.elim
    | some z =>
      rw [w] at A1
      unfold attD at w
      split at w
      · rename_i C' fs
        by_cases hC : C' = C
        · subst hC
          rw [if_pos rfl] at w
          split at w
          · rename_i d hd
            by_cases b : isBox d = true
            · rw [if_pos b] at w; cases w
            · rw [if_neg b] at w
              cases w
              obtain ⟨a, dx, fv, rfl, ha, k, l⟩ := Rp.obj S1.gh r1
              obtain ⟨u, hu, ru⟩ := l f z hd (by simpa using b)
              exact ⟨a, C', dx, fv, u, rfl, ha, c, n, hu, A1.done S1 ru⟩
          · cases w
        · rw [if_neg hC] at w; cases w
      · cases w
end
/-! ### a store to an attribute: a shared value into an object of one's own -/
def putD (f : Str) (d : D) : List (Str × D) → List (Str × D)
  | [] => [(f, d)]
  | (g, x) :: r => if g = f then (g, d) :: r else (g, x) :: putD f d r
def noBoxAt (f : Str) (fs : List (Str × D)) : Bool := match fs.lookup f with
  | some d => !isBox d
  | none => true
theorem putF_rep {K : PySem.W.Frag} {G : Hp} {f : Str} {d : D} {v : V} (r : Rep K G d v) : ∀ {fv : List (Str × V)} {fd : List (Str × D)}, fv.map (·.1) = fd.map (·.1) → RepA K G (fd.map (·.2)) (fv.map (·.2)) → (putF f v fv).map (·.1) = (putD f d fd).map (·.1) ∧ RepA K G ((putD f d fd).map (·.2)) ((putF f v fv).map (·.2))
  | [], [], _, _ => ⟨rfl, .cons r .nil⟩
  | (g, x) :: l, [], h, _ => by cases h
  | [], (g, x) :: l, h, _ => by cases h
  | (g, x) :: l, (g', y) :: m, h, t => by
    simp only [List.map_cons, List.cons.injEq] at h
    obtain ⟨h1, h2⟩ := h
    subst h1
    cases t with
    | cons t1 t2 =>
      unfold putF putD
      by_cases c : g = f
      · rw [if_pos c, if_pos c]
        exact ⟨by simp [h2], .cons r t2⟩
      · rw [if_neg c, if_neg c]
        obtain ⟨a, b⟩ := putF_rep r h2 t2
        exact ⟨by simp [a], .cons t1 b⟩
theorem putF_chA {K : PySem.W.Frag} {G H : Hp} {f : Str} {d : D} {v : V} (r : Rep K G d v) : ∀ {fv : List (Str × V)} {fd : List (Str × D)} {fp : List Addr}, fv.map (·.1) = fd.map (·.1) → noBoxAt f fd = true → ChA K G H (fd.map (·.2)) (fv.map (·.2)) fp →
    (putF f v fv).map (·.1) = (putD f d fd).map (·.1) ∧ ChA K G H ((putD f d fd).map (·.2)) ((putF f v fv).map (·.2)) fp
  | [], [], fp, _, _, t => by
    cases t
    exact ⟨rfl, .sh r .nil⟩
  | (g, x) :: l, [], _, h, _, _ => by cases h
  | [], (g, x) :: l, _, h, _, _ => by cases h
  | (g, x) :: l, (g', y) :: m, fp, h, nb, t => by
    simp only [List.map_cons, List.cons.injEq] at h
    obtain ⟨h1, h2⟩ := h
    subst h1
    simp only [List.map_cons] at t
    unfold putF putD
    by_cases c : g = f
    · rw [if_pos c, if_pos c]
      subst c
      refine ⟨by simp [h2], ?_⟩
      unfold noBoxAt at nb
      simp only [List.lookup, beq_self_eq_true] at nb
      cases t with
      | sh t1 t2 => exact .sh r t2
      | bx hb t1 t2 => cases nb
    · rw [if_neg c, if_neg c]
      have nb' : noBoxAt f m = true := by
        unfold noBoxAt at nb ⊢
        have : (f == g) = false := by simpa using fun z => c z.symm
        simpa [List.lookup, this] using nb
      cases t with
      | sh t1 t2 =>
        obtain ⟨a, b⟩ := putF_chA r h2 nb' t2
        exact ⟨by simp [a], .sh t1 b⟩
      | bx hb t1 t2 =>
        obtain ⟨a, b⟩ := putF_chA r h2 nb' t2
        exact ⟨by simp [a], .bx hb t1 b⟩
def putM (C : Addr) (f : Str) (i : Nat) (m : M D) : MS := doM m fun d st => match st[i]? with
  | some (some (Slot.ow mu (.obj C' fs))) => if C' = C ∧ fs.length < 1000 ∧ noBoxAt f fs = true then .nx (st.set i (some (Slot.ow mu (.obj C (putD f d fs))))) else .stuck
  | _ => .stuck
theorem ChA.upd {K : PySem.W.Frag} {G H : Hp} {a : Addr} {u : HO} {ds : List D} {vs : List V} {fp : List Addr} (h : ChA K G H ds vs fp) (n : a ∉ fp) : ChA K G (upd H a u) ds vs fp :=
  h.mono (Same.refl G) fun b hb => upd_ne fun (z : b = a) => n (z ▸ hb)
section
variable {X : Cx} {F : Fr} {W : WX} {q : Bool} {C : Addr} {f : Str} {e o : Expr} {pos pos' p : Pos} {m : M D}
theorem ds_put (i : Nat) {x : Str} (c : Cls X.K C) (n : NoAttr X.K C f) (he : PE X e (tM X.K F W q (RSh X.K) m)) (hN : X.N[i]? = some x := by rfl) (hv : Vis X.env.scope x := by first | exact Or.inl rfl | exact Or.inr (Or.inl rfl) | exact Or.inr (Or.inr rfl)) (hd : (x == ("__debug__" : Str)) = false := by decide) (hcd : (x == ("__classdict__" : Str)) = false := by decide)
    (hs : swapsWith e (some (.Attribute (.Name x p) f pos')) pos.line X.env = pure false := by rfl) : PS X (.Assign [.Attribute (.Name x p) f pos'] e pos) (tS X.K F W (putM C f i m)) :=
  PS_mono (ps_fld (pv i hN hv hd hcd) he hs) fun D σ H h => do_of (R := RSh X.K) h fun d st1 G1 fpf1 v H1 S1 r1 A1 => by
    split at A1
    · rename_i mu C' fs es
      by_cases k : C' = C ∧ fs.length < 1000 ∧ noBoxAt f fs = true
      · rw [if_pos k] at A1
        obtain ⟨rfl, k2, k3⟩ := k
        obtain ⟨a, ea, ow, nd, off, mm⟩ := S1.ow i mu _ es
        obtain ⟨a', dx, fv, ev, ha, kk, _⟩ := Rp.obj S1.gh (.own ow)
        cases ev
        have lk : fv.length < 1000 := by
          have := congrArg List.length kk
          rw [List.length_map, List.length_map] at this
          omega
        refine ⟨.ref a, ea, a, C', dx, fv, rfl, ha, c, n, lk, A1 σ _ G1 fpf1 (Same.refl G1) (S1.write es (fun b hb => ?_) fun b hb => upd_ne fun z => hb (by rw [z]; exact ow.mem))⟩
        rw [ea] at hb
        cases hb
        cases hfp : fpf1 i with
        | nil => rw [hfp] at ow; cases ow
        | cons b0 fp0 =>
          rw [hfp] at ow nd
          cases ow with
          | flat h r =>
            cases r with
            | obj k4 r4 =>
              rw [ha] at h
              cases h
              obtain ⟨p1, p2⟩ := putF_rep r1 k4 r4
              exact .flat upd_same (.obj p1 p2)
          | obj h k4 c4 =>
            rw [ha] at h
            cases h
            obtain ⟨p1, p2⟩ := putF_chA r1 k4 k3 c4
            exact .obj upd_same p1 (p2.upd (List.nodup_cons.mp nd).1)
      · rw [if_neg k] at A1; exact A1.elim
    · exact A1.elim
end
/-! ### methods, properties, objects made and called -/
def objAt (st : DSt) : AV → Option (Addr × List (Str × D))
  | .d (.obj C fs) => some (C, fs)
  | .m i => match st[i]? with
    | some (some (Slot.ow _ (.obj C fs))) => some (C, fs)
    | _ => none
  | _ => none
def chkO (C : Addr) (f : Str) (a : AV) : M Unit := fun st => match objAt st a with
  | some (C', fs) => if C' = C ∧ fs.lookup f = none then .ok () st else .stuck
  | none => .stuck
theorem objAt_ok {K : PySem.W.Frag} {F : Fr} {G H : Hp} {fpf : Nat → List Addr} {σ : St} {st : DSt} {a : AV} {v : V} {C : Addr} {fd : List (Str × D)} (S : Sync K F G fpf σ H st) (r : AvR K G σ a v) (h : objAt st a = some (C, fd)) : ∃ p dx fv, v = .ref p ∧ H p = some (.ins C dx fv) ∧ fv.map (·.1) = fd.map (·.1) := by
  unfold objAt at h
  split at h
  · cases h
    obtain ⟨a, dx, fv, e, h1, h2, _⟩ := Rp.obj S.gh (.rep r)
    exact ⟨a, dx, fv, e, h1, h2⟩
  · rename_i i
    split at h
    · rename_i mu C' fs es
      cases h
      obtain ⟨b, e1, ow, _⟩ := S.ow i mu _ es
      have r' : σ[i]? = some (some v) := r
      rw [e1] at r'
      cases r'
      obtain ⟨a, dx, fv, e, h1, h2, _⟩ := Rp.obj S.gh (.own ow)
      exact ⟨a, dx, fv, e, h1, h2⟩
    · cases h
  · cases h
def methM (q : List Bool → FD → List AV → M D) (C : Addr) (nm : Str) (mu : List Bool) (f : FD) (dD : List D) (mo : M AV) (ma : M (List AV)) : M D :=
  bnd mo fun a => bnd (chkO C nm a) fun _ => bnd ma fun as => q mu f (a :: (as ++ dD.map AV.d))
section
variable {X : Cx} {k : Nat} {f g C : Addr} {fd : FuncData} {ps : List Str} {sp : Sp} {E : St → XK} {dvs : List V} {ds : List Value} {nm : Str} {pos apos p : Pos} {o e fe : Expr} {es : List Expr} {ta tf : TE} {t : TA} {pl : Sem Bool}
def tMethS (C : Addr) (nm : Str) (sp : Sp) (dvs : List V) (E : St → XK) (ta : TE) (t : TA) : TE := fun σ H Q => ta σ H fun x H1 => ∃ a dx fs, x = .ref a ∧ H1 a = some (.ins C dx fs) ∧ fs.lookup nm = none ∧ t σ H1 fun vs H2 => sp (x :: (vs ++ dvs)) H2 Q (E σ)
theorem pm_meth (he : PE X o ta) (c : Cls X.K C) (hm : Meth X.K C nm f) (F : FnOk X.prog X.w X.K X.mg X.base (CX X.prog X.w) k f fd ps sp) (hr : Room k X.A) (hb : Binds X.K fd ps ds) (hd : Vals dvs ds) (hx : ∀ σ, PassesAt (CX X.prog X.w) X σ (E σ)) (ha : PA X (e :: es) t)
    (hst : starEach (e :: es) X.env = (false, eval e X.env) :: starEach es X.env := by rfl) (hpl : (backTo pos (starEach es X.env)).any (·.1) = false := by rfl)
    (ht : eval (.Call (.Attribute o nm apos) (e :: es) [] pos) X.env = (do let ob ← eval o X.env; standAt apos.atName; let (fn, fst) ← holding [ob] (getMethod ob nm pl); callWith pos fn fst (backTo pos (starEach (e :: es) X.env)) (backToKw pos (keywordEach [] X.env))) := by rfl) :
    PE X (.Call (.Attribute o nm apos) (e :: es) [] pos) (tMethS C nm sp dvs E ta t) := ⟨fun pins s σ H Q I h => by
  refine PySem.W.methodCall_KW (pl := pl) (thn (he.run pins s σ H _ I h) fun u s1 hh => ?_) ht
  obtain ⟨x, H1, I1, rx, a, dx, fs, ex, ea, l, q⟩ := hh
  subst ex
  cases (show u = Value.ref a from rx)
  exact getmeth_ok I1 ea c hm l (PySem.W.callWith_K (first := [.ref a]) (h₀ := X.base) I.ok.mod.kin hm.kp (thn (ha.run pos pins s1 σ H1 _ I1 q) fun us s2 ⟨vs, H2, I2, r, q2⟩ => ⟨I2.kIn, run_fnSD (us := .ref a :: us) (vs := .ref a :: vs) F hr hb hd (hx σ) I2 (.cons rfl r) q2⟩) hst hpl)⟩
theorem pm_meth0 (he : PE X o ta) (c : Cls X.K C) (hm : Meth X.K C nm f) (F : FnOk X.prog X.w X.K X.mg X.base (CX X.prog X.w) k f fd ps sp) (hr : Room k X.A) (hb : Binds X.K fd ps ds) (hd : Vals dvs ds) (hx : ∀ σ, PassesAt (CX X.prog X.w) X σ (E σ))
    (ht : eval (.Call (.Attribute o nm apos) [] [] pos) X.env = (do let ob ← eval o X.env; standAt apos.atName; let (fn, fst) ← holding [ob] (getMethod ob nm pl); callWith pos fn fst (backTo pos (starEach [] X.env)) (backToKw pos (keywordEach [] X.env))) := by rfl) :
    PE X (.Call (.Attribute o nm apos) [] [] pos) (tMethS C nm sp dvs E ta tNil) := ⟨fun pins s σ H Q I h => by
  refine PySem.W.methodCall_KW (pl := pl) (thn (he.run pins s σ H _ I h) fun u s1 hh => ?_) ht
  obtain ⟨x, H1, I1, rx, a, dx, fs, ex, ea, l, q⟩ := hh
  subst ex
  cases (show u = Value.ref a from rx)
  exact getmeth_ok I1 ea c hm l (PySem.W.callWith_K0 (first := [.ref a]) I1.kIn hm.kp (run_fnSD (us := [.ref a]) (vs := [.ref a]) F hr hb hd (hx σ) I1 (.cons rfl .nil) q))⟩
end
end DL
namespace DL
variable [TB] [LC]
open PySem L2
theorem chk_of {K : PySem.W.Frag} {F : Fr} {W : WX} {α ρ : Type} {q : Bool} {R : Rl α ρ} {C : Addr} {nm : Str} {a : AV} {v : V} {m : M α} {st : DSt} {G H : Hp} {fpf : Nat → List Addr} {σ : St} {Q : ρ → Hp → Prop}
    (S : Sync K F G fpf σ H st) (r : AvR K G σ a v) (A : At K F W q R (bnd (chkO C nm a) (fun _ => m) st) st G fpf σ H Q) :
    (∃ p dx fv, v = .ref p ∧ H p = some (.ins C dx fv) ∧ fv.lookup nm = none) ∧ At K F W q R (m st) st G fpf σ H Q := by
  unfold bnd chkO at A
  cases e : objAt st a with
  | none => rw [e] at A; exact A.elim
  | some x =>
    obtain ⟨C', fd⟩ := x
    rw [e] at A
    dsimp only at A
    by_cases c : C' = C ∧ fd.lookup nm = none
    · rw [if_pos c] at A
      obtain ⟨rfl, c2⟩ := c
      obtain ⟨p, dx, fv, h1, h2, h3⟩ := objAt_ok S r e
      exact ⟨⟨p, dx, fv, h1, h2, keys_look h3 c2⟩, A⟩
    · rw [if_neg c] at A; exact A.elim
def noErr (m : M D) : M D := fun st => match m st with
  | .err _ _ => .stuck
  | r => r
theorem noErr_at {K : PySem.W.Frag} {F : Fr} {W W' : WX} {q : Bool} {R : Rl D V} {m : M D} {st : DSt} {G H : Hp} {fpf : Nat → List Addr} {σ : St} {Q : VK} (A : At K F W q R (noErr m st) st G fpf σ H Q) : At K F W' q R (m st) st G fpf σ H Q := by
  unfold noErr at A
  revert A
  cases m st with
  | ok d st' => exact id
  | err x st' => exact fun A => A.elim
  | stuck => exact fun A => A.elim
def propM (C : Addr) (nm : Str) (mu : List Bool) (f : FD) (mo : M AV) : M D := bnd mo fun a => bnd (chkO C nm a) fun _ => noErr (callQ mu f [a])
def callOM (q : List Bool → FD → List AV → M D) (C : Addr) (mu : List Bool) (f : FD) (dD : List D) (mo : M AV) (ma : M (List AV)) : M D :=
  bnd mo fun a => bnd (chkO C Str.empty a) fun _ => bnd ma fun as => bnd (chkO C Str.empty a) fun _ => q mu f (a :: (as ++ dD.map AV.d))
def mkQ (C : Addr) (mu : List Bool) (f : FD) (as : List AV) : M D := fun st => if (as.filterMap avSl).Nodup then (match getA st mu as with
    | some ds => match f (.obj C [] :: ds) with
      | .ok false .non (d :: ms) => .ok d (setBack as ms st)
      | .err x (_ :: ms) => .err x (setBack as ms st)
      | _ => .stuck
    | none => .stuck) else .stuck
def makeF (C : Addr) (mu : List Bool) (f : FD) (dD : List D) (ma : M (List AV)) : M D := bnd ma fun as => mkQ C mu f (as ++ dD.map AV.d)
theorem AvR.mono {K : PySem.W.Frag} {G G' : Hp} {σ : St} {a : AV} {v : V} (g : Same G G') (h : AvR K G σ a v) : AvR K G' σ a v := by
  cases a with
  | d x => exact (show Rep K G' x v from Rep.mono g h)
  | m i => exact h
section
variable {X : Cx} {F : Fr} {W : WX} {q q1 q2 : Bool} {k : Nat} {f g C p0 : Addr} {fd : FuncData} {ps : List Str} {mu : List Bool} {fn : FD} {dvs : List V} {ds : List Value} {dD : List D} {nm x : Str} {pos apos p : Pos} {o e fe : Expr} {es : List Expr} {mo : M AV} {ma : M (List AV)} {pl : Sem Bool}
theorem de_meth (he : PE X o (tAv X.K F W q1 mo)) (c : Cls X.K C) (hm : Meth X.K C nm f) (F0 : FnOk X.prog X.w X.K X.mg X.base (CX X.prog X.w) k f fd ps (spD X.K mu fn)) (hr : Room k X.A) (tk : Takes X W) (hb : Binds X.K fd ps ds) (hd : Vals dvs ds) (hD : ∀ G, RepA X.K G dD dvs)
    (ha : PA X (e :: es) (tAvs X.K F W q2 ma)) (hst : starEach (e :: es) X.env = (false, eval e X.env) :: starEach es X.env := by rfl) (hpl : (backTo pos (starEach es X.env)).any (·.1) = false := by rfl)
    (ht : eval (.Call (.Attribute o nm apos) (e :: es) [] pos) X.env = (do let ob ← eval o X.env; standAt apos.atName; let (fn, fst) ← holding [ob] (getMethod ob nm pl); callWith pos fn fst (backTo pos (starEach (e :: es) X.env)) (backToKw pos (keywordEach [] X.env))) := by rfl) :
    PE X (.Call (.Attribute o nm apos) (e :: es) [] pos) (tM X.K F W false (RSh X.K) (methM callQ C nm mu fn dD mo ma)) :=
  PE_mono (pm_meth (E := WE W) he c hm F0 hr hb hd (fun σ => passAt tk σ) ha hst hpl ht) fun σ H Q h => bind_of (q2 := false) (R1 := fun G _ _ _ a v => AvR X.K G σ a v) nq h fun a st1 G1 fpf1 v H1 S1 r1 A1 => by
    obtain ⟨⟨p, dx, fv, rfl, h1, h2⟩, A2⟩ := chk_of S1 r1 A1
    refine ⟨p, dx, fv, rfl, h1, h2, st1, G1, fpf1, S1, A2.bndK (q1 := q2) (q2 := false) (R1 := fun G _ _ _ a v => AvA X.K G σ a v) nq fun as st3 G3 fpf3 vs H3 g3 S3 z3 e3 r3 A3 => ?_⟩
    exact callQ_at S3 (AvA.cons (r1.mono g3) (AvA.append r3 (AvA.of_rep (hD G3)))) A3
theorem de_meth0 (he : PE X o (tAv X.K F W q1 mo)) (c : Cls X.K C) (hm : Meth X.K C nm f) (F0 : FnOk X.prog X.w X.K X.mg X.base (CX X.prog X.w) k f fd ps (spD X.K mu fn)) (hr : Room k X.A) (tk : Takes X W) (hb : Binds X.K fd ps ds) (hd : Vals dvs ds) (hD : ∀ G, RepA X.K G dD dvs)
    (ht : eval (.Call (.Attribute o nm apos) [] [] pos) X.env = (do let ob ← eval o X.env; standAt apos.atName; let (fn, fst) ← holding [ob] (getMethod ob nm pl); callWith pos fn fst (backTo pos (starEach [] X.env)) (backToKw pos (keywordEach [] X.env))) := by rfl) :
    PE X (.Call (.Attribute o nm apos) [] [] pos) (tM X.K F W false (RSh X.K) (methM callQ C nm mu fn dD mo (ret []))) :=
  PE_mono (pm_meth0 (E := WE W) he c hm F0 hr hb hd (fun σ => passAt tk σ) ht) fun σ H Q h => bind_of (q2 := false) (R1 := fun G _ _ _ a v => AvR X.K G σ a v) nq h fun a st1 G1 fpf1 v H1 S1 r1 A1 => by
    obtain ⟨⟨p, dx, fv, rfl, h1, h2⟩, A2⟩ := chk_of S1 r1 A1
    exact ⟨p, dx, fv, rfl, h1, h2, callQ_at S1 (AvA.cons r1 (AvA.of_rep (hD G1))) A2⟩
theorem df_meth0 (he : PE X o (tAv X.K F W q1 mo)) (c : Cls X.K C) (hm : Meth X.K C nm f) (F0 : FnOk X.prog X.w X.K X.mg X.base (CX X.prog X.w) k f fd ps (spD X.K mu fn)) (hr : Room k X.A) (tk : Takes X W) (hb : Binds X.K fd ps ds) (hd : Vals dvs ds) (hD : ∀ G, RepA X.K G dD dvs)
    (ht : eval (.Call (.Attribute o nm apos) [] [] pos) X.env = (do let ob ← eval o X.env; standAt apos.atName; let (fn, fst) ← holding [ob] (getMethod ob nm pl); callWith pos fn fst (backTo pos (starEach [] X.env)) (backToKw pos (keywordEach [] X.env))) := by rfl) :
    PE X (.Call (.Attribute o nm apos) [] [] pos) (tM X.K F W false (RFr X.K F) (methM callN C nm mu fn dD mo (ret []))) :=
  PE_mono (pm_meth0 (E := WE W) he c hm F0 hr hb hd (fun σ => passAt tk σ) ht) fun σ H Q h => bind_of (q2 := false) (R1 := fun G _ _ _ a v => AvR X.K G σ a v) nq h fun a st1 G1 fpf1 v H1 S1 r1 A1 => by
    obtain ⟨⟨p, dx, fv, rfl, h1, h2⟩, A2⟩ := chk_of S1 r1 A1
    exact ⟨p, dx, fv, rfl, h1, h2, callN_at S1 (AvA.cons r1 (AvA.of_rep (hD G1))) A2⟩
/-- o.f, a property -/
theorem de_prop (he : PE X e (tAv X.K F W q1 mo)) (c : Cls X.K C) (hp : PropOf X.K C nm p0 g) (F0 : FnOk X.prog X.w X.K X.mg X.base (CX X.prog X.w) k g fd ps (spD X.K mu fn)) (hr : Room (k + 1) X.A) (hb : Binds X.K fd ps [])
    (hab : attributeBase e nm X.env (eval e X.env) = eval e X.env := by rfl) : PE X (.Attribute e nm pos) (tM X.K F W false (RSh X.K) (propM C nm mu fn mo)) :=
  PE_mono (pe_prop he c hp F0 hr hb .nil passL hab) fun σ H Q h => bind_of (q2 := false) (R1 := fun G _ _ _ a v => AvR X.K G σ a v) nq h fun a st1 G1 fpf1 v H1 S1 r1 A1 => by
    obtain ⟨⟨p, dx, fv, rfl, h1, h2⟩, A2⟩ := chk_of S1 r1 A1
    exact ⟨p, dx, fv, rfl, h1, callQ_at (W := fun _ _ _ _ => False) S1 (AvA.cons r1 .nil) (noErr_at A2)⟩
/-! ### C(..) -/
def tMakeS (C : Addr) (sp : Sp) (dvs : List V) (E : St → XK) (t : TA) : TE := fun σ H Q => t σ H fun vs H1 => ∀ x dx, H1 x = none → H1 dx = none → dx ≠ x →
  sp (.ref x :: (vs ++ dvs)) (upd (upd H1 dx (.own x)) x (.ins C dx [])) (fun v H2 => v = .non ∧ Q (.ref x) H2) (E σ)
theorem runMk {pins : List (Addr × Obj)} {σ : St} {H : Hp} {s : Shared} {Q : VK} {us : List Value} {vs : List V} {sp : Sp} {E : XK} (M : Mk X.K C f) (F0 : FnOk X.prog X.w X.K X.mg X.base (CX X.prog X.w) k f fd ps sp) (hr : Room (k + 1) X.A) (hb : Binds X.K fd ps ds) (hd : Vals dvs ds)
    (hx : PassesAt (CX X.prog X.w) X σ E) (I : Inv X pins σ H s) (r : Vals vs us)
    (h : ∀ x dx, H x = none → H dx = none → dx ≠ x → sp (.ref x :: (vs ++ dvs)) (upd (upd H dx (.own x)) x (.ins C dx [])) (fun v H2 => v = .non ∧ Q (.ref x) H2) E) :
    wpAny (model X.prog X.w) X.A (call (.ref C) us) (EP X pins σ Q) X.xe s := by
  have n0 := I.hok.fresh (Nat.le_refl s.heap.objs.size)
  have n1 := I.hok.fresh (Nat.le_succ s.heap.objs.size)
  have z := h _ _ n1 n0 (Nat.ne_of_lt (Nat.lt_succ_self _))
  have J := Inv.made (C := C) I
  have rr : Vals (V.ref (s.heap.objs.size + 1) :: (vs ++ dvs)) (Value.ref (s.heap.objs.size + 1) :: (us ++ ds)) := .cons rfl (r.append hd)
  have len : (Value.ref (s.heap.objs.size + 1) :: us ++ ds).length = ps.length := (rr.length.symm.trans (F0.len _ _ _ _ z))
  have run := F0.run _ X.stack _ _ ⟨Value.ref (s.heap.objs.size + 1) :: us, []⟩ _ _ _ E (hr.make C us []) (J.env0.make C us []) (hb _ (Value.ref (s.heap.objs.size + 1) :: us) J.kIn len) rr z
  refine wpAny_call (make_map (f := f) I.kIn M.makes M.init (beq_iff_eq.mp M.fn) (codeAny_mono run fun r s' y => ?_))
  match r, y with
  | .error e, y => exact hx pins _ _ e s' J y
  | .ok (.ret u), y =>
    obtain ⟨v, H', I3, rv, ev, q3⟩ := J.after y
    cases ev
    exact ⟨rv, V.ref (s.heap.objs.size + 1), H', I3, rfl, q3⟩
  | .ok .next, y => exact y.elim
  | .ok .brk, y => exact y.elim
  | .ok .cont, y => exact y.elim
theorem pm_make {sp : Sp} {E : St → XK} {t : TA} (M : Mk X.K C f) (F0 : FnOk X.prog X.w X.K X.mg X.base (CX X.prog X.w) k f fd ps sp) (hr : Room (k + 1) X.A) (hg : Gl X x) (hm : X.mg x = some (.ref C)) (hb : Binds X.K fd ps ds) (hd : Vals dvs ds) (hx : ∀ σ, PassesAt (CX X.prog X.w) X σ (E σ))
    (ha : PA X (e :: es) t) (hdb : (x == ("__debug__" : Str)) = false := by decide) (he : starEach (e :: es) X.env = (false, eval e X.env) :: starEach es X.env := by rfl) (hpl : (backTo pos (starEach es X.env)).any (·.1) = false := by rfl) :
    PE X (.Call (.Name x p) (e :: es) [] pos) (tMakeS C sp dvs E t) :=
  ⟨fun pins s σ H Q I h => wpAny_Call_Name_kw (ld_glob I hg hm (PySem.W.callWith_K (h₀ := X.base) I.ok.mod.kin M.kp (thn (ha.run pos pins s σ H _ I h) fun us s1 ⟨vs, H1, I1, r, q⟩ => ⟨I1.kIn, runMk M F0 hr hb hd (hx σ) I1 r q⟩) he hpl) hdb)⟩
def consFp (x : Addr) (fp : Nat → List Addr) : Nat → List Addr
  | 0 => [x]
  | k + 1 => fp k
theorem mkQ_at {G H : Hp} {fpf : Nat → List Addr} {σ : St} {st : DSt} {as : List AV} {vs : List V} {Q : VK} (S : Sync X.K F G fpf σ H st) (r : AvA X.K G σ as vs) (A : At X.K F W false (RFr X.K F) (mkQ C mu fn as st) st G fpf σ H Q) (y dx : Addr) (hy : H y = none) (hdx : H dx = none) (ne : dx ≠ y) :
    spD X.K (true :: mu) fn (.ref y :: vs) (upd (upd H dx (.own y)) y (.ins C dx [])) (fun v H2 => v = .non ∧ Q (.ref y) H2) (WE W σ) := by
  have s2 : Same H (upd (upd H dx (.own y)) y (.ins C dx [])) := fun b u e => by
    rw [upd_ne (ne_of_none e hy), upd_ne (ne_of_none e hdx)]; exact e
  have back : ∀ {b : Addr}, noTb (upd (upd H dx (.own y)) y (.ins C dx []) b) = none → noTb (H b) = none := fun {b} e => by
    cases q : H b with
    | none => rfl
    | some u => rw [s2 b u q] at e; exact e
  unfold mkQ at A
  by_cases nd : (as.filterMap avSl).Nodup
  · rw [if_pos nd] at A
    cases gt : getA st mu as with
    | none => rw [gt] at A; exact A.elim
    | some ds =>
      rw [gt] at A
      have ar := args_of S r nd gt
      refine ⟨.obj C [] :: ds, G, consFp y (argFp fpf as), S.gh.trans s2, S.ng, S.tab.ext s2, ⟨congrArg (· + 1) ar.lm, congrArg (· + 1) ar.ld, fun i d h1 h2 => ?_, fun i d h1 h2 => ?_, fun i j hi hj n b hb => ?_⟩, ?_⟩
      · cases i with
        | zero => simp at h1
        | succ i => simpa using ar.sh i d (by simpa using h1) (by simpa using h2)
      · cases i with
        | zero =>
          simp at h2
          subst h2
          exact ⟨y, rfl, .flat upd_same (.obj rfl .nil), by simp [consFp], fun b hb => by
            rw [show consFp y (argFp fpf as) 0 = [y] from rfl, List.mem_singleton] at hb
            rw [hb]; exact S.freshG hy⟩
        | succ i =>
          obtain ⟨a, e1, e2, e3, e4⟩ := ar.ow i d (by simpa using h1) (by simpa using h2)
          refine ⟨a, by simpa using e1, e2.mono (Same.refl G) fun b hb => ?_, e3, e4⟩
          obtain ⟨u, eu⟩ := e2.live b hb
          rw [eu]; exact s2 b u eu
      · have aux : ∀ {k : Nat} {b : Addr}, mu[k]? = some true → b ∈ argFp fpf as k → b ≠ y := fun {k b} hk hb z => by
          have hl : k < ds.length := by
            have := (List.getElem?_eq_some_iff.mp hk).1
            rw [ar.lm, ← ar.ld] at this
            exact this
          obtain ⟨a, _, e2, _⟩ := ar.ow k _ hk (List.getElem?_eq_getElem hl)
          obtain ⟨u, eu⟩ := e2.live b hb
          rw [z, hy] at eu; cases eu
        cases i with
        | zero =>
          cases j with
          | zero => exact absurd rfl n
          | succ j =>
            rw [show consFp y (argFp fpf as) 0 = [y] from rfl, List.mem_singleton] at hb
            exact fun z => aux (by simpa using hj) z hb
        | succ i =>
          cases j with
          | zero =>
            intro z
            rw [show consFp y (argFp fpf as) 0 = [y] from rfl, List.mem_singleton] at z
            exact aux (by simpa using hi) hb z
          | succ j => exact ar.sep i j (by simpa using hi) (by simpa using hj) (fun z => n (by rw [z])) b hb
      · have tb : ∀ {G' H' : Hp} {d : D} {ms : List D} {fp' : Nat → List Addr}, Bck X.K G (upd (upd H dx (.own y)) y (.ins C dx [])) G' H' (true :: mu) (d :: ms) (.ref y :: vs) (consFp y (argFp fpf as)) fp' → Bck X.K G H G' H' mu ms vs (argFp fpf as) (fun k => fp' (k + 1)) := fun {G' H' d ms fp'} B => by
          refine ⟨Nat.succ.inj B.lm, fun i hi => ?_, fun i j hi hj n => B.sep (i + 1) (j + 1) (by simpa using hi) (by simpa using hj) (fun z => n (Nat.succ.inj z)), B.gg, B.gh, fun a o e => (B.new a o e).imp id back, fun b u e nl nt => B.keep b u (s2 b u e) (fun ⟨i, hi, hb⟩ => ?_) nt, fun b u e nt => B.live b u (s2 b u e) nt, B.ng, B.tab⟩
          · obtain ⟨d', a, e1, e2, e3, e4, e5⟩ := B.ow (i + 1) (by simpa using hi)
            exact ⟨d', a, by simpa using e1, by simpa using e2, e3, e4, fun b hb => ⟨(e5 b hb).1, (e5 b hb).2.imp id back⟩⟩
          · cases i with
            | zero =>
              rw [show consFp y (argFp fpf as) 0 = [y] from rfl, List.mem_singleton] at hb
              rw [hb, hy] at e; cases e
            | succ i => exact nl ⟨i, by simpa using hi, hb⟩
        dsimp only at A
        revert A
        cases fn (.obj C [] :: ds) with
        | stuck => exact fun A => A.elim
        | err x ms =>
          cases ms with
          | nil => exact fun A => A.elim
          | cons d ms => exact fun A a fv H' G' fp' B nx e1 e2 e3 => A a fv H' G' _ (tb B).gg (S.called r nd gt (tb B)).1 (called_newx S r nd gt (tb B) ⟨nx.1, back nx.2.1, fun ⟨i, hi, hb⟩ => nx.2.2 ⟨i + 1, by simpa using hi, hb⟩⟩) e1 e2 e3
        | ok fr d0 ms =>
          cases fr with
          | true => exact fun A => A.elim
          | false =>
            cases d0 with
            | non =>
              cases ms with
              | nil => exact fun A => A.elim
              | cons d ms =>
                intro A v H' G' fp' B rv
                cases rv
                refine ⟨rfl, A _ H' G' _ nq (tb B).gg (S.called r nd gt (tb B)).1 ?_⟩
                obtain ⟨d', a, e1, e2, e3, e4, e5⟩ := B.ow 0 rfl
                simp at e1 e2
                subst e1 e2
                have nb : ∀ b ∈ fp' 0, noTb (H b) = none := fun b hb => by
                  rcases (e5 b hb).2 with z | z
                  · rw [show consFp y (argFp fpf as) 0 = [y] from rfl, List.mem_singleton] at z
                    rw [z]; exact noTb_none hy
                  · exact back z
                exact ⟨⟨y, fp' 0, rfl, e3, e4, fun b hb => ⟨(e5 b hb).1, ⟨S.fresh' (nb b hb), S.freshP' (nb b hb)⟩, (S.called r nd gt (tb B)).2 b (nb b hb) fun ⟨i, hi, hb'⟩ => B.sep 0 (i + 1) rfl (by simpa using hi) (by simp) b hb hb'⟩⟩⟩
            | _ => exact fun A => A.elim
  · rw [if_neg nd] at A; exact A.elim
theorem df_make (M : Mk X.K C f) (F0 : FnOk X.prog X.w X.K X.mg X.base (CX X.prog X.w) k f fd ps (spD X.K (true :: mu) fn)) (hr : Room (k + 1) X.A) (tk : Takes X W) (hg : Gl X x) (hm : X.mg x = some (.ref C)) (hb : Binds X.K fd ps ds) (hd : Vals dvs ds) (hD : ∀ G, RepA X.K G dD dvs)
    (ha : PA X (e :: es) (tAvs X.K F W q ma)) (hdb : (x == ("__debug__" : Str)) = false := by decide) (he : starEach (e :: es) X.env = (false, eval e X.env) :: starEach es X.env := by rfl) (hpl : (backTo pos (starEach es X.env)).any (·.1) = false := by rfl) :
    PE X (.Call (.Name x p) (e :: es) [] pos) (tM X.K F W false (RFr X.K F) (makeF C mu fn dD ma)) :=
  PE_mono (pm_make (E := WE W) M F0 hr hg hm hb hd (fun σ => passAt tk σ) ha hdb he hpl) fun σ H Q h => bind_of (q2 := false) (R1 := fun G _ _ _ a v => AvA X.K G σ a v) nq h fun as st1 G1 fpf1 vs H1 S1 r1 A1 y dx hy hdx ne =>
    mkQ_at S1 (AvA.append r1 (AvA.of_rep (hD G1))) A1 y dx hy hdx ne
end
end DL
set_option maxHeartbeats 1000000
namespace PySem.W
open PySem PySem.Calls PyProof.Rows Builtin
section
variable {prog : Program} {w : World} {A : Around} {E : Value → Shared → Prop} {s : Shared} {K : Frag} {x C f : Addr} {ox : Obj} {od : Option Obj} {b tb : Value}
/-- object.__ne__ bound and called -/
theorem dl_ne_body {Q : Fin → Shared → Prop} (hu : A.units < cLine) (X : K.In s.heap) (I : InstAt s.heap x ox C od) (hs : findIn K (.ref C) "__eq__" = some (some (.ref f))) (hf : isFn K (.ref f) = true)
    (h : wpAny (model prog w) A (call (.ref f) [.ref x, b]) (fun v s' => ∃ k, v = .bool k ∧ Q (.done (.ret (.bool (!k)))) s') E s) :
    wpAny (model prog w) A (Builtin.«object.__ne__» ⟨[.ref x, b], []⟩) Q E s := by
  unfold Builtin.«object.__ne__»
  repeat (first
    | with_reducible refine wpAny_cRoomFor hu ?_
    | (refine wpAny_bind (m := callSpecialIfBound? (.ref x) (Str.ofString "__eq__") [b]) (ifBound_K X I hs hf (wpAny_mono h (fun v s' hv => ?_) fun _ _ e => e)))
    | wp_step)
  obtain ⟨k, rfl, hq⟩ := hv
  first
    | exact hq
    | exact wpAny_pure hq
    | exact wpAny_bind (wpAny_truthy_bool (wpAny_pure hq))
    | exact wpAny_bind (wpAny_truthy_bool (by wp_walk; exact hq))
theorem dl_ne {Q : Value → Shared → Prop} (hu : A.units + 1 < cLine) (X : K.In s.heap) (I : InstAt s.heap x ox C od) (hb : Looks (model prog w) s.heap (typeOf b) tb) (hn : notFirst K C tb = true)
    (hne : findIn K (.ref C) "__ne__" = some (some (.builtin "object.__ne__"))) (hs : findIn K (.ref C) "__eq__" = some (some (.ref f))) (hf : isFn K (.ref f) = true) (hm : mroIn K C (.type "object") = some true)
    (h : wpAny (model prog w) A.in1 (call (.ref f) [.ref x, b]) (fun v s' => ∃ k, v = .bool k ∧ Q (.bool (!k)) s') E s) :
    wpAny (model prog w) A (richCompare .NotEq (.ref x) b) Q E s := by
  have one : wpAny (model prog w) A (tryCompare (.ref x) "__ne__" b) (fun r s' => ∃ v, r = some v ∧ Q v s') E s := by
    unfold tryCompare
    refine wpAny_bind ?_
    simp only [callSpecialIfBound?, bindSpecialIfBound?]
    refine wpAny_holding (wpAny_bind (wpAny_bind (wpAny_bind (I.type.here ((looks_findIn X hne).here ?_)))))
    have sl : Slot "object" "__ne__" "object.__ne__" := F.cmp_object.ne
    have body : wpAny (model prog w) A (call (.builtin "object.__ne__") ([.ref x] ++ [b]) >>= fun v => pure (some v)) (fun a s => wpAny (model prog w) A (match a with
        | some .notImplemented | none => pure none
        | some v => pure (some v)) (fun r s' => ∃ v, r = some v ∧ Q v s') E s) E s := by
      refine wpAny_bind (wpAny_call (codeAny_call_builtin sl.plain F.cmpEntry_ne (check_slot F.cmpKind_ne F.cmpSplit_ne (I.type.andThen (looks_mroIn X hm)) (F.cmpArgs_ne _ _) (dl_ne_body (A := A.in1) hu X I hs hf (wpAny_mono h (fun v s' hv => ?_) fun _ _ e => e)))))
      obtain ⟨k, rfl, hq⟩ := hv
      exact ⟨k, rfl, wpAny_pure (wpAny_pure ⟨_, rfl, hq⟩)⟩
    refine wpAny_bind (wpAny_askSetting (wpAny_ite ?_))
    rw [sl.bind]
    split
    · exact wpAny_pure body
    · exact wpAny_tryCatch (wpAny_pure body)
  unfold richCompare
  simp only [oneThing_ref]
  refine wpAny_holding (wpAny_bind (wpAny_cRoomFor (Nat.lt_of_succ_lt hu) ?_))
  refine wpAny_bind (I.type.here (wpAny_bind (hb.here ?_)))
  have fin : ∀ {r : Option Value} {s' : Shared} {t : Sem Value}, (∃ v, r = some v ∧ Q v s') → wpAny (model prog w) A (match r with
      | some v => pure v
      | none => t) Q E s' := fun {r s' t} z => by
    obtain ⟨v, rfl, hq⟩ := z
    exact wpAny_pure hq
  split
  · rename_i q
    have e : subIn K tb (.ref C) = some false := (Bool.or_eq_true_iff.mp hn).elim (fun e => by rw [beq_iff_eq.mp e] at q; simp at q) fun e => beq_iff_eq.mp e
    refine wpAny_bind ((looks_subIn X e).here ?_)
    simp only [Bool.false_eq_true, if_false]
    exact wpAny_bind (wpAny_mono one (fun r s' z => by obtain ⟨v, rfl, hq⟩ := z; exact wpAny_pure hq) fun _ _ e => e)
  · refine wpAny_bind (wpAny_pure ?_)
    simp only [Bool.false_eq_true, if_false]
    exact wpAny_bind (wpAny_mono one (fun r s' z => by obtain ⟨v, rfl, hq⟩ := z; exact wpAny_pure hq) fun _ _ e => e)
end
end PySem.W
namespace DL
variable [TB] [LC]
open PySem L2
/-! ### kinds, isinstance -/
inductive Kd where
  | non | bl | int | str | lst | tup | dct | obj (C : Addr)
inductive Bt where
  | int | str | list | tuple | dict | bool
def Bt.name : Bt → String
  | .int => "int" | .str => "str" | .list => "list" | .tuple => "tuple" | .dict => "dict" | .bool => "bool"
def Kd.ty : Kd → Value
  | .non => .type "NoneType" | .bl => .type "bool" | .int => .type "int" | .str => .type "str" | .lst => .type "list" | .tup => .type "tuple" | .dct => .type "dict" | .obj C => .ref C
def kindD : D → Option Kd
  | .non => some .non | .bl _ => some .bl | .int _ => some .int | .str _ => some .str | .lst _ => some .lst | .kl _ => some .lst | .tup _ => some .tup | .dK _ => some .dct | .obj C _ => some (.obj C) | _ => none
def isK : Bt → Kd → Bool
  | .int, .int => true | .int, .bl => true | .bool, .bl => true | .str, .str => true | .list, .lst => true | .tuple, .tup => true | .dict, .dct => true | _, _ => false
structure InsT (K : PySem.W.Frag) (C : Addr) : Prop where
  cl : Cls K C
  ha : PySem.W.findIn K (.ref C) "__class__" = some (some (.builtin "object.__class__"))
  hn : PySem.W.specialIn K (.builtin "object.__class__") "__get__" = some (some (.builtin "getset_descriptor.__get__"))
  htk : PySem.W.takesIn K (.builtin "object.__class__") = some true
  hm : PySem.W.mroIn K C (.type "object") = some true
  kit : ∀ b : Bt, PySem.W.kitOne K (.ref C) (.type b.name) = some false
def kindIn (Cs : List Addr) (d : D) : Option Kd := match kindD d with
  | some (.obj C) => if C ∈ Cs then some (.obj C) else none
  | k => k
def isB (Cs : List Addr) (b : Bt) (d : D) : Option D := (kindIn Cs d).map fun k => .bl (isK b k)
def isOb (C : Addr) : Kd → Bool
  | .obj C' => C' == C
  | _ => false
def isO (Cs : List Addr) (C : Addr) (d : D) : Option D := (kindIn Cs d).map fun k => .bl (isOb C k)
section
variable {K : PySem.W.Frag} {G H : Hp} {v : V} {d : D} {k : Kd} {Cs : List Addr}
theorem kind_ty (g : Same G H) (hC : ∀ C ∈ Cs, InsT K C) (e : kindIn Cs d = some k) (r : Rp K G H d v) : TyX K H v k.ty := by
  unfold kindIn kindD at e
  cases d with
  | non => cases e; rw [r.non]; exact .base .non
  | bl b => cases e; rw [r.bl]; exact .base (.bl _)
  | int i => cases e; rw [r.int]; exact .base (.int _)
  | str x => cases e; rw [r.str]; exact .base (.str _)
  | lst xs =>
    cases e
    obtain ⟨a, vs, rfl, ha, _⟩ := r.lst g
    exact .base (.lst ha)
  | kl xs =>
    cases e
    obtain ⟨a, vs, rfl, ha, _⟩ := r.kl g
    rcases ha with (ha | ⟨o, ha⟩) | ⟨o, its, n, e, hc, _⟩
    · exact .base (.lst ha)
    · exact .base (.frz ha)
    · exact .kList e hc
  | tup xs =>
    cases e
    obtain ⟨a, vs, rfl, ha, _⟩ := r.tup g
    rcases ha with (ha | ⟨o, ha⟩) | ⟨o, its, n, e, hc, _⟩
    · exact .base (.tup ha)
    · exact .fTuple ha
    · exact .kTuple e hc
  | dK kv =>
    cases e
    obtain ⟨a, vs, rfl, ha, _⟩ := r.dK g
    rcases ha with ha | ⟨o, ha⟩
    · exact .base (.dK ha)
    · exact .fDict ha
  | obj C fs =>
    dsimp only at e
    by_cases c : C ∈ Cs
    · rw [if_pos c] at e
      cases e
      obtain ⟨a, dx, fv, rfl, ha, _⟩ := r.obj g
      have t := hC C c
      exact .base (.ins ha t.cl t.ha t.hn t.htk t.hm)
    · rw [if_neg c] at e; cases e
  | _ => cases e
theorem kind_mem {C : Addr} (e : kindIn Cs d = some (.obj C)) : C ∈ Cs := by
  unfold kindIn at e
  split at e
  · rename_i C' h
    by_cases c : C' ∈ Cs
    · rw [if_pos c] at e; cases e; exact c
    · rw [if_neg c] at e; cases e
  · rename_i h
    exact absurd e (h C)
theorem kit_k (hC : ∀ C ∈ Cs, InsT K C) (e : kindIn Cs d = some k) (b : Bt) : PySem.W.kitOne K k.ty (.type b.name) = some (isK b k) := by
  cases k with
  | obj C =>
    rw [show Kd.ty (.obj C) = .ref C from rfl, (hC C (kind_mem e)).kit b]
    cases b <;> rfl
  | _ => cases b <;> exact kit_ty (by decide +kernel)
/-- a class of one's own, asked for -/
structure AskT (K : PySem.W.Frag) (Cs : List Addr) (C : Addr) : Prop where
  isC : ((PySem.W.clsIn K C).isSome && PySem.W.typeIn K (.ref C) == some (.type "type")) = true
  no : ∀ C' ∈ Cs, C' ≠ C → PySem.W.kitOne K (.ref C') (.ref C) = some false
theorem mro_ref (k : Kd) (C : Addr) : (∃ C', k = .obj C') ∨ ∃ T, k.ty = .type T ∧ (PySem.fastBuiltinMro T).map (·.contains (Value.ref C)) = some false := by
  cases k with
  | obj C' => exact .inl ⟨C', rfl⟩
  | non => exact .inr ⟨_, rfl, by rw [show PySem.fastBuiltinMro "NoneType" = some [.type "NoneType", .type "object"] by kernel_rfl]; rfl⟩
  | bl => exact .inr ⟨_, rfl, by rw [show PySem.fastBuiltinMro "bool" = some [.type "bool", .type "int", .type "object"] by kernel_rfl]; rfl⟩
  | int => exact .inr ⟨_, rfl, by rw [show PySem.fastBuiltinMro "int" = some [.type "int", .type "object"] by kernel_rfl]; rfl⟩
  | str => exact .inr ⟨_, rfl, by rw [show PySem.fastBuiltinMro "str" = some [.type "str", .type "object"] by kernel_rfl]; rfl⟩
  | lst => exact .inr ⟨_, rfl, by rw [show PySem.fastBuiltinMro "list" = some [.type "list", .type "object"] by kernel_rfl]; rfl⟩
  | tup => exact .inr ⟨_, rfl, by rw [show PySem.fastBuiltinMro "tuple" = some [.type "tuple", .type "object"] by kernel_rfl]; rfl⟩
  | dct => exact .inr ⟨_, rfl, by rw [show PySem.fastBuiltinMro "dict" = some [.type "dict", .type "object"] by kernel_rfl]; rfl⟩
theorem kit_ref {T : String} {C : Addr} (h : (PySem.fastBuiltinMro T).map (·.contains (Value.ref C)) = some false) {K : PySem.W.Frag} (isC : ((PySem.W.clsIn K C).isSome && PySem.W.typeIn K (.ref C) == some (.type "type")) = true) : PySem.W.kitOne K (.type T) (.ref C) = some false := by
  unfold PySem.W.kitOne
  rw [if_neg (by simp)]
  unfold PySem.W.kitCls
  dsimp only
  rw [if_pos isC]
  exact h
theorem kit_o {C : Addr} (hA : AskT K Cs C) (e : kindIn Cs d = some k) : PySem.W.kitOne K k.ty (.ref C) = some (isOb C k) := by
  rcases mro_ref k C with ⟨C', rfl⟩ | ⟨T, h1, h2⟩
  · by_cases c : C' = C
    · subst c
      show PySem.W.kitOne K (.ref C') (.ref C') = some (C' == C')
      unfold PySem.W.kitOne
      rw [if_pos (by simp)]
      simp
    · show PySem.W.kitOne K (.ref C') (.ref C) = some (C' == C)
      rw [hA.no C' (kind_mem e) c]
      simpa using c
  · rw [h1, kit_ref h2 hA.isC]
    cases k <;> first | rfl | cases h1
end
section
variable {X : Cx} {F : Fr} {W : WX} {q : Bool} {Cs : List Addr} {C : Addr} {e : Expr} {x y : Str} {pos p p2 : Pos} {m : M D}
theorem de_isB (b : Bt) (hC : ∀ C ∈ Cs, InsT X.K C) (he : PE X e (tM X.K F W q (RPk X.K) m)) (hg : Gl X "isinstance") (hm : X.mg "isinstance" = none) (hg2 : Gl X y) (hm2 : X.mg y = none) (hv2 : bootBuiltins y = some (.type b.name) := by decide +kernel) (hn2 : y ≠ "__name__" := by decide) (hd2 : (y == ("__debug__" : Str)) = false := by decide)
    (hb1 : starEach [.Name y p2] X.env = (false, eval (.Name y p2) X.env) :: starEach [] X.env := by rfl) (hs : starEach [e, .Name y p2] X.env = (false, eval e X.env) :: starEach [.Name y p2] X.env := by rfl) (hpl : (backTo pos (starEach [.Name y p2] X.env)).any (·.1) = false := by rfl) :
    PE X (.Call (.Name "isinstance" p) [e, .Name y p2] [] pos) (tM X.K F W q (RSh X.K) (unM (isB Cs b) m)) :=
  PE_mono (pe_callB call_isi hg hm (by decide +kernel) (pa_cons he (pa_cons (pe_bltn (v := .ty b.name) hg2 hm2 hv2 rfl hn2 hd2) pa_nil hb1) hs) (by decide) (by decide) hs hpl) fun σ H Q h => bind_of (q2 := true) (R1 := RPk X.K) (fun z => ⟨z, rfl⟩) h fun d st1 G1 fpf1 v H1 S1 r1 A1 => by
    unfold lift isB at A1
    cases w : kindIn Cs d with
    | none => rw [w] at A1; exact A1.elim
    | some k =>
      rw [w] at A1
      exact ⟨v, .ty b.name, k.ty, .type b.name, isK b k, rfl, .ty _, kind_ty S1.gh hC w r1, kit_k hC w b, A1.done S1 (Rep.bl _)⟩
theorem de_isO (hC : ∀ C ∈ Cs, InsT X.K C) (hA : AskT X.K Cs C) (he : PE X e (tM X.K F W q (RPk X.K) m)) (hg : Gl X "isinstance") (hm : X.mg "isinstance" = none) (hg2 : Gl X y) (hm2 : X.mg y = some (.ref C)) (hd2 : (y == ("__debug__" : Str)) = false := by decide)
    (hb1 : starEach [.Name y p2] X.env = (false, eval (.Name y p2) X.env) :: starEach [] X.env := by rfl) (hs : starEach [e, .Name y p2] X.env = (false, eval e X.env) :: starEach [.Name y p2] X.env := by rfl) (hpl : (backTo pos (starEach [.Name y p2] X.env)).any (·.1) = false := by rfl) :
    PE X (.Call (.Name "isinstance" p) [e, .Name y p2] [] pos) (tM X.K F W q (RSh X.K) (unM (isO Cs C) m)) :=
  PE_mono (pe_callB call_isi hg hm (by decide +kernel) (pa_cons he (pa_cons (pe_glob (v := .ref C) hg2 hm2 rfl hd2) pa_nil hb1) hs) (by decide) (by decide) hs hpl) fun σ H Q h => bind_of (q2 := true) (R1 := RPk X.K) (fun z => ⟨z, rfl⟩) h fun d st1 G1 fpf1 v H1 S1 r1 A1 => by
    unfold lift isO at A1
    cases w : kindIn Cs d with
    | none => rw [w] at A1; exact A1.elim
    | some k =>
      rw [w] at A1
      exact ⟨v, .ref C, k.ty, .ref C, isOb C k, rfl, .own _, kind_ty S1.gh hC w r1, kit_o hA w, A1.done S1 (Rep.bl _)⟩
end
/-! ### == and != by an own __eq__, repr by an own __repr__ -/
structure EqT (K : PySem.W.Frag) (Cs : List Addr) (C f : Addr) : Prop where
  eq : PySem.W.findIn K (.ref C) "__eq__" = some (some (.ref f))
  fn : PySem.W.isFn K (.ref f) = true
  nf : ∀ C' ∈ C :: Cs, PySem.W.notFirst K C (.ref C') = true
theorem nf_kind {K : PySem.W.Frag} {Cs : List Addr} {C f : Addr} {d : D} {k : Kd} (t : EqT K Cs C f) (e : kindIn Cs d = some k) : PySem.W.notFirst K C k.ty = true := by
  rcases mro_ref k C with ⟨C', rfl⟩ | ⟨T, h1, h2⟩
  · exact t.nf C' (List.mem_cons_of_mem _ (kind_mem e))
  · rw [h1]
    unfold PySem.W.notFirst
    rw [show PySem.W.subIn K (.type T) (.ref C) = some false from h2]
    simp
def rOwn2 (K : PySem.W.Frag) (C : Addr) (sp : Sp) (g : Bool → Bool) : R2 := fun x y H Q => ∃ a dx fs t, x = .ref a ∧ H a = some (.ins C dx fs) ∧ TyX K H y t ∧ PySem.W.notFirst K C t = true ∧ sp [x, y] H (fun v H' => ∃ k, v = .bl k ∧ Q (.bl (g k)) H') E0
section
variable {X : Cx} {Cs : List Addr} {C f : Addr} {k : Nat} {fd : FuncData} {ps : List Str} {sp : Sp}
/-- a def without exceptions, in a room further in -/
theorem run0 {pins : List (Addr × Obj)} {σ : St} {H : Hp} {s : Shared} {Q : VK} {us : List Value} {vs : List V} {A : Around} (F0 : FnOk X.prog X.w X.K X.mg X.base (CX X.prog X.w) k f fd ps sp) (hr : Room k A) (hA : A.frames = X.A.frames) (hb : Binds X.K fd ps []) (I : Inv X pins σ H s) (r : Vals vs us) (h : sp vs H Q E0) :
    wpAny (model X.prog X.w) A (call (.ref f) us) (EP X pins σ Q) X.xe s := by
  have e := I.env0
  have F := F0.raw hb (dvs := []) .nil
  refine wpAny_call (codeAny_mono (F A X.stack s H us vs Q E0 hr ⟨hA.trans e.frames, e.mod, e.bs, e.bsz, e.funs, e.frf, e.hok, e.bare⟩ r (by show sp (vs ++ []) H Q E0; rw [List.append_nil]; exact h)) fun r s' z => ?_)
  match r, z with
  | .error e, z => exact False.elim (passL (X := X.nox) pins σ H s e s' (I.wish _) z)
  | .ok (.ret u), z => exact I.after z
  | .ok .next, z => exact z.elim
  | .ok .brk, z => exact z.elim
  | .ok .cont, z => exact z.elim
theorem op_eqO (t : EqT X.K Cs C f) (F0 : FnOk X.prog X.w X.K X.mg X.base (CX X.prog X.w) k f fd ps sp) (hr : Room (k + 1) X.A) (hb : Binds X.K fd ps []) : OpR X (compareOp .Eq) (rOwn2 X.K C sp id) := by
  intro pins s σ H x y u v Q I rx ry h
  obtain ⟨a, dx, fs, ty, rfl, ha, hy, hn, h⟩ := h
  cases (show u = Value.ref a from rx)
  obtain ⟨P, Z, p, _⟩ := kit_of I ry hy
  obtain ⟨mA, O, _⟩ := ins_get I.hok ha
  obtain ⟨od, J, _⟩ := O.look
  obtain ⟨m, hF⟩ := I.fr
  show wpAny _ _ (richCompare .Eq (.ref a) v) _ _ s
  refine PySem.W.cmp_K (op := .Eq) hr.units0 hF I.ok.mod.kin J (Z.ty _ _ I.kIn p) hn t.eq t.fn ?_
  refine wpAny_mono (run0 F0 (hr.mono (Nat.le_succ k)) rfl hb I (us := [.ref a, v]) (vs := [.ref a, y]) (.cons rfl (.cons ry .nil)) h) (fun w s' z => ?_) fun _ _ z => z
  obtain ⟨v', H', I', rv, k', ev, q⟩ := z
  cases ev
  cases (show w = Value.bool k' from rv)
  exact ⟨.bl k', H', I', rfl, q⟩
theorem op_neO (t : EqT X.K Cs C f) (hne : PySem.W.findIn X.K (.ref C) "__ne__" = some (some (.builtin "object.__ne__"))) (hm : PySem.W.mroIn X.K C (.type "object") = some true) (F0 : FnOk X.prog X.w X.K X.mg X.base (CX X.prog X.w) k f fd ps sp) (hr : Room (k + 1) X.A) (hb : Binds X.K fd ps []) :
    OpR X (compareOp .NotEq) (rOwn2 X.K C sp not) := by
  intro pins s σ H x y u v Q I rx ry h
  obtain ⟨a, dx, fs, ty, rfl, ha, hy, hn, h⟩ := h
  cases (show u = Value.ref a from rx)
  obtain ⟨P, Z, p, _⟩ := kit_of I ry hy
  obtain ⟨mA, O, _⟩ := ins_get I.hok ha
  obtain ⟨od, J, _⟩ := O.look
  show wpAny _ _ (richCompare .NotEq (.ref a) v) _ _ s
  refine PySem.W.dl_ne (by have := hr.units; omega) I.kIn J (Z.ty _ _ I.kIn p) hn hne t.eq t.fn hm ?_
  refine wpAny_mono (run0 F0 hr.in1 rfl hb I (us := [.ref a, v]) (vs := [.ref a, y]) (.cons rfl (.cons ry .nil)) h) (fun w s' z => ?_) fun _ _ z => z
  obtain ⟨v', H', I', rv, k', ev, q⟩ := z
  cases ev
  cases (show w = Value.bool k' from rv)
  exact ⟨k', rfl, .bl (!k'), H', I', rfl, q⟩
end
/-- x == y, x != y: the left one of the class C -/
def kindAt (Cs : List Addr) (a : AV) : M Unit := fun st => match a with
  | .d d => match kindIn Cs d with
    | some _ => .ok () st
    | none => .stuck
  | .m i => match st[i]? with
    | some (some (Slot.ow _ d)) => match kindIn Cs d with
      | some _ => .ok () st
      | none => .stuck
    | _ => .stuck
def cmpO (neg : Bool) (Cs : List Addr) (C : Addr) (mu : List Bool) (fn : FD) (ma mb : M AV) : M D :=
  bnd ma fun a => bnd mb fun b => bnd (chkO C Str.empty a) fun _ => bnd (kindAt Cs b) fun _ => bnd (noErr (callQ mu fn [a, b])) fun r => match r with
    | .bl k => ret (.bl (neg != k))
    | _ => stuckM
def reprO (C : Addr) (mu : List Bool) (fn : FD) (ma : M AV) : M D :=
  bnd ma fun a => bnd (chkO C Str.empty a) fun _ => bnd (noErr (callQ mu fn [a])) fun r => match r with
    | .str k => ret (.str k)
    | _ => stuckM
section
variable {X : Cx} {F : Fr} {W : WX} {q1 q2 : Bool} {Cs : List Addr} {C f : Addr} {k : Nat} {fd : FuncData} {ps : List Str} {mu : List Bool} {fn : FD} {a b e : Expr} {ma mb : M AV} {pos p : Pos}
theorem kindAt_of {K : PySem.W.Frag} {α ρ : Type} {q : Bool} {R : Rl α ρ} {a : AV} {v : V} {m : M α} {st : DSt} {G H : Hp} {fpf : Nat → List Addr} {σ : St} {Q : ρ → Hp → Prop} (hC : ∀ C ∈ Cs, InsT K C)
    (S : Sync K F G fpf σ H st) (r : AvR K G σ a v) (A : At K F W q R (bnd (kindAt Cs a) (fun _ => m) st) st G fpf σ H Q) :
    (∃ d k, kindIn Cs d = some k ∧ TyX K H v k.ty) ∧ At K F W q R (m st) st G fpf σ H Q := by
  unfold bnd kindAt at A
  cases a with
  | d d =>
    dsimp only at A
    cases e : kindIn Cs d with
    | none => rw [e] at A; exact A.elim
    | some k => rw [e] at A; exact ⟨⟨d, k, e, kind_ty S.gh hC e (.rep r)⟩, A⟩
  | m i =>
    dsimp only at A
    cases h : st[i]? with
    | none => rw [h] at A; exact A.elim
    | some s =>
      cases s with
      | none => rw [h] at A; exact A.elim
      | some s =>
        cases s with
        | sh d => rw [h] at A; exact A.elim
        | ow mu d =>
          rw [h] at A
          dsimp only at A
          obtain ⟨c, e1, ow, _⟩ := S.ow i mu d h
          have r' : σ[i]? = some (some v) := r
          rw [e1] at r'
          cases r'
          cases e : kindIn Cs d with
          | none => rw [e] at A; exact A.elim
          | some k => rw [e] at A; exact ⟨⟨d, k, e, kind_ty S.gh hC e (.own ow)⟩, A⟩
theorem cmp_at {K : PySem.W.Frag} {neg : Bool} {σ : St} {H : Hp} {Q : VK} (hC : ∀ C ∈ Cs, InsT K C) (t : EqT K Cs C f) (h : tM K F W false (RSh K) (cmpO neg Cs C mu fn ma mb) σ H Q) :
    tOp (rOwn2 K C (spD K mu fn) fun k => neg != k) (tAv K F W q1 ma) (tAv K F W q2 mb) σ H Q := by
  refine bind_of (q2 := false) (R1 := fun G _ _ _ a v => AvR K G σ a v) nq h fun a st1 G1 fpf1 v H1 S1 r1 A1 => ?_
  refine ⟨st1, G1, fpf1, S1, A1.bndK (q1 := q2) (q2 := false) (R1 := fun G _ _ _ a v => AvR K G σ a v) nq fun b st2 G2 fpf2 u H2 g2 S2 z2 e2 r2 A2 => ?_⟩
  obtain ⟨⟨p, dx, fv, rfl, h1, _⟩, A3⟩ := chk_of S2 (r1.mono g2) A2
  obtain ⟨⟨d, k, hk, ty⟩, A4⟩ := kindAt_of hC S2 r2 A3
  refine ⟨p, dx, fv, k.ty, rfl, h1, ty, nf_kind t hk, ?_⟩
  refine callQ_at (F := F) (W := fun _ _ _ _ => False) (σ := σ) S2 (AvA.cons (r1.mono g2) (AvA.cons r2 .nil)) ?_
  refine noErr_at (W := W) (A4.bndK (q1 := false) (q2 := false) (R1 := RSh K) nq fun r st3 G3 fpf3 w H3 g3 S3 z3 e3 r3 A5 => ?_)
  cases r with
  | bl k => exact ⟨k, (Rp.rep (H := H3) r3).bl, A5.done S3 (Rep.bl _)⟩
  | _ => exact A5.elim
theorem dt_eqO (hC : ∀ C ∈ Cs, InsT X.K C) (t : EqT X.K Cs C f) (F0 : FnOk X.prog X.w X.K X.mg X.base (CX X.prog X.w) k f fd ps (spD X.K mu fn)) (hr : Room (k + 1) X.A) (hb : Binds X.K fd ps []) (ha : PE X a (tAv X.K F W q1 ma)) (hb' : PE X b (tAv X.K F W q2 mb)) (hm : behindInMarks .Eq b = false := by rfl) :
    PT X (.Compare a [.Eq] [b] pos) (tM X.K F W false REq (testM (cmpO false Cs C mu fn ma mb))) :=
  PT_mono (pt_cmpR (op_eqO t F0 hr hb) ha hb' hm) fun σ H Q h => by rw [show (id : Bool → Bool) = fun k => false != k by funext k; cases k <;> rfl]; exact cmp_at (neg := false) hC t (test_of h)
theorem dt_neO (hC : ∀ C ∈ Cs, InsT X.K C) (t : EqT X.K Cs C f) (hne : PySem.W.findIn X.K (.ref C) "__ne__" = some (some (.builtin "object.__ne__"))) (hmo : PySem.W.mroIn X.K C (.type "object") = some true) (F0 : FnOk X.prog X.w X.K X.mg X.base (CX X.prog X.w) k f fd ps (spD X.K mu fn)) (hr : Room (k + 1) X.A) (hb : Binds X.K fd ps []) (ha : PE X a (tAv X.K F W q1 ma)) (hb' : PE X b (tAv X.K F W q2 mb)) (hm : behindInMarks .NotEq b = false := by rfl) :
    PT X (.Compare a [.NotEq] [b] pos) (tM X.K F W false REq (testM (cmpO true Cs C mu fn ma mb))) :=
  PT_mono (pt_cmpR (op_neO t hne hmo F0 hr hb) ha hb' hm) fun σ H Q h => by rw [show not = fun k => true != k by funext k; cases k <;> rfl]; exact cmp_at (neg := true) hC t (test_of h)
end
end DL
namespace DL
variable [TB] [LC]
open PySem L2
/-! ### a text walked; chained comparisons; join; f-strings -/
theorem itr_str {K : PySem.W.Frag} {G : Hp} {x : Str} : ItR K (Its x) G (strD x) := fun G2 H2 g1 g2 i => by
  refine ⟨fun d hd => ?_, fun hn => ?_⟩
  · unfold strD at hd
    rw [List.getElem?_map, Option.map_eq_some_iff] at hd
    obtain ⟨c, hc, rfl⟩ := hd
    have hc' : x.cps[i]? = some c := by rw [← Array.getElem?_toList]; exact hc
    refine ⟨(Array.getElem?_eq_some_iff.mp hc').1, fun v H3 y => ?_⟩
    obtain ⟨rfl, c', e, rfl⟩ := y
    rw [hc'] at e
    cases e
    exact .inl ⟨rfl, .str _⟩
  · have := List.getElem?_eq_none_iff.mp hn
    unfold strD at this
    rw [List.length_map, Array.length_toList] at this
    exact this
def strM' (m : M D) : M (List D) := bnd m fun d => match d with
  | .str x => ret (strD x)
  | _ => stuckM
theorem di_str {X : Cx} {F : Fr} {W : WX} {q : Bool} {tg e : Expr} {m : M D} (h : PE X e (tM X.K F W q (RSh X.K) m)) : PI X tg e (tI X.K F W (strM' m)) :=
  PI_mono (pi_str h) fun σ H R z => di_of (RR := RSh X.K) z fun d st1 G1 fpf1 v H1 S1 r1 A1 => by
    cases d with
    | str x => exact ⟨x, (Rp.rep (H := H1) r1).str, A1 _ H1 G1 fpf1 (Same.refl G1) S1 itr_str⟩
    | _ => exact A1.elim
def chainM (g g' : D → D → Option D) (ma mb mc : M D) : M D := bnd ma fun x => bnd mb fun y => bnd (lift (g x y)) fun z => match z with
  | .bl true => bnd mc fun w => lift (g' y w)
  | .bl false => ret (.bl false)
  | _ => stuckM
theorem chain_of {K : PySem.W.Frag} {F : Fr} {W : WX} {r r' : R2} {g g' : D → D → Option D} {ma mb mc : M D} {q1 q2 q3 : Bool} {σ : St} {H : Hp} {Q : VK} (hs : OpS0 K r g) (hs' : OpS0 K r' g') (h : tM K F W (q1 && (q2 && q3)) (RSh K) (chainM g g' ma mb mc) σ H Q) :
    tChain r r' (tM K F W q1 (RSh K) ma) (tM K F W q2 (RSh K) mb) (tM K F W q3 (RPk K) mc) σ H Q := by
  refine bind_of (q2 := q2 && q3) (R1 := RSh K) (fun z => Bool.and_eq_true_iff.mp z) h fun x st1 G1 fpf1 v H1 S1 r1 A1 => ?_
  refine ⟨st1, G1, fpf1, S1, A1.bndK (q1 := q2) (q2 := q3) (R1 := RSh K) (fun z => Bool.and_eq_true_iff.mp z) fun y st2 G2 fpf2 u H2 g2 S2 z2 e2 r2 A2 => ?_⟩
  unfold bnd lift at A2
  cases w : g x y with
  | none => rw [w] at A2; exact A2.elim
  | some z =>
    rw [w] at A2
    refine hs S2.gh (.rep (Rep.mono g2 r1)) (.rep r2) w fun zv rz => ?_
    cases z with
    | bl k =>
      refine ⟨k, (Rp.rep (H := H2) rz).bl, ?_⟩
      cases k with
      | false => rw [if_neg Bool.false_ne_true]; exact A2.done S2 (Rep.bl false)
      | true =>
        rw [if_pos rfl]
        refine ⟨st2, G2, fpf2, S2, At.bndK (q1 := q3) (q2 := true) (R1 := RPk K) (fun z => ⟨z, rfl⟩) A2 fun d st3 G3 fpf3 t H3 g3 S3 z3 e3 r3 A3 => ?_⟩
        unfold lift at A3
        cases w' : g' y d with
        | none => rw [w'] at A3; exact A3.elim
        | some z' => rw [w'] at A3; exact hs' S3.gh (.rep (Rep.mono g3 r2)) r3 w' fun v' k => A3.end0 S3 k
    | _ => exact A2.elim
section
variable {X : Cx} {F : Fr} {W : WX} {q q1 q2 q3 : Bool} {a b c e o : Expr} {op op' : CmpOp} {r r' : R2} {g g' : D → D → Option D} {ma mb mc m : M D} {pos p apos : Pos}
theorem dt_chain (ho : OpR X (compareOp op) r) (hs : OpS0 X.K r g) (ho' : OpR X (compareOp op') r') (hs' : OpS0 X.K r' g') (ha : PE X a (tM X.K F W q1 (RSh X.K) ma)) (hb : PE X b (tM X.K F W q2 (RSh X.K) mb)) (hc : PE X c (tM X.K F W q3 (RPk X.K) mc)) (hm : lastMarks [op, op'] [b, c] = false := by with_unfolding_all rfl) :
    PT X (.Compare a [op, op'] [b, c] pos) (tM X.K F W (q1 && (q2 && q3)) REq (testM (chainM g g' ma mb mc))) :=
  PT_mono (pt_chain ho ho' ha hb hc hm) fun _ _ _ h => chain_of hs hs' (test_of h)
theorem de_chain (ho : OpR X (compareOp op) r) (hs : OpS0 X.K r g) (ho' : OpR X (compareOp op') r') (hs' : OpS0 X.K r' g') (ha : PE X a (tM X.K F W q1 (RSh X.K) ma)) (hb : PE X b (tM X.K F W q2 (RSh X.K) mb)) (hc : PE X c (tM X.K F W q3 (RPk X.K) mc)) (hm : lastMarks [op, op'] [b, c] = false := by with_unfolding_all rfl) :
    PE X (.Compare a [op, op'] [b, c] pos) (tM X.K F W (q1 && (q2 && q3)) (RSh X.K) (chainM g g' ma mb mc)) :=
  PE_mono (pe_chain ho ho' ha hb hc hm) fun _ _ _ h => chain_of hs hs' h
end
def asStrs : List D → Option (List Str)
  | [] => some []
  | .str i :: ds => (asStrs ds).map (i :: ·)
  | _ => none
theorem asStrs_inv : ∀ {ds : List D} {ns : List Str}, asStrs ds = some ns → ds = ns.map .str
  | [], ns, h => by cases h; rfl
  | d :: ds, ns, h => by
    cases d <;> simp only [asStrs, reduceCtorEq] at h
    obtain ⟨ms, e, rfl⟩ := Option.map_eq_some_iff.mp h
    rw [asStrs_inv e]; rfl
def joinD (a : Str) : D → Option D
  | .lst ds => (asStrs ds).bind fun ys => if (ys.map (·.length)).sum + ys.length * a.length ≤ 16777216 then some (.str (Txt.join a ys)) else none
  | .tup ds => (asStrs ds).bind fun ys => if (ys.map (·.length)).sum + ys.length * a.length ≤ 16777216 then some (.str (Txt.join a ys)) else none
  | _ => none
/-- a text -/
def RStr : Rl Str V := fun _ _ _ _ a v => v = .str a
def asStrM (m : M D) : M Str := bnd m fun d => match d with
  | .str a => ret a
  | _ => stuckM
/-- a text or an int, as a text -/
def fmtM (m : M D) : M Str := bnd m fun d => match d with
  | .str a => if a.length ≤ 16777216 then ret a else stuckM
  | .int i => if i.natAbs.log2 < 1920 then ret (toString i : Str) else stuckM
  | _ => stuckM
def joinM (ma : M Str) (mb : M D) : M D := bnd ma fun a => bnd mb fun d => lift (joinD a d)
def fstrL : List (M Str) → Str → M D
  | [], acc => ret (.str acc)
  | m :: ms, acc => bnd m fun y => if (acc ++ y).length ≤ 16777216 then fstrL ms (acc ++ y) else stuckM
def fstrM (ms : List (M Str)) : M D := fstrL ms Str.empty
section
variable {X : Cx} {F : Fr} {W : WX} {q q1 q2 q3 : Bool} {a b c e o : Expr} {ma : M Str} {mb mc m : M D} {pos p apos cpos : Pos}
theorem dz_str (h : PE X e (tM X.K F W q (RSh X.K) m)) : PE X e (tM X.K F W q RStr (asStrM m)) := PE_mono h fun σ H Q z => bind_of (q2 := true) (R1 := RSh X.K) (fun y => ⟨y, rfl⟩) z fun d st1 G1 fpf1 v H1 S1 r1 A1 => by
  cases d with
  | str x => exact A1.done S1 (Rp.rep (H := H1) r1).str
  | _ => exact A1.elim
theorem de_join (ho : PE X o (tM X.K F W q1 RStr ma)) (he : PE X e (tM X.K F W q2 (RPk X.K) mb)) (hs : starEach [e] X.env = [(false, eval e X.env)] := by rfl) (hbase : attributeBase o "join" X.env (eval o X.env) = eval o X.env := by rfl) (hline : (apos.endLine == pos.line) = true := by rfl) :
    PE X (.Call (.Attribute o "join" apos) [e] [] pos) (tM X.K F W (q1 && q2) (RSh X.K) (joinM ma mb)) :=
  PE_mono (pe_join ho he hs hbase hline) fun σ H Q h => bind_of (q2 := q2) (R1 := RStr) (fun z => Bool.and_eq_true_iff.mp z) h fun a st1 G1 fpf1 v H1 S1 r1 A1 => by
    refine ⟨⟨a, r1⟩, st1, G1, fpf1, S1, A1.bndK (q1 := q2) (q2 := true) (R1 := RPk X.K) (fun z => ⟨z, rfl⟩) fun d st2 G2 fpf2 u H2 g2 S2 z2 e2 r2 A2 => ?_⟩
    unfold lift at A2
    cases w : joinD a d with
    | none => rw [w] at A2; exact A2.elim
    | some z =>
      rw [w] at A2
      unfold joinD at w
      split at w
      · obtain ⟨ys, e1, e2⟩ := Option.bind_eq_some_iff.mp w
        obtain ⟨cc, rfl⟩ := if_some e2
        obtain ⟨p, vs, rfl, hp, rp⟩ := r2.seqL S2.gh (.inl rfl)
        rw [asStrs_inv e1] at rp
        rw [rp.strs] at hp
        exact ⟨a, p, ys, r1, rfl, .inl hp, cc, A2.done S2 (Rep.str _)⟩
      · obtain ⟨ys, e1, e2⟩ := Option.bind_eq_some_iff.mp w
        obtain ⟨cc, rfl⟩ := if_some e2
        obtain ⟨p, vs, rfl, hp, rp⟩ := r2.tup S2.gh
        rw [asStrs_inv e1] at rp
        rw [rp.strs] at hp
        exact ⟨a, p, ys, r1, rfl, .inr hp, cc, A2.done S2 (Rep.str _)⟩
      · cases w
inductive DJ (X : Cx) (F : Fr) (W : WX) : List Expr → List (M Str) → Prop
  | nil : DJ X F W [] []
  | cons {e : Expr} {m : M Str} {es : List Expr} {ms : List (M Str)} (q : Bool) : PE X e (tM X.K F W q RStr m) → DJ X F W es ms → DJ X F W (e :: es) (m :: ms)
end
/-! ### writing to a list of one's own -/
/-- slot i holds a flat thing of one's own of which p is true -/
def flM (p : D → Bool) (i : Nat) : M Unit := fun st => match st[i]? with
  | some (some (Slot.ow _ d)) => if flatD d = true ∧ p d = true then .ok () st else .stuck
  | _ => .stuck
def wrM (p : D → Bool) (i : Nat) (g : D → List D → Option (D × D)) (ms : List (M D)) : M D := bnd (flM p i) fun _ => bnd (argsM ms) fun args st => match st[i]? with
  | some (some (Slot.ow mu d)) => if flatD d = true then (match g d args with
    | some (z, d') => .ok z (st.set i (some (Slot.ow mu d')))
    | none => .stuck) else .stuck
  | _ => .stuck
/-- r does g: an item, the thing as it is then -/
def WrS (K : PySem.W.Frag) (r : V → List V → Hp → VK → Prop) (g : D → List D → Option (D × D)) : Prop := ∀ {G H : Hp} {a : Addr} {o : HO} {d d' z : D} {ds : List D} {vs : List V} {Q : VK}, Same G H → H a = some o → OR K G o d → RepA K G ds vs → g d ds = some (z, d') →
  (∀ v o', Rep K G z v → OR K G o' d' → Q v (upd H a o')) → r (.ref a) vs H Q
def isLst : D → Bool
  | .lst _ => true
  | _ => false
def appD : D → List D → Option (D × D)
  | .lst xs, [y] => if xs.length < 16777216 then some (.non, .lst (xs ++ [y])) else none
  | _, _ => none
def popAtD : D → List D → Option (D × D)
  | .lst xs, [.int i] => if -9223372036854775808 ≤ i ∧ i < 9223372036854775808 then (seqIndex? i xs.length).bind fun k => (xs[k]?).map fun y => (y, .lst (xs.eraseIdx k)) else none
  | _, _ => none
def clrD : D → List D → Option (D × D)
  | .lst xs, [] => some (.non, .lst [])
  | _, _ => none
section
variable {K : PySem.W.Frag}
theorem s_app : WrS K rAppend appD := fun {G H a o d d' z ds vs Q} g ha r ra e q => by
  unfold appD at e
  split at e
  · rename_i xs y
    by_cases c : xs.length < 16777216
    · rw [if_pos c] at e
      cases e
      cases r with
      | lst rl =>
        cases ra with
        | cons ry rn =>
          cases rn
          exact ⟨a, _, _, rfl, rfl, ha, by rw [← rl.length, sizeLine_eq]; exact c, q _ _ .non (.lst (rl.append (.cons ry .nil)))⟩
    · rw [if_neg c] at e; cases e
  · cases e
theorem s_popAt : WrS K rPopAt popAtD := fun {G H a o d d' z ds vs Q} g ha r ra e q => by
  unfold popAtD at e
  split at e
  · rename_i xs i
    by_cases c : -9223372036854775808 ≤ i ∧ i < 9223372036854775808
    · rw [if_pos c] at e
      obtain ⟨k, hk, e⟩ := Option.bind_eq_some_iff.mp e
      obtain ⟨y, hy, e⟩ := Option.map_eq_some_iff.mp e
      cases e
      cases r with
      | lst rl =>
        cases ra with
        | cons ri rn =>
          cases rn
          cases ri
          obtain ⟨v, hv, rv⟩ := rl.get hy
          exact ⟨a, _, i, k, v, rfl, rfl, ha, c.1, c.2, by rw [← rl.length]; exact hk, hv, q _ _ rv (.lst (rl.eraseIdx k))⟩
    · rw [if_neg c] at e; cases e
  · cases e
theorem s_clr : WrS K rClear clrD := fun {G H a o d d' z ds vs Q} g ha r ra e q => by
  unfold clrD at e
  split at e
  · cases e
    cases r with
    | lst rl => cases ra; exact ⟨a, _, rfl, rfl, ha, q _ _ .non (.lst .nil)⟩
  · cases e
end
section
variable {X : Cx} {F : Fr} {W : WX} {q q1 q2 q3 : Bool} {e : Expr} {es : List Expr} {x : Str} {pos p apos cpos : Pos} {id T : String} {name : Str} {r : V → List V → Hp → VK → Prop} {g : D → List D → Option (D × D)} {ms : List (M D)} {P : D → Bool}
theorem fl_of {K : PySem.W.Frag} {α ρ : Type} {R : Rl α ρ} {i : Nat} {m : M α} {st : DSt} {G H : Hp} {fpf : Nat → List Addr} {σ : St} {Q : ρ → Hp → Prop} (S : Sync K F G fpf σ H st) (A : At K F W q R (bnd (flM P i) (fun _ => m) st) st G fpf σ H Q) :
    (∃ a o mu d, σ[i]? = some (some (.ref a)) ∧ H a = some o ∧ OR K G o d ∧ P d = true ∧ st[i]? = some (some (Slot.ow mu d))) ∧ At K F W q R (m st) st G fpf σ H Q := by
  unfold bnd flM at A
  cases h : st[i]? with
  | none => rw [h] at A; exact A.elim
  | some s =>
    cases s with
    | none => rw [h] at A; exact A.elim
    | some s =>
      cases s with
      | sh d => rw [h] at A; exact A.elim
      | ow mu d =>
        rw [h] at A
        dsimp only at A
        by_cases c : flatD d = true ∧ P d = true
        · rw [if_pos c] at A
          obtain ⟨a, e1, ow, _⟩ := S.ow i mu d h
          obtain ⟨o, ho, ro, _⟩ := ow.isFlat c.1
          exact ⟨⟨a, o, mu, d, e1, ho, ro, c.2, rfl⟩, A⟩
        · rw [if_neg c] at A; exact A.elim
theorem wr_at {K : PySem.W.Frag} {i : Nat} {σ : St} {H : Hp} {Q : VK} (hw : WrS K r g) (hT : ∀ (G H : Hp) (a : Addr) (o : HO) (d : D), H a = some o → OR K G o d → P d = true → tyV K T (.ref a) H) (h : tM K F W false (RSh K) (wrM P i g ms) σ H Q) :
    ∃ a, σ[i]? = some (some (.ref a)) ∧ tyV K T (.ref a) H ∧ tM K F W false (RLs K) (argsM ms) σ H fun vs H2 => r (.ref a) vs H2 Q := by
  obtain ⟨st, G, fpf, S, A⟩ := h
  obtain ⟨⟨a, o, mu, d, e1, ho, ro, hp, _⟩, A1⟩ := fl_of S A
  refine ⟨a, e1, hT G H a o d ho ro hp, st, G, fpf, S, A1.bndK (q1 := false) (q2 := false) (R1 := RLs K) nq fun ds st1 G1 fpf1 vs H1 g1 S1 z1 e2 r1 A2 => ?_⟩
  split at A2
  · rename_i mu d es
    by_cases c : flatD d = true
    · rw [if_pos c] at A2
      split at A2
      · rename_i z d' eg
        obtain ⟨b, eb, ow, _⟩ := S1.ow i mu d es
        rw [e1] at eb
        cases eb
        obtain ⟨o, ho, ro, _⟩ := ow.isFlat c
        exact hw S1.gh ho ro r1 eg fun v o' rv ro' => A2 v _ G1 fpf1 nq (Same.refl G1) (S1.write1 es e1 c ro') rv
      · exact A2.elim
    · rw [if_neg c] at A2; exact A2.elim
  · exact A2.elim
theorem lst_ty {K : PySem.W.Frag} (G H : Hp) (a : Addr) (o : HO) (d : D) (h : H a = some o) (r : OR K G o d) (e : isLst d = true) : tyV K "list" (.ref a) H := by
  cases r with
  | lst r => exact .inl ⟨rfl, _, .inl (.inl h)⟩
  | _ => cases e
/-- x.m(e, ..), x a list of one's own -/
theorem de_wr (i : Nat) (slot : PySem.Slot "list" name id) (hty : typeOf (.builtin id) = pure (.type "method_descriptor")) (hm : MtR X id r) (hw : WrS X.K r g) (ha : PA X (e :: es) (tM X.K F W q (RLs X.K) (argsM ms))) (hN : X.N[i]? = some x := by rfl) (hv : Vis X.env.scope x := by first | exact Or.inl rfl | exact Or.inr (Or.inl rfl) | exact Or.inr (Or.inr rfl)) (hd : (x == ("__debug__" : Str)) = false := by decide) (hcd : (x == ("__classdict__" : Str)) = false := by decide)
    (hbase : attributeBase (.Name x p) name X.env (eval (.Name x p) X.env) = eval (.Name x p) X.env := by rfl)
    (hfew : ((backTo cpos (starEach (e :: es) X.env)).all (fun x => !x.1) && (backToKw cpos (keywordEach [] X.env)).all (fun x => x.1.isSome) && decide ((e :: es).length + ([] : List Keyword).length + (if ([] : List Keyword).isEmpty then 0 else 1) < 30)) = true := by rfl)
    (hline : (apos.endLine == cpos.line) = true := by rfl) (hs : starEach (e :: es) X.env = (false, eval e X.env) :: starEach es X.env := by rfl) (hplain : (backTo cpos (starEach es X.env)).any (·.1) = false := by rfl) :
    PE X (.Call (.Attribute (.Name x p) name apos) (e :: es) [] cpos) (tM X.K F W false (RSh X.K) (wrM isLst i g ms)) :=
  PE_mono (pe_bm PySem.F.plainAttrs_list slot hty hm (pv i hN hv hd hcd) ha hbase hfew hline hs hplain) fun σ H Q h => by
    obtain ⟨a, e1, ty, z⟩ := wr_at hw lst_ty h
    refine ⟨.ref a, e1, ty, ?_⟩
    obtain ⟨st, G, fpf, S, A⟩ := z
    exact ⟨st, G, fpf, S, A.quiet⟩
/-- x[k] = v -/
def setIx (i : Nat) (me mi : M D) : MS := doM me fun d => doM (bnd (flM isLst i) fun _ => mi) fun k st => match st[i]?, k with
  | some (some (Slot.ow mu (.lst xs))), .int j => match ixN xs.length j with
    | some n => .nx (st.set i (some (Slot.ow mu (.lst (xs.set n d)))))
    | none => .stuck
  | _, _ => .stuck
theorem ds_setIx (i : Nat) {px : Pos} {k : Expr} {pos' : Pos} {me mi : M D} (he : PE X e (tM X.K F W q1 (RSh X.K) me)) (hk : PE X k (tM X.K F W q2 (RPk X.K) mi)) (hN : X.N[i]? = some x := by rfl) (hv : Vis X.env.scope x := by first | exact Or.inl rfl | exact Or.inr (Or.inl rfl) | exact Or.inr (Or.inr rfl)) (hd : (x == ("__debug__" : Str)) = false := by decide) (hcd : (x == ("__classdict__" : Str)) = false := by decide)
    (hs : swapsWithSole [.Subscript (.Name x px) k pos'] e pos.line X.env = pure false := by rfl) (hw : swappedStores [.Subscript (.Name x px) k pos'] e X.env = pure none := by rfl) (h1 : (assignEach [.Subscript (.Name x px) k pos'] X.env).map (·.2) = [assign (.Subscript (.Name x px) k pos') X.env] := by rfl)
    (hsub : ∀ v, assign (.Subscript (.Name x px) k pos') X.env v = (do let ob ← holding [v] (eval (.Name x px) X.env); let ix ← holding [v, ob] (eval k X.env); standAt pos'; holding [v, ob, ix] (setItem ob ix v); release [v, ob, ix] []) := by intro _; rfl) :
    PS X (.Assign [.Subscript (.Name x px) k pos'] e pos) (tS X.K F W (setIx i me mi)) :=
  PS_mono (ps_asg he (pg_sub (pv i hN hv hd hcd) hk set_list hsub) hs hw h1) fun D σ H h => do_of (R := RSh X.K) h fun d st1 G1 fpf1 v H1 S1 r1 A1 => by
    have A0 : AtS X.K F W (doM (bnd (flM isLst i) fun _ => mi) (fun k st => match st[i]?, k with
      | some (some (Slot.ow mu (.lst xs))), .int j => match ixN xs.length j with
        | some n => .nx (st.set i (some (Slot.ow mu (.lst (xs.set n d)))))
        | none => .stuck
      | _, _ => .stuck) st1) G1 D := A1
    obtain ⟨a, ea⟩ : ∃ a, σ[i]? = some (some (.ref a)) := by
      unfold doM bnd flM at A0
      cases h : st1[i]? with
      | none => rw [h] at A0; exact A0.elim
      | some s =>
        cases s with
        | none => rw [h] at A0; exact A0.elim
        | some s =>
          cases s with
          | sh d => rw [h] at A0; exact A0.elim
          | ow mu d =>
            obtain ⟨a, e1, _⟩ := S1.ow i mu d h
            exact ⟨a, e1⟩
    refine ⟨.ref a, ea, ?_⟩
    unfold doM bnd at A0
    cases hf : flM isLst i st1 with
    | stuck => rw [hf] at A0; exact A0.elim
    | err x s => unfold flM at hf; split at hf <;> first | cases hf | (split at hf <;> cases hf)
    | ok u s =>
      have es : s = st1 := by
        unfold flM at hf
        split at hf
        · split at hf <;> cases hf
          rfl
        · cases hf
      subst es
      rw [hf] at A0
      dsimp only at A0
      refine ⟨s, G1, fpf1, S1, ?_⟩
      cases em : mi s with
      | stuck => rw [em] at A0; exact A0.elim
      | err x s' => rw [em] at A0; exact fun b fv H' G' fpf' g S' => A0 b fv σ H' G' fpf' g S'
      | ok kk s' =>
        rw [em] at A0
        intro w H2 G2 fpf2 _ g2 S2 r2
        dsimp only at A0
        split at A0
        · rename_i mu xs j es
          split at A0
          · rename_i n hn
            obtain ⟨b, eb, ow, _⟩ := S2.ow i mu _ es
            rw [ea] at eb
            cases eb
            obtain ⟨o, ho, ro, _⟩ := ow.isFlat rfl
            cases ro with
            | lst rl => exact ⟨a, _, j, n, rfl, r2.int, ho, by rw [← rl.length]; exact hn, A0 σ _ G2 fpf2 g2 (S2.write1 es ea rfl (.lst (rl.set (Rep.mono g2 r1) n)))⟩
          · exact A0.elim
        · exact A0.elim
end
end DL
namespace DL
variable [TB] [LC]
open PySem L2
section
variable {X : Cx} {F : Fr} {W : WX} {q q1 q2 : Bool} {x : Str} {d : D} {v : V} {pos spos : Pos} {elt tg iter : Expr} {ifs : List Expr} {scope : Scope} {own : List (Str × Nat)} {mi : M (List D)} {t : Tg} {mt : M Bool} {me : M D}
theorem de_globE (hg : Gl X x) (hm : ∃ u, X.mg x = some u ∧ RelV v u) (rd : ∀ G, Rep X.K G d v) (hd : (x == ("__debug__" : Str)) = false := by decide) : PE X (.Name x pos) (tM X.K F W q (RSh X.K) (ret d)) := by
  obtain ⟨u, h, r⟩ := hm
  exact de_glob hg h r rd hd
end
theorem fun_D {K : PySem.W.Frag} {x qual : Str} {st : Stmt} {f : Addr} {fd : FuncData} (F : Fun K x qual st f fd) : FunD K x qual (defArgs st) (defBody st) (defScope st) [] [] f fd := by
  obtain ⟨⟨oc, od, kV, doc, pm, an, cdv, ct, osl, e, l, c⟩, k⟩ := F
  exact ⟨⟨oc, od, .none, kV, doc, pm, an, cdv, ct, osl, e, l, c, .inl ⟨rfl, rfl⟩, .inl rfl⟩, k⟩
end DL
namespace DL
variable [TB] [LC]
open PySem L2
/-! ### evaluation, applied -/
section
variable {α β : Type} {st : DSt}
theorem a_ret (x : α) : DL.ret x st = .ok x st := rfl
theorem a_bnd (m : M α) (f : α → M β) : bnd m f st = (match m st with | .ok x s => f x s | .err x s => .err x s | .stuck => .stuck) := rfl
theorem a_lift (o : Option α) : lift o st = (match o with | some x => .ok x st | none => .stuck) := rfl
theorem a_opM (g : D → D → Option D) (ma mb : M D) : opM g ma mb st = (match ma st with | .ok x s => (match mb s with | .ok y s => (match g x y with | some z => .ok z s | none => .stuck) | .err x s => .err x s | .stuck => .stuck) | .err x s => .err x s | .stuck => .stuck) := by
  unfold opM bnd
  cases ma st with
  | ok x s => dsimp only; cases mb s with
    | ok y s => dsimp only [lift]; cases g x y <;> rfl
    | err x s => rfl
    | stuck => rfl
  | err x s => rfl
  | stuck => rfl
theorem a_unM (g : D → Option D) (ma : M D) : unM g ma st = (match ma st with | .ok x s => (match g x with | some z => .ok z s | none => .stuck) | .err x s => .err x s | .stuck => .stuck) := by
  unfold unM bnd
  cases ma st with
  | ok x s => dsimp only [lift]; cases g x <;> rfl
  | err x s => rfl
  | stuck => rfl
theorem a_testM (m : M D) : testM m st = (match m st with | .ok (.bl b) s => .ok b s | .ok _ _ => .stuck | .err x s => .err x s | .stuck => .stuck) := by
  unfold testM bnd
  cases m st with
  | ok d s => cases d <;> rfl
  | err x s => rfl
  | stuck => rfl
theorem a_andM (ma mb : M Bool) : andM ma mb st = (match ma st with | .ok true s => mb s | .ok false s => .ok false s | .err x s => .err x s | .stuck => .stuck) := by
  unfold andM bnd
  cases ma st with
  | ok d s => cases d <;> rfl
  | err x s => rfl
  | stuck => rfl
theorem a_orM (ma mb : M Bool) : orM ma mb st = (match ma st with | .ok true s => .ok true s | .ok false s => mb s | .err x s => .err x s | .stuck => .stuck) := by
  unfold orM bnd
  cases ma st with
  | ok d s => cases d <;> rfl
  | err x s => rfl
  | stuck => rfl
theorem a_notM (ma : M Bool) : notM ma st = (match ma st with | .ok b s => .ok (!b) s | .err x s => .err x s | .stuck => .stuck) := by
  unfold notM bnd
  cases ma st <;> rfl
theorem a_iteM (mc : M Bool) (ma mb : M α) : iteM mc ma mb st = (match mc st with | .ok true s => ma s | .ok false s => mb s | .err x s => .err x s | .stuck => .stuck) := by
  unfold iteM bnd
  cases mc st with
  | ok d s => cases d <;> rfl
  | err x s => rfl
  | stuck => rfl
theorem a_andV (ma mb : M D) : andV ma mb st = (match ma st with | .ok (.bl true) s => mb s | .ok (.bl false) s => .ok (.bl false) s | .ok _ _ => .stuck | .err x s => .err x s | .stuck => .stuck) := by
  unfold andV bnd
  cases ma st with
  | ok d s => cases d with
    | bl b => cases b <;> rfl
    | _ => rfl
  | err x s => rfl
  | stuck => rfl
theorem a_orV (ma mb : M D) : orV ma mb st = (match ma st with | .ok (.bl true) s => .ok (.bl true) s | .ok (.bl false) s => mb s | .ok _ _ => .stuck | .err x s => .err x s | .stuck => .stuck) := by
  unfold orV bnd
  cases ma st with
  | ok d s => cases d with
    | bl b => cases b <;> rfl
    | _ => rfl
  | err x s => rfl
  | stuck => rfl
theorem a_notV (ma : M D) : notV ma st = (match ma st with | .ok (.bl b) s => .ok (.bl (!b)) s | .ok _ _ => .stuck | .err x s => .err x s | .stuck => .stuck) := by
  unfold notV bnd
  cases ma st with
  | ok d s => cases d <;> rfl
  | err x s => rfl
  | stuck => rfl
theorem a_shareM (m : M D) : shareM m st = (match m st with | .ok d s => if flatD d = true then .ok d s else .stuck | .err x s => .err x s | .stuck => .stuck) := by
  unfold shareM bnd
  cases m st with
  | ok d s => by_cases c : flatD d = true <;> simp [c, DL.ret, stuckM]
  | err x s => rfl
  | stuck => rfl
theorem a_varM (i : Nat) : varM i st = (match st[i]? with | some (some (Slot.sh d)) => .ok d st | some (some (Slot.ow false d)) => if flatD d = true then .ok d (st.set i (some (Slot.sh d))) else .stuck | _ => .stuck) := rfl
theorem a_peekM (i : Nat) : peekM i st = (match st[i]? with | some (some (Slot.sh d)) => .ok d st | some (some (Slot.ow _ d)) => .ok d st | _ => .stuck) := rfl
theorem a_args0 : argsM [] st = .ok [] st := rfl
theorem a_args1 (m : M D) (ms : List (M D)) : argsM (m :: ms) st = (match m st with | .ok d s => (match argsM ms s with | .ok ds s => .ok (d :: ds) s | .err x s => .err x s | .stuck => .stuck) | .err x s => .err x s | .stuck => .stuck) := by
  rw [show argsM (m :: ms) st = bnd m (fun d => bnd (argsM ms) fun ds => DL.ret (d :: ds)) st from rfl]
  unfold bnd
  cases m st with
  | ok d s => dsimp only; cases argsM ms s <;> rfl
  | err x s => rfl
  | stuck => rfl
theorem a_lstM (ms : List (M D)) : lstM ms st = (match argsM ms st with | .ok ds s => .ok (.lst ds) s | .err x s => .err x s | .stuck => .stuck) := by
  unfold lstM bnd
  cases argsM ms st <;> rfl
theorem a_tupM (ms : List (M D)) : tupM ms st = (match argsM ms st with | .ok ds s => .ok (.tup ds) s | .err x s => .err x s | .stuck => .stuck) := by
  unfold tupM bnd
  cases argsM ms st <;> rfl
theorem a_chainM (g g' : D → D → Option D) (ma mb mc : M D) : chainM g g' ma mb mc st = (match ma st with | .ok x s => (match mb s with | .ok y s => (match g x y with | some (.bl true) => (match mc s with | .ok w s => (match g' y w with | some z => .ok z s | none => .stuck) | .err x s => .err x s | .stuck => .stuck) | some (.bl false) => .ok (.bl false) s | _ => .stuck) | .err x s => .err x s | .stuck => .stuck) | .err x s => .err x s | .stuck => .stuck) := by
  unfold chainM bnd
  cases ma st with
  | ok x s =>
    dsimp only
    cases mb s with
    | ok y s =>
      dsimp only [lift]
      cases g x y with
      | none => rfl
      | some z => cases z with
        | bl b =>
          cases b with
          | false => rfl
          | true =>
            dsimp only
            cases mc s with
            | ok w s => dsimp only; cases g' y w <;> rfl
            | err x s => rfl
            | stuck => rfl
        | _ => rfl
    | err x s => rfl
    | stuck => rfl
  | err x s => rfl
  | stuck => rfl
theorem a_partM0 : partM none st = .ok none st := rfl
theorem a_partM1 (m : M D) : partM (some m) st = (match m st with | .ok (.int i) s => .ok (some i) s | .ok _ _ => .stuck | .err x s => .err x s | .stuck => .stuck) := by
  rw [show partM (some m) st = bnd m (fun d => match d with | .int i => DL.ret (some i) | _ => stuckM) st from rfl]
  unfold bnd
  cases m st with
  | ok d s => cases d <;> rfl
  | err x s => rfl
  | stuck => rfl
theorem a_slM (g : D → Option Int → Option Int → Option D) (me : M D) (lo hi : Option (M D)) : slM g me lo hi st = (match me st with | .ok x s => (match partM lo s with | .ok l s => (match partM hi s with | .ok h s => (match g x l h with | some z => .ok z s | none => .stuck) | .err x s => .err x s | .stuck => .stuck) | .err x s => .err x s | .stuck => .stuck) | .err x s => .err x s | .stuck => .stuck) := by
  unfold slM bnd
  cases me st with
  | ok x s => dsimp only; cases partM lo s with
    | ok l s => dsimp only; cases partM hi s with
      | ok h s => dsimp only [lift]; cases g x l h <;> rfl
      | err x s => rfl
      | stuck => rfl
    | err x s => rfl
    | stuck => rfl
  | err x s => rfl
  | stuck => rfl
theorem a_asStrM (m : M D) : asStrM m st = (match m st with | .ok (.str a) s => .ok a s | .ok _ _ => .stuck | .err x s => .err x s | .stuck => .stuck) := by
  unfold asStrM bnd
  cases m st with
  | ok d s => cases d <;> rfl
  | err x s => rfl
  | stuck => rfl
theorem a_fmtM (m : M D) : fmtM m st = (match m st with | .ok (.str a) s => if a.length ≤ 16777216 then .ok a s else .stuck | .ok (.int i) s => if i.natAbs.log2 < 1920 then .ok (toString i : Str) s else .stuck | .ok _ _ => .stuck | .err x s => .err x s | .stuck => .stuck) := by
  unfold fmtM bnd
  cases m st with
  | ok d s =>
    cases d with
    | str a => dsimp only; by_cases c : a.length ≤ 16777216 <;> simp [c, DL.ret, stuckM]
    | int i => dsimp only; by_cases c : i.natAbs.log2 < 1920 <;> simp [c, DL.ret, stuckM]
    | _ => rfl
  | err x s => rfl
  | stuck => rfl
theorem a_joinM (ma : M Str) (mb : M D) : joinM ma mb st = (match ma st with | .ok x s => (match mb s with | .ok y s => (match joinD x y with | some z => .ok z s | none => .stuck) | .err x s => .err x s | .stuck => .stuck) | .err x s => .err x s | .stuck => .stuck) := by
  unfold joinM bnd
  cases ma st with
  | ok x s => dsimp only; cases mb s with
    | ok y s => dsimp only [lift]; cases joinD x y <;> rfl
    | err x s => rfl
    | stuck => rfl
  | err x s => rfl
  | stuck => rfl
theorem a_fstrM (ms : List (M Str)) : fstrM ms st = fstrL ms Str.empty st := rfl
theorem a_fstr0 (acc : Str) : fstrL [] acc st = .ok (.str acc) st := rfl
theorem a_fstr1 (m : M Str) (ms : List (M Str)) (acc : Str) : fstrL (m :: ms) acc st = (match m st with | .ok y s => if (acc ++ y).length ≤ 16777216 then fstrL ms (acc ++ y) s else .stuck | .err x s => .err x s | .stuck => .stuck) := by
  show bnd m _ st = _
  unfold bnd
  cases m st with
  | ok y s => dsimp only; by_cases c : (acc ++ y).length ≤ 16777216 <;> simp [c, stuckM]
  | err x s => rfl
  | stuck => rfl
theorem a_seqM (a b : MS) : seqM a b st = (match a st with | .nx s => b s | .rt f d s => .rt f d s | .bk s => .bk s | .ct s => .ct s | .err x s => .err x s | .stuck => .stuck) := by
  unfold seqM
  cases a st <;> rfl
theorem a_ifM (c : M Bool) (a b : MS) : ifM c a b st = (match c st with | .ok true s => a s | .ok false s => b s | .err x s => .err x s | .stuck => .stuck) := by
  unfold ifM doM
  cases c st with
  | ok d s => cases d <;> rfl
  | err x s => rfl
  | stuck => rfl
theorem a_skipM : skipM st = .nx st := rfl
theorem a_dropM (m : M α) : dropM m st = (match m st with | .ok _ s => .nx s | .err x s => .err x s | .stuck => .stuck) := by
  unfold dropM doM
  cases m st <;> rfl
theorem a_retM (m : M D) : retM m st = (match m st with | .ok d s => .rt false d s | .err x s => .err x s | .stuck => .stuck) := by
  unfold retM doM
  cases m st <;> rfl
theorem a_retF (m : M D) : retF m st = (match m st with | .ok d s => .rt true d s | .err x s => .err x s | .stuck => .stuck) := by
  unfold retF doM
  cases m st <;> rfl
theorem a_retN : retN st = .rt false .non st := rfl
theorem a_bkM : bkM st = .bk st := rfl
theorem a_ctM : ctM st = .ct st := rfl
theorem a_retOw (i : Nat) : retOw i st = (match st[i]? with | some (some (Slot.ow false d)) => .rt true d (st.set i none) | _ => .stuck) := rfl
theorem a_asgM (m : M D) (t : Tg) : asgM m t st = (match m st with | .ok d s => (match t.run d s with | some s => .nx s | none => .stuck) | .err x s => .err x s | .stuck => .stuck) := by
  unfold asgM doM
  cases m st <;> rfl
theorem a_asgF (m : M D) (i : Nat) : asgF m i st = (match m st with | .ok d s => .nx (s.set i (some (Slot.ow false d))) | .err x s => .err x s | .stuck => .stuck) := by
  unfold asgF doM
  cases m st <;> rfl
theorem a_parM (m : M (List D)) (i j : Nat) : parM m i j st = (match m st with | .ok [d, e] s => .nx ((s.set i (some (Slot.sh d))).set j (some (Slot.sh e))) | .ok _ _ => .stuck | .err x s => .err x s | .stuck => .stuck) := by
  unfold parM doM
  cases m st with
  | ok ds s =>
    match ds with
    | [] => rfl
    | [_] => rfl
    | [_, _] => rfl
    | _ :: _ :: _ :: _ => rfl
  | err x s => rfl
  | stuck => rfl
theorem a_nameT (i : Nat) (d : D) : (nameT i).run d st = some (st.set i (some (Slot.sh d))) := rfl
theorem a_tupT (ts : List Tg) (ds : List D) : (tupT ts).run (.tup ds) st = tgsT ts ds st := rfl
theorem a_tgs0 : tgsT [] [] st = some st := rfl
theorem a_tgs1 (t : Tg) (ts : List Tg) (d : D) (ds : List D) : tgsT (t :: ts) (d :: ds) st = (match t.run d st with | some s => tgsT ts ds s | none => none) := rfl
theorem a_forM (mi : M (List D)) (t : Tg) (b : MS) : forM mi t b st = (match mi st with | .ok ds s => loopM t b ds s | .err x s => .err x s | .stuck => .stuck) := by
  unfold forM doM
  cases mi st <;> rfl
theorem a_loop0 (t : Tg) (b : MS) : loopM t b [] st = .nx st := rfl
theorem a_loop1 (t : Tg) (b : MS) (d : D) (ds : List D) : loopM t b (d :: ds) st = (match t.run d st with | none => .stuck | some s => (match b s with | .nx s => loopM t b ds s | .ct s => loopM t b ds s | .bk s => .nx s | .rt f d s => .rt f d s | .err x s => .err x s | .stuck => .stuck)) := by
  show (match t.run d st with | none => _ | some s => _) = _
  cases t.run d st with
  | none => rfl
  | some s => dsimp only; cases b s <;> rfl
theorem a_strM (m : M D) : strM' m st = (match m st with | .ok (.str x) s => .ok (strD x) s | .ok _ _ => .stuck | .err x s => .err x s | .stuck => .stuck) := by
  unfold strM' bnd
  cases m st with
  | ok d s => cases d <;> rfl
  | err x s => rfl
  | stuck => rfl
theorem a_seqM' (m : M D) : seqM' m st = (match m st with | .ok (.lst x) s => .ok x s | .ok (.kl x) s => .ok x s | .ok _ _ => .stuck | .err x s => .err x s | .stuck => .stuck) := by
  unfold seqM' bnd
  cases m st with
  | ok d s => cases d <;> rfl
  | err x s => rfl
  | stuck => rfl
theorem a_tupM' (m : M D) : tupM' m st = (match m st with | .ok (.tup x) s => .ok x s | .ok _ _ => .stuck | .err x s => .err x s | .stuck => .stuck) := by
  unfold tupM' bnd
  cases m st with
  | ok d s => cases d <;> rfl
  | err x s => rfl
  | stuck => rfl
theorem a_rng1M (m : M D) : rng1M m st = (match m st with | .ok (.int j) s => if -4611686018427387904 ≤ j ∧ j < 4611686018427387904 then .ok (rangeD 0 j.toNat) s else .stuck | .ok _ _ => .stuck | .err x s => .err x s | .stuck => .stuck) := by
  unfold rng1M bnd
  cases m st with
  | ok d s =>
    cases d with
    | int j => dsimp only; by_cases c : -4611686018427387904 ≤ j ∧ j < 4611686018427387904 <;> simp [c, DL.ret, stuckM]
    | _ => rfl
  | err x s => rfl
  | stuck => rfl
theorem a_compM (vs : List Nat) (mi : M (List D)) (t : Tg) (mt : M Bool) (me : M D) : compM vs mi t mt me st = (match mi st with | .ok ds s => compL vs t mt me ds [] (wipeD s vs) | .err x s => .err x s | .stuck => .stuck) := by
  unfold compM bnd
  cases mi st <;> rfl
theorem a_comp0 (vs : List Nat) (t : Tg) (mt : M Bool) (me : M D) (acc : List D) : compL vs t mt me [] acc st = .ok (.lst acc) st := rfl
theorem a_comp1 (vs : List Nat) (t : Tg) (mt : M Bool) (me : M D) (d : D) (ds acc : List D) : compL vs t mt me (d :: ds) acc st = (match t.run d st with
    | none => .stuck
    | some st1 => match mt st1 with
      | .ok true st2 => (match me st2 with
        | .ok y st3 => if acc.length < 16777216 then compL vs t mt me ds (acc ++ [y]) (wipeD st3 vs) else .stuck
        | _ => .stuck)
      | .ok false st2 => compL vs t mt me ds acc (wipeD st2 vs)
      | _ => .stuck) := rfl
theorem a_wipe0 : wipeD st [] = st := rfl
theorem a_wipe1 (v : Nat) (vs : List Nat) : wipeD st (v :: vs) = (wipeD st vs).set v none := rfl
theorem a_avs0 : avsM [] st = .ok [] st := rfl
theorem a_avs1 (m : M AV) (ms : List (M AV)) : avsM (m :: ms) st = (match m st with | .ok d s => (match avsM ms s with | .ok ds s => .ok (d :: ds) s | .err x s => .err x s | .stuck => .stuck) | .err x s => .err x s | .stuck => .stuck) := by
  rw [show avsM (m :: ms) st = bnd m (fun d => bnd (avsM ms) fun ds => DL.ret (d :: ds)) st from rfl]
  unfold bnd
  cases m st with
  | ok d s => dsimp only; cases avsM ms s <;> rfl
  | err x s => rfl
  | stuck => rfl
theorem a_shA (m : M D) : shA m st = (match m st with | .ok d s => .ok (AV.d d) s | .err x s => .err x s | .stuck => .stuck) := by
  unfold shA bnd
  cases m st <;> rfl
theorem a_lnA (i : Nat) : lnA i st = (match st[i]? with | some (some (Slot.ow _ _)) => .ok (AV.m i) st | _ => .stuck) := rfl
theorem a_callM (mu : List Bool) (f : FD) (ma : M (List AV)) : callM mu f [] ma st = (match ma st with | .ok as s => callQ mu f as s | .err x s => .err x s | .stuck => .stuck) := by
  unfold callM bnd
  cases ma st with
  | ok as s => simp
  | err x s => rfl
  | stuck => rfl
theorem a_callF (mu : List Bool) (f : FD) (ma : M (List AV)) : callF mu f [] ma st = (match ma st with | .ok as s => callN mu f as s | .err x s => .err x s | .stuck => .stuck) := by
  unfold callF bnd
  cases ma st with
  | ok as s => simp
  | err x s => rfl
  | stuck => rfl
theorem a_callQ (mu : List Bool) (f : FD) (as : List AV) : callQ mu f as st = (if (as.filterMap avSl).Nodup then (match getA st mu as with
    | some ds => match f ds with
      | .ok false d ms => .ok d (setBack as ms st)
      | .ok true d ms => if flatD d = true then .ok d (setBack as ms st) else .stuck
      | .err x ms => .err x (setBack as ms st)
      | .stuck => .stuck
    | none => .stuck) else .stuck) := rfl
theorem a_callN (mu : List Bool) (f : FD) (as : List AV) : callN mu f as st = (if (as.filterMap avSl).Nodup then (match getA st mu as with
    | some ds => match f ds with
      | .ok true d ms => .ok d (setBack as ms st)
      | .err x ms => .err x (setBack as ms st)
      | _ => .stuck
    | none => .stuck) else .stuck) := rfl
theorem a_mkQ (C : Addr) (mu : List Bool) (f : FD) (as : List AV) : mkQ C mu f as st = (if (as.filterMap avSl).Nodup then (match getA st mu as with
    | some ds => match f (.obj C [] :: ds) with
      | .ok false .non (d :: ms) => .ok d (setBack as ms st)
      | .err x (_ :: ms) => .err x (setBack as ms st)
      | _ => .stuck
    | none => .stuck) else .stuck) := rfl
theorem a_makeF (C : Addr) (mu : List Bool) (f : FD) (ma : M (List AV)) : makeF C mu f [] ma st = (match ma st with | .ok as s => mkQ C mu f as s | .err x s => .err x s | .stuck => .stuck) := by
  unfold makeF bnd
  cases ma st with
  | ok as s => simp
  | err x s => rfl
  | stuck => rfl
theorem a_chkO (C : Addr) (nm : Str) (a : AV) : chkO C nm a st = (match objAt st a with | some (C', fs) => if C' = C ∧ fs.lookup nm = none then .ok () st else .stuck | none => .stuck) := rfl
theorem a_noErr (m : M D) : noErr m st = (match m st with | .ok d s => .ok d s | _ => .stuck) := by
  unfold noErr
  cases m st <;> rfl
theorem a_propM (C : Addr) (nm : Str) (mu : List Bool) (f : FD) (mo : M AV) : propM C nm mu f mo st = (match mo st with | .ok a s => (match chkO C nm a s with | .ok _ s => noErr (callQ mu f [a]) s | _ => .stuck) | .err x s => .err x s | .stuck => .stuck) := by
  unfold propM bnd
  cases mo st with
  | ok a s =>
    dsimp only
    cases h : chkO C nm a s with
    | ok u s => rfl
    | err x s' => unfold chkO at h; split at h <;> first | cases h | (split at h <;> cases h)
    | stuck => rfl
  | err x s => rfl
  | stuck => rfl
theorem chk_err {C : Addr} {nm : Str} {a : AV} {x : Exc} {s : DSt} (h : chkO C nm a st = .err x s) : False := by
  unfold chkO at h; split at h <;> first | cases h | (split at h <;> cases h)
theorem a_callOM (q : List Bool → FD → List AV → M D) (C : Addr) (mu : List Bool) (f : FD) (mo : M AV) (ma : M (List AV)) : callOM q C mu f [] mo ma st = (match mo st with | .ok a s => (match chkO C Str.empty a s with | .ok _ s => (match ma s with | .ok as s => (match chkO C Str.empty a s with | .ok _ s => q mu f (a :: as) s | _ => .stuck) | .err x s => .err x s | .stuck => .stuck) | _ => .stuck) | .err x s => .err x s | .stuck => .stuck) := by
  unfold callOM bnd
  cases mo st with
  | ok a s =>
    dsimp only
    cases h : chkO C Str.empty a s with
    | ok u s =>
      dsimp only
      cases ma s with
      | ok as s =>
        dsimp only
        cases h : chkO C Str.empty a s with
        | ok u s => simp
        | err x s' => exact (chk_err h).elim
        | stuck => rfl
      | err x s => rfl
      | stuck => rfl
    | err x s' => exact (chk_err h).elim
    | stuck => rfl
  | err x s => rfl
  | stuck => rfl
theorem a_methM (q : List Bool → FD → List AV → M D) (C : Addr) (nm : Str) (mu : List Bool) (f : FD) (mo : M AV) (ma : M (List AV)) : methM q C nm mu f [] mo ma st = (match mo st with | .ok a s => (match chkO C nm a s with | .ok _ s => (match ma s with | .ok as s => q mu f (a :: as) s | .err x s => .err x s | .stuck => .stuck) | _ => .stuck) | .err x s => .err x s | .stuck => .stuck) := by
  unfold methM bnd
  cases mo st with
  | ok a s =>
    dsimp only
    cases h : chkO C nm a s with
    | ok u s =>
      dsimp only
      cases ma s with
      | ok as s => simp
      | err x s => rfl
      | stuck => rfl
    | err x s' => exact (chk_err h).elim
    | stuck => rfl
  | err x s => rfl
  | stuck => rfl
theorem a_cmpO (neg : Bool) (Cs : List Addr) (C : Addr) (mu : List Bool) (fn : FD) (ma mb : M AV) : cmpO neg Cs C mu fn ma mb st = (match ma st with | .ok a s => (match mb s with | .ok b s => (match chkO C Str.empty a s with | .ok _ s => (match kindAt Cs b s with | .ok _ s => (match noErr (callQ mu fn [a, b]) s with | .ok (.bl k) s => .ok (.bl (neg != k)) s | _ => .stuck) | _ => .stuck) | _ => .stuck) | .err x s => .err x s | .stuck => .stuck) | .err x s => .err x s | .stuck => .stuck) := by
  unfold cmpO bnd
  cases ma st with
  | ok a s =>
    dsimp only
    cases mb s with
    | ok b s =>
      dsimp only
      cases h : chkO C Str.empty a s with
      | ok u s =>
        dsimp only
        cases h2 : kindAt Cs b s with
        | ok u s =>
          dsimp only
          cases h3 : noErr (callQ mu fn [a, b]) s with
          | ok d s => cases d <;> rfl
          | err x s' => unfold noErr at h3; split at h3 <;> first | cases h3 | skip; rename_i q; exact (q _ _ h3).elim
          | stuck => rfl
        | err x s' => unfold kindAt at h2; (repeat' split at h2) <;> cases h2
        | stuck => rfl
      | err x s' => exact (chk_err h).elim
      | stuck => rfl
    | err x s => rfl
    | stuck => rfl
  | err x s => rfl
  | stuck => rfl
theorem a_reprO (C : Addr) (mu : List Bool) (fn : FD) (ma : M AV) : reprO C mu fn ma st = (match ma st with | .ok a s => (match chkO C Str.empty a s with | .ok _ s => (match noErr (callQ mu fn [a]) s with | .ok (.str k) s => .ok (.str k) s | _ => .stuck) | _ => .stuck) | .err x s => .err x s | .stuck => .stuck) := by
  unfold reprO bnd
  cases ma st with
  | ok a s =>
    dsimp only
    cases h : chkO C Str.empty a s with
    | ok u s =>
      dsimp only
      cases h3 : noErr (callQ mu fn [a]) s with
      | ok d s => cases d <;> rfl
      | err x s' => unfold noErr at h3; split at h3 <;> first | cases h3 | skip; rename_i q; exact (q _ _ h3).elim
      | stuck => rfl
    | err x s' => exact (chk_err h).elim
    | stuck => rfl
  | err x s => rfl
  | stuck => rfl
theorem a_putM (C : Addr) (f : Str) (i : Nat) (m : M D) : putM C f i m st = (match m st with | .ok d s => (match s[i]? with   | some (some (Slot.ow mu (.obj C' fs))) => if C' = C ∧ fs.length < 1000 ∧ noBoxAt f fs = true then .nx (s.set i (some (Slot.ow mu (.obj C (putD f d fs))))) else .stuck   | _ => .stuck) | .err x s => .err x s | .stuck => .stuck) := by
  unfold putM doM
  cases m st <;> rfl
theorem a_flM (p : D → Bool) (i : Nat) : flM p i st = (match st[i]? with | some (some (Slot.ow _ d)) => if flatD d = true ∧ p d = true then .ok () st else .stuck | _ => .stuck) := rfl
theorem a_wrM (p : D → Bool) (i : Nat) (g : D → List D → Option (D × D)) (ms : List (M D)) : wrM p i g ms st = (match flM p i st with | .ok _ s => (match argsM ms s with | .ok args s => (match s[i]? with   | some (some (Slot.ow mu d)) => if flatD d = true then (match g d args with     | some (z, d') => .ok z (s.set i (some (Slot.ow mu d')))     | none => .stuck) else .stuck   | _ => .stuck) | .err x s => .err x s | .stuck => .stuck) | .err x s => .err x s | .stuck => .stuck) := by
  unfold wrM bnd
  cases flM p i st with
  | ok u s => dsimp only; cases argsM ms s <;> rfl
  | err x s => rfl
  | stuck => rfl
theorem a_setIx (i : Nat) (me mi : M D) : setIx i me mi st = (match me st with | .ok d s => (match flM isLst i s with | .ok _ s => (match mi s with | .ok k s => (match s[i]?, k with   | some (some (Slot.ow mu (.lst xs))), .int j => (match ixN xs.length j with     | some n => .nx (s.set i (some (Slot.ow mu (.lst (xs.set n d)))))     | none => .stuck)   | _, _ => .stuck) | .err x s => .err x s | .stuck => .stuck) | .err x s => .err x s | .stuck => .stuck) | .err x s => .err x s | .stuck => .stuck) := by
  unfold setIx doM bnd
  cases me st with
  | ok d s =>
    dsimp only
    cases flM isLst i s with
    | ok u s => dsimp only; cases mi s <;> rfl
    | err x s => rfl
    | stuck => rfl
  | err x s => rfl
  | stuck => rfl
theorem a_fm0 : List.filterMap avSl [] = [] := rfl
theorem a_fm1 (x : D) (as : List AV) : List.filterMap avSl (AV.d x :: as) = List.filterMap avSl as := rfl
theorem a_fm2 (i : Nat) (as : List AV) : List.filterMap avSl (AV.m i :: as) = i :: List.filterMap avSl as := rfl
end
end DL
namespace DL
variable [TB] [LC]
open PySem L2
/-! ### steps, one by one -/
section
variable {st s s1 s2 s3 : DSt} {a b : MS} {c : M Bool} {m ma mb mc : M D} {x y z d : D} {g g' : D → D → Option D} {k k' : Bool} {t : Tg} {i : Nat}
theorem e_op (h1 : ma st = .ok x s) (h2 : mb s = .ok y s2) (h3 : g x y = some z) : opM g ma mb st = .ok z s2 := by rw [a_opM, h1]; simp only [h2, h3]
theorem e_share (h : m st = .ok d s) (f : flatD d = true) : shareM m st = .ok d s := by rw [a_shareM, h]; simp only [f, if_true]
theorem e_ret (h : m st = .ok d s) : retM m st = .rt false d s := by rw [a_retM, h]
end
/-! ### data that are alike -/
theorem eq_of {d e : D} {p q : PyData} (h1 : toP d = some p) (h2 : toP e = some q) (h3 : min p.depth q.depth ≤ 64) : eqD d e = some (.bl (PyData.eqv p q)) := by
  unfold eqD eqvD
  rw [h1, h2]
  simp only [h3, if_true, Option.map_some]
theorem ne_of' {d e : D} {p q : PyData} (h1 : toP d = some p) (h2 : toP e = some q) (h3 : min p.depth q.depth ≤ 64) : neD d e = some (.bl (!PyData.eqv p q)) := by
  unfold neD eqvD
  rw [h1, h2]
  simp only [h3, if_true, Option.map_some]
end DL
namespace DL
variable [TB] [LC]
open PySem L2
/-! ### the law's own promise -/
def spLaw (K : PySem.W.Frag) : Sp := fun vs H Q _ => ∃ (a : Addr) (ns : List Int), vs = [.ref a] ∧ SqL K H a (ns.map V.int) ∧ ns.length ≤ 63 ∧ (∀ p ∈ TB.T, H p.1 = some (.tbl #[])) ∧ ∀ H', Q (.bl true) H'
theorem noTb_same {H : Hp} : Same (fun b => noTb (H b)) H := fun b u e => (noTb_ok e).1
theorem noTb_no {H : Hp} : NoT fun b => noTb (H b) := fun b ps e => (noTb_ok e).2.1 ps rfl
theorem noTb_seq {K : PySem.W.Frag} {H : Hp} {a : Addr} {xs : List V} (h : SqL K H a xs) : SqL K (fun b => noTb (H b)) a xs := by
  rcases h with (h | ⟨o, h⟩) | h
  · exact .inl (.inl (by show noTb (H a) = _; rw [h]; rfl))
  · exact .inl (.inr ⟨o, by show noTb (H a) = _; rw [h]; rfl⟩)
  · exact .inr h
theorem law_sp {K : PySem.W.Frag} {f : FD} (h : ∀ ns : List Int, ns.length ≤ 63 → f [.kl (ns.map .int)] = .ok false (.bl true) [.non]) : ∀ vs H Q E, spLaw K vs H Q E → spD K [false] f vs H Q E := fun vs H Q E ⟨a, ns, e, hS, hl, hT, k⟩ => by
  subst e
  refine ⟨[.kl (ns.map .int)], fun b => noTb (H b), fun _ => [], noTb_same, noTb_no, fun p hp => LamX.TabS.nil (hT p hp), ⟨rfl, rfl, fun i d h1 h2 => ?_, fun i d h1 => ?_, fun i j h1 => ?_⟩, ?_⟩
  · cases i with
    | zero => cases h2; exact ⟨_, rfl, .kl (noTb_seq hS) (RepA.of_ints ns)⟩
    | succ i => simp at h2
  · cases i <;> simp at h1
  · cases i <;> simp at h1
  · rw [h ns hl]
    exact fun v H' G' fp' B r => by
      cases r
      exact k H'
/-! ### facts of classes from what the head tells -/
section
variable {K : PySem.W.Frag} {C C' : Addr}
theorem kit_mro (b : Bt) (h : PySem.W.mroIn K C (.type b.name) = some false) : PySem.W.kitOne K (.ref C) (.type b.name) = some false := by
  unfold PySem.W.kitOne
  rw [if_neg (by simp)]
  unfold PySem.W.kitCls
  dsimp only
  have m : PySem.W.kitMeta b.name = true := by cases b <;> decide +kernel
  rw [if_pos m]
  exact h
theorem isC_of (hd : PySem.W.hasDictIn K C = true) (ty : PySem.W.typeIn K (.ref C) = some (.type "type")) : ((PySem.W.clsIn K C).isSome && PySem.W.typeIn K (.ref C) == some (.type "type")) = true := by
  obtain ⟨cd, hc, _⟩ := PySem.W.any_some hd
  rw [hc, ty]
  rfl
theorem kit_mroO (hC : ((PySem.W.clsIn K C).isSome && PySem.W.typeIn K (.ref C) == some (.type "type")) = true) (n : C' ≠ C) (h : PySem.W.mroIn K C' (.ref C) = some false) : PySem.W.kitOne K (.ref C') (.ref C) = some false := by
  unfold PySem.W.kitOne
  rw [if_neg (by simpa using n)]
  unfold PySem.W.kitCls
  dsimp only
  rw [if_pos hC]
  exact h
theorem nf_mro (h : PySem.W.mroIn K C' (.ref C) = some false) : PySem.W.notFirst K C (.ref C') = true := by
  unfold PySem.W.notFirst
  rw [show PySem.W.subIn K (.ref C') (.ref C) = some false from h]
  simp
end
end DL
namespace PySem
namespace DLX
open PySem.W PySem.Calls PyProof.Rows PySem.HandSPX Builtin Builtin.ObjectAttr
/-- what a built-in base of own exceptions must have -/
structure XB (B newId : String) (bmB : List Value) : Prop where
  F : ∃ initId, ExcBaseFacts B newId initId bmB
  pass : ∀ self : Value, refuseLoop self "__setattr__" bmB = pure ()
  ob : bmB.contains (.type "object") = true
theorem xb_V : XB "ValueError" "ValueError.__new__" [.type "ValueError", .type "Exception", .type "BaseException", .type "object"] := ⟨⟨_, F.excBase_ValueError⟩, F.store_ValueError.passes, by decide +kernel⟩
theorem xb_L : XB "LookupError" "LookupError.__new__" [.type "LookupError", .type "Exception", .type "BaseException", .type "object"] := ⟨⟨_, F.excBase_LookupError⟩, F.store_LookupError.passes, by decide +kernel⟩
section
variable {prog : Program} {w : World} {A : Around} {R : Result → Shared → Prop} {hp : Heap} {g : Array GenState} {d : Drawn} {t : Nat} {os : OsState} {B newId : String} {bmB : List Value}
/-- the first attribute of a new exception -/
theorem osa_first {K : W.Frag} {name : Str} {tk : Tok} {v : Value} {x C : Addr} {fv : Array Value} {cd : ClassData} (b : XB B newId bmB) (X : K.In hp) (hx : hp.get? x = some { cls := .ref C, data := .fields fv }) (hcd : W.clsIn K C = some cd) (hm : cd.mro = .ref C :: bmB) (hh : cd.hasDict = true) (ha : W.findIn K (.ref C) name = some none)
    (hq : ∀ h' tk' dx, (∀ b o, b ≠ x → hp.get? b = some o → h'.get? b = some o) → hp.objs.size ≤ dx → dx ≠ x → h'.get? x = some { cls := .ref C, dict := some dx, data := .fields fv } → h'.Ns1 dx (fun y => if y = name then some v else none) → R (.ok (.ret .none)) ⟨h', g, d, tk', os⟩) :
    codeAny (model prog w) A (.call (.builtin "object.__setattr__") ⟨[.ref x, .str name tk, v], []⟩) R ⟨hp, g, d, t, os⟩ := by
  have I : W.InstAt hp x { cls := .ref C, data := .fields fv } C none := ⟨hx, rfl, rfl, trivial⟩
  have SF := F.store_object
  have ne : cd.mro.isEmpty = false := by rw [hm]; rfl
  have hob : cd.mro.contains (.type "object") = true := by rw [hm, List.contains_cons, b.ob]; simp
  have hxs : x ≠ hp.objs.size := Nat.ne_of_lt (Heap.lt_size hx)
  have hps : refuseLoop (.ref x) "__setattr__" cd.mro = pure () := by rw [hm, refuseLoop_ref]; exact b.pass _
  have sub : W.Looks (model prog w) hp (isInstance (.ref x) (.type "object")) true := I.type.andThen (W.looks_mroIn X (by unfold W.mroIn; rw [hcd, Option.bind_some, if_neg (by rw [ne]; decide), hob]))
  have chk := @W.check_slot (model prog w) A.in1 (fun e s => R (.error e) s) ⟨hp, g, d, t, os⟩ "object.__setattr__" "object" "__setattr__" (.ref x) [.str name tk, v] []
  refine codeAny_call_builtin SF.slot.plain SF.entry (chk SF.kind SF.split sub (SF.args (.ref x) (.str name tk) v) ?_)
  have L1 : W.Looks (model prog w) hp (mroOf (.ref C)) cd.mro := (W.looks_clsIn X hcd).andThen .now
  have L2 : W.Looks (model prog w) hp (storeTaker? none) none := .now
  have L3 : W.Looks (model prog w) hp (classData C) cd := W.looks_clsIn X hcd
  rw [W.osa_eq, refuse_eq]
  refine wpAny_bind (wpAny_bind (I.type.at (wpAny_bind (L1.at ?_))))
  rw [hps]
  refine wpAny_pure (wpAny_bind (I.type.at (wpAny_bind ((W.looks_findIn X ha).at (wpAny_bind (L2.at ?_))))))
  show wpAny _ _ (storeInOwnDict (.ref x) (.ref C) (.str name tk) name v false) _ _ _
  obtain ⟨c1, c2, c3, c4, c5, c6, c7, c8, c9, c10, c11⟩ := cd
  dsimp only at hh
  subst hh
  unfold storeInOwnDict ownDictForStores
  repeat (first | with_reducible refine HandSPX.store_in_new ?_ ?_ | with_reducible refine wpAny_loadPart_at hx ?_ | with_reducible refine L3.at ?_ | wp_step)
  · exact ⟨_, #[], _, (Heap.get?_update_ne _ _ _ _ hxs.symm).trans (Heap.get?_push_at rfl rfl), rfl, fun e he => absurd he (by simp), fun _ => rfl⟩
  · intro h' tk' hn' hs
    have hx₁ : (hp.push { cls := .type "dict", data := .dict #[] }).get? x = some { cls := .ref C, data := .fields fv } := Heap.get?_push_of_some _ hx
    exact hq h' tk' hp.objs.size (fun b o hb ho => (hs.2 b (Nat.ne_of_lt (Heap.lt_size ho))).trans ((Heap.get?_update_ne _ _ _ _ hb).trans (Heap.get?_push_of_some _ ho))) (Nat.le_refl _) hxs.symm ((hs.2 x hxs).trans (Heap.get?_update_self _ hx₁ rfl)) hn'
end
end DLX
end PySem
namespace DL
variable [TB] [LC]
open PySem PySem.Spec PyProof.Rows L2 PySem.DLX
/-- what the written part says of an own exception class over B -/
structure OexB (K : PySem.W.Frag) (C : Addr) (newId : String) (bmB : List Value) : Prop where
  cls : ∃ nm q N bs sn sub ab col dd k0 k1 k2 k3 k5, K.lookup C = some (excClassObj nm q C N bs bmB true sn sub ab col dd k0 k1 k2 k3 k5 newId)
  sa : PySem.W.findIn K (.ref C) "__setattr__" = some (some (.builtin "object.__setattr__"))
  exC : PySem.W.subIn K (.ref C) (.type "BaseException") = some true
  tyC : PySem.W.typeIn K (.ref C) = some (.type "type")
  kC : PySem.W.keepIn K (.ref C) = true
section
variable {X : Cx} {pins : List (Addr × Obj)} {σ : L2.St} {H : Hp} {s : Shared} {a C dx : Addr} {f : Str} {y : V} {u : Value} {Q : Unit → Shared → Prop} {E : Value → Shared → Prop} {A : Around} {B newId : String} {bmB : List Value}
theorem ost_first (b : XB B newId bmB) (T : OexB X.K C newId bmB) (I : Inv X pins σ H s) (e : H a = some (exo a C none)) (hno : PySem.W.findIn X.K (.ref C) f = some none) (ry : RelV y u)
    (h : ∀ dx s', H dx = none → dx ≠ a → Inv X pins σ (upd (upd H dx (exd dx [(f, y)])) a (exo a C (some dx))) s' → Q () s') : wpAny (model X.prog X.w) A (setAttr (.ref a) f u) Q E s := by
  obtain ⟨nm, q, N, bs, sn, sub, ab, col, dd, k0, k1, k2, k3, k5, hC⟩ := T.cls
  have hcl : PySem.W.clsIn X.K C = some { name := nm, bases := bs, mro := .ref C :: bmB, ns := N, qualname := q, hasDict := true, slotNames := sn, subclasses := sub, abstract := ab, collection := col, hasDel := false } := by
    unfold PySem.W.clsIn
    rw [hC] <;> rfl
  obtain ⟨t1, ho⟩ := exo_at I.hok e
  obtain ⟨hp, g, d, t, os⟩ := s
  refine PySem.W.set_plain I.kIn (ox := { cls := .ref C, dict := none, data := .fields #[.ref t1, .none, .none, .none, .bool false, .none] }) (od := none) ⟨ho, rfl, rfl, trivial⟩ T.sa (osa_first b I.kIn ho hcl rfl rfl hno fun h' tk' dx k dn dne hx hn => ?_)
  have hnd : H dx = none := I.hok.fresh dn
  have nd : ∀ {b : Addr} {o : Obj}, hp.get? b = some o → b ≠ dx := fun {b o} q => Nat.ne_of_lt (Nat.lt_of_lt_of_le (Heap.lt_size q) dn)
  have na : ∀ {b : Addr}, H b = none → b ≠ a := fun {b} n z => by rw [z, e] at n; cases n
  have U : Un X.fs [] H (upd (upd H dx (exd dx [(f, y)])) a (exo a C (some dx))) hp h' :=
    ⟨fun b o q n _ _ => k b o (na n) q, fun b o q n _ _ => ⟨o.slots, k b o (na n) q⟩, fun b o q n _ => by rw [upd_ne (na n), upd_ne (nd q)]; exact n,
     fun b o q _ => by
      by_cases hb : b = a
      · exact ⟨_, by rw [hb]; exact hx⟩
      · exact ⟨o, k b o hb q⟩,
     fun b xs q => by rw [upd_ne (at_ne e q exo_tup), upd_ne (ne_of_none q hnd)]; exact q,
     fun b o v q => by rw [upd_ne (at_ne e q exo_frz), upd_ne (ne_of_none q hnd)]; exact q,
     fun b ps q => ⟨#[], by rw [upd_ne (at_ne e q exo_tbl), upd_ne (ne_of_none q hnd), q]; simp⟩⟩
  refine h dx _ hnd dne (I.un (t' := tk') U fun b o q => ?_)
  by_cases hb : b = a
  · subst hb
    rw [upd_same] at q
    cases q
    exact exo_ok hx
  · rw [upd_ne hb] at q
    by_cases hd : b = dx
    · subst hd
      rw [upd_same] at q
      cases q
      exact exd_ok hn (relO_put (fs := []) ry fun g => True.intro)
    · rw [upd_ne hd] at q
      refine (I.hok b o q).stay (fun c v hc z => k c v ?_ z) (fun c hc => by rw [upd_ne (at_ne e hc exo_own), upd_ne (ne_of_none hc hnd)]; exact hc) (fun c xs hc => by rw [upd_ne (at_ne e hc exo_tup), upd_ne (ne_of_none hc hnd)]; exact hc)
      rcases hc with hc | hc
      · rw [hc]; exact hb
      · exact at_ne e hc exo_own
end
/-- self.f = e, self a new exception -/
def tOstB (a0 : Addr → Addr → Prop) (f : Str) (to te : TE) : TS := fun D σ H => te σ H fun y H1 => to σ H1 fun x H2 => ∃ a C : Addr, x = .ref a ∧ a0 a C ∧ H2 a = some (exo a C none) ∧ ∀ dx, H2 dx = none → dx ≠ a → D.nx σ (upd (upd H2 dx (exd dx [(f, y)])) a (exo a C (some dx)))
/-- the promise of __init__(self, v): self.f = v -/
def spX (C : Addr) (f : Str) : Sp := fun vs H Q _ => ∃ (a : Addr) (y : V), vs = [.ref a, y] ∧ H a = some (exo a C none) ∧ ∀ dx, H dx = none → dx ≠ a → Q .non (upd (upd H dx (exd dx [(f, y)])) a (exo a C (some dx)))
section
variable {X : Cx} {o e : Expr} {es : List Expr} {to te : TE} {ta : TA} {f : Str} {p p' p1 p2 pos : Pos} {B newId : String} {bmB : List Value} {C : Addr}
theorem ps_ostB (b : XB B newId bmB) (T : OexB X.K C newId bmB) (hno : PySem.W.findIn X.K (.ref C) f = some none) (ho : PE X o to) (he : PE X e te) (hs : swapsWith e (some (.Attribute o f p')) pos.line X.env = pure false := by rfl) : PS X (.Assign [.Attribute o f p'] e pos) (tOstB (fun _ C' => C' = C) f to te) :=
  ⟨fun pins s σ H D I h => plainObj_wpAny_Assign_Attribute (thn (he.run pins s σ H _ I h) fun v s1 ⟨y, H1, I1, r1, q1⟩ => thn (ho.run pins s1 σ H1 _ I1 q1) fun u s2 ⟨x, H2, I2, r2, a, C', ex, ec, ea, q⟩ => by
    subst ex
    subst ec
    cases (show u = Value.ref a from r2)
    exact ost_first b T I2 ea hno r1 fun dx s' n ne J => ⟨σ, _, J, q dx n ne⟩) hs⟩
theorem xinit {P : Program} {w : World} {K : PySem.W.Frag} {mg : Str → Option Value} {base : Heap} {x qual : Str} {params : Arguments} {body : List Stmt} {scope : Scope} {fI : Addr} {fd : FuncData} {y : Str}
    (F : FunD K x qual params body scope [] [] fI fd) (S : FnScope ["self", y] ["self", y] scope) (b : XB B newId bmB) (T : OexB K C newId bmB) (hno : PySem.W.findIn K (.ref C) f = some none)
    (hb : ∀ (cdv : Value) (A : Around) (outer : List Env) (s : Shared) (H : Hp) (E : XK), PSs (cxOf (CX P w) P w K mg base ["self", y] qual scope fI cdv A outer s H E) body (tOstB (fun _ C' => C' = C) f (tVar 0) (tVar 1))) :
    FnOk P w K mg base (CX P w) 1 fI fd ["self", y] (spX C f) :=
  okG F S (fun vs H Q E h => by obtain ⟨a, y, rfl, _⟩ := h; rfl) fun cdv A outer s H vs Q E hr h => by
    obtain ⟨a, v, rfl, ha, q⟩ := h
    exact ⟨_, hb cdv A outer s H E, v, rfl, _, rfl, a, C, rfl, rfl, ha, q⟩
/-- C(e) -/
def tMkB (C : Addr) (f : Str) (te : TE) : L2.St → Hp → XK → Prop := fun σ H Q => te σ H fun y H1 => ∀ d, H1 d = none → Q (.ref C) (some d) (upd H1 d (.xd [(f, y)]))
theorem pmk_B {x : Str} {fI : Addr} {k : Nat} {fd : FuncData} {ps : List Str} (b : XB B newId bmB) (T : OexB X.K C newId bmB) (iC : PySem.W.findIn X.K (.ref C) "__init__" = some (some (.ref fI))) (tI : PySem.W.isFn X.K (.ref fI) = true)
    (F1 : FnOk X.prog X.w X.K X.mg X.base (CX X.prog X.w) k fI fd ps (spX C f)) (hr : Room (k + 1) X.A) (hb : Binds X.K fd ps []) (hg : Gl X x) (hm : X.mg x = some (.ref C)) (he : PE X e te)
    (hdb : (x == ("__debug__" : Str)) = false := by decide) (hst : starEach [e] X.env = (false, eval e X.env) :: starEach [] X.env := by rfl) (hpl : (backTo pos (starEach [] X.env)).any (·.1) = false := by rfl) :
    PMk X (.Call (.Name x p) [e] [] pos) (tMkB C f te) := by
  intro pins s σ H Q I h
  obtain ⟨nm, q, N, bs, sn, sub, ab, col, dd, k0, k1, k2, k3, k5, hC⟩ := T.cls
  obtain ⟨initId, EF⟩ := b.F
  have ha : PA X [e] (tCons te tNil) := pa_cons he pa_nil hst
  refine wpAny_Call_Name_kw (ld_glob I hg hm ?_ hdb)
  refine PySem.W.callWith_K (h₀ := X.base) I.ok.mod.kin T.kC (thn (ha.run pos pins s σ H (fun vs H1 => ∃ y, vs = [y] ∧ ∀ d, H1 d = none → Q (.ref C) (some d) (upd H1 d (.xd [(f, y)]))) I (by
    have : tCons te tNil σ H (fun vs H1 => ∃ y, vs = [y] ∧ ∀ d, H1 d = none → Q (.ref C) (some d) (upd H1 d (.xd [(f, y)]))) = te σ H (fun x H1 => ∃ y, [x] = [y] ∧ ∀ d, H1 d = none → Q (.ref C) (some d) (upd H1 d (.xd [(f, y)]))) := rfl
    rw [this]
    have e2 : (fun (x : V) (H1 : Hp) => ∃ y, [x] = [y] ∧ ∀ d, H1 d = none → Q (.ref C) (some d) (upd H1 d (.xd [(f, y)]))) = fun x H1 => ∀ d, H1 d = none → Q (.ref C) (some d) (upd H1 d (.xd [(f, x)])) := by
      funext x H1
      exact propext ⟨fun ⟨y, ey, z⟩ => by cases ey; exact z, fun z => ⟨x, rfl, z⟩⟩
    rw [e2]
    exact h)) fun us s1 hh => ?_) hst hpl
  obtain ⟨vs, H1, I1, r1, y, ev, q1⟩ := hh
  subst ev
  refine ⟨I1.kIn, ?_⟩
  show wpAny _ _ (call (.ref C) us) _ _ _
  obtain ⟨hp, g, dr, tk, os⟩ := s1
  have hsz : hp.objs.size ≤ hp.objs.size + 1 := Nat.le_succ _
  have hn : H1 (hp.objs.size + 1) = none := I1.hok.fresh hsz
  have kk : ∀ b o, hp.get? b = some o → ((hp.push (PySem.W.kdv_tup us)).push (PySem.HandSPX.excO C hp.objs.size)).get? b = some o := fun b o e => Heap.get?_push_of_some _ (Heap.get?_push_of_some _ e)
  have hget : ((hp.push (PySem.W.kdv_tup us)).push (PySem.HandSPX.excO C hp.objs.size)).get? (hp.objs.size + 1) = some (PySem.HandSPX.excO C hp.objs.size) := by heap_get
  have I2 : Inv X pins σ (upd H1 (hp.objs.size + 1) (exo (hp.objs.size + 1) C none)) ⟨(hp.push (PySem.W.kdv_tup us)).push (PySem.HandSPX.excO C hp.objs.size), g, dr, tk, os⟩ :=
    I1.laid (t' := tk) (a := hp.objs.size + 1) (o := exo (hp.objs.size + 1) C none) (h' := (hp.push (PySem.W.kdv_tup us)).push (PySem.HandSPX.excO C hp.objs.size)) kk hsz (exo_ok hget)
  have r2 : Vals [V.ref (hp.objs.size + 1), y] (Value.ref (hp.objs.size + 1) :: us) := .cons rfl r1
  have hq : spX C f [.ref (hp.objs.size + 1), y] (upd H1 (hp.objs.size + 1) (exo (hp.objs.size + 1) C none)) (fun v H2 => v = .non ∧ ∃ d : Addr, H2 (hp.objs.size + 1) = some (exo (hp.objs.size + 1) C (some d)) ∧ H2 d = some (exd d [(f, y)]) ∧ H1 d = none ∧ upd (del H2 (hp.objs.size + 1)) d (.xd [(f, y)]) = upd H1 d (.xd [(f, y)])) (fun _ _ _ => False) := by
    refine ⟨_, y, rfl, upd_same, fun dx hdx ne => ⟨rfl, dx, upd_same, by rw [upd_ne ne, upd_same], by rw [upd_ne ne] at hdx; exact hdx, ?_⟩⟩
    funext c
    by_cases hc : c = dx
    · rw [hc, upd_same, upd_same]
    · rw [upd_ne hc, upd_ne hc]
      by_cases ha : c = hp.objs.size + 1
      · rw [ha, del_same, hn]
      · rw [del_ne ha, upd_ne ha, upd_ne hc, upd_ne ha]
  have hl : (Value.ref (hp.objs.size + 1) :: us).length = ps.length := by rw [← r2.length]; exact F1.len _ _ _ _ hq
  have hus : us.length ≤ sizeLine := by
    have z : us.length = 1 := (Paired.length r1).symm
    rw [z, sizeLine_eq]
    omega
  have bd := hb ⟨(hp.push (PySem.W.kdv_tup us)).push (PySem.HandSPX.excO C hp.objs.size), g, dr, tk, os⟩ (Value.ref (hp.objs.size + 1) :: us) I2.kIn (by rw [List.append_nil]; exact hl)
  rw [List.append_nil] at bd
  have run := F1.run _ X.stack _ _ ⟨Value.ref (hp.objs.size + 1) :: us, []⟩ _ _ _ (fun _ _ _ => False) (hr.make C us []) (I2.env0.make C us []) bd r2 hq
  refine wpAny_call (PySem.HandSPX.call_own EF (fun _ => rfl) (I1.kIn _ _ hC) (PySem.W.looks_findIn I1.kIn iC) (fun self => PySem.W.bind_fn I1.kIn self (beq_iff_eq.mp tI)) hus (codeAny_mono run fun r s' z => ?_))
  match r, z with
  | .error er, z => exact False.elim (passL (X := X.nox) pins σ _ _ er s' (I2.wish _) z)
  | .ok (.ret u), z =>
    obtain ⟨v, H2, os2, bare2, un2, hok2, rv, ev, d, ea, ed, hd1, eq⟩ := z
    subst ev
    obtain ⟨h2, g2, d2, t2, os'⟩ := s'
    exact ⟨rv, mk_end (raises_own T.exC T.tyC) I1 hsz kk un2 hok2 os2 bare2 ea ed hd1 (by rw [eq]; exact q1 d hd1)⟩
  | .ok .next, z => exact z.elim
  | .ok .brk, z => exact z.elim
  | .ok .cont, z => exact z.elim
end
end DL
namespace DL
variable [TB] [LC]
open PySem PySem.Spec PyProof.Rows L2
/-! ### try: .. except A as e: .. except B: .. -/
abbrev Cla := Value × Option Nat × (Addr → Value → Option Addr → TS)
/-- how a suite with 'as' ends: its name is gone -/
def gone (D : Ends) (i : Nat) : Ends := { nx := fun σ' H' => D.nx (σ'.set i none) H', rt := D.rt, bk := fun σ' H' => D.bk (σ'.set i none) H', ct := fun σ' H' => D.ct (σ'.set i none) H' }
def wClas (K : PySem.W.Frag) (Wout : WX) (D : Ends) : List Cla → WX
  | [] => Wout
  | (c, oi, ts) :: r => fun cls d σ H => ∃ b, PySem.W.exmOne K cls c = some b ∧ (b = true → ∀ a, H a = none → (match oi with
      | none => ts a cls d D σ H
      | some i => ts a cls d (gone D i) (σ.set i (some (.ref a))) H)) ∧ (b = false → wClas K Wout D r cls d σ H)
inductive ClasOk (X : Cx) : List ExceptHandler → List Cla → Prop
  | nil : ClasOk X [] []
  | bare {x : Str} {c : Value} {ts : Addr → Value → Option Addr → TS} {b₀ : Stmt} {suite : List Stmt} {np pos' : Pos} {hds : List ExceptHandler} {l : List Cla} (hc : Names X x c)
      (hsu : ∀ (a : Addr) (oe : Obj) (cls : Value) (d : Option Addr) (pn : List (Addr × Obj)), Zc cls d oe → (∃ vs, oe.data = .fields vs) → PSs (X.suite a ((a, oe) :: pn)) (b₀ :: suite) (ts a cls d)) (r : ClasOk X hds l) :
      ClasOk X (.ExceptHandler (some (.Name x np)) none (b₀ :: suite) pos' :: hds) ((c, none, ts) :: l)
  | as {x n : Str} {i : Nat} {c : Value} {ts : Addr → Value → Option Addr → TS} {b₀ : Stmt} {suite : List Stmt} {np pos' : Pos} {hds : List ExceptHandler} {l : List Cla} (hN : X.N.Nodup) (hi : X.N[i]? = some n) (hln : X.env.kindOf n = some .local) (hc : Names X x c)
      (hsu : ∀ (a : Addr) (oe : Obj) (cls : Value) (d : Option Addr) (pn : List (Addr × Obj)), Zc cls d oe → (∃ vs, oe.data = .fields vs) → PSs (X.suite a ((a, oe) :: pn)) (b₀ :: suite) (ts a cls d)) (r : ClasOk X hds l) :
      ClasOk X (.ExceptHandler (some (.Name x np)) (some n) (b₀ :: suite) pos' :: hds) ((c, some i, ts) :: l)
section
variable {X : Cx} {body : List Stmt} {h₀ : ExceptHandler} {hds : List ExceptHandler} {l : List Cla} {pos : Pos} {tb : WX → TS} {Wout : WX}
theorem ps_clas (hs : X.stack = X.env :: X.outer) (hf : X.env.frame = some X.env.locals) (tk : Takes X Wout)
    (hb : ∀ (W : WX) (pn : List (Addr × Obj)) (xe : Value → Shared → Prop), Takes (X.tr pn xe) W → PassesOwn (model X.prog X.w) X.A X.env xe → PSs (X.tr pn xe) body (tb W))
    (hh : ClasOk X (h₀ :: hds) l) : PS X (.Try body (h₀ :: hds) [] [] pos) (fun D σ H => tb (wClas X.K Wout D l) D σ H) := by
  refine ⟨fun pins s σ H D I h => ?_⟩
  have ok := I.ok
  have hfr : X.A.frames = some (X.env :: X.outer) := by rw [ok.frames, hs]
  refine wpAny_Try_except ?_
  refine wpAny_mono ((hb (wClas X.K Wout D l) (X.pn ++ pins) (fun e s₁ => wpAny (model X.prog X.w) X.A (noteFrame e X.env) (fun _ s₂ => wpAny (model X.prog X.w) X.A (setFlight e none) (fun _ s₃ => wpAny (model X.prog X.w) X.A (handleBy e X.env (h₀ :: hds)) (SP X pins D) X.xe s₃) X.xe s₂) X.xe s₁) (fun u s' xx => ?_) PassesOwn.looking).run [] s σ H D (I.toTry _) h) (fun f s1 hsp => ?_) (fun e s1 he => he)
  · obtain ⟨a, B, sI, pins', σ', H', cls, d, rfl, J', nb, up, sky, na, os, ag, w⟩ := xx
    have J : Inv X pins σ' H' sI := J'.ofTry ok
    have sky2 : Sky B (X.env :: X.outer) a (Zc cls d) X.env.locals s'.heap := by rw [← hs]; exact sky
    show wpAny (model X.prog X.w) X.A (noteFrame (.ref a) X.env) _ _ _
    refine Sky.land Zc.steady hfr hf sky2 fun h3 fl3 up3 => ?_
    have J3 : Inv X pins σ' H' { s' with heap := h3 } := J.landed nb fl3.1 (up.trans up3) os ag
    obtain ⟨oe3, vs3, he3, hz3, hd3⟩ := fl3.there
    have nfr : a ∉ frs (X.env :: X.outer) := fun hm => by
      obtain ⟨_, o', e', hnf⟩ := fl3.2.2.1.mem hm
      rw [he3] at e'; cases e'
      exact hnf _ hd3
    have nL : a ≠ X.env.locals := fun z => nfr (List.mem_filterMap.mpr ⟨X.env, List.mem_cons_self, by rw [hf, z]⟩)
    have nF : a ∉ X.fs := fun hm => by
      obtain ⟨e, he, q⟩ := List.mem_filterMap.mp hm
      exact nfr (List.mem_filterMap.mpr ⟨e, List.mem_cons_of_mem _ he, q⟩)
    have S3 := J3.suite he3 hd3 na nL nF
    have LT : PySem.W.Looks (model X.prog X.w) h3 (typeOf (.ref a)) cls := fun A Q E s k q => wpAny_typeOf_ref (k _ _ he3) (by rw [hz3.1]; exact q)
    have test : ∀ {x : Str} {c : Value} {np : Pos} {Q : Value → Shared → Prop} {E : Value → Shared → Prop}, Names X x c → Q c { s' with heap := h3 } → wpAny (model X.prog X.w) (X.A.mark (some (.ref a))) (eval (.Name x np) X.env) Q E { s' with heap := h3 } := fun {x c np Q E} hc q => by
      obtain ⟨hg, hdbg, hm | ⟨hm, hv, hnn⟩⟩ := hc
      · exact ld_glob (X := X.suite a ((a, oe3) :: (X.pn ++ pins))) S3 hg hm q hdbg
      · exact ld_blt (X := X.suite a ((a, oe3) :: (X.pn ++ pins))) S3 hg hm hv q hnn hdbg
    have go : ∀ {hds' : List ExceptHandler} {l' : List Cla}, ClasOk X hds' l' → wClas X.K Wout D l' cls d σ' H' → wpAny (model X.prog X.w) X.A (handleBy (.ref a) X.env hds') (SP X pins D) X.xe { s' with heap := h3 } := by
      intro hds' l' hk
      induction hk with
      | nil =>
        intro w
        refine wpAny_handleBy_nil ?_
        obtain ⟨k1, k2, k3, oe, vs, T, oT, ts', he, hz, hd, h1, hr⟩ := id fl3
        unfold PySem.passOn
        refine wpAny_bind (wpAny_field he hd h1 ?_)
        rw [if_neg (show ¬ ((Value.ref T == Value.none) = true) from by simp)]
        have fin : wpAny (model X.prog X.w) X.A (setFlight (.ref a) X.env.frame) (fun _ s4 => wpAny (model X.prog X.w) X.A (throw (.ref a) : Sem Flow) (SP X pins D) X.xe s4) X.xe { s' with heap := h3 } := by
          rw [hf]
          exact HandSPX.setFlight_upZ fl3 fun h4 hh4 up4 => wpAny_throw (tk _ _ ⟨a, B, sI, pins, σ', H', cls, d, rfl, J, nb, (up.trans up3).trans up4, .inr (.inr (by rw [hs]; exact hh4)), na, os, ag, w⟩)
        first
          | exact wpAny_bind (wpAny_pure (wpAny_bind fin))
          | exact wpAny_bind fin
      | @bare x c ts b₀ suite np pos' hds2 l2 hc hsu r ih =>
        rintro ⟨b, hb1, hyes, hno⟩
        refine wpAny_handleBy_cons (codeAny_handlers_test ?_) (by intro q; cases q)
        refine test hc ((PySem.W.exm_one (M := model X.prog X.w) J3.kIn LT hb1).here ?_)
        cases b with
        | false => exact ih (hno rfl)
        | true =>
          refine codeAny_handlers_suite (HandSPX.lands_againZ fl3 fun h4 fl4 up4 => ?_)
          have J4 : Inv X pins σ' H' { s' with heap := h4 } := J.landed nb fl4.1 ((up.trans up3).trans up4) os ag
          obtain ⟨oe4, vs4, he4, hz4, hd4⟩ := fl4.there
          refine wpAny_mono ((hsu a oe4 cls d (X.pn ++ pins) hz4 ⟨_, hd4⟩).run [] _ _ H' _ (J4.suite he4 hd4 na nL nF) (hyes rfl a na)) (fun f s6 z => ?_) (fun _ _ z => False.elim z)
          match f, z with
          | .next, ⟨σ6, H6, S6, q6⟩ => exact ⟨_, _, S6.unsuite ok, q6⟩
          | .brk, ⟨σ6, H6, S6, q6⟩ => exact ⟨_, _, S6.unsuite ok, q6⟩
          | .cont, ⟨σ6, H6, S6, q6⟩ => exact ⟨_, _, S6.unsuite ok, q6⟩
          | .ret u, ⟨v6, σ6, H6, S6, r6, q6⟩ => exact ⟨_, _, _, S6.unsuite ok, r6, q6⟩
      | @as x n i c ts b₀ suite np pos' hds2 l2 hN hi hln hc hsu r ih =>
        rintro ⟨b, hb1, hyes, hno⟩
        refine wpAny_handleBy_cons (codeAny_handlers_test ?_) (by intro q; cases q)
        refine test hc ((PySem.W.exm_one (M := model X.prog X.w) J3.kIn LT hb1).here ?_)
        cases b with
        | false => exact ih (hno rfl)
        | true =>
          refine codeAny_handlers_suite_as (HandSPX.lands_againZ fl3 fun h4 fl4 up4 => ?_)
          have J4 : Inv X pins σ' H' { s' with heap := h4 } := J.landed nb fl4.1 ((up.trans up3).trans up4) os ag
          obtain ⟨oe4, vs4, he4, hz4, hd4⟩ := fl4.there
          refine store_ok (X := X.suite a ((a, oe4) :: (X.pn ++ pins))) (v := .ref a) (J4.suite he4 hd4 na nL nF) hN hi (.inl hln) rfl (fun s5 S5 => ?_) (.inr hln)
          refine wpAny_mono ((hsu a oe4 cls d (X.pn ++ pins) hz4 ⟨_, hd4⟩).run [] s5 _ H' _ S5 (hyes rfl a na)) (fun f s6 z => ?_) (fun _ _ z => False.elim z)
          have bye : ∀ {σ6 : L2.St} {H6 : Hp} {Q : Shared → Prop}, Inv (X.suite a ((a, oe4) :: (X.pn ++ pins))) [] σ6 H6 s6 → (∀ s7, Inv X pins (σ6.set i none) H6 s7 → Q s7) → wpAny (model X.prog X.w) X.A (do bindName X.env n .none; unbindBehindTheSuite X.env n pos') (fun _ s7 => Q s7) X.xe s6 := fun {σ6 H6 Q} S6 hq => gone_ok (S6.unsuite ok) hN hi hln hq
          match f, z with
          | .next, ⟨σ6, H6, S6, q6⟩ => exact bye S6 fun s7 J7 => ⟨_, _, J7, q6⟩
          | .brk, ⟨σ6, H6, S6, q6⟩ => exact bye S6 fun s7 J7 => ⟨_, _, J7, q6⟩
          | .cont, ⟨σ6, H6, S6, q6⟩ => exact bye S6 fun s7 J7 => ⟨_, _, J7, q6⟩
          | .ret u, ⟨v6, σ6, H6, S6, r6, q6⟩ => exact bye S6 fun s7 J7 => ⟨_, _, _, J7, r6, q6⟩
    exact go hh w
  · match f, hsp with
    | .next, ⟨σ', H', J', q⟩ => exact wpAny_execs_nil ⟨σ', H', J'.ofTry ok, q⟩
    | .brk, ⟨σ', H', J', q⟩ => exact ⟨σ', H', J'.ofTry ok, q⟩
    | .cont, ⟨σ', H', J', q⟩ => exact ⟨σ', H', J'.ofTry ok, q⟩
    | .ret u, ⟨v, σ', H', J', r, q⟩ => exact ⟨v, σ', H', J'.ofTry ok, r, q⟩
end
end DL
namespace DL
variable [TB] [LC]
open PySem L2 PySem.DLX
/-! ### raise C(e) -/
def raiseF (C : Addr) (f : Str) (m : M D) : MS := doM m fun d st => .err ⟨.ref C, [(f, d)]⟩ st
theorem ds_raise {X : Cx} {F : Fr} {W : WX} {q : Bool} {e : Expr} {x f : Str} {p pos pos2 : Pos} {C fI : Addr} {k : Nat} {fd : FuncData} {ps : List Str} {B newId : String} {bmB : List Value} {m : M D} (hc : X.calm = true) (b : XB B newId bmB) (T : OexB X.K C newId bmB) (iC : PySem.W.findIn X.K (.ref C) "__init__" = some (some (.ref fI))) (tI : PySem.W.isFn X.K (.ref fI) = true)
    (F1 : FnOk X.prog X.w X.K X.mg X.base (CX X.prog X.w) k fI fd ps (spX C f)) (hr : Room (k + 1) X.A) (tk : Takes X W) (hb : Binds X.K fd ps []) (hg : Gl X x) (hm : X.mg x = some (.ref C)) (he : PE X e (tM X.K F W q (RSh X.K) m))
    (hdb : (x == ("__debug__" : Str)) = false := by decide) (hst : starEach [e] X.env = (false, eval e X.env) :: starEach [] X.env := by rfl) (hpl : (backTo pos (starEach [] X.env)).any (·.1) = false := by rfl) :
    PS X (.Raise (some (.Call (.Name x p) [e] [] pos)) none pos2) (tS X.K F W (raiseF C f m)) :=
  PS_mono (ps_raise hc tk (pmk_B b T iC tI F1 hr hb hg hm he hdb hst hpl)) fun D σ H h => do_of (R := RSh X.K) h fun d st1 G1 fpf1 v H1 S1 r1 A1 a ha =>
    A1 a [(f, v)] σ _ G1 fpf1 (Same.refl G1) (S1.allocH ha) ⟨S1.freshG ha, S1.fresh ha, S1.freshP ha, fun i hi hb => S1.ne_fp ha hi _ hb rfl⟩ upd_same rfl (.cons r1 .nil)
/-! ### try -/
/-- the exception's dict stays as it is, meanwhile -/
def Fr.hideG (F : Fr) (G : Hp) (a : Addr) (o : HO) : Fr := { F.hide a o with G0 := G }
instance gvHideG {F : Fr} {n : Nat} {G : Hp} {a : Addr} {o : HO} [k : GvOk F n] : GvOk (F.hideG G a o) n := ⟨k.ok⟩
theorem gvn {F : Fr} {n i : Nat} [k : GvOk F n] (h : i < n := by decide) : F.gv i = none := k.none h
section
variable {K : PySem.W.Frag} {F : Fr} {W : WX} {G0 G H : Hp} {fpf : Nat → List Addr} {σ : St} {st : DSt} {a : Addr} {o : HO} {r : Out} {E : Ends} {i : Nat}
theorem Sync.hideG (S : Sync K F G fpf σ H st) (p : Apart F G fpf st a) (ha : H a = some o) (pl : Pl o) : Sync K (F.hideG G a o) G fpf σ H st := by
  have S' := S.hide p ha pl
  exact ⟨S'.len, S'.sh, S'.ow, S'.sep, Same.refl G, S'.gh, fun a o e => .inl e, S'.pr, S'.live, S'.hidG, S'.hidP, S'.ng, S'.np, S'.tab, S'.gv⟩
structure Okh (F : Fr) (G0 : Hp) (a : Addr) : Prop where
  pr : F.pr a = none
  he : F.He a = none
  hid : ∀ b, F.hid b → ∃ u, F.pr b = some u
  g0 : Same F.G0 G0
  new : ∀ a o, G0 a = some o → F.G0 a = some o ∨ F.He a = none
theorem Sync.unhideG (k : Okh F G0 a) (S : Sync K (F.hideG G0 a o) G fpf σ H st) : Sync K F G fpf σ H st := by
  have S' : Sync K (F.hide a o) G fpf σ H st := ⟨S.len, S.sh, S.ow, S.sep, k.g0.trans S.g0, S.gh, fun a u e => (S.new a u e).elim (k.new a u) .inr, S.pr, S.live, S.hidG, S.hidP, S.ng, S.np, S.tab, S.gv⟩
  exact (S'.unhide k.pr k.he k.hid).1
theorem Fresh.unhideG {d : D} {v : V} (f : Fresh K (F.hideG G0 a o) G fpf st H d v) : Fresh K F G fpf st H d v := by
  obtain ⟨b, fp, e, ow, nd, off⟩ := f.ex
  refine ⟨b, fp, e, ow, nd, fun c hc => ⟨(off c hc).1, ⟨(off c hc).2.1.1, ?_⟩, (off c hc).2.2⟩⟩
  have z : upd F.pr a o c = none := (off c hc).2.1.2
  by_cases y : c = a
  · rw [y, upd_same] at z; cases z
  · rw [upd_ne y] at z; exact z
theorem Fresh.forget {d : D} {v : V} (f : Fresh K F G fpf st H d v) : Fresh K F G fpf (st.set i none) H d v := by
  obtain ⟨b, fp, e, ow, nd, off⟩ := f.ex
  refine ⟨b, fp, e, ow, nd, fun c hc => ⟨(off c hc).1, (off c hc).2.1, fun j hj => ?_⟩⟩
  rcases ow_set hj with ⟨_, m, d, z⟩ | ⟨_, hj⟩
  · cases z
  · exact (off c hc).2.2 j hj
end
/-- how a suite ends: it raises nothing; its name is gone -/
def bareO : Out → Out
  | .err _ _ => .stuck
  | r => r
def goneO (i : Nat) : Out → Out
  | .nx st => .nx (st.set i none)
  | .rt f d st => .rt f d (st.set i none)
  | .bk st => .bk (st.set i none)
  | .ct st => .ct (st.set i none)
  | _ => .stuck
def suiteO (oi : Option Nat) (sm : Addr → Exc → MS) (x : Exc) (st : DSt) (a : Addr) : Out := match oi with
  | none => bareO (sm a x st)
  | some i => goneO i (sm a x (st.set i (some (.sh (.rf a)))))
open Classical in
/-- an end that is the same wherever the exception stands -/
noncomputable def anyA (f : Addr → Out) : Out := if h : ∃ r, ∀ a, f a = r then h.choose else .stuck
theorem anyA_eq {f : Addr → Out} {r : Out} (h : ∀ a, f a = r) : anyA f = r := by
  have e : ∃ r, ∀ a, f a = r := ⟨r, h⟩
  unfold anyA
  rw [dif_pos e, ← e.choose_spec 0, h 0]
theorem anyA_at {f : Addr → Out} : anyA f = .stuck ∨ ∀ a, f a = anyA f := by
  unfold anyA
  by_cases e : ∃ r, ∀ a, f a = r
  · rw [dif_pos e]; exact .inr e.choose_spec
  · rw [dif_neg e]; exact .inl rfl
structure Hd where
  C : Addr
  oi : Option Nat
  sm : Addr → Exc → MS
noncomputable def catchM (Es : List Addr) : List Hd → Exc → MS
  | [], x => fun st => .err x st
  | h :: r, x => fun st => match x.cls with
    | .ref C' => if C' ∈ Es then (if C' = h.C then anyA (suiteO h.oi h.sm x st) else catchM Es r x st) else .stuck
    | _ => .stuck
noncomputable def tryM (Es : List Addr) (mb : MS) (hs : List Hd) : MS := fun st => match mb st with
  | .err x st' => catchM Es hs x st'
  | r => r
/-- own exceptions and their bases -/
structure Exs (K : PySem.W.Frag) (Es : List Addr) : Prop where
  ex : ∀ C ∈ Es, ∃ (B newId : String) (bmB : List Value), XB B newId bmB ∧ OexB K C newId bmB ∧ ∀ a : Addr, bmB.contains (.ref a) = false
theorem exm_of {K : PySem.W.Frag} {Es : List Addr} {C C' : Addr} (h : Exs K Es) (h1 : C ∈ Es) (h2 : C' ∈ Es) : PySem.W.exmOne K (.ref C') (.ref C) = some (decide (C' = C)) := by
  obtain ⟨B, newId, bm, b, T, n⟩ := h.ex C h1
  obtain ⟨B', newId', bm', b', T', n'⟩ := h.ex C' h2
  obtain ⟨nm, q, N, bs, sn, sub, ab, col, dd, k0, k1, k2, k3, k5, hC⟩ := T.cls
  obtain ⟨nm', q', N', bs', sn', sub', ab', col', dd', k0', k1', k2', k3', k5', hC'⟩ := T'.cls
  unfold PySem.W.exmOne
  rw [if_pos (by rw [T.exC]; rfl)]
  unfold PySem.W.kitCls
  dsimp only
  have c1 : (PySem.W.clsIn K C).isSome = true := by unfold PySem.W.clsIn; rw [hC]; rfl
  rw [if_pos (by rw [c1, T.tyC]; rfl)]
  show PySem.W.mroIn K C' (.ref C) = _
  unfold PySem.W.mroIn
  have c2 : PySem.W.clsIn K C' = some { name := nm', bases := bs', mro := .ref C' :: bm', ns := N', qualname := q', hasDict := true, slotNames := sn', subclasses := sub', abstract := ab', collection := col', hasDel := false } := by
    unfold PySem.W.clsIn
    rw [hC'] <;> rfl
  rw [c2, Option.bind_some, if_neg (by simp), List.contains_cons, n' C]
  by_cases c : C' = C
  · subst c; simp
  · have c' : ¬ C = C' := fun z => c z.symm
    simp [c, c']
/-- what is known of the exception in a suite -/
structure Xk (K : PySem.W.Frag) (G0 : Hp) (x : Exc) (cls : Value) (d : Option Addr) (dd : Addr) (fv : List (Str × V)) : Prop where
  hc : cls = x.cls
  hd : d = some dd
  hk : fv.map (·.1) = x.fs.map (·.1)
  hr : RepA K G0 (x.fs.map (·.2)) (fv.map (·.2))
def tsD (K : PySem.W.Frag) (F : Fr) (sm : Addr → Exc → MS) (a : Addr) (cls : Value) (d : Option Addr) : TS := fun D σ H => ∃ (x : Exc) (dd : Addr) (fv : List (Str × V)) (G0 : Hp), Xk K G0 x cls d dd fv ∧ tS K (F.hideG G0 dd (.xd fv)) WF (sm a x) D σ H
inductive HdsD (X : Cx) (F : Fr) (Es : List Addr) : List ExceptHandler → List Hd → Prop
  | nil : HdsD X F Es [] []
  | bare {x : Str} {C : Addr} {sm : Addr → Exc → MS} {b₀ : Stmt} {suite : List Stmt} {np pos' : Pos} {hds : List ExceptHandler} {l : List Hd} (hE : C ∈ Es) (hc : Names X x (.ref C))
      (hsu : ∀ (a : Addr) (oe : Obj) (cls : Value) (d : Option Addr) (pn : List (Addr × Obj)), Zc cls d oe → (∃ vs, oe.data = .fields vs) → ∀ (x : Exc) (dd : Addr) (fv : List (Str × V)) (G0 : Hp), Xk X.K G0 x cls d dd fv → PSs (X.suite a ((a, oe) :: pn)) (b₀ :: suite) (tS X.K (F.hideG G0 dd (.xd fv)) WF (sm a x)))
      (r : HdsD X F Es hds l) : HdsD X F Es (.ExceptHandler (some (.Name x np)) none (b₀ :: suite) pos' :: hds) (⟨C, none, sm⟩ :: l)
  | as {x n : Str} (i : Nat) {C : Addr} {sm : Addr → Exc → MS} {b₀ : Stmt} {suite : List Stmt} {np pos' : Pos} {hds : List ExceptHandler} {l : List Hd} (hE : C ∈ Es) (hg : F.gv i = none) (hN : X.N.Nodup) (hi : X.N[i]? = some n) (hln : X.env.kindOf n = some .local) (hc : Names X x (.ref C))
      (hsu : ∀ (a : Addr) (oe : Obj) (cls : Value) (d : Option Addr) (pn : List (Addr × Obj)), Zc cls d oe → (∃ vs, oe.data = .fields vs) → ∀ (x : Exc) (dd : Addr) (fv : List (Str × V)) (G0 : Hp), Xk X.K G0 x cls d dd fv → PSs (X.suite a ((a, oe) :: pn)) (b₀ :: suite) (tS X.K (F.hideG G0 dd (.xd fv)) WF (sm a x)))
      (r : HdsD X F Es hds l) : HdsD X F Es (.ExceptHandler (some (.Name x np)) (some n) (b₀ :: suite) pos' :: hds) (⟨C, some i, sm⟩ :: l)
def claD (K : PySem.W.Frag) (F : Fr) (l : List Hd) : List Cla := l.map fun h => (.ref h.C, h.oi, tsD K F h.sm)
theorem hds_cla {X : Cx} {F : Fr} {Es : List Addr} {hds : List ExceptHandler} {l : List Hd} (h : HdsD X F Es hds l) : ClasOk X hds (claD X.K F l) ∧ (∀ k ∈ l, k.C ∈ Es) ∧ ∀ k ∈ l, ∀ i, k.oi = some i → F.gv i = none := by
  induction h with
  | nil => exact ⟨.nil, fun k hk => (by cases hk), fun k hk => (by cases hk)⟩
  | bare hE hc hsu r ih =>
    refine ⟨.bare hc (fun a oe cls d pn hz hf => ⟨fun pins st σ H D I ⟨x, dd, fv, G0, k, z⟩ => (hsu a oe cls d pn hz hf x dd fv G0 k).run pins st σ H D I z⟩) ih.1, fun k hk => ?_, fun k hk j ej => ?_⟩
    · rcases List.mem_cons.mp hk with rfl | hk
      · exact hE
      · exact ih.2.1 k hk
    · rcases List.mem_cons.mp hk with rfl | hk
      · cases ej
      · exact ih.2.2 k hk j ej
  | as i hE hg hN hi hln hc hsu r ih =>
    refine ⟨.as hN hi hln hc (fun a oe cls d pn hz hf => ⟨fun pins st σ H D I ⟨x, dd, fv, G0, k, z⟩ => (hsu a oe cls d pn hz hf x dd fv G0 k).run pins st σ H D I z⟩) ih.1, fun k hk => ?_, fun k hk j ej => ?_⟩
    · rcases List.mem_cons.mp hk with rfl | hk
      · exact hE
      · exact ih.2.1 k hk
    · rcases List.mem_cons.mp hk with rfl | hk
      · cases ej; exact hg
      · exact ih.2.2 k hk j ej
section
variable {K : PySem.W.Frag} {F : Fr} {W : WX} {G0 G H : Hp} {fpf : Nat → List Addr} {σ : St} {st : DSt} {a : Addr} {o : HO} {r : Out} {E : Ends} {i : Nat}
theorem suite_bare (k : Okh F G0 a) (A : AtS K F W (bareO r) G0 E) : AtS K (F.hideG G0 a o) WF r G0 E := by
  cases r with
  | nx st' => exact fun σ' H' G' fpf' g S => A σ' H' G' fpf' g (S.unhideG k)
  | rt fr d st' =>
    cases fr with
    | false => exact fun v σ' H' G' fpf' g S r => A v σ' H' G' fpf' g (S.unhideG k) r
    | true => exact fun v σ' H' G' fpf' g S r => A v σ' H' G' fpf' g (S.unhideG k) r.unhideG
  | bk st' => exact fun σ' H' G' fpf' g S => A σ' H' G' fpf' g (S.unhideG k)
  | ct st' => exact fun σ' H' G' fpf' g S => A σ' H' G' fpf' g (S.unhideG k)
  | err x st' => exact A.elim
  | stuck => exact A.elim
theorem suite_gone (hg : F.gv i = none) (k : Okh F G0 a) (A : AtS K F W (goneO i r) G0 E) : AtS K (F.hideG G0 a o) WF r G0 (gone E i) := by
  cases r with
  | nx st' => exact fun σ' H' G' fpf' g S => A (σ'.set i none) H' G' fpf' g ((S.unhideG k).any i none hg)
  | rt fr d st' =>
    cases fr with
    | false => exact fun v σ' H' G' fpf' g S r => A v σ' H' G' fpf' g ((S.unhideG k).forget i) r
    | true => exact fun v σ' H' G' fpf' g S r => A v σ' H' G' fpf' g ((S.unhideG k).forget i) r.unhideG.forget
  | bk st' => exact fun σ' H' G' fpf' g S => A (σ'.set i none) H' G' fpf' g ((S.unhideG k).any i none hg)
  | ct st' => exact fun σ' H' G' fpf' g S => A (σ'.set i none) H' G' fpf' g ((S.unhideG k).any i none hg)
  | err x st' => exact A.elim
  | stuck => exact A.elim
theorem catch_of {Es : List Addr} (hE : Exs K Es) {x : Exc} {a0 : Addr} {fv : List (Str × V)} {D : Ends} (S : Sync K F G fpf σ H st) (ap : Apart F G fpf st a0) (ha : H a0 = some (.xd fv)) (hk : fv.map (·.1) = x.fs.map (·.1)) (hr : RepA K G (x.fs.map (·.2)) (fv.map (·.2))) :
    ∀ (l : List Hd), (∀ k ∈ l, k.C ∈ Es) → (∀ k ∈ l, ∀ i, k.oi = some i → F.gv i = none) → AtS K F W (catchM Es l x st) G D → wClas K W D (claD K F l) x.cls (some a0) σ H
  | [], _, _, A => A a0 fv σ H G fpf (Same.refl G) S ap ha hk hr
  | h :: r, hm, hgl, A => by
    unfold catchM at A
    split at A
    · rename_i C' ec
      by_cases c : C' ∈ Es
      · rw [if_pos c] at A
        show ∃ b, PySem.W.exmOne K x.cls (.ref h.C) = some b ∧ _
        rw [ec]
        refine ⟨decide (C' = h.C), exm_of hE (hm h List.mem_cons_self) c, fun e a na => ?_, fun e => ?_⟩
        · have e' : C' = h.C := of_decide_eq_true e
          rw [if_pos e'] at A
          have ok : Okh F G a0 := ⟨ap.pr, ap.he, S.hidP, S.g0, S.new⟩
          rcases anyA_at (f := suiteO h.oi h.sm x st) with z | z
          · rw [z] at A; exact A.elim
          · rw [← z a] at A
            unfold suiteO at A
            cases ho : h.oi with
            | none =>
              rw [ho] at A
              exact ⟨x, a0, fv, G, ⟨ec.symm, rfl, hk, hr⟩, st, G, fpf, S.hideG ap ha ⟨fun _ z => (nomatch z), fun _ z => (nomatch z)⟩, suite_bare ok A⟩
            | some i =>
              rw [ho] at A
              exact ⟨x, a0, fv, G, ⟨ec.symm, rfl, hk, hr⟩, st.set i (some (.sh (.rf a))), G, fpf, (S.hideG ap ha ⟨fun _ z => (nomatch z), fun _ z => (nomatch z)⟩).assign i (.rf a) (hgl h List.mem_cons_self i ho), suite_gone (hgl h List.mem_cons_self i ho) ok A⟩
        · have e' : ¬ C' = h.C := of_decide_eq_false e
          rw [if_neg e'] at A
          have z := catch_of hE S ap ha hk hr r (fun k hk => hm k (List.mem_cons_of_mem _ hk)) (fun k hk => hgl k (List.mem_cons_of_mem _ hk)) A
          rw [ec] at z
          exact z
      · rw [if_neg c] at A; exact A.elim
    · exact A.elim
end
theorem ds_try {X : Cx} {F : Fr} {W : WX} {Es : List Addr} {body : List Stmt} {h₀ : ExceptHandler} {hds : List ExceptHandler} {l : List Hd} {pos : Pos} {mb : MS} (hE : Exs X.K Es) (hs : X.stack = X.env :: X.outer) (hf : X.env.frame = some X.env.locals) (tk : Takes X W)
    (hb : ∀ (W' : WX) (pn : List (Addr × Obj)) (xe : Value → Shared → Prop), Takes (X.tr pn xe) W' → PassesOwn (model X.prog X.w) X.A X.env xe → PSs (X.tr pn xe) body (tS X.K F W' mb))
    (hh : HdsD X F Es (h₀ :: hds) l) : PS X (.Try body (h₀ :: hds) [] [] pos) (tS X.K F W (tryM Es mb l)) := by
  obtain ⟨h1, h2⟩ := hds_cla hh
  refine PS_mono (ps_clas (tb := fun W' => tS X.K F W' mb) hs hf tk hb h1) fun D σ H ⟨st, G, fpf, S, A⟩ => ⟨st, G, fpf, S, ?_⟩
  unfold tryM at A
  cases e : mb st with
  | nx st' => rw [e] at A; exact A
  | rt fr d st' => rw [e] at A; cases fr <;> exact A
  | bk st' => rw [e] at A; exact A
  | ct st' => rw [e] at A; exact A
  | stuck => rw [e] at A; exact A
  | err x st' =>
    rw [e] at A
    exact fun a0 fv σ' H' G' fpf' g S' ap ha hk hr => catch_of hE S' ap ha hk hr l h2.1 h2.2 (AtS.back A g)
/-- e.f, e the exception that the suite holds in slot i -/
def xfM (i : Nat) (a : Addr) (C : Addr) (f : Str) (x : Exc) : M D := fun st => match st[i]?, x.cls with
  | some (some (Slot.sh (.rf a'))), .ref C' => if a' = a ∧ C' = C then (match x.fs.lookup f with
    | some d => .ok d st
    | none => .stuck) else .stuck
  | _, _ => .stuck
theorem de_xf (i : Nat) {X : Cx} {F : Fr} {W : WX} {q : Bool} {a C dd : Addr} {oe : Obj} {cls : Value} {d : Option Addr} {pn : List (Addr × Obj)} {x : Exc} {fv : List (Str × V)} {G0 : Hp} {y f : Str} {p pos : Pos} (k : Xk X.K G0 x cls d dd fv) (T : XfC X.K C) (hno : PySem.W.findIn X.K (.ref C) f = some none) (hz : Zc cls d oe) (hf : ∃ vs, oe.data = .fields vs)
    (hN : X.N[i]? = some y := by rfl) (hv : Vis X.env.scope y := by first | exact Or.inl rfl | exact Or.inr (Or.inl rfl) | exact Or.inr (Or.inr rfl)) (hd : (y == ("__debug__" : Str)) = false := by decide) (hcd : (y == ("__classdict__" : Str)) = false := by decide)
    (hb : attributeBase (.Name y p) f X.env (eval (.Name y p) X.env) = eval (.Name y p) X.env := by rfl) :
    PE (X.suite a ((a, oe) :: pn)) (.Attribute (.Name y p) f pos) (tM X.K (F.hideG G0 dd (.xd fv)) W q (RSh X.K) (xfM i a C f x)) :=
  PE_mono (pe_xf T hno hz hf (pv (X := X.suite a ((a, oe) :: pn)) i hN hv hd hcd) hb) fun σ H Q ⟨st, G, fpf, S, A⟩ => by
    unfold xfM at A
    split at A
    · rename_i a' C' es ec
      by_cases c : a' = a ∧ C' = C
      · rw [if_pos c] at A
        obtain ⟨rfl, rfl⟩ := c
        split at A
        · rename_i z hz'
          obtain ⟨v, e1, r1⟩ := S.sh i _ es
          cases r1
          obtain ⟨u, hu, ru⟩ := look_rep k.hk k.hr hz'
          exact ⟨.ref a', e1, rfl, k.hc.trans ec, dd, fv, u, k.hd, S.pr dd _ upd_same, hu, A.done S (Rep.mono S.g0 ru)⟩
        · exact A.elim
      · rw [if_neg c] at A; exact A.elim
    · exact A.elim
end DL
namespace DL
variable [TB] [LC]
open PySem L2
/-! ### enumerate, zip -/
def enumD (k : Int) : List D → List D
  | [] => []
  | d :: ds => .tup [.int k, d] :: enumD (k + 1) ds
def zipD : List D → List D → List D
  | d :: ds, e :: es => .tup [d, e] :: zipD ds es
  | _, _ => []
section
variable {K : PySem.W.Frag} {G : Hp}
def lstOf : D → Option (List D)
  | .lst ds => some ds
  | .kl ds => some ds
  | _ => none
variable {X : Cx} {F : Fr} {W : WX} {q q1 q2 : Bool} {e e2 : Expr} {elts : List Expr} {kk : Nat} {m m2 : M D} {pos p tpos : Pos}
def enumM (m : M D) : M (List D) := bnd m fun d => bnd (lift (lstOf d)) fun ds => ret (enumD 0 ds)
def zipM (m m2 : M D) : M (List D) := bnd (argsM [m, m2]) fun ds => match ds with
  | [d, e] => match lstOf d, lstOf e with
    | some xs, some ys => ret (zipD xs ys)
    | _, _ => stuckM
  | _ => stuckM
end
end DL
/-! zip(.., strict=True) of two lists of one length -/
namespace PySem
namespace DLZ
open PySem PySem.Spec PyProof.Rows
section
variable {prog : Program} {w : World} {A : Around} {E : Value → Shared → Prop} {s : Shared}
def nb (n : Nat) : String := if n == 1 then "argument 1" else s!"arguments 1-{n}"
end
end DLZ
end PySem
namespace PySem
namespace DLZ
open PySem PySem.Spec PyProof.Rows
section
variable {prog : Program} {w : World} {A : Around} {E : Value → Shared → Prop} {s : Shared}
end
section
variable {M : Model} {A : Around} {E : Value → Shared → Prop} {s : Shared} {env : Env}
end
end DLZ
end PySem
namespace DL
open PySem PySem.Spec PyProof.Rows L2 PySem.DLZ
variable [TB] [LC]
section
variable {K : PySem.W.Frag} {G : Hp} {X : Cx} {F : Fr} {W : WX} {q q1 q2 : Bool} {e e2 : Expr} {elts : List Expr} {kk : Nat} {m m2 : M D} {pos p tpos : Pos}
def zipSM (m m2 : M D) : M (List D) := bnd (argsM [m, m2]) fun ds => match ds with
  | [d, e] => match lstOf d, lstOf e with
    | some xs, some ys => if xs.length = ys.length then ret (zipD xs ys) else stuckM
    | _, _ => stuckM
  | _ => stuckM
end
end DL
namespace DL
variable [TB] [LC]
open PySem L2
/-! ### a, b = x, y, some of them one's own -/
inductive MxA (K : PySem.W.Frag) (F : Fr) (G : Hp) (fpf : Nat → List Addr) (st : DSt) (H : Hp) : List (Bool × D) → List V → List Addr → Prop
  | nil : MxA K F G fpf st H [] [] []
  | sh {d : D} {v : V} {r : List (Bool × D)} {vs : List V} {fp : List Addr} : Rep K G d v → MxA K F G fpf st H r vs fp → MxA K F G fpf st H ((false, d) :: r) (v :: vs) fp
  | fr {d : D} {a : Addr} {fp0 : List Addr} {r : List (Bool × D)} {vs : List V} {fp : List Addr} : Own K G H d a fp0 → fp0.Nodup → (∀ b ∈ fp0, G b = none ∧ (F.He b = none ∧ F.pr b = none) ∧ ∀ (j : Nat), isOw st j → b ∉ fpf j) → (∀ b ∈ fp0, b ∉ fp) →
      MxA K F G fpf st H r vs fp → MxA K F G fpf st H ((true, d) :: r) (.ref a :: vs) (fp0 ++ fp)
def RMx (K : PySem.W.Frag) (F : Fr) : Rl (List (Bool × D)) (List V) := fun G fpf st H ds vs => ∃ fp, MxA K F G fpf st H ds vs fp
def mxS (m : M D) (r : M (List (Bool × D))) : M (List (Bool × D)) := bnd m fun d => bnd r fun ds => ret ((false, d) :: ds)
def mxF (m : M D) (r : M (List (Bool × D))) : M (List (Bool × D)) := bnd m fun d => if flatD d = true then bnd r fun ds => ret ((true, d) :: ds) else stuckM
def mx0 : M (List (Bool × D)) := ret []
def setL : List Nat → List (Bool × D) → DSt → DSt
  | i :: is, (false, d) :: r, st => setL is r (st.set i (some (Slot.sh d)))
  | i :: is, (true, d) :: r, st => setL is r (st.set i (some (Slot.ow false d)))
  | _, _, st => st
def setV : List Nat → List V → St → St
  | i :: is, v :: vs, σ => setV is vs (σ.set i (some v))
  | _, _, σ => σ
section
variable {K : PySem.W.Frag} {F : Fr} {W : WX} {G H : Hp} {fpf : Nat → List Addr} {σ : St} {st : DSt}
theorem MxA.unhide {a : Addr} {o : HO} {ds : List (Bool × D)} {vs : List V} {fp : List Addr} (hp : F.pr a = none) (h : MxA K (F.hide a o) G fpf st H ds vs fp) : MxA K F G fpf st H ds vs fp ∧ a ∉ fp := by
  have z : ∀ {b}, (F.hide a o).pr b = none → F.pr b = none ∧ b ≠ a := fun {b} e => by
    have e' : upd F.pr a o b = none := e
    by_cases y : b = a
    · rw [y, upd_same] at e'; cases e'
    · rw [upd_ne y] at e'; exact ⟨e', y⟩
  induction h with
  | nil => exact ⟨.nil, fun h => nomatch h⟩
  | sh r _ ih => exact ⟨.sh r ih.1, ih.2⟩
  | fr ow nd off sep _ ih =>
    refine ⟨.fr ow nd (fun b hb => ⟨(off b hb).1, ⟨(off b hb).2.1.1, (z (off b hb).2.1.2).1⟩, (off b hb).2.2⟩) sep ih.1, fun h => ?_⟩
    rcases List.mem_append.mp h with h | h
    · exact (z (off a h).2.1.2).2 rfl
    · exact ih.2 h
theorem MxA.lens {ds : List (Bool × D)} {vs : List V} {fp : List Addr} (h : MxA K F G fpf st H ds vs fp) : ds.length = vs.length := by
  induction h with
  | nil => rfl
  | sh _ _ ih => exact congrArg (· + 1) ih
  | fr _ _ _ _ _ ih => exact congrArg (· + 1) ih
theorem MxA.assign {ds : List (Bool × D)} {vs : List V} {fp : List Addr} : ∀ {is : List Nat} {σ : St} {st : DSt} {fpf : Nat → List Addr}, Sync K F G fpf σ H st → MxA K F G fpf st H ds vs fp → (∀ i ∈ is, F.gv i = none) → is.length = ds.length → ∃ fpf', Sync K F G fpf' (setV is vs σ) H (setL is ds st) := by
  induction ds generalizing vs fp with
  | nil =>
    intro is σ st fpf S h hg hl
    cases h
    exact ⟨fpf, by cases is <;> exact S⟩
  | cons d ds ih =>
    intro is σ st fpf S h hg hl
    cases is with
    | nil => cases hl
    | cons i is =>
      cases h with
      | sh r h =>
        refine ih (fpf := fpf) (fp := fp) (S.assign i r (hg i List.mem_cons_self)) ?_ (fun j z => hg j (List.mem_cons_of_mem _ z)) (Nat.succ.inj hl)
        clear ih hl
        induction h with
        | nil => exact .nil
        | sh r _ ih => exact .sh r ih
        | fr ow nd off sep _ ih => exact .fr ow nd (fun b hb => ⟨(off b hb).1, (off b hb).2.1, fun j hj => by
            rcases ow_set hj with ⟨_, m, e, z⟩ | ⟨_, hj⟩
            · cases z
            · exact (off b hb).2.2 j hj⟩) sep ih
      | @fr d a fp0 r vs fp ow nd off sep h =>
        refine ih (fpf := fun j => if j = i then fp0 else fpf j) (fp := fp) ?_ ?_ (fun j z => hg j (List.mem_cons_of_mem _ z)) (Nat.succ.inj hl)
        · refine ⟨by simp [S.len], fun j e h => ?_, fun j m e h => ?_, fun j k hj hk n b hb => ?_, S.g0, S.gh, S.new, S.pr, S.live, S.hidG, S.hidP, S.ng, S.np, S.tab, fun j x e => by
            have n : i ≠ j := fun z => by rw [← z, hg i List.mem_cons_self] at e; cases e
            rw [List.getElem?_set_ne n]; exact S.gv j x e⟩
          · rcases get_set h with ⟨rfl, b, l⟩ | ⟨z, b⟩
            · cases b
            · obtain ⟨u, h1, h2⟩ := S.sh j e b
              exact ⟨u, by rw [List.getElem?_set_ne (Ne.symm z)]; exact h1, h2⟩
          · rcases get_set h with ⟨rfl, b, l⟩ | ⟨z, b⟩
            · cases b
              rw [if_pos rfl]
              exact ⟨a, by rw [List.getElem?_set_self (by rw [← S.len]; exact l)], ow, nd, fun b hb => ⟨(off b hb).1, .inl (off b hb).2.1.1, (off b hb).2.1.2⟩, fun z => nomatch z⟩
            · rw [if_neg z]
              obtain ⟨u, h1, h2⟩ := S.ow j m e b
              exact ⟨u, by rw [List.getElem?_set_ne (Ne.symm z)]; exact h1, h2⟩
          · rcases ow_set hj with ⟨ej, _⟩ | ⟨nj, oj⟩
            · rcases ow_set hk with ⟨ek, _⟩ | ⟨nk, ok⟩
              · exact absurd (ej.trans ek.symm) n
              · simp only [if_neg nk]
                simp only [if_pos ej] at hb
                exact (off b hb).2.2 k ok
            · simp only [if_neg nj] at hb
              rcases ow_set hk with ⟨ek, _⟩ | ⟨nk, ok⟩
              · simp only [if_pos ek]
                exact fun z => (off b z).2.2 j oj hb
              · simp only [if_neg nk]
                exact S.sep j k oj ok n b hb
        · clear ih hl
          induction h with
          | nil => exact .nil
          | sh r _ ih => exact .sh r (ih sep)
          | @fr d' a' fp' r' vs' fp'' ow' nd' off' sep' _ ih =>
            refine .fr ow' nd' (fun b hb => ⟨(off' b hb).1, (off' b hb).2.1, fun j hj => ?_⟩) sep' (ih fun b hb z => sep b hb (List.mem_append_right _ z))
            rcases ow_set hj with ⟨ej, _⟩ | ⟨nj, oj⟩
            · simp only [if_pos ej]
              exact fun z => sep b z (List.mem_append_left _ hb)
            · simp only [if_neg nj]
              exact (off' b hb).2.2 j oj
end
section
variable {X : Cx} {F : Fr} {W : WX} {q q1 q2 : Bool} {e : Expr} {es : List Expr} {m : M D} {r : M (List (Bool × D))} {pos : Pos}
theorem dm_nil : PA X [] (tM X.K F W q (RMx X.K F) mx0) := PA_mono pa_nil fun σ H Q ⟨st, G, fpf, S, A⟩ => A.done S ⟨_, .nil⟩
theorem dm_sh (he : PE X e (tM X.K F W q1 (RSh X.K) m)) (hr : PA X es (tM X.K F W q2 (RMx X.K F) r)) (hs : starEach (e :: es) X.env = (false, eval e X.env) :: starEach es X.env := by rfl) : PA X (e :: es) (tM X.K F W false (RMx X.K F) (mxS m r)) :=
  PA_mono (pa_cons he hr hs) fun σ H Q ⟨st, G, fpf, S, A⟩ => ⟨st, G, fpf, S, A.bndK (q1 := q1) (q2 := false) (R1 := RSh X.K) nq fun d st1 G1 fpf1 v H1 g1 S1 z1 e1 r1 A1 => ⟨st1, G1, fpf1, S1, A1.bndK (q1 := q2) (q2 := false) (R1 := RMx X.K F) nq fun ds st2 G2 fpf2 vs H2 g2 S2 z2 e2 r2 A2 => by
    obtain ⟨fp, r2⟩ := r2
    have r1' : Rep X.K G1 d v := r1
    exact A2.done S2 ⟨fp, .sh (r1'.mono g2) r2⟩⟩⟩
theorem dm_fr (he : PE X e (tM X.K F W q1 (RFr X.K F) m)) {n : Nat} [gk : GvOk F n] (hr : ∀ (F : Fr) [GvOk F n], PA X es (tM X.K F W q2 (RMx X.K F) r)) (hs : starEach (e :: es) X.env = (false, eval e X.env) :: starEach es X.env := by rfl) : PA X (e :: es) (tM X.K F W false (RMx X.K F) (mxF m r)) := by
  have hr' : PA X es (fun σ H Q => ∃ F : Fr, GvOk F n ∧ tM X.K F W q2 (RMx X.K F) r σ H Q) := ⟨fun pos pins s σ H Q I ⟨F, kk, z⟩ => (hr F).run pos pins s σ H Q I z⟩
  refine PA_mono (pa_cons he hr' hs) fun σ H Q ⟨st, G, fpf, S, A⟩ => ⟨st, G, fpf, S, A.bndK (q1 := q1) (q2 := false) (R1 := RFr X.K F) nq fun d st1 G1 fpf1 v H1 g1 S1 z1 e1 r1 A1 => ?_⟩
  by_cases c : flatD d = true
  · rw [if_pos c] at A1
    obtain ⟨a, fp0, rfl, ow, nd, off⟩ := (show Fresh X.K F G1 fpf1 st1 H1 d v from r1).ex
    obtain ⟨o, ho, ro, rfl⟩ := ow.isFlat c
    have ap : Apart F G1 fpf1 st1 a := ⟨(off a ow.mem).1, (off a ow.mem).2.1.1, (off a ow.mem).2.1.2, fun i hi => (off a ow.mem).2.2 i hi⟩
    refine ⟨F.hide a o, inferInstance, st1, G1, fpf1, S1.hide ap ho ro.pl, ?_⟩
    have A1' : At X.K F W false (RMx X.K F) (bnd r (fun ds => ret ((true, d) :: ds)) st1) st1 G1 fpf1 σ H1 Q := A1
    revert A1'
    unfold bnd
    cases r st1 with
    | stuck => exact fun z => z
    | ok ds st2 =>
      intro A2 vs H2 G2 fpf2 z2 g2 S2 r2
      obtain ⟨fp, r2⟩ := r2
      obtain ⟨S3, ap3, ha⟩ := S2.unhide ap.pr ap.he S1.hidP
      obtain ⟨r3, na⟩ := r2.unhide ap.pr
      refine A2 _ _ G2 fpf2 nq g2 S3 ⟨[a] ++ fp, .fr (.flat ha (ro.mono g2)) (by simp) (fun b hb => ?_) (fun b hb => ?_) r3⟩
      · rw [List.mem_singleton] at hb
        subst hb
        exact ⟨ap3.g, ⟨ap3.he, ap3.pr⟩, fun j hj => ap3.fp j hj⟩
      · rw [List.mem_singleton] at hb
        subst hb
        exact na
    | err x st2 =>
      intro A2 b fv H2 G2 fpf2 g2 S2 ap2 hb hk hr2
      obtain ⟨S3, ap3, ha⟩ := S2.unhide ap.pr ap.he S1.hidP
      refine A2 b fv H2 G2 fpf2 g2 S3 ⟨ap2.g, ap2.he, ?_, ap2.fp⟩ hb hk hr2
      have e' : upd F.pr a o b = none := ap2.pr
      by_cases y : b = a
      · rw [y]; exact ap.pr
      · rw [upd_ne y] at e'; exact e'
  · rw [if_neg c] at A1; exact A1.elim
def parX (is : List Nat) (m : M (List (Bool × D))) : MS := doM m fun ds st => if is.length = ds.length then .nx (setL is ds st) else .stuck
end
end DL
namespace DL
variable [TB] [LC]
open PySem L2
/-! ### xs.index(i), ints -/
def idxI (i : Int) : List Int → Option Nat
  | [] => none
  | n :: ns => if n = i then some 0 else (idxI i ns).map (· + 1)
def idxE (ns : List Int) : D → Option D
  | .int i => (idxI i ns).map fun (j : Nat) => D.int (j : Int)
  | _ => none
def idxM (mo me : M D) : M D := bnd mo fun d => bnd (lift (intsOf d)) fun ns => bnd me fun y => lift (idxE ns y)
/-! ### f(e, .., k = v, ..) -/
def permL {α : Type} (pm : List Nat) (xs : List α) : List α := pm.filterMap (xs[·]?)
def callPM (mu : List Bool) (f : FD) (pm : List Nat) (ma mk : M (List AV)) : M D := bnd ma fun as => bnd mk fun bs => callQ mu f (permL pm (as ++ bs))
section
variable {X : Cx} {F : Fr} {W : WX} {q q1 q2 : Bool} {e : Expr} {es : List Expr} {kws : List Keyword} {pos p kp : Pos} {k n : Nat} {f : Addr} {fd : FuncData} {ps ks : List Str} {mu : List Bool} {fn : FD} {x nm : Str} {ma mk : M (List AV)} {a : M AV} {as : M (List AV)} {pm : List Nat} {sp : Sp} {E : St → XK} {t tk' : TA}
def lenA (n : Nat) (m : M (List AV)) : M (List AV) := bnd m fun as => if as.length = n then ret as else stuckM
end
end DL
namespace DL
open PySem PySem.Spec PyProof.Rows L2 LamX
/-! ### a lambda is made -/
/-- the text of a lambda that stands in X -/
def lamT (X : Cx) (params : Arguments) (body : Expr) (scope : Scope) : LamT := ⟨X.env.qual ++ "<lambda>", params, body, scope, cloFrom X.env.cells scope.names []⟩
section
variable {X : Cx} {pins : List (Addr × Obj)} {σ : L2.St} {H : Hp} {s : Shared}
theorem inv_lam {L : LamT} {f c' : Addr} {pm ct : Value} (I : Inv X pins σ H s) (hf : s.heap.get? f = some (PySem.W.kla_obj "<lambda>" L.q L.params L.body L.scope L.cl pm c' ct)) (hfn : H f = none) (h0 : X.s_0.heap.objs.size ≤ f) (hl : f ≠ X.env.locals)
    (hp : ∀ p ∈ X.pn ++ pins, p.1 ≠ f) : Inv X pins σ (upd H f (LamO L f c')) s := by
  have sm : ∀ {b u}, H b = some u → upd H f (LamO L f c') b = some u := fun {b u} e => by rw [upd_ne (ne_of_none e hfn)]; exact e
  have nn : ∀ {b}, H b = none → b ≠ f → upd H f (LamO L f c') b = none := fun {b} e n => by rw [upd_ne n]; exact e
  refine ⟨I.ok, I.os, I.bare, ⟨I.base.keep, I.base.slot, fun b o q n hx => nn (I.base.free b o q n hx) fun z => ?_, I.base.there, fun b xs q => sm (I.base.tups b xs q), fun b o u q => sm (I.base.frzs b o u q), fun b ps q => ?_⟩, I.loc, I.cell, nn I.free fun z => hl z.symm, fun x c e => nn (I.freeC x c e) fun z => ?_, fun p hq => ?_, fun b u e => ?_, I.len⟩
  · rw [z] at q
    exact Nat.lt_irrefl _ (Nat.lt_of_lt_of_le (Heap.lt_size q) h0)
  · obtain ⟨m, e⟩ := I.base.tbls b ps q
    exact ⟨m, sm e⟩
  · obtain ⟨v, o, ho, hd⟩ := I.cell x c e
    rw [z, hf] at ho
    cases ho
    cases hd
  · obtain ⟨a1, a2, a3⟩ := I.pin p hq
    exact ⟨a1, nn a2 (hp p hq), a3⟩
  · by_cases z : b = f
    · subst z
      rw [upd_same] at e
      cases e
      exact ⟨⟨pm, ct, hf⟩, ⟨_, hf⟩, fun h1 h2 ⟨a, b, c⟩ st => ⟨a, b, st _ c⟩⟩
    · rw [upd_ne z] at e
      exact (I.hok b u e).stay (fun _ _ _ q => q) (fun _ q => sm q) fun _ _ q => sm q
/-- the lambda is made and known from now on -/
theorem lam_mk {T : List (Addr × Str)} {c P : Addr} {params : Arguments} {body : Expr} {scope : Scope} {pos : Pos} {E : Value → Shared → Prop} {Q : Value → Shared → Prop} (I : Inv X pins σ H s) (tb : TabB X.base X.mg c P) (hcode : X.env.code = .ref c)
    (hm : (P, X.env.qual ++ "<lambda>") ∈ T) (hu : ∀ p ∈ T, p.1 = P → p.2 = X.env.qual ++ "<lambda>") (hT : Tabs T H) (hdef : defaultsOf params X.env = ([], [])) (hfree : ∀ y ∈ scope.names, y.2 = .free → ∃ c, X.env.cells.lookup y.1 = some c)
    (k : ∀ (f c' : Addr) (H1 : Hp) (s' : Shared), Inv X pins σ H1 s' → ExtN H H1 → Tabs T H1 → H f = none → H1 f = some (LamO (lamT X params body scope) f c') → H1 c' = some (CodeO c' (X.env.qual ++ "<lambda>")) → Q (.ref f) s') :
    wpAny (model X.prog X.w) X.A (eval (.Lambda params body scope pos) X.env) Q E s := by
  obtain ⟨ps, tP, tr, am⟩ := hT _ hm
  refine PySem.W.kla_eval hdef ?_
  have bmP : s.heap.BuiltinsAt X.mg P := tb.bm.keeps I.bk
  have objP : s.heap.get? P = some { cls := .none, data := .fields ps } := I.hok P _ tP
  have z0 : X.s_0.heap.objs.size ≤ s.heap.objs.size := Nat.le_of_lt (Nat.lt_of_le_of_lt I.ok.above I.lt)
  -- what is known of a new address
  have far : ∀ {f : Addr}, s.heap.objs.size ≤ f → X.s_0.heap.objs.size ≤ f ∧ f ≠ X.env.locals ∧ ∀ p ∈ X.pn ++ pins, p.1 ≠ f := fun {f} hf =>
    ⟨Nat.le_trans z0 hf, fun z => Nat.lt_irrefl _ (Nat.lt_of_lt_of_le (z ▸ I.lt) hf), fun p hp z => Nat.lt_irrefl _ (Nat.lt_of_lt_of_le (Heap.lt_size (I.pin p hp).1) (z ▸ hf))⟩
  cases hc : codeAmong pos ps.toList with
  | some cv =>
    obtain ⟨c', e, kc⟩ := am pos cv hc
    subst e
    refine PySem.W.kla_makeFunctionHit (mg := X.mg) (c := c) (P := P) (ps := ps) (closure_ok hfree) I.ok.glob (I.mod.glob.keeps I.bk) hcode (tb.code.keeps I.bk) objP tr hc bmP fun ct hp tk hx hs => ?_
    have J : Inv X pins σ H { s with heap := hp.push (PySem.W.kla_obj "<lambda>" (X.env.qual ++ "<lambda>") params body scope (cloFrom X.env.cells scope.names []) ((X.mg "__name__").getD .none) c' ct), toks := tk } := I.kept fun b o e => Heap.get?_push_of_some _ (hx b o e)
    have nf : H hp.objs.size = none := I.hok.fresh hs
    have gf := Heap.get?_push_size hp (o := PySem.W.kla_obj "<lambda>" (X.env.qual ++ "<lambda>") params body scope (cloFrom X.env.cells scope.names []) ((X.mg "__name__").getD .none) c' ct) rfl
    obtain ⟨y1, y2, y3⟩ := far hs
    have J2 := inv_lam (L := lamT X params body scope) J gf nf y1 y2 y3
    have sm : ∀ b u, H b = some u → upd H hp.objs.size (LamO (lamT X params body scope) hp.objs.size c') b = some u := fun b u e => by rw [upd_ne (ne_of_none e nf)]; exact e
    exact k _ c' _ _ J2 (ExtN.of sm) (hT.ext sm) nf upd_same (sm _ _ kc)
  | none =>
    refine PySem.W.kla_makeFunction (mg := X.mg) (c := c) (P := P) (ps := ps) (closure_ok hfree) I.ok.glob (I.mod.glob.keeps I.bk) hcode (tb.code.keeps I.bk) objP tr hc tb.gP bmP fun c' ct hp tk hx ge lt rec tbl => ?_
    obtain ⟨c2, oc, vs, t, e2, ho, hd, hv⟩ := rec
    cases e2
    have hs : s.heap.objs.size ≤ hp.objs.size := Nat.le_trans ge (Nat.le_of_lt lt)
    have nC : H c' = none := I.hok.fresh ge
    have nf : H hp.objs.size = none := I.hok.fresh hs
    have J := inv_table (t' := tk) (more := #[rawInt pos.line, rawInt pos.col, .ref c']) (h' := hp.push (PySem.W.kla_obj "<lambda>" (X.env.qual ++ "<lambda>") params body scope (cloFrom X.env.cells scope.names []) ((X.mg "__name__").getD .none) c' ct)) I tP
      (fun b o hb e => Heap.get?_push_of_some _ (hx b o hb e)) (Heap.get?_push_of_some _ tbl) ge ⟨oc, vs, t, Heap.get?_push_of_some _ ho, hd, hv⟩
    have n1 : hp.objs.size ≠ c' := Nat.ne_of_gt lt
    have n2 : hp.objs.size ≠ P := Nat.ne_of_gt (Nat.lt_of_lt_of_le (Heap.lt_size objP) hs)
    have nf2 : upd (upd H P (.tbl (ps ++ #[rawInt pos.line, rawInt pos.col, .ref c']))) c' (CodeO c' (X.env.qual ++ "<lambda>")) hp.objs.size = none := by rw [upd_ne n1, upd_ne n2]; exact nf
    have gf := Heap.get?_push_size hp (o := PySem.W.kla_obj "<lambda>" (X.env.qual ++ "<lambda>") params body scope (cloFrom X.env.cells scope.names []) ((X.mg "__name__").getD .none) c' ct) rfl
    obtain ⟨y1, y2, y3⟩ := far hs
    have J2 := inv_lam (L := lamT X params body scope) J gf nf2 y1 y2 y3
    have sm : ∀ b u, upd (upd H P (.tbl (ps ++ #[rawInt pos.line, rawInt pos.col, .ref c']))) c' (CodeO c' (X.env.qual ++ "<lambda>")) b = some u → upd (upd (upd H P (.tbl (ps ++ #[rawInt pos.line, rawInt pos.col, .ref c']))) c' (CodeO c' (X.env.qual ++ "<lambda>"))) hp.objs.size (LamO (lamT X params body scope) hp.objs.size c') b = some u := fun b u e => by rw [upd_ne (ne_of_none e nf2)]; exact e
    have hE : ExtN H (upd (upd H P (.tbl (ps ++ #[rawInt pos.line, rawInt pos.col, .ref c']))) c' (CodeO c' (X.env.qual ++ "<lambda>"))) := fun b o e n => by
      rw [upd_ne (ne_of_none e nC), upd_ne (fun z => n ps (Option.some.inj (e.symm.trans (by rw [z]; exact tP))))]
      exact e
    have eL : (ps ++ #[rawInt pos.line, rawInt pos.col, .ref c']).toList = ps.toList ++ [rawInt pos.line, rawInt pos.col, .ref c'] := by simp
    have tabs1 : Tabs T (upd (upd H P (.tbl (ps ++ #[rawInt pos.line, rawInt pos.col, .ref c']))) c' (CodeO c' (X.env.qual ++ "<lambda>"))) := fun p hq => by
      by_cases hb : p.1 = P
      · rw [hu p hq hb, hb]
        refine ⟨_, by rw [upd_ne (ne_of_none tP nC), upd_same], by rw [eL]; exact PySem.TriplesOk_snoc _ _ _ _ tr, fun p' cv hcv => ?_⟩
        rw [eL] at hcv
        rcases among_app _ tr hcv with z | z
        · obtain ⟨c0, a1, a2⟩ := am p' cv z
          exact ⟨c0, a1, hE _ _ a2 codeO_ne⟩
        · exact ⟨c', z, upd_same⟩
      · obtain ⟨qs, a1, a2, a3⟩ := hT p hq
        refine ⟨qs, by rw [upd_ne (ne_of_none a1 nC), upd_ne hb]; exact a1, a2, fun p' cv hcv => ?_⟩
        obtain ⟨c0, b1, b2⟩ := a3 p' cv hcv
        exact ⟨c0, b1, hE _ _ b2 codeO_ne⟩
    exact k _ c' _ _ J2 (hE.trans (ExtN.of sm)) (tabs1.ext sm) nf upd_same (sm _ _ upd_same)
end
end DL
namespace DL
variable [TB] [LC]
open PySem PySem.Spec PyProof.Rows L2 LamX
/-! ### a lambda, by data -/
/-- names of a lambda's own: parameters first; captured ones; globals -/
structure LamG (sc scope : Scope) (ls : List Str) : Prop where
  kind : scope.kind = .function
  co : scope.isCoroutine = false
  gen : scope.isGenerator = false
  own : ∀ y ∈ scope.names, y.2 ≠ .cell
  loc : ∀ y, scope.names.lookup y = some .local → y ∈ ls
  par : ∀ y ∈ ls, scope.names.lookup y = some .local
  nil : scope.names.lookup ("" : Str) = none
  nd : ls.Nodup
  free : ∀ y ∈ scope.names, y.2 = .free → sc.names.lookup y.1 = some .cell ∨ sc.names.lookup y.1 = some .free
def lamGB (sc scope : Scope) (ls : List Str) : Bool :=
  decide (scope.kind = .function) && (!scope.isCoroutine && (!scope.isGenerator && ((scope.names.all fun y => !decide (y.2 = .cell)) && ((scope.names.all fun y => !decide (scope.names.lookup y.1 = some .local) || ls.contains y.1) && ((ls.all fun y => decide (scope.names.lookup y = some .local)) && (decide (scope.names.lookup ("" : Str) = none) && (decide ls.Nodup && scope.names.all fun y => !decide (y.2 = .free) || (decide (sc.names.lookup y.1 = some .cell) || decide (sc.names.lookup y.1 = some .free)))))))))
theorem lamG_by {sc scope : Scope} {ls : List Str} (h : lamGB sc scope ls = true) : LamG sc scope ls := by
  unfold lamGB at h
  simp only [Bool.and_eq_true, Bool.or_eq_true, Bool.not_eq_true', decide_eq_true_eq, decide_eq_false_iff_not, List.all_eq_true] at h
  obtain ⟨h1, h2, h3, h4, h5, h6, h8, h9, h7⟩ := h
  refine ⟨h1, h2, h3, h4, fun y e => ?_, h6, h8, h9, fun y hy e => ?_⟩
  · have hm := PySem.mem_of_lookup e
    rcases h5 _ hm with z | z
    · exact absurd e z
    · simpa using z
  · rcases h7 y hy with z | z
    · exact absurd e z
    · exact z
structure LamD (X : Cx) (c P : Addr) (params : Arguments) (scope : Scope) (ls : List Str) : Prop where
  tb : TabB X.base X.mg c P
  code : X.env.code = .ref c
  mem : (P, X.env.qual ++ "<lambda>") ∈ TB.T
  uq : ∀ p ∈ TB.T, p.1 = P → p.2 = X.env.qual ++ "<lambda>"
  ls : LamG X.env.scope scope ls
  df : defaultsOf params X.env = ([], [])
theorem LamG.has {X : Cx} {scope : Scope} {ls : List Str} (L : LamG X.env.scope scope ls) (ok : X.Ok) : ∀ y ∈ scope.names, y.2 = .free → ∃ c, X.env.cells.lookup y.1 = some c := fun y hy e => by
  rcases L.free y hy e with k | k
  · exact ok.has _ (.inl k)
  · exact ok.has _ (.inr k)
theorem de_lam {X : Cx} {F : Fr} {W : WX} {c P : Addr} {params : Arguments} {body : Expr} {scope : Scope} {ls : List Str} {pos : Pos} {id : Nat} (hL : LC.lam id = some (lamT X params body scope)) (L : LamD X c P params scope ls) :
    PE X (.Lambda params body scope pos) (tM X.K F W false (RSh X.K) (ret (.clo id))) := by
  refine ⟨fun pins s σ H Q I ⟨st, G, fpf, S, A⟩ => ?_⟩
  refine lam_mk I L.tb L.code L.mem L.uq S.tab L.df (L.ls.has I.ok) fun f c' H1 s' I1 eN T1 nf hf hc => ⟨.ref f, H1, I1, rfl, ?_⟩
  have S1 := S.ext eN T1
  have gf : G f = none := S.freshG nf
  have xc : noTb (H1 c') = none := by rw [hc]; rfl
  have cG : ∀ u, G c' = some u → u = CodeO c' (X.env.qual ++ "<lambda>") := fun u e => by
    have z := S1.gh _ _ e
    rw [hc] at z
    exact (Option.some.inj z).symm
  have at_ : ∀ {b u}, upd (upd G c' (CodeO c' (X.env.qual ++ "<lambda>"))) f (LamO (lamT X params body scope) f c') b = some u → (b = f ∧ u = LamO (lamT X params body scope) f c') ∨ (b = c' ∧ u = CodeO c' (X.env.qual ++ "<lambda>")) ∨ G b = some u := fun {b u} e => by
    by_cases z : b = f
    · subst z; rw [upd_same] at e; exact .inl ⟨rfl, (Option.some.inj e).symm⟩
    · rw [upd_ne z] at e
      by_cases y : b = c'
      · subst y; rw [upd_same] at e; exact .inr (.inl ⟨rfl, (Option.some.inj e).symm⟩)
      · rw [upd_ne y] at e; exact .inr (.inr e)
  have gg : Same G (upd (upd G c' (CodeO c' (X.env.qual ++ "<lambda>"))) f (LamO (lamT X params body scope) f c')) := fun b u e => by
    rw [upd_ne (ne_of_none e gf)]
    by_cases y : b = c'
    · subst y; rw [cG u e, upd_same]
    · rw [upd_ne y]; exact e
  have nfc : c' ≠ f := fun z => by
    rw [z, hf] at hc
    have := Option.some.inj hc
    unfold LamO CodeO at this
    have e2 := HO.ext.inj this
    have h1 := I1.hok f _ hf
    obtain ⟨⟨pm, ct, h2⟩, _⟩ := h1
    have h3 : ∃ (pm ct : Value), s'.heap.get? f = some (PySem.W.kla_obj "<lambda>" (lamT X params body scope).q (lamT X params body scope).params (lamT X params body scope).body (lamT X params body scope).scope (lamT X params body scope).cl pm c' ct) := ⟨pm, ct, h2⟩
    rw [congrFun e2 s'.heap] at h3
    obtain ⟨oc, vs, t, g1, g2, _⟩ := h3
    rw [h2] at g1
    cases g1
    cases g2
  have off : ∀ b, (G b = none ∧ b ≠ f ∧ b ≠ c') → upd (upd G c' (CodeO c' (X.env.qual ++ "<lambda>"))) f (LamO (lamT X params body scope) f c') b = none := fun b ⟨h1, h2, h3⟩ => by rw [upd_ne h2, upd_ne h3]; exact h1
  have S2 : Sync X.K F (upd (upd G c' (CodeO c' (X.env.qual ++ "<lambda>"))) f (LamO (lamT X params body scope) f c')) fpf σ H1 st := by
    refine S1.grow gg (fun b u e => ?_) (fun b u e => ?_) (fun _ _ q => q) (fun i hi b hb => ?_) (fun b hb => ?_) fun b ps e => ?_
    · rcases at_ e with ⟨rfl, rfl⟩ | ⟨rfl, rfl⟩ | e
      · exact hf
      · exact hc
      · exact S1.gh b u e
    · rcases at_ e with ⟨rfl, rfl⟩ | ⟨rfl, rfl⟩ | e
      · exact .inr (S.fresh nf)
      · exact .inr (S1.fresh' xc)
      · exact .inl e
    · refine off b ⟨?_, S.ne_fp nf hi b hb, S1.ne_fp' xc hi b hb⟩
      obtain ⟨m, d, e⟩ := hi
      obtain ⟨_, _, _, _, f4, _⟩ := S.ow i m d e
      exact (f4 b hb).1
    · obtain ⟨o, e⟩ := S.hidP b hb
      refine off b ⟨S.hidG b hb, fun z => ?_, fun z => ?_⟩
      · rw [z, S.freshP nf] at e; cases e
      · rw [z, S1.freshP' xc] at e; cases e
    · rcases at_ e with ⟨_, z⟩ | ⟨_, z⟩ | e
      · unfold LamO at z; cases z
      · unfold CodeO at z; cases z
      · exact S1.ng b ps e
  exact A (.ref f) H1 _ fpf nq gg S2 (.clo hL upd_same (by rw [upd_ne nfc, upd_same]; rfl))
end DL
namespace DL
variable [TB] [LC]
open PySem PySem.Spec PyProof.Rows L2 LamX
/-! ### a lambda runs -/
def hidN (ls : List Str) (y : Str) : Str := if ls.contains y then "" else y
/-- the lambda's names, its own first, then the maker's -/
abbrev lamN (ls N : List Str) : List Str := ls ++ N.map (hidN ls)
def lamCxP (X : Cx) (A : Around) (outer : List Env) (s : Shared) (H : Hp) (E : XK) (scope : Scope) (ls : List Str) (f c' : Addr) : Cx := { lamCx X A outer s H E scope f c' with N := lamN ls X.N }
section
variable {X : Cx} {pins : List (Addr × Obj)} {σ : L2.St} {H HZ : Hp} {s s1 : Shared}
theorem start_len {N : List Str} {vs : List V} (h : vs.length ≤ N.length) : (L2.start N vs).length = N.length := by
  unfold L2.start
  rw [List.length_append, List.length_replicate, List.length_map]
  omega
theorem start_at {N : List Str} {vs : List V} {i : Nat} {v : V} (h : (L2.start N vs)[i]? = some (some v)) : vs[i]? = some v := by
  unfold L2.start at h
  by_cases hi : i < vs.length
  · rw [List.getElem?_append_left (by simpa using hi), List.getElem?_map] at h
    cases e : vs[i]? with
    | none => rw [e] at h; cases h
    | some a => rw [e] at h; cases h; rfl
  · rw [List.getElem?_append_right (by simpa using hi), List.getElem?_replicate] at h
    split at h <;> cases h
theorem lam_in {A : Around} {outer : List Env} {E : XK} {scope : Scope} {ls ps : List Str} {f c' : Addr} {h1 : Heap} {tk : Nat} {us : List Value} {vs : List V} (I : Inv X pins σ H s) (L : LamG X.env.scope scope ls) (hps : ls.take ps.length = ps) (hl : vs.length = ps.length) (r : Vals vs us)
    (e0 : Env0 X.prog X.w X.K X.mg X.base A outer s1 HZ) (hd : A.handled = none) (un : Un (frs X.stack) [] H HZ s.heap s1.heap) (hns : h1.Ns s1.heap.objs.size fun y => (ps.zip us).reverse.lookup y) (kp : ∀ b o, s1.heap.get? b = some o → h1.get? b = some o) :
    Inv (lamCxP X A outer s1 HZ E scope ls f c') [] (L2.start ls vs ++ σ) HZ { s1 with heap := h1, toks := tk } := by
  have hfree := L.has I.ok
  have pl : ps.length ≤ ls.length := by have := congrArg List.length hps; rw [List.length_take] at this; omega
  have cm : ∀ {y c}, (cloFrom X.env.cells scope.names []).lookup y = some c → X.env.cells.lookup y = some c := fun {y c} e => by
    rcases cloFrom_mem (PySem.mem_of_lookup e) with hm | ⟨h1, h2⟩
    · cases hm
    · obtain ⟨c1, hc⟩ := hfree _ h1 rfl
      have hc : X.env.cells.lookup y = some c1 := hc
      have e2 : c = c1 := by rw [h2, hc] <;> rfl
      rw [e2]; exact hc
  have look : ∀ {y}, scope.names.lookup y = some .free → ∃ c, (cloFrom X.env.cells scope.names []).lookup y = some c := fun {y} hl => by
    have hy : (y, NameKind.free) ∈ scope.names := PySem.mem_of_lookup hl
    exact mem_lookup (cloFrom_has (cells := X.env.cells) (acc := []) hy)
  have cellK : ∀ {c : Addr} {v : Option Value}, H c = none → s.heap.IsCell c v → h1.IsCell c v := fun {c v} n ⟨o, ho, hd⟩ => by
    obtain ⟨sl, q⟩ := un.any ho n (by simp)
    exact ⟨_, kp _ _ q, hd⟩
  have noA : ∀ b : Addr, b ∉ (lamCxP X A outer s1 HZ E scope ls f c').ex := fun b z => absurd (show b ∈ ([] : List Addr) from z) (by simp)
  have sl : (L2.start ls vs).length = ls.length := start_len (by omega)
  refine ⟨⟨e0.mod, L.kind, rfl, rfl, Nat.le_refl _, fun y z c e1 e2 => I.ok.inj y z c (cm e1) (cm e2), fun y hy => ?_, fun y c z _ => ?_, fun _ => hd, Around.frames_deeper e0.frames, .inr ⟨rfl, rfl⟩, fun b z => absurd z (noA b), e0.bs, e0.bsz, fun b _ _ => noA b, fun b z => absurd z (noA b), e0.funs, e0.frf⟩,
    rfl, e0.bare, Un.kept kp, ⟨_, hns, fun i y v e1 e2 e3 => ?_⟩, fun y c e => ?_, e0.hok.fresh (Nat.le_refl _), fun y c e => ?_, fun q hq => absurd (show q ∈ ([] : List (Addr × Obj)) ++ [] from hq) (by simp), e0.hok.kept kp, ?_⟩
  · have hy : scope.names.lookup y = some .cell ∨ scope.names.lookup y = some .free := hy
    rcases hy with hy | hy
    · exact absurd rfl (L.own _ (PySem.mem_of_lookup hy))
    · exact look hy
  · have z : false = true := z
    cases z
  · have e1 : (ls ++ X.N.map (hidN ls))[i]? = some y := e1
    have e3 : Vis scope y := e3
    by_cases hi : i < ls.length
    · rw [List.getElem?_append_left hi] at e1
      rw [List.getElem?_append_left (by rw [sl]; exact hi)] at e2
      have ev := start_at e2
      have hv : i < vs.length := (List.getElem?_eq_some_iff.mp ev).1
      obtain ⟨u, hu, ru⟩ := r.get ev
      have hp : ps[i]? = some y := by rw [← hps, List.getElem?_take_of_lt (by omega)]; exact e1
      have ndP : ps.Nodup := by rw [← hps]; exact L.nd.sublist (List.take_sublist _ _)
      exact ⟨u, ru, .inl ⟨L.par y (List.mem_of_getElem? e1), NdefX.zip_look ndP hp hu⟩⟩
    · rw [List.getElem?_append_right (Nat.le_of_not_lt hi), List.getElem?_map] at e1
      rw [List.getElem?_append_right (by rw [sl]; exact Nat.le_of_not_lt hi), sl] at e2
      cases ey : X.N[i - ls.length]? with
      | none => rw [ey] at e1; cases e1
      | some y0 =>
        rw [ey] at e1
        have e1' : hidN ls y0 = y := Option.some.inj e1
        unfold hidN at e1'
        by_cases c : ls.contains y0 = true
        · rw [if_pos c] at e1'
          subst e1'
          rcases e3 with k | k | k <;> rw [L.nil] at k <;> cases k
        · rw [if_neg c] at e1'
          subst e1'
          rcases e3 with k | k | k
          · exact absurd (by simpa using L.loc _ k) c
          · exact absurd rfl (L.own _ (PySem.mem_of_lookup k))
          · obtain ⟨m, hn, hl⟩ := I.loc
            have hvis : Vis X.env.scope y0 := (L.free _ (PySem.mem_of_lookup k) rfl).elim (fun k => .inr (.inl k)) (fun k => .inr (.inr k))
            obtain ⟨w', r, q⟩ := hl _ y0 v ey e2 hvis
            obtain ⟨c2, h2⟩ := look k
            refine ⟨w', r, .inr ⟨.inr k, c2, h2, ?_⟩⟩
            have c1 := cm h2
            rcases q with ⟨k', _⟩ | ⟨_, c3, e', z⟩
            · have k' : X.env.scope.names.lookup y0 = some .local := k'
              rcases L.free _ (PySem.mem_of_lookup k) rfl with k2 | k2 <;> rw [show X.env.scope.names.lookup y0 = _ from k2] at k' <;> cases k'
            · rw [c1] at e'
              cases e'
              exact cellK (I.freeC y0 _ c1) z
  · obtain ⟨w', z⟩ := I.cell y c (cm e)
    exact ⟨w', cellK (I.freeC y c (cm e)) z⟩
  · obtain ⟨v, o, ho, hd⟩ := I.cell y c (cm e)
    exact un.free c o ho (I.freeC y c (cm e)) (by simp)
  · show (L2.start ls vs ++ σ).length = (ls ++ X.N.map (hidN ls)).length
    rw [List.length_append, List.length_append, List.length_map, sl, I.len]
/-- a lambda that is known, called from anywhere behind -/
theorem lam_run {params : Arguments} {body : Expr} {scope : Scope} {ls ps : List Str} {f c' : Addr} {k : Nat} {t : TE} {A : Around} {outer : List Env} {E : XK} {Q : VK} {us : List Value} {vs : List V} (I : Inv X pins σ H s) (L : LamG X.env.scope scope ls) (hps : ls.take ps.length = ps) (hl : vs.length = ps.length) (r : Vals vs us)
    (hbind : ∀ (q : Str) (cl : List (Str × Addr)) (pm cv ctv : Value) (us : List Value), us.length = ps.length → bindArgs (PySem.W.kla_fn "<lambda>" q params body scope cl pm cv ctv) ⟨us, []⟩ = pure (ps.zip us))
    (hr : Room (k + 1) A) (e0 : Env0 X.prog X.w X.K X.mg X.base A outer s1 HZ) (un : Un (frs X.stack) [] H HZ s.heap s1.heap) (hf : HZ f = some (LamO (lamT X params body scope) f c')) (hc : HZ c' = some (CodeO c' (X.env.qual ++ "<lambda>")))
    (hbody : Room k (A.deeper (lamEnv X scope s1.heap.objs.size f c')) → PE (lamCxP X A outer s1 HZ E scope ls f c') body t) (ht : t (L2.start ls vs ++ σ) HZ Q) :
    codeAny (model X.prog X.w) A (.call (.ref f) ⟨us, []⟩) (CR (CX X.prog X.w) outer X.prog X.w HZ s1 Q E) s1 := by
  obtain ⟨⟨pm, ct, gf⟩, _, _⟩ := e0.hok f _ hf
  obtain ⟨⟨oc, ws, t0, ho, hd, hv⟩, _, _⟩ := e0.hok c' _ hc
  have lu : us.length = ps.length := r.length.symm.trans hl
  refine PySem.W.kla_callFunE hr.depth gf rfl L.co L.gen rfl ⟨c', oc, ws, t0, rfl, ho, hd, hv⟩ ?_
  refine wpAny_of_eq (hbind _ _ _ _ _ us lu) ?_
  have lim : s1.heap.NoLimit := e0.mod.nolimit.keeps fun b o e => (e0.bs b o e).1
  refine wpAny_newFunctionEnv (fun y hy => L.own y hy) (fun y hy => ?_) (fun h1 hns hsb => ⟨lim.fresh _ hsb, ?_⟩) L.kind
  · obtain ⟨n, v⟩ := y
    have hm : n ∈ ps := (List.of_mem_zip hy).1
    rw [← hps] at hm
    exact L.par n (List.mem_of_mem_take hm)
  · show codeAny _ _ (.expr body (lamEnv X scope s1.heap.objs.size f c')) _ _
    have kp : ∀ b o, s1.heap.get? b = some o → h1.get? b = some o := fun b o e => hsb.extBut b o (Nat.ne_of_lt (Heap.lt_size e)) (Heap.get?_push_of_some _ e)
    have J : Inv (lamCxP X A outer s1 HZ E scope ls f c') [] (L2.start ls vs ++ σ) HZ { s1 with heap := h1, toks := s1.toks + (ps.zip us).length } := lam_in I L hps hl r e0 hr.hd un hns kp
    refine PySem.W.kla_codeExpr (wpAny_mono ((hbody (hr.deeper _)).run [] _ _ HZ Q J ht) (fun v s' hq => ?_) fun e s' hq => hq)
    obtain ⟨w', H', J', rv, q⟩ := hq
    exact ⟨w', H', J'.os, J'.bare, J'.base, J'.hok, rv, q⟩
end
end DL
namespace DL
variable [TB] [LC]
open PySem PySem.Spec PyProof.Rows L2 LamX
/-! ### slots behind slots: the first n are hidden meanwhile -/
def fps (fpf : Nat → List Addr) (st : DSt) (n : Nat) (b : Addr) : Prop := ∃ i, i < n ∧ isOw st i ∧ b ∈ fpf i
open Classical in
noncomputable def Fr.suf (F : Fr) (H : Hp) (fp : Addr → Prop) (n : Nat) : Fr where
  He := F.He
  G0 := F.G0
  pr := fun b => if fp b then H b else F.pr b
  hid := fun b => F.hid b ∨ fp b
  mfp := fun i => F.mfp (i + n)
  mua := fun i => F.mua (i + n)
  gv := fun _ => none
section
variable {K : PySem.W.Frag} {F : Fr} {W : WX} {G H : Hp} {fpf : Nat → List Addr} {σ : L2.St} {st : DSt} {n : Nat}
theorem drop_at {α : Type} {l : List α} {n i : Nat} : (l.drop n)[i]? = l[i + n]? := by rw [List.getElem?_drop, Nat.add_comm]
theorem ow_drop {i : Nat} (h : isOw (st.drop n) i) : isOw st (i + n) := by
  obtain ⟨m, d, e⟩ := h
  rw [drop_at] at e
  exact ⟨m, d, e⟩
open Classical in
theorem Sync.suf (S : Sync K F G fpf σ H st) (n : Nat) : Sync K (F.suf H (fps fpf st n) n) G (fun i => fpf (i + n)) (σ.drop n) H (st.drop n) where
  len := by rw [List.length_drop, List.length_drop, S.len]
  sh := fun i d e => by rw [drop_at] at e ⊢; exact S.sh _ d e
  ow := fun i m d e => by
    rw [drop_at] at e
    obtain ⟨a, h1, h2, h3, h4, h5⟩ := S.ow _ m d e
    refine ⟨a, by rw [drop_at]; exact h1, h2, h3, fun b hb => ⟨(h4 b hb).1, (h4 b hb).2.1, ?_⟩, h5⟩
    show (if fps fpf st n b then H b else F.pr b) = none
    rw [if_neg fun ⟨j, hj, oj, hb'⟩ => S.sep j (i + n) oj ⟨m, d, e⟩ (by omega) b hb' hb]
    exact (h4 b hb).2.2
  sep := fun i j hi hj ne b hb => S.sep _ _ (ow_drop hi) (ow_drop hj) (by omega) b hb
  g0 := S.g0
  gh := S.gh
  new := S.new
  pr := fun b u e => by
    have e' : (if fps fpf st n b then H b else F.pr b) = some u := e
    by_cases c : fps fpf st n b
    · rw [if_pos c] at e'; exact e'
    · rw [if_neg c] at e'; exact S.pr b u e'
  live := S.live
  hidG := fun b hb => by
    rcases hb with hb | ⟨j, hj, ⟨m, d, e⟩, hb⟩
    · exact S.hidG b hb
    · obtain ⟨a, h1, h2, h3, h4, h5⟩ := S.ow _ m d e
      exact (h4 b hb).1
  hidP := fun b hb => by
    by_cases c : fps fpf st n b
    · obtain ⟨j, hj, ⟨m, d, e⟩, hb'⟩ := id c
      obtain ⟨a, h1, h2, _⟩ := S.ow _ m d e
      obtain ⟨o, ho⟩ := h2.live b hb'
      exact ⟨o, by show (if fps fpf st n b then H b else F.pr b) = some o; rw [if_pos c]; exact ho⟩
    · obtain ⟨o, ho⟩ := S.hidP b (hb.resolve_right c)
      exact ⟨o, by show (if fps fpf st n b then H b else F.pr b) = some o; rw [if_neg c]; exact ho⟩
  ng := S.ng
  np := fun b u e => by
    have e' : (if fps fpf st n b then H b else F.pr b) = some u := e
    by_cases c : fps fpf st n b
    · obtain ⟨j, hj, ⟨m, d, ed⟩, hb⟩ := id c
      obtain ⟨a, h1, h2, _⟩ := S.ow _ m d ed
      obtain ⟨o, ho, pl⟩ := h2.pl b hb
      rw [if_pos c, ho] at e'
      cases e'; exact pl
    · rw [if_neg c] at e'; exact S.np b u e'
  tab := S.tab
  gv := fun i x e => nomatch e
open Classical in
theorem suf_pr {b : Addr} (S : Sync K F G fpf σ H st) (e : (F.suf H (fps fpf st n) n).pr b = none) : F.pr b = none ∧ ¬ fps fpf st n b := by
  have e' : (if fps fpf st n b then H b else F.pr b) = none := e
  by_cases c : fps fpf st n b
  · obtain ⟨j, hj, ⟨m, d, ed⟩, hb⟩ := id c
    obtain ⟨a, h1, h2, _⟩ := S.ow _ m d ed
    obtain ⟨o, ho⟩ := h2.live b hb
    rw [if_pos c, ho] at e'; cases e'
  · rw [if_neg c] at e'; exact ⟨e', c⟩
def joinFp (n : Nat) (f g : Nat → List Addr) : Nat → List Addr := fun i => if i < n then f i else g (i - n)
theorem join_at {n i : Nat} {st st2 : DSt} (hn : n ≤ st.length) {s : Slot} (e : (st.take n ++ st2)[i]? = some (some s)) : (i < n ∧ st[i]? = some (some s)) ∨ (n ≤ i ∧ st2[i - n]? = some (some s)) := by
  have hl : (st.take n).length = n := by rw [List.length_take]; omega
  by_cases c : i < n
  · rw [List.getElem?_append_left (by rw [hl]; exact c), List.getElem?_take_of_lt c] at e
    exact .inl ⟨c, e⟩
  · rw [List.getElem?_append_right (by rw [hl]; omega), hl] at e
    exact .inr ⟨by omega, e⟩
theorem join_ow {n i : Nat} {st st2 : DSt} (hn : n ≤ st.length) (h : isOw (st.take n ++ st2) i) : (i < n ∧ isOw st i) ∨ (n ≤ i ∧ isOw st2 (i - n)) := by
  obtain ⟨m, d, e⟩ := h
  rcases join_at hn e with ⟨a, b⟩ | ⟨a, b⟩
  · exact .inl ⟨a, m, d, b⟩
  · exact .inr ⟨a, m, d, b⟩
open Classical in
theorem Sync.unsuf (S : Sync K F G fpf σ H st) (hn : n ≤ st.length) {G2 H2 : Hp} {fpf2 : Nat → List Addr} {st2 : DSt} (g : Same G G2) (S2 : Sync K (F.suf H (fps fpf st n) n) G2 fpf2 (σ.drop n) H2 st2) :
    Sync K F G2 (joinFp n fpf fpf2) σ H2 (st.take n ++ st2) := by
  have hl : (st.take n).length = n := by rw [List.length_take]; omega
  have keep : ∀ {i : Nat} {b : Addr}, i < n → isOw st i → b ∈ fpf i → H2 b = H b := fun {i b} hi oi hb => by
    have c : fps fpf st n b := ⟨i, hi, oi, hb⟩
    obtain ⟨m, d, e⟩ := oi
    obtain ⟨a, h1, h2, _⟩ := S.ow _ m d e
    obtain ⟨o, ho⟩ := h2.live b hb
    rw [ho]
    exact S2.pr b o (by show (if fps fpf st n b then H b else F.pr b) = some o; rw [if_pos c]; exact ho)
  have jl : ∀ {i : Nat}, i < n → joinFp n fpf fpf2 i = fpf i := fun {i} h => by unfold joinFp; rw [if_pos h]
  have jr : ∀ {i : Nat}, n ≤ i → joinFp n fpf fpf2 i = fpf2 (i - n) := fun {i} h => by unfold joinFp; rw [if_neg (by omega)]
  have two : ∀ {i j : Nat} {b : Addr}, i < n → isOw st i → isOw st2 j → b ∈ fpf i → b ∈ fpf2 j → False := fun {i j b} hi oi ⟨m, d, e⟩ h1 h2 => by
    obtain ⟨_, _, _, _, f4, _⟩ := S2.ow j m d e
    exact (suf_pr S (f4 b h2).2.2).2 ⟨i, hi, oi, h1⟩
  refine ⟨?_, fun i d e => ?_, fun i m d e => ?_, fun i j hi hj ne b hb => ?_, S2.g0, S2.gh, S2.new, fun b u e => ?_, S2.live, fun b hb => S2.hidG b (.inl hb), S.hidP, S2.ng, S.np, S2.tab, S.gv⟩
  · rw [List.length_append, hl, S2.len, List.length_drop, ← S.len]
    omega
  · rcases join_at hn e with ⟨a, b⟩ | ⟨a, b⟩
    · obtain ⟨v, h1, h2⟩ := S.sh i d b
      exact ⟨v, h1, h2.mono g⟩
    · obtain ⟨v, h1, h2⟩ := S2.sh _ d b
      rw [drop_at, Nat.sub_add_cancel a] at h1
      exact ⟨v, h1, h2⟩
  · rcases join_at hn e with ⟨c, b⟩ | ⟨c, b⟩
    · rw [jl c]
      obtain ⟨a, h1, h2, h3, h4, h5⟩ := S.ow i m d b
      exact ⟨a, h1, h2.mono g fun x hx => keep c ⟨m, d, b⟩ hx, h3, fun x hx => ⟨S2.hidG x (.inr ⟨i, c, ⟨m, d, b⟩, hx⟩), (h4 x hx).2⟩, h5⟩
    · rw [jr c]
      obtain ⟨a, h1, h2, h3, h4, h5⟩ := S2.ow _ m d b
      rw [drop_at, Nat.sub_add_cancel c] at h1
      have m1 : (F.suf H (fps fpf st n) n).mfp (i - n) = F.mfp i := by show F.mfp (i - n + n) = _; rw [Nat.sub_add_cancel c]
      have m2 : (F.suf H (fps fpf st n) n).mua (i - n) = F.mua i := by show F.mua (i - n + n) = _; rw [Nat.sub_add_cancel c]
      rw [m2] at h5
      refine ⟨a, h1, h2, h3, fun x hx => ⟨(h4 x hx).1, ?_, (suf_pr S (h4 x hx).2.2).1⟩, h5⟩
      have z := (h4 x hx).2.1
      rw [m1] at z
      exact z
  · rcases join_ow hn hi with ⟨ci, oi⟩ | ⟨ci, oi⟩
    · rw [jl ci] at hb
      rcases join_ow hn hj with ⟨cj, oj⟩ | ⟨cj, oj⟩
      · rw [jl cj]; exact S.sep i j oi oj ne b hb
      · rw [jr cj]; exact fun z => two ci oi oj hb z
    · rw [jr ci] at hb
      rcases join_ow hn hj with ⟨cj, oj⟩ | ⟨cj, oj⟩
      · rw [jl cj]; exact fun z => two cj oj oi z hb
      · rw [jr cj]; exact S2.sep _ _ oi oj (by omega) b hb
  · by_cases c : fps fpf st n b
    · obtain ⟨j, hj, ⟨m, d, ed⟩, hb⟩ := id c
      obtain ⟨_, _, _, _, f4, _⟩ := S.ow _ m d ed
      rw [(f4 b hb).2.2] at e; cases e
    · exact S2.pr b u (by show (if fps fpf st n b then H b else F.pr b) = some u; rw [if_neg c]; exact e)
theorem Apart.unsuf (S : Sync K F G fpf σ H st) (hn : n ≤ st.length) {G2 : Hp} {fpf2 : Nat → List Addr} {st2 : DSt} {a : Addr} (p : Apart (F.suf H (fps fpf st n) n) G2 fpf2 st2 a) : Apart F G2 (joinFp n fpf fpf2) (st.take n ++ st2) a :=
  ⟨p.g, p.he, (suf_pr S p.pr).1, fun i hi hb => by
    rcases join_ow hn hi with ⟨ci, oi⟩ | ⟨ci, oi⟩
    · unfold joinFp at hb
      rw [if_pos ci] at hb
      exact (suf_pr S p.pr).2 ⟨i, ci, oi, hb⟩
    · unfold joinFp at hb
      rw [if_neg (by omega)] at hb
      exact p.fp _ oi hb⟩
end
/-! ### the maker's lambdas, by data -/
/-- the lambda of this number, called with these: what becomes of the maker's slots -/
abbrev LMB := Nat → List D → M D
/-- a wish for exceptions, at any slots -/
def XW (E : XK) : WX := fun cls d _ H => E cls d H
def runsM (K : PySem.W.Frag) (mb : LMB) (σf : L2.St) (id : Nat) (vs : List V) (E : XK) (H : Hp) (Q : VK) : Prop := ∃ (F : Fr) (ds : List D) (st : DSt) (G : Hp) (fpf : Nat → List Addr), Sync K F G fpf σf H st ∧ RepA K G ds vs ∧ At K F (XW E) false (RSh K) (mb id ds st) st G fpf σf H Q
structure Lk (P : Program) (w : World) (K : PySem.W.Frag) (mg : Str → Option Value) (base : Heap) (k : Nat) (mb : LMB) (σf : L2.St) (outer : List Env) (s : Shared) (H : Hp) : Prop where
  run : ∀ (id : Nat) (L : LamT), LC.lam id = some L → ∀ (f c' : Addr) (A : Around) (out' : List Env) (s' : Shared) (H' : Hp) (E : XK) (Q : VK) (us : List Value) (vs : List V), Room k A → Env0 P w K mg base A out' s' H' → Un (frs outer) [] H H' s.heap s'.heap →
    H' f = some (LamO L f c') → H' c' = some (CodeO c' L.q) → Vals vs us → runsM K mb σf id vs E H' Q → codeAny (model P w) A (.call (.ref f) ⟨us, []⟩) (CR (CX P w) out' P w H' s' Q E) s'
/-- .. from a def whose n own slots stand ahead -/
def liftB (n : Nat) (mb : LMB) : LMB := fun id ds st => match mb id ds (st.drop n) with
  | .ok d sf => .ok d (st.take n ++ sf)
  | .err x sf => .err x (st.take n ++ sf)
  | .stuck => .stuck
theorem runs_lift {K : PySem.W.Frag} {mb : LMB} {n : Nat} {σ : L2.St} {id : Nat} {vs : List V} {E : XK} {H : Hp} {Q : VK} (hn : n ≤ σ.length) (h : runsM K (liftB n mb) σ id vs E H Q) : runsM K mb (σ.drop n) id vs E H Q := by
  obtain ⟨F, ds, st, G, fpf, S, r, A⟩ := h
  have hl : n ≤ st.length := by rw [S.len]; exact hn
  refine ⟨_, ds, st.drop n, G, _, S.suf n, r, ?_⟩
  unfold liftB at A
  revert A
  cases mb id ds (st.drop n) with
  | stuck => exact fun A => A
  | ok d sf => exact fun A v H2 G2 fpf2 z g S2 r2 => A v H2 G2 (joinFp n fpf fpf2) nq g (S.unsuf hl g S2) r2
  | err x sf => exact fun A a fv H2 G2 fpf2 g S2 ap ha hk hr => A a fv H2 G2 (joinFp n fpf fpf2) g (S.unsuf hl g S2) (ap.unsuf S hl) ha hk hr
theorem un_under {fs : List Addr} {a : Addr} {H0 H1 H2 : Hp} {h0 h1 h2 : Heap} (u : Un fs [] H0 H1 h0 h1) (v : Un (a :: fs) [] H1 H2 h1 h2) (ha : h0.objs.size ≤ a) : Un fs [] H0 H2 h0 h2 := by
  have w : Un (a :: fs) [] H0 H2 h0 h2 := (u.mono (fun b hb => List.mem_cons_of_mem _ hb) fun b z => z).trans v
  refine ⟨fun b o q n hb hx => w.keep b o q n (fun z => ?_) hx, fun b o q n hb hx => w.any q n hx, w.free, w.there, w.tups, w.frzs, w.tbls⟩
  rcases List.mem_cons.mp z with z | z
  · subst z
    exact Nat.lt_irrefl _ (Nat.lt_of_lt_of_le (Heap.lt_size q) ha)
  · exact hb z
/-- what is known of lambdas in Z, where its slots hold what F says -/
structure Kn (Z : Cx) (F : Fr) (mb : LMB) (k : Nat) : Prop where
  at_ : ∀ (pn : List (Addr × Obj)) (xe : Value → Shared → Prop) (pins : List (Addr × Obj)) (σ : L2.St) (H : Hp) (s : Shared), L2.Inv (Z.tr pn xe) pins σ H s → (∀ i x, F.gv i = some x → σ[i]? = some x) → Lk Z.prog Z.w Z.K Z.mg Z.base k mb σ Z.stack s H
/-- behind the n own slots stand the maker's, for good -/
structure PinG (F : Fr) (N : List Str) (n : Nat) (σf : L2.St) : Prop where
  len : N.length = n + σf.length
  at_ : ∀ i x, σf[i]? = some x → F.gv (i + n) = some x
theorem Kn.tr {Z : Cx} {F : Fr} {mb : LMB} {k : Nat} {pn : List (Addr × Obj)} {xe : Value → Shared → Prop} (h : Kn Z F mb k) : Kn (Z.tr pn xe) F mb k := ⟨fun pn' xe' => h.at_ pn' xe'⟩
theorem Kn.of_def {Z : Cx} {F : Fr} {mb : LMB} {k n : Nat} {σf : L2.St} (pg : PinG F Z.N n σf) (T : Lk Z.prog Z.w Z.K Z.mg Z.base k mb σf Z.outer Z.s_0 Z.H_0) (hex : Z.ex = []) (hs : Z.stack = Z.env :: Z.outer) (hf : Z.env.frame = some Z.env.locals) : Kn Z F (liftB n mb) k := by
  refine ⟨fun pn xe pins σ H s I hg => ⟨fun id L hL f c' A out' s' H' E Q us vs hr e0 u hf' hc r h => ?_⟩⟩
  have il : σ.length = Z.N.length := I.len
  have un : Un (frs Z.outer) [] Z.H_0 H Z.s_0.heap s.heap := by
    have b : Un (frs Z.outer) Z.ex Z.H_0 H Z.s_0.heap s.heap := I.base
    rw [hex] at b
    exact b
  have e : frs Z.stack = Z.env.locals :: frs Z.outer := by rw [hs]; unfold frs; rw [List.filterMap_cons_some hf]
  rw [e] at u
  have ed : σ.drop n = σf := by
    apply List.ext_getElem?
    intro i
    rw [drop_at]
    cases q : σf[i]? with
    | some x => exact hg _ _ (pg.at_ i x q)
    | none =>
      rw [List.getElem?_eq_none_iff] at q ⊢
      rw [il, pg.len]
      omega
  have h2 := runs_lift (by rw [il, pg.len]; omega) h
  rw [ed] at h2
  exact T.run id L hL f c' A out' s' H' E Q us vs hr e0 (un_under un u I.ok.above) hf' hc r h2
end DL
namespace DL
variable [TB] [LC]
open PySem PySem.Spec PyProof.Rows L2 LamX
/-! ### what is lent to a def that runs before the maker's slots -/
def clrA : List AV → DSt → DSt
  | .m i :: as, st => clrA as (st.set i none)
  | .d _ :: as, st => clrA as st
  | [], st => st
def resA : List AV → DSt → DSt → DSt
  | .m i :: as, st, s => resA as st (s.set i (st.getD i none))
  | .d _ :: as, st, s => resA as st s
  | [], _, s => s
theorem clrA_len : ∀ {as : List AV} {st : DSt}, (clrA as st).length = st.length
  | [], _ => rfl
  | .m i :: as, st => by unfold clrA; rw [clrA_len]; simp
  | .d _ :: as, st => by unfold clrA; rw [clrA_len]
theorem resA_len : ∀ {as : List AV} {st s : DSt}, (resA as st s).length = s.length
  | [], _, _ => rfl
  | .m i :: as, st, s => by unfold resA; rw [resA_len]; simp
  | .d _ :: as, st, s => by unfold resA; rw [resA_len]
theorem clrA_get : ∀ {as : List AV} {st : DSt} {j : Nat} {x : Slot}, (clrA as st)[j]? = some (some x) → (∀ k : Nat, as[k]? ≠ some (AV.m j)) ∧ st[j]? = some (some x)
  | [], st, j, x, h => ⟨fun k e => (by simp at e), h⟩
  | .d y :: as, st, j, x, h => by
    obtain ⟨a, b⟩ := clrA_get (as := as) h
    refine ⟨fun k e => ?_, b⟩
    cases k with
    | zero => cases e
    | succ k => exact a k (by simpa using e)
  | .m i :: as, st, j, x, h => by
    obtain ⟨a, b⟩ := clrA_get (as := as) h
    rcases get_set b with ⟨_, z, _⟩ | ⟨n, b⟩
    · cases z
    · refine ⟨fun k e => ?_, b⟩
      cases k with
      | zero => cases e; exact n rfl
      | succ k => exact a k (by simpa using e)
theorem resA_get : ∀ {as : List AV} {st s : DSt} {j : Nat} {x : Slot}, (resA as st s)[j]? = some (some x) → ((∃ k : Nat, as[k]? = some (AV.m j)) ∧ st[j]? = some (some x)) ∨ ((∀ k : Nat, as[k]? ≠ some (AV.m j)) ∧ s[j]? = some (some x))
  | [], st, s, j, x, h => .inr ⟨fun k e => (by simp at e), h⟩
  | .d y :: as, st, s, j, x, h => by
    rcases resA_get (as := as) h with ⟨⟨k, a⟩, b⟩ | ⟨a, b⟩
    · exact .inl ⟨⟨k + 1, by simpa using a⟩, b⟩
    · refine .inr ⟨fun k e => ?_, b⟩
      cases k with
      | zero => cases e
      | succ k => exact a k (by simpa using e)
  | .m i :: as, st, s, j, x, h => by
    rcases resA_get (as := as) h with ⟨⟨k, a⟩, b⟩ | ⟨a, b⟩
    · exact .inl ⟨⟨k + 1, by simpa using a⟩, b⟩
    · rcases get_set b with ⟨rfl, z, _⟩ | ⟨n, b⟩
      · refine .inl ⟨⟨0, rfl⟩, ?_⟩
        rw [List.getD_eq_getElem?_getD] at z
        cases e : st[j]? with
        | none => rw [e] at z; cases z
        | some y => rw [e] at z; rw [z]; rfl
      · refine .inr ⟨fun k e => ?_, b⟩
        cases k with
        | zero => cases e; exact n rfl
        | succ k => exact a k (by simpa using e)
/-- a lent slot is its own again -/
theorem resA_own : ∀ {as : List AV} {st s : DSt} {j k : Nat}, s.length = st.length → as[k]? = some (AV.m j) → (resA as st s)[j]? = st[j]?
  | [], st, s, j, k, hl, e => by simp at e
  | .d y :: as, st, s, j, k, hl, e => by
    cases k with
    | zero => cases e
    | succ k => exact resA_own (as := as) (k := k) hl (by simpa using e)
  | .m i :: as, st, s, j, k, hl, e => by
    cases k with
    | succ k => exact resA_own (as := as) (k := k) (by simpa using hl) (by simpa using e)
    | zero =>
      have ei : j = i := by cases e; rfl
      subst ei
      clear e
      unfold resA
      by_cases c : ∃ k : Nat, as[k]? = some (AV.m j)
      · obtain ⟨k, e⟩ := c
        exact resA_own (as := as) (k := k) (by simpa using hl) e
      · have key : ∀ {as : List AV} {s : DSt}, (∀ k : Nat, as[k]? ≠ some (AV.m j)) → (resA as st s)[j]? = s[j]? := fun {as} => by
          induction as with
          | nil => exact fun _ => rfl
          | cons a as ih =>
            intro s h
            cases a with
            | d y => exact ih fun k e => h (k + 1) (by simpa using e)
            | m i =>
              unfold resA
              rw [ih fun k e => h (k + 1) (by simpa using e), List.getElem?_set_ne fun (z : i = j) => h 0 (by rw [z]; rfl)]
        rw [key fun k e => c ⟨k, e⟩]
        by_cases b : j < st.length
        · rw [List.getElem?_set_self (by omega), List.getD_eq_getElem?_getD, List.getElem?_eq_getElem b]
          rfl
        · rw [List.getElem?_eq_none_iff.mpr (by simp; omega), List.getElem?_eq_none_iff.mpr (by omega)]
/-! ### the callee's frame -/
def Fr.inner (F : Fr) (n : Nat) (fpf : Nat → List Addr) (as : List AV) (vs : List V) (σ : L2.St) : Fr where
  He := F.He
  G0 := F.G0
  pr := F.pr
  hid := F.hid
  mfp := fun i => if i < n then argFp fpf as i else F.mfp (i - n)
  mua := fun i => if i < n then (match vs[i]? with
    | some (.ref a) => some a
    | _ => none) else F.mua (i - n)
  gv := fun i => if i < n then none else σ[i - n]?
section
variable {K : PySem.W.Frag} {F : Fr} {W : WX} {G H : Hp} {fpf : Nat → List Addr} {σ : L2.St} {st : DSt} {mu : List Bool} {as : List AV} {vs : List V} {ds ms : List D} {N : List Str}
theorem pre_get {n : Nat} {st0 : DSt} {i : Nat} {s : Slot} (hm : mu.length = ds.length) (hn : ds.length ≤ n) (h : (initS mu ds ++ List.replicate (n - ds.length) none ++ st0)[i]? = some (some s)) :
    (i < n ∧ ∃ m d, mu[i]? = some m ∧ ds[i]? = some d ∧ s = if m = true then Slot.ow true d else Slot.sh d) ∨ (n ≤ i ∧ st0[i - n]? = some (some s)) := by
  have l1 : (initS mu ds ++ List.replicate (n - ds.length) none).length = n := by rw [List.length_append, List.length_replicate, initS_len hm]; omega
  by_cases c : i < n
  · rw [List.getElem?_append_left (by rw [l1]; exact c)] at h
    refine .inl ⟨c, ?_⟩
    by_cases hi : i < (initS mu ds).length
    · rw [List.getElem?_append_left hi] at h
      exact initS_get h
    · rw [List.getElem?_append_right (Nat.le_of_not_lt hi), List.getElem?_replicate] at h
      split at h <;> cases h
  · rw [List.getElem?_append_right (by rw [l1]; omega), l1] at h
    exact .inr ⟨by omega, h⟩
theorem start_get {N : List Str} {vs : List V} {i : Nat} {v : V} {σ : L2.St} (h : vs[i]? = some v) : (L2.start N vs ++ σ)[i]? = some (some v) := by
  have hi : i < vs.length := (List.getElem?_eq_some_iff.mp h).1
  unfold L2.start
  rw [List.append_assoc, List.getElem?_append_left (by simpa using hi), List.getElem?_map, h]
  rfl
theorem Sync.inner (S : Sync K F G fpf σ H st) (r : AvA K G σ as vs) (nd : (as.filterMap avSl).Nodup) (g : getA st mu as = some ds) (hn : vs.length ≤ N.length) :
    Sync K (F.inner N.length fpf as vs σ) G (fun i => if i < N.length then argFp fpf as i else fpf (i - N.length)) (L2.start N vs ++ σ) H (initS mu ds ++ List.replicate (N.length - ds.length) none ++ clrA as st) := by
  have A := args_of S r nd g
  have g' := getA_ok g
  have ld : ds.length ≤ N.length := by rw [A.ld]; exact hn
  have hm : mu.length = ds.length := A.lm.trans A.ld.symm
  have sl : (L2.start N vs).length = N.length := start_len hn
  have cs := fun {i : Nat} {s : Slot} (h : (initS mu ds ++ List.replicate (N.length - ds.length) none ++ clrA as st)[i]? = some (some s)) => pre_get hm ld h
  have os : ∀ {i : Nat}, isOw (initS mu ds ++ List.replicate (N.length - ds.length) none ++ clrA as st) i → (i < N.length ∧ mu[i]? = some true) ∨ (N.length ≤ i ∧ isOw st (i - N.length) ∧ ∀ k : Nat, as[k]? ≠ some (AV.m (i - N.length))) := fun {i} ⟨m, d, h⟩ => by
    rcases cs h with ⟨c, m', d', h1, h2, h3⟩ | ⟨c, h⟩
    · cases m' with
      | true => exact .inl ⟨c, h1⟩
      | false => rw [if_neg Bool.false_ne_true] at h3; cases h3
    · obtain ⟨a, b⟩ := clrA_get h
      exact .inr ⟨c, ⟨m, d, b⟩, a⟩
  have lentAt : ∀ {i : Nat}, mu[i]? = some true → ∃ j, as[i]? = some (AV.m j) ∧ isOw st j ∧ argFp fpf as i = fpf j := fun {i} h => by
    have hi : i < mu.length := (List.getElem?_eq_some_iff.mp h).1
    rw [hm] at hi
    obtain ⟨j, m, e1, e2⟩ := g'.ow i _ h (List.getElem?_eq_getElem hi)
    exact ⟨j, e1, ⟨_, _, e2⟩, by unfold argFp; rw [e1]⟩
  refine ⟨?_, fun i d h => ?_, fun i m d h => ?_, fun i j hi hj ne b hb => ?_, S.g0, S.gh, S.new, S.pr, S.live, S.hidG, S.hidP, S.ng, S.np, S.tab, fun i x e => ?_⟩
  · rw [List.length_append, List.length_append, List.length_append, List.length_replicate, initS_len hm, clrA_len, S.len, sl]
    omega
  · rcases cs h with ⟨c, m', d', h1, h2, h3⟩ | ⟨c, h⟩
    · cases m' with
      | true => rw [if_pos rfl] at h3; cases h3
      | false =>
        rw [if_neg Bool.false_ne_true] at h3
        cases h3
        obtain ⟨v, e1, e2⟩ := A.sh i d h1 h2
        exact ⟨v, start_get e1, e2⟩
    · obtain ⟨_, b⟩ := clrA_get h
      obtain ⟨v, e1, e2⟩ := S.sh _ d b
      exact ⟨v, by rw [List.getElem?_append_right (by rw [sl]; exact c), sl]; exact e1, e2⟩
  · rcases cs h with ⟨c, m', d', h1, h2, h3⟩ | ⟨c, h⟩
    · cases m' with
      | false => rw [if_neg Bool.false_ne_true] at h3; cases h3
      | true =>
        rw [if_pos rfl] at h3
        cases h3
        obtain ⟨a, e1, e2, e3, e4⟩ := A.ow i d h1 h2
        obtain ⟨j, ej, oj, ef⟩ := lentAt h1
        obtain ⟨m0, d0, ed⟩ := oj
        obtain ⟨_, _, _, _, f4, _⟩ := S.ow j m0 d0 ed
        simp only [if_pos c]
        refine ⟨a, start_get e1, e2, e3, fun b hb => ⟨e4 b hb, .inr ⟨(by first | rfl | trivial), by show b ∈ (if i < N.length then argFp fpf as i else _); rw [if_pos c]; exact hb⟩, ?_⟩, fun _ => ?_⟩
        · rw [ef] at hb
          exact (f4 b hb).2.2
        · show (if i < N.length then (match vs[i]? with | some (.ref a) => some a | _ => none) else F.mua (i - N.length)) = some a
          rw [if_pos c, e1]
    · obtain ⟨_, b⟩ := clrA_get h
      obtain ⟨a, e1, e2, e3, e4, e5⟩ := S.ow _ m d b
      have nc : ¬ i < N.length := by omega
      simp only [if_neg nc]
      refine ⟨a, by rw [List.getElem?_append_right (by rw [sl]; exact c), sl]; exact e1, e2, e3, fun x hx => ⟨(e4 x hx).1, ?_, (e4 x hx).2.2⟩, fun z => ?_⟩
      · rcases (e4 x hx).2.1 with z | ⟨z1, z2⟩
        · exact .inl z
        · exact .inr ⟨z1, by show x ∈ (if i < N.length then argFp fpf as i else F.mfp (i - N.length)); rw [if_neg nc]; exact z2⟩
      · show (if i < N.length then (match vs[i]? with | some (.ref a) => some a | _ => none) else F.mua (i - N.length)) = some a
        rw [if_neg nc]; exact e5 z
  · rcases os hi with ⟨ci, hi⟩ | ⟨ci, oi, ni⟩
    · simp only [if_pos ci] at hb
      obtain ⟨i', ei, oi, ef⟩ := lentAt hi
      rw [ef] at hb
      rcases os hj with ⟨cj, hj⟩ | ⟨cj, oj, nj⟩
      · simp only [if_pos cj]
        obtain ⟨j', ej, oj, ef2⟩ := lentAt hj
        rw [ef2]
        refine S.sep i' j' oi oj (fun z => ne ?_) b hb
        subst z
        exact slot_uq nd ei ej
      · simp only [if_neg (show ¬ j < N.length by omega)]
        exact S.sep i' _ oi oj (fun z => nj i (by rw [← z]; exact ei)) b hb
    · simp only [if_neg (show ¬ i < N.length by omega)] at hb
      rcases os hj with ⟨cj, hj⟩ | ⟨cj, oj, nj⟩
      · simp only [if_pos cj]
        obtain ⟨j', ej, oj, ef2⟩ := lentAt hj
        rw [ef2]
        exact S.sep _ j' oi oj (fun z => ni j (by rw [z]; exact ej)) b hb
      · simp only [if_neg (show ¬ j < N.length by omega)]
        exact S.sep _ _ oi oj (by omega) b hb
  · have e' : (if i < N.length then none else σ[i - N.length]?) = some x := e
    by_cases c : i < N.length
    · rw [if_pos c] at e'; cases e'
    · rw [if_neg c] at e'
      rw [List.getElem?_append_right (by rw [sl]; omega), sl]
      exact e'
/-- back: what the caller's slots are then -/
def setC (as : List AV) (ms : List D) (st s : DSt) : DSt := setBack as ms (resA as st s)
theorem Sync.outer (S : Sync K F G fpf σ H st) (r : AvA K G σ as vs) (nd : (as.filterMap avSl).Nodup) (g : getA st mu as = some ds) (hn : vs.length ≤ N.length) {G2 H2 : Hp} {fp2 : Nat → List Addr} {σ2 : L2.St} {st2 : DSt}
    (S2 : Sync K (F.inner N.length fpf as vs σ) G2 fp2 σ2 H2 st2) (hl2 : st2.length = N.length + st.length) (o : outS mu st2 = some ms) :
    Sync K F G2 (backFp (fun j => fp2 (j + N.length)) fp2 as) σ H2 (setC as ms st (st2.drop N.length)) ∧ ∀ j, isOw (setC as ms st (st2.drop N.length)) j → ∃ k, isOw st2 k ∧ backFp (fun j => fp2 (j + N.length)) fp2 as j = fp2 k := by
  have A := args_of S r nd g
  have g' := getA_ok g
  have hm : mu.length = ds.length := A.lm.trans A.ld.symm
  have hl : ms.length = as.length := (outS_len o).trans g'.lm
  have dl : (st2.drop N.length).length = st.length := by rw [List.length_drop, hl2]; omega
  have hw0 : ∀ k i : Nat, as[k]? = some (AV.m i) → isOw st i := fun k i e => (g'.mo k i e).2
  have hw : ∀ k i : Nat, as[k]? = some (AV.m i) → isOw (resA as st (st2.drop N.length)) i := fun k i e => by
    obtain ⟨m, d, h⟩ := hw0 k i e
    exact ⟨m, d, by rw [resA_own dl e]; exact h⟩
  have fix : ∀ {j : Nat} {x : Option V}, σ[j]? = some x → σ2[j + N.length]? = some x := fun {j x} e => S2.gv _ _ (by
    show (if j + N.length < N.length then none else σ[j + N.length - N.length]?) = some x
    rw [if_neg (by omega), Nat.add_sub_cancel]; exact e)
  have cs : ∀ {j : Nat} {s : Slot}, (setC as ms st (st2.drop N.length))[j]? = some (some s) → (∃ (k : Nat) (m : Bool) (d0 d : D), as[k]? = some (AV.m j) ∧ ms[k]? = some d ∧ st[j]? = some (some (Slot.ow m d0)) ∧ s = .ow m d) ∨ ((∀ k : Nat, as[k]? ≠ some (AV.m j)) ∧ st2[j + N.length]? = some (some s)) := fun {j s} h => by
    rcases setBack_get hl nd hw h with ⟨k, m, d0, d, e1, e2, e3, e4⟩ | ⟨n, e⟩
    · rw [resA_own dl e1] at e3
      exact .inl ⟨k, m, d0, d, e1, e2, e3, e4⟩
    · rcases resA_get e with ⟨⟨k, a⟩, _⟩ | ⟨_, b⟩
      · exact absurd a (n k)
      · rw [drop_at] at b
        exact .inr ⟨n, b⟩
  have lt : ∀ {k j : Nat}, as[k]? = some (AV.m j) → mu[k]? = some true ∧ k < N.length := fun {k j} e => by
    refine ⟨(g'.mo k j e).1, ?_⟩
    have : k < as.length := (List.getElem?_eq_some_iff.mp e).1
    rw [← g'.ld, A.ld] at this
    omega
  have own : ∀ {k j : Nat} {d : D}, as[k]? = some (AV.m j) → ms[k]? = some d → ∃ a, σ[j]? = some (some (.ref a)) ∧ Own K G2 H2 d a (fp2 k) ∧ (fp2 k).Nodup ∧ (∀ b ∈ fp2 k, G2 b = none ∧ (F.He b = none ∨ b ∈ fpf j) ∧ F.pr b = none) ∧ isOw st2 k := fun {k j d} e1 e2 => by
    obtain ⟨h1, h2⟩ := lt e1
    obtain ⟨d', q1, q2⟩ := outS_get o h1
    rw [e2] at q1
    cases q1
    obtain ⟨a, p1, p2, p3, p4, p5⟩ := S2.ow k true d q2
    obtain ⟨v, r1, r2⟩ := r.get e1
    have r2' : σ[j]? = some (some v) := r2
    have p5' : (if k < N.length then (match vs[k]? with | some (.ref a) => some a | _ => none) else F.mua (k - N.length)) = some a := p5 rfl
    rw [if_pos h2, r1] at p5'
    have ev : v = .ref a := by
      cases v with
      | ref b => cases p5'; rfl
      | _ => cases p5'
    subst ev
    refine ⟨a, r2', p2, p3, fun b hb => ⟨(p4 b hb).1, ?_, (p4 b hb).2.2⟩, ⟨_, _, q2⟩⟩
    rcases (p4 b hb).2.1 with z | ⟨_, z⟩
    · exact .inl z
    · have z' : b ∈ (if k < N.length then argFp fpf as k else F.mfp (k - N.length)) := z
      rw [if_pos h2] at z'
      unfold argFp at z'
      rw [e1] at z'
      exact .inr z'
  have ob : ∀ {j : Nat}, isOw (setC as ms st (st2.drop N.length)) j → ∃ k, isOw st2 k ∧ backFp (fun j => fp2 (j + N.length)) fp2 as j = fp2 k ∧ ((as[k]? = some (AV.m j) ∧ k < N.length) ∨ ((∀ k : Nat, as[k]? ≠ some (AV.m j)) ∧ k = j + N.length)) := fun {j} ⟨m, d, e⟩ => by
    rcases cs e with ⟨k, m, d0, d, e1, e2, e3, _⟩ | ⟨n, e2⟩
    · obtain ⟨_, _, _, _, _, z⟩ := own e1 e2
      exact ⟨k, z, backFp_m nd e1, .inl ⟨e1, (lt e1).2⟩⟩
    · exact ⟨j + N.length, ⟨_, _, e2⟩, backFp_o n, .inr ⟨n, rfl⟩⟩
  refine ⟨⟨?_, fun j d h => ?_, fun j m d h => ?_, fun i j hi hj ne b hb => ?_, S2.g0, S2.gh, S2.new, S2.pr, S2.live, S2.hidG, S2.hidP, S2.ng, S2.np, S2.tab, S.gv⟩, fun j hj => ?_⟩
  · unfold setC
    rw [setBack_len, resA_len, dl]
    exact S.len
  · rcases cs h with ⟨_, _, _, _, _, _, _, z⟩ | ⟨_, e⟩
    · cases z
    · obtain ⟨v, h1, h2⟩ := S2.sh _ d e
      have hj : j < σ.length := by
        have q : j + N.length < st2.length := (List.getElem?_eq_some_iff.mp e).1
        rw [← S.len]; omega
      have f := fix (List.getElem?_eq_getElem hj)
      rw [h1] at f
      exact ⟨v, by rw [List.getElem?_eq_getElem hj]; exact congrArg some (Option.some.inj f).symm, h2⟩
  · rcases cs h with ⟨k, m0, d0, d', e1, e2, e3, z⟩ | ⟨n, e⟩
    · cases z
      obtain ⟨a, h1, h2, h3, h4, _⟩ := own e1 e2
      rw [backFp_m nd e1]
      obtain ⟨a0, q1, _, _, q4, q5⟩ := S.ow j m d0 e3
      rw [h1] at q1
      cases q1
      refine ⟨a, h1, h2, h3, fun b hb => ⟨(h4 b hb).1, ?_, (h4 b hb).2.2⟩, q5⟩
      rcases (h4 b hb).2.1 with z | z
      · exact .inl z
      · exact (q4 b z).2.1
    · rw [backFp_o n]
      obtain ⟨a, h1, h2, h3, h4, h5⟩ := S2.ow _ m d e
      have hj : j < σ.length := by
        have q : j + N.length < st2.length := (List.getElem?_eq_some_iff.mp e).1
        rw [← S.len]; omega
      have f := fix (List.getElem?_eq_getElem hj)
      rw [h1] at f
      have nc : ¬ j + N.length < N.length := by omega
      refine ⟨a, by rw [List.getElem?_eq_getElem hj]; exact congrArg some (Option.some.inj f).symm, h2, h3, fun b hb => ⟨(h4 b hb).1, ?_, (h4 b hb).2.2⟩, fun z => ?_⟩
      · rcases (h4 b hb).2.1 with z | ⟨z1, z2⟩
        · exact .inl z
        · have z' : b ∈ (if j + N.length < N.length then argFp fpf as (j + N.length) else F.mfp (j + N.length - N.length)) := z2
          rw [if_neg nc, Nat.add_sub_cancel] at z'
          exact .inr ⟨z1, z'⟩
      · have z' : (if j + N.length < N.length then (match vs[j + N.length]? with | some (.ref a) => some a | _ => none) else F.mua (j + N.length - N.length)) = some a := h5 z
        rw [if_neg nc, Nat.add_sub_cancel] at z'
        exact z'
  · obtain ⟨k, ok, e1, c1⟩ := ob hi
    obtain ⟨l, ol, e2, c2⟩ := ob hj
    rw [e1] at hb
    rw [e2]
    refine S2.sep k l ok ol (fun z => ne ?_) b hb
    subst z
    rcases c1 with ⟨c1, l1⟩ | ⟨_, c1⟩
    · rcases c2 with ⟨c2, _⟩ | ⟨_, c2⟩
      · rw [c1] at c2; cases c2; rfl
      · omega
    · rcases c2 with ⟨_, l2⟩ | ⟨_, c2⟩
      · omega
      · omega
  · obtain ⟨k, a, b, _⟩ := ob hj
    exact ⟨k, a, b⟩
end
end DL
namespace DL
variable [TB] [LC]
open PySem PySem.Spec PyProof.Rows L2 LamX
/-! ### a def that is handed lambdas: it runs with the caller's slots behind its own -/
/-- a name that stands in no text -/
def gN (i : Nat) : Str := ⟨#[1114112 + i]⟩
def lowN (y : Str) : Bool := y.cps.all (decide <| · < 1114112)
theorem low_gN (i : Nat) : lowN (gN i) = false := by
  unfold lowN gN
  simp
theorem gN_inj {i j : Nat} (h : gN i = gN j) : i = j := by
  unfold gN at h
  have : (#[1114112 + i] : Array Nat) = #[1114112 + j] := by injection h
  have := congrArg (fun a => a.getD 0 0) this
  simp at this
  exact this
def gNs (n : Nat) : List Str := (List.range n).map gN
theorem gNs_len {n : Nat} : (gNs n).length = n := by unfold gNs; simp
theorem gNs_nd (n : Nat) : (gNs n).Nodup := by
  unfold gNs
  rw [List.Nodup, List.pairwise_map]
  exact List.Pairwise.imp (fun h z => h (gN_inj z)) List.nodup_range
def smN (N : List Str) (scope : Scope) : Bool := N.all lowN && scope.names.all fun y => lowN y.1
theorem gN_notin {l : List Str} (h : l.all lowN = true) (i : Nat) : gN i ∉ l := fun z => by
  have := List.all_eq_true.mp h _ z
  rw [low_gN] at this; cases this
theorem nd_app {N : List Str} {n : Nat} (hN : N.Nodup) (h : N.all lowN = true) : (N ++ gNs n).Nodup := by
  rw [List.nodup_append]
  refine ⟨hN, gNs_nd n, fun a ha b hb e => ?_⟩
  unfold gNs at hb
  obtain ⟨i, _, rfl⟩ := List.mem_map.mp hb
  exact gN_notin h i (e ▸ ha)
theorem FnScope.ghost {N ps : List Str} {scope : Scope} (S : FnScope N ps scope) (h : N.all lowN = true) (n : Nat) : FnScope (N ++ gNs n) ps scope := by
  have hl : ps.length ≤ N.length := by have := congrArg List.length S.pre; rw [List.length_take] at this; omega
  exact ⟨S.kind, S.co, S.gen, nd_app S.nd h, by rw [List.take_append_of_le_length hl]; exact S.pre, S.par, S.nofree⟩
/-- slots that no name shows may hold anything -/
structure Gho (X : Cx) (σ σ' : L2.St) : Prop where
  len : σ'.length = σ.length
  at_ : ∀ (i : Nat) (y : Str), X.N[i]? = some y → Vis X.env.scope y → σ'[i]? = σ[i]?
theorem Inv.gho {X : Cx} {pins : List (Addr × Obj)} {σ σ' : L2.St} {H : Hp} {s : Shared} (I : L2.Inv X pins σ H s) (g : Gho X σ σ') : L2.Inv X pins σ' H s := by
  refine ⟨I.ok, I.os, I.bare, I.base, ?_, I.cell, I.free, I.freeC, I.pin, I.hok, g.len.trans I.len⟩
  obtain ⟨m, hn, hl⟩ := I.loc
  exact ⟨m, hn, fun i x v e1 e2 e3 => hl i x v e1 (by rw [← g.at_ i x e1 e3]; exact e2) e3⟩
def tGh (X : Cx) (t : TS) : TS := fun D σ H => ∃ σ', Gho X σ σ' ∧ t D σ' H
theorem PSs.gho {X : Cx} {ss : List Stmt} {t : TS} (h : PSs X ss t) : PSs X ss (tGh X t) := ⟨fun pins s σ H D I ⟨σ', g, z⟩ => h.run pins s σ' H D (Inv.gho I g) z⟩
theorem start_hi {N : List Str} {vs : List V} {i : Nat} (h : vs.length ≤ i) (h2 : i < N.length) : (L2.start N vs)[i]? = some none := by
  unfold L2.start
  rw [List.getElem?_append_right (by simpa using h), List.getElem?_replicate]
  simp only [List.length_map]
  rw [if_pos (by omega)]
def spC (K : PySem.W.Frag) (N : List Str) (m : MS) (σf : L2.St) : Sp := fun vs H Q E => ∃ F : Fr, (∀ i x, F.gv i = some x → N.length ≤ i) ∧ (∀ i x, σf[i]? = some x → F.gv (i + N.length) = some x) ∧
  tS K F (fun cls d _ H' => E cls d H') m { nx := fun _ H' => Q .non H', rt := Q } (L2.start N vs ++ σf) H
structure FnC (P : Program) (w : World) (K : PySem.W.Frag) (mg : Str → Option Value) (base : Heap) (k kf : Nat) (g : Addr) (fd : FuncData) (ps N : List Str) (m : LMB → MS) : Prop where
  le : ps.length ≤ N.length
  run : ∀ (A : Around) (outer : List Env) (s : Shared) (H : Hp) (args : Args) (us : List Value) (vs : List V) (Q : VK) (E : XK) (σf : L2.St) (mb : LMB), Room k A → Env0 P w K mg base A outer s H → BindsTo s fd args (ps.zip us) → Vals vs us → vs.length = ps.length →
    Lk P w K mg base kf mb σf outer s H → spC K N (m (liftB N.length mb)) σf vs H Q E → codeAny (model P w) A (.call (.ref g) args) (CR (CX P w) outer P w H s Q E) s
/-- THE RULE for a def that is handed lambdas -/
theorem fnC {P : Program} {w : World} {K : PySem.W.Frag} {mg : Str → Option Value} {base : Heap} {x qual : Str} {params : Arguments} {body : List Stmt} {scope : Scope} {dvs : List V} {kws : List (Str × V)} {g : Addr} {fd : FuncData} {N ps : List Str} {k kf : Nat} {m : LMB → MS}
    (F : FunD K x qual params body scope dvs kws g fd) (S : FnScope N ps scope) (sm : smN N scope = true)
    (hb : ∀ (cdv : Value) (A : Around) (outer : List Env) (s : Shared) (H : Hp) (E : XK), Room k (A.deeper (envOfC qual scope s.heap.objs.size g cdv)) → ∀ (gn : Nat) (mb : LMB) (F : Fr) [GvOk F N.length] (W : WX), (N ++ gNs gn).Nodup → Takes (cxOf (CX P w) P w K mg base (N ++ gNs gn) qual scope g cdv A outer s H E) W →
      PassesOwn (model P w) (cxOf (CX P w) P w K mg base (N ++ gNs gn) qual scope g cdv A outer s H E).A (cxOf (CX P w) P w K mg base (N ++ gNs gn) qual scope g cdv A outer s H E).env (cxOf (CX P w) P w K mg base (N ++ gNs gn) qual scope g cdv A outer s H E).xe →
      Kn (cxOf (CX P w) P w K mg base (N ++ gNs gn) qual scope g cdv A outer s H E) F (liftB N.length mb) kf → PSs (cxOf (CX P w) P w K mg base (N ++ gNs gn) qual scope g cdv A outer s H E) body (tS K F W (m (liftB N.length mb)))) : FnC P w K mg base (k + 1) kf g fd ps N m := by
  have hl : ps.length ≤ N.length := by have := congrArg List.length S.pre; rw [List.length_take] at this; omega
  refine ⟨hl, fun A outer s H args us vs Q E σf mb hr e0 hbi r lv T h => ?_⟩
  obtain ⟨oc, od, dV, kV, doc, pm, an, cdv, ct, osl, rfl, lk, hcd, _, _⟩ := F.ex
  obtain ⟨F1, g1, g2, h⟩ := h
  have sm' := Bool.and_eq_true_iff.mp sm
  refine run_ofS (CX := CX P w) (us := us) (vs := vs) lk hcd (DL.FnScope.ghost S sm'.1 σf.length) hr.toRoom e0 hbi r lv fun hr0 => ?_
  have hr' : Room k (A.deeper _) := ⟨hr0, hr.gd⟩
  haveI : GvOk F1 N.length := ⟨g1⟩
  refine ⟨_, PSs.gho (hb cdv A outer s H E hr' σf.length mb F1 (fun cls d _ H' => E cls d H') (nd_app S.nd sm'.1) (takes_of rfl rfl rfl rfl) (passes_of rfl) (Kn.of_def ⟨by show (N ++ gNs σf.length).length = _; rw [List.length_append, gNs_len], g2⟩ T rfl rfl rfl)), L2.start N vs ++ σf, ⟨?_, fun i y e1 e2 => ?_⟩, h⟩
  · have a1 := start_len (N := N) (vs := vs) (by omega)
    have a2 := start_len (N := N ++ gNs σf.length) (vs := vs) (by rw [List.length_append]; omega)
    rw [List.length_append, a1, a2, List.length_append, gNs_len]
  · have e1 : (N ++ gNs σf.length)[i]? = some y := e1
    have hi : i < N.length := by
      apply Nat.lt_of_not_le
      intro c
      rw [List.getElem?_append_right c] at e1
      unfold gNs at e1
      obtain ⟨j, hj⟩ : ∃ j, y = gN j := by
        rw [List.getElem?_map] at e1
        obtain ⟨j, _, z⟩ := Option.map_eq_some_iff.mp e1
        exact ⟨j, z.symm⟩
      have nin : ∀ kd, scope.names.lookup y ≠ some kd := fun kd z => by
        have := List.all_eq_true.mp sm'.2 _ (PySem.mem_of_lookup z)
        rw [hj, low_gN] at this; cases this
      rcases e2 with z | z | z
      · exact nin _ z
      · exact nin _ z
      · exact nin _ z
    have la := start_len (N := N) (vs := vs) (by omega)
    rw [List.getElem?_append_left (by rw [la]; exact hi)]
    by_cases c : i < vs.length
    · have e : ∀ M : List Str, (L2.start M vs)[i]? = some (some vs[i]) := fun M => by
        unfold L2.start
        rw [List.getElem?_append_left (by simpa using c), List.getElem?_map, List.getElem?_eq_getElem c]; rfl
      rw [e, e]
    · rw [start_hi (by omega) hi, start_hi (by omega) (by rw [List.length_append]; omega)]
/-! ### its call -/
def endC (mu : List Bool) (n : Nat) (as : List AV) (st st2 : DSt) (f : DSt → Res D) : Res D := match outS mu st2 with
  | some ms => f (setC as ms st (st2.drop n))
  | none => .stuck
def callC (mu : List Bool) (n : Nat) (m : MS) (as : List AV) : M D := fun st => if (as.filterMap avSl).Nodup then (match getA st mu as with
    | some ds => match m (initS mu ds ++ List.replicate (n - ds.length) none ++ clrA as st) with
      | .nx st2 => if st2.length = n + st.length then endC mu n as st st2 (.ok .non) else .stuck
      | .rt false d st2 => if st2.length = n + st.length then endC mu n as st st2 (.ok d) else .stuck
      | .rt true d st2 => if st2.length = n + st.length ∧ flatD d = true then endC mu n as st st2 (.ok d) else .stuck
      | .err x st2 => if st2.length = n + st.length then endC mu n as st st2 (.err x) else .stuck
      | _ => .stuck
    | none => .stuck) else .stuck
section
variable {K : PySem.W.Frag} {F : Fr} {W : WX} {G H : Hp} {fpf : Nat → List Addr} {σ : L2.St} {st : DSt} {mu : List Bool} {as : List AV} {vs : List V} {ds ms : List D} {N : List Str} {m : MS} {Q : VK}
theorem callC_at (S : Sync K F G fpf σ H st) (r : AvA K G σ as vs) (hn : vs.length ≤ N.length) (A : At K F W false (RSh K) (callC mu N.length m as st) st G fpf σ H Q) : spC K N m σ vs H Q (WE W σ) := by
  unfold callC at A
  by_cases nd : (as.filterMap avSl).Nodup
  · rw [if_pos nd] at A
    cases g : getA st mu as with
    | none => rw [g] at A; exact A.elim
    | some ds =>
      rw [g] at A
      dsimp only at A
      refine ⟨F.inner N.length fpf as vs σ, fun i x e => ?_, fun i x e => ?_, _, G, _, S.inner r nd g hn, ?_⟩
      · have e' : (if i < N.length then none else σ[i - N.length]?) = some x := e
        by_cases c : i < N.length
        · rw [if_pos c] at e'; cases e'
        · omega
      · show (if i + N.length < N.length then none else σ[i + N.length - N.length]?) = some x
        rw [if_neg (by omega), Nat.add_sub_cancel]; exact e
      · have fin : ∀ {st2 : DSt} {f : DSt → Res D}, At K F W false (RSh K) (if st2.length = N.length + st.length then endC mu N.length as st st2 f else .stuck) st G fpf σ H Q → st2.length = N.length + st.length ∧ ∃ ms, outS mu st2 = some ms ∧ At K F W false (RSh K) (f (setC as ms st (st2.drop N.length))) st G fpf σ H Q := fun {st2 f} A => by
          by_cases c : st2.length = N.length + st.length
          · rw [if_pos c] at A
            unfold endC at A
            cases o : outS mu st2 with
            | none => rw [o] at A; exact A.elim
            | some ms => rw [o] at A; exact ⟨c, ms, rfl, A⟩
          · rw [if_neg c] at A; exact A.elim
        revert A
        cases m (initS mu ds ++ List.replicate (N.length - ds.length) none ++ clrA as st) with
        | stuck => exact fun A => A.elim
        | bk st2 => exact fun A => A.elim
        | ct st2 => exact fun A => A.elim
        | nx st2 =>
          intro A
          obtain ⟨c, ms, o, A⟩ := fin A
          exact fun σ2 H2 G2 fp2 g2 S2 => A .non H2 G2 _ nq g2 (S.outer r nd g hn S2 c o).1 .non
        | err x st2 =>
          intro A
          obtain ⟨c, ms, o, A⟩ := fin A
          refine fun a fv σ2 H2 G2 fp2 g2 S2 ap ha hk hr => A a fv H2 G2 _ g2 (S.outer r nd g hn S2 c o).1 ⟨ap.g, ap.he, ap.pr, fun i hi hb => ?_⟩ ha hk hr
          obtain ⟨k, ok, e⟩ := (S.outer r nd g hn S2 c o).2 i hi
          rw [e] at hb
          exact ap.fp k ok hb
        | rt fr d st2 =>
          cases fr with
          | false =>
            intro A
            obtain ⟨c, ms, o, A⟩ := fin A
            exact fun v σ2 H2 G2 fp2 g2 S2 r2 => A v H2 G2 _ nq g2 (S.outer r nd g hn S2 c o).1 r2
          | true =>
            intro A
            dsimp only at A
            by_cases cf : st2.length = N.length + st.length ∧ flatD d = true
            · rw [if_pos cf] at A
              obtain ⟨c, ms, o, A⟩ := fin (st2 := st2) (f := .ok d) (by rw [if_pos cf.1]; exact A)
              refine fun v σ2 H2 G2 fp2 g2 S2 r2 => ?_
              obtain ⟨G3, g3, S3, r3⟩ := S2.share r2 cf.2
              exact A v H2 G3 _ nq (g2.trans g3) (S.outer r nd g hn S3 c o).1 r3
            · rw [if_neg cf] at A; exact A.elim
  · rw [if_neg nd] at A; exact A.elim
end
end DL
namespace DL
variable [TB] [LC]
open PySem PySem.Spec PyProof.Rows L2 LamX
/-! ### the calls: of a def that is handed lambdas, of a lambda -/
section
variable {X : Cx} {F : Fr} {W : WX} {q : Bool} {e : Expr} {es : List Expr} {x a : Str} {pos p p2 : Pos} {k kf i : Nat} {f : Addr} {fd : FuncData} {ps N : List Str} {mu : List Bool} {m : LMB → MS} {mbX : LMB} {ma : M (List AV)} {ms : List (M D)}
def callCM (mu : List Bool) (n : Nat) (m : MS) (ma : M (List AV)) : M D := bnd ma fun as => if as.length = mu.length then callC mu n m as else stuckM
theorem de_ownC (F0 : FnC X.prog X.w X.K X.mg X.base k kf f fd ps N m) (hmu : mu.length = ps.length) (hr : Room k X.A) (tk : Takes X W) (hg : Gl X x) (hm : X.mg x = some (.ref f)) (hk : PySem.W.keepIn X.K (.ref f) = true) (hb : Binds X.K fd ps []) (kn : Kn X F mbX kf)
    (ha : PA X (e :: es) (tAvs X.K F W q ma)) (hdb : (x == ("__debug__" : Str)) = false := by decide) (he : starEach (e :: es) X.env = (false, eval e X.env) :: starEach es X.env := by rfl) (hpl : (backTo pos (starEach es X.env)).any (·.1) = false := by rfl) :
    PE X (.Call (.Name x p) (e :: es) [] pos) (tM X.K F W false (RSh X.K) (callCM mu N.length (m (liftB N.length mbX)) ma)) := by
  refine ⟨fun pins s σ H Q I ⟨st, G, fpf, S, A⟩ => ?_⟩
  have A' : At X.K F W false (RSh X.K) (bnd ma (fun as => if as.length = mu.length then callC mu N.length (m (liftB N.length mbX)) as else stuckM) st) st G fpf σ H Q := A
  refine wpAny_Call_Name_kw (ld_glob I hg hm ?_ hdb)
  refine PySem.W.callWith_K (h₀ := X.base) I.ok.mod.kin hk ?_ he hpl
  refine thn (ha.run pos pins s σ H (fun vs H1 => vs.length = ps.length ∧ spC X.K N (m (liftB N.length mbX)) σ vs H1 Q (WE W σ) ∧ ∀ i x, F.gv i = some x → σ[i]? = some x) I ⟨st, G, fpf, S, A'.bndK (q1 := q) (q2 := false) (R1 := fun G _ _ _ a v => AvA X.K G σ a v) nq fun as st1 G1 fpf1 vs H1 g1 S1 z1 e1 r1 A1 => ?_⟩) fun us s1 ⟨vs, H1, I1, r, l, h, hgv⟩ => ⟨I1.kIn, ?_⟩
  · by_cases c : as.length = mu.length
    · rw [if_pos c] at A1
      have hl : vs.length = ps.length := (AvA.length r1).symm.trans (c.trans hmu)
      exact ⟨hl, callC_at S1 r1 (by rw [hl]; exact F0.le) A1, S1.gv⟩
    · rw [if_neg c] at A1; exact A1.elim
  · have hbb := hb s1 us I1.kIn (by rw [List.append_nil, ← r.length]; exact l)
    rw [List.append_nil] at hbb
    refine wpAny_call (codeAny_mono (F0.run X.A X.stack s1 H1 ⟨us, []⟩ us vs Q (WE W σ) σ mbX hr I1.env0 hbb r l (kn.at_ X.pn X.xe pins σ H1 s1 I1 hgv) h) fun r' s2 hq => ?_)
    cases r' with
    | error e => exact passAt tk σ pins H1 s1 e s2 I1 hq
    | ok fl =>
      cases fl with
      | ret u => exact I1.after hq
      | next => exact False.elim hq
      | brk => exact False.elim hq
      | cont => exact False.elim hq
/-- x(e, ..), x a lambda -/
def cloM (mb : LMB) (i : Nat) (ms : List (M D)) : M D := fun st => match st[i]? with
  | some (some (Slot.sh (.clo id))) => bnd (argsM ms) (fun ds => mb id ds) st
  | _ => .stuck
theorem clo_at {st : DSt} {G H : Hp} {fpf : Nat → List Addr} {σ : L2.St} {Q : VK} (S : Sync X.K F G fpf σ H st) (A : At X.K F W false (RSh X.K) (cloM mbX i ms st) st G fpf σ H Q) :
    ∃ id L f c', σ[i]? = some (some (.ref f)) ∧ LC.lam id = some L ∧ G f = some (LamO L f c') ∧ G c' = some (CodeO c' L.q) ∧ At X.K F W false (RSh X.K) (bnd (argsM ms) (fun ds => mbX id ds) st) st G fpf σ H Q := by
  unfold cloM at A
  split at A
  · rename_i id e
    obtain ⟨v, h1, h2⟩ := S.sh i _ e
    cases h2 with
    | clo l a b => exact ⟨id, _, _, _, h1, l, a, b, A⟩
  · exact A.elim
theorem clo_end {pins : List (Addr × Obj)} {σ : L2.St} {H : Hp} {s : Shared} {Q : VK} {us : List Value} {vs : List V} {id : Nat} {L : LamT} {f c' : Addr} (kn : Kn X F mbX kf) (hr : Room kf X.A) (tk : Takes X W) (I : L2.Inv X pins σ H s) (hgv : ∀ i x, F.gv i = some x → σ[i]? = some x) (hL : LC.lam id = some L)
    (hf : H f = some (LamO L f c')) (hc : H c' = some (CodeO c' L.q)) (r : Vals vs us) (h : runsM X.K mbX σ id vs (WE W σ) H Q) : wpAny (model X.prog X.w) X.A (call (.ref f) us) (EP X pins σ Q) X.xe s := by
  refine wpAny_call (codeAny_mono ((kn.at_ X.pn X.xe pins σ H s I hgv).run id L hL f c' X.A X.stack s H (WE W σ) Q us vs hr I.env0 Un.refl hf hc r h) fun r' s2 hq => ?_)
  cases r' with
  | error e => exact passAt tk σ pins H s e s2 I hq
  | ok fl =>
    cases fl with
    | ret u => exact I.after hq
    | next => exact False.elim hq
    | brk => exact False.elim hq
    | cont => exact False.elim hq
theorem lamO_fn {pins : List (Addr × Obj)} {σ : L2.St} {H : Hp} {s : Shared} {L : LamT} {f c' : Addr} (I : L2.Inv X pins σ H s) (hf : H f = some (LamO L f c')) : PySem.W.FnAt f s.heap := by
  obtain ⟨⟨pm, ct, h⟩, _⟩ := I.hok f _ hf
  exact ⟨_, _, _, _, h⟩
theorem de_clo0 (i : Nat) (kn : Kn X F mbX kf) (hr : Room kf X.A) (tk : Takes X W) (hN : X.N[i]? = some a := by rfl) (hv : Vis X.env.scope a := by first | exact Or.inl rfl | exact Or.inr (Or.inl rfl) | exact Or.inr (Or.inr rfl)) (hd : (a == ("__debug__" : Str)) = false := by decide) (hcd : (a == ("__classdict__" : Str)) = false := by decide) :
    PE X (.Call (.Name a p) [] [] p2) (tM X.K F W false (RSh X.K) (cloM mbX i [])) := by
  refine ⟨fun pins s σ H Q I ⟨st, G, fpf, S, A⟩ => ?_⟩
  obtain ⟨id, L, f, c', hs, hL, hf, hc, A1⟩ := clo_at S A
  refine wpAny_Call_Name_kw (thn ((pe_var (pos := p) (i := i) hN hv hd hcd).run pins s σ H (fun v H1 => v = .ref f ∧ H1 = H) I ⟨.ref f, hs, rfl, rfl⟩) fun u s1 ⟨v, H1, I1, r1, q1⟩ => ?_)
  obtain ⟨ev, eH⟩ := q1
  subst ev
  rw [eH] at I1
  obtain rfl : u = Value.ref f := r1
  refine PySem.W.callWith_F0 (lamO_fn I1 (S.gh _ _ hf)) ?_
  exact clo_end kn hr tk I1 S.gv hL (S.gh _ _ hf) (S.gh _ _ hc) .nil ⟨F, [], st, G, fpf, S, .nil, A1⟩
end
/-! ### the maker's side -/
/-- a lambda of np parameters and n names of its own -/
def lamM (n np : Nat) (m : M D) : List D → M D := fun ds st => if ds.length = np then (match m (ds.map (fun d => some (Slot.sh d)) ++ List.replicate (n - np) none ++ st) with
    | .ok d s => .ok d (s.drop n)
    | .err x s => .err x (s.drop n)
    | .stuck => .stuck) else .stuck
def mbL (ms : List (List D → M D)) : LMB := fun id ds => ms.getD id (fun _ => stuckM) ds
structure LamRow (X : Cx) (k : Nat) (L : LamT) (mb : List D → M D) : Prop where
  run : ∀ (pn : List (Addr × Obj)) (xe : Value → Shared → Prop) (pins : List (Addr × Obj)) (σ : L2.St) (H : Hp) (s : Shared), L2.Inv (X.tr pn xe) pins σ H s → ∀ (f c' : Addr) (A : Around) (out' : List Env) (s' : Shared) (H' : Hp) (E : XK) (Q : VK) (us : List Value) (vs : List V), Room k A → Env0 X.prog X.w X.K X.mg X.base A out' s' H' → Un (frs X.stack) [] H H' s.heap s'.heap →
    H' f = some (LamO L f c') → H' c' = some (CodeO c' L.q) → Vals vs us → (∃ (F : Fr) (ds : List D) (st : DSt) (G : Hp) (fpf : Nat → List Addr), Sync X.K F G fpf σ H' st ∧ RepA X.K G ds vs ∧ At X.K F (XW E) false (RSh X.K) (mb ds st) st G fpf σ H' Q) →
    codeAny (model X.prog X.w) A (.call (.ref f) ⟨us, []⟩) (CR (CX X.prog X.w) out' X.prog X.w H' s' Q E) s'
inductive LamRows (X : Cx) (k : Nat) : List LamT → List (List D → M D) → Prop
  | nil : LamRows X k [] []
  | cons {L : LamT} {mb : List D → M D} {Ls : List LamT} {ms : List (List D → M D)} : LamRow X k L mb → LamRows X k Ls ms → LamRows X k (L :: Ls) (mb :: ms)
theorem LamRows.get {X : Cx} {k : Nat} {Ls : List LamT} {ms : List (List D → M D)} (h : LamRows X k Ls ms) : ∀ {id : Nat} {L : LamT}, Ls[id]? = some L → LamRow X k L (ms.getD id fun _ => stuckM) := by
  induction h with
  | nil => intro id L e; simp at e
  | cons r _ ih =>
    intro id L e
    cases id with
    | zero => cases e; exact r
    | succ id => simpa using ih (id := id) (by simpa using e)
theorem Kn.of_rows {X : Cx} {F : Fr} {k : Nat} {Ls : List LamT} {ms : List (List D → M D)} (h : LamRows X k Ls ms) (hl : ∀ id, LC.lam id = Ls[id]?) : Kn X F (mbL ms) k :=
  ⟨fun pn xe pins σ H s I _ => ⟨fun id L hL f c' A out' s' H' E Q us vs hr e0 u hf hc r z => (h.get ((hl id).symm.trans hL)).run pn xe pins σ H s I f c' A out' s' H' E Q us vs hr e0 u hf hc r z⟩⟩
/-- the lambda's own slots, ahead of the maker's -/
theorem Sync.ahead {K : PySem.W.Frag} {F : Fr} {G H : Hp} {fpf : Nat → List Addr} {σ : L2.St} {st : DSt} {ls : List Str} {vs : List V} {ds : List D} (S : Sync K F G fpf σ H st) (r : RepA K G ds vs) (hn : vs.length ≤ ls.length) :
    Sync K (F.inner ls.length fpf [] [] []) G (fun i => if i < ls.length then [] else fpf (i - ls.length)) (L2.start ls vs ++ σ) H (ds.map (fun d => some (Slot.sh d)) ++ List.replicate (ls.length - ds.length) none ++ st) := by
  have sl : (L2.start ls vs).length = ls.length := start_len hn
  have ld : ds.length = vs.length := r.length
  have pl : (ds.map (fun d => some (Slot.sh d)) ++ List.replicate (ls.length - ds.length) none : DSt).length = ls.length := by rw [List.length_append, List.length_map, List.length_replicate]; omega
  have cs : ∀ {i : Nat} {s : Slot}, (ds.map (fun d => some (Slot.sh d)) ++ List.replicate (ls.length - ds.length) none ++ st)[i]? = some (some s) → (∃ d, i < ls.length ∧ ds[i]? = some d ∧ s = .sh d) ∨ (ls.length ≤ i ∧ st[i - ls.length]? = some (some s)) := fun {i s} h => by
    by_cases c : i < ls.length
    · rw [List.getElem?_append_left (by rw [pl]; exact c)] at h
      by_cases hi : i < ds.length
      · rw [List.getElem?_append_left (by simpa using hi), List.getElem?_map, List.getElem?_eq_getElem hi] at h
        cases h
        exact .inl ⟨_, c, List.getElem?_eq_getElem hi, rfl⟩
      · rw [List.getElem?_append_right (by simp; omega), List.getElem?_replicate] at h
        split at h <;> cases h
    · rw [List.getElem?_append_right (by rw [pl]; omega), pl] at h
      exact .inr ⟨by omega, h⟩
  have os : ∀ {i : Nat}, isOw (ds.map (fun d => some (Slot.sh d)) ++ List.replicate (ls.length - ds.length) none ++ st) i → ls.length ≤ i ∧ isOw st (i - ls.length) := fun {i} ⟨m, d, h⟩ => by
    rcases cs h with ⟨_, _, _, z⟩ | ⟨a, b⟩
    · cases z
    · exact ⟨a, m, d, b⟩
  refine ⟨?_, fun i d h => ?_, fun i m d h => ?_, fun i j hi hj ne b hb => ?_, S.g0, S.gh, S.new, S.pr, S.live, S.hidG, S.hidP, S.ng, S.np, S.tab, fun i x e => ?_⟩
  · rw [List.length_append, pl, List.length_append, sl, S.len]
  · rcases cs h with ⟨d', c, e, z⟩ | ⟨c, e⟩
    · cases z
      obtain ⟨v, hv, rv⟩ := r.get e
      exact ⟨v, start_get hv, rv⟩
    · obtain ⟨v, h1, h2⟩ := S.sh _ d e
      exact ⟨v, by rw [List.getElem?_append_right (by rw [sl]; exact c), sl]; exact h1, h2⟩
  · rcases cs h with ⟨_, _, _, z⟩ | ⟨c, e⟩
    · cases z
    · obtain ⟨a, h1, h2, h3, h4, h5⟩ := S.ow _ m d e
      have nc : ¬ i < ls.length := by omega
      simp only [if_neg nc]
      refine ⟨a, by rw [List.getElem?_append_right (by rw [sl]; exact c), sl]; exact h1, h2, h3, fun x hx => ⟨(h4 x hx).1, ?_, (h4 x hx).2.2⟩, fun z => ?_⟩
      · rcases (h4 x hx).2.1 with z | ⟨z1, z2⟩
        · exact .inl z
        · exact .inr ⟨z1, by show x ∈ (if i < ls.length then argFp fpf [] i else F.mfp (i - ls.length)); rw [if_neg nc]; exact z2⟩
      · show (if i < ls.length then _ else F.mua (i - ls.length)) = some a
        rw [if_neg nc]; exact h5 z
  · obtain ⟨ci, oi⟩ := os hi
    obtain ⟨cj, oj⟩ := os hj
    simp only [if_neg (show ¬ i < ls.length by omega)] at hb
    simp only [if_neg (show ¬ j < ls.length by omega)]
    exact S.sep _ _ oi oj (by omega) b hb
  · have e' : (if i < ls.length then none else ([] : L2.St)[i - ls.length]?) = some x := e
    split at e'
    · cases e'
    · simp at e'
theorem Sync.behind {K : PySem.W.Frag} {F : Fr} {G H G2 H2 : Hp} {fpf fp2 : Nat → List Addr} {σ : L2.St} {st st2 : DSt} {ls : List Str} {vs : List V} (S : Sync K F G fpf σ H st) (hn : vs.length ≤ ls.length) (S2 : Sync K (F.inner ls.length fpf [] [] []) G2 fp2 (L2.start ls vs ++ σ) H2 st2) :
    Sync K F G2 (fun j => fp2 (j + ls.length)) σ H2 (st2.drop ls.length) := by
  have sl : (L2.start ls vs).length = ls.length := start_len hn
  have ed : (L2.start ls vs ++ σ).drop ls.length = σ := by rw [← sl, List.drop_left]
  have at_ : ∀ {j : Nat}, (L2.start ls vs ++ σ)[j + ls.length]? = σ[j]? := fun {j} => by rw [← drop_at, ed]
  refine ⟨?_, fun i d e => ?_, fun i m d e => ?_, fun i j hi hj ne b hb => S2.sep _ _ (ow_drop hi) (ow_drop hj) (by omega) b hb, S2.g0, S2.gh, S2.new, S2.pr, S2.live, S2.hidG, S2.hidP, S2.ng, S2.np, S2.tab, S.gv⟩
  · rw [List.length_drop, S2.len, List.length_append, sl]; omega
  · rw [drop_at] at e
    obtain ⟨v, h1, h2⟩ := S2.sh _ d e
    rw [at_] at h1
    exact ⟨v, h1, h2⟩
  · rw [drop_at] at e
    obtain ⟨a, h1, h2, h3, h4, h5⟩ := S2.ow _ m d e
    rw [at_] at h1
    have nc : ¬ i + ls.length < ls.length := by omega
    refine ⟨a, h1, h2, h3, fun x hx => ⟨(h4 x hx).1, ?_, (h4 x hx).2.2⟩, fun z => ?_⟩
    · rcases (h4 x hx).2.1 with z | ⟨z1, z2⟩
      · exact .inl z
      · have z' : x ∈ (if i + ls.length < ls.length then argFp fpf [] (i + ls.length) else F.mfp (i + ls.length - ls.length)) := z2
        rw [if_neg nc, Nat.add_sub_cancel] at z'
        exact .inr ⟨z1, z'⟩
    · have z' : (if i + ls.length < ls.length then _ else F.mua (i + ls.length - ls.length)) = some a := h5 z
      rw [if_neg nc, Nat.add_sub_cancel] at z'
      exact z'
/-- a lambda's derivation makes its row -/
theorem lam_row {X : Cx} {k : Nat} {params : Arguments} {body : Expr} {scope : Scope} {ls ps : List Str} {m : M D} (L : LamG X.env.scope scope ls) (hps : ls.take ps.length = ps) (hbind : ∀ (q : Str) (cl : List (Str × Addr)) (pm cv ctv : Value) (us : List Value), us.length = ps.length → bindArgs (PySem.W.kla_fn "<lambda>" q params body scope cl pm cv ctv) ⟨us, []⟩ = pure (ps.zip us))
    (hbody : ∀ (A : Around) (outer : List Env) (s : Shared) (H : Hp) (E : XK) (f c' : Addr), Room k (A.deeper (lamEnv X scope s.heap.objs.size f c')) → ∀ (F : Fr), Takes (lamCxP X A outer s H E scope ls f c') (XW E) → PassesOwn (model X.prog X.w) (lamCxP X A outer s H E scope ls f c').A (lamCxP X A outer s H E scope ls f c').env (lamCxP X A outer s H E scope ls f c').xe →
      PE (lamCxP X A outer s H E scope ls f c') body (tM X.K F (XW E) false (RSh X.K) m)) : LamRow X (k + 1) (lamT X params body scope) (lamM ls.length ps.length m) := by
  have pl : ps.length ≤ ls.length := by have := congrArg List.length hps; rw [List.length_take] at this; omega
  refine ⟨fun pn xe pins σ H s I f c' A out' s' H' E Q us vs hr e0 u hf hc r ⟨F, ds, st, G, fpf, S, ra, Aa⟩ => ?_⟩
  unfold lamM at Aa
  by_cases c : ds.length = ps.length
  · rw [if_pos c] at Aa
    have lv : vs.length = ps.length := ra.length.symm.trans c
    refine lam_run (X := X.tr pn xe) (t := tM X.K (F.inner ls.length fpf [] [] []) (XW E) false (RSh X.K) m) I L hps lv r hbind hr e0 u hf hc (fun hr' => hbody A out' s' H' E f c' hr' _ (takes_of rfl rfl rfl rfl) (passes_of rfl)) ⟨_, G, _, S.ahead ra (by omega), ?_⟩
    rw [c]
    revert Aa
    cases m (ds.map (fun d => some (Slot.sh d)) ++ List.replicate (ls.length - ps.length) none ++ st) with
    | stuck => exact fun A => A
    | ok d s2 => exact fun A v H2 G2 fp2 z g S2 r2 => A v H2 G2 _ nq g (S.behind (by omega) S2) r2
    | err x s2 => exact fun A a fv H2 G2 fp2 g S2 ap ha hk hr => A a fv H2 G2 _ g (S.behind (by omega) S2) ⟨ap.g, ap.he, ap.pr, fun i hi => ap.fp _ (ow_drop hi)⟩ ha hk hr
  · rw [if_neg c] at Aa; exact Aa.elim
end DL
namespace DL
open PySem PySem.Spec PyProof.Rows L2 LamX
/-! ### data without lambdas is the same whatever lambdas there are -/
mutual
def noClo : D → Bool
  | .clo _ => false
  | .lst xs => noCloA xs
  | .tup xs => noCloA xs
  | .kl xs => noCloA xs
  | .dK kvs => noCloK kvs
  | .dT kvs => noCloT kvs
  | .obj _ fs => noCloF fs
  | .box d => noClo d
  | .non => true
  | .bl _ => true
  | .int _ => true
  | .str _ => true
  | .ty _ => true
  | .rf _ => true
def noCloA : List D → Bool
  | [] => true
  | d :: r => noClo d && noCloA r
def noCloK : List (Key × D) → Bool
  | [] => true
  | (_, d) :: r => noClo d && noCloK r
def noCloT : List (List Key × D) → Bool
  | [] => true
  | (_, d) :: r => noClo d && noCloT r
def noCloF : List (Str × D) → Bool
  | [] => true
  | (_, d) :: r => noClo d && noCloF r
end
theorem noCloK_map : ∀ {l : List (Key × D)}, noCloK l = noCloA (l.map (·.2))
  | [] => by rw [noCloK, List.map_nil, noCloA]
  | (k, d) :: r => by rw [noCloK, List.map_cons, noCloA, noCloK_map]
theorem noCloT_map : ∀ {l : List (List Key × D)}, noCloT l = noCloA (l.map (·.2))
  | [] => by rw [noCloT, List.map_nil, noCloA]
  | (k, d) :: r => by rw [noCloT, List.map_cons, noCloA, noCloT_map]
theorem noCloF_map : ∀ {l : List (Str × D)}, noCloF l = noCloA (l.map (·.2))
  | [] => by rw [noCloF, List.map_nil, noCloA]
  | (k, d) :: r => by rw [noCloF, List.map_cons, noCloA, noCloF_map]
theorem noCloA_mem : ∀ {l : List D}, noCloA l = true → ∀ d ∈ l, noClo d = true
  | [], _, d, hd => by cases hd
  | a :: r, h, d, hd => by
    rw [noCloA, Bool.and_eq_true] at h
    rcases List.mem_cons.mp hd with rfl | hd
    · exact h.1
    · exact noCloA_mem h.2 d hd
section
variable {K : PySem.W.Frag} {G H : Hp}
mutual
theorem Rep.conv {l1 : LC} (l2 : Nat → Option LamT) {d : D} {v : V} (n : noClo d = true) (h : @Rep l1 K G d v) : @Rep ⟨l2⟩ K G d v := by
  match d, v, n, h with
  | _, _, _, .non => exact @Rep.non ⟨l2⟩ K G
  | _, _, _, .bl b => exact @Rep.bl ⟨l2⟩ K G b
  | _, _, _, .int i => exact @Rep.int ⟨l2⟩ K G i
  | _, _, _, .str x => exact @Rep.str ⟨l2⟩ K G x
  | _, _, _, .ty n => exact @Rep.ty ⟨l2⟩ K G n
  | _, _, _, .rf a => exact @Rep.rf ⟨l2⟩ K G a
  | _, _, n, .lst h r => exact @Rep.lst ⟨l2⟩ K G _ _ _ h (RepA.conv l2 (by rw [noClo] at n; exact n) r)
  | _, _, n, .kl h r => exact @Rep.kl ⟨l2⟩ K G _ _ _ h (RepA.conv l2 (by rw [noClo] at n; exact n) r)
  | _, _, n, .tup h r => exact @Rep.tup ⟨l2⟩ K G _ _ _ h (RepA.conv l2 (by rw [noClo] at n; exact n) r)
  | _, _, n, .dK h k r => exact @Rep.dK ⟨l2⟩ K G _ _ _ h k (RepA.conv l2 (by rw [noClo, noCloK_map] at n; exact n) r)
  | _, _, n, .dT h k r => exact @Rep.dT ⟨l2⟩ K G _ _ _ h k (RepA.conv l2 (by rw [noClo, noCloT_map] at n; exact n) r)
  | _, _, n, .obj h k r => exact @Rep.obj ⟨l2⟩ K G _ _ _ _ _ h k (RepA.conv l2 (by rw [noClo, noCloF_map] at n; exact n) r)
  | _, _, n, .clo _ _ _ => exact absurd n (by rw [noClo]; decide)
theorem RepA.conv {l1 : LC} (l2 : Nat → Option LamT) {ds : List D} {vs : List V} (n : noCloA ds = true) (h : @RepA l1 K G ds vs) : @RepA ⟨l2⟩ K G ds vs := by
  match ds, vs, n, h with
  | _, _, _, .nil => exact @RepA.nil ⟨l2⟩ K G
  | _, _, n, .cons h t => exact @RepA.cons ⟨l2⟩ K G _ _ _ _ (Rep.conv l2 (by rw [noCloA, Bool.and_eq_true] at n; exact n.1) h) (RepA.conv l2 (by rw [noCloA, Bool.and_eq_true] at n; exact n.2) t)
end
theorem OR.conv {l1 : LC} (l2 : Nat → Option LamT) {o : HO} {d : D} (n : noClo d = true) (h : @OR l1 K G o d) : @OR ⟨l2⟩ K G o d := by
  cases h with
  | lst r => exact @OR.lst ⟨l2⟩ K G _ _ (RepA.conv l2 (by rw [noClo] at n; exact n) r)
  | tup r => exact @OR.tup ⟨l2⟩ K G _ _ (RepA.conv l2 (by rw [noClo] at n; exact n) r)
  | dK k r => exact @OR.dK ⟨l2⟩ K G _ _ k (RepA.conv l2 (by rw [noClo, noCloK_map] at n; exact n) r)
  | dT k r => exact @OR.dT ⟨l2⟩ K G _ _ k (RepA.conv l2 (by rw [noClo, noCloT_map] at n; exact n) r)
  | obj k r => exact @OR.obj ⟨l2⟩ K G _ _ _ _ k (RepA.conv l2 (by rw [noClo, noCloF_map] at n; exact n) r)
theorem ChA.conv {l1 : LC} (l2 : Nat → Option LamT) {ds : List D} {vs : List V} {fp : List Addr} (h : @ChA l1 K G H ds vs fp) : noCloA ds = true → @ChA ⟨l2⟩ K G H ds vs fp := by
  induction h with
  | nil => exact fun _ => @ChA.nil ⟨l2⟩ K G H
  | sh r _ ih =>
    intro n
    rw [noCloA, Bool.and_eq_true] at n
    exact @ChA.sh ⟨l2⟩ K G H _ _ _ _ _ (Rep.conv l2 n.1 r) (ih n.2)
  | bx hb r _ ih =>
    intro n
    rw [noCloA, Bool.and_eq_true, noClo] at n
    exact @ChA.bx ⟨l2⟩ K G H _ _ _ _ _ _ hb (OR.conv l2 n.1 r) (ih n.2)
theorem Own.conv {l1 : LC} (l2 : Nat → Option LamT) {d : D} {a : Addr} {fp : List Addr} (n : noClo d = true) (h : @Own l1 K G H d a fp) : @Own ⟨l2⟩ K G H d a fp := by
  cases h with
  | flat h r => exact @Own.flat ⟨l2⟩ K G H _ _ _ h (OR.conv l2 n r)
  | obj h k r => exact @Own.obj ⟨l2⟩ K G H _ _ _ _ _ _ h k (ChA.conv l2 r (by rw [noClo, noCloF_map] at n; exact n))
theorem Ags.conv {l1 : LC} (l2 : Nat → Option LamT) {mu : List Bool} {ds : List D} {vs : List V} {fp : Nat → List Addr} (n : noCloA ds = true) (h : @Ags l1 K G H mu ds vs fp) : @Ags ⟨l2⟩ K G H mu ds vs fp := by
  obtain ⟨h1, h2, h3, h4, h5⟩ := h
  refine @Ags.mk ⟨l2⟩ K G H mu ds vs fp h1 h2 (fun i d a b => ?_) (fun i d a b => ?_) h5
  · obtain ⟨v, e, r⟩ := h3 i d a b
    exact ⟨v, e, Rep.conv l2 (noCloA_mem n d (List.mem_of_getElem? b)) r⟩
  · obtain ⟨x, e, r, z⟩ := h4 i d a b
    exact ⟨x, e, Own.conv l2 (noCloA_mem n d (List.mem_of_getElem? b)) r, z⟩
theorem Bck.conv [TB] {l1 : LC} (l2 : Nat → Option LamT) {G' H' : Hp} {mu : List Bool} {ms : List D} {vs : List V} {fp fp' : Nat → List Addr} (n : noCloA ms = true) (h : @Bck _ l1 K G H G' H' mu ms vs fp fp') : @Bck _ ⟨l2⟩ K G H G' H' mu ms vs fp fp' := by
  obtain ⟨h1, h2, h3, h4, h5, h6, h7, h8, h9, h10⟩ := h
  refine @Bck.mk _ ⟨l2⟩ K G H G' H' mu ms vs fp fp' h1 (fun i a => ?_) h3 h4 h5 h6 h7 h8 h9 h10
  obtain ⟨d, x, e1, e2, r, z⟩ := h2 i a
  exact ⟨d, x, e1, e2, Own.conv l2 (noCloA_mem n d (List.mem_of_getElem? e1)) r, z⟩
theorem NewR.conv {l1 : LC} (l2 : Nat → Option LamT) {G' H' : Hp} {mu : List Bool} {fp' : Nat → List Addr} {d : D} {v : V} (n : noClo d = true) (h : @NewR l1 K G' H H' mu fp' d v) : @NewR ⟨l2⟩ K G' H H' mu fp' d v := by
  obtain ⟨a, fp0, e, o, z⟩ := h
  exact ⟨a, fp0, e, Own.conv l2 n o, z⟩
end
/-! ### a def that makes lambdas -/
def chkF : FRes → FRes
  | .ok fr d ms => if (noClo d && noCloA ms) = true then .ok fr d ms else .stuck
  | .err x ms => if (noCloA (x.fs.map (·.2)) && noCloA ms) = true then .err x ms else .stuck
  | .stuck => .stuck
def runC (mu : List Bool) (n : Nat) (body : MS) : FD := fun ds => if noCloA ds = true then chkF (runF mu n body ds) else .stuck
theorem sp_conv [TB] (l1 l2 : Nat → Option LamT) {K : PySem.W.Frag} {mu : List Bool} {n : Nat} {m : MS} {vs : List V} {H : Hp} {Q : VK} {E : XK} (h : @spD _ ⟨l1⟩ K mu (runC mu n m) vs H Q E) : @spD _ ⟨l2⟩ K mu (runF mu n m) vs H Q E := by
  obtain ⟨ds, G, fp, g, nG, tb, Ag, h⟩ := h
  unfold runC at h
  by_cases c : noCloA ds = true
  · rw [if_pos c] at h
    refine ⟨ds, G, fp, g, nG, tb, Ag.conv l2 c, ?_⟩
    revert h
    cases runF mu n m ds with
    | stuck => exact fun h => h
    | err x ms =>
      intro h
      dsimp only [chkF] at h
      by_cases b : (noCloA (x.fs.map (·.2)) && noCloA ms) = true
      · rw [if_pos b] at h
        rw [Bool.and_eq_true] at b
        exact fun a fv H' G' fp' B nx e1 e2 e3 => h a fv H' G' fp' (B.conv l1 b.2) nx e1 e2 (RepA.conv l1 b.1 e3)
      · rw [if_neg b] at h; exact h.elim
    | ok fr d ms =>
      intro h
      dsimp only [chkF] at h
      by_cases b : (noClo d && noCloA ms) = true
      · rw [if_pos b] at h
        rw [Bool.and_eq_true] at b
        cases fr with
        | false => exact fun v H' G' fp' B r => h v H' G' fp' (B.conv l1 b.2) (Rep.conv l1 b.1 r)
        | true => exact fun v H' G' fp' B r => h v H' G' fp' (B.conv l1 b.2) (r.conv l1 b.1)
      · rw [if_neg b] at h; exact h.elim
  · rw [if_neg c] at h; exact h.elim
section
variable [TB] [LC] {P : Program} {w : World} {K : PySem.W.Frag} {mg : Str → Option Value} {base : Heap}
/-- the def's body, run with data: what F.ok asks -/
theorem body_of {X : Cx} {N : List Str} {mu : List Bool} {vs : List V} {H : Hp} {Q : VK} {E : XK} {m : MS} {body : List Stmt} (hN : vs.length ≤ N.length) (h : spD K mu (runF mu N.length m) vs H Q E) (hb : ∀ (F : Fr) [GvOk F N.length], PSs X body (tS K F (fun cls d _ H' => E cls d H') m)) :
    ∃ t, PSs X body t ∧ t { nx := fun _ H' => Q .non H', rt := Q } (L2.start N vs) H := by
  obtain ⟨ds, G, fp, g, nG, tb, Ag, h⟩ := h
  haveI : GvOk (entry G H mu vs fp) N.length := ⟨fun i x z => nomatch z⟩
  refine ⟨_, hb (entry G H mu vs fp), _, G, fp, entry_sync g nG tb Ag hN, ?_⟩
  unfold runF at h
  revert h
  cases m (initS mu ds ++ List.replicate (N.length - ds.length) none) with
  | nx st' =>
    intro h
    dsimp only [endF] at h
    cases o : outS mu st' with
    | none => rw [o] at h; exact h.elim
    | some ms =>
      rw [o] at h
      exact fun σ' H' G' fp' gg S' => h .non H' G' fp' (out_bck S' o) .non
  | rt fr d st' =>
    intro h
    dsimp only [endF] at h
    cases o : outS mu st' with
    | none => rw [o] at h; exact h.elim
    | some ms =>
      rw [o] at h
      cases fr with
      | false => exact fun v σ' H' G' fp' gg S' r => h v H' G' fp' (out_bck S' o) r
      | true => exact fun v σ' H' G' fp' gg S' r => h v H' G' fp' (out_bck S' o) (out_new o r)
  | err x st' =>
    intro h
    dsimp only [endF] at h
    cases o : outS mu st' with
    | none => rw [o] at h; exact h.elim
    | some ms =>
      rw [o] at h
      exact fun a fv σ' H' G' fp' gg S' ap e1 e2 e3 => h a fv H' G' fp' (out_bck S' o) (out_newx o ap) e1 e2 e3
  | bk st' => exact fun h => h.elim
  | ct st' => exact fun h => h.elim
  | stuck => exact fun h => h.elim
/-- THE RULE for a def that makes lambdas -/
theorem fnDM {x qual : Str} {params : Arguments} {body : List Stmt} {scope : Scope} {dvs : List V} {kws : List (Str × V)} {f c : Addr} {fd : FuncData} {N ps : List Str} {k kf : Nat} {mu : List Bool} {m : MS} {mbs : List (List D → M D)} (tab : Cx → List LamT)
    (F : FunD K x qual params body scope dvs kws f fd) (hcode : fd.code = .ref c) (S : FnScope N ps scope) (hmu : mu.length = ps.length)
    (rows : ∀ [L' : LC] (A : Around) (outer : List Env) (s : Shared) (H : Hp) (E : XK), (∀ id, L'.lam id = (tab (cxOf (CX P w) P w K mg base N qual scope f (.ref c) A outer s H E))[id]?) → LamRows (cxOf (CX P w) P w K mg base N qual scope f (.ref c) A outer s H E) kf (tab (cxOf (CX P w) P w K mg base N qual scope f (.ref c) A outer s H E)) mbs)
    (hb : ∀ [L' : LC] (A : Around) (outer : List Env) (s : Shared) (H : Hp) (E : XK), (∀ id, L'.lam id = (tab (cxOf (CX P w) P w K mg base N qual scope f (.ref c) A outer s H E))[id]?) → Room k (A.deeper (envOfC qual scope s.heap.objs.size f (.ref c))) → ∀ (F : Fr) [GvOk F N.length] (W : WX), Takes (cxOf (CX P w) P w K mg base N qual scope f (.ref c) A outer s H E) W →
      PassesOwn (model P w) (cxOf (CX P w) P w K mg base N qual scope f (.ref c) A outer s H E).A (cxOf (CX P w) P w K mg base N qual scope f (.ref c) A outer s H E).env (cxOf (CX P w) P w K mg base N qual scope f (.ref c) A outer s H E).xe →
      Kn (cxOf (CX P w) P w K mg base N qual scope f (.ref c) A outer s H E) F (mbL mbs) kf →
      PSs (cxOf (CX P w) P w K mg base N qual scope f (.ref c) A outer s H E) body (tS K F W m)) : FnOk P w K mg base (CX P w) (k + 1) f fd ps (spD K mu (runC mu N.length m)) := by
  obtain ⟨oc, od, dV, kV, doc, pm, an, cdv, ct, osl, rfl, lk, hcd, _, _⟩ := F.ex
  obtain rfl : cdv = .ref c := hcode
  refine fn_of lk hcd S (fun vs H Q E h => (spD_len h).trans hmu) fun A outer s H vs Q E hr h => ?_
  have hl := spD_len h
  have hN : vs.length ≤ N.length := by
    rw [hl, hmu]
    have := congrArg List.length S.pre
    rw [List.length_take] at this
    omega
  exact @body_of _ ⟨fun id => (tab (cxOf (CX P w) P w K mg base N qual scope f (.ref c) A outer s H E))[id]?⟩ K _ N mu vs H Q E m body hN (sp_conv LC.lam _ h) fun F _ =>
    @hb ⟨fun id => (tab (cxOf (CX P w) P w K mg base N qual scope f (.ref c) A outer s H E))[id]?⟩ A outer s H E (fun _ => rfl) hr F _ (fun cls d _ H' => E cls d H') (takes_of rfl rfl rfl rfl) (passes_of rfl)
      (@Kn.of_rows _ ⟨fun id => (tab (cxOf (CX P w) P w K mg base N qual scope f (.ref c) A outer s H E))[id]?⟩ _ _ _ _ _ (@rows ⟨fun id => (tab (cxOf (CX P w) P w K mg base N qual scope f (.ref c) A outer s H E))[id]?⟩ A outer s H E fun _ => rfl) fun _ => rfl)
end
end DL
namespace DL
open PySem PySem.Spec PyProof.Rows L2 LamX
/-! ### lambdas by their place in the text -/
def lamTE (X : Cx) : Expr → LamT
  | .Lambda p b s _ => lamT X p b s
  | _ => lamT X ⟨[], [], none, [], [], none, []⟩ (.Constant .none 0 ⟨0, 0, 0, 0⟩) ⟨.function, [], false, false, []⟩
/-! ### the end -/
/-- the empty table of a def that stands at the top -/
theorem tab_empty {q : Program} {loose : List Str} {mean : ExcName → Option Value} {mg mb : Str → Option Value} {h : Heap} {K : PySem.W.Frag} (T : Top q loose mean mg mb h) (KX : K.In h) {nm : Str} {a c P : Addr} {o : Obj} {fd : FuncData} (hr : ((recsOf q).any fun e => e.name == nm) = true) (hm : mg nm = some (.ref a))
    (hk : K.lookup a = some o) (ho : o.data = .func fd) (hc : fd.code = .ref c) (hh : PySem.W.CodeHd h c P) : h.get? P = some { cls := .none, data := .fields #[] } := by
  obtain ⟨dL, hm1, hn1⟩ := List.any_eq_true.mp hr
  have hn2 : dL.name = nm := beq_iff_eq.mp hn1
  obtain ⟨a', o', fd', c', P', h1, h2, h3, h4, h5, h6⟩ := T.tab dL hm1
  rw [hn2, hm] at h1
  cases h1
  have g1 := KX _ _ hk
  rw [g1] at h2
  cases h2
  rw [ho] at h3
  cases h3
  rw [hc] at h4
  cases h4
  obtain ⟨⟨oc, vc, e1, _, e3, e4⟩, hP⟩ := h6
  obtain ⟨o2, vs2, _, _, _, _, _, _, _, f1, _, f3, f4, _⟩ := hh
  rw [e1] at f1
  cases f1
  rw [e3] at f3
  cases f3
  rw [e4] at f4
  cases f4
  exact hP
theorem walk_law {l : PySem.W.OpenLaw} {k : Nat} {q : Program} {loose : List Str} {XP : (Str → Option Value) → Heap → Prop} {YP : World → Heap → Prop} {d : DefRec} {K : Params → PySem.W.Frag} (hn : l.most = some 63) (hdf : d.params.defaults = []) (hr : Room k callerA)
    (hY : ∀ (w : World) (h : Heap), YP w h → (K w.params).In h)
    (F : ∀ (w : World) (mg : Str → Option Value) (fa : Addr) (h : Heap), (K w.params).In h → h.Ns mainGlobals mg → mg d.name = some (.ref fa) →
      ∃ (fd : FuncData) (cs : List (Addr × Addr)) (T : List (Addr × Str)), (∀ p ∈ cs, ∃ (nm : Str) (a : Addr) (o : Obj) (fd' : FuncData), ((recsOf q).any fun e => e.name == nm) = true ∧ mg nm = some (.ref a) ∧ (K w.params).lookup a = some o ∧ o.data = .func fd' ∧ fd'.code = .ref p.1) ∧
        (∀ p ∈ cs, (K w.params).lookup p.2 = none) ∧ (∀ p ∈ cs, PySem.W.CodeHd h p.1 p.2) ∧ (∀ p ∈ T, ∃ c, (c, p.1) ∈ cs) ∧ (∀ (s : Shared) (u : Value), BindsTo s fd ⟨[u], []⟩ [("script", u)]) ∧
        ∀ base : Heap, (K w.params).In base → base.Ns mainGlobals mg → (∀ p ∈ cs, TabB base mg p.1 p.2) → FnOk l.prog w (K w.params) mg base (CX l.prog w) k fa fd ["script"] (@spLaw ⟨T⟩ (K w.params))) :
    PySem.W.WalkO q loose XP YP l.row.toRowW d [] (fun f vs => PySem.call f vs) := by
  refine Att.attach_callB hn hdf fun w s₀ s₁ mg mb fa o pm cd doc a vs ns G Y ho hd hcd hmg hobj hints hlen hbits hg => ?_
  have KX := hY w _ Y
  obtain ⟨fd, cs, T, hT, nT, C, hTT, hb, hF⟩ := F w mg fa _ KX G.T.g hmg
  have hT' : ∀ p ∈ cs, s₁.heap.get? p.2 = some { cls := .none, data := .fields #[] } := fun p hp => by
    obtain ⟨nm, a', o', fd', h1, h2, h3, h4, h5⟩ := hT p hp
    exact tab_empty G.T KX h1 h2 h3 h4 h5 (C p hp)
  refine law_callTs KX G.T.g G.T.b G.T.builtins G.T.nolimit hg hT' nT C G.T.bmain hobj hints (Nat.le_trans hlen (by decide)) hr hF hb (fun H hH hS => ⟨a, ns, rfl, hS, hlen, fun p hp => ?_, fun _ => rfl⟩) fun H e s' ⟨_, _, _, _, _, _, _, _, _, _, _, _, z⟩ => z
  obtain ⟨c, hc⟩ := hTT p hp
  exact hH _ hc
end DL
namespace DL
variable [TB] [LC]
open PySem PySem.Spec PyProof.Rows L2 LamX
/-! ### x == [], x one's own -/
section
variable {X : Cx} {K : PySem.W.Frag} {F : Fr} {W : WX} {q1 : Bool} {a : Expr} {ma : M D} {r : R2} {g : D → D → Option D} {cop : CmpOp} {pos p2 : Pos} {σ : L2.St} {H : Hp}
end
/-! ### what is caught -/
theorem catch_at {Es : List Addr} {x : Exc} {st : DSt} {r : Out} {h : Hd} : ∀ {hs : List Hd} {i : Nat}, hs[i]? = some h → (hs.map Hd.C).Nodup → x.cls = .ref h.C → h.C ∈ Es → (∀ a, suiteO h.oi h.sm x st a = r) → catchM Es hs x st = r
  | [], i, e, _, _, _, _ => by simp at e
  | k :: hs, 0, e, nd, hx, hE, hr => by
    cases e
    unfold catchM
    rw [hx]
    dsimp only
    rw [if_pos hE, if_pos rfl]
    exact anyA_eq hr
  | k :: hs, i + 1, e, nd, hx, hE, hr => by
    rw [List.map_cons, List.nodup_cons] at nd
    have ne : h.C ≠ k.C := fun z => nd.1 (by rw [← z]; exact List.mem_map.mpr ⟨h, List.mem_of_getElem? (by simpa using e), rfl⟩)
    have ih := catch_at (r := r) (i := i) (by simpa using e) nd.2 hx hE hr
    unfold catchM
    rw [hx]
    dsimp only
    rw [if_pos hE, if_neg ne]
    exact ih
end DL
namespace DL
open PySem L2
/-! ### places in a text -/
def xNo : Expr := .Name "" ⟨0, 0, 0, 0⟩
def yAt (i : Nat) (l : List Stmt) : Stmt := l.getD i (.Pass ⟨0, 0, 0, 0⟩)
def yVal : Stmt → Expr
  | .Assign _ e _ => e
  | .Expr e _ => e
  | .Return (some e) _ => e
  | .If e _ _ _ => e
  | .While e _ _ _ => e
  | .For _ e _ _ _ => e
  | _ => xNo
def yBody : Stmt → List Stmt
  | .If _ b _ _ => b
  | .While _ b _ _ => b
  | .For _ _ b _ _ => b
  | .Try b _ _ _ _ => b
  | _ => []
def xArg (i : Nat) : Expr → Expr
  | .Call _ as _ _ => as.getD i xNo
  | _ => xNo
def xBo (i : Nat) : Expr → Expr
  | .BoolOp _ es _ => es.getD i xNo
  | _ => xNo
def xCmp (i : Nat) : Expr → Expr
  | .Compare a _ bs _ => (a :: bs).getD i xNo
  | _ => xNo
/-- the table of a code object -/
def tabOf (K : PySem.W.Frag) (c : Addr) : Addr := match K.lookup c with
  | some ⟨_, _, .fields vs, _⟩ => (match (vs[11]? : Option Value) with
    | some (.ref P) => P
    | _ => 0)
  | _ => 0
/-! ### what the head tells of tables -/
def ndA : List Addr → Bool
  | [] => true
  | a :: l => l.all (fun b => !(Nat.beq a b)) && ndA l
theorem ndA_nd : ∀ {l : List Addr}, ndA l = true → l.Nodup
  | [], _ => List.nodup_nil
  | a :: l, h => by
    rw [ndA, Bool.and_eq_true, List.all_eq_true] at h
    refine List.nodup_cons.mpr ⟨fun hm => ?_, ndA_nd h.2⟩
    have z := h.1 a hm
    have e : Nat.beq a a = true := Nat.beq_refl a
    rw [e] at z
    cases z
theorem nd_uq {T : List (Addr × Str)} (nd : (T.map (·.1)).Nodup) {P : Addr} {q : Str} (h : (P, q) ∈ T) : ∀ p ∈ T, p.1 = P → p.2 = q := by
  induction T with
  | nil => cases h
  | cons t T ih =>
    rw [List.map_cons, List.nodup_cons] at nd
    intro p hp e
    rcases List.mem_cons.mp h with rfl | h'
    · rcases List.mem_cons.mp hp with rfl | hp
      · rfl
      · exact absurd (List.mem_map.mpr ⟨p, hp, e⟩) nd.1
    · rcases List.mem_cons.mp hp with rfl | hp
      · exact absurd (List.mem_map.mpr ⟨(P, q), h', e.symm⟩) nd.1
      · exact ih nd.2 h' p hp e
end DL
namespace DL
open PySem L2
local instance : TB := ⟨[]⟩
local instance : LC := ⟨fun _ => none⟩
/-! ### evaluation, applied: the newer words -/
section
variable {α β : Type} {st : DSt}
theorem a_enumM (m : M D) : enumM m st = (match m st with | .ok d s => (match lstOf d with | some ds => .ok (enumD 0 ds) s | none => .stuck) | .err x s => .err x s | .stuck => .stuck) := by
  unfold enumM bnd
  cases m st with
  | ok d s => dsimp only [lift]; cases lstOf d <;> rfl
  | err x s => rfl
  | stuck => rfl
theorem a_zipM (m m2 : M D) : zipM m m2 st = (match m st with | .ok d s => (match m2 s with | .ok e s => (match lstOf d, lstOf e with | some xs, some ys => .ok (zipD xs ys) s | _, _ => .stuck) | .err x s => .err x s | .stuck => .stuck) | .err x s => .err x s | .stuck => .stuck) := by
  unfold zipM
  rw [a_bnd]
  simp only [a_args1, a_args0]
  cases m st with
  | ok d s =>
    dsimp only
    cases m2 s with
    | ok e s =>
      dsimp only
      cases lstOf d <;> cases lstOf e <;> rfl
    | err x s => rfl
    | stuck => rfl
  | err x s => rfl
  | stuck => rfl
theorem a_zipSM (m m2 : M D) : zipSM m m2 st = (match m st with | .ok d s => (match m2 s with | .ok e s => (match lstOf d, lstOf e with | some xs, some ys => if xs.length = ys.length then .ok (zipD xs ys) s else .stuck | _, _ => .stuck) | .err x s => .err x s | .stuck => .stuck) | .err x s => .err x s | .stuck => .stuck) := by
  unfold zipSM
  rw [a_bnd]
  simp only [a_args1, a_args0]
  cases m st with
  | ok d s =>
    dsimp only
    cases m2 s with
    | ok e s =>
      dsimp only
      cases lstOf d with
      | none => rfl
      | some xs =>
        cases lstOf e with
        | none => rfl
        | some ys => dsimp only; by_cases c : xs.length = ys.length <;> simp [c, DL.ret, stuckM]
    | err x s => rfl
    | stuck => rfl
  | err x s => rfl
  | stuck => rfl
theorem a_idxM (mo me : M D) : idxM mo me st = (match mo st with | .ok d s => (match intsOf d with | some ns => (match me s with | .ok y s => (match idxE ns y with | some z => .ok z s | none => .stuck) | .err x s => .err x s | .stuck => .stuck) | none => .stuck) | .err x s => .err x s | .stuck => .stuck) := by
  unfold idxM bnd
  cases mo st with
  | ok d s =>
    dsimp only [lift]
    cases intsOf d with
    | none => rfl
    | some ns =>
      dsimp only
      cases me s with
      | ok y s => dsimp only; cases idxE ns y <;> rfl
      | err x s => rfl
      | stuck => rfl
  | err x s => rfl
  | stuck => rfl
theorem a_lenA (n : Nat) (m : M (List AV)) : lenA n m st = (match m st with | .ok as s => if as.length = n then .ok as s else .stuck | .err x s => .err x s | .stuck => .stuck) := by
  unfold lenA bnd
  cases m st with
  | ok as s => dsimp only; by_cases c : as.length = n <;> simp [c, DL.ret, stuckM]
  | err x s => rfl
  | stuck => rfl
theorem a_callPM (mu : List Bool) (f : FD) (pm : List Nat) (ma mk : M (List AV)) : callPM mu f pm ma mk st = (match ma st with | .ok as s => (match mk s with | .ok bs s => callQ mu f (permL pm (as ++ bs)) s | .err x s => .err x s | .stuck => .stuck) | .err x s => .err x s | .stuck => .stuck) := by
  unfold callPM bnd
  cases ma st with
  | ok as s => dsimp only; cases mk s <;> rfl
  | err x s => rfl
  | stuck => rfl
theorem a_mx0 : mx0 st = .ok [] st := rfl
theorem a_mxS (m : M D) (r : M (List (Bool × D))) : mxS m r st = (match m st with | .ok d s => (match r s with | .ok ds s => .ok ((false, d) :: ds) s | .err x s => .err x s | .stuck => .stuck) | .err x s => .err x s | .stuck => .stuck) := by
  unfold mxS bnd
  cases m st with
  | ok d s => dsimp only; cases r s <;> rfl
  | err x s => rfl
  | stuck => rfl
theorem a_mxF (m : M D) (r : M (List (Bool × D))) : mxF m r st = (match m st with | .ok d s => if flatD d = true then (match r s with | .ok ds s => .ok ((true, d) :: ds) s | .err x s => .err x s | .stuck => .stuck) else .stuck | .err x s => .err x s | .stuck => .stuck) := by
  unfold mxF bnd
  cases m st with
  | ok d s =>
    dsimp only
    by_cases c : flatD d = true
    · rw [if_pos c, if_pos c]; cases r s <;> rfl
    · rw [if_neg c, if_neg c]; rfl
  | err x s => rfl
  | stuck => rfl
theorem a_parX (is : List Nat) (m : M (List (Bool × D))) : parX is m st = (match m st with | .ok ds s => if is.length = ds.length then .nx (setL is ds s) else .stuck | .err x s => .err x s | .stuck => .stuck) := by
  unfold parX doM
  cases m st <;> rfl
theorem a_raiseF (C : Addr) (f : Str) (m : M D) : raiseF C f m st = (match m st with | .ok d s => .err ⟨.ref C, [(f, d)]⟩ s | .err x s => .err x s | .stuck => .stuck) := by
  unfold raiseF doM
  cases m st <;> rfl
theorem a_tryM (Es : List Addr) (mb : MS) (hs : List Hd) : tryM Es mb hs st = (match mb st with | .err x s => catchM Es hs x s | r => r) := rfl
theorem a_cloM (mb : LMB) (i : Nat) (ms : List (M D)) : cloM mb i ms st = (match st[i]? with | some (some (Slot.sh (.clo id))) => (match argsM ms st with | .ok ds s => mb id ds s | .err x s => .err x s | .stuck => .stuck) | _ => .stuck) := by
  unfold cloM
  cases st[i]? with
  | none => rfl
  | some o =>
    cases o with
    | none => rfl
    | some w =>
      cases w with
      | ow m d => rfl
      | sh d =>
        cases d with
        | clo id =>
          show bnd (argsM ms) (fun ds => mb id ds) st = _
          unfold bnd
          cases argsM ms st <;> rfl
        | _ => rfl
theorem a_clo0 (mb : LMB) (i id : Nat) (h : st[i]? = some (some (Slot.sh (.clo id)))) : cloM mb i [] st = mb id [] st := by rw [a_cloM, h]; rfl
theorem a_callCM (mu : List Bool) (n : Nat) (m : MS) (ma : M (List AV)) : callCM mu n m ma st = (match ma st with | .ok as s => if as.length = mu.length then callC mu n m as s else .stuck | .err x s => .err x s | .stuck => .stuck) := by
  unfold callCM bnd
  cases ma st with
  | ok as s => dsimp only; by_cases c : as.length = mu.length <;> simp [c, stuckM]
  | err x s => rfl
  | stuck => rfl
theorem lift_err {n : Nat} {mb : LMB} {id : Nat} {ds : List D} {pre s s' : DSt} {x : Exc} (hp : pre.length = n) (h : mb id ds s = .err x s') : liftB n mb id ds (pre ++ s) = .err x (pre ++ s') := by
  unfold liftB
  rw [← hp, List.drop_left, h, List.take_left]
theorem lam_err {ms : List (List D → M D)} {id : Nat} {m : M D} {x : Exc} {s : DSt} (hi : ms[id]? = some (lamM 0 0 m)) (h : m st = .err x s) : mbL ms id [] st = .err x s := by
  unfold mbL
  rw [List.getD_eq_getElem?_getD, hi]
  show lamM 0 0 m [] st = _
  unfold lamM
  simp [h]
/-- a call that lends nothing -/
def avD (ds : List D) : List AV := ds.map AV.d
theorem getA_d : ∀ {ds : List D}, getA st (List.replicate ds.length false) (avD ds) = some ds
  | [] => rfl
  | d :: ds => by
    have e := getA_d (ds := ds)
    show getA st (false :: List.replicate ds.length false) (AV.d d :: avD ds) = _
    unfold getA
    rw [e]
    rfl
theorem clr_d : ∀ {ds : List D}, clrA (avD ds) st = st
  | [] => rfl
  | d :: ds => clr_d (ds := ds)
theorem res_d {s : DSt} : ∀ {ds : List D}, resA (avD ds) st s = s
  | [] => rfl
  | d :: ds => res_d (ds := ds)
theorem back_d : ∀ {ds ms : List D}, setBack (avD ds) ms st = st
  | [], ms => by unfold avD setBack; rfl
  | d :: ds, [] => rfl
  | d :: ds, m :: ms => back_d (ds := ds) (ms := ms)
theorem out_d : ∀ {n : Nat} {s : DSt}, n ≤ s.length → outS (List.replicate n false) s = some (List.replicate n D.non)
  | 0, s, _ => rfl
  | n + 1, [], h => absurd h (by simp)
  | n + 1, x :: s, h => by
    show outS (false :: List.replicate n false) (x :: s) = _
    unfold outS
    rw [out_d (n := n) (s := s) (by simpa using h)]
    rfl
theorem init_d : ∀ {ds : List D}, initS (List.replicate ds.length false) ds = ds.map fun d => some (Slot.sh d)
  | [] => rfl
  | d :: ds => by
    show some (Slot.sh d) :: initS (List.replicate ds.length false) ds = _
    rw [init_d]
    rfl
theorem nd_d : ∀ {ds : List D}, (avD ds).filterMap avSl = []
  | [] => rfl
  | d :: ds => nd_d (ds := ds)
/-- a def that makes lambdas -/
theorem runC_ok {mu : List Bool} {n : Nat} {m : MS} {ds ms : List D} {fr : Bool} {d : D} (h : runF mu n m ds = .ok fr d ms) (h1 : noCloA ds = true) (h2 : noClo d = true) (h3 : noCloA ms = true) : runC mu n m ds = .ok fr d ms := by
  unfold runC
  rw [if_pos h1, h]
  show (if (noClo d && noCloA ms) = true then _ else _) = _
  rw [h2, h3]
  rfl
end
/-! ### things that are alike, of any depth -/
mutual
inductive Sm : D → D → Prop
  | non : Sm .non .non
  | bl (b : Bool) : Sm (.bl b) (.bl b)
  | int (i : Int) : Sm (.int i) (.int i)
  | str (s : Str) : Sm (.str s) (.str s)
  | seq {d e : D} {xs ys : List D} : seqOf d = some xs → seqOf e = some ys → SmA xs ys → Sm d e
  | tup {xs ys : List D} : SmA xs ys → Sm (.tup xs) (.tup ys)
inductive SmA : List D → List D → Prop
  | nil : SmA [] []
  | cons {d e : D} {xs ys : List D} : Sm d e → SmA xs ys → SmA (d :: xs) (e :: ys)
end
theorem SmA.len : ∀ {xs ys : List D}, SmA xs ys → xs.length = ys.length
  | _, _, .nil => rfl
  | _, _, .cons _ t => congrArg (· + 1) (SmA.len t)
/-! how many things -/
end DL
namespace DL
open PySem L2
local instance : TB := ⟨[]⟩
local instance : LC := ⟨fun _ => none⟩
/-! ### comprehensions, whole -/
section
variable {st s : DSt} {v : Nat} {mi : M (List D)} {me : M D} {mt : M Bool} {f : D → D} {ds : List D}
end
/-! ### loops -/
section
variable {c : M Bool} {b : MS} {st : DSt}
theorem a_while (n : Nat) : whileM (n + 1) c b st = (match c st with | .ok true s => (match b s with | .nx s => whileM n c b s | .ct s => whileM n c b s | .bk s => .nx s | .rt f d s => .rt f d s | .err x s => .err x s | .stuck => .stuck) | .ok false s => .nx s | .err x s => .err x s | .stuck => .stuck) := by
  show doM c _ st = _
  unfold doM
  cases c st with
  | ok k s =>
    cases k with
    | true =>
      dsimp only
      rw [if_pos rfl]
      cases b s <;> rfl
    | false => rfl
  | err x s => rfl
  | stuck => rfl
end
end DL
namespace DL
open PySem L2
local instance : TB := ⟨[]⟩
local instance : LC := ⟨fun _ => none⟩
/-! ### evaluation that goes on with what is reached alone -/
def Res.bd {α β : Type} : Res α → (α → M β) → Res β
  | .ok x s, f => f x s
  | .err x s, _ => .err x s
  | .stuck, _ => .stuck
def Res.od {α : Type} : Res α → (α → MS) → Out
  | .ok x s, f => f x s
  | .err x s, _ => .err x s
  | .stuck, _ => .stuck
def Out.th : Out → MS → Out
  | .nx s, b => b s
  | r, _ => r
def Out.fin (mu : List Bool) : Out → FRes
  | .nx st => endF mu (.ok false .non) st
  | .rt fr d st => endF mu (.ok fr d) st
  | .err x st => endF mu (.err x) st
  | _ => .stuck
def FRes.q : FRes → List AV → DSt → Res D
  | .ok false d ms, as, st => .ok d (setBack as ms st)
  | .ok true d ms, as, st => if flatD d = true then .ok d (setBack as ms st) else .stuck
  | .err x ms, as, st => .err x (setBack as ms st)
  | .stuck, _, _ => .stuck
def FRes.n : FRes → List AV → DSt → Res D
  | .ok true d ms, as, st => .ok d (setBack as ms st)
  | .err x ms, as, st => .err x (setBack as ms st)
  | _, _, _ => .stuck
def qK (f : FD) (as : List AV) (st : DSt) : Option (List D) → Res D
  | some ds => (f ds).q as st
  | none => .stuck
def nK (f : FD) (as : List AV) (st : DSt) : Option (List D) → Res D
  | some ds => (f ds).n as st
  | none => .stuck
def tstK : D → M Bool
  | .bl b => ret b
  | _ => stuckM
def andK (mb : M Bool) : Bool → M Bool
  | true => mb
  | false => ret false
def orK (mb : M Bool) : Bool → M Bool
  | true => ret true
  | false => mb
def iteK {α : Type} (ma mb : M α) : Bool → M α
  | true => ma
  | false => mb
def andVK (mb : M D) : D → M D
  | .bl true => mb
  | .bl false => ret (.bl false)
  | _ => stuckM
def orVK (mb : M D) : D → M D
  | .bl true => ret (.bl true)
  | .bl false => mb
  | _ => stuckM
def notK : D → M D
  | .bl b => ret (.bl (!b))
  | _ => stuckM
def shK (d : D) : M D := if flatD d = true then ret d else stuckM
def chK (g : D → D → Option D) (y : D) (mc : M D) : D → M D
  | .bl true => bnd mc fun w => lift (g y w)
  | .bl false => ret (.bl false)
  | _ => stuckM
def prK : D → M (Option Int)
  | .int i => ret (some i)
  | _ => stuckM
def ifK (a b : MS) : Bool → MS
  | true => a
  | false => b
def retK (f : Bool) (d : D) : MS := fun st => .rt f d st
def outO : Option DSt → Out
  | some s => .nx s
  | none => .stuck
def asgK (t : Tg) (d : D) : MS := fun st => outO (t.run d st)
def asgFK (i : Nat) (d : D) : MS := fun st => .nx (st.set i (some (Slot.ow false d)))
def parK (i j : Nat) : List D → MS
  | [d, e] => fun st => .nx ((st.set i (some (Slot.sh d))).set j (some (Slot.sh e)))
  | _ => fun _ => .stuck
def parXK (is : List Nat) (ds : List (Bool × D)) : MS := fun st => if is.length = ds.length then .nx (setL is ds st) else .stuck
def sqK : D → M (List D)
  | .lst x => ret x
  | .kl x => ret x
  | _ => stuckM
def tpK : D → M (List D)
  | .tup x => ret x
  | _ => stuckM
def rgK : D → M (List D)
  | .int j => fun st => if -4611686018427387904 ≤ j ∧ j < 4611686018427387904 then .ok (rangeD 0 j.toNat) st else .stuck
  | _ => stuckM
def rsK (C : Addr) (f : Str) (d : D) : MS := fun st => .err ⟨.ref C, [(f, d)]⟩ st
def lnK (n : Nat) (as : List AV) : M (List AV) := fun st => if as.length = n then .ok as st else .stuck
def mxK (r : M (List (Bool × D))) (d : D) : M (List (Bool × D)) := if flatD d = true then bnd r fun ds => ret ((true, d) :: ds) else stuckM
def wrK (i : Nat) (g : D → List D → Option (D × D)) (args : List D) : M D := fun st => match st[i]? with
  | some (some (Slot.ow mu d)) => if flatD d = true then (match g d args with
    | some (z, d') => .ok z (st.set i (some (Slot.ow mu d')))
    | none => .stuck) else .stuck
  | _ => .stuck
def sxK (i : Nat) (d k : D) : MS := fun st => match st[i]?, k with
  | some (some (Slot.ow mu (.lst xs))), .int j => match ixN xs.length j with
    | some n => .nx (st.set i (some (Slot.ow mu (.lst (xs.set n d)))))
    | none => .stuck
  | _, _ => .stuck
def zsK (d e : D) : M (List D) := fun st => match lstOf d, lstOf e with
  | some xs, some ys => if xs.length = ys.length then .ok (zipD xs ys) st else .stuck
  | _, _ => .stuck
def zpK (d e : D) : M (List D) := fun st => match lstOf d, lstOf e with
  | some xs, some ys => .ok (zipD xs ys) st
  | _, _ => .stuck
section
variable {α β : Type} {st s : DSt}
theorem b_bd1 (x : α) (f : α → M β) : (Res.ok x s).bd f = f x s := Eq.trans rfl rfl
theorem b_bd2 (x : Exc) (f : α → M β) : (Res.err x s : Res α).bd f = .err x s := Eq.trans rfl rfl
theorem b_bd3 (f : α → M β) : (Res.stuck : Res α).bd f = .stuck := Eq.trans rfl rfl
theorem b_od1 (x : α) (f : α → MS) : (Res.ok x s).od f = f x s := Eq.trans rfl rfl
theorem b_od2 (x : Exc) (f : α → MS) : (Res.err x s : Res α).od f = .err x s := Eq.trans rfl rfl
theorem b_od3 (f : α → MS) : (Res.stuck : Res α).od f = .stuck := Eq.trans rfl rfl
theorem b_th1 (b : MS) : (Out.nx s).th b = b s := Eq.trans rfl rfl
theorem b_th2 (f : Bool) (d : D) (b : MS) : (Out.rt f d s).th b = .rt f d s := Eq.trans rfl rfl
theorem b_th3 (x : Exc) (b : MS) : (Out.err x s).th b = .err x s := Eq.trans rfl rfl
theorem b_th4 (b : MS) : (Out.bk s).th b = .bk s := Eq.trans rfl rfl
theorem b_th5 (b : MS) : (Out.ct s).th b = .ct s := Eq.trans rfl rfl
theorem b_th6 (b : MS) : (Out.stuck).th b = .stuck := Eq.trans rfl rfl
theorem b_fin1 (mu : List Bool) : (Out.nx s).fin mu = endF mu (.ok false .non) s := Eq.trans rfl rfl
theorem b_fin2 (mu : List Bool) (f : Bool) (d : D) : (Out.rt f d s).fin mu = endF mu (.ok f d) s := Eq.trans rfl rfl
theorem b_fin3 (mu : List Bool) (x : Exc) : (Out.err x s).fin mu = endF mu (.err x) s := Eq.trans rfl rfl
theorem b_runF (mu : List Bool) (n : Nat) (b : MS) (ds : List D) : runF mu n b ds = (b (initS mu ds ++ List.replicate (n - ds.length) none)).fin mu := by
  unfold runF Out.fin
  cases b (initS mu ds ++ List.replicate (n - ds.length) none) <;> rfl
theorem b_q1 (d : D) (ms : List D) (as : List AV) : (FRes.ok false d ms).q as st = .ok d (setBack as ms st) := Eq.trans rfl rfl
theorem b_q2 (d : D) (ms : List D) (as : List AV) : (FRes.ok true d ms).q as st = if flatD d = true then .ok d (setBack as ms st) else .stuck := Eq.trans rfl rfl
theorem b_q3 (x : Exc) (ms : List D) (as : List AV) : (FRes.err x ms).q as st = .err x (setBack as ms st) := Eq.trans rfl rfl
theorem b_n1 (d : D) (ms : List D) (as : List AV) : (FRes.ok true d ms).n as st = .ok d (setBack as ms st) := Eq.trans rfl rfl
theorem b_n2 (x : Exc) (ms : List D) (as : List AV) : (FRes.err x ms).n as st = .err x (setBack as ms st) := Eq.trans rfl rfl
theorem b_qK (f : FD) (as : List AV) (ds : List D) : qK f as st (some ds) = (f ds).q as st := Eq.trans rfl rfl
theorem b_nK (f : FD) (as : List AV) (ds : List D) : nK f as st (some ds) = (f ds).n as st := Eq.trans rfl rfl
theorem b_ret (x : α) : DL.ret x st = .ok x st := Eq.trans rfl rfl
theorem b_bnd (m : M α) (f : α → M β) : bnd m f st = (m st).bd f := by
  unfold bnd Res.bd
  cases m st <;> rfl
theorem b_doM (m : M α) (f : α → MS) : doM m f st = (m st).od f := by
  unfold doM Res.od
  cases m st <;> rfl
theorem b_lift (x : α) : lift (some x) st = .ok x st := Eq.trans rfl rfl
theorem b_opM (g : D → D → Option D) (ma mb : M D) : opM g ma mb st = (ma st).bd fun x => bnd mb fun y => lift (g x y) := b_bnd _ _
theorem b_unM (g : D → Option D) (ma : M D) : unM g ma st = (ma st).bd fun x => lift (g x) := b_bnd _ _
theorem b_testM (m : M D) : testM m st = (m st).bd tstK := by
  rw [show tstK = fun d => match d with | .bl b => ret b | _ => stuckM from by funext d; cases d <;> rfl]
  exact b_bnd _ _
theorem b_tst (b : Bool) : tstK (.bl b) st = .ok b st := Eq.trans rfl rfl
theorem b_andM (ma mb : M Bool) : andM ma mb st = (ma st).bd (andK mb) := by
  rw [show andK mb = fun c => if c = true then mb else ret false from by funext c; cases c <;> rfl]
  exact b_bnd _ _
theorem b_and1 (mb : M Bool) : andK mb true st = mb st := Eq.trans rfl rfl
theorem b_and2 (mb : M Bool) : andK mb false st = .ok false st := Eq.trans rfl rfl
theorem b_orM (ma mb : M Bool) : orM ma mb st = (ma st).bd (orK mb) := by
  rw [show orK mb = fun c => if c = true then ret true else mb from by funext c; cases c <;> rfl]
  exact b_bnd _ _
theorem b_or1 (mb : M Bool) : orK mb true st = .ok true st := Eq.trans rfl rfl
theorem b_or2 (mb : M Bool) : orK mb false st = mb st := Eq.trans rfl rfl
theorem b_notM (ma : M Bool) : notM ma st = (ma st).bd fun c => ret (!c) := b_bnd _ _
theorem b_iteM (mc : M Bool) (ma mb : M α) : iteM mc ma mb st = (mc st).bd (iteK ma mb) := by
  rw [show iteK ma mb = fun c => if c = true then ma else mb from by funext c; cases c <;> rfl]
  exact b_bnd _ _
theorem b_ite1 (ma mb : M α) : iteK ma mb true st = ma st := Eq.trans rfl rfl
theorem b_ite2 (ma mb : M α) : iteK ma mb false st = mb st := Eq.trans rfl rfl
theorem b_andV (ma mb : M D) : andV ma mb st = (ma st).bd (andVK mb) := by
  rw [show andVK mb = fun d => match d with | .bl true => mb | .bl false => ret (.bl false) | _ => stuckM from by funext d; cases d with | bl b => cases b <;> rfl | _ => rfl]
  exact b_bnd _ _
theorem b_andV1 (mb : M D) : andVK mb (.bl true) st = mb st := Eq.trans rfl rfl
theorem b_andV2 (mb : M D) : andVK mb (.bl false) st = .ok (.bl false) st := Eq.trans rfl rfl
theorem b_orV (ma mb : M D) : orV ma mb st = (ma st).bd (orVK mb) := by
  rw [show orVK mb = fun d => match d with | .bl true => ret (.bl true) | .bl false => mb | _ => stuckM from by funext d; cases d with | bl b => cases b <;> rfl | _ => rfl]
  exact b_bnd _ _
theorem b_orV1 (mb : M D) : orVK mb (.bl true) st = .ok (.bl true) st := Eq.trans rfl rfl
theorem b_orV2 (mb : M D) : orVK mb (.bl false) st = mb st := Eq.trans rfl rfl
theorem b_notV (ma : M D) : notV ma st = (ma st).bd notK := by
  rw [show notK = fun d => match d with | .bl b => ret (.bl (!b)) | _ => stuckM from by funext d; cases d <;> rfl]
  exact b_bnd _ _
theorem b_notK (b : Bool) : notK (.bl b) st = .ok (.bl (!b)) st := Eq.trans rfl rfl
theorem b_shareM (m : M D) : shareM m st = (m st).bd shK := b_bnd _ _
theorem b_shK (d : D) : shK d st = if flatD d = true then .ok d st else .stuck := by
  unfold shK
  by_cases c : flatD d = true <;> simp [c, DL.ret, stuckM]
theorem b_varM (i : Nat) : varM i st = (match st[i]? with | some (some (Slot.sh d)) => .ok d st | some (some (Slot.ow false d)) => if flatD d = true then .ok d (st.set i (some (Slot.sh d))) else .stuck | _ => .stuck) := Eq.trans rfl rfl
theorem b_peekM (i : Nat) : peekM i st = (match st[i]? with | some (some (Slot.sh d)) => .ok d st | some (some (Slot.ow _ d)) => .ok d st | _ => .stuck) := Eq.trans rfl rfl
theorem b_args0 : argsM [] st = .ok [] st := Eq.trans rfl rfl
theorem b_args1 (m : M D) (ms : List (M D)) : argsM (m :: ms) st = (m st).bd fun d => bnd (argsM ms) fun ds => DL.ret (d :: ds) := b_bnd _ _
theorem b_lstM (ms : List (M D)) : lstM ms st = (argsM ms st).bd fun ds => DL.ret (.lst ds) := b_bnd _ _
theorem b_tupM (ms : List (M D)) : tupM ms st = (argsM ms st).bd fun ds => DL.ret (.tup ds) := b_bnd _ _
theorem b_chainM (g g' : D → D → Option D) (ma mb mc : M D) : chainM g g' ma mb mc st = (ma st).bd fun x => bnd mb fun y => bnd (lift (g x y)) (chK g' y mc) := by
  unfold chainM
  rw [b_bnd]
  rfl
theorem b_ch1 (g : D → D → Option D) (y : D) (mc : M D) : chK g y mc (.bl true) st = (mc st).bd fun w => lift (g y w) := b_bnd _ _
theorem b_ch2 (g : D → D → Option D) (y : D) (mc : M D) : chK g y mc (.bl false) st = .ok (.bl false) st := Eq.trans rfl rfl
theorem b_part0 : partM none st = .ok none st := Eq.trans rfl rfl
theorem b_part1 (m : M D) : partM (some m) st = (m st).bd prK := by
  rw [show prK = fun d => match d with | .int i => DL.ret (some i) | _ => stuckM from by funext d; cases d <;> rfl]
  exact b_bnd _ _
theorem b_prK (i : Int) : prK (.int i) st = .ok (some i) st := Eq.trans rfl rfl
theorem b_slM (g : D → Option Int → Option Int → Option D) (me : M D) (lo hi : Option (M D)) : slM g me lo hi st = (me st).bd fun x => bnd (partM lo) fun l => bnd (partM hi) fun h => lift (g x l h) := b_bnd _ _
theorem b_seqM (a b : MS) : seqM a b st = (a st).th b := by
  unfold seqM Out.th
  cases a st <;> rfl
theorem b_ifM (c : M Bool) (a b : MS) : ifM c a b st = (c st).od (ifK a b) := by
  rw [show ifK a b = fun k => if k = true then a else b from by funext k; cases k <;> rfl]
  exact b_doM _ _
theorem b_if1 (a b : MS) : ifK a b true st = a st := Eq.trans rfl rfl
theorem b_if2 (a b : MS) : ifK a b false st = b st := Eq.trans rfl rfl
theorem b_skipM : skipM st = .nx st := Eq.trans rfl rfl
theorem b_dropM (m : M α) : dropM m st = (m st).od fun _ => skipM := b_doM _ _
theorem b_retM (m : M D) : retM m st = (m st).od (retK false) := b_doM _ _
theorem b_retF (m : M D) : retF m st = (m st).od (retK true) := b_doM _ _
theorem b_retK (f : Bool) (d : D) : retK f d st = .rt f d st := Eq.trans rfl rfl
theorem b_retN : retN st = .rt false .non st := Eq.trans rfl rfl
theorem b_bkM : bkM st = .bk st := Eq.trans rfl rfl
theorem b_ctM : ctM st = .ct st := Eq.trans rfl rfl
theorem b_retOw (i : Nat) : retOw i st = (match st[i]? with | some (some (Slot.ow false d)) => .rt true d (st.set i none) | _ => .stuck) := Eq.trans rfl rfl
theorem b_asgM (m : M D) (t : Tg) : asgM m t st = (m st).od (asgK t) := by
  rw [show asgK t = fun d st => match t.run d st with | some st' => .nx st' | none => .stuck from by funext d st; unfold asgK; cases t.run d st <;> rfl]
  exact b_doM _ _
theorem b_asgK (t : Tg) (d : D) : asgK t d st = outO (t.run d st) := Eq.trans rfl rfl
theorem b_out (s : DSt) : outO (some s) = .nx s := Eq.trans rfl rfl
theorem b_nameT (i : Nat) (d : D) : (nameT i).run d st = some (st.set i (some (Slot.sh d))) := Eq.trans rfl rfl
theorem b_tupT (ts : List Tg) (ds : List D) : (tupT ts).run (.tup ds) st = tgsT ts ds st := Eq.trans rfl rfl
theorem b_tgs0 : tgsT [] [] st = some st := Eq.trans rfl rfl
theorem b_tgs1 (t : Tg) (ts : List Tg) (d : D) (ds : List D) : tgsT (t :: ts) (d :: ds) st = (match t.run d st with | some s => tgsT ts ds s | none => none) := Eq.trans rfl rfl
theorem b_asgF (m : M D) (i : Nat) : asgF m i st = (m st).od (asgFK i) := b_doM _ _
theorem b_asgFK (i : Nat) (d : D) : asgFK i d st = .nx (st.set i (some (Slot.ow false d))) := Eq.trans rfl rfl
theorem b_parM (m : M (List D)) (i j : Nat) : parM m i j st = (m st).od (parK i j) := by
  rw [show parK i j = fun ds st => match ds with | [d, e] => .nx ((st.set i (some (Slot.sh d))).set j (some (Slot.sh e))) | _ => .stuck from by
    funext ds st
    match ds with
    | [] => rfl
    | [_] => rfl
    | [_, _] => rfl
    | _ :: _ :: _ :: _ => rfl]
  exact b_doM _ _
theorem b_parK (i j : Nat) (d e : D) : parK i j [d, e] st = .nx ((st.set i (some (Slot.sh d))).set j (some (Slot.sh e))) := Eq.trans rfl rfl
theorem b_parX (is : List Nat) (m : M (List (Bool × D))) : parX is m st = (m st).od (parXK is) := b_doM _ _
theorem b_parXK (is : List Nat) (ds : List (Bool × D)) : parXK is ds st = if is.length = ds.length then .nx (setL is ds st) else .stuck := Eq.trans rfl rfl
theorem b_setL0 (ds : List (Bool × D)) : setL [] ds st = st := by cases ds <;> exact Eq.trans rfl rfl
theorem b_setL1 (i : Nat) (is : List Nat) (d : D) (r : List (Bool × D)) : setL (i :: is) ((false, d) :: r) st = setL is r (st.set i (some (Slot.sh d))) := Eq.trans rfl rfl
theorem b_setL2 (i : Nat) (is : List Nat) (d : D) (r : List (Bool × D)) : setL (i :: is) ((true, d) :: r) st = setL is r (st.set i (some (Slot.ow false d))) := Eq.trans rfl rfl
theorem b_mx0 : mx0 st = .ok [] st := Eq.trans rfl rfl
theorem b_mxS (m : M D) (r : M (List (Bool × D))) : mxS m r st = (m st).bd fun d => bnd r fun ds => DL.ret ((false, d) :: ds) := b_bnd _ _
theorem b_mxF (m : M D) (r : M (List (Bool × D))) : mxF m r st = (m st).bd (mxK r) := b_bnd _ _
theorem b_mxK (r : M (List (Bool × D))) (d : D) : mxK r d st = if flatD d = true then (r st).bd fun ds => DL.ret ((true, d) :: ds) else .stuck := by
  unfold mxK
  by_cases c : flatD d = true
  · rw [if_pos c, if_pos c]; exact b_bnd _ _
  · rw [if_neg c, if_neg c]; rfl
theorem b_forM (mi : M (List D)) (t : Tg) (b : MS) : forM mi t b st = (mi st).od (loopM t b) := b_doM _ _
theorem b_loop0 (t : Tg) (b : MS) : loopM t b [] st = .nx st := Eq.trans rfl rfl
theorem b_seqM' (m : M D) : seqM' m st = (m st).bd sqK := by
  rw [a_seqM']
  cases m st with
  | ok d s => cases d <;> rfl
  | err x s => rfl
  | stuck => rfl
theorem b_sq1 (x : List D) : sqK (.lst x) st = .ok x st := Eq.trans rfl rfl
theorem b_sq2 (x : List D) : sqK (.kl x) st = .ok x st := Eq.trans rfl rfl
theorem b_tupM' (m : M D) : tupM' m st = (m st).bd tpK := by
  rw [a_tupM']
  cases m st with
  | ok d s => cases d <;> rfl
  | err x s => rfl
  | stuck => rfl
theorem b_tp1 (x : List D) : tpK (.tup x) st = .ok x st := Eq.trans rfl rfl
theorem b_rng1M (m : M D) : rng1M m st = (m st).bd rgK := by
  rw [a_rng1M]
  cases m st with
  | ok d s => cases d <;> rfl
  | err x s => rfl
  | stuck => rfl
theorem b_rgK (j : Int) : rgK (.int j) st = if -4611686018427387904 ≤ j ∧ j < 4611686018427387904 then .ok (rangeD 0 j.toNat) st else .stuck := Eq.trans rfl rfl
theorem b_enumM (m : M D) : enumM m st = (m st).bd fun d => bnd (lift (lstOf d)) fun ds => DL.ret (enumD 0 ds) := b_bnd _ _
theorem b_zipM (m m2 : M D) : zipM m m2 st = (m st).bd fun d => bnd m2 (zpK d) := by
  rw [a_zipM]
  cases m st with
  | ok d s =>
    show _ = bnd m2 (zpK d) s
    rw [b_bnd]
    dsimp only
    cases m2 s with
    | ok e s => rfl
    | err x s => rfl
    | stuck => rfl
  | err x s => rfl
  | stuck => rfl
theorem b_zpK (d e : D) : zpK d e st = (match lstOf d, lstOf e with | some xs, some ys => .ok (zipD xs ys) st | _, _ => .stuck) := Eq.trans rfl rfl
theorem b_zipSM (m m2 : M D) : zipSM m m2 st = (m st).bd fun d => bnd m2 (zsK d) := by
  rw [a_zipSM]
  cases m st with
  | ok d s =>
    show _ = bnd m2 (zsK d) s
    rw [b_bnd]
    dsimp only
    cases m2 s with
    | ok e s => rfl
    | err x s => rfl
    | stuck => rfl
  | err x s => rfl
  | stuck => rfl
theorem b_zsK (d e : D) : zsK d e st = (match lstOf d, lstOf e with | some xs, some ys => if xs.length = ys.length then .ok (zipD xs ys) st else .stuck | _, _ => .stuck) := Eq.trans rfl rfl
theorem b_avs0 : avsM [] st = .ok [] st := Eq.trans rfl rfl
theorem b_avs1 (m : M AV) (ms : List (M AV)) : avsM (m :: ms) st = (m st).bd fun d => bnd (avsM ms) fun ds => DL.ret (d :: ds) := b_bnd _ _
theorem b_shA (m : M D) : shA m st = (m st).bd fun d => DL.ret (AV.d d) := b_bnd _ _
theorem b_lnA (i : Nat) : lnA i st = (match st[i]? with | some (some (Slot.ow _ _)) => .ok (AV.m i) st | _ => .stuck) := Eq.trans rfl rfl
theorem b_callM (mu : List Bool) (f : FD) (ma : M (List AV)) : callM mu f [] ma st = (ma st).bd (callQ mu f) := by
  rw [a_callM]
  cases ma st <;> rfl
theorem b_callF (mu : List Bool) (f : FD) (ma : M (List AV)) : callF mu f [] ma st = (ma st).bd (callN mu f) := by
  rw [a_callF]
  cases ma st <;> rfl
theorem b_callQ (mu : List Bool) (f : FD) (as : List AV) : callQ mu f as st = if (as.filterMap avSl).Nodup then qK f as st (getA st mu as) else .stuck := by
  rw [a_callQ]
  congr 1
  cases getA st mu as with
  | none => rfl
  | some ds =>
    dsimp only [qK]
    cases f ds with
    | ok fr d ms => cases fr <;> rfl
    | err x ms => rfl
    | stuck => rfl
theorem b_callN (mu : List Bool) (f : FD) (as : List AV) : callN mu f as st = if (as.filterMap avSl).Nodup then nK f as st (getA st mu as) else .stuck := by
  rw [a_callN]
  congr 1
  cases getA st mu as with
  | none => rfl
  | some ds =>
    dsimp only [nK]
    cases f ds with
    | ok fr d ms => cases fr <;> rfl
    | err x ms => rfl
    | stuck => rfl
theorem b_fm0 : List.filterMap avSl [] = [] := Eq.trans rfl rfl
theorem b_fm1 (x : D) (as : List AV) : List.filterMap avSl (AV.d x :: as) = List.filterMap avSl as := Eq.trans rfl rfl
theorem b_fm2 (i : Nat) (as : List AV) : List.filterMap avSl (AV.m i :: as) = i :: List.filterMap avSl as := Eq.trans rfl rfl
theorem b_getA0 : getA st [] [] = some [] := Eq.trans rfl rfl
theorem b_getA1 (mu : List Bool) (x : D) (as : List AV) : getA st (false :: mu) (.d x :: as) = (getA st mu as).map (x :: ·) := Eq.trans rfl rfl
theorem b_getA2 (mu : List Bool) (i : Nat) (as : List AV) : getA st (true :: mu) (.m i :: as) = (match st[i]? with | some (some (Slot.ow _ d)) => (getA st mu as).map (d :: ·) | _ => none) := Eq.trans rfl rfl
theorem b_back0 (ms : List D) : setBack [] ms st = st := by cases ms <;> exact Eq.trans rfl rfl
theorem b_back1 (x : D) (as : List AV) (m : D) (ms : List D) : setBack (.d x :: as) (m :: ms) st = setBack as ms st := Eq.trans rfl rfl
theorem b_back2 (i : Nat) (as : List AV) (m : D) (ms : List D) : setBack (.m i :: as) (m :: ms) st = setBack as ms (setOw st i m) := Eq.trans rfl rfl
theorem b_setOw (i : Nat) (d : D) : setOw st i d = (match st[i]? with | some (some (Slot.ow m _)) => st.set i (some (Slot.ow m d)) | _ => st) := Eq.trans rfl rfl
theorem b_flM (p : D → Bool) (i : Nat) : flM p i st = (match st[i]? with | some (some (Slot.ow _ d)) => if flatD d = true ∧ p d = true then .ok () st else .stuck | _ => .stuck) := Eq.trans rfl rfl
theorem b_wrM (p : D → Bool) (i : Nat) (g : D → List D → Option (D × D)) (ms : List (M D)) : wrM p i g ms st = (flM p i st).bd fun _ => bnd (argsM ms) (wrK i g) := b_bnd _ _
theorem b_wrK (i : Nat) (g : D → List D → Option (D × D)) (args : List D) : wrK i g args st = (match st[i]? with
  | some (some (Slot.ow mu d)) => if flatD d = true then (match g d args with
    | some (z, d') => .ok z (st.set i (some (Slot.ow mu d')))
    | none => .stuck) else .stuck
  | _ => .stuck) := Eq.trans rfl rfl
theorem b_setIx (i : Nat) (me mi : M D) : setIx i me mi st = (me st).od fun d => doM (bnd (flM isLst i) fun _ => mi) (sxK i d) := b_doM _ _
theorem b_sxK (i : Nat) (d : D) (j : Int) : sxK i d (.int j) st = (match st[i]? with
  | some (some (Slot.ow mu (.lst xs))) => (match ixN xs.length j with
    | some n => .nx (st.set i (some (Slot.ow mu (.lst (xs.set n d)))))
    | none => .stuck)
  | _ => .stuck) := by
  unfold sxK
  cases st[i]? with
  | none => rfl
  | some o =>
    cases o with
    | none => rfl
    | some w =>
      cases w with
      | sh d => rfl
      | ow m d => cases d <;> rfl
theorem b_idxM (mo me : M D) : idxM mo me st = (mo st).bd fun d => bnd (lift (intsOf d)) fun ns => bnd me fun y => lift (idxE ns y) := b_bnd _ _
theorem b_lenA (n : Nat) (m : M (List AV)) : lenA n m st = (m st).bd (lnK n) := by
  rw [a_lenA]
  cases m st <;> rfl
theorem b_lnK (n : Nat) (as : List AV) : lnK n as st = if as.length = n then .ok as st else .stuck := Eq.trans rfl rfl
theorem b_callPM (mu : List Bool) (f : FD) (pm : List Nat) (ma mk : M (List AV)) : callPM mu f pm ma mk st = (ma st).bd fun as => bnd mk fun bs => callQ mu f (permL pm (as ++ bs)) := b_bnd _ _
theorem b_raiseF (C : Addr) (f : Str) (m : M D) : raiseF C f m st = (m st).od (rsK C f) := b_doM _ _
theorem b_rsK (C : Addr) (f : Str) (d : D) : rsK C f d st = .err ⟨.ref C, [(f, d)]⟩ st := Eq.trans rfl rfl
theorem b_init0 (ds : List D) : initS [] ds = [] := by cases ds <;> exact Eq.trans rfl rfl
theorem b_init1 (mu : List Bool) (d : D) (ds : List D) : initS (false :: mu) (d :: ds) = some (Slot.sh d) :: initS mu ds := Eq.trans rfl rfl
theorem b_init2 (mu : List Bool) (d : D) (ds : List D) : initS (true :: mu) (d :: ds) = some (Slot.ow true d) :: initS mu ds := Eq.trans rfl rfl
theorem b_endF (mu : List Bool) (f : List D → FRes) : endF mu f st = (match outS mu st with | some ms => f ms | none => .stuck) := Eq.trans rfl rfl
theorem b_outS0 : outS [] st = some [] := by cases st <;> exact Eq.trans rfl rfl
theorem b_outS1 (mu : List Bool) (x : Option Slot) (st : DSt) : outS (false :: mu) (x :: st) = (outS mu st).map (D.non :: ·) := Eq.trans rfl rfl
theorem b_outS2 (mu : List Bool) (d : D) (st : DSt) : outS (true :: mu) (some (Slot.ow true d) :: st) = (outS mu st).map (d :: ·) := Eq.trans rfl rfl
end
end DL
namespace DL
variable [TB] [LC]
open PySem L2
/-! ### [.. for x in y], y one's own: it is nobody's meanwhile -/
section
variable {K : PySem.W.Frag} {F : Fr} {W : WX} {G H : Hp} {fpf : Nat → List Addr} {σ : St} {st : DSt} {q1 q2 : Bool} {t : Tg} {mt : M Bool} {me : M D}
end
section
variable {X : Cx} {F : Fr} {W : WX} {q1 q2 : Bool} {elt tg : Expr} {x : Str} {p : Pos} {ifs : List Expr} {scope : Scope} {own : List (Str × Nat)} {pos spos : Pos} {t : Tg} {mt : M Bool} {me : M D}
end
end DL
namespace DL
open PySem L2
local instance : TB := ⟨[]⟩
local instance : LC := ⟨fun _ => none⟩
end DL
namespace DL
variable [TB] [LC]
open PySem L2
/-! ### range(i, j, c) -/
def stepD (i c : Int) (n : Nat) : List D := (List.range n).map fun k => .int (i + (k : Nat) * c)
open Classical in
noncomputable def rng3D (i j c : Int) : Option (List D) := if RgC i j c (Builtin.Range.rangeSize i j c).toNat then some (stepD i c (Builtin.Range.rangeSize i j c).toNat) else none
noncomputable def rgK3 : List D → M (List D)
  | [.int i, .int j, .int c] => lift (rng3D i j c)
  | _ => stuckM
noncomputable def rng3M (ma mb mc : M D) : M (List D) := bnd (argsM [ma, mb, mc]) rgK3
section
variable {X : Cx} {F : Fr} {W : WX} {q q1 q2 q3 : Bool} {tg a b c e o : Expr} {ma mb mc m mo me : M D} {p p1 pos : Pos}
/-! ### xs.index(e), e anything -/
/-! ### list(range(..)) -/
def lstR1 (m : M D) : M D := bnd m fun d => match d with
  | .int j => if -4611686018427387904 ≤ j ∧ j < 4611686018427387904 ∧ j.toNat ≤ 16777216 then ret (.lst (rangeD 0 j.toNat)) else stuckM
  | _ => stuckM
/-! ### {k: v} -/
def dspK (d y : D) : M D := match d with
  | .int i => ret (.dK [(.inl i, y)])
  | .str x => ret (.dK [(.inr x, y)])
  | _ => stuckM
def dspM (mk mv : M D) : M D := bnd mk fun d => bnd mv (dspK d)
end
end DL
namespace DL
variable [TB] [LC]
open PySem L2
/-! ### a dict == a dict -/
def vOf : D → Option V
  | .non => some .non | .bl b => some (.bl b) | .int i => some (.int i) | .str s => some (.str s)
  | _ => none
theorem Rep.vOf {K : PySem.W.Frag} {G : Hp} {d : D} {v w : V} (r : Rep K G d v) (h : DL.vOf d = some w) : v = w ∧ flatB w = true := by
  cases r <;> simp [DL.vOf] at h <;> subst h <;> exact ⟨rfl, rfl⟩
def vsOf : List D → Option (List V)
  | [] => some []
  | d :: ds => match vOf d, vsOf ds with
    | some v, some vs => some (v :: vs)
    | _, _ => none
theorem RepA.vsOf {K : PySem.W.Frag} {G : Hp} : ∀ {ds : List D} {vs ws : List V}, RepA K G ds vs → DL.vsOf ds = some ws → vs = ws ∧ ∀ w ∈ ws, flatB w = true
  | [], _, ws, .nil, h => by simp [DL.vsOf] at h; subst h; simp
  | d :: ds, _, ws, .cons r t, h => by
    unfold DL.vsOf at h
    cases e1 : vOf d with
    | none => rw [e1] at h; cases h
    | some w =>
      cases e2 : DL.vsOf ds with
      | none => rw [e1, e2] at h; cases h
      | some ws' =>
        rw [e1, e2] at h; cases h
        obtain ⟨rfl, f⟩ := r.vOf e1
        obtain ⟨rfl, g⟩ := RepA.vsOf t e2
        exact ⟨rfl, fun w hw => by
          rcases List.mem_cons.mp hw with rfl | hw
          · exact f
          · exact g w hw⟩
theorem zip_eta {α β : Type} : ∀ l : List (α × β), l = (l.map (·.1)).zip (l.map (·.2))
  | [] => rfl
  | (a, b) :: l => by simp [← zip_eta l]
theorem Rp.dK' {K : PySem.W.Frag} {G H : Hp} {kd : List (Key × D)} {x : V} (g : Same G H) (r : Rp K G H (.dK kd) x) : ∃ a kv, x = .ref a ∧ Rd H a (.dK kv) ∧ kv.map (·.1) = kd.map (·.1) ∧ RepA K G (kd.map (·.2)) (kv.map (·.2)) := by
  cases r with
  | rep r => cases r with | dK h e a => exact ⟨_, _, rfl, rd_mono g h, e, a⟩
  | own r =>
    cases r with
    | flat q r => cases r with | dK e a => exact ⟨_, _, rfl, .inl q, e, a⟩
end DL
namespace DL
variable [TB] [LC]
open PySem PySem.Spec PyProof.Rows L2 LamX
/-! ### dicts by tuples of numbers: tuple(x) not in d, d[tuple(x)] = v -/
def keyD : D → Option Key
  | .int i => some (.inl i)
  | .str s => some (.inr s)
  | _ => none
def keysD : List D → Option (List Key)
  | [] => some []
  | d :: ds => match keyD d, keysD ds with
    | some k, some ks => some (k :: ks)
    | _, _ => none
theorem RepA.keys {K : PySem.W.Frag} {G : Hp} : ∀ {ds : List D} {vs : List V} {ks : List Key}, RepA K G ds vs → keysD ds = some ks → vs = ks.map kV
  | [], _, ks, .nil, h => by cases h; rfl
  | d :: ds, _, ks, .cons r t, h => by
    unfold keysD at h
    cases e1 : keyD d with
    | none => rw [e1] at h; cases h
    | some w =>
      cases e2 : keysD ds with
      | none => rw [e1, e2] at h; cases h
      | some ws' =>
        rw [e1, e2] at h; cases h
        rw [RepA.keys t e2]
        cases r <;> simp [keyD] at e1 <;> subst e1 <;> rfl
section
variable {X : Cx} {F : Fr} {W : WX} {q1 q2 : Bool} {a b : Expr} {ma mb : M D} {r : R2} {g : D → D → Option D} {cop : CmpOp} {pos : Pos} {σ : L2.St} {H : Hp} {K : PySem.W.Frag}
end
/-! ### d[tuple(x)] = v -/
def isDT : D → Bool
  | .dT _ => true
  | _ => false
def putT (kvs : List (List Key × D)) (k : List Key) (v : D) : List (List Key × D) := if (kvs.any fun kv => decide (kv.1 = k)) = true then kvs.map (fun kv => if kv.1 = k then (kv.1, v) else kv) else kvs ++ [(k, v)]
def setTk (i : Nat) (d : D) (k : D) : MS := fun st => match st[i]?, k with
  | some (some (Slot.ow mu (.dT kvs))), .tup ds => match keysD ds with
    | some ks => if kvs.length < sizeLine then .nx (st.set i (some (Slot.ow mu (.dT (putT kvs ks d))))) else .stuck
    | none => .stuck
  | _, _ => .stuck
def setT (i : Nat) (me mi : M D) : MS := doM me fun d => doM (bnd (flM isDT i) fun _ => mi) (setTk i d)
section
variable {X : Cx} {F : Fr} {W : WX} {q1 q2 : Bool} {e : Expr} {x : Str} {pos : Pos}
end
end DL
namespace DL
open PySem L2
local instance : TB := ⟨[]⟩
local instance : LC := ⟨fun _ => none⟩
/-! ### more applied words -/
section
variable {st : DSt}
theorem b_rng3M (ma mb mc : M D) : rng3M ma mb mc st = (argsM [ma, mb, mc] st).bd rgK3 := b_bnd _ _
theorem b_rgK3 (i j c : Int) : rgK3 [.int i, .int j, .int c] st = lift (rng3D i j c) st := Eq.trans rfl rfl
theorem b_setT (i : Nat) (me mi : M D) : setT i me mi st = (me st).od fun d => doM (bnd (flM isDT i) fun _ => mi) (setTk i d) := b_doM _ _
theorem b_setTk (i : Nat) (d : D) (ds : List D) : setTk i d (.tup ds) st = (match st[i]? with
  | some (some (Slot.ow mu (.dT kvs))) => (match keysD ds with
    | some ks => if kvs.length < sizeLine then .nx (st.set i (some (Slot.ow mu (.dT (putT kvs ks d))))) else .stuck
    | none => .stuck)
  | _ => .stuck) := by
  unfold setTk
  cases st[i]? with
  | none => rfl
  | some o =>
    cases o with
    | none => rfl
    | some w =>
      cases w with
      | sh d => rfl
      | ow m d => cases d <;> rfl
def lrK : D → M D
  | .int j => if -4611686018427387904 ≤ j ∧ j < 4611686018427387904 ∧ j.toNat ≤ 16777216 then DL.ret (.lst (rangeD 0 j.toNat)) else stuckM
  | _ => stuckM
theorem b_lstR1 (m : M D) : lstR1 m st = (m st).bd lrK := by
  unfold lstR1
  rw [b_bnd]
  congr 1
theorem b_lrK (j : Int) : lrK (.int j) st = if -4611686018427387904 ≤ j ∧ j < 4611686018427387904 ∧ j.toNat ≤ 16777216 then .ok (.lst (rangeD 0 j.toNat)) st else .stuck := by
  unfold lrK
  dsimp only
  split <;> rfl
theorem b_dspM (mk mv : M D) : dspM mk mv st = (mk st).bd fun d => bnd mv (dspK d) := b_bnd _ _
theorem b_dspI (i : Int) (y : D) : dspK (.int i) y st = .ok (.dK [(.inl i, y)]) st := Eq.trans rfl rfl
theorem b_dspS (i : Str) (y : D) : dspK (.str i) y st = .ok (.dK [(.inr i, y)]) st := Eq.trans rfl rfl
end
end DL
namespace DL
variable [TB] [LC]
open PySem PySem.Spec PyProof.Rows L2 LamX
/-! ### a list != [], whatever its entries are -/
end DL
namespace DL
variable [TB] [LC]
open PySem PySem.Spec PyProof.Rows L2 LamX
/-! ### sorted(xs), xs pairs of ints -/
end DL
namespace DL
variable [TB] [LC]
open PySem PySem.Spec PyProof.Rows L2 LamX
/-! ### enumerate(xs, k) -/
section
variable {K : PySem.W.Frag} {G : Hp}
variable {X : Cx} {F : Fr} {W : WX} {q1 q2 : Bool} {e e2 : Expr} {elts : List Expr} {kk : Nat} {m m2 : M D} {pos p tpos : Pos}
def enK : List D → M (List D)
  | [d, .int k] => if -4611686018427387904 ≤ k ∧ k < 4611686018427387904 then bnd (lift (lstOf d)) fun ds => ret (enumD k ds) else stuckM
  | _ => stuckM
def enumFM (m m2 : M D) : M (List D) := bnd (argsM [m, m2]) enK
end
section
variable {st : DSt}
omit [TB] [LC]
theorem b_enumFM (m m2 : M D) : enumFM m m2 st = (argsM [m, m2] st).bd enK := b_bnd _ _
theorem b_enK (d : D) (k : Int) : enK [d, .int k] st = if -4611686018427387904 ≤ k ∧ k < 4611686018427387904 then bnd (lift (lstOf d)) (fun ds => DL.ret (enumD k ds)) st else .stuck := by
  unfold enK
  dsimp only
  split <;> rfl
end
end DL
namespace DL
variable [TB] [LC]
open PySem PySem.Spec PyProof.Rows L2 LamX
/-! ### sorted(xs, reverse=True) -/
section
variable {X : Cx} {F : Fr} {W : WX} {q : Bool} {e : Expr} {p pos kpos cpos : Pos} {kk : Nat} {m : M D}
end
/-! ### a, b = x, y, one of them captured, new things among them -/
theorem MxA.allocH {K : PySem.W.Frag} {F : Fr} {G H : Hp} {fpf : Nat → List Addr} {st : DSt} {p : Addr} {o : HO} (hp : H p = none) {ds : List (Bool × D)} {vs : List V} {fp : List Addr} (h : MxA K F G fpf st H ds vs fp) : MxA K F G fpf st (upd H p o) ds vs fp := by
  induction h with
  | nil => exact .nil
  | sh r _ ih => exact .sh r ih
  | fr ow nd off sep _ ih =>
    refine .fr (ow.mono (H' := upd H p o) (Same.refl G) fun b hb => upd_ne fun z => ?_) nd off sep ih
    obtain ⟨o', ho⟩ := ow.live b hb
    rw [z, hp] at ho
    cases ho
section
variable {X : Cx} {F : Fr} {W : WX} {q : Bool} {pos : Pos}
end
end DL
set_option maxHeartbeats 4000000
namespace DL
variable [TB] [LC]
open PySem PySem.Spec PyProof.Rows L2 LamX
/-! ### a tuple so many times -/
section
variable {X : Cx} {K : PySem.W.Frag}
end
section
variable {X : Cx} {F : Fr} {W : WX} {q1 q2 : Bool} {a b : Expr} {pos : Pos} {ma mb : M D}
end
end DL
namespace DL
variable [TB] [LC]
open PySem PySem.Spec PyProof.Rows L2 LamX
/-! ### len(set(xs)), xs ints, some alike -/
section
variable {X : Cx}
variable {F : Fr} {W : WX} {q : Bool} {e : Expr} {m : M D}
end
end DL
namespace DL
open PySem L2
local instance : TB := ⟨[]⟩
local instance : LC := ⟨fun _ => none⟩
/-! ### one turn of a comprehension, of a loop -/
def endK (vs : List Nat) (y : D) : M (Option D) := fun st => .ok (some y) (wipeD st vs)
def turnK (vs : List Nat) (me : M D) : Bool → M (Option D)
  | true => fun st => (me st).bd (endK vs)
  | false => fun st => .ok none (wipeD st vs)
def turnS (vs : List Nat) (mt : M Bool) (me : M D) : Option DSt → Res (Option D)
  | some s => (mt s).bd (turnK vs me)
  | none => .stuck
def turnC (vs : List Nat) (t : Tg) (mt : M Bool) (me : M D) (d : D) (st : DSt) : Res (Option D) := turnS vs mt me (t.run d st)
def turnB (b : MS) : Option DSt → Out
  | some s => b s
  | none => .stuck
def turnF (t : Tg) (b : MS) (d : D) (st : DSt) : Out := turnB b (t.run d st)
section
variable {st s : DSt} {vs : List Nat} {t : Tg} {mt : M Bool} {me : M D} {d : D} {b : MS}
theorem b_endK (y : D) : endK vs y st = .ok (some y) (wipeD st vs) := Eq.trans rfl rfl
theorem b_turnK1 : turnK vs me true st = (me st).bd (endK vs) := Eq.trans rfl rfl
theorem b_turnK2 : turnK vs me false st = .ok none (wipeD st vs) := Eq.trans rfl rfl
theorem b_turnS : turnS vs mt me (some s) = (mt s).bd (turnK vs me) := Eq.trans rfl rfl
theorem b_turnC : turnC vs t mt me d st = turnS vs mt me (t.run d st) := Eq.trans rfl rfl
theorem b_turnB : turnB b (some s) = b s := Eq.trans rfl rfl
theorem b_turnF : turnF t b d st = turnB b (t.run d st) := Eq.trans rfl rfl
theorem b_wipe0 : wipeD st [] = st := Eq.trans rfl rfl
theorem b_wipe1 (v : Nat) (vs : List Nat) : wipeD st (v :: vs) = (wipeD st vs).set v none := Eq.trans rfl rfl
theorem compL_turn {α : Type} {g : α → D} {f : α → Option D} : ∀ (xs : List α) (acc : List D), (∀ x ∈ xs, turnC vs t mt me (g x) st = .ok (f x) st) → acc.length + xs.length < 16777216 → compL vs t mt me (xs.map g) acc st = .ok (.lst (acc ++ xs.filterMap f)) st
  | [], acc, _, _ => by rw [List.map_nil, a_comp0, List.filterMap_nil, List.append_nil]
  | x :: xs, acc, h, hl => by
    have hx := h x List.mem_cons_self
    rw [List.length_cons] at hl
    have ih := fun acc hl => compL_turn xs acc (fun y hy => h y (List.mem_cons_of_mem _ hy)) hl
    rw [List.map_cons, a_comp1]
    rw [b_turnC] at hx
    cases e1 : t.run (g x) st with
    | none => rw [e1] at hx; cases hx
    | some s1 =>
      rw [e1, b_turnS] at hx
      dsimp only
      cases e2 : mt s1 with
      | stuck => rw [e2] at hx; cases hx
      | err x s => rw [e2] at hx; cases hx
      | ok c s2 =>
        rw [e2, b_bd1] at hx
        cases c with
        | false =>
          rw [b_turnK2] at hx
          injection hx with h1 h2
          dsimp only
          rw [h2, ih acc (by omega), List.filterMap_cons_none h1.symm]
        | true =>
          rw [b_turnK1] at hx
          dsimp only
          cases e3 : me s2 with
          | stuck => rw [e3] at hx; cases hx
          | err x s => rw [e3] at hx; cases hx
          | ok y s3 =>
            rw [e3, b_bd1, b_endK] at hx
            injection hx with h1 h2
            dsimp only
            rw [if_pos (by omega), h2, ih (acc ++ [y]) (by rw [List.length_append, List.length_singleton]; omega), List.filterMap_cons_some h1.symm, List.append_assoc]
            rfl
theorem comp_turnX {α : Type} {g : α → D} {f : α → Option D} {xs : List α} {mi : M (List D)} {s s' : DSt} (hi : mi s = .ok (xs.map g) s') (hw : wipeD s' vs = st) (h : ∀ x ∈ xs, turnC vs t mt me (g x) st = .ok (f x) st) (hl : xs.length < 16777216) : compM vs mi t mt me s = .ok (.lst (xs.filterMap f)) st := by
  rw [a_compM, hi]
  dsimp only
  rw [hw, compL_turn xs [] h (by simpa using hl), List.nil_append]
theorem fm_if {α : Type} {p : α → Bool} {f : α → D} (xs : List α) : xs.filterMap (fun x => if p x = true then some (f x) else none) = (xs.filter p).map f := by
  induction xs with
  | nil => rfl
  | cons x xs ih =>
    by_cases c : p x = true
    · rw [List.filterMap_cons_some (by rw [if_pos c]), ih, List.filter_cons_of_pos c]; rfl
    · rw [List.filterMap_cons_none (by rw [if_neg c]), ih, List.filter_cons_of_neg c]
theorem comp_selX {α : Type} {g : α → D} {p : α → Bool} {f : α → D} {xs : List α} {mi : M (List D)} {s s' : DSt} (hi : mi s = .ok (xs.map g) s') (hw : wipeD s' vs = st) (h : ∀ x ∈ xs, turnC vs t mt me (g x) st = .ok (if p x = true then some (f x) else none) st) (hl : xs.length < 16777216) : compM vs mi t mt me s = .ok (.lst ((xs.filter p).map f)) st := by
  rw [comp_turnX hi hw h hl, fm_if]
theorem comp_sel {α : Type} {g : α → D} {p : α → Bool} {f : α → D} {xs : List α} {mi : M (List D)} (hi : mi st = .ok (xs.map g) st) (hw : wipeD st vs = st) (h : ∀ x ∈ xs, turnC vs t mt me (g x) st = .ok (if p x = true then some (f x) else none) st) (hl : xs.length < 16777216) : compM vs mi t mt me st = .ok (.lst ((xs.filter p).map f)) st := comp_selX hi hw h hl
theorem loop_turn {ds : List D} : loopM t b (d :: ds) st = (match turnF t b d st with | .nx s => loopM t b ds s | .ct s => loopM t b ds s | .bk s => .nx s | .rt f d s => .rt f d s | .err x s => .err x s | .stuck => .stuck) := by
  rw [a_loop1, b_turnF]
  cases t.run d st with
  | none => rfl
  | some s => rfl
theorem loop_I' {α : Type} {g : α → D} {I : Nat → DSt → Prop} : ∀ (xs : List α) (k : Nat) (st : DSt), (∀ i (h : i < xs.length) st, I (k + i) st → ∃ s, turnF t b (g xs[i]) st = .nx s ∧ I (k + i + 1) s) → I k st → ∃ s, loopM t b (xs.map g) st = .nx s ∧ I (k + xs.length) s
  | [], k, st, _, h0 => ⟨st, rfl, h0⟩
  | x :: xs, k, st, h, h0 => by
    obtain ⟨s, e, i1⟩ := h 0 (by simp) st h0
    obtain ⟨s2, e2, i2⟩ := loop_I' (g := g) (I := I) xs (k + 1) s (fun i hi st hst => by
      have := h (i + 1) (by simpa using hi) st (by rw [show k + (i + 1) = k + 1 + i by omega]; exact hst)
      rw [show (x :: xs)[i + 1]'(by simpa using hi) = xs[i] from rfl] at this
      rw [show k + 1 + i = k + (i + 1) by omega]
      exact this) i1
    refine ⟨s2, ?_, by rw [List.length_cons, show k + (xs.length + 1) = k + 1 + xs.length by omega]; exact i2⟩
    rw [List.map_cons, loop_turn]
    rw [show (x :: xs)[0] = x from rfl] at e
    rw [e]
    exact e2
/-- a walk that keeps a promise, turn by turn -/
theorem loop_I {α : Type} {g : α → D} {I : Nat → DSt → Prop} {xs : List α} {st : DSt} (h : ∀ i (h : i < xs.length) st, I i st → ∃ s, turnF t b (g xs[i]) st = .nx s ∧ I (i + 1) s) (h0 : I 0 st) : ∃ s, loopM t b (xs.map g) st = .nx s ∧ I xs.length s := by
  obtain ⟨s, e, i⟩ := loop_I' (g := g) (I := I) xs 0 st (fun i hi st hs => by rw [Nat.zero_add] at hs ⊢; exact h i hi st hs) h0
  exact ⟨s, e, by rw [Nat.zero_add] at i; exact i⟩
theorem loop_P {I : DSt → Prop} : ∀ {ds : List D} {st : DSt}, (∀ d ∈ ds, ∀ st, I st → ∃ s, turnF t b d st = .nx s ∧ I s) → I st → ∃ s, loopM t b ds st = .nx s ∧ I s
  | [], st, _, h0 => ⟨st, rfl, h0⟩
  | d :: ds, st, h, h0 => by
    obtain ⟨s, e, i1⟩ := h d List.mem_cons_self st h0
    obtain ⟨s2, e2, i2⟩ := loop_P (ds := ds) (fun x hx => h x (List.mem_cons_of_mem _ hx)) i1
    exact ⟨s2, by rw [loop_turn, e]; exact e2, i2⟩
end
/-! ### lists of ints, told by place -/
def rgI (lo : Int) (i : Nat) : D := .int (lo + (i : Nat))
theorem rangeI (lo : Int) (n : Nat) : rangeD lo n = (List.range n).map (rgI lo) := rfl
end DL
namespace DL
open PySem L2
local instance : TB := ⟨[]⟩
local instance : LC := ⟨fun _ => none⟩
section
variable {t : Tg} {b : MS}
end
theorem ne_empty {xs : List D} {ps : List PyData} (h : toPs xs = some ps) : neD (.lst xs) (.lst []) = some (.bl (!xs.isEmpty)) := by
  rw [ne_of' (p := .list ps) (q := .list []) (by rw [toP, h]; rfl) rfl (Nat.le_trans (Nat.min_le_right _ _) (by decide))]
  cases xs with
  | nil => cases h; rfl
  | cons x xs =>
    rw [toPs] at h
    split at h
    · cases h; rfl
    · cases h
end DL
namespace DL
variable [TB] [LC]
open PySem PySem.Spec PyProof.Rows L2 LamX
/-! ### repr(x), x data -/
mutual
theorem noDict_toP : ∀ {d : D} {p : PyData}, toP d = some p → p.hasDict = false
  | .non, p, h => by cases h; rfl
  | .bl _, p, h => by cases h; rfl
  | .int _, p, h => by cases h; rfl
  | .str _, p, h => by cases h; rfl
  | .lst ds, p, h => by
    rw [toP, Option.map_eq_some_iff] at h
    obtain ⟨ps, e, rfl⟩ := h
    rw [PyData.hasDict]
    exact noDict_toPs e
  | .kl ds, p, h => by
    rw [toP, Option.map_eq_some_iff] at h
    obtain ⟨ps, e, rfl⟩ := h
    rw [PyData.hasDict]
    exact noDict_toPs e
  | .tup ds, p, h => by
    rw [toP, Option.map_eq_some_iff] at h
    obtain ⟨ps, e, rfl⟩ := h
    rw [PyData.hasDict]
    exact noDict_toPs e
  | .ty _, p, h => by simp [toP] at h
  | .rf _, p, h => by simp [toP] at h
  | .dK _, p, h => by simp [toP] at h
  | .dT _, p, h => by simp [toP] at h
  | .obj _ _, p, h => by simp [toP] at h
  | .box _, p, h => by simp [toP] at h
  | .clo _, p, h => by simp [toP] at h
theorem noDict_toPs : ∀ {ds : List D} {ps : List PyData}, toPs ds = some ps → PyData.hasDictAll ps = false
  | [], ps, h => by cases h; rfl
  | d :: ds, ps, h => by
    unfold toPs at h
    cases e1 : toP d with
    | none => rw [e1] at h; cases h
    | some p =>
      cases e2 : toPs ds with
      | none => rw [e1, e2] at h; cases h
      | some qs =>
        rw [e1, e2] at h
        cases h
        rw [PyData.hasDictAll, noDict_toP e1, noDict_toPs e2]
        rfl
end
def keyP : Key → PyData
  | .inl i => .int i
  | .inr x => .str x
def valP : V → PyData
  | .bl b => .bool b
  | .int i => .int i
  | .str x => .str x
  | _ => .none
def flatV : V → Bool
  | .non => true
  | .bl _ => true
  | .int _ => true
  | .str _ => true
  | _ => false
def dictP (kv : List (Key × V)) : PyData := .dict (kv.map fun q => (keyP q.1, valP q.2))
theorem reads_key {h : Heap} {k : Key} {v : Value} (e : keyIs k v = true) : Reads h v (keyP k) [] := by
  rcases keyIs_shape e with ⟨i, t, rfl, rfl⟩ | ⟨x, t, rfl, rfl⟩
  · exact .int i t
  · exact .str x t
theorem reads_flat {h : Heap} {x : V} {u : Value} (r : RelV x u) (f : flatV x = true) : Reads h u (valP x) [] := by
  cases x with
  | non => cases r; exact .none
  | bl b => cases r; exact .bool b
  | int i => obtain ⟨t, rfl⟩ := r; exact .int i t
  | str y => obtain ⟨t, rfl⟩ := r; exact .str y t
  | _ => cases f
theorem reads_pairs {P : Program} {w : World} {h : Heap} {kv : List (Key × V)} : ∀ {es : List DictEntry} {vs : List (Key × Value)}, Pairs (mixKind P w) es vs → KV kv vs → (∀ q ∈ kv, flatV q.2 = true) → ReadsAll h (es.map (·.key)) (kv.map fun q => keyP q.1) [] ∧ ReadsAll h (es.map (·.val)) (kv.map fun q => valP q.2) [] := by
  induction kv with
  | nil =>
    intro es vs hp hk _
    cases hk
    cases hp
    exact ⟨.nil, .nil⟩
  | cons q kv ih =>
    intro es vs hp hk hf
    cases hk with
    | cons hq hr =>
      cases hp with
      | cons h1 h2 h3 =>
        obtain ⟨i1, i2⟩ := ih h3 hr fun z hz => hf z (List.mem_cons_of_mem _ hz)
        refine ⟨.cons (as := []) (bs := []) (reads_key ?_) i1, .cons (as := []) (bs := []) (reads_flat ?_ (hf q List.mem_cons_self)) i2⟩
        · exact hq.1 ▸ h1
        · dsimp only
          rw [h2]
          exact hq.2
def RpP (K : PySem.W.Frag) (H : Hp) (v : V) (p : PyData) : Prop := (Dp K H v p ∧ p.hasDict = false) ∨ ∃ a kv, v = .ref a ∧ Rd H a (.dK kv) ∧ (∀ q ∈ kv, flatV q.2 = true) ∧ p = dictP kv
def rReprP (K : PySem.W.Frag) : List V → Hp → VK → Prop := fun xs H Q => ∃ v p, xs = [v] ∧ RpP K H v p ∧ p.showable = true ∧ p.depth ≤ 60 ∧ p.shown.length ≤ sizeLine ∧ Q (.str p.shown) H
theorem call_reprP {X : Cx} {k : Nat} (hr : Room k X.A) : CallR X (.builtin "repr") (rReprP X.K) := by
  intro pins s σ H xs us Q I r h
  obtain ⟨v, p, rfl, hp, hs, hd, hz, q⟩ := h
  obtain ⟨u, rfl, ru⟩ := vals1 r
  have hu := hr.units
  obtain ⟨as, rd, hsm⟩ : ∃ as, Reads s.heap u p as ∧ (p.hasDict = true → sysModules ∉ as) := by
    rcases hp with ⟨hp, hn⟩ | ⟨a, kv, rfl, ha, hf, rfl⟩
    · obtain ⟨as, rd⟩ := Dp.reads I p v u hp ru
      exact ⟨as, rd, fun z => by rw [hn] at z; cases z⟩
    · obtain rfl : u = Value.ref a := ru
      obtain ⟨_, ne, vs, kvr, o, es, ep, e1, e2, e3, _, e5, _⟩ := (show ObjOk X.prog X.w H s.heap a (.dK kv) from ha.ok I.hok)
      obtain ⟨r1, r2⟩ := reads_pairs (h := s.heap) e5 kvr hf
      refine ⟨a :: [] ++ [], .dict e1 e2.1 e3 (by rw [List.map_map]; exact r1) (by rw [List.map_map]; exact r2), fun _ z => ?_⟩
      have : sysModules = a := by simpa using z
      rw [this] at ne
      simp at ne
  cases rd with
  | none => exact PySem.P.repr_of_none ⟨.str _, H, I.tok _, ⟨_, rfl⟩, q⟩
  | bool b => exact PySem.P.repr_of_bool ⟨.str _, H, I.tok _, ⟨_, rfl⟩, q⟩
  | int i t => exact PySem.P.repr_of_int (by simpa [PyData.showable] using hs) ⟨.str _, H, I.tok _, ⟨_, rfl⟩, q⟩
  | str x t => exact PySem.P.repr_of_str ⟨.str _, H, I.tok _, ⟨_, rfl⟩, q⟩ hz
  | list a1 a2 a3 a4 => exact repr_of_reads' (.list a1 a2 a3 a4) hs hsm hr.gd (by omega) (fun _ _ e => e) (fun h' u tk hk => ⟨.str _, H, I.kept hk, ⟨_, rfl⟩, q⟩) hz
  | tuple a1 a2 a3 a4 => exact repr_of_reads' (.tuple a1 a2 a3 a4) hs hsm hr.gd (by omega) (fun _ _ e => e) (fun h' u tk hk => ⟨.str _, H, I.kept hk, ⟨_, rfl⟩, q⟩) hz
  | dict a1 a2 a3 a4 a5 => exact repr_of_reads' (.dict a1 a2 a3 a4 a5) hs hsm hr.gd (by omega) (fun _ _ e => e) (fun h' u tk hk => ⟨.str _, H, I.kept hk, ⟨_, rfl⟩, q⟩) hz
def reprP : D → Option PyData
  | .dK kd => (vsOf (kd.map (·.2))).map fun vs => dictP ((kd.map (·.1)).zip vs)
  | d => toP d
def reprPD (d : D) : Option D := (reprP d).bind fun p => if p.showable = true ∧ p.depth ≤ 60 ∧ p.shown.length ≤ 16777216 then some (.str p.shown) else none
theorem flatV_of {ds : List D} {ws : List V} (h : vsOf ds = some ws) : ∀ w ∈ ws, flatV w = true := by
  induction ds generalizing ws with
  | nil => simp [vsOf] at h; subst h; simp
  | cons d ds ih =>
    unfold vsOf at h
    cases e1 : vOf d with
    | none => rw [e1] at h; cases h
    | some w =>
      cases e2 : vsOf ds with
      | none => rw [e1, e2] at h; cases h
      | some ws' =>
        rw [e1, e2] at h; cases h
        intro z hz
        rcases List.mem_cons.mp hz with rfl | hz
        · cases d <;> simp [vOf] at e1 <;> subst e1 <;> rfl
        · exact ih e2 z hz
theorem s_reprP {K : PySem.W.Frag} : Ca0 K (rReprP K) reprPD := fun {G H d z x Q} g rx h q => by
  unfold reprPD at h
  obtain ⟨p, e, h⟩ := Option.bind_eq_some_iff.mp h
  obtain ⟨⟨c1, c2, c3⟩, rfl⟩ := if_some h
  have rp : RpP K H x p := by
    unfold reprP at e
    split at e
    · rename_i kd
      rw [Option.map_eq_some_iff] at e
      obtain ⟨vs, ev, rfl⟩ := e
      obtain ⟨a, kv, rfl, ha, e1, r1⟩ := rx.dK' g
      obtain ⟨f1, g1⟩ := r1.vsOf ev
      have hk : kv = (kd.map (·.1)).zip vs := by rw [zip_eta kv, e1, f1]
      refine .inr ⟨a, kv, rfl, ha, fun q hq => flatV_of ev _ ?_, by rw [hk]⟩
      rw [← f1]
      exact List.mem_map_of_mem hq
    · exact .inl ⟨rx.dp g e, noDict_toP e⟩
  exact ⟨x, p, rfl, rp, c1, c2, by rw [sizeLine_eq]; exact c3, q _ (.str _)⟩
end DL
namespace DL
variable [TB] [LC]
open PySem PySem.Spec PyProof.Rows L2 LamX
/-! ### sum(xss, []) -/
section
variable {prog : Program} {w : World} {A : Around} {R : Result → Shared → Prop} {I ax S : Addr} {items : Array Value} {its : Nat → List Value}
end
section
variable {prog : Program} {w : World} {A : Around} {E : Value → Shared → Prop} {s : Shared} {ax b : Addr} {items : Array Value} {its : Nat → List Value} {cb : Nat}
end
end DL
namespace DL
variable [TB] [LC]
open PySem PySem.Spec PyProof.Rows L2 LamX
end DL
namespace DL
variable [TB] [LC]
open PySem PySem.Spec PyProof.Rows L2 LamX
/-! ### xs.count(e), ints -/
/-! ### () + t -/
end DL
namespace DL
open PySem L2
local instance : TB := ⟨[]⟩
local instance : LC := ⟨fun _ => none⟩
section
variable {st : DSt}
end
end DL
namespace DL
variable [TB] [LC]
open PySem PySem.Spec PyProof.Rows L2 LamX
/-! ### a comprehension whose block is told what held as it began (the library's rule, HandS.Comp, tells it nothing) -/
section
variable {X : Cx}
structure BlkT (X : Cx) (s : Shared) (H : Hp) (scope : Scope) (cenv : Env) (fp : List Addr) (tg : Expr) (ifs : List Expr) (elt : Expr) (g : TG) (tt : TT) (te : TE) : Prop where
  pg : PG (X.blk s H scope cenv fp) tg g
  pt : PTs (X.blk s H scope cenv fp) ifs tt
  pe : PE (X.blk s H scope cenv fp) elt te
/-! ### the maker's lambdas within the block -/
end
end DL
namespace DL
open PySem PySem.Spec PySem.W PyProof.Rows L2
section
variable [TB] [LC]
variable {X : Cx} {F : Fr} {W : WX} {q q1 q2 : Bool} {e a b : Expr} {p p1 pos : Pos} {m ma mb : M D}
/-! ### list(range(a, b)) -/
def lstR2 (ma mb : M D) : M D := bnd ma fun d => bnd mb fun e => match d, e with
  | .int i, .int j => if -4611686018427387904 ≤ i ∧ i < 4611686018427387904 ∧ -4611686018427387904 ≤ j ∧ j < 4611686018427387904 ∧ (j - i).toNat ≤ 16777216 then ret (.lst (rangeD i (j - i).toNat)) else stuckM
  | _, _ => stuckM
end
section
variable {st : DSt}
def lr2K (d e : D) : M D := match d, e with
  | .int i, .int j => if -4611686018427387904 ≤ i ∧ i < 4611686018427387904 ∧ -4611686018427387904 ≤ j ∧ j < 4611686018427387904 ∧ (j - i).toNat ≤ 16777216 then DL.ret (.lst (rangeD i (j - i).toNat)) else stuckM
  | _, _ => stuckM
theorem b_lstR2 (ma mb : M D) : lstR2 ma mb st = (ma st).bd fun d => bnd mb fun e => lr2K d e := b_bnd _ _
theorem b_lr2K (i j : Int) : lr2K (.int i) (.int j) st = if -4611686018427387904 ≤ i ∧ i < 4611686018427387904 ∧ -4611686018427387904 ≤ j ∧ j < 4611686018427387904 ∧ (j - i).toNat ≤ 16777216 then .ok (.lst (rangeD i (j - i).toNat)) st else .stuck := by
  unfold lr2K
  dsimp only
  split <;> rfl
end
end DL
namespace DL
open PySem PySem.Spec PySem.W PyProof.Rows L2 LamX
section
variable [TB] [LC]
variable {X : Cx} {F : Fr} {W : WX} {q : Bool} {pos : Pos}
/-! ### a, b, c, d = x, y, z, w, new things among them -/
end
end DL
namespace DL
variable [TB] [LC]
open PySem L2
/-! ### a def that reads a thing of the caller's own: its shared argument, lent -/
/-- the boxes opened -/
def opn : D → D
  | .box d => d
  | d => d
def unb : D → D
  | .obj C fs => .obj C (fs.map fun p => (p.1, opn p.2))
  | d => d
def isLs : D → Bool
  | .lst _ => true
  | _ => false
/-- what may be looked at so: a list, or an object whose boxes hold lists -/
def vwOk : D → Bool
  | .lst _ => true
  | .obj _ fs => fs.all fun p => match p.2 with
    | .box d => isLs d
    | _ => true
  | _ => false
mutual
/-- no part that could be changed -/
def immD : D → Bool
  | .non => true
  | .bl _ => true
  | .int _ => true
  | .str _ => true
  | .ty _ => true
  | .tup xs => immA xs
  | _ => false
def immA : List D → Bool
  | [] => true
  | d :: ds => immD d && immA ds
end
theorem imm_tup (xs : List D) : immD (.tup xs) = immA xs := by simp only [immD]
theorem imm_cons (d : D) (ds : List D) : immA (d :: ds) = (immD d && immA ds) := by simp only [immA]
def immN : D → Bool
  | .rf _ => true
  | .lst _ => true
  | .kl _ => true
  | .dK _ => true
  | .dT _ => true
  | .obj _ _ => true
  | .box _ => true
  | .clo _ => true
  | _ => false
theorem imm_no {d : D} (h : immD d = true) : immN d = true → False := by
  cases d <;> simp [immD, immN] at *
/-- a thing of one's own without such parts -/
def immB : D → Bool
  | .box (.lst xs) => immA xs
  | .box _ => false
  | d => immD d
def immF : D → Bool
  | .lst xs => immA xs
  | .obj _ fs => fs.all fun p => immB p.2
  | d => immD d
def vwEnd (i : Nat) (d : D) : FRes → FRes
  | .ok false r ms => if immD r = true ∧ ms.all immF = true then .ok false r (ms.set i d) else .stuck
  | .ok true r ms => if immF r = true ∧ ms.all immF = true then .ok true r (ms.set i d) else .stuck
  | .err x ms => if immA (x.fs.map (·.2)) = true ∧ ms.all immF = true then .err x (ms.set i d) else .stuck
  | .stuck => .stuck
def viewF (i : Nat) (f : FD) : FD := fun ds => match ds[i]? with
  | some d => if vwOk d = true then vwEnd i d (f (ds.set i (unb d))) else .stuck
  | none => .stuck
section
variable {K : PySem.W.Frag} {G H : Hp} {V0 : List Addr}
/-- G without some -/
def cut (G : Hp) (fp : List Addr) : Hp := fun b => if b ∈ fp then none else G b
/-- G with some of H -/
def join (G H : Hp) (fp : List Addr) : Hp := fun b => if b ∈ fp then H b else G b
def Mut (o : HO) : Prop := (∃ vs, o = .lst vs) ∨ ∃ C dx fv, o = .ins C dx fv
theorem cut_get {a : Addr} {o : HO} (h : cut G V0 a = some o) : a ∉ V0 ∧ G a = some o := by
  unfold cut at h
  split at h
  · cases h
  · rename_i k; exact ⟨k, h⟩
theorem cut_eq {a : Addr} (h : a ∉ V0) : cut G V0 a = G a := if_neg h
theorem cut_in {a : Addr} (h : a ∈ V0) : cut G V0 a = none := if_pos h
theorem join_in {a : Addr} (h : a ∈ V0) : join G H V0 a = H a := if_pos h
theorem join_out {a : Addr} (h : a ∉ V0) : join G H V0 a = G a := if_neg h
theorem sqT_cut {a : Addr} {vs : List V} (m : ∀ b ∈ V0, ∃ o, G b = some o ∧ Mut o) (h : SqT K G a vs) : SqT K (cut G V0) a vs := by
  rcases h with (h | ⟨o, h⟩) | h
  · refine .inl (.inl ?_)
    rw [cut_eq fun z => ?_]
    · exact h
    · obtain ⟨u, e, k⟩ := m a z
      rw [h] at e
      cases e
      rcases k with ⟨_, k⟩ | ⟨_, _, _, k⟩ <;> cases k
  · refine .inl (.inr ⟨o, ?_⟩)
    rw [cut_eq fun z => ?_]
    · exact h
    · obtain ⟨u, e, k⟩ := m a z
      rw [h] at e
      cases e
      rcases k with ⟨_, k⟩ | ⟨_, _, _, k⟩ <;> cases k
  · exact .inr h
mutual
theorem Rep.cut (m : ∀ b ∈ V0, ∃ o, G b = some o ∧ Mut o) : ∀ {d : D} {v : V}, Rep K G d v → immD d = true → Rep K (cut G V0) d v
  | _, _, .non, _ => .non
  | _, _, .bl b, _ => .bl b
  | _, _, .int i, _ => .int i
  | _, _, .str x, _ => .str x
  | _, _, .ty n, _ => .ty n
  | _, _, .tup h r, e => .tup (sqT_cut m h) (RepA.cut m r ((imm_tup _).symm.trans e))
  | _, _, .rf _, e => (imm_no e rfl).elim
  | _, _, .lst _ _, e => (imm_no e rfl).elim
  | _, _, .kl _ _, e => (imm_no e rfl).elim
  | _, _, .dK _ _ _, e => (imm_no e rfl).elim
  | _, _, .dT _ _ _, e => (imm_no e rfl).elim
  | _, _, .obj _ _ _, e => (imm_no e rfl).elim
  | _, _, .clo _ _ _, e => (imm_no e rfl).elim
theorem RepA.cut (m : ∀ b ∈ V0, ∃ o, G b = some o ∧ Mut o) : ∀ {ds : List D} {vs : List V}, RepA K G ds vs → immA ds = true → RepA K (cut G V0) ds vs
  | _, _, .nil, _ => .nil
  | _, _, .cons h t, e => by
    have e := (imm_cons _ _).symm.trans e
    exact .cons (Rep.cut m h (Bool.and_eq_true_iff.mp e).1) (RepA.cut m t (Bool.and_eq_true_iff.mp e).2)
end
theorem immA_of : ∀ {fs : List (Str × D)}, fs.all (fun p => immB p.2) = true → (∀ p ∈ fs, isBox p.2 = false) → immA (fs.map (·.2)) = true
  | [], _, _ => rfl
  | (f, d) :: fs, e, k => by
    simp only [List.all_cons, Bool.and_eq_true] at e
    have kd := k _ List.mem_cons_self
    have := immA_of e.2 fun p hp => k p (List.mem_cons_of_mem _ hp)
    simp only [List.map_cons, immA, this, Bool.and_true]
    have e1 := e.1
    cases d <;> first | exact e1 | exact nomatch kd
theorem OR.cut (m : ∀ b ∈ V0, ∃ o, G b = some o ∧ Mut o) {o : HO} {d : D} (h : OR K G o d) (e : immF d = true) : OR K (cut G V0) o d ∨ ∃ C dx fv fd, o = .ins C dx fv ∧ d = .obj C fd ∧ fv.map (·.1) = fd.map (·.1) ∧ RepA K G (fd.map (·.2)) (fv.map (·.2)) := by
  cases h with
  | lst r => exact .inl (.lst (r.cut m (by simpa [immF] using e)))
  | tup r => exact .inl (.tup (r.cut m (by simpa [immF, immD] using e)))
  | dK k r => simp [immF, immD] at e
  | dT k r => simp [immF, immD] at e
  | obj k r => exact .inr ⟨_, _, _, _, rfl, rfl, k, r⟩
theorem rep_box {G : Hp} {d : D} {v : V} (h : Rep K G (.box d) v) : False := by cases h
theorem repA_nobox : ∀ {ds : List D} {vs : List V}, RepA K G ds vs → ∀ d ∈ ds, isBox d = false
  | _, _, .nil, _, h => by simp at h
  | _, _, .cons (d := d) r t, e, h => by
    rcases List.mem_cons.mp h with rfl | h
    · cases e <;> first | rfl | exact (rep_box r).elim
    · exact repA_nobox t e h
theorem ChA.cut (m : ∀ b ∈ V0, ∃ o, G b = some o ∧ Mut o) {ds : List D} {vs : List V} {fp : List Addr} (h : ChA K G H ds vs fp) : (∀ d ∈ ds, immB d = true) → ChA K (cut G V0) H ds vs fp := by
  induction h with
  | nil => exact fun _ => .nil
  | @sh d v ds vs fp r t ih =>
    intro k
    refine .sh (r.cut m ?_) (ih fun d hd => k d (List.mem_cons_of_mem _ hd))
    have kd := k d List.mem_cons_self
    cases d <;> first | exact kd | exact (rep_box r).elim
  | @bx d b o ds vs fp hb r t ih =>
    intro k
    have kd := k _ List.mem_cons_self
    cases d with
    | lst xs =>
      refine .bx hb ?_ (ih fun d hd => k d (List.mem_cons_of_mem _ hd))
      cases r with
      | lst r => exact .lst (r.cut m (by simpa [immB] using kd))
    | _ => simp [immB] at kd
theorem all_imm {C : Addr} {fs : List (Str × D)} (e : immF (.obj C fs) = true) (p : Str × D) (hp : p ∈ fs) : immB p.2 = true := List.all_eq_true.mp (show fs.all (fun p => immB p.2) = true from e) p hp
theorem Own.cut (m : ∀ b ∈ V0, ∃ o, G b = some o ∧ Mut o) {d : D} {a : Addr} {fp : List Addr} (h : Own K G H d a fp) (e : immF d = true) : Own K (cut G V0) H d a fp := by
  cases h with
  | flat h r =>
    rcases OR.cut m r e with r | ⟨C, dx, fv, fd, rfl, rfl, k, r⟩
    · exact .flat h r
    · refine .flat h (.obj k (r.cut m (immA_of e fun p hp => repA_nobox r p.2 (List.mem_map_of_mem hp))))
  | obj h k c => exact .obj h k (c.cut m fun d hd => by
      obtain ⟨p, hp, rfl⟩ := List.mem_map.mp hd
      exact all_imm e p hp)
/-- the boxes opened: a shared thing in the heap that holds them, too -/
theorem ChA.opn {G1 : Hp} (g : Same G G1) {ds : List D} {vs : List V} {fp : List Addr} (h : ChA K G H ds vs fp) : (∀ b ∈ fp, G1 b = H b) → RepA K G1 (ds.map DL.opn) vs := by
  induction h with
  | nil => exact fun _ => .nil
  | @sh d v ds vs fp r t ih =>
    intro k
    refine .cons ?_ (ih k)
    have : DL.opn d = d := by cases d <;> first | rfl | exact (rep_box r).elim
    rw [this]
    exact r.mono g
  | @bx d b o ds vs fp hb r t ih =>
    intro k
    refine .cons ((r.mono g).rep ?_) (ih fun c hc => k c (List.mem_cons_of_mem _ hc))
    rw [k b List.mem_cons_self]; exact hb
theorem opn_map : ∀ {fd : List (Str × D)}, (∀ d ∈ fd.map (·.2), isBox d = false) → fd.map (fun p => (p.1, opn p.2)) = fd
  | [], _ => rfl
  | (f, d) :: fd, k => by
    rw [List.map_cons, opn_map fun d hd => k d (List.mem_cons_of_mem _ hd)]
    have := k d List.mem_cons_self
    cases d <;> first | rfl | exact nomatch this
theorem Own.view {d : D} {a : Addr} {fp : List Addr} (h : Own K G H d a fp) (hk : vwOk d = true) (off : ∀ b ∈ fp, G b = none) : Rep K (join G H fp) (unb d) (.ref a) := by
  have g : Same G (join G H fp) := fun b u e => by
    rw [join_out fun z => ?_]
    · exact e
    · rw [off b z] at e; cases e
  cases h with
  | flat h r =>
    have : unb d = d := by
      cases r with
      | obj k r =>
        exact congrArg (D.obj _) (opn_map (repA_nobox r))
      | _ => rfl
    rw [this]
    exact (r.mono g).rep (by rw [join_in (List.mem_singleton.mpr rfl)]; exact h)
  | @obj _ _ _ _ _ fp h k c =>
    refine .obj (by rw [join_in List.mem_cons_self]; exact h) (by rw [k, List.map_map]; rfl) ?_
    have := c.opn (G1 := join G H (a :: fp)) g fun b hb => join_in (List.mem_cons_of_mem _ hb)
    rw [List.map_map] at this ⊢
    exact this
def vwB : D → Bool
  | .box d => isLs d
  | _ => true
theorem all_vw {C : Addr} {fs : List (Str × D)} (e : vwOk (.obj C fs) = true) (p : Str × D) (hp : p ∈ fs) : vwB p.2 = true := by
  have := List.all_eq_true.mp (show fs.all (fun p => match p.2 with | .box d => isLs d | _ => true) = true from e) p hp
  revert this
  cases p.2 <;> exact fun h => h
theorem ChA.mut {ds : List D} {vs : List V} {fp : List Addr} (c : ChA K G H ds vs fp) : (∀ d ∈ ds, vwB d = true) → ∀ b ∈ fp, ∃ o, H b = some o ∧ Mut o := by
  induction c with
  | nil => exact fun _ b h => by simp at h
  | sh r t ih => exact fun k => ih fun d hd => k d (List.mem_cons_of_mem _ hd)
  | @bx d b' o ds vs fp hb' r t ih =>
    intro k b hb
    rcases List.mem_cons.mp hb with rfl | hb
    · refine ⟨_, hb', ?_⟩
      have kd := k _ List.mem_cons_self
      cases r with
      | lst r => exact .inl ⟨_, rfl⟩
      | _ => exact nomatch kd
    · exact ih (fun d hd => k d (List.mem_cons_of_mem _ hd)) b hb
theorem Own.mut {d : D} {a : Addr} {fp : List Addr} (h : Own K G H d a fp) (hk : vwOk d = true) : ∀ b ∈ fp, ∃ o, H b = some o ∧ Mut o := by
  cases h with
  | flat h r =>
    intro b hb
    rw [List.mem_singleton] at hb
    subst hb
    refine ⟨_, h, ?_⟩
    cases r with
    | lst r => exact .inl ⟨_, rfl⟩
    | obj k r => exact .inr ⟨_, _, _, rfl⟩
    | _ => simp [vwOk] at hk
  | obj h k c =>
    intro b hb
    rcases List.mem_cons.mp hb with rfl | hb
    · exact ⟨_, h, .inr ⟨_, _, _, rfl⟩⟩
    · exact c.mut (fun d hd => by
        obtain ⟨p, hp, rfl⟩ := List.mem_map.mp hd
        exact all_vw hk p hp) b hb
end
section
variable {K : PySem.W.Frag} {G H G' H' : Hp} {mu : List Bool} {ds ms : List D} {vs : List V} {fp fp' : Nat → List Addr} {i : Nat} {d : D} {f : FD}
theorem lent_set (hi : mu[i]? = some false) {b : Addr} : lent (mu.set i true) fp b ↔ lent mu fp b ∨ b ∈ fp i := by
  have hl : i < mu.length := (List.getElem?_eq_some_iff.mp hi).1
  constructor
  · rintro ⟨j, h, hb⟩
    by_cases e : i = j
    · subst e; exact .inr hb
    · rw [List.getElem?_set_ne e] at h; exact .inl ⟨j, h, hb⟩
  · rintro (⟨j, h, hb⟩ | hb)
    · refine ⟨j, ?_, hb⟩
      rw [List.getElem?_set_ne fun e => ?_]
      · exact h
      · rw [← e, hi] at h; cases h
    · exact ⟨i, by rw [List.getElem?_set_self hl], hb⟩
theorem view_spec (hi : mu[i]? = some false) (Q : VK) (E : XK) (h : spD K (mu.set i true) (viewF i f) vs H Q E) : spD K mu f vs H Q E := by
  have hl : i < mu.length := (List.getElem?_eq_some_iff.mp hi).1
  obtain ⟨ds, G, fp, g, ng, tb, A, h⟩ := h
  unfold viewF at h
  cases hd : ds[i]? with
  | none => rw [hd] at h; exact h.elim
  | some d =>
  rw [hd] at h
  dsimp only at h
  by_cases hk : vwOk d = true
  case neg => rw [if_neg hk] at h; exact h.elim
  rw [if_pos hk] at h
  have hm : (mu.set i true)[i]? = some true := by rw [List.getElem?_set_self hl]
  obtain ⟨a, va, ow, nd, off⟩ := A.ow i d hm hd
  have mutV := ow.mut hk
  have gj : Same G (join G H (fp i)) := fun b u e => by
    rw [join_out fun z => ?_]
    · exact e
    · rw [off b z] at e; cases e
  have jh : Same (join G H (fp i)) H := fun b u e => by
    by_cases z : b ∈ fp i
    · rw [join_in z] at e; exact e
    · rw [join_out z] at e; exact g b u e
  have ngj : NoT (join G H (fp i)) := fun b ps e => by
    by_cases z : b ∈ fp i
    · rw [join_in z] at e
      obtain ⟨o, e', m⟩ := mutV b z
      rw [e] at e'
      cases e'
      rcases m with ⟨_, m⟩ | ⟨_, _, _, m⟩ <;> cases m
    · rw [join_out z] at e; exact ng b ps e
  have ne : ∀ {j : Nat}, mu[j]? = some true → i ≠ j := fun {j} hj e => by rw [← e, hi] at hj; cases hj
  have A' : Ags K (join G H (fp i)) H mu (ds.set i (unb d)) vs fp := by
    refine ⟨by rw [← A.lm, List.length_set], by rw [List.length_set]; exact A.ld, fun j e h1 h2 => ?_, fun j e h1 h2 => ?_, fun j k h1 h2 n => ?_⟩
    · by_cases c : i = j
      · subst c
        rw [List.getElem?_set_self (List.getElem?_eq_some_iff.mp hd).1] at h2
        cases h2
        exact ⟨_, va, ow.view hk off⟩
      · rw [List.getElem?_set_ne c] at h2
        obtain ⟨v, e1, e2⟩ := A.sh j e (by rw [List.getElem?_set_ne c]; exact h1) h2
        exact ⟨v, e1, e2.mono gj⟩
    · have c := ne h1
      rw [List.getElem?_set_ne c] at h2
      obtain ⟨b, e1, e2, e3, e4⟩ := A.ow j e (by rw [List.getElem?_set_ne c]; exact h1) h2
      refine ⟨b, e1, e2.mono gj fun _ _ => rfl, e3, fun x hx => ?_⟩
      rw [join_out fun z => A.sep i j hm (by rw [List.getElem?_set_ne c]; exact h1) c x z hx]
      exact e4 x hx
    · exact A.sep j k (by rw [List.getElem?_set_ne (ne h1)]; exact h1) (by rw [List.getElem?_set_ne (ne h2)]; exact h2) n
  refine ⟨ds.set i (unb d), join G H (fp i), fp, jh, ngj, tb, A', ?_⟩
  have back : ∀ {ms : List D} {G' H' : Hp} {fp' : Nat → List Addr}, ms.all immF = true → Bck K (join G H (fp i)) H G' H' mu ms vs fp fp' →
      (∀ b ∈ fp i, ∃ o, G' b = some o ∧ Mut o) ∧ Bck K G H (cut G' (fp i)) H' (mu.set i true) (ms.set i d) vs fp (fun j => if j = i then fp i else fp' j) := by
    intro ms G' H' fp' im B
    have inG : ∀ b ∈ fp i, ∃ o, H b = some o ∧ G' b = some o ∧ H' b = some o ∧ Mut o := fun b hb => by
      obtain ⟨o, e, m⟩ := mutV b hb
      have e1 : G' b = some o := B.gg b o (by rw [join_in hb]; exact e)
      exact ⟨o, e, e1, B.gh b o e1, m⟩
    have mg : ∀ b ∈ fp i, ∃ o, G' b = some o ∧ Mut o := fun b hb => let ⟨o, _, e, _, m⟩ := inG b hb; ⟨o, e, m⟩
    have offs : ∀ {j : Nat}, mu[j]? = some true → ∀ b ∈ fp' j, b ∉ fp i := fun {j} hj b hb z => by
      obtain ⟨_, _, _, _, _, _, q⟩ := B.ow j hj
      obtain ⟨o, _, e, _⟩ := inG b z
      rw [(q b hb).1] at e; cases e
    have gr : Same G (cut G' (fp i)) := fun b u e => by
      rw [cut_eq fun z => ?_]
      · exact B.gg b u (gj b u e)
      · rw [off b z] at e; cases e
    have nt : ∀ {b : Addr} {o : HO}, Mut o → Pl o := fun {b o} m => by rcases m with ⟨_, rfl⟩ | ⟨_, _, _, rfl⟩ <;> exact ⟨fun _ z => (nomatch z), fun _ z => (nomatch z)⟩
    refine ⟨mg, ?_⟩
    have mI : i < ms.length := by rw [B.lm]; exact hl
    refine ⟨by rw [List.length_set, List.length_set]; exact B.lm, fun j hj => ?_, fun j k hj hk' n => ?_, gr, fun b u e => B.gh b u (cut_get e).2, fun b u e => ?_, fun b u e nl pl => ?_, B.live, fun b ps e => B.ng b ps (cut_get e).2, B.tab⟩
    · by_cases c : i = j
      · subst c
        simp only [if_pos]
        refine ⟨d, a, by rw [List.getElem?_set_self mI], va, ow.mono gr fun b hb => ?_, nd, fun b hb => ⟨cut_in hb, .inl hb⟩⟩
        obtain ⟨o, e1, _, e2, _⟩ := inG b hb
        rw [e1, e2]
      · rw [List.getElem?_set_ne c] at hj
        obtain ⟨e, b, e1, e2, e3, e4, e5⟩ := B.ow j hj
        simp only [if_neg (Ne.symm c)]
        refine ⟨e, b, by rw [List.getElem?_set_ne c]; exact e1, e2, e3.cut mg (List.all_eq_true.mp im e (List.mem_of_getElem? e1)), e4, fun x hx => ⟨?_, (e5 x hx).2⟩⟩
        rw [cut_eq (offs hj x hx)]
        exact (e5 x hx).1
    · intro b hb
      by_cases cj : i = j
      · by_cases ck : i = k
        · exact absurd (cj.symm.trans ck) n
        · rw [List.getElem?_set_ne ck] at hk'
          simp only [if_pos cj.symm] at hb
          simp only [if_neg (Ne.symm ck)]
          exact fun z => offs hk' b z hb
      · rw [List.getElem?_set_ne cj] at hj
        simp only [if_neg (Ne.symm cj)] at hb
        by_cases ck : i = k
        · simp only [if_pos ck.symm]
          exact offs hj b hb
        · rw [List.getElem?_set_ne ck] at hk'
          simp only [if_neg (Ne.symm ck)]
          exact B.sep j k hj hk' n b hb
    · obtain ⟨z, e'⟩ := cut_get e
      rcases B.new b u e' with q | q
      · rw [join_out z] at q; exact .inl q
      · exact .inr q
    · exact B.keep b u e (fun z => nl ((lent_set hi).mpr (.inl z))) pl
  have offN : ∀ {ms : List D} {G' H' : Hp} {fp' : Nat → List Addr} {b : Addr}, (∀ b ∈ fp i, ∃ o, G' b = some o ∧ Mut o) → G' b = none → ¬ lent mu fp' b → cut G' (fp i) b = none ∧ ¬ lent (mu.set i true) (fun j => if j = i then fp i else fp' j) b := by
    intro ms G' H' fp' b mg e nl
    have z : b ∉ fp i := fun z => by
      obtain ⟨o, e', _⟩ := mg b z
      rw [e] at e'; cases e'
    refine ⟨by rw [cut_eq z]; exact e, fun ⟨j, hj, hb⟩ => ?_⟩
    by_cases c : i = j
    · simp only [if_pos c.symm] at hb; exact z hb
    · rw [List.getElem?_set_ne c] at hj
      simp only [if_neg (Ne.symm c)] at hb
      exact nl ⟨j, hj, hb⟩
  revert h
  cases f (ds.set i (unb d)) with
  | stuck => exact fun h => h
  | ok fr r ms =>
    cases fr with
    | false =>
      intro h
      dsimp only [vwEnd] at h
      by_cases im : immD r = true ∧ ms.all immF = true
      case neg => rw [if_neg im] at h; exact h.elim
      rw [if_pos im] at h
      intro v H' G' fp' B rr
      obtain ⟨mg, B'⟩ := back im.2 B
      exact h v H' _ _ B' (rr.cut mg im.1)
    | true =>
      intro h
      dsimp only [vwEnd] at h
      by_cases im : immF r = true ∧ ms.all immF = true
      case neg => rw [if_neg im] at h; exact h.elim
      rw [if_pos im] at h
      intro v H' G' fp' B ⟨b, fp0, ev, ob, nb, ob2⟩
      obtain ⟨mg, B'⟩ := back im.2 B
      refine h v H' _ _ B' ⟨b, fp0, ev, ob.cut mg im.1, nb, fun x hx => ?_⟩
      obtain ⟨q1, q2, q3⟩ := ob2 x hx
      obtain ⟨p1, p2⟩ := offN (ms := ms) (H' := H') mg q1 q3
      exact ⟨p1, q2, p2⟩
  | err x ms =>
    intro h
    dsimp only [vwEnd] at h
    by_cases im : immA (x.fs.map (·.2)) = true ∧ ms.all immF = true
    case neg => rw [if_neg im] at h; exact h.elim
    rw [if_pos im] at h
    intro b fv H' G' fp' B ⟨q1, q2, q3⟩ e1 e2 e3
    obtain ⟨mg, B'⟩ := back im.2 B
    obtain ⟨p1, p2⟩ := offN (ms := ms) (H' := H') mg q1 q3
    exact h b fv H' _ _ B' ⟨p1, q2, p2⟩ e1 e2 (e3.cut mg im.1)
theorem FnOk.view {P : Program} {w : World} {mg : Str → Option Value} {base : Heap} {cx : CXT} {k : Nat} {a : Addr} {fd : FuncData} {ps : List Str} (F : FnOk P w K mg base cx k a fd ps (spD K mu f)) (i : Nat) (hi : mu[i]? = some false := by rfl) :
    FnOk P w K mg base cx k a fd ps (spD K (mu.set i true) (viewF i f)) := F.imp fun vs H Q E h => view_spec hi Q E h
end
end DL
namespace DL
variable [TB] [LC]
open PySem PySem.Spec PyProof.Rows L2 LamX
/-! ### boxes: an attribute that holds a list of the object's own -/
section
variable {K : PySem.W.Frag} {G H : Hp} {f : Str} {d : D}
theorem chA_box : ∀ {fv : List (Str × V)} {fd : List (Str × D)} {fp : List Addr}, fv.map (·.1) = fd.map (·.1) → ChA K G H (fd.map (·.2)) (fv.map (·.2)) fp → fd.lookup f = some (.box d) →
    ∃ b o, fv.lookup f = some (.ref b) ∧ H b = some o ∧ OR K G o d ∧ b ∈ fp ∧ ∀ o' d', fp.Nodup → OR K G o' d' → fv.map (·.1) = (putD f (.box d') fd).map (·.1) ∧ ChA K G (upd H b o') ((putD f (.box d') fd).map (·.2)) (fv.map (·.2)) fp
  | [], [], _, _, _, e => by cases e
  | (g, x) :: l, [], _, h, _, _ => by cases h
  | [], (g, x) :: l, _, h, _, _ => by cases h
  | (g, x) :: l, (g', y) :: m, fp, h, r, e => by
    simp only [List.map_cons, List.cons.injEq] at h
    obtain ⟨h1, h2⟩ := h
    subst h1
    simp only [List.map_cons] at r
    by_cases c : g = f
    · subst c
      simp only [List.lookup, beq_self_eq_true] at e
      cases e
      cases r with
      | sh r t => exact (rep_box r).elim
      | @bx d b o ds vs fp hb r t =>
        refine ⟨b, o, by simp [List.lookup], hb, r, List.mem_cons_self, fun o' d' nd r' => ?_⟩
        unfold putD
        rw [if_pos rfl]
        refine ⟨by simp [h2], .bx upd_same r' (t.upd (List.nodup_cons.mp nd).1)⟩
    · have ne : (f == g) = false := by simpa using fun z => c z.symm
      simp only [List.lookup, ne] at e ⊢
      cases r with
      | sh r t =>
        obtain ⟨b, o, e1, e2, e3, e4, e5⟩ := chA_box h2 t e
        refine ⟨b, o, e1, e2, e3, e4, fun o' d' nd r' => ?_⟩
        obtain ⟨q1, q2⟩ := e5 o' d' nd r'
        unfold putD
        rw [if_neg c]
        exact ⟨by simp [q1], .sh r q2⟩
      | @bx d2 b2 o2 ds vs fp hb r t =>
        obtain ⟨b, o, e1, e2, e3, e4, e5⟩ := chA_box h2 t e
        refine ⟨b, o, e1, e2, e3, List.mem_cons_of_mem _ e4, fun o' d' nd r' => ?_⟩
        obtain ⟨n1, n2⟩ := List.nodup_cons.mp nd
        obtain ⟨q1, q2⟩ := e5 o' d' n2 r'
        unfold putD
        rw [if_neg c]
        refine ⟨by simp [q1], .bx ?_ r q2⟩
        rw [upd_ne fun (z : b2 = b) => n1 (z ▸ e4)]
        exact hb
theorem own_box {C a : Addr} {fs : List (Str × D)} {fp : List Addr} (h : Own K G H (.obj C fs) a fp) (e : fs.lookup f = some (.box d)) :
    ∃ b o dx fv, H a = some (.ins C dx fv) ∧ fv.lookup f = some (.ref b) ∧ H b = some o ∧ OR K G o d ∧ b ∈ fp ∧ ∀ o' d', fp.Nodup → OR K G o' d' → Own K G (upd H b o') (.obj C (putD f (.box d') fs)) a fp := by
  cases h with
  | flat h r =>
    cases r with
    | obj k r =>
      obtain ⟨u, _, ru⟩ := look_rep k r e
      exact (rep_box ru).elim
  | @obj _ _ dx fv _ fp h k c =>
    obtain ⟨b, o, e1, e2, e3, e4, e5⟩ := chA_box k c e
    refine ⟨b, o, dx, fv, h, e1, e2, e3, List.mem_cons_of_mem _ e4, fun o' d' nd r' => ?_⟩
    obtain ⟨n1, n2⟩ := List.nodup_cons.mp nd
    obtain ⟨q1, q2⟩ := e5 o' d' n2 r'
    refine .obj (dx := dx) ?_ q1 q2
    rw [upd_ne fun (z : a = b) => n1 (z ▸ e4)]
    exact h
/-- a field takes a new box -/
theorem putF_chB {b : Addr} {o : HO} (hb : H b = some o) (r : OR K G o d) : ∀ {fv : List (Str × V)} {fd : List (Str × D)} {fp : List Addr}, fv.map (·.1) = fd.map (·.1) → ChA K G H (fd.map (·.2)) (fv.map (·.2)) fp →
    (putF f (.ref b) fv).map (·.1) = (putD f (.box d) fd).map (·.1) ∧ ∃ fp', ChA K G H ((putD f (.box d) fd).map (·.2)) ((putF f (.ref b) fv).map (·.2)) fp' ∧ (∀ c ∈ fp', c ∈ fp ∨ c = b) ∧ (fp.Nodup → b ∉ fp → fp'.Nodup)
  | [], [], fp, _, t => by
    cases t
    exact ⟨rfl, [b], .bx hb r .nil, fun c hc => .inr (List.mem_singleton.mp hc), fun _ _ => by simp⟩
  | (g, x) :: l, [], _, h, _ => by cases h
  | [], (g, x) :: l, _, h, _ => by cases h
  | (g, x) :: l, (g', y) :: m, fp, h, t => by
    simp only [List.map_cons, List.cons.injEq] at h
    obtain ⟨h1, h2⟩ := h
    subst h1
    simp only [List.map_cons] at t
    unfold putF putD
    by_cases c : g = f
    · rw [if_pos c, if_pos c]
      subst c
      refine ⟨by simp [h2], ?_⟩
      cases t with
      | sh t1 t2 => exact ⟨b :: fp, .bx hb r t2, fun c hc => (List.mem_cons.mp hc).elim .inr .inl, fun nd n => List.nodup_cons.mpr ⟨n, nd⟩⟩
      | @bx _ b2 _ _ _ fp hb2 t1 t2 =>
        refine ⟨b :: fp, .bx hb r t2, fun c hc => (List.mem_cons.mp hc).elim .inr fun z => .inl (List.mem_cons_of_mem _ z), fun nd n => List.nodup_cons.mpr ⟨fun z => n (List.mem_cons_of_mem _ z), (List.nodup_cons.mp nd).2⟩⟩
    · rw [if_neg c, if_neg c]
      cases t with
      | sh t1 t2 =>
        obtain ⟨a, fp', p1, p2, p3⟩ := putF_chB hb r h2 t2
        exact ⟨by simp [a], fp', .sh t1 p1, p2, p3⟩
      | @bx _ b2 _ _ _ fp hb2 t1 t2 =>
        obtain ⟨a, fp', p1, p2, p3⟩ := putF_chB hb r h2 t2
        refine ⟨by simp [a], b2 :: fp', .bx hb2 t1 p1, fun c hc => ?_, fun nd n => ?_⟩
        · rcases List.mem_cons.mp hc with rfl | hc
          · exact .inl List.mem_cons_self
          · exact (p2 c hc).imp (List.mem_cons_of_mem _) id
        · obtain ⟨n1, n2⟩ := List.nodup_cons.mp nd
          refine List.nodup_cons.mpr ⟨fun z => ?_, p3 n2 fun z => n (List.mem_cons_of_mem _ z)⟩
          rcases p2 _ z with z | z
          · exact n1 z
          · exact n (z ▸ List.mem_cons_self)
theorem own_putB {C a b dx : Addr} {o : HO} {fs : List (Str × D)} {fv : List (Str × V)} {fp : List Addr} (h : Own K G H (.obj C fs) a fp) (ha : H a = some (.ins C dx fv)) (hb : H b = some o) (r : OR K G o d) (nd : fp.Nodup) (n : b ∉ fp) :
    ∃ fp', Own K G (upd H a (.ins C dx (putF f (.ref b) fv))) (.obj C (putD f (.box d) fs)) a fp' ∧ (∀ c ∈ fp', c ∈ fp ∨ c = b) ∧ fp'.Nodup := by
  have main : ∀ {fp0 : List Addr}, fv.map (·.1) = fs.map (·.1) → ChA K G H (fs.map (·.2)) (fv.map (·.2)) fp0 → (a :: fp0).Nodup → b ∉ a :: fp0 →
      ∃ fp', Own K G (upd H a (.ins C dx (putF f (.ref b) fv))) (.obj C (putD f (.box d) fs)) a fp' ∧ (∀ c ∈ fp', c ∈ a :: fp0 ∨ c = b) ∧ fp'.Nodup := by
    intro fp0 k c nd n
    obtain ⟨n1, n2⟩ := List.nodup_cons.mp nd
    obtain ⟨p0, fp', p1, p2, p3⟩ := putF_chB (f := f) hb r k c
    have ap : a ∉ fp' := fun z => by
      rcases p2 a z with z | z
      · exact n1 z
      · exact n (z ▸ List.mem_cons_self)
    refine ⟨a :: fp', .obj upd_same p0 (p1.upd ap), fun c hc => ?_, List.nodup_cons.mpr ⟨ap, p3 n2 fun z => n (List.mem_cons_of_mem _ z)⟩⟩
    rcases List.mem_cons.mp hc with rfl | hc
    · exact .inl List.mem_cons_self
    · exact (p2 c hc).imp (List.mem_cons_of_mem _) id
  cases h with
  | flat h r' =>
    cases r' with
    | @obj _ _ fv' _ k r' =>
      rw [h] at ha
      cases ha
      have ch : ∀ {ds : List D} {vs : List V}, RepA K G ds vs → ChA K G H ds vs [] := fun {ds vs} z => by
        induction ds generalizing vs with
        | nil => cases z; exact .nil
        | cons d ds ih => cases z with | cons z1 z2 => exact .sh z1 (ih z2)
      exact main k (ch r') nd n
  | obj h k c =>
    rw [h] at ha
    cases ha
    exact main k c nd n
end
/-- slot i's thing has become d', some of its addresses new -/
theorem Sync.writeN {K : PySem.W.Frag} {F : Fr} {G H : Hp} {fpf : Nat → List Addr} {σ : L2.St} {st : DSt} (S : Sync K F G fpf σ H st) {i : Nat} {m : Bool} {d d' : D} {H' : Hp} {fp' : List Addr} (e : st[i]? = some (some (Slot.ow m d)))
    (ow' : ∀ a, σ[i]? = some (some (.ref a)) → Own K G H' d' a fp') (nd' : fp'.Nodup) (k : ∀ b, b ∉ fpf i → H' b = H b) (kl : ∀ b ∈ fpf i, ∃ o, H' b = some o ∧ Pl o)
    (sub : ∀ b ∈ fp', b ∈ fpf i ∨ (G b = none ∧ (F.He b = none ∧ F.pr b = none) ∧ ∀ (j : Nat), isOw st j → b ∉ fpf j)) : Sync K F G (fun j => if j = i then fp' else fpf j) σ H' (st.set i (some (Slot.ow m d'))) := by
  obtain ⟨a, e1, ow, nd, off, mm⟩ := S.ow i m d e
  have il : i < st.length := (List.getElem?_eq_some_iff.mp e).1
  have keepO : ∀ b o, H b = some o → b ∉ fpf i → H' b = some o := fun b o q n => by rw [k b n]; exact q
  have o1 : ∀ {x}, isOw (st.set i (some (Slot.ow m d'))) x → isOw st x := fun {x} hx => by
    rcases ow_set hx with ⟨rfl, _⟩ | ⟨_, hx⟩
    · exact ⟨_, _, e⟩
    · exact hx
  refine ⟨by simp [S.len], fun j e' h => ?_, fun j m' e' h => ?_, fun j l hj hk n => ?_, S.g0, fun b u q => ?_, S.new, fun b o q => ?_, fun b o q => ?_, S.hidG, S.hidP, S.ng, S.np, tabs_but S.tab fun b o q np => keepO b o q fun hb => ?_, S.gv⟩
  · rcases get_set h with ⟨rfl, b, l⟩ | ⟨z, b⟩
    · cases b
    · exact S.sh j e' b
  · rcases get_set h with ⟨rfl, b, l⟩ | ⟨z, b⟩
    · cases b
      simp only [if_pos]
      refine ⟨a, e1, ow' a e1, nd', fun b hb => ?_, mm⟩
      rcases sub b hb with z | ⟨z1, z2, _⟩
      · exact off b z
      · exact ⟨z1, .inl z2.1, z2.2⟩
    · simp only [if_neg z]
      obtain ⟨u, h1, h2, h3⟩ := S.ow j m' e' b
      exact ⟨u, h1, h2.mono (Same.refl G) fun c hc => k c (S.sep j i ⟨_, _, b⟩ ⟨_, _, e⟩ z c hc), h3⟩
  · intro b hb hb'
    by_cases c : j = i
    · have c2 : l ≠ i := fun z => n (c.trans z.symm)
      simp only [if_pos c] at hb
      simp only [if_neg c2] at hb'
      rcases sub b hb with z | ⟨_, _, z⟩
      · exact S.sep i l ⟨_, _, e⟩ (o1 hk) (Ne.symm c2) b z hb'
      · exact z l (o1 hk) hb'
    · simp only [if_neg c] at hb
      by_cases c2 : l = i
      · simp only [if_pos c2] at hb'
        rcases sub b hb' with z | ⟨_, _, z⟩
        · exact S.sep j i (o1 hj) ⟨_, _, e⟩ c b hb z
        · exact z j (o1 hj) hb
      · simp only [if_neg c2] at hb'
        exact S.sep j l (o1 hj) (o1 hk) n b hb hb'
  · refine keepO b u (S.gh b u q) fun hb => ?_
    rw [(off b hb).1] at q; cases q
  · refine keepO b o (S.pr b o q) fun hb => ?_
    rw [(off b hb).2.2] at q; cases q
  · by_cases hb : b ∈ fpf i
    · exact kl b hb
    · obtain ⟨o', q', nt⟩ := S.live b o q
      exact ⟨o', keepO b o' q' hb, nt⟩
  · obtain ⟨o', e', p'⟩ := ow.pl b hb
    rw [q] at e'
    cases e'
    exact np p'
/-! ### an attribute that is a box, to be read -/
def attP (C : Addr) (f : Str) : D → Option D
  | .obj C' fs => if C' = C then (match fs.lookup f with
    | some d => some (opn d)
    | none => none) else none
  | _ => none
theorem Rp.objP {K : PySem.W.Frag} {G H : Hp} {v : V} {C : Addr} {fd : List (Str × D)} (g : Same G H) (h : Rp K G H (.obj C fd) v) : ∃ a dx fv, v = .ref a ∧ H a = some (.ins C dx fv) ∧ ∀ f d, fd.lookup f = some d → ∃ u, fv.lookup f = some u ∧ Rp K G H (opn d) u := by
  obtain ⟨a, dx, fv, rfl, ha, hk, l⟩ := h.obj g
  refine ⟨a, dx, fv, rfl, ha, fun f d e => ?_⟩
  by_cases c : isBox d = true
  · cases d with
    | box d =>
      cases h with
      | rep h =>
        cases h with
        | obj h k r =>
          obtain ⟨u, _, ru⟩ := look_rep k r e
          exact (rep_box ru).elim
      | own h =>
        obtain ⟨b, o, dx', fv', h1, h2, h3, h4, _⟩ := own_box h e
        rw [ha] at h1
        cases h1
        exact ⟨.ref b, h2, .own (.flat h3 h4)⟩
    | _ => cases c
  · have c' : isBox d = false := by simpa using c
    obtain ⟨u, e1, e2⟩ := l f d e c'
    refine ⟨u, e1, ?_⟩
    have : opn d = d := by cases d <;> first | rfl | cases c'
    rw [this]
    exact .rep e2
section
variable {X : Cx} {F : Fr} {W : WX} {q q1 q2 : Bool} {C : Addr} {f : Str} {e o : Expr} {es : List Expr} {pos pos' p cpos apos : Pos} {m : M D} {name id : String}
theorem dp_fld (c : Cls X.K C) (n : NoAttr X.K C f) (he : PE X e (tM X.K F W q (RPk X.K) m)) (hb : attributeBase e f X.env (eval e X.env) = eval e X.env := by rfl) : PE X (.Attribute e f pos) (tM X.K F W q (RPk X.K) (unM (attP C f) m)) :=
  PE_mono (pe_fld he hb) fun σ H Q h => bind_of (q2 := true) (R1 := RPk X.K) (fun y => ⟨y, rfl⟩) h fun d st1 G1 fpf1 v H1 S1 r1 A1 => by
    unfold lift at A1
    cases w : attP C f d with
    | none => rw [w] at A1; exact A1.elim
    | some z =>
      rw [w] at A1
      unfold attP at w
      split at w
      · rename_i C' fs
        by_cases hC : C' = C
        · subst hC
          rw [if_pos rfl] at w
          split at w
          · rename_i d hd
            cases w
            obtain ⟨a, dx, fv, rfl, ha, l⟩ := Rp.objP S1.gh r1
            obtain ⟨u, hu, ru⟩ := l f d hd
            exact ⟨a, C', dx, fv, u, rfl, ha, c, n, hu, A1.done S1 ru⟩
          · cases w
        · rw [if_neg hC] at w; cases w
      · cases w
end
/-! ### a call that changes the list in a box -/
def bxM (P : D → Bool) (i : Nat) (C : Addr) (f : Str) : M Unit := fun st => match st[i]? with
  | some (some (Slot.ow _ (.obj C' fs))) => if C' = C then (match fs.lookup f with
    | some (.box d) => if P d = true then .ok () st else .stuck
    | _ => .stuck) else .stuck
  | _ => .stuck
def bxEnd (i : Nat) (C : Addr) (f : Str) (g : D → List D → Option (D × D)) (args : List D) : M D := fun st => match st[i]? with
  | some (some (Slot.ow mu (.obj C' fs))) => if C' = C then (match fs.lookup f with
    | some (.box d) => (match g d args with
      | some (z, d') => .ok z (st.set i (some (Slot.ow mu (.obj C (putD f (.box d') fs)))))
      | none => .stuck)
    | _ => .stuck) else .stuck
  | _ => .stuck
def wrB (P : D → Bool) (i : Nat) (C : Addr) (f : Str) (g : D → List D → Option (D × D)) (ms : List (M D)) : M D := bnd (bxM P i C f) fun _ => bnd (argsM ms) fun args => bxEnd i C f g args
/-- .. the argument a tuple -/
def wrBT (P : D → Bool) (i : Nat) (C : Addr) (f : Str) (g : D → List D → Option (D × D)) (ms : List (M D)) : M D := bnd (bxM P i C f) fun _ => bnd (argsM ms) fun args => if args.length ≤ 1000 then bxEnd i C f g [.tup args] else stuckM
section
variable {K : PySem.W.Frag} {F : Fr} {W : WX} {q : Bool} {C : Addr} {f : Str} {P : D → Bool} {r : V → List V → Hp → VK → Prop} {g : D → List D → Option (D × D)} {ms : List (M D)} {T : String}
theorem bx_of {α ρ : Type} {R : Rl α ρ} {i : Nat} {m : M α} {st : DSt} {G H : Hp} {fpf : Nat → List Addr} {σ : L2.St} {Q : ρ → Hp → Prop} (S : Sync K F G fpf σ H st) (A : At K F W q R (bnd (bxM P i C f) (fun _ => m) st) st G fpf σ H Q) :
    (∃ a b dx fv o mu d fs, σ[i]? = some (some (.ref a)) ∧ H a = some (.ins C dx fv) ∧ fv.lookup f = some (.ref b) ∧ H b = some o ∧ OR K G o d ∧ P d = true ∧ st[i]? = some (some (Slot.ow mu (.obj C fs))) ∧ fs.lookup f = some (.box d)) ∧ At K F W q R (m st) st G fpf σ H Q := by
  unfold bnd bxM at A
  split at A
  · rename_i x st' w
    split at w
    · rename_i mu C' fs h
      by_cases hC : C' = C
      · subst hC
        rw [if_pos rfl] at w
        split at w
        · rename_i d hd
          by_cases c : P d = true
          · rw [if_pos c] at w
            cases w
            obtain ⟨a, e1, ow, _⟩ := S.ow i mu _ h
            obtain ⟨b, o, dx, fv, h1, h2, h3, h4, _⟩ := own_box ow hd
            exact ⟨⟨a, b, dx, fv, o, mu, d, fs, e1, h1, h2, h3, h4, c, h, hd⟩, A⟩
          · rw [if_neg c] at w; cases w
        · cases w
      · rw [if_neg hC] at w; cases w
    · cases w
  · rename_i x st' w
    split at w
    · split at w
      · split at w
        · split at w <;> cases w
        · cases w
      · cases w
    · cases w
  · exact A.elim
end
section
variable {X : Cx} {F : Fr} {W : WX} {q q1 q2 : Bool} {C : Addr} {f x : Str} {e o : Expr} {es : List Expr} {pos pos' p cpos apos : Pos} {m : M D} {name : Str} {id : String} {r : V → List V → Hp → VK → Prop} {g : D → List D → Option (D × D)} {ms : List (M D)}
theorem bx_end {K : PySem.W.Frag} {i : Nat} {σ : L2.St} {H : Hp} {G : Hp} {fpf : Nat → List Addr} {st : DSt} {Q : VK} {ds : List D} {vs : List V} {a b dx : Addr} {fv : List (Str × V)} (hw : WrS K r g) (S : Sync K F G fpf σ H st) (e1 : σ[i]? = some (some (.ref a))) (h1 : H a = some (.ins C dx fv)) (h2 : fv.lookup f = some (.ref b))
    (ra : RepA K G ds vs) (A1 : At K F W false (RSh K) (bxEnd i C f g ds st) st G fpf σ H Q) : r (.ref b) vs H Q := by
  unfold bxEnd at A1
  split at A1
  · rename_i mu C' fs h6
    by_cases hC : C' = C
    · subst hC
      rw [if_pos rfl] at A1
      split at A1
      · rename_i d h7
        split at A1
        · rename_i z d' w
          obtain ⟨a', ea, ow, nd, off, mm⟩ := S.ow i mu _ h6
          rw [e1] at ea
          cases ea
          obtain ⟨b', o2, dx2, fv2, k1, k2, k3, k4, k5, k6⟩ := own_box ow h7
          rw [h1] at k1
          cases k1
          rw [h2] at k2
          cases k2
          refine hw S.gh k3 k4 ra w fun v o' rv ro' => ?_
          refine A1 v _ G fpf nq (Same.refl G) (S.write h6 (fun a2 e2 => ?_) fun b2 hb2 => upd_ne fun z => hb2 (z ▸ k5)) rv
          rw [e1] at e2
          cases e2
          exact k6 o' d' nd ro'
        · exact A1.elim
      · exact A1.elim
    · rw [if_neg hC] at A1; exact A1.elim
  · exact A1.elim
/-- self.f.m(e, ..), the arguments quiet -/
theorem de_wrB (i : Nat) (c : Cls X.K C) (n : NoAttr X.K C f) (slot : PySem.Slot "list" name id) (hty : typeOf (.builtin id) = pure (.type "method_descriptor")) (hm : MtR X id r) (hw : WrS X.K r g) (ha : PA X (e :: es) (tM X.K F W true (RLs X.K) (argsM ms))) (hN : X.N[i]? = some x := by rfl) (hv : Vis X.env.scope x := by first | exact Or.inl rfl | exact Or.inr (Or.inl rfl) | exact Or.inr (Or.inr rfl)) (hd : (x == ("__debug__" : Str)) = false := by decide) (hcd : (x == ("__classdict__" : Str)) = false := by decide)
    (hb1 : attributeBase (.Name x p) f X.env (eval (.Name x p) X.env) = eval (.Name x p) X.env := by rfl)
    (hbase : attributeBase (.Attribute (.Name x p) f pos') name X.env (eval (.Attribute (.Name x p) f pos') X.env) = eval (.Attribute (.Name x p) f pos') X.env := by rfl)
    (hfew : ((backTo cpos (starEach (e :: es) X.env)).all (fun x => !x.1) && (backToKw cpos (keywordEach [] X.env)).all (fun x => x.1.isSome) && decide ((e :: es).length + ([] : List Keyword).length + (if ([] : List Keyword).isEmpty then 0 else 1) < 30)) = true := by rfl)
    (hline : (apos.endLine == cpos.line) = true := by rfl) (hs : starEach (e :: es) X.env = (false, eval e X.env) :: starEach es X.env := by rfl) (hplain : (backTo cpos (starEach es X.env)).any (·.1) = false := by rfl) :
    PE X (.Call (.Attribute (.Attribute (.Name x p) f pos') name apos) (e :: es) [] cpos) (tM X.K F W false (RSh X.K) (wrB isLst i C f g ms)) :=
  PE_mono (pe_bm PySem.F.plainAttrs_list slot hty hm (pe_fld (pv i hN hv hd hcd) hb1) ha hbase hfew hline hs hplain) fun σ H Q ⟨st, G, fpf, S, A⟩ => by
    obtain ⟨⟨a, b, dx, fv, o, mu, d, fs, e1, h1, h2, h3, h4, h5, h6, h7⟩, A1⟩ := bx_of S A
    refine ⟨.ref a, e1, a, C, dx, fv, .ref b, rfl, h1, c, n, h2, lst_ty G H b o d h3 h4 h5, st, G, fpf, S, A1.bndK (q1 := true) (q2 := false) (R1 := RLs X.K) nq fun ds st1 G1 fpf1 vs H1 g1 S1 z1 e2 r1 A2 => ?_⟩
    obtain ⟨rfl, rfl, rfl⟩ := z1 rfl
    exact bx_end hw S1 e1 h1 h2 r1 A2
/-- self.f.m((e, ..)) -/
theorem de_wrBT (i : Nat) {k : Nat} {pt : Pos} (c : Cls X.K C) (n : NoAttr X.K C f) (slot : PySem.Slot "list" name id) (hty : typeOf (.builtin id) = pure (.type "method_descriptor")) (hm : MtR X id r) (hw : WrS X.K r g) (ha : PA X es (tM X.K F W true (RLs X.K) (argsM ms))) (hN : X.N[i]? = some x := by rfl) (hv : Vis X.env.scope x := by first | exact Or.inl rfl | exact Or.inr (Or.inl rfl) | exact Or.inr (Or.inr rfl)) (hd : (x == ("__debug__" : Str)) = false := by decide) (hcd : (x == ("__classdict__" : Str)) = false := by decide)
    (hb1 : attributeBase (.Name x p) f X.env (eval (.Name x p) X.env) = eval (.Name x p) X.env := by rfl)
    (hbase : attributeBase (.Attribute (.Name x p) f pos') name X.env (eval (.Attribute (.Name x p) f pos') X.env) = eval (.Attribute (.Name x p) f pos') X.env := by rfl)
    (hfew : ((backTo cpos (starEach [.Tuple es k pt] X.env)).all (fun x => !x.1) && (backToKw cpos (keywordEach [] X.env)).all (fun x => x.1.isSome) && decide (([.Tuple es k pt] : List Expr).length + ([] : List Keyword).length + (if ([] : List Keyword).isEmpty then 0 else 1) < 30)) = true := by rfl)
    (hline : (apos.endLine == cpos.line) = true := by rfl) (hs : starEach [.Tuple es k pt] X.env = (false, eval (.Tuple es k pt) X.env) :: starEach [] X.env := by rfl) (hplain : (backTo cpos (starEach [] X.env)).any (·.1) = false := by rfl) :
    PE X (.Call (.Attribute (.Attribute (.Name x p) f pos') name apos) [.Tuple es k pt] [] cpos) (tM X.K F W false (RSh X.K) (wrBT isLst i C f g ms)) :=
  PE_mono (pe_bm PySem.F.plainAttrs_list slot hty hm (pe_fld (pv i hN hv hd hcd) hb1) (pa_cons (pe_tup ha) pa_nil hs) hbase hfew hline hs hplain) fun σ H Q ⟨st, G, fpf, S, A⟩ => by
    obtain ⟨⟨a, b, dx, fv, o, mu, d, fs, e1, h1, h2, h3, h4, h5, h6, h7⟩, A1⟩ := bx_of S A
    refine ⟨.ref a, e1, a, C, dx, fv, .ref b, rfl, h1, c, n, h2, lst_ty G H b o d h3 h4 h5, st, G, fpf, S, A1.bndK (q1 := true) (q2 := false) (R1 := RLs X.K) nq fun ds st1 G1 fpf1 vs H1 g1 S1 z1 e2 r1 A2 => ?_⟩
    obtain ⟨rfl, rfl, rfl⟩ := z1 rfl
    by_cases cl : ds.length ≤ 1000
    · rw [if_pos cl] at A2
      refine ⟨by rw [← r1.length]; exact leLine (by omega), fun q hq => ?_⟩
      have gg : Same G1 (upd G1 q (.tup vs)) := same_upd S1.gh hq
      have S2 := S1.alloc (o := .tup vs) hq fun _ z => nomatch z
      refine bx_end (F := F) (W := W) hw S2 e1 (by rw [upd_ne (ne_of_none h1 hq)]; exact h1) h2 (.cons (.tup (.inl (.inl upd_same)) (r1.mono gg)) .nil) ?_
      revert A2
      cases bxEnd i C f g [.tup ds] st1 with
      | ok d st' => exact fun A v H' G' fpf' _ g' S' r' => A v H' G' fpf' nq (gg.trans g') S' r'
      | err x st' => exact fun A a fv H' G' fpf' g' => A a fv H' G' fpf' (gg.trans g')
      | stuck => exact fun A => A
    · rw [if_neg cl] at A2; exact A2.elim
end
end DL
namespace DL
open PySem PySem.Spec PySem.W PyProof.Rows L2 LamX
variable [TB] [LC]
/-! ### an attribute takes a new list: a box -/
def putB (C : Addr) (f : Str) (i : Nat) (m : M D) : MS := doM m fun d st => match st[i]? with
  | some (some (Slot.ow mu (.obj C' fs))) => if C' = C ∧ fs.length < 1000 ∧ flatD d = true then .nx (st.set i (some (Slot.ow mu (.obj C (putD f (.box d) fs))))) else .stuck
  | _ => .stuck
section
variable {X : Cx} {F : Fr} {W : WX} {q : Bool} {C : Addr} {f : Str} {e o : Expr} {pos pos' p : Pos} {m : M D}
theorem ds_putB (i : Nat) {x : Str} (c : Cls X.K C) (n : NoAttr X.K C f) (he : PE X e (tM X.K F W q (RFr X.K F) m)) (hN : X.N[i]? = some x := by rfl) (hv : Vis X.env.scope x := by first | exact Or.inl rfl | exact Or.inr (Or.inl rfl) | exact Or.inr (Or.inr rfl)) (hd : (x == ("__debug__" : Str)) = false := by decide) (hcd : (x == ("__classdict__" : Str)) = false := by decide)
    (hs : swapsWith e (some (.Attribute (.Name x p) f pos')) pos.line X.env = pure false := by rfl) : PS X (.Assign [.Attribute (.Name x p) f pos'] e pos) (tS X.K F W (putB C f i m)) :=
  PS_mono (ps_fld (pv i hN hv hd hcd) he hs) fun D σ H h => do_of (R := RFr X.K F) h fun d st1 G1 fpf1 v H1 S1 r1 A1 => by
    split at A1
    · rename_i mu C' fs es
      by_cases k : C' = C ∧ fs.length < 1000 ∧ flatD d = true
      · rw [if_pos k] at A1
        obtain ⟨rfl, k2, k3⟩ := k
        obtain ⟨b, fp0, rfl, ob, nb, offb⟩ := r1.ex
        obtain ⟨ho, hho, orr, rfl⟩ := ob.isFlat k3
        obtain ⟨a, ea, ow, nd, off, mm⟩ := S1.ow i mu _ es
        obtain ⟨a', dx, fv, ev, ha, kk, _⟩ := Rp.obj S1.gh (.own ow)
        cases ev
        have lk : fv.length < 1000 := by
          have := congrArg List.length kk
          rw [List.length_map, List.length_map] at this
          omega
        have nbi : b ∉ fpf1 i := (offb b List.mem_cons_self).2.2 i ⟨_, _, es⟩
        obtain ⟨fp', o1, o2, o3⟩ := own_putB (f := f) ow ha hho orr nd nbi
        refine ⟨.ref a, ea, a, C', dx, fv, rfl, ha, c, n, lk, A1 σ _ G1 _ (Same.refl G1) (S1.writeN es (fun a2 e2 => ?_) o3 (fun c2 hc => upd_ne fun z => hc (by rw [z]; exact ow.mem)) (fun c2 hc => ?_) fun c2 hc => ?_)⟩
        · rw [ea] at e2
          cases e2
          exact o1
        · by_cases z : c2 = a
          · exact ⟨.ins C' dx (putF f (.ref b) fv), by rw [z]; exact upd_same, fun _ z => (nomatch z), fun _ z => (nomatch z)⟩
          · rw [upd_ne z]; exact ow.pl c2 hc
        · rcases o2 c2 hc with z | rfl
          · exact .inl z
          · exact .inr (offb c2 List.mem_cons_self)
      · rw [if_neg k] at A1; exact A1.elim
    · exact A1.elim
/-- a name that is shared, quiet -/
def varQ (i : Nat) : M D := fun st => match st[i]? with
  | some (some (Slot.sh d)) => .ok d st
  | _ => .stuck
theorem de_varQ (i : Nat) {x : Str} (hN : X.N[i]? = some x := by rfl) (hv : Vis X.env.scope x := by first | exact Or.inl rfl | exact Or.inr (Or.inl rfl) | exact Or.inr (Or.inr rfl)) (hd : (x == ("__debug__" : Str)) = false := by decide) (hcd : (x == ("__classdict__" : Str)) = false := by decide) :
    PE X (.Name x pos) (tM X.K F W q (RSh X.K) (varQ i)) := PE_mono (pv i hN hv hd hcd) fun σ H Q ⟨st, G, fpf, S, A⟩ => by
  unfold varQ at A
  split at A
  · rename_i d e
    obtain ⟨v, e1, r⟩ := S.sh i d e
    exact ⟨v, e1, A.done S r⟩
  · exact A.elim
/-! ### a new object with boxes becomes shared -/
def shareB (m : M D) : M D := bnd m fun d => if vwOk d = true then ret (unb d) else stuckM
theorem Sync.shareV {K : PySem.W.Frag} {F : Fr} {G H : Hp} {fpf : Nat → List Addr} {σ : L2.St} {st : DSt} (S : Sync K F G fpf σ H st) {d : D} {v : V} (f : Fresh K F G fpf st H d v) (fl : vwOk d = true) : ∃ G', Same G G' ∧ Sync K F G' fpf σ H st ∧ Rep K G' (unb d) v := by
  obtain ⟨a, fp, rfl, ow, nd, off⟩ := f.ex
  have gg : Same G (join G H fp) := fun b u e => by
    rw [join_out fun z => ?_]
    · exact e
    · rw [(off b z).1] at e; cases e
  have mt := ow.mut fl
  refine ⟨join G H fp, gg, S.grow gg (fun b u q => ?_) (fun b u q => ?_) (fun _ _ q => q) (fun i hi b hb => ?_) (fun b hb => ?_) (fun b ps e => ?_), ow.view fl fun b hb => (off b hb).1⟩
  · by_cases z : b ∈ fp
    · rw [join_in z] at q; exact q
    · rw [join_out z] at q; exact S.gh b u q
  · by_cases z : b ∈ fp
    · exact .inr (off b z).2.1.1
    · rw [join_out z] at q; exact .inl q
  · rw [join_out fun z => (off b z).2.2 i hi hb]
    obtain ⟨m, d', e⟩ := hi
    obtain ⟨_, _, _, _, f, _⟩ := S.ow i m d' e
    exact (f b hb).1
  · rw [join_out fun z => ?_]
    · exact S.hidG b hb
    · obtain ⟨o, e⟩ := S.hidP b hb
      rw [(off b z).2.1.2] at e; cases e
  · by_cases z : b ∈ fp
    · rw [join_in z] at e
      obtain ⟨o, e', k⟩ := mt b z
      rw [e] at e'
      cases e'
      rcases k with ⟨_, k⟩ | ⟨_, _, _, k⟩ <;> cases k
    · rw [join_out z] at e; exact S.ng b ps e
theorem de_frB (h : PE X e (tM X.K F W q (RFr X.K F) m)) : PE X e (tM X.K F W false (RSh X.K) (shareB m)) := PE_mono h fun σ H Q h => bind_of (q2 := false) (R1 := RFr X.K F) nq h fun d st1 G1 fpf1 v H1 S1 r1 A1 => by
  by_cases c : vwOk d = true
  · rw [if_pos c] at A1
    obtain ⟨G2, gg, S2, r2⟩ := S1.shareV r1 c
    exact A1 v H1 G2 fpf1 nq gg S2 r2
  · rw [if_neg c] at A1; exact A1.elim
/-! ### x().clear(), the list new -/
def wrF (g : D → List D → Option (D × D)) (m : M D) : M D := bnd m fun d => if isLst d = true then (match g d [] with
  | some (z, _) => ret z
  | none => stuckM) else stuckM
theorem de_wrF0 {name : Str} {id : String} {r : V → List V → Hp → VK → Prop} {g : D → List D → Option (D × D)} {apos cpos : Pos} (slot : PySem.Slot "list" name id) (hty : typeOf (.builtin id) = pure (.type "method_descriptor")) (hm : MtR X id r) (hw : WrS X.K r g) (he : PE X e (tM X.K F W q (RFr X.K F) m))
    (hbase : attributeBase e name X.env (eval e X.env) = eval e X.env := by rfl) (hline : (apos.endLine == cpos.line) = true := by rfl) :
    PE X (.Call (.Attribute e name apos) [] [] cpos) (tM X.K F W false (RSh X.K) (wrF g m)) :=
  PE_mono (pe_bm0 PySem.F.plainAttrs_list slot hty hm he hbase hline) fun σ H Q h => bind_of (q2 := false) (R1 := RFr X.K F) nq h fun d st1 G1 fpf1 v H1 S1 r1 A1 => by
    by_cases c : isLst d = true
    · rw [if_pos c] at A1
      obtain ⟨a, fp, rfl, ow, nd, off⟩ := r1.ex
      obtain ⟨o, ho, ro, rfl⟩ := ow.isFlat (by cases d <;> first | rfl | cases c)
      refine ⟨lst_ty G1 H1 a o d ho ro c, ?_⟩
      cases w : g d [] with
      | none => rw [w] at A1; exact A1.elim
      | some zd =>
        obtain ⟨z, d'⟩ := zd
        rw [w] at A1
        refine hw S1.gh ho ro .nil w fun v o' rv ro' => ?_
        obtain ⟨q1, ⟨q2, q3⟩, q4⟩ := off a List.mem_cons_self
        exact A1 v _ G1 fpf1 nq (Same.refl G1) (S1.poke ⟨q1, q2, q3, q4⟩ ⟨o, ho, ro.pl⟩ ro'.pl) rv
    · rw [if_neg c] at A1; exact A1.elim
end
section
variable {X : Cx} {F : Fr} {W : WX} {q : Bool} {pos : Pos}
/-! ### a, b, c, d, e = .., new things among them -/
theorem ds_tupX5 {i j m l r : Nat} {x y z w y5 : Str} {a b c d e5 : Expr} {ma : M (List (Bool × D))} {px py pz pw p5 pt : Pos} {kt k2 : Nat} {pt2 : Pos} (hc : X.calm = true) (hN : X.N.Nodup) (ha : PA X [a, b, c, d, e5] (tM X.K F W q (RMx X.K F) ma)) (hi : X.N[i]? = some x := by rfl) (hj : X.N[j]? = some y := by rfl) (hm : X.N[m]? = some z := by rfl) (hl : X.N[l]? = some w := by rfl) (hr5 : X.N[r]? = some y5 := by rfl)
    (hx : Loc X.env.scope x := by first | exact Or.inl rfl | exact Or.inr rfl) (hy : Loc X.env.scope y := by first | exact Or.inl rfl | exact Or.inr rfl) (hz : Loc X.env.scope z := by first | exact Or.inl rfl | exact Or.inr rfl) (hw' : Loc X.env.scope w := by first | exact Or.inl rfl | exact Or.inr rfl) (h5 : Loc X.env.scope y5 := by first | exact Or.inl rfl | exact Or.inr rfl)
    (fx : X.fn x = true ∨ X.env.scope.names.lookup x = some .local := by first | exact .inl rfl | exact .inr rfl) (fy : X.fn y = true ∨ X.env.scope.names.lookup y = some .local := by first | exact .inl rfl | exact .inr rfl) (fz : X.fn z = true ∨ X.env.scope.names.lookup z = some .local := by first | exact .inl rfl | exact .inr rfl) (fw : X.fn w = true ∨ X.env.scope.names.lookup w = some .local := by first | exact .inl rfl | exact .inr rfl) (f5 : X.fn y5 = true ∨ X.env.scope.names.lookup y5 = some .local := by first | exact .inl rfl | exact .inr rfl)
    (s0 : (assignEach [.Name y5 p5] X.env).map (·.2) = assign (.Name y5 p5) X.env :: (assignEach [] X.env).map (·.2) := by rfl)
    (s1 : (assignEach [.Name w pw, .Name y5 p5] X.env).map (·.2) = assign (.Name w pw) X.env :: (assignEach [.Name y5 p5] X.env).map (·.2) := by rfl) (s2 : (assignEach [.Name z pz, .Name w pw, .Name y5 p5] X.env).map (·.2) = assign (.Name z pz) X.env :: (assignEach [.Name w pw, .Name y5 p5] X.env).map (·.2) := by rfl)
    (s3 : (assignEach [.Name y py, .Name z pz, .Name w pw, .Name y5 p5] X.env).map (·.2) = assign (.Name y py) X.env :: (assignEach [.Name z pz, .Name w pw, .Name y5 p5] X.env).map (·.2) := by rfl) (s4 : (assignEach [.Name x px, .Name y py, .Name z pz, .Name w pw, .Name y5 p5] X.env).map (·.2) = assign (.Name x px) X.env :: (assignEach [.Name y py, .Name z pz, .Name w pw, .Name y5 p5] X.env).map (·.2) := by rfl)
    (hn : (assignEach [.Name x px, .Name y py, .Name z pz, .Name w pw, .Name y5 p5] X.env).length = 5 := by rfl) (hst : (assignEach [.Name x px, .Name y py, .Name z pz, .Name w pw, .Name y5 p5] X.env).findIdx? (·.1) = none := by rfl)
    (hw : swappedStores [.Tuple [.Name x px, .Name y py, .Name z pz, .Name w pw, .Name y5 p5] kt pt] (.Tuple [a, b, c, d, e5] k2 pt2) X.env = pure none := by rfl) (hs : swapsWithSole [.Tuple [.Name x px, .Name y py, .Name z pz, .Name w pw, .Name y5 p5] kt pt] (.Tuple [a, b, c, d, e5] k2 pt2) pos.line X.env = pure false := by rfl)
    (h1 : (assignEach [.Tuple [.Name x px, .Name y py, .Name z pz, .Name w pw, .Name y5 p5] kt pt] X.env).map (·.2) = [assign (.Tuple [.Name x px, .Name y py, .Name z pz, .Name w pw, .Name y5 p5] kt pt) X.env] := by rfl) {n : Nat} [gk : GvOk F n] (hgi : ∀ k ∈ [i, j, m, l, r], k < n := by decide) :
    PS X (.Assign [.Tuple [.Name x px, .Name y py, .Name z pz, .Name w pw, .Name y5 p5] kt pt] (.Tuple [a, b, c, d, e5] k2 pt2) pos) (tS X.K F W (parX [i, j, m, l, r] ma)) :=
  PS_mono (ps_asg (pe_tup ha) (pg_tup hc (pgs_cons (pg_name hN hi hx fx) (pgs_cons (pg_name hN hj hy fy) (pgs_cons (pg_name hN hm hz fz) (pgs_cons (pg_name hN hl hw' fw) (pgs_cons (pg_name hN hr5 h5 f5) pgs_nil s0) s1) s2) s3) s4) hn hst) hs hw h1) fun D σ H h => do_of (R := RMx X.K F) h fun ds st1 G1 fpf1 vs H1 S1 r1 A1 => by
    obtain ⟨fp, r1⟩ := r1
    have A1' : AtS X.K F W (if [i, j, m, l, r].length = ds.length then .nx (setL [i, j, m, l, r] ds st1) else .stuck) G1 D := A1
    by_cases c : [i, j, m, l, r].length = ds.length
    · have hl := r1.lens
      rw [if_pos c] at A1'
      match vs, hl, r1 with
      | [u1, u2, u3, u4, u5], _, r1 =>
        refine ⟨by show 5 ≤ sizeLine; decide, fun p hp => ?_⟩
        obtain ⟨fpf', S2⟩ := (r1.allocH (o := .tup [u1, u2, u3, u4, u5]) hp).assign (S1.allocH (o := .tup [u1, u2, u3, u4, u5]) hp) (fun k z => gk.none (hgi k z)) c
        exact ⟨p, [u1, u2, u3, u4, u5], rfl, .inl (.inl upd_same), rfl, u1, [u2, u3, u4, u5], rfl, u2, [u3, u4, u5], rfl, u3, [u4, u5], rfl, u4, [u5], rfl, u5, [], rfl, rfl, A1' _ _ G1 fpf' (Same.refl G1) S2⟩
      | [], hl, _ => rw [hl] at c; cases c
      | [_], hl, _ => rw [hl] at c; cases c
      | [_, _], hl, _ => rw [hl] at c; cases c
      | [_, _, _], hl, _ => rw [hl] at c; cases c
      | [_, _, _, _], hl, _ => rw [hl] at c; cases c
      | _ :: _ :: _ :: _ :: _ :: _ :: _, hl, _ => rw [hl] at c; cases c
    · rw [if_neg c] at A1'; exact A1'.elim
end
end DL
namespace DL
variable [TB] [LC]
open PySem L2
/-! ### len(x) by an own __len__ -/
def rLenO (C : Addr) (sp : Sp) : List V → Hp → VK → Prop := fun xs H Q => ∃ a dx fs, xs = [.ref a] ∧ H a = some (.ins C dx fs) ∧ sp [.ref a] H (fun v H' => ∃ n : Int, v = .int n ∧ (0 ≤ n ∧ n < 2 ^ 63) ∧ Q (.int n) H') E0
def lenO (C : Addr) (mu : List Bool) (fn : FD) (ma : M AV) : M D :=
  bnd ma fun a => bnd (chkO C Str.empty a) fun _ => bnd (noErr (callQ mu fn [a])) fun r => match r with
    | .int k => if 0 ≤ k ∧ k < 9223372036854775808 then ret (.int k) else stuckM
    | _ => stuckM
section
variable {X : Cx} {F : Fr} {W : WX} {q1 : Bool} {C f : Addr} {k : Nat} {fd : FuncData} {ps : List Str} {sp : Sp} {mu : List Bool} {fn : FD} {e : Expr} {ma : M AV} {pos p : Pos}
theorem call_lenO (hs : PySem.W.findIn X.K (.ref C) "__len__" = some (some (.ref f))) (hf : PySem.W.isFn X.K (.ref f) = true) (F0 : FnOk X.prog X.w X.K X.mg X.base (CX X.prog X.w) k f fd ps sp) (hr : Room (k + 1) X.A) (hb : Binds X.K fd ps []) : CallR X (.builtin "len") (rLenO C sp) := by
  intro pins s σ H xs us Q I r h
  obtain ⟨a, dx, fs, rfl, ha, h⟩ := h
  cases r with
  | cons r1 r2 =>
    cases r2
    cases r1
    obtain ⟨mA, O, _⟩ := ins_get I.hok ha
    obtain ⟨od, J, _⟩ := O.look
    obtain ⟨m, hF⟩ := I.fr
    refine PySem.W.len_K hF I.ok.mod.kin J hs hf ?_
    refine wpAny_mono (run0 F0 hr.in1 rfl hb I (us := [.ref a]) (vs := [.ref a]) (.cons rfl .nil) h) (fun w s' z => ?_) fun _ _ z => z
    obtain ⟨v', H', I', rv, n, ev, hn, q⟩ := z
    cases ev
    obtain ⟨tk, rfl⟩ := (show ∃ tk, w = Value.int n tk from rv)
    exact ⟨hn, .int n, H', I'.tok _, ⟨_, rfl⟩, q⟩
theorem de_lenO (hs : PySem.W.findIn X.K (.ref C) "__len__" = some (some (.ref f))) (hf : PySem.W.isFn X.K (.ref f) = true) (F0 : FnOk X.prog X.w X.K X.mg X.base (CX X.prog X.w) k f fd ps (spD X.K mu fn)) (hr : Room (k + 1) X.A) (hb : Binds X.K fd ps []) (ha : PE X e (tAv X.K F W q1 ma)) (hg : Gl X "len") (hm : X.mg "len" = none)
    (he : starEach [e] X.env = (false, eval e X.env) :: starEach [] X.env := by rfl) (hpl : (backTo pos (starEach [] X.env)).any (·.1) = false := by rfl) : PE X (.Call (.Name "len" p) [e] [] pos) (tM X.K F W false (RSh X.K) (lenO C mu fn ma)) :=
  PE_mono (pe_callB (call_lenO hs hf F0 hr hb) hg hm (by decide +kernel) (pa_cons ha pa_nil he) (by decide) (by decide) he hpl) fun σ H Q h => bind_of (q2 := false) (R1 := fun G _ _ _ a v => AvR X.K G σ a v) nq h fun a st1 G1 fpf1 v H1 S1 r1 A1 => by
    obtain ⟨⟨p, dx, fv, rfl, h1, _⟩, A3⟩ := chk_of S1 r1 A1
    refine ⟨p, dx, fv, rfl, h1, callQ_at (F := F) (W := fun _ _ _ _ => False) (σ := σ) S1 (AvA.cons r1 .nil) ?_⟩
    refine noErr_at (W := W) (A3.bndK (q1 := false) (q2 := false) (R1 := RSh X.K) nq fun r st3 G3 fpf3 w H3 g3 S3 z3 e3 r3 A5 => ?_)
    cases r with
    | int k =>
      dsimp only at A5
      by_cases c : 0 ≤ k ∧ k < 9223372036854775808
      · rw [if_pos c] at A5
        exact ⟨k, (Rp.rep (H := H3) r3).int, ⟨c.1, by have := c.2; omega⟩, A5.done S3 (Rep.int _)⟩
      · rw [if_neg c] at A5; exact A5.elim
    | _ => exact A5.elim
end
theorem FnOk.vw {P : Program} {w : World} {K : PySem.W.Frag} {mg : Str → Option Value} {base : Heap} {cx : CXT} {k : Nat} {a : Addr} {fd : FuncData} {ps : List Str} {mu : List Bool} {f : FD} (F : FnOk P w K mg base cx k a fd ps (spD K mu f)) (i : Nat) (mu' : List Bool) (hi : mu[i]? = some false := by rfl) (h : mu.set i true = mu' := by rfl) :
    FnOk P w K mg base cx k a fd ps (spD K mu' (viewF i f)) := h ▸ F.view i hi
end DL
namespace DL
variable [TB] [LC]
open PySem PySem.Spec PyProof.Rows L2
/-! ### isinstance(e, T), e the exception that a suite holds; repr in a suite -/
structure XisC (K : PySem.W.Frag) (C : Addr) : Prop where
  ha : PySem.W.findIn K (.ref C) "__class__" = some (some (.builtin "object.__class__"))
  hn : PySem.W.specialIn K (.builtin "object.__class__") "__get__" = some (some (.builtin "getset_descriptor.__get__"))
  ht : PySem.W.takesIn K (.builtin "object.__class__") = some true
  hm : PySem.W.mroIn K C (.type "object") = some true
def rIsEd (K : PySem.W.Frag) (D a dd : Addr) : List V → Hp → VK → Prop := fun xs H Q => ∃ (c : V) (cv : Value) (b : Bool) (fs : List (Str × V)), xs = [.ref a, c] ∧ (∀ u, RelV c u → u = cv) ∧ PySem.W.kitOne K (.ref D) cv = some b ∧ H dd = some (.xd fs) ∧ Q (.bl b) H
theorem call_isEd {X : Cx} {a D dd : Addr} {oe : Obj} {pn : List (Addr × Obj)} (T : XfC X.K D) (C : XisC X.K D) (hz : Zc (.ref D) (some dd) oe) (hf : ∃ vs, oe.data = .fields vs) : CallR (X.suite a ((a, oe) :: pn)) (.builtin "isinstance") (rIsEd X.K D a dd) := by
  intro pins s σ H xs us Q I r h
  obtain ⟨c, cv, b, fs, rfl, hcv, e, hd, q⟩ := h
  cases r with
  | cons rx rr =>
    cases rr with
    | cons rt rr =>
      cases rr
      cases rx
      have ec := hcv _ rt
      subst ec
      obtain ⟨hget, _⟩ := I.pin (a, oe) (List.mem_append.mpr (.inl List.mem_cons_self))
      obtain ⟨vs, hv⟩ := hf
      have hx : ObjOk X.prog X.w H s.heap dd (.xd fs) := I.hok dd _ hd
      obtain ⟨mA, hns, hr⟩ := hx
      obtain ⟨od, ho, hl⟩ := lookIn_ns hns
      have J : PySem.W.InstAt s.heap a oe D (some od) := ⟨hget, hz.1, by unfold PySem.W.notCls; rw [hv] <;> rfl, by rw [hz.2]; exact ho⟩
      have hcl : (PySem.W.clsIn X.K D).isSome = true := by
        obtain ⟨cd, hc, _⟩ := PySem.W.any_some T.hdC
        rw [hc]; rfl
      exact PySem.W.kia_one (PySem.W.kitx_exc hcl T.ga T.gg T.exC C.ha C.hn C.ht C.hm) I.kIn J e (fun z => nomatch z) fun tk => ⟨.bl b, H, I.kept (t' := tk) fun _ _ z => z, rfl, q⟩
def xisM (i : Nat) (a : Addr) (C : Addr) (x : Exc) : M D := fun st => match st[i]?, x.cls with
  | some (some (Slot.sh (.rf a'))), .ref C' => if a' = a ∧ C' = C then .ok (.bl true) st else .stuck
  | _, _ => .stuck
theorem de_xis (i : Nat) {X : Cx} {F : Fr} {W : WX} {q : Bool} {a C dd : Addr} {oe : Obj} {cls : Value} {d : Option Addr} {pn : List (Addr × Obj)} {x : Exc} {fv : List (Str × V)} {G0 : Hp} {y t : Str} {T0 : String} {p p1 p2 pos : Pos} (k : Xk X.K G0 x cls d dd fv) (T : XfC X.K C) (C0 : XisC X.K C) (kt : PySem.W.kitOne X.K (.ref C) (.type T0) = some true) (hz : Zc cls d oe) (hf : ∃ vs, oe.data = .fields vs)
    (hg : Gl X "isinstance") (hm : X.mg "isinstance" = none) (hg2 : Gl X t) (hm2 : X.mg t = none) (hv2 : bootBuiltins t = some (.type T0) := by decide +kernel) (hn2 : t ≠ "__name__" := by decide) (hd2 : (t == ("__debug__" : Str)) = false := by decide)
    (hN : X.N[i]? = some y := by rfl) (hv : Vis X.env.scope y := by first | exact Or.inl rfl | exact Or.inr (Or.inl rfl) | exact Or.inr (Or.inr rfl)) (hd : (y == ("__debug__" : Str)) = false := by decide) (hcd : (y == ("__classdict__" : Str)) = false := by decide)
    (hb1 : starEach [.Name t p2] X.env = (false, eval (.Name t p2) X.env) :: starEach [] X.env := by rfl) (hs : starEach [.Name y p1, .Name t p2] X.env = (false, eval (.Name y p1) X.env) :: starEach [.Name t p2] X.env := by rfl) (hpl : (backTo pos (starEach [.Name t p2] X.env)).any (·.1) = false := by rfl) :
    PE (X.suite a ((a, oe) :: pn)) (.Call (.Name "isinstance" p) [.Name y p1, .Name t p2] [] pos) (tM X.K (F.hideG G0 dd (.xd fv)) W q (RSh X.K) (xisM i a C x)) := by
  obtain rfl := k.hd
  obtain rfl := k.hc
  refine ⟨fun pins s σ H Q I ⟨st, G, fpf, S, A⟩ => ?_⟩
  unfold xisM at A
  split at A
  · rename_i a' C' es ec
    by_cases c : a' = a ∧ C' = C
    · rw [if_pos c] at A
      obtain ⟨rfl, rfl⟩ := c
      obtain ⟨v, e1, r1⟩ := S.sh i _ es
      cases r1
      rw [ec] at hz
      refine (pe_callB (X := X.suite a' ((a', oe) :: pn)) (call_isEd T C0 hz hf) hg hm (by decide +kernel) (pa_cons (pv (X := X.suite a' ((a', oe) :: pn)) i hN hv hd hcd) (pa_cons (pe_bltn (X := X.suite a' ((a', oe) :: pn)) (v := .ty T0) hg2 hm2 hv2 rfl hn2 hd2) pa_nil hb1) hs) (by decide) (by decide) hs hpl).run pins s σ H Q I ?_
      exact ⟨.ref a', e1, .ty T0, .type T0, true, fv, rfl, fun u hu => hu, kt, S.pr dd _ upd_same, A.done S (Rep.bl _)⟩
    · rw [if_neg c] at A; exact A.elim
  · exact A.elim
theorem call_reprQ {X : Cx} (hu : X.A.units + 64 < cLine) (gd : X.A.guards = some []) : CallR X (.builtin "repr") (rReprP X.K) := by
  intro pins s σ H xs us Q I r h
  obtain ⟨v, p, rfl, hp, hs, hd, hz, q⟩ := h
  obtain ⟨u, rfl, ru⟩ := vals1 r
  obtain ⟨as, rd, hsm⟩ : ∃ as, Reads s.heap u p as ∧ (p.hasDict = true → sysModules ∉ as) := by
    rcases hp with ⟨hp, hn⟩ | ⟨a, kv, rfl, ha, hf, rfl⟩
    · obtain ⟨as, rd⟩ := Dp.reads I p v u hp ru
      exact ⟨as, rd, fun z => by rw [hn] at z; cases z⟩
    · obtain rfl : u = Value.ref a := ru
      obtain ⟨_, ne, vs, kvr, o, es, ep, e1, e2, e3, _, e5, _⟩ := (show ObjOk X.prog X.w H s.heap a (.dK kv) from ha.ok I.hok)
      obtain ⟨r1, r2⟩ := reads_pairs (h := s.heap) e5 kvr hf
      refine ⟨a :: [] ++ [], .dict e1 e2.1 e3 (by rw [List.map_map]; exact r1) (by rw [List.map_map]; exact r2), fun _ z => ?_⟩
      have : sysModules = a := by simpa using z
      rw [this] at ne
      simp at ne
  cases rd with
  | none => exact PySem.P.repr_of_none ⟨.str _, H, I.tok _, ⟨_, rfl⟩, q⟩
  | bool b => exact PySem.P.repr_of_bool ⟨.str _, H, I.tok _, ⟨_, rfl⟩, q⟩
  | int i t => exact PySem.P.repr_of_int (by simpa [PyData.showable] using hs) ⟨.str _, H, I.tok _, ⟨_, rfl⟩, q⟩
  | str x t => exact PySem.P.repr_of_str ⟨.str _, H, I.tok _, ⟨_, rfl⟩, q⟩ hz
  | list a1 a2 a3 a4 => exact repr_of_reads' (.list a1 a2 a3 a4) hs hsm gd (by omega) (fun _ _ e => e) (fun h' u tk hk => ⟨.str _, H, I.kept hk, ⟨_, rfl⟩, q⟩) hz
  | tuple a1 a2 a3 a4 => exact repr_of_reads' (.tuple a1 a2 a3 a4) hs hsm gd (by omega) (fun _ _ e => e) (fun h' u tk hk => ⟨.str _, H, I.kept hk, ⟨_, rfl⟩, q⟩) hz
  | dict a1 a2 a3 a4 a5 => exact repr_of_reads' (.dict a1 a2 a3 a4 a5) hs hsm gd (by omega) (fun _ _ e => e) (fun h' u tk hk => ⟨.str _, H, I.kept hk, ⟨_, rfl⟩, q⟩) hz
theorem call_reprS {X : Cx} {k : Nat} {a : Addr} {pn : List (Addr × Obj)} (hr : Room k X.A) : CallR (X.suite a pn) (.builtin "repr") (rReprP X.K) := call_reprQ (X := X.suite a pn) (by have := hr.units; exact this) hr.gd
theorem kit_base {K : PySem.W.Frag} {C : Addr} {T : String} (m : PySem.W.kitMeta T = true) (h : PySem.W.mroIn K C (.type T) = some true) : PySem.W.kitOne K (.ref C) (.type T) = some true := by
  unfold PySem.W.kitOne
  rw [if_neg (by simp)]
  unfold PySem.W.kitCls
  dsimp only
  rw [if_pos m]
  exact h
end DL
namespace DL
open PySem L2
local instance : TB := ⟨[]⟩
local instance : LC := ⟨fun _ => none⟩
/-! ### applied words: objects, boxes, what is looked at -/
section
variable {st : DSt}
theorem b_methM (q : List Bool → FD → List AV → M D) (C : Addr) (nm : Str) (mu : List Bool) (f : FD) (mo : M AV) (ma : M (List AV)) : methM q C nm mu f [] mo ma st = (mo st).bd fun a => bnd (chkO C nm a) fun _ => bnd ma fun as => q mu f (a :: as) := by
  unfold methM
  rw [b_bnd]
  simp only [List.map_nil, List.append_nil]
theorem b_propM (C : Addr) (nm : Str) (mu : List Bool) (f : FD) (mo : M AV) : propM C nm mu f mo st = (mo st).bd fun a => bnd (chkO C nm a) fun _ => noErr (callQ mu f [a]) := b_bnd _ _
theorem b_noErr (m : M D) : noErr m st = (match m st with | .ok d s => .ok d s | _ => .stuck) := a_noErr m
theorem b_chkO (C : Addr) (nm : Str) (a : AV) : chkO C nm a st = (match objAt st a with | some (C', fs) => if C' = C ∧ fs.lookup nm = none then .ok () st else .stuck | none => .stuck) := a_chkO C nm a
theorem b_objD (C : Addr) (fs : List (Str × D)) : objAt st (.d (.obj C fs)) = some (C, fs) := Eq.trans rfl rfl
theorem b_objM (i : Nat) : objAt st (.m i) = (match st[i]? with | some (some (Slot.ow _ (.obj C fs))) => some (C, fs) | _ => none) := Eq.trans rfl rfl
theorem b_makeF (C : Addr) (mu : List Bool) (f : FD) (ma : M (List AV)) : makeF C mu f [] ma st = (ma st).bd fun as => mkQ C mu f as := by
  unfold makeF
  rw [b_bnd]
  simp only [List.map_nil, List.append_nil]
theorem b_mkQ (C : Addr) (mu : List Bool) (f : FD) (as : List AV) : mkQ C mu f as st = (if (as.filterMap avSl).Nodup then (match getA st mu as with
    | some ds => match f (.obj C [] :: ds) with
      | .ok false .non (d :: ms) => .ok d (setBack as ms st)
      | .err x (_ :: ms) => .err x (setBack as ms st)
      | _ => .stuck
    | none => .stuck) else .stuck) := a_mkQ C mu f as
def ptK (C : Addr) (f : Str) (i : Nat) (d : D) : MS := fun st => match st[i]? with
  | some (some (Slot.ow mu (.obj C' fs))) => if C' = C ∧ fs.length < 1000 ∧ noBoxAt f fs = true then .nx (st.set i (some (Slot.ow mu (.obj C (putD f d fs))))) else .stuck
  | _ => .stuck
def ptB (C : Addr) (f : Str) (i : Nat) (d : D) : MS := fun st => match st[i]? with
  | some (some (Slot.ow mu (.obj C' fs))) => if C' = C ∧ fs.length < 1000 ∧ flatD d = true then .nx (st.set i (some (Slot.ow mu (.obj C (putD f (.box d) fs))))) else .stuck
  | _ => .stuck
theorem b_putM (C : Addr) (f : Str) (i : Nat) (m : M D) : putM C f i m st = (m st).od (ptK C f i) := b_doM _ _
theorem b_ptK (C : Addr) (f : Str) (i : Nat) (d : D) : ptK C f i d st = (match st[i]? with
  | some (some (Slot.ow mu (.obj C' fs))) => if C' = C ∧ fs.length < 1000 ∧ noBoxAt f fs = true then .nx (st.set i (some (Slot.ow mu (.obj C (putD f d fs))))) else .stuck
  | _ => .stuck) := Eq.trans rfl rfl
theorem b_putB (C : Addr) (f : Str) (i : Nat) (m : M D) : putB C f i m st = (m st).od (ptB C f i) := b_doM _ _
theorem b_ptB (C : Addr) (f : Str) (i : Nat) (d : D) : ptB C f i d st = (match st[i]? with
  | some (some (Slot.ow mu (.obj C' fs))) => if C' = C ∧ fs.length < 1000 ∧ flatD d = true then .nx (st.set i (some (Slot.ow mu (.obj C (putD f (.box d) fs))))) else .stuck
  | _ => .stuck) := Eq.trans rfl rfl
theorem b_varQ (i : Nat) : varQ i st = (match st[i]? with | some (some (Slot.sh d)) => .ok d st | _ => .stuck) := Eq.trans rfl rfl
theorem b_bxM (P : D → Bool) (i : Nat) (C : Addr) (f : Str) : bxM P i C f st = (match st[i]? with
  | some (some (Slot.ow _ (.obj C' fs))) => if C' = C then (match fs.lookup f with
    | some (.box d) => if P d = true then .ok () st else .stuck
    | _ => .stuck) else .stuck
  | _ => .stuck) := Eq.trans rfl rfl
theorem b_bxEnd (i : Nat) (C : Addr) (f : Str) (g : D → List D → Option (D × D)) (args : List D) : bxEnd i C f g args st = (match st[i]? with
  | some (some (Slot.ow mu (.obj C' fs))) => if C' = C then (match fs.lookup f with
    | some (.box d) => (match g d args with
      | some (z, d') => .ok z (st.set i (some (Slot.ow mu (.obj C (putD f (.box d') fs)))))
      | none => .stuck)
    | _ => .stuck) else .stuck
  | _ => .stuck) := Eq.trans rfl rfl
theorem b_wrB (P : D → Bool) (i : Nat) (C : Addr) (f : Str) (g : D → List D → Option (D × D)) (ms : List (M D)) : wrB P i C f g ms st = (bxM P i C f st).bd fun _ => bnd (argsM ms) fun args => bxEnd i C f g args := b_bnd _ _
def btK (i : Nat) (C : Addr) (f : Str) (g : D → List D → Option (D × D)) (args : List D) : M D := if args.length ≤ 1000 then bxEnd i C f g [.tup args] else stuckM
theorem b_wrBT (P : D → Bool) (i : Nat) (C : Addr) (f : Str) (g : D → List D → Option (D × D)) (ms : List (M D)) : wrBT P i C f g ms st = (bxM P i C f st).bd fun _ => bnd (argsM ms) fun args => btK i C f g args := b_bnd _ _
theorem b_btK (i : Nat) (C : Addr) (f : Str) (g : D → List D → Option (D × D)) (args : List D) : btK i C f g args st = if args.length ≤ 1000 then bxEnd i C f g [.tup args] st else .stuck := by
  unfold btK
  split <;> rfl
def lnOK (d : D) : M D := match d with
  | .int k => if 0 ≤ k ∧ k < 9223372036854775808 then ret (.int k) else stuckM
  | _ => stuckM
theorem b_lenO (C : Addr) (mu : List Bool) (fn : FD) (ma : M AV) : lenO C mu fn ma st = (ma st).bd fun a => bnd (chkO C Str.empty a) fun _ => bnd (noErr (callQ mu fn [a])) lnOK := b_bnd _ _
theorem b_lnOK (k : Int) : lnOK (.int k) st = if 0 ≤ k ∧ k < 9223372036854775808 then .ok (.int k) st else .stuck := by
  unfold lnOK
  dsimp only
  split <;> rfl
def shBK (d : D) : M D := if vwOk d = true then ret (unb d) else stuckM
theorem b_shareB (m : M D) : shareB m st = (m st).bd shBK := b_bnd _ _
theorem b_shBK (d : D) : shBK d st = if vwOk d = true then .ok (unb d) st else .stuck := by
  unfold shBK
  split <;> rfl
def wrFK (g : D → List D → Option (D × D)) (d : D) : M D := if isLst d = true then (match g d [] with
  | some (z, _) => ret z
  | none => stuckM) else stuckM
theorem b_wrF (g : D → List D → Option (D × D)) (m : M D) : wrF g m st = (m st).bd (wrFK g) := b_bnd _ _
theorem b_wrFK (g : D → List D → Option (D × D)) (d : D) : wrFK g d st = if isLst d = true then (match g d [] with
  | some (z, _) => .ok z st
  | none => .stuck) else .stuck := by
  unfold wrFK
  split
  · split <;> simp_all <;> rfl
  · rfl
def cmpK (neg : Bool) (r : D) : M D := match r with
  | .bl k => ret (.bl (neg != k))
  | _ => stuckM
theorem b_cmpK (neg k : Bool) : cmpK neg (.bl k) st = .ok (.bl (neg != k)) st := Eq.trans rfl rfl
theorem b_cmpO (neg : Bool) (Cs : List Addr) (C : Addr) (mu : List Bool) (fn : FD) (ma mb : M AV) : cmpO neg Cs C mu fn ma mb st = (ma st).bd fun a => bnd mb fun b => bnd (chkO C Str.empty a) fun _ => bnd (kindAt Cs b) fun _ => bnd (noErr (callQ mu fn [a, b])) (cmpK neg) := b_bnd _ _
theorem b_kindD (Cs : List Addr) (d : D) : kindAt Cs (.d d) st = (match kindIn Cs d with | some _ => .ok () st | none => .stuck) := Eq.trans rfl rfl
theorem b_kindM (Cs : List Addr) (i : Nat) : kindAt Cs (.m i) st = (match st[i]? with
  | some (some (Slot.ow _ d)) => match kindIn Cs d with
    | some _ => .ok () st
    | none => .stuck
  | _ => .stuck) := Eq.trans rfl rfl
theorem view_ok {i : Nat} {f : FD} {ds ms : List D} {d r : D} (hd : ds[i]? = some d) (hv : vwOk d = true) (h : f (ds.set i (unb d)) = .ok false r ms) (hr : immD r = true) (hm : ms.all immF = true) : viewF i f ds = .ok false r (ms.set i d) := by
  unfold viewF
  rw [hd]
  dsimp only
  rw [if_pos hv, h]
  dsimp only [vwEnd]
  rw [if_pos ⟨hr, hm⟩]
theorem view_err {i : Nat} {f : FD} {ds ms : List D} {d : D} {x : Exc} (hd : ds[i]? = some d) (hv : vwOk d = true) (h : f (ds.set i (unb d)) = .err x ms) (hr : immA (x.fs.map (·.2)) = true) (hm : ms.all immF = true) : viewF i f ds = .err x (ms.set i d) := by
  unfold viewF
  rw [hd]
  dsimp only
  rw [if_pos hv, h]
  dsimp only [vwEnd]
  rw [if_pos ⟨hr, hm⟩]
end
end DL
namespace DL
open PySem L2
section
variable [TB] [LC]
/-! ### a, b = x, y: new things with boxes among them -/
def Fr.hideL (F : Fr) (H : Hp) (fp : List Addr) : Fr := { F with pr := join F.pr H fp, hid := fun b => F.hid b ∨ b ∈ fp }
instance gvHideL {F : Fr} {n : Nat} {H : Hp} {fp : List Addr} [k : GvOk F n] : GvOk (F.hideL H fp) n := ⟨k.ok⟩
section
variable {K : PySem.W.Frag} {F : Fr} {W : WX} {G H : Hp} {fpf : Nat → List Addr} {σ : St} {st : DSt} {fp0 : List Addr}
theorem Sync.hideL (S : Sync K F G fpf σ H st) (off : ∀ b ∈ fp0, G b = none ∧ (F.He b = none ∧ F.pr b = none) ∧ ∀ (j : Nat), isOw st j → b ∉ fpf j) (lv : ∀ b ∈ fp0, ∃ o, H b = some o ∧ Pl o) : Sync K (F.hideL H fp0) G fpf σ H st where
  len := S.len
  sh := S.sh
  ow := fun i m d e => by
    obtain ⟨u, h1, h2, h3, h4, h5⟩ := S.ow i m d e
    refine ⟨u, h1, h2, h3, fun b hb => ⟨(h4 b hb).1, (h4 b hb).2.1, ?_⟩, h5⟩
    show join F.pr H fp0 b = none
    rw [join_out fun z => (off b z).2.2 i ⟨m, d, e⟩ hb]
    exact (h4 b hb).2.2
  sep := S.sep
  g0 := S.g0
  gh := S.gh
  new := S.new
  pr := fun b u e => by
    have e' : join F.pr H fp0 b = some u := e
    by_cases z : b ∈ fp0
    · rw [join_in z] at e'; exact e'
    · rw [join_out z] at e'; exact S.pr b u e'
  live := S.live
  hidG := fun b hb => hb.elim (S.hidG b) fun z => (off b z).1
  hidP := fun b hb => by
    by_cases z : b ∈ fp0
    · obtain ⟨o, e, _⟩ := lv b z
      exact ⟨o, (join_in z).trans e⟩
    · obtain ⟨u, e⟩ := S.hidP b (hb.resolve_right z)
      exact ⟨u, (join_out z).trans e⟩
  ng := S.ng
  np := fun b u e => by
    have e' : join F.pr H fp0 b = some u := e
    by_cases z : b ∈ fp0
    · rw [join_in z] at e'
      obtain ⟨o, e2, p⟩ := lv b z
      rw [e'] at e2
      cases e2
      exact p
    · rw [join_out z] at e'; exact S.np b u e'
  tab := S.tab
  gv := S.gv
theorem Sync.unhideL {H1 : Hp} (S : Sync K (F.hideL H1 fp0) G fpf σ H st) (hp : ∀ b ∈ fp0, F.pr b = none) (lv : ∀ b ∈ fp0, ∃ o, H1 b = some o ∧ Pl o) (hh : ∀ b, F.hid b → ∃ u, F.pr b = some u) :
    Sync K F G fpf σ H st ∧ ∀ b ∈ fp0, G b = none ∧ (∀ (i : Nat), isOw st i → b ∉ fpf i) ∧ H b = H1 b := by
  have sp : Same F.pr (join F.pr H1 fp0) := fun b u e => by
    rw [join_out fun z => ?_]
    · exact e
    · rw [hp b z] at e; cases e
  have nn : ∀ {b}, join F.pr H1 fp0 b = none → F.pr b = none ∧ b ∉ fp0 := fun {b} e => by
    by_cases z : b ∈ fp0
    · rw [join_in z] at e
      obtain ⟨o, e2, _⟩ := lv b z
      rw [e] at e2; cases e2
    · rw [join_out z] at e; exact ⟨e, z⟩
  refine ⟨⟨S.len, S.sh, fun i m d e => ?_, S.sep, S.g0, S.gh, S.new, fun b u e => S.pr b u (sp b u e), S.live, fun b hb => S.hidG b (.inl hb), hh, S.ng, fun b ps e => S.np b ps (sp b _ e), S.tab, S.gv⟩, fun b hb => ⟨S.hidG b (.inr hb), fun i hi hb' => ?_, ?_⟩⟩
  · obtain ⟨u, h1, h2, h3, h4, h5⟩ := S.ow i m d e
    exact ⟨u, h1, h2, h3, fun b hb => ⟨(h4 b hb).1, (h4 b hb).2.1, (nn (h4 b hb).2.2).1⟩, h5⟩
  · obtain ⟨m, d, e⟩ := hi
    obtain ⟨_, _, _, _, h4, _⟩ := S.ow i m d e
    exact (nn (h4 b hb').2.2).2 hb
  · obtain ⟨o, e2, _⟩ := lv b hb
    rw [e2]
    exact S.pr b o ((join_in hb).trans e2)
theorem MxA.unhideL {H1 : Hp} {ds : List (Bool × D)} {vs : List V} {fp : List Addr} (lv : ∀ b ∈ fp0, ∃ o, H1 b = some o ∧ Pl o) (h : MxA K (F.hideL H1 fp0) G fpf st H ds vs fp) : MxA K F G fpf st H ds vs fp ∧ ∀ b ∈ fp0, b ∉ fp := by
  have nn : ∀ {b}, (F.hideL H1 fp0).pr b = none → F.pr b = none ∧ b ∉ fp0 := fun {b} e => by
    have e' : join F.pr H1 fp0 b = none := e
    by_cases z : b ∈ fp0
    · rw [join_in z] at e'
      obtain ⟨o, e2, _⟩ := lv b z
      rw [e'] at e2; cases e2
    · rw [join_out z] at e'; exact ⟨e', z⟩
  induction h with
  | nil => exact ⟨.nil, fun _ _ h => nomatch h⟩
  | sh r _ ih => exact ⟨.sh r ih.1, ih.2⟩
  | fr ow nd off sep _ ih =>
    refine ⟨.fr ow nd (fun b hb => ⟨(off b hb).1, ⟨(off b hb).2.1.1, (nn (off b hb).2.1.2).1⟩, (off b hb).2.2⟩) sep ih.1, fun b hb0 h => ?_⟩
    rcases List.mem_append.mp h with h | h
    · exact (nn (off b h).2.1.2).2 hb0
    · exact ih.2 b hb0 h
end
def mxB (m : M D) (r : M (List (Bool × D))) : M (List (Bool × D)) := bnd m fun d => bnd r fun ds => ret ((true, d) :: ds)
section
variable {X : Cx} {F : Fr} {W : WX} {q q1 q2 : Bool} {e : Expr} {es : List Expr} {m : M D} {r : M (List (Bool × D))} {pos : Pos}
theorem dm_frB (he : PE X e (tM X.K F W q1 (RFr X.K F) m)) {n : Nat} [gk : GvOk F n] (hr : ∀ (F : Fr) [GvOk F n], PA X es (tM X.K F W q2 (RMx X.K F) r)) (hs : starEach (e :: es) X.env = (false, eval e X.env) :: starEach es X.env := by rfl) : PA X (e :: es) (tM X.K F W false (RMx X.K F) (mxB m r)) := by
  have hr' : PA X es (fun σ H Q => ∃ F : Fr, GvOk F n ∧ tM X.K F W q2 (RMx X.K F) r σ H Q) := ⟨fun pos pins s σ H Q I ⟨F, kk, z⟩ => (hr F).run pos pins s σ H Q I z⟩
  refine PA_mono (pa_cons he hr' hs) fun σ H Q ⟨st, G, fpf, S, A⟩ => ⟨st, G, fpf, S, A.bndK (q1 := q1) (q2 := false) (R1 := RFr X.K F) nq fun d st1 G1 fpf1 v H1 g1 S1 z1 e1 r1 A1 => ?_⟩
  obtain ⟨a, fp0, rfl, ow, nd, off⟩ := (show Fresh X.K F G1 fpf1 st1 H1 d v from r1).ex
  have lv := ow.pl
  refine ⟨F.hideL H1 fp0, inferInstance, st1, G1, fpf1, S1.hideL off lv, ?_⟩
  have A1' : At X.K F W false (RMx X.K F) (bnd r (fun ds => ret ((true, d) :: ds)) st1) st1 G1 fpf1 σ H1 Q := A1
  have hp : ∀ b ∈ fp0, F.pr b = none := fun b hb => (off b hb).2.1.2
  revert A1'
  unfold bnd
  cases r st1 with
  | stuck => exact fun z => z
  | ok ds st2 =>
    intro A2 vs H2 G2 fpf2 z2 g2 S2 r2
    obtain ⟨fp, r2⟩ := r2
    obtain ⟨S3, ap3⟩ := S2.unhideL hp lv S1.hidP
    obtain ⟨r3, na⟩ := r2.unhideL lv
    exact A2 _ _ G2 fpf2 nq g2 S3 ⟨fp0 ++ fp, .fr (ow.mono g2 fun b hb => (ap3 b hb).2.2) nd (fun b hb => ⟨(ap3 b hb).1, (off b hb).2.1, (ap3 b hb).2.1⟩) na r3⟩
  | err x st2 =>
    intro A2 b fv H2 G2 fpf2 g2 S2 ap2 hb hk hr2
    obtain ⟨S3, ap3⟩ := S2.unhideL hp lv S1.hidP
    refine A2 b fv H2 G2 fpf2 g2 S3 ⟨ap2.g, ap2.he, ?_, ap2.fp⟩ hb hk hr2
    have e' : join F.pr H1 fp0 b = none := ap2.pr
    by_cases y : b ∈ fp0
    · exact hp b y
    · rw [join_out y] at e'; exact e'
end
end
section
local instance : TB := ⟨[]⟩
local instance : LC := ⟨fun _ => none⟩
variable {st : DSt}
def mbK (r : M (List (Bool × D))) (d : D) : M (List (Bool × D)) := bnd r fun ds => ret ((true, d) :: ds)
theorem b_mxB (m : M D) (r : M (List (Bool × D))) : mxB m r st = (m st).bd (mbK r) := b_bnd _ _
theorem b_mbK (r : M (List (Bool × D))) (d : D) : mbK r d st = (r st).bd fun ds => ret ((true, d) :: ds) := b_bnd _ _
end
end DL
namespace K12
open PySem L2 DL PySem.DLX
def top (i : Nat) : Stmt := PySem.Challenge.pw_fullestfirst_k12_change_logs.main.body.getD i (.Pass ⟨0, 0, 0, 0⟩)
structure Ad where
  c_ChangeLog : Addr
  e_InvalidNumber : Addr
  e_InvalidKey : Addr
  e_Forgotten : Addr
  fi_InvalidNumber : Addr
  di_InvalidNumber : FuncData
  fi_InvalidKey : Addr
  di_InvalidKey : FuncData
  fi_Forgotten : Addr
  di_Forgotten : FuncData
  f_fis_integer : Addr
  d_fis_integer : FuncData
  f_fis_key : Addr
  d_fis_key : FuncData
  f_fChangeLog_bound : Addr
  d_fChangeLog_bound : FuncData
  f_fChangeLog_floor : Addr
  d_fChangeLog_floor : FuncData
  f_fChangeLog_last : Addr
  d_fChangeLog_last : FuncData
  f_fChangeLog_trim : Addr
  d_fChangeLog_trim : FuncData
  f_fChangeLog_changes : Addr
  d_fChangeLog_changes : FuncData
  f_fChangeLog___len__ : Addr
  d_fChangeLog___len__ : FuncData
  f_fChangeLog___eq__ : Addr
  d_fChangeLog___eq__ : FuncData
  f_f_law_hand : Addr
  d_f_law_hand : FuncData
  f_f_law_draw : Addr
  d_f_law_draw : FuncData
  f_f_law_refused : Addr
  d_f_law_refused : FuncData
  f_fin_range : Addr
  d_fin_range : FuncData
  f_f_law_key : Addr
  d_f_law_key : FuncData
  f_fcheck_number : Addr
  d_fcheck_number : FuncData
  f_fcheck_least : Addr
  d_fcheck_least : FuncData
  f_fcheck_key : Addr
  d_fcheck_key : FuncData
  f_fcheck_value : Addr
  d_fcheck_value : FuncData
  f_fChangeLog___init__ : Addr
  d_fChangeLog___init__ : FuncData
  f_fChangeLog_add : Addr
  d_fChangeLog_add : FuncData
  f_fChangeLog_since : Addr
  d_fChangeLog_since : FuncData
  f_f_law_shown : Addr
  d_f_law_shown : FuncData
  cd_f_law_shown : Addr
  P_f_law_shown : Addr
  f_f_law_bad : Addr
  d_f_law_bad : FuncData
  cd_f_law_bad : Addr
  P_f_law_bad : Addr
  f_flaw : Addr
  d_flaw : FuncData
  cd_flaw : Addr
  P_flaw : Addr
  p_fChangeLog_bound : Addr
  p_fChangeLog_floor : Addr
def cs (a : Ad) : List Addr := [a.c_ChangeLog]
def es (a : Ad) : List Addr := [a.e_InvalidNumber, a.e_InvalidKey, a.e_Forgotten]
abbrev s_fis_integer : Stmt := (top 7)
abbrev N_fis_integer : List Str := ["value"]
abbrev s_fis_key : Stmt := (top 11)
abbrev N_fis_key : List Str := ["value", "sign"]
abbrev s_fChangeLog_bound : Stmt := (inClass (top 16) 1)
abbrev N_fChangeLog_bound : List Str := ["self"]
abbrev s_fChangeLog_floor : Stmt := (inClass (top 16) 2)
abbrev N_fChangeLog_floor : List Str := ["self"]
abbrev s_fChangeLog_last : Stmt := (inClass (top 16) 3)
abbrev N_fChangeLog_last : List Str := ["self"]
abbrev s_fChangeLog_trim : Stmt := (inClass (top 16) 5)
abbrev N_fChangeLog_trim : List Str := ["self"]
abbrev s_fChangeLog_changes : Stmt := (inClass (top 16) 6)
abbrev N_fChangeLog_changes : List Str := ["self"]
abbrev s_fChangeLog___len__ : Stmt := (inClass (top 16) 8)
abbrev N_fChangeLog___len__ : List Str := ["self"]
abbrev s_fChangeLog___eq__ : Stmt := (inClass (top 16) 9)
abbrev N_fChangeLog___eq__ : List Str := ["self", "other", "mine"]
abbrev s_f_law_hand : Stmt := (top 18)
abbrev N_f_law_hand : List Str := ["script", "k", "cell", "seed"]
abbrev s_f_law_draw : Stmt := (top 19)
abbrev N_f_law_draw : List Str := ["pool", "size", "found"]
abbrev s_f_law_refused : Stmt := (top 21)
abbrev N_f_law_refused : List Str := ["call", "e"]
abbrev s_fin_range : Stmt := (top 8)
abbrev N_fin_range : List Str := ["value", "least", "most"]
abbrev s_f_law_key : Stmt := (top 20)
abbrev N_f_law_key : List Str := ["pool", "most", "turn"]
abbrev s_fcheck_number : Stmt := (top 9)
abbrev N_fcheck_number : List Str := ["value", "least", "most"]
abbrev s_fcheck_least : Stmt := (top 10)
abbrev N_fcheck_least : List Str := ["value", "least"]
abbrev s_fcheck_key : Stmt := (top 12)
abbrev N_fcheck_key : List Str := ["value"]
abbrev s_fcheck_value : Stmt := (top 15)
abbrev N_fcheck_value : List Str := ["value"]
abbrev s_fChangeLog___init__ : Stmt := (inClass (top 16) 0)
abbrev N_fChangeLog___init__ : List Str := ["self", "bound"]
abbrev s_fChangeLog_add : Stmt := (inClass (top 16) 4)
abbrev N_fChangeLog_add : List Str := ["self", "moment", "key", "old", "new", "value"]
abbrev s_fChangeLog_since : Stmt := (inClass (top 16) 7)
abbrev N_fChangeLog_since : List Str := ["self", "moment", "change"]
abbrev s_f_law_shown : Stmt := (top 22)
abbrev N_f_law_shown : List Str := ["log", "rows", "floor", "bound", "now", "moment", "row"]
abbrev q_f_law_shown : Str := ("_law_shown" ++ ".<locals>.") ++ "<lambda>"
def tab_f_law_shown (X : Cx) : List LamT := [lamTE X (xArg 0 (xCmp 0 (yVal (yAt 0 (yBody (yAt 0 (yBody (yAt 3 (defBody s_f_law_shown)))))))))]
abbrev s_f_law_bad : Stmt := (top 23)
abbrev N_f_law_bad : List Str := ["pool", "log", "now", "odd"]
abbrev q_f_law_bad : Str := ("_law_bad" ++ ".<locals>.") ++ "<lambda>"
def tab_f_law_bad (X : Cx) : List LamT := [lamTE X (xArg 0 (xCmp 0 (yVal (yAt 1 (defBody s_f_law_bad))))),
  lamTE X (xArg 0 (xCmp 0 (yVal (yAt 3 (defBody s_f_law_bad))))),
  lamTE X (xArg 0 (xCmp 0 (yVal (yAt 5 (defBody s_f_law_bad))))),
  lamTE X (xArg 0 (xCmp 0 (yVal (yAt 6 (defBody s_f_law_bad))))),
  lamTE X (xArg 0 (xCmp 0 (yVal (yAt 8 (defBody s_f_law_bad)))))]
abbrev s_flaw : Stmt := (top 24)
abbrev N_flaw : List Str := ["script", "odd", "k", "pool", "bound", "log", "other", "rows", "floor", "now", "turn", "row"]
abbrev q_flaw : Str := ("law" ++ ".<locals>.") ++ "<lambda>"
def tab_flaw (X : Cx) : List LamT := [lamTE X (xArg 0 (xCmp 0 (xBo 1 (yVal (yAt 0 (yBody (yAt 0 (defBody s_flaw))))))))]
abbrev si_InvalidNumber : Stmt := (inClass (top 1) 0)
abbrev si_InvalidKey : Stmt := (inClass (top 2) 0)
abbrev si_Forgotten : Stmt := (inClass (top 3) 0)
structure Txt [TB] (K : PySem.W.Frag) (mg : Str → Option Value) (base : Heap) (a : Ad) : Prop where
  F_fis_integer : FunD K "is_integer" "is_integer" (defArgs s_fis_integer) (defBody s_fis_integer) (defScope s_fis_integer) [] [] a.f_fis_integer a.d_fis_integer
  b_fis_integer : Binds K a.d_fis_integer ["value"] []
  g_fis_integer : mg "is_integer" = some (.ref a.f_fis_integer)
  F_fis_key : FunD K "is_key" "is_key" (defArgs s_fis_key) (defBody s_fis_key) (defScope s_fis_key) [] [] a.f_fis_key a.d_fis_key
  b_fis_key : Binds K a.d_fis_key ["value"] []
  g_fis_key : mg "is_key" = some (.ref a.f_fis_key)
  F_fChangeLog_bound : FunD K "bound" "ChangeLog.bound" (defArgs s_fChangeLog_bound) (defBody s_fChangeLog_bound) (defScope s_fChangeLog_bound) [] [] a.f_fChangeLog_bound a.d_fChangeLog_bound
  b_fChangeLog_bound : Binds K a.d_fChangeLog_bound ["self"] []
  F_fChangeLog_floor : FunD K "floor" "ChangeLog.floor" (defArgs s_fChangeLog_floor) (defBody s_fChangeLog_floor) (defScope s_fChangeLog_floor) [] [] a.f_fChangeLog_floor a.d_fChangeLog_floor
  b_fChangeLog_floor : Binds K a.d_fChangeLog_floor ["self"] []
  F_fChangeLog_last : FunD K "last" "ChangeLog.last" (defArgs s_fChangeLog_last) (defBody s_fChangeLog_last) (defScope s_fChangeLog_last) [] [] a.f_fChangeLog_last a.d_fChangeLog_last
  b_fChangeLog_last : Binds K a.d_fChangeLog_last ["self"] []
  F_fChangeLog_trim : FunD K "trim" "ChangeLog.trim" (defArgs s_fChangeLog_trim) (defBody s_fChangeLog_trim) (defScope s_fChangeLog_trim) [] [] a.f_fChangeLog_trim a.d_fChangeLog_trim
  b_fChangeLog_trim : Binds K a.d_fChangeLog_trim ["self"] []
  F_fChangeLog_changes : FunD K "changes" "ChangeLog.changes" (defArgs s_fChangeLog_changes) (defBody s_fChangeLog_changes) (defScope s_fChangeLog_changes) [] [] a.f_fChangeLog_changes a.d_fChangeLog_changes
  b_fChangeLog_changes : Binds K a.d_fChangeLog_changes ["self"] []
  F_fChangeLog___len__ : FunD K "__len__" "ChangeLog.__len__" (defArgs s_fChangeLog___len__) (defBody s_fChangeLog___len__) (defScope s_fChangeLog___len__) [] [] a.f_fChangeLog___len__ a.d_fChangeLog___len__
  b_fChangeLog___len__ : Binds K a.d_fChangeLog___len__ ["self"] []
  F_fChangeLog___eq__ : FunD K "__eq__" "ChangeLog.__eq__" (defArgs s_fChangeLog___eq__) (defBody s_fChangeLog___eq__) (defScope s_fChangeLog___eq__) [] [] a.f_fChangeLog___eq__ a.d_fChangeLog___eq__
  b_fChangeLog___eq__ : Binds K a.d_fChangeLog___eq__ ["self", "other"] []
  F_f_law_hand : FunD K "_law_hand" "_law_hand" (defArgs s_f_law_hand) (defBody s_f_law_hand) (defScope s_f_law_hand) [] [] a.f_f_law_hand a.d_f_law_hand
  b_f_law_hand : Binds K a.d_f_law_hand ["script", "k"] []
  g_f_law_hand : mg "_law_hand" = some (.ref a.f_f_law_hand)
  F_f_law_draw : FunD K "_law_draw" "_law_draw" (defArgs s_f_law_draw) (defBody s_f_law_draw) (defScope s_f_law_draw) [] [] a.f_f_law_draw a.d_f_law_draw
  b_f_law_draw : Binds K a.d_f_law_draw ["pool", "size"] []
  g_f_law_draw : mg "_law_draw" = some (.ref a.f_f_law_draw)
  F_f_law_refused : FunD K "_law_refused" "_law_refused" (defArgs s_f_law_refused) (defBody s_f_law_refused) (defScope s_f_law_refused) [] [] a.f_f_law_refused a.d_f_law_refused
  b_f_law_refused : Binds K a.d_f_law_refused ["call"] []
  g_f_law_refused : mg "_law_refused" = some (.ref a.f_f_law_refused)
  F_fin_range : FunD K "in_range" "in_range" (defArgs s_fin_range) (defBody s_fin_range) (defScope s_fin_range) [] [] a.f_fin_range a.d_fin_range
  b_fin_range : Binds K a.d_fin_range ["value", "least", "most"] []
  g_fin_range : mg "in_range" = some (.ref a.f_fin_range)
  F_f_law_key : FunD K "_law_key" "_law_key" (defArgs s_f_law_key) (defBody s_f_law_key) (defScope s_f_law_key) [] [] a.f_f_law_key a.d_f_law_key
  b_f_law_key : Binds K a.d_f_law_key ["pool", "most"] []
  g_f_law_key : mg "_law_key" = some (.ref a.f_f_law_key)
  F_fcheck_number : FunD K "check_number" "check_number" (defArgs s_fcheck_number) (defBody s_fcheck_number) (defScope s_fcheck_number) [] [] a.f_fcheck_number a.d_fcheck_number
  b_fcheck_number : Binds K a.d_fcheck_number ["value", "least", "most"] []
  g_fcheck_number : mg "check_number" = some (.ref a.f_fcheck_number)
  F_fcheck_least : FunD K "check_least" "check_least" (defArgs s_fcheck_least) (defBody s_fcheck_least) (defScope s_fcheck_least) [] [] a.f_fcheck_least a.d_fcheck_least
  b_fcheck_least : Binds K a.d_fcheck_least ["value", "least"] []
  g_fcheck_least : mg "check_least" = some (.ref a.f_fcheck_least)
  F_fcheck_key : FunD K "check_key" "check_key" (defArgs s_fcheck_key) (defBody s_fcheck_key) (defScope s_fcheck_key) [] [] a.f_fcheck_key a.d_fcheck_key
  b_fcheck_key : Binds K a.d_fcheck_key ["value"] []
  g_fcheck_key : mg "check_key" = some (.ref a.f_fcheck_key)
  F_fcheck_value : FunD K "check_value" "check_value" (defArgs s_fcheck_value) (defBody s_fcheck_value) (defScope s_fcheck_value) [] [] a.f_fcheck_value a.d_fcheck_value
  b_fcheck_value : Binds K a.d_fcheck_value ["value"] []
  g_fcheck_value : mg "check_value" = some (.ref a.f_fcheck_value)
  F_fChangeLog___init__ : FunD K "__init__" "ChangeLog.__init__" (defArgs s_fChangeLog___init__) (defBody s_fChangeLog___init__) (defScope s_fChangeLog___init__) [] [] a.f_fChangeLog___init__ a.d_fChangeLog___init__
  b_fChangeLog___init__ : Binds K a.d_fChangeLog___init__ ["self", "bound"] []
  F_fChangeLog_add : FunD K "add" "ChangeLog.add" (defArgs s_fChangeLog_add) (defBody s_fChangeLog_add) (defScope s_fChangeLog_add) [] [] a.f_fChangeLog_add a.d_fChangeLog_add
  b_fChangeLog_add : Binds K a.d_fChangeLog_add ["self", "moment", "key", "old", "new"] []
  F_fChangeLog_since : FunD K "since" "ChangeLog.since" (defArgs s_fChangeLog_since) (defBody s_fChangeLog_since) (defScope s_fChangeLog_since) [] [] a.f_fChangeLog_since a.d_fChangeLog_since
  b_fChangeLog_since : Binds K a.d_fChangeLog_since ["self", "moment"] []
  F_f_law_shown : FunD K "_law_shown" "_law_shown" (defArgs s_f_law_shown) (defBody s_f_law_shown) (defScope s_f_law_shown) [] [] a.f_f_law_shown a.d_f_law_shown
  b_f_law_shown : Binds K a.d_f_law_shown ["log", "rows", "floor", "bound", "now"] []
  g_f_law_shown : mg "_law_shown" = some (.ref a.f_f_law_shown)
  tb_f_law_shown : LamX.TabB base mg a.cd_f_law_shown a.P_f_law_shown
  hc_f_law_shown : a.d_f_law_shown.code = .ref a.cd_f_law_shown
  me_f_law_shown : (a.P_f_law_shown, q_f_law_shown) ∈ TB.T
  uq_f_law_shown : ∀ p ∈ TB.T, p.1 = a.P_f_law_shown → p.2 = q_f_law_shown
  F_f_law_bad : FunD K "_law_bad" "_law_bad" (defArgs s_f_law_bad) (defBody s_f_law_bad) (defScope s_f_law_bad) [] [] a.f_f_law_bad a.d_f_law_bad
  b_f_law_bad : Binds K a.d_f_law_bad ["pool", "log", "now"] []
  g_f_law_bad : mg "_law_bad" = some (.ref a.f_f_law_bad)
  tb_f_law_bad : LamX.TabB base mg a.cd_f_law_bad a.P_f_law_bad
  hc_f_law_bad : a.d_f_law_bad.code = .ref a.cd_f_law_bad
  me_f_law_bad : (a.P_f_law_bad, q_f_law_bad) ∈ TB.T
  uq_f_law_bad : ∀ p ∈ TB.T, p.1 = a.P_f_law_bad → p.2 = q_f_law_bad
  F_flaw : FunD K "law" "law" (defArgs s_flaw) (defBody s_flaw) (defScope s_flaw) [] [] a.f_flaw a.d_flaw
  b_flaw : Binds K a.d_flaw ["script"] []
  g_flaw : mg "law" = some (.ref a.f_flaw)
  tb_flaw : LamX.TabB base mg a.cd_flaw a.P_flaw
  hc_flaw : a.d_flaw.code = .ref a.cd_flaw
  me_flaw : (a.P_flaw, q_flaw) ∈ TB.T
  uq_flaw : ∀ p ∈ TB.T, p.1 = a.P_flaw → p.2 = q_flaw
  cl_ChangeLog : Cls K a.c_ChangeLog
  it_ChangeLog : InsT K a.c_ChangeLog
  gc_ChangeLog : mg "ChangeLog" = some (.ref a.c_ChangeLog)
  mk_ChangeLog : Mk K a.c_ChangeLog a.f_fChangeLog___init__
  eq_ChangeLog : EqT K (cs a) a.c_ChangeLog a.f_fChangeLog___eq__
  ne_ChangeLog : PySem.W.findIn K (.ref a.c_ChangeLog) "__ne__" = some (some (.builtin "object.__ne__"))
  lp_ChangeLog : PySem.W.findIn K (.ref a.c_ChangeLog) "__len__" = some (some (.ref a.f_fChangeLog___len__))
  lf_ChangeLog : PySem.W.isFn K (.ref a.f_fChangeLog___len__) = true
  ask_ChangeLog : AskT K (cs a) a.c_ChangeLog
  x_InvalidNumber : OexB K a.e_InvalidNumber "ValueError.__new__" [.type "ValueError", .type "Exception", .type "BaseException", .type "object"]
  gx_InvalidNumber : mg "InvalidNumber" = some (.ref a.e_InvalidNumber)
  xf_InvalidNumber : XfC K a.e_InvalidNumber
  xs_InvalidNumber : XisC K a.e_InvalidNumber
  kb_InvalidNumber_ValueError : PySem.W.kitOne K (.ref a.e_InvalidNumber) (.type "ValueError") = some true
  xo_InvalidNumber : PySem.W.findIn K (.ref a.e_InvalidNumber) "value" = some none
  xi_InvalidNumber : PySem.W.findIn K (.ref a.e_InvalidNumber) "__init__" = some (some (.ref a.fi_InvalidNumber))
  xt_InvalidNumber : PySem.W.isFn K (.ref a.fi_InvalidNumber) = true
  Fi_InvalidNumber : FunD K "__init__" "InvalidNumber.__init__" (defArgs si_InvalidNumber) (defBody si_InvalidNumber) (defScope si_InvalidNumber) [] [] a.fi_InvalidNumber a.di_InvalidNumber
  bi_InvalidNumber : Binds K a.di_InvalidNumber ["self", "value"] []
  x_InvalidKey : OexB K a.e_InvalidKey "ValueError.__new__" [.type "ValueError", .type "Exception", .type "BaseException", .type "object"]
  gx_InvalidKey : mg "InvalidKey" = some (.ref a.e_InvalidKey)
  xf_InvalidKey : XfC K a.e_InvalidKey
  xs_InvalidKey : XisC K a.e_InvalidKey
  kb_InvalidKey_ValueError : PySem.W.kitOne K (.ref a.e_InvalidKey) (.type "ValueError") = some true
  xo_InvalidKey : PySem.W.findIn K (.ref a.e_InvalidKey) "value" = some none
  xi_InvalidKey : PySem.W.findIn K (.ref a.e_InvalidKey) "__init__" = some (some (.ref a.fi_InvalidKey))
  xt_InvalidKey : PySem.W.isFn K (.ref a.fi_InvalidKey) = true
  Fi_InvalidKey : FunD K "__init__" "InvalidKey.__init__" (defArgs si_InvalidKey) (defBody si_InvalidKey) (defScope si_InvalidKey) [] [] a.fi_InvalidKey a.di_InvalidKey
  bi_InvalidKey : Binds K a.di_InvalidKey ["self", "value"] []
  x_Forgotten : OexB K a.e_Forgotten "LookupError.__new__" [.type "LookupError", .type "Exception", .type "BaseException", .type "object"]
  gx_Forgotten : mg "Forgotten" = some (.ref a.e_Forgotten)
  xf_Forgotten : XfC K a.e_Forgotten
  xs_Forgotten : XisC K a.e_Forgotten
  kb_Forgotten_LookupError : PySem.W.kitOne K (.ref a.e_Forgotten) (.type "LookupError") = some true
  xo_Forgotten : PySem.W.findIn K (.ref a.e_Forgotten) "until" = some none
  xi_Forgotten : PySem.W.findIn K (.ref a.e_Forgotten) "__init__" = some (some (.ref a.fi_Forgotten))
  xt_Forgotten : PySem.W.isFn K (.ref a.fi_Forgotten) = true
  Fi_Forgotten : FunD K "__init__" "Forgotten.__init__" (defArgs si_Forgotten) (defBody si_Forgotten) (defScope si_Forgotten) [] [] a.fi_Forgotten a.di_Forgotten
  bi_Forgotten : Binds K a.di_Forgotten ["self", "until"] []
  esnd : (es a).Nodup
  na_ChangeLog_own_bound : NoAttr K a.c_ChangeLog "own_bound"
  na_ChangeLog_own_changes : NoAttr K a.c_ChangeLog "own_changes"
  na_ChangeLog_own_floor : NoAttr K a.c_ChangeLog "own_floor"
  p_fChangeLog_bound : PropOf K a.c_ChangeLog "bound" a.p_fChangeLog_bound a.f_fChangeLog_bound
  p_fChangeLog_floor : PropOf K a.c_ChangeLog "floor" a.p_fChangeLog_floor a.f_fChangeLog_floor
  me_fChangeLog_add : Meth K a.c_ChangeLog "add" a.f_fChangeLog_add
  me_fChangeLog_changes : Meth K a.c_ChangeLog "changes" a.f_fChangeLog_changes
  me_fChangeLog_last : Meth K a.c_ChangeLog "last" a.f_fChangeLog_last
  me_fChangeLog_since : Meth K a.c_ChangeLog "since" a.f_fChangeLog_since
  me_fChangeLog_trim : Meth K a.c_ChangeLog "trim" a.f_fChangeLog_trim
  n_LookupError : mg "LookupError" = none
  n_ValueError : mg "ValueError" = none
  n_all : mg "all" = none
  n_bool : mg "bool" = none
  n_int : mg "int" = none
  n_isinstance : mg "isinstance" = none
  n_len : mg "len" = none
  n_list : mg "list" = none
  n_max : mg "max" = none
  n_min : mg "min" = none
  n_range : mg "range" = none
  n_repr : mg "repr" = none
  n_str : mg "str" = none
  k_CHARACTERS : ∃ u, mg "CHARACTERS" = some u ∧ RelV (V.str "abcdefghijklmnopqrstuvwxyz0123456789") u
  k_MAX_BOUND : ∃ u, mg "MAX_BOUND" = some u ∧ RelV (V.int 1000) u
  k_MAX_LENGTH : ∃ u, mg "MAX_LENGTH" = some u ∧ RelV (V.int 20) u
section
variable [TB] {P : Program} {w : World} {K : PySem.W.Frag} {mg : Str → Option Value} {base : Heap} {a : Ad}
theorem Txt.insts (T : Txt K mg base a) : ∀ C ∈ cs a, InsT K C := by
  intro C h
  simp only [cs, List.mem_cons, List.not_mem_nil, or_false] at h
  rcases h with rfl
  · exact T.it_ChangeLog
theorem Txt.exs (T : Txt K mg base a) : Exs K (es a) := ⟨by
  intro C h
  simp only [es, List.mem_cons, List.not_mem_nil, or_false] at h
  rcases h with rfl | rfl | rfl
  · exact ⟨_, _, _, xb_V, T.x_InvalidNumber, fun _ => by rfl⟩
  · exact ⟨_, _, _, xb_V, T.x_InvalidKey, fun _ => by rfl⟩
  · exact ⟨_, _, _, xb_L, T.x_Forgotten, fun _ => by rfl⟩⟩
end
noncomputable def m_fis_integer (a : Ad) : FD := runF [false] 1
   (retM (andV (unM (isB (cs a) .int) (peekM 0)) (notV (unM (isB (cs a) .bool) (peekM 0)))))
noncomputable def bd0_fis_key (a : Ad) : M D := (opM inD (peekM 1) (ret (.str "abcdefghijklmnopqrstuvwxyz0123456789")))
noncomputable def m_fis_key (a : Ad) : FD := runF [false] 2
   (seqM (ifM (orM (notM (testM (unM (isB (cs a) .str) (peekM 0)))) (notM (testM (chainM leD leD (ret (.int 1)) (unM lenD (peekM 0)) (ret (.int 20)))))) (retM (ret (.bl false))) skipM)
    (retM (unM allD (shareM (compM [1] (strM' (varM 0)) (nameT 1) (ret true) (bd0_fis_key a))))))
noncomputable def m_fChangeLog_bound (a : Ad) : FD := runF [false] 1
   (retM (unM (attD a.c_ChangeLog "own_bound") (peekM 0)))
noncomputable def m_fChangeLog_floor (a : Ad) : FD := runF [false] 1
   (retM (unM (attD a.c_ChangeLog "own_floor") (peekM 0)))
noncomputable def m_fChangeLog_last (a : Ad) : FD := runF [false] 1
   (retM (iteM (testM (opM neD (unM (attD a.c_ChangeLog "own_changes") (peekM 0)) (shareM (lstM [])))) (opM ixD (opM ixD (unM (attD a.c_ChangeLog "own_changes") (peekM 0)) (unM negI (ret (.int 1)))) (ret (.int 0))) (unM (attD a.c_ChangeLog "own_floor") (peekM 0))))
noncomputable def bd0_fChangeLog_trim (a : Ad) : MS := (putM a.c_ChangeLog "own_floor" 0 (opM ixD (wrB isLst 0 a.c_ChangeLog "own_changes" popAtD [(ret (.int 0))]) (ret (.int 0))))
noncomputable def bd1_fChangeLog_trim (a : Ad) : M Bool := (testM (opM gtD (unM lenD (unM (attP a.c_ChangeLog "own_changes") (peekM 0))) (unM (attD a.c_ChangeLog "own_bound") (peekM 0))))
noncomputable def m_fChangeLog_trim (a : Ad) : FD := runF [true] 1
   (whileM 1000000 (bd1_fChangeLog_trim a) (bd0_fChangeLog_trim a))
noncomputable def m_fChangeLog_changes (a : Ad) : FD := runF [false] 1
   (retF (unM listD (unM (attD a.c_ChangeLog "own_changes") (peekM 0))))
noncomputable def m_fChangeLog___len__ (a : Ad) : FD := runF [false] 1
   (retM (unM lenD (unM (attD a.c_ChangeLog "own_changes") (peekM 0))))
noncomputable def m_fChangeLog___eq__ (a : Ad) : FD := runF [false, false] 3
   (seqM (ifM (notM (testM (unM (isO (cs a) a.c_ChangeLog) (peekM 1)))) (retM (ret (.bl false))) skipM)
    (seqM (asgM (tupM [(unM (attD a.c_ChangeLog "own_bound") (peekM 0)), (unM (attD a.c_ChangeLog "own_floor") (peekM 0)), (unM (attD a.c_ChangeLog "own_changes") (peekM 0))]) (nameT 2))
    (retM (opM eqD (varM 2) (tupM [(unM (attD a.c_ChangeLog "own_bound") (peekM 1)), (unM (attD a.c_ChangeLog "own_floor") (peekM 1)), (unM (attD a.c_ChangeLog "own_changes") (peekM 1))])))))
noncomputable def m_f_law_hand (a : Ad) : FD := runF [false, false] 4
   (seqM (asgM (opM ixD (opM addD (slM slD (varM 0) (some (varM 1)) (some (opM addD (peekM 1) (ret (.int 1))))) (shareM (lstM [(ret (.int 0))]))) (ret (.int 0))) (nameT 2))
    (seqM (asgM (opM modI (opM mulI (opM addD (opM addD (opM modI (peekM 2) (ret (.int 2147483647))) (opM mulI (ret (.int 7919)) (peekM 1))) (ret (.int 1))) (ret (.int 48271))) (ret (.int 2147483629))) (nameT 3))
    (retF (lstM [(opM mulI (unM intD (opM geD (peekM 2) (opM powI (ret (.int 10)) (ret (.int 18))))) (peekM 2)), (varM 3)]))))
noncomputable def m_f_law_draw (a : Ad) : FD := runF [true, false] 3
   (seqM (ifM (testM (opM gtD (opM ixD (peekM 0) (ret (.int 0))) (ret (.int 0)))) (seqM (asgM (opM modI (opM ixD (peekM 0) (ret (.int 0))) (peekM 1)) (nameT 2))
    (seqM (setIx 0 (opM divI (opM ixD (peekM 0) (ret (.int 0))) (peekM 1)) (ret (.int 0)))
    (retM (varM 2)))) skipM)
    (seqM (setIx 0 (opM modI (opM addD (opM mulI (opM ixD (peekM 0) (ret (.int 1))) (ret (.int 48271))) (ret (.int 11))) (ret (.int 2147483647))) (ret (.int 1)))
    (retM (opM modI (opM divI (opM modI (opM mulI (opM ixD (peekM 0) (ret (.int 1))) (opM ixD (peekM 0) (ret (.int 1)))) (ret (.int 2147483629))) (ret (.int 64))) (peekM 1)))))
noncomputable def bd0_f_law_refused (a : Ad) (mb : LMB) : List Hd := [⟨a.e_InvalidNumber, some 1, fun a0 x0 => (retF (lstM [(ret (.str "number")), (xisM 1 a0 a.e_InvalidNumber x0), (unM reprPD (xfM 1 a0 a.e_InvalidNumber "value" x0))]))⟩,
    ⟨a.e_InvalidKey, some 1, fun a0 x0 => (retF (lstM [(ret (.str "key")), (xisM 1 a0 a.e_InvalidKey x0), (unM reprPD (xfM 1 a0 a.e_InvalidKey "value" x0))]))⟩,
    ⟨a.e_Forgotten, some 1, fun a0 x0 => (retF (lstM [(ret (.str "forgotten")), (xisM 1 a0 a.e_Forgotten x0), (xfM 1 a0 a.e_Forgotten "until" x0)]))⟩]
noncomputable def m_f_law_refused (a : Ad) (mb : LMB) : MS := (seqM (tryM (es a) (dropM (cloM mb 0 [])) (bd0_f_law_refused a mb))
    (retM (ret (.str "told"))))
noncomputable def m_fin_range (a : Ad) : FD := runF [false, false, false] 3
   (retM (andV (callM [false] (m_fis_integer a) [] (avsM [(shA (varM 0))])) (chainM leD leD (varM 1) (varM 0) (peekM 2))))
noncomputable def bd0_f_law_key (a : Ad) : M D := (opM ixD (ret (.str "abz09m")) (callM [true, false] (m_f_law_draw a) [] (avsM [(lnA 0), (shA (ret (.int 6)))])))
noncomputable def m_f_law_key (a : Ad) : FD := runF [true, false] 3
   (retM (joinM (asStrM (ret (.str ""))) (shareM (compM [2] (rng1M (opM addD (ret (.int 1)) (callM [true, false] (m_f_law_draw a) [] (avsM [(lnA 0), (shA (varM 1))])))) (nameT 2) (ret true) (bd0_f_law_key a)))))
noncomputable def m_fcheck_number (a : Ad) : FD := runF [false, false, false] 3
   (ifM (notM (testM (callM [false, false, false] (m_fin_range a) [] (avsM [(shA (varM 0)), (shA (varM 1)), (shA (varM 2))])))) (raiseF a.e_InvalidNumber "value" (varM 0)) skipM)
noncomputable def m_fcheck_least (a : Ad) : FD := runF [false, false] 2
   (ifM (orM (notM (testM (callM [false] (m_fis_integer a) [] (avsM [(shA (varM 0))])))) (testM (opM ltD (peekM 0) (peekM 1)))) (raiseF a.e_InvalidNumber "value" (varM 0)) skipM)
noncomputable def m_fcheck_key (a : Ad) : FD := runF [false] 1
   (ifM (notM (testM (callM [false] (m_fis_key a) [] (avsM [(shA (varM 0))])))) (raiseF a.e_InvalidKey "value" (varM 0)) skipM)
noncomputable def m_fcheck_value (a : Ad) : FD := runF [false] 1
   (ifM (notM (testM (callM [false] (m_fis_integer a) [] (avsM [(shA (varM 0))])))) (raiseF a.e_InvalidNumber "value" (varM 0)) skipM)
noncomputable def m_fChangeLog___init__ (a : Ad) : FD := runF [true, false] 2
   (seqM (dropM (callM [false, false, false] (m_fcheck_number a) [] (avsM [(shA (varM 1)), (shA (ret (.int 0))), (shA (ret (.int 1000)))])))
    (seqM (putM a.c_ChangeLog "own_bound" 0 (varM 1))
    (seqM (putM a.c_ChangeLog "own_floor" 0 (ret (.int 0)))
    (putB a.c_ChangeLog "own_changes" 0 (lstM [])))))
noncomputable def bd0_fChangeLog_add (a : Ad) : MS := (ifM (testM (opM isnD (peekM 5) (ret .non))) (dropM (callM [false] (m_fcheck_value a) [] (avsM [(shA (varM 5))]))) skipM)
noncomputable def m_fChangeLog_add (a : Ad) : FD := runF [true, false, false, false, false] 6
   (seqM (dropM (callM [false, false] (m_fcheck_least a) [] (avsM [(shA (varM 1)), (shA (opM addD (methM callQ a.c_ChangeLog "last" [true] (viewF 0 (m_fChangeLog_last a)) [] (lnA 0) (ret [])) (ret (.int 1))))])))
    (seqM (dropM (callM [false] (m_fcheck_key a) [] (avsM [(shA (varM 2))])))
    (seqM (forM (tupM' (tupM [(varM 3), (varM 4)])) (nameT 5) (bd0_fChangeLog_add a))
    (seqM (dropM (wrBT isLst 0 a.c_ChangeLog "own_changes" appD [(varQ 1), (varQ 2), (varQ 3), (varQ 4)]))
    (dropM (methM callQ a.c_ChangeLog "trim" [true] (m_fChangeLog_trim a) [] (lnA 0) (ret [])))))))
noncomputable def bd0_fChangeLog_since (a : Ad) : M D := (varM 2)
noncomputable def m_fChangeLog_since (a : Ad) : FD := runF [false, false] 3
   (seqM (dropM (callM [false, false] (m_fcheck_least a) [] (avsM [(shA (varM 1)), (shA (ret (.int 0)))])))
    (seqM (ifM (testM (opM ltD (peekM 1) (unM (attD a.c_ChangeLog "own_floor") (peekM 0)))) (raiseF a.e_Forgotten "until" (unM (attD a.c_ChangeLog "own_floor") (peekM 0))) skipM)
    (retF (compM [2] (seqM' (unM (attD a.c_ChangeLog "own_changes") (peekM 0))) (nameT 2) (testM (opM gtD (opM ixD (peekM 2) (ret (.int 0))) (peekM 1))) (bd0_fChangeLog_since a)))))
noncomputable def mbs_f_law_shown (a : Ad) : List (List D → M D) := [(lamM 0 0 (methM callQ a.c_ChangeLog "since" [false, false] (m_fChangeLog_since a) [] (shA (varM 0)) (avsM [(shA (varM 5))])))]
noncomputable def bd0_f_law_shown (a : Ad) : M D := (varM 6)
noncomputable def bd1_f_law_shown (a : Ad) : MS := (ifM (testM (opM ltD (peekM 5) (peekM 2))) (ifM (testM (opM neD (callCM [false] N_f_law_refused.length (m_f_law_refused a (liftB N_f_law_refused.length (mbL (mbs_f_law_shown a)))) (avsM [(shA (ret (.clo 0)))])) (shareM (lstM [(ret (.str "forgotten")), (ret (.bl true)), (varM 2)])))) (retM (ret (.bl false))) skipM) (ifM (testM (opM neD (methM callQ a.c_ChangeLog "since" [false, false] (m_fChangeLog_since a) [] (shA (varM 0)) (avsM [(shA (varM 5))])) (shareM (compM [6] (seqM' (varM 1)) (nameT 6) (testM (opM gtD (opM ixD (peekM 6) (ret (.int 0))) (peekM 5))) (bd0_f_law_shown a))))) (retM (ret (.bl false))) skipM))
noncomputable def m_f_law_shown (a : Ad) : FD := runC [false, false, false, false, false] 7
   (seqM (ifM (orM (testM (opM neD (methM callQ a.c_ChangeLog "changes" [false] (m_fChangeLog_changes a) [] (shA (varM 0)) (ret [])) (peekM 1))) (testM (opM neD (shareM (lstM [(propM a.c_ChangeLog "floor" [false] (m_fChangeLog_floor a) (shA (varM 0))), (propM a.c_ChangeLog "bound" [false] (m_fChangeLog_bound a) (shA (varM 0))), (lenO a.c_ChangeLog [false] (m_fChangeLog___len__ a) (shA (varM 0)))])) (shareM (lstM [(varM 2), (varM 3), (unM lenD (peekM 1))]))))) (retM (ret (.bl false))) skipM)
    (seqM (ifM (testM (opM neD (methM callQ a.c_ChangeLog "last" [false] (m_fChangeLog_last a) [] (shA (varM 0)) (ret [])) (iteM (testM (opM neD (varM 1) (shareM (lstM [])))) (opM ixD (opM ixD (peekM 1) (unM negI (ret (.int 1)))) (ret (.int 0))) (varM 2)))) (retM (ret (.bl false))) skipM)
    (seqM (dropM (wrF clrD (methM callN a.c_ChangeLog "changes" [false] (m_fChangeLog_changes a) [] (shA (varM 0)) (ret []))))
    (seqM (forM (rng1M (opM addD (peekM 4) (ret (.int 2)))) (nameT 5) (bd1_f_law_shown a))
    (retM (ret (.bl true)))))))
noncomputable def mbs_f_law_bad (a : Ad) : List (List D → M D) := [(lamM 0 0 (methM callQ a.c_ChangeLog "add" [true, false, false, false, false] (m_fChangeLog_add a) [] (lnA 1) (avsM [(shA (varM 3)), (shA (ret .non)), (shA (ret .non)), (shA (ret .non))]))),
   (lamM 0 0 (methM callQ a.c_ChangeLog "add" [true, false, false, false, false] (m_fChangeLog_add a) [] (lnA 1) (avsM [(shA (opM addD (peekM 2) (ret (.int 1)))), (shA (varM 3)), (shA (ret (.str "x"))), (shA (ret .non))]))),
   (lamM 0 0 (methM callQ a.c_ChangeLog "add" [true, false, false, false, false] (m_fChangeLog_add a) [] (lnA 1) (avsM [(shA (opM addD (peekM 2) (ret (.int 1)))), (shA (ret (.str "a"))), (shA (varM 3)), (shA (ret (.str "y")))]))),
   (lamM 0 0 (methM callQ a.c_ChangeLog "add" [true, false, false, false, false] (m_fChangeLog_add a) [] (lnA 1) (avsM [(shA (opM addD (peekM 2) (ret (.int 1)))), (shA (ret (.str "a"))), (shA (ret .non)), (shA (varM 3))]))),
   (lamM 0 0 (methM callQ a.c_ChangeLog "since" [true, false] (viewF 0 (m_fChangeLog_since a)) [] (lnA 1) (avsM [(shA (varM 3))])))]
noncomputable def m_f_law_bad (a : Ad) : FD := runC [true, true, false] 4
   (seqM (asgM (opM ixD (shareM (lstM [(varM 2), (opM subI (peekM 2) (ret (.int 1))), (ret .non), (ret (.bl true)), (ret (.str "9")), (unM negI (ret (.int 1)))])) (callM [true, false] (m_f_law_draw a) [] (avsM [(lnA 0), (shA (ret (.int 6)))]))) (nameT 3))
    (seqM (ifM (testM (opM neD (callCM [false] N_f_law_refused.length (m_f_law_refused a (liftB N_f_law_refused.length (mbL (mbs_f_law_bad a)))) (avsM [(shA (ret (.clo 0)))])) (shareM (lstM [(ret (.str "number")), (ret (.bl true)), (unM reprPD (peekM 3))])))) (retM (ret (.bl false))) skipM)
    (seqM (asgM (opM ixD (shareM (lstM [(ret .non), (ret (.str "")), (ret (.str "A")), (ret (.int 5)), (shareM (lstM [(ret (.str "a"))]))])) (callM [true, false] (m_f_law_draw a) [] (avsM [(lnA 0), (shA (ret (.int 5)))]))) (nameT 3))
    (seqM (ifM (testM (opM neD (callCM [false] N_f_law_refused.length (m_f_law_refused a (liftB N_f_law_refused.length (mbL (mbs_f_law_bad a)))) (avsM [(shA (ret (.clo 1)))])) (shareM (lstM [(ret (.str "key")), (ret (.bl true)), (unM reprPD (peekM 3))])))) (retM (ret (.bl false))) skipM)
    (seqM (asgM (opM ixD (shareM (lstM [(ret (.bl true)), (ret (.str "5")), (shareM (lstM [(ret (.int 5))])), (tupM [(ret (.int 5))])])) (callM [true, false] (m_f_law_draw a) [] (avsM [(lnA 0), (shA (ret (.int 4)))]))) (nameT 3))
    (seqM (ifM (testM (opM neD (callCM [false] N_f_law_refused.length (m_f_law_refused a (liftB N_f_law_refused.length (mbL (mbs_f_law_bad a)))) (avsM [(shA (ret (.clo 2)))])) (shareM (lstM [(ret (.str "number")), (ret (.bl true)), (unM reprPD (peekM 3))])))) (retM (ret (.bl false))) skipM)
    (seqM (ifM (testM (opM neD (callCM [false] N_f_law_refused.length (m_f_law_refused a (liftB N_f_law_refused.length (mbL (mbs_f_law_bad a)))) (avsM [(shA (ret (.clo 3)))])) (shareM (lstM [(ret (.str "number")), (ret (.bl true)), (unM reprPD (peekM 3))])))) (retM (ret (.bl false))) skipM)
    (seqM (asgM (opM ixD (shareM (lstM [(unM negI (ret (.int 1))), (ret .non), (ret (.bl true)), (ret (.str "1"))])) (callM [true, false] (m_f_law_draw a) [] (avsM [(lnA 0), (shA (ret (.int 4)))]))) (nameT 3))
    (retM (opM eqD (callCM [false] N_f_law_refused.length (m_f_law_refused a (liftB N_f_law_refused.length (mbL (mbs_f_law_bad a)))) (avsM [(shA (ret (.clo 4)))])) (shareM (lstM [(ret (.str "number")), (ret (.bl true)), (unM reprPD (peekM 3))]))))))))))))
noncomputable def mbs_flaw (a : Ad) : List (List D → M D) := [(lamM 0 0 (shareB (makeF a.c_ChangeLog [false] (m_fChangeLog___init__ a) [] (avsM [(shA (varM 1))]))))]
noncomputable def bd0_flaw (a : Ad) : MS := (ifM (orM (testM (opM neD (ret (.int 1000)) (ret (.int 1000)))) (testM (opM neD (callCM [false] N_f_law_refused.length (m_f_law_refused a (liftB N_f_law_refused.length (mbL (mbs_flaw a)))) (avsM [(shA (ret (.clo 0)))])) (shareM (lstM [(ret (.str "number")), (ret (.bl true)), (unM reprPD (peekM 1))]))))) (retM (ret (.bl false))) skipM)
noncomputable def bd1_flaw (a : Ad) : MS := (seqM (asgM (opM addD (opM addD (peekM 9) (ret (.int 1))) (callM [true, false] (m_f_law_draw a) [] (avsM [(lnA 3), (shA (ret (.int 3)))]))) (nameT 9))
    (seqM (asgM (tupM [(varM 9), (callM [true, false] (m_f_law_key a) [] (avsM [(lnA 3), (shA (ret (.int 2)))])), (opM ixD (shareM (lstM [(ret .non), (ret (.int 5)), (unM negI (ret (.int 7)))])) (callM [true, false] (m_f_law_draw a) [] (avsM [(lnA 3), (shA (ret (.int 3)))]))), (opM ixD (shareM (lstM [(ret .non), (ret (.int 0)), (ret (.int 8))])) (callM [true, false] (m_f_law_draw a) [] (avsM [(lnA 3), (shA (ret (.int 3)))])))]) (nameT 11))
    (seqM (dropM (methM callQ a.c_ChangeLog "add" [true, false, false, false, false] (m_fChangeLog_add a) [] (lnA 5) (avsM [(shA (opM ixD (peekM 11) (ret (.int 0)))), (shA (opM ixD (peekM 11) (ret (.int 1)))), (shA (opM ixD (peekM 11) (ret (.int 2)))), (shA (opM ixD (peekM 11) (ret (.int 3))))])))
    (seqM (dropM (wrM isLst 7 appD [(varM 11)]))
    (seqM (ifM (andM (testM (opM gtD (peekM 4) (ret (.int 0)))) (orM (testM (cmpO false (cs a) a.c_ChangeLog [true, true] (viewF 1 (viewF 0 (m_fChangeLog___eq__ a))) (lnA 5) (lnA 6))) (notM (testM (cmpO true (cs a) a.c_ChangeLog [true, true] (viewF 1 (viewF 0 (m_fChangeLog___eq__ a))) (lnA 5) (lnA 6)))))) (retM (ret (.bl false))) skipM)
    (seqM (dropM (methM callQ a.c_ChangeLog "add" [true, false, false, false, false] (m_fChangeLog_add a) [] (lnA 6) (avsM [(shA (opM ixD (peekM 11) (ret (.int 0)))), (shA (opM ixD (peekM 11) (ret (.int 1)))), (shA (opM ixD (peekM 11) (ret (.int 2)))), (shA (opM ixD (peekM 11) (ret (.int 3))))])))
    (seqM (ifM (testM (opM gtD (unM lenD (peekM 7)) (peekM 4))) (asgM (opM ixD (wrM isLst 7 popAtD [(ret (.int 0))]) (ret (.int 0))) (nameT 8)) skipM)
    (ifM (orM (notM (testM (callM [true, true, false, false, false] (viewF 1 (viewF 0 (m_f_law_shown a))) [] (avsM [(lnA 5), (lnA 7), (shA (varM 8)), (shA (varM 4)), (shA (varM 9))])))) (orM (testM (cmpO true (cs a) a.c_ChangeLog [true, true] (viewF 1 (viewF 0 (m_fChangeLog___eq__ a))) (lnA 5) (lnA 6))) (notM (testM (callM [true, true, false] (m_f_law_bad a) [] (avsM [(lnA 3), (lnA 5), (shA (varM 9))])))))) (retM (ret (.bl false))) skipM))))))))
noncomputable def bd2_flaw (a : Ad) : MS := (seqM (asgF (callF [false, false] (m_f_law_hand a) [] (avsM [(shA (varM 0)), (shA (varM 2))])) 3)
    (seqM (asgM (opM ixD (shareM (lstM [(ret (.int 0)), (ret (.int 1)), (ret (.int 2)), (ret (.int 5)), (ret (.int 1000))])) (callM [true, false] (m_f_law_draw a) [] (avsM [(lnA 3), (shA (ret (.int 5)))]))) (nameT 4))
    (seqM (parX [5, 6, 7, 8, 9] (mxB (makeF a.c_ChangeLog [false] (m_fChangeLog___init__ a) [] (avsM [(shA (varM 4))])) (mxB (makeF a.c_ChangeLog [false] (m_fChangeLog___init__ a) [] (avsM [(shA (varM 4))])) (mxF (lstM []) (mxS (ret (.int 0)) (mxS (ret (.int 0)) mx0))))))
    (seqM (forM (rng1M (callM [true, false] (m_f_law_draw a) [] (avsM [(lnA 3), (shA (ret (.int 13)))]))) (nameT 10) (bd1_flaw a))
    (ifM (orM (testM (cmpO false (cs a) a.c_ChangeLog [true, true] (viewF 1 (viewF 0 (m_fChangeLog___eq__ a))) (lnA 5) (lnA 7))) (testM (cmpO false (cs a) a.c_ChangeLog [false, false] (m_fChangeLog___eq__ a) (shA (shareB (makeF a.c_ChangeLog [false] (m_fChangeLog___init__ a) [] (avsM [(shA (varM 4))])))) (shA (shareB (makeF a.c_ChangeLog [false] (m_fChangeLog___init__ a) [] (avsM [(shA (iteM (testM (opM ltD (peekM 4) (ret (.int 1000)))) (opM addD (peekM 4) (ret (.int 1))) (ret (.int 3))))]))))))) (retM (ret (.bl false))) skipM)))))
noncomputable def m_flaw (a : Ad) : FD := runC [false] 12
   (seqM (forM (seqM' (shareM (lstM [(unM negI (ret (.int 1))), (ret (.int 1001)), (ret .non), (ret (.bl true)), (ret (.str "5"))]))) (nameT 1) (bd0_flaw a))
    (seqM (forM (rng1M (opM max2D (ret (.int 2)) (opM min2D (unM lenD (peekM 0)) (ret (.int 12))))) (nameT 2) (bd2_flaw a))
    (retM (ret (.bl true)))))
section
variable [TB] [LC] {P : Program} {w : World} {K : PySem.W.Frag} {mg : Str → Option Value} {base : Heap} {a : Ad}
theorem sci_InvalidNumber : FnScope ["self", "value"] ["self", "value"] (defScope si_InvalidNumber) := ⟨rfl, rfl, rfl, by decide +kernel, rfl, by decide +kernel, by decide +kernel⟩
theorem ok_i_InvalidNumber (T : Txt K mg base a) : DL.FnOk P w K mg base (CX P w) 1 a.fi_InvalidNumber a.di_InvalidNumber ["self", "value"] (spX a.e_InvalidNumber "value") := xinit T.Fi_InvalidNumber sci_InvalidNumber xb_V T.x_InvalidNumber T.xo_InvalidNumber fun cdv A outer s H E => pss_one (ps_ostB xb_V T.x_InvalidNumber T.xo_InvalidNumber (pv 0) (pv 1))
theorem sci_InvalidKey : FnScope ["self", "value"] ["self", "value"] (defScope si_InvalidKey) := ⟨rfl, rfl, rfl, by decide +kernel, rfl, by decide +kernel, by decide +kernel⟩
theorem ok_i_InvalidKey (T : Txt K mg base a) : DL.FnOk P w K mg base (CX P w) 1 a.fi_InvalidKey a.di_InvalidKey ["self", "value"] (spX a.e_InvalidKey "value") := xinit T.Fi_InvalidKey sci_InvalidKey xb_V T.x_InvalidKey T.xo_InvalidKey fun cdv A outer s H E => pss_one (ps_ostB xb_V T.x_InvalidKey T.xo_InvalidKey (pv 0) (pv 1))
theorem sci_Forgotten : FnScope ["self", "until"] ["self", "until"] (defScope si_Forgotten) := ⟨rfl, rfl, rfl, by decide +kernel, rfl, by decide +kernel, by decide +kernel⟩
theorem ok_i_Forgotten (T : Txt K mg base a) : DL.FnOk P w K mg base (CX P w) 1 a.fi_Forgotten a.di_Forgotten ["self", "until"] (spX a.e_Forgotten "until") := xinit T.Fi_Forgotten sci_Forgotten xb_L T.x_Forgotten T.xo_Forgotten fun cdv A outer s H E => pss_one (ps_ostB xb_L T.x_Forgotten T.xo_Forgotten (pv 0) (pv 1))
theorem sc_fis_integer : FnScope N_fis_integer ["value"] (defScope s_fis_integer) := ⟨rfl, rfl, rfl, by decide +kernel, rfl, by decide +kernel, by decide +kernel⟩
theorem ok_fis_integer (T : Txt K mg base a) : DL.FnOk P w K mg base (CX P w) 1 a.f_fis_integer a.d_fis_integer ["value"] (spD K [false] (m_fis_integer a)) :=
  fnD T.F_fis_integer sc_fis_integer rfl fun cdv A outer s H E hr F _ W tk hp =>
    (dss_one (ds_ret (de_and (de_isB .int T.insts (dp_var (q := true) 0) rfl T.n_isinstance rfl T.n_int) (de_one (de_not (de_isB .bool T.insts (dp_var (q := true) 0) rfl T.n_isinstance rfl T.n_bool))))))
theorem sc_fis_key : FnScope N_fis_key ["value"] (defScope s_fis_key) := ⟨rfl, rfl, rfl, by decide +kernel, rfl, by decide +kernel, by decide +kernel⟩
theorem ok_fis_key (T : Txt K mg base a) : DL.FnOk P w K mg base (CX P w) 1 a.f_fis_key a.d_fis_key ["value"] (spD K [false] (m_fis_key a)) :=
  fnD T.F_fis_key sc_fis_key rfl fun cdv A outer s H E hr F _ W tk hp =>
    (dss_cons (ds_if (PW.pt (dt_or (dt_not (dt_val (de_isB .str T.insts (dp_var (q := true) 0) rfl T.n_isinstance rfl T.n_str))) (dt_or1 (dt_not (dt_chain (o_le hr.units) s_le (o_le hr.units) s_le (de_int (q := true)) (de_call0 k_len s_len rfl T.n_len (dp_var (q := true) 0)) (de_pk (de_globE (q := true) rfl T.k_MAX_LENGTH (fun _ => Rep.int _)))))))) (dss_one (ds_ret (de_bl (q := true)))) dss_nil)
    (dss_one (ds_ret (de_call0 (cr_all rfl) s_all rfl T.n_all (de_pk (de_fr (df_lc (own := [("sign", 1)]) rfl sc_fis_key.nd (di_str (de_var 0)) (blkOk_by (N := N_fis_key) (sc := defScope s_fis_key) (by decide +kernel)) (fun _ _ _ _ _ _ => (dg_name 1 sc_fis_key.nd)) (fun _ _ _ _ _ _ => dt_yes) (fun _ _ _ _ _ _ => (de_cmpQ (o_in hr.units) s_in (dp_var (q := true) 1) (de_pk (de_globE (q := true) rfl T.k_CHARACTERS (fun _ => Rep.str _))) rfl)))))))))
theorem sc_fChangeLog_bound : FnScope N_fChangeLog_bound ["self"] (defScope s_fChangeLog_bound) := ⟨rfl, rfl, rfl, by decide +kernel, rfl, by decide +kernel, by decide +kernel⟩
theorem ok_fChangeLog_bound (T : Txt K mg base a) : DL.FnOk P w K mg base (CX P w) 1 a.f_fChangeLog_bound a.d_fChangeLog_bound ["self"] (spD K [false] (m_fChangeLog_bound a)) :=
  fnD T.F_fChangeLog_bound sc_fChangeLog_bound rfl fun cdv A outer s H E hr F _ W tk hp =>
    (dss_one (ds_ret (de_fld T.cl_ChangeLog T.na_ChangeLog_own_bound (dp_var (q := true) 0))))
theorem sc_fChangeLog_floor : FnScope N_fChangeLog_floor ["self"] (defScope s_fChangeLog_floor) := ⟨rfl, rfl, rfl, by decide +kernel, rfl, by decide +kernel, by decide +kernel⟩
theorem ok_fChangeLog_floor (T : Txt K mg base a) : DL.FnOk P w K mg base (CX P w) 1 a.f_fChangeLog_floor a.d_fChangeLog_floor ["self"] (spD K [false] (m_fChangeLog_floor a)) :=
  fnD T.F_fChangeLog_floor sc_fChangeLog_floor rfl fun cdv A outer s H E hr F _ W tk hp =>
    (dss_one (ds_ret (de_fld T.cl_ChangeLog T.na_ChangeLog_own_floor (dp_var (q := true) 0))))
theorem sc_fChangeLog_last : FnScope N_fChangeLog_last ["self"] (defScope s_fChangeLog_last) := ⟨rfl, rfl, rfl, by decide +kernel, rfl, by decide +kernel, by decide +kernel⟩
theorem ok_fChangeLog_last (T : Txt K mg base a) : DL.FnOk P w K mg base (CX P w) 1 a.f_fChangeLog_last a.d_fChangeLog_last ["self"] (spD K [false] (m_fChangeLog_last a)) :=
  fnD T.F_fChangeLog_last sc_fChangeLog_last rfl fun cdv A outer s H E hr F _ W tk hp =>
    (dss_one (ds_ret (de_if (dt_cmp (op_neP hr.units) s_ne (de_fld T.cl_ChangeLog T.na_ChangeLog_own_changes (dp_var (q := true) 0)) (de_pk (de_fr (df_lst (da_nil (q := true))))) rfl) (de_ix (de_ix (de_fld T.cl_ChangeLog T.na_ChangeLog_own_changes (dp_var (q := true) 0)) (de_pk (de_un un_neg s_neg (de_pk (de_int (q := true))))) (fun _ _ => rfl)) (de_pk (de_int (q := true))) (fun _ _ => rfl)) (de_fld T.cl_ChangeLog T.na_ChangeLog_own_floor (dp_var (q := true) 0)))))
theorem sc_fChangeLog_trim : FnScope N_fChangeLog_trim ["self"] (defScope s_fChangeLog_trim) := ⟨rfl, rfl, rfl, by decide +kernel, rfl, by decide +kernel, by decide +kernel⟩
theorem ok_fChangeLog_trim (T : Txt K mg base a) : DL.FnOk P w K mg base (CX P w) 1 a.f_fChangeLog_trim a.d_fChangeLog_trim ["self"] (spD K [true] (m_fChangeLog_trim a)) :=
  fnD T.F_fChangeLog_trim sc_fChangeLog_trim rfl fun cdv A outer s H E hr F _ W tk hp =>
    (dss_one (ds_while 1000000 hp (dt_cmp (q1 := true) (q2 := true) (o_gt hr.units) s_gt (de_call0 k_len s_len rfl T.n_len (dp_fld T.cl_ChangeLog T.na_ChangeLog_own_changes (dp_var (q := true) 0))) (de_pk (de_fld T.cl_ChangeLog T.na_ChangeLog_own_bound (dp_var (q := true) 0))) rfl) (dss_one (ds_put 0 T.cl_ChangeLog T.na_ChangeLog_own_floor (de_ix (de_wrB 0 T.cl_ChangeLog T.na_ChangeLog_own_changes PySem.F.slot_list_pop PySem.F.type_list_pop mt_popAt s_popAt (da_cons (de_int (q := true)) (da_nil (q := true)))) (de_pk (de_int (q := true))) (fun _ _ => rfl))))))
theorem sc_fChangeLog_changes : FnScope N_fChangeLog_changes ["self"] (defScope s_fChangeLog_changes) := ⟨rfl, rfl, rfl, by decide +kernel, rfl, by decide +kernel, by decide +kernel⟩
theorem ok_fChangeLog_changes (T : Txt K mg base a) : DL.FnOk P w K mg base (CX P w) 1 a.f_fChangeLog_changes a.d_fChangeLog_changes ["self"] (spD K [false] (m_fChangeLog_changes a)) :=
  fnD T.F_fChangeLog_changes sc_fChangeLog_changes rfl fun cdv A outer s H E hr F _ W tk hp =>
    (dss_one (ds_retF (df_callT call_list_of s_list rfl T.n_list (de_pk (de_fld T.cl_ChangeLog T.na_ChangeLog_own_changes (dp_var (q := true) 0))))))
theorem sc_fChangeLog___len__ : FnScope N_fChangeLog___len__ ["self"] (defScope s_fChangeLog___len__) := ⟨rfl, rfl, rfl, by decide +kernel, rfl, by decide +kernel, by decide +kernel⟩
theorem ok_fChangeLog___len__ (T : Txt K mg base a) : DL.FnOk P w K mg base (CX P w) 1 a.f_fChangeLog___len__ a.d_fChangeLog___len__ ["self"] (spD K [false] (m_fChangeLog___len__ a)) :=
  fnD T.F_fChangeLog___len__ sc_fChangeLog___len__ rfl fun cdv A outer s H E hr F _ W tk hp =>
    (dss_one (ds_ret (de_call0 k_len s_len rfl T.n_len (de_pk (de_fld T.cl_ChangeLog T.na_ChangeLog_own_changes (dp_var (q := true) 0))))))
theorem sc_fChangeLog___eq__ : FnScope N_fChangeLog___eq__ ["self", "other"] (defScope s_fChangeLog___eq__) := ⟨rfl, rfl, rfl, by decide +kernel, rfl, by decide +kernel, by decide +kernel⟩
theorem ok_fChangeLog___eq__ (T : Txt K mg base a) : DL.FnOk P w K mg base (CX P w) 1 a.f_fChangeLog___eq__ a.d_fChangeLog___eq__ ["self", "other"] (spD K [false, false] (m_fChangeLog___eq__ a)) :=
  fnD T.F_fChangeLog___eq__ sc_fChangeLog___eq__ rfl fun cdv A outer s H E hr F _ W tk hp =>
    (dss_cons (ds_if (dt_not (dt_val (de_isO T.insts T.ask_ChangeLog (dp_var (q := true) 1) rfl T.n_isinstance rfl T.gc_ChangeLog))) (dss_one (ds_ret (de_bl (q := true)))) dss_nil)
    (dss_cons (ds_set 2 sc_fChangeLog___eq__.nd (de_tup (da_cons (de_fld T.cl_ChangeLog T.na_ChangeLog_own_bound (dp_var (q := true) 0)) (da_cons (de_fld T.cl_ChangeLog T.na_ChangeLog_own_floor (dp_var (q := true) 0)) (da_cons (de_fld T.cl_ChangeLog T.na_ChangeLog_own_changes (dp_var (q := true) 0)) (da_nil (q := true)))))))
    (dss_one (ds_ret (de_cmp (op_eqP hr.units) s_eq (de_var 2) (de_pk (de_tup (da_cons (de_fld T.cl_ChangeLog T.na_ChangeLog_own_bound (dp_var (q := true) 1)) (da_cons (de_fld T.cl_ChangeLog T.na_ChangeLog_own_floor (dp_var (q := true) 1)) (da_cons (de_fld T.cl_ChangeLog T.na_ChangeLog_own_changes (dp_var (q := true) 1)) (da_nil (q := true))))))) rfl)))))
theorem sc_f_law_hand : FnScope N_f_law_hand ["script", "k"] (defScope s_f_law_hand) := ⟨rfl, rfl, rfl, by decide +kernel, rfl, by decide +kernel, by decide +kernel⟩
theorem ok_f_law_hand (T : Txt K mg base a) : DL.FnOk P w K mg base (CX P w) 1 a.f_f_law_hand a.d_f_law_hand ["script", "k"] (spD K [false, false] (m_f_law_hand a)) :=
  fnD T.F_f_law_hand sc_f_law_hand rfl fun cdv A outer s H E hr F _ W tk hp =>
    (dss_cons (ds_set 2 sc_f_law_hand.nd (de_ix (de_op o_addD s_addD (de_sl (de_var 0) (dx_some (de_var 1)) (dx_some (de_opQ o_addD s_addD (dp_var (q := true) 1) (de_pk (de_int (q := true)))))) (de_pk (de_fr (df_lst (da_cons (de_int (q := true)) (da_nil (q := true))))))) (de_pk (de_int (q := true))) (fun _ _ => rfl)))
    (dss_cons (ds_set 3 sc_f_law_hand.nd (de_op0 op_mod s_mod (de_op0 op_mul s_mul (de_op o_addD s_addD (de_op o_addD s_addD (de_op0Q op_mod s_mod (dp_var (q := true) 2) (de_pk (de_int (q := true)))) (de_pk (de_op0 (q1 := true) (q2 := true) op_mul s_mul (de_int (q := true)) (dp_var (q := true) 1)))) (de_pk (de_int (q := true)))) (de_pk (de_int (q := true)))) (de_pk (de_int (q := true)))))
    (dss_one (ds_retF (df_lst (da_cons (de_op0 (q1 := true) (q2 := true) op_mul s_mul (de_callT0 call_int1 s_int rfl T.n_int (de_pk (de_cmpQ (o_ge hr.units) s_ge (dp_var (q := true) 2) (de_pk (de_op0 (q1 := true) (q2 := true) op_pow s_pow (de_int (q := true)) (de_pk (de_int (q := true))))) rfl))) (dp_var (q := true) 2)) (da_cons (de_var 3) (da_nil (q := true)))))))))
theorem sc_f_law_draw : FnScope N_f_law_draw ["pool", "size"] (defScope s_f_law_draw) := ⟨rfl, rfl, rfl, by decide +kernel, rfl, by decide +kernel, by decide +kernel⟩
theorem ok_f_law_draw (T : Txt K mg base a) : DL.FnOk P w K mg base (CX P w) 1 a.f_f_law_draw a.d_f_law_draw ["pool", "size"] (spD K [true, false] (m_f_law_draw a)) :=
  fnD T.F_f_law_draw sc_f_law_draw rfl fun cdv A outer s H E hr F _ W tk hp =>
    (dss_cons (ds_if (dt_cmp (q1 := true) (q2 := true) (o_gt hr.units) s_gt (de_ixQ (dp_var (q := true) 0) (de_pk (de_int (q := true))) (fun _ _ => rfl)) (de_pk (de_int (q := true))) rfl) (dss_cons (ds_set 2 sc_f_law_draw.nd (de_op0 (q1 := true) (q2 := true) op_mod s_mod (de_ixQ (dp_var (q := true) 0) (de_pk (de_int (q := true))) (fun _ _ => rfl)) (dp_var (q := true) 1)))
    (dss_cons (ds_setIx 0 (de_op0 (q1 := true) (q2 := true) op_fdiv s_div (de_ixQ (dp_var (q := true) 0) (de_pk (de_int (q := true))) (fun _ _ => rfl)) (dp_var (q := true) 1)) (de_pk (de_int (q := true))))
    (dss_one (ds_ret (de_var 2))))) dss_nil)
    (dss_cons (ds_setIx 0 (de_op0 op_mod s_mod (de_op o_addD s_addD (de_op0 (q1 := true) (q2 := true) op_mul s_mul (de_ixQ (dp_var (q := true) 0) (de_pk (de_int (q := true))) (fun _ _ => rfl)) (de_pk (de_int (q := true)))) (de_pk (de_int (q := true)))) (de_pk (de_int (q := true)))) (de_pk (de_int (q := true))))
    (dss_one (ds_ret (de_op0 (q1 := true) (q2 := true) op_mod s_mod (de_op0 (q1 := true) (q2 := true) op_fdiv s_div (de_op0 (q1 := true) (q2 := true) op_mod s_mod (de_op0 (q1 := true) (q2 := true) op_mul s_mul (de_ixQ (dp_var (q := true) 0) (de_pk (de_int (q := true))) (fun _ _ => rfl)) (de_pk (de_ixQ (dp_var (q := true) 0) (de_pk (de_int (q := true))) (fun _ _ => rfl)))) (de_pk (de_int (q := true)))) (de_pk (de_int (q := true)))) (dp_var (q := true) 1))))))
theorem sc_f_law_refused : FnScope N_f_law_refused ["call"] (defScope s_f_law_refused) := ⟨rfl, rfl, rfl, by decide +kernel, rfl, by decide +kernel, by decide +kernel⟩
theorem ok_f_law_refused (T : Txt K mg base a) (kf : Nat) : FnC P w K mg base (kf + 1) kf a.f_f_law_refused a.d_f_law_refused ["call"] N_f_law_refused (m_f_law_refused a) :=
  fnC (k := kf + 0) T.F_f_law_refused sc_f_law_refused (by decide +kernel) fun cdv A outer s H E hr gn mb F _ W nd tk hp kn =>
    (dss_cons (ds_try T.exs rfl rfl tk (fun W pn xe tk hp => have kn := Kn.tr (pn := pn) (xe := xe) kn; (dss_one (ds_expr (de_clo0 0 kn (hr.mono (by omega)) tk))))
    (.as 1 (List.mem_of_getElem? (i := 0) rfl) gvn nd rfl rfl ⟨rfl, by decide, .inl T.gx_InvalidNumber⟩ (fun a0 oe cls d pn hz hf x0 dd fv G0 k => (dss_one (ds_retF (df_lst (da_cons (de_str (q := true)) (da_cons (de_xis (q := true) 1 k T.xf_InvalidNumber T.xs_InvalidNumber T.kb_InvalidNumber_ValueError hz hf rfl T.n_isinstance rfl T.n_ValueError) (da_cons (de_call0 (call_reprS hr) s_reprP rfl T.n_repr (de_pk (de_xf (q := true) 1 k T.xf_InvalidNumber T.xo_InvalidNumber hz hf))) (da_nil (q := true)))))))))
    (.as 1 (List.mem_of_getElem? (i := 1) rfl) gvn nd rfl rfl ⟨rfl, by decide, .inl T.gx_InvalidKey⟩ (fun a0 oe cls d pn hz hf x0 dd fv G0 k => (dss_one (ds_retF (df_lst (da_cons (de_str (q := true)) (da_cons (de_xis (q := true) 1 k T.xf_InvalidKey T.xs_InvalidKey T.kb_InvalidKey_ValueError hz hf rfl T.n_isinstance rfl T.n_ValueError) (da_cons (de_call0 (call_reprS hr) s_reprP rfl T.n_repr (de_pk (de_xf (q := true) 1 k T.xf_InvalidKey T.xo_InvalidKey hz hf))) (da_nil (q := true)))))))))
    (.as 1 (List.mem_of_getElem? (i := 2) rfl) gvn nd rfl rfl ⟨rfl, by decide, .inl T.gx_Forgotten⟩ (fun a0 oe cls d pn hz hf x0 dd fv G0 k => (dss_one (ds_retF (df_lst (da_cons (de_str (q := true)) (da_cons (de_xis (q := true) 1 k T.xf_Forgotten T.xs_Forgotten T.kb_Forgotten_LookupError hz hf rfl T.n_isinstance rfl T.n_LookupError) (da_cons (de_xf (q := true) 1 k T.xf_Forgotten T.xo_Forgotten hz hf) (da_nil (q := true)))))))))
    .nil))))
    (dss_one (ds_ret (de_str (q := true)))))
theorem sc_fin_range : FnScope N_fin_range ["value", "least", "most"] (defScope s_fin_range) := ⟨rfl, rfl, rfl, by decide +kernel, rfl, by decide +kernel, by decide +kernel⟩
theorem ok_fin_range (T : Txt K mg base a) : DL.FnOk P w K mg base (CX P w) 2 a.f_fin_range a.d_fin_range ["value", "least", "most"] (spD K [false, false, false] (m_fin_range a)) :=
  fnD T.F_fin_range sc_fin_range rfl fun cdv A outer s H E hr F _ W tk hp =>
    (dss_one (ds_ret (de_and (de_own (ok_fis_integer T) (hr.mono (by decide)) tk rfl T.g_fis_integer T.F_fis_integer.kp T.b_fis_integer .nil (fun _ => .nil) (dvs_cons (dv_sh (de_var 0)) (dvs_nil (q := true)))) (de_one (de_chain (o_le hr.units) s_le (o_le hr.units) s_le (de_var 1) (de_var 0) (dp_var (q := true) 2))))))
theorem sc_f_law_key : FnScope N_f_law_key ["pool", "most"] (defScope s_f_law_key) := ⟨rfl, rfl, rfl, by decide +kernel, rfl, by decide +kernel, by decide +kernel⟩
theorem ok_f_law_key (T : Txt K mg base a) : DL.FnOk P w K mg base (CX P w) 2 a.f_f_law_key a.d_f_law_key ["pool", "most"] (spD K [true, false] (m_f_law_key a)) :=
  fnD T.F_f_law_key sc_f_law_key rfl fun cdv A outer s H E hr F _ W tk hp =>
    (dss_one (ds_ret (de_join (dz_str (de_str (q := true))) (de_pk (de_fr (df_lc (own := [("turn", 2)]) rfl sc_f_law_key.nd (di_rng1 rfl T.n_range (de_op o_addD s_addD (de_int (q := true)) (de_pk (de_own (ok_f_law_draw T) (hr.mono (by decide)) tk rfl T.g_f_law_draw T.F_f_law_draw.kp T.b_f_law_draw .nil (fun _ => .nil) (dvs_cons (dv_ln (q := true) 0) (dvs_cons (dv_sh (de_var 1)) (dvs_nil (q := true)))))))) (blkOk_by (N := N_f_law_key) (sc := defScope s_f_law_key) (by decide +kernel)) (fun _ _ _ _ _ _ => (dg_name 2 sc_f_law_key.nd)) (fun _ _ _ _ _ _ => dt_yes) (fun _ _ _ _ _ _ => (de_ix (de_str (q := true)) (de_pk (de_own (ok_f_law_draw T) (hr.mono (by decide)) takes0 rfl T.g_f_law_draw T.F_f_law_draw.kp T.b_f_law_draw .nil (fun _ => .nil) (dvs_cons (dv_ln (q := true) 0) (dvs_cons (dv_sh (de_int (q := true))) (dvs_nil (q := true)))))) (fun _ _ => rfl)))))))))
theorem sc_fcheck_number : FnScope N_fcheck_number ["value", "least", "most"] (defScope s_fcheck_number) := ⟨rfl, rfl, rfl, by decide +kernel, rfl, by decide +kernel, by decide +kernel⟩
theorem ok_fcheck_number (T : Txt K mg base a) : DL.FnOk P w K mg base (CX P w) 3 a.f_fcheck_number a.d_fcheck_number ["value", "least", "most"] (spD K [false, false, false] (m_fcheck_number a)) :=
  fnD T.F_fcheck_number sc_fcheck_number rfl fun cdv A outer s H E hr F _ W tk hp =>
    (dss_one (ds_if (dt_not (dt_val (de_own (ok_fin_range T) (hr.mono (by decide)) tk rfl T.g_fin_range T.F_fin_range.kp T.b_fin_range .nil (fun _ => .nil) (dvs_cons (dv_sh (de_var 0)) (dvs_cons (dv_sh (de_var 1)) (dvs_cons (dv_sh (de_var 2)) (dvs_nil (q := true)))))))) (dss_one (ds_raise rfl xb_V T.x_InvalidNumber T.xi_InvalidNumber T.xt_InvalidNumber (ok_i_InvalidNumber T) (hr.mono (by decide)) tk T.bi_InvalidNumber rfl T.gx_InvalidNumber (de_var 0))) dss_nil))
theorem sc_fcheck_least : FnScope N_fcheck_least ["value", "least"] (defScope s_fcheck_least) := ⟨rfl, rfl, rfl, by decide +kernel, rfl, by decide +kernel, by decide +kernel⟩
theorem ok_fcheck_least (T : Txt K mg base a) : DL.FnOk P w K mg base (CX P w) 3 a.f_fcheck_least a.d_fcheck_least ["value", "least"] (spD K [false, false] (m_fcheck_least a)) :=
  fnD T.F_fcheck_least sc_fcheck_least rfl fun cdv A outer s H E hr F _ W tk hp =>
    (dss_one (ds_if (PW.pt (dt_or (dt_not (dt_val (de_own (ok_fis_integer T) (hr.mono (by decide)) tk rfl T.g_fis_integer T.F_fis_integer.kp T.b_fis_integer .nil (fun _ => .nil) (dvs_cons (dv_sh (de_var 0)) (dvs_nil (q := true)))))) (dt_or1 (dt_cmpQ (o_lt hr.units) s_lt (dp_var (q := true) 0) (dp_var (q := true) 1) rfl)))) (dss_one (ds_raise rfl xb_V T.x_InvalidNumber T.xi_InvalidNumber T.xt_InvalidNumber (ok_i_InvalidNumber T) (hr.mono (by decide)) tk T.bi_InvalidNumber rfl T.gx_InvalidNumber (de_var 0))) dss_nil))
theorem sc_fcheck_key : FnScope N_fcheck_key ["value"] (defScope s_fcheck_key) := ⟨rfl, rfl, rfl, by decide +kernel, rfl, by decide +kernel, by decide +kernel⟩
theorem ok_fcheck_key (T : Txt K mg base a) : DL.FnOk P w K mg base (CX P w) 3 a.f_fcheck_key a.d_fcheck_key ["value"] (spD K [false] (m_fcheck_key a)) :=
  fnD T.F_fcheck_key sc_fcheck_key rfl fun cdv A outer s H E hr F _ W tk hp =>
    (dss_one (ds_if (dt_not (dt_val (de_own (ok_fis_key T) (hr.mono (by decide)) tk rfl T.g_fis_key T.F_fis_key.kp T.b_fis_key .nil (fun _ => .nil) (dvs_cons (dv_sh (de_var 0)) (dvs_nil (q := true)))))) (dss_one (ds_raise rfl xb_V T.x_InvalidKey T.xi_InvalidKey T.xt_InvalidKey (ok_i_InvalidKey T) (hr.mono (by decide)) tk T.bi_InvalidKey rfl T.gx_InvalidKey (de_var 0))) dss_nil))
theorem sc_fcheck_value : FnScope N_fcheck_value ["value"] (defScope s_fcheck_value) := ⟨rfl, rfl, rfl, by decide +kernel, rfl, by decide +kernel, by decide +kernel⟩
theorem ok_fcheck_value (T : Txt K mg base a) : DL.FnOk P w K mg base (CX P w) 3 a.f_fcheck_value a.d_fcheck_value ["value"] (spD K [false] (m_fcheck_value a)) :=
  fnD T.F_fcheck_value sc_fcheck_value rfl fun cdv A outer s H E hr F _ W tk hp =>
    (dss_one (ds_if (dt_not (dt_val (de_own (ok_fis_integer T) (hr.mono (by decide)) tk rfl T.g_fis_integer T.F_fis_integer.kp T.b_fis_integer .nil (fun _ => .nil) (dvs_cons (dv_sh (de_var 0)) (dvs_nil (q := true)))))) (dss_one (ds_raise rfl xb_V T.x_InvalidNumber T.xi_InvalidNumber T.xt_InvalidNumber (ok_i_InvalidNumber T) (hr.mono (by decide)) tk T.bi_InvalidNumber rfl T.gx_InvalidNumber (de_var 0))) dss_nil))
theorem sc_fChangeLog___init__ : FnScope N_fChangeLog___init__ ["self", "bound"] (defScope s_fChangeLog___init__) := ⟨rfl, rfl, rfl, by decide +kernel, rfl, by decide +kernel, by decide +kernel⟩
theorem ok_fChangeLog___init__ (T : Txt K mg base a) : DL.FnOk P w K mg base (CX P w) 4 a.f_fChangeLog___init__ a.d_fChangeLog___init__ ["self", "bound"] (spD K [true, false] (m_fChangeLog___init__ a)) :=
  fnD T.F_fChangeLog___init__ sc_fChangeLog___init__ rfl fun cdv A outer s H E hr F _ W tk hp =>
    (dss_cons (ds_expr (de_own (ok_fcheck_number T) (hr.mono (by decide)) tk rfl T.g_fcheck_number T.F_fcheck_number.kp T.b_fcheck_number .nil (fun _ => .nil) (dvs_cons (dv_sh (de_var 1)) (dvs_cons (dv_sh (de_int (q := true))) (dvs_cons (dv_sh (de_globE (q := true) rfl T.k_MAX_BOUND (fun _ => Rep.int _))) (dvs_nil (q := true)))))))
    (dss_cons (ds_put 0 T.cl_ChangeLog T.na_ChangeLog_own_bound (de_var 1))
    (dss_cons (ds_put 0 T.cl_ChangeLog T.na_ChangeLog_own_floor (de_int (q := true)))
    (dss_one (ds_putB 0 T.cl_ChangeLog T.na_ChangeLog_own_changes (df_lst (da_nil (q := true))))))))
theorem sc_fChangeLog_add : FnScope N_fChangeLog_add ["self", "moment", "key", "old", "new"] (defScope s_fChangeLog_add) := ⟨rfl, rfl, rfl, by decide +kernel, rfl, by decide +kernel, by decide +kernel⟩
theorem ok_fChangeLog_add (T : Txt K mg base a) : DL.FnOk P w K mg base (CX P w) 4 a.f_fChangeLog_add a.d_fChangeLog_add ["self", "moment", "key", "old", "new"] (spD K [true, false, false, false, false] (m_fChangeLog_add a)) :=
  fnD T.F_fChangeLog_add sc_fChangeLog_add rfl fun cdv A outer s H E hr F _ W tk hp =>
    (dss_cons (ds_expr (de_own (ok_fcheck_least T) (hr.mono (by decide)) tk rfl T.g_fcheck_least T.F_fcheck_least.kp T.b_fcheck_least .nil (fun _ => .nil) (dvs_cons (dv_sh (de_var 1)) (dvs_cons (dv_sh (de_op o_addD s_addD (de_meth0 (dv_ln (q := true) 0) T.cl_ChangeLog T.me_fChangeLog_last ((ok_fChangeLog_last T).vw 0 [true]) (hr.mono (by decide)) tk T.b_fChangeLog_last .nil (fun _ => .nil)) (de_pk (de_int (q := true))))) (dvs_nil (q := true))))))
    (dss_cons (ds_expr (de_own (ok_fcheck_key T) (hr.mono (by decide)) tk rfl T.g_fcheck_key T.F_fcheck_key.kp T.b_fcheck_key .nil (fun _ => .nil) (dvs_cons (dv_sh (de_var 2)) (dvs_nil (q := true)))))
    (dss_cons (ds_for hp rfl (di_tup (de_tup (da_cons (de_var 3) (da_cons (de_var 4) (da_nil (q := true)))))) (dg_name 5 sc_fChangeLog_add.nd) (dss_one (ds_if (dt_cmpQ o_isn s_isn (dp_var (q := true) 5) (de_pk (de_non (q := true))) rfl) (dss_one (ds_expr (de_own (ok_fcheck_value T) (hr.mono (by decide)) tk rfl T.g_fcheck_value T.F_fcheck_value.kp T.b_fcheck_value .nil (fun _ => .nil) (dvs_cons (dv_sh (de_var 5)) (dvs_nil (q := true)))))) dss_nil)))
    (dss_cons (ds_expr (de_wrBT 0 T.cl_ChangeLog T.na_ChangeLog_own_changes PySem.F.slot_list_append PySem.F.type_list_append mt_append s_app (da_cons (de_varQ (q := true) 1) (da_cons (de_varQ (q := true) 2) (da_cons (de_varQ (q := true) 3) (da_cons (de_varQ (q := true) 4) (da_nil (q := true))))))))
    (dss_one (ds_expr (de_meth0 (dv_ln (q := true) 0) T.cl_ChangeLog T.me_fChangeLog_trim (ok_fChangeLog_trim T) (hr.mono (by decide)) tk T.b_fChangeLog_trim .nil (fun _ => .nil))))))))
theorem sc_fChangeLog_since : FnScope N_fChangeLog_since ["self", "moment"] (defScope s_fChangeLog_since) := ⟨rfl, rfl, rfl, by decide +kernel, rfl, by decide +kernel, by decide +kernel⟩
theorem ok_fChangeLog_since (T : Txt K mg base a) : DL.FnOk P w K mg base (CX P w) 4 a.f_fChangeLog_since a.d_fChangeLog_since ["self", "moment"] (spD K [false, false] (m_fChangeLog_since a)) :=
  fnD T.F_fChangeLog_since sc_fChangeLog_since rfl fun cdv A outer s H E hr F _ W tk hp =>
    (dss_cons (ds_expr (de_own (ok_fcheck_least T) (hr.mono (by decide)) tk rfl T.g_fcheck_least T.F_fcheck_least.kp T.b_fcheck_least .nil (fun _ => .nil) (dvs_cons (dv_sh (de_var 1)) (dvs_cons (dv_sh (de_int (q := true))) (dvs_nil (q := true))))))
    (dss_cons (ds_if (dt_cmpQ (o_lt hr.units) s_lt (dp_var (q := true) 1) (de_pk (de_fld T.cl_ChangeLog T.na_ChangeLog_own_floor (dp_var (q := true) 0))) rfl) (dss_one (ds_raise rfl xb_L T.x_Forgotten T.xi_Forgotten T.xt_Forgotten (ok_i_Forgotten T) (hr.mono (by decide)) tk T.bi_Forgotten rfl T.gx_Forgotten (de_fld T.cl_ChangeLog T.na_ChangeLog_own_floor (dp_var (q := true) 0)))) dss_nil)
    (dss_one (ds_retF (df_lc (own := [("change", 2)]) rfl sc_fChangeLog_since.nd (di_list (de_fld T.cl_ChangeLog T.na_ChangeLog_own_changes (dp_var (q := true) 0))) (blkOk_by (N := N_fChangeLog_since) (sc := defScope s_fChangeLog_since) (by decide +kernel)) (fun _ _ _ _ _ _ => (dg_name 2 sc_fChangeLog_since.nd)) (fun _ _ _ _ _ _ => (dt_ifs (dt_cmp (q1 := true) (q2 := true) (o_gt hr.units) s_gt (de_ixQ (dp_var (q := true) 2) (de_pk (de_int (q := true))) (fun _ _ => rfl)) (dp_var (q := true) 1) rfl))) (fun _ _ _ _ _ _ => (de_var 2)))))))
theorem sc_f_law_shown : FnScope N_f_law_shown ["log", "rows", "floor", "bound", "now"] (defScope s_f_law_shown) := ⟨rfl, rfl, rfl, by decide +kernel, rfl, by decide +kernel, by decide +kernel⟩
theorem ok_f_law_shown (T : Txt K mg base a) : DL.FnOk P w K mg base (CX P w) 7 a.f_f_law_shown a.d_f_law_shown ["log", "rows", "floor", "bound", "now"] (spD K [false, false, false, false, false] (m_f_law_shown a)) :=
  fnDM (kf := 5) (mbs := mbs_f_law_shown a) tab_f_law_shown T.F_f_law_shown T.hc_f_law_shown sc_f_law_shown rfl (fun A outer s H E hl =>
    (.cons (lam_row (ls := []) (ps := []) (lamG_by (sc := defScope s_f_law_shown) (by decide +kernel)) rfl (fun _ _ _ _ _ us hl => match us, hl with | [], _ => rfl) (fun A outer s H E f2 c2 hr F tk hp => (de_meth (dv_sh (de_var 0)) T.cl_ChangeLog T.me_fChangeLog_since (ok_fChangeLog_since T) (hr.mono (by decide)) tk T.b_fChangeLog_since .nil (fun _ => .nil) (dvs_cons (dv_sh (de_var 5)) (dvs_nil (q := true))))))
    .nil)) fun A outer s H E hl hr F _ W tk hp kn =>
    (dss_cons (ds_if (PW.pt (dt_or (dt_cmp (op_neP hr.units) s_ne (de_meth0 (dv_sh (de_var 0)) T.cl_ChangeLog T.me_fChangeLog_changes (ok_fChangeLog_changes T) (hr.mono (by decide)) tk T.b_fChangeLog_changes .nil (fun _ => .nil)) (dp_var (q := true) 1) rfl) (dt_or1 (dt_cmp (op_neP hr.units) s_ne (de_fr (df_lst (da_cons (de_prop (dv_sh (de_var 0)) T.cl_ChangeLog T.p_fChangeLog_floor (ok_fChangeLog_floor T) (hr.mono (by decide)) T.b_fChangeLog_floor) (da_cons (de_prop (dv_sh (de_var 0)) T.cl_ChangeLog T.p_fChangeLog_bound (ok_fChangeLog_bound T) (hr.mono (by decide)) T.b_fChangeLog_bound) (da_cons (de_lenO T.lp_ChangeLog T.lf_ChangeLog (ok_fChangeLog___len__ T) (hr.mono (by decide)) T.b_fChangeLog___len__ (dv_sh (de_var 0)) rfl T.n_len) (da_nil (q := true))))))) (de_pk (de_fr (df_lst (da_cons (de_var 2) (da_cons (de_var 3) (da_cons (de_call0 k_len s_len rfl T.n_len (dp_var (q := true) 1)) (da_nil (q := true)))))))) rfl)))) (dss_one (ds_ret (de_bl (q := true)))) dss_nil)
    (dss_cons (ds_if (dt_cmp (op_neP hr.units) s_ne (de_meth0 (dv_sh (de_var 0)) T.cl_ChangeLog T.me_fChangeLog_last (ok_fChangeLog_last T) (hr.mono (by decide)) tk T.b_fChangeLog_last .nil (fun _ => .nil)) (de_pk (de_if (dt_cmp (op_neP hr.units) s_ne (de_var 1) (de_pk (de_fr (df_lst (da_nil (q := true))))) rfl) (de_ix (de_ixQ (dp_var (q := true) 1) (de_pk (de_un un_neg s_neg (de_pk (de_int (q := true))))) (fun _ _ => rfl)) (de_pk (de_int (q := true))) (fun _ _ => rfl)) (de_var 2))) rfl) (dss_one (ds_ret (de_bl (q := true)))) dss_nil)
    (dss_cons (ds_expr (de_wrF0 PySem.F.slot_list_clear PySem.F.type_list_clear mt_clear s_clr (df_meth0 (dv_sh (de_var 0)) T.cl_ChangeLog T.me_fChangeLog_changes (ok_fChangeLog_changes T) (hr.mono (by decide)) tk T.b_fChangeLog_changes .nil (fun _ => .nil))))
    (dss_cons (ds_for hp rfl (di_rng1 rfl T.n_range (de_opQ o_addD s_addD (dp_var (q := true) 4) (de_pk (de_int (q := true))))) (dg_name 5 sc_f_law_shown.nd) (dss_one (ds_if (dt_cmpQ (o_lt hr.units) s_lt (dp_var (q := true) 5) (dp_var (q := true) 2) rfl) (dss_one (ds_if (dt_cmp (op_neP hr.units) s_ne (de_ownC (ok_f_law_refused T 5) rfl (hr.mono (by decide)) tk rfl T.g_f_law_refused T.F_f_law_refused.kp T.b_f_law_refused kn (dvs_cons (dv_sh (de_lam (id := 0) (ls := []) (hl 0) ⟨T.tb_f_law_shown, rfl, T.me_f_law_shown, T.uq_f_law_shown, lamG_by (sc := defScope s_f_law_shown) (by decide +kernel), rfl⟩)) (dvs_nil (q := true)))) (de_pk (de_fr (df_lst (da_cons (de_str (q := true)) (da_cons (de_bl (q := true)) (da_cons (de_var 2) (da_nil (q := true)))))))) rfl) (dss_one (ds_ret (de_bl (q := true)))) dss_nil)) (dss_one (ds_if (dt_cmp (op_neP hr.units) s_ne (de_meth (dv_sh (de_var 0)) T.cl_ChangeLog T.me_fChangeLog_since (ok_fChangeLog_since T) (hr.mono (by decide)) tk T.b_fChangeLog_since .nil (fun _ => .nil) (dvs_cons (dv_sh (de_var 5)) (dvs_nil (q := true)))) (de_pk (de_fr (df_lc (own := [("row", 6)]) rfl sc_f_law_shown.nd (di_list (de_var 1)) (blkOk_by (N := N_f_law_shown) (sc := defScope s_f_law_shown) (by decide +kernel)) (fun _ _ _ _ _ _ => (dg_name 6 sc_f_law_shown.nd)) (fun _ _ _ _ _ _ => (dt_ifs (dt_cmp (q1 := true) (q2 := true) (o_gt hr.units) s_gt (de_ixQ (dp_var (q := true) 6) (de_pk (de_int (q := true))) (fun _ _ => rfl)) (dp_var (q := true) 5) rfl))) (fun _ _ _ _ _ _ => (de_var 6))))) rfl) (dss_one (ds_ret (de_bl (q := true)))) dss_nil)))))
    (dss_one (ds_ret (de_bl (q := true))))))))
theorem sc_f_law_bad : FnScope N_f_law_bad ["pool", "log", "now"] (defScope s_f_law_bad) := ⟨rfl, rfl, rfl, by decide +kernel, rfl, by decide +kernel, by decide +kernel⟩
theorem ok_f_law_bad (T : Txt K mg base a) : DL.FnOk P w K mg base (CX P w) 7 a.f_f_law_bad a.d_f_law_bad ["pool", "log", "now"] (spD K [true, true, false] (m_f_law_bad a)) :=
  fnDM (kf := 5) (mbs := mbs_f_law_bad a) tab_f_law_bad T.F_f_law_bad T.hc_f_law_bad sc_f_law_bad rfl (fun A outer s H E hl =>
    (.cons (lam_row (ls := []) (ps := []) (lamG_by (sc := defScope s_f_law_bad) (by decide +kernel)) rfl (fun _ _ _ _ _ us hl => match us, hl with | [], _ => rfl) (fun A outer s H E f2 c2 hr F tk hp => (de_meth (dv_ln (q := true) 1) T.cl_ChangeLog T.me_fChangeLog_add (ok_fChangeLog_add T) (hr.mono (by decide)) tk T.b_fChangeLog_add .nil (fun _ => .nil) (dvs_cons (dv_sh (de_var 3)) (dvs_cons (dv_sh (de_non (q := true))) (dvs_cons (dv_sh (de_non (q := true))) (dvs_cons (dv_sh (de_non (q := true))) (dvs_nil (q := true)))))))))
    (.cons (lam_row (ls := []) (ps := []) (lamG_by (sc := defScope s_f_law_bad) (by decide +kernel)) rfl (fun _ _ _ _ _ us hl => match us, hl with | [], _ => rfl) (fun A outer s H E f2 c2 hr F tk hp => (de_meth (dv_ln (q := true) 1) T.cl_ChangeLog T.me_fChangeLog_add (ok_fChangeLog_add T) (hr.mono (by decide)) tk T.b_fChangeLog_add .nil (fun _ => .nil) (dvs_cons (dv_sh (de_opQ o_addD s_addD (dp_var (q := true) 2) (de_pk (de_int (q := true))))) (dvs_cons (dv_sh (de_var 3)) (dvs_cons (dv_sh (de_str (q := true))) (dvs_cons (dv_sh (de_non (q := true))) (dvs_nil (q := true)))))))))
    (.cons (lam_row (ls := []) (ps := []) (lamG_by (sc := defScope s_f_law_bad) (by decide +kernel)) rfl (fun _ _ _ _ _ us hl => match us, hl with | [], _ => rfl) (fun A outer s H E f2 c2 hr F tk hp => (de_meth (dv_ln (q := true) 1) T.cl_ChangeLog T.me_fChangeLog_add (ok_fChangeLog_add T) (hr.mono (by decide)) tk T.b_fChangeLog_add .nil (fun _ => .nil) (dvs_cons (dv_sh (de_opQ o_addD s_addD (dp_var (q := true) 2) (de_pk (de_int (q := true))))) (dvs_cons (dv_sh (de_str (q := true))) (dvs_cons (dv_sh (de_var 3)) (dvs_cons (dv_sh (de_str (q := true))) (dvs_nil (q := true)))))))))
    (.cons (lam_row (ls := []) (ps := []) (lamG_by (sc := defScope s_f_law_bad) (by decide +kernel)) rfl (fun _ _ _ _ _ us hl => match us, hl with | [], _ => rfl) (fun A outer s H E f2 c2 hr F tk hp => (de_meth (dv_ln (q := true) 1) T.cl_ChangeLog T.me_fChangeLog_add (ok_fChangeLog_add T) (hr.mono (by decide)) tk T.b_fChangeLog_add .nil (fun _ => .nil) (dvs_cons (dv_sh (de_opQ o_addD s_addD (dp_var (q := true) 2) (de_pk (de_int (q := true))))) (dvs_cons (dv_sh (de_str (q := true))) (dvs_cons (dv_sh (de_non (q := true))) (dvs_cons (dv_sh (de_var 3)) (dvs_nil (q := true)))))))))
    (.cons (lam_row (ls := []) (ps := []) (lamG_by (sc := defScope s_f_law_bad) (by decide +kernel)) rfl (fun _ _ _ _ _ us hl => match us, hl with | [], _ => rfl) (fun A outer s H E f2 c2 hr F tk hp => (de_meth (dv_ln (q := true) 1) T.cl_ChangeLog T.me_fChangeLog_since ((ok_fChangeLog_since T).vw 0 [true, false]) (hr.mono (by decide)) tk T.b_fChangeLog_since .nil (fun _ => .nil) (dvs_cons (dv_sh (de_var 3)) (dvs_nil (q := true))))))
    .nil)))))) fun A outer s H E hl hr F _ W tk hp kn =>
    (dss_cons (ds_set 3 sc_f_law_bad.nd (de_ix (de_fr (df_lst (da_cons (de_var 2) (da_cons (de_op0Q op_sub s_sub (dp_var (q := true) 2) (de_pk (de_int (q := true)))) (da_cons (de_non (q := true)) (da_cons (de_bl (q := true)) (da_cons (de_str (q := true)) (da_cons (de_un un_neg s_neg (de_pk (de_int (q := true)))) (da_nil (q := true)))))))))) (de_pk (de_own (ok_f_law_draw T) (hr.mono (by decide)) tk rfl T.g_f_law_draw T.F_f_law_draw.kp T.b_f_law_draw .nil (fun _ => .nil) (dvs_cons (dv_ln (q := true) 0) (dvs_cons (dv_sh (de_int (q := true))) (dvs_nil (q := true)))))) (fun _ _ => rfl)))
    (dss_cons (ds_if (dt_cmp (op_neP hr.units) s_ne (de_ownC (ok_f_law_refused T 5) rfl (hr.mono (by decide)) tk rfl T.g_f_law_refused T.F_f_law_refused.kp T.b_f_law_refused kn (dvs_cons (dv_sh (de_lam (id := 0) (ls := []) (hl 0) ⟨T.tb_f_law_bad, rfl, T.me_f_law_bad, T.uq_f_law_bad, lamG_by (sc := defScope s_f_law_bad) (by decide +kernel), rfl⟩)) (dvs_nil (q := true)))) (de_pk (de_fr (df_lst (da_cons (de_str (q := true)) (da_cons (de_bl (q := true)) (da_cons (de_call0 (call_reprP hr) s_reprP rfl T.n_repr (dp_var (q := true) 3)) (da_nil (q := true)))))))) rfl) (dss_one (ds_ret (de_bl (q := true)))) dss_nil)
    (dss_cons (ds_set 3 sc_f_law_bad.nd (de_ix (de_fr (df_lst (da_cons (de_non (q := true)) (da_cons (de_str (q := true)) (da_cons (de_str (q := true)) (da_cons (de_int (q := true)) (da_cons (de_fr (df_lst (da_cons (de_str (q := true)) (da_nil (q := true))))) (da_nil (q := true))))))))) (de_pk (de_own (ok_f_law_draw T) (hr.mono (by decide)) tk rfl T.g_f_law_draw T.F_f_law_draw.kp T.b_f_law_draw .nil (fun _ => .nil) (dvs_cons (dv_ln (q := true) 0) (dvs_cons (dv_sh (de_int (q := true))) (dvs_nil (q := true)))))) (fun _ _ => rfl)))
    (dss_cons (ds_if (dt_cmp (op_neP hr.units) s_ne (de_ownC (ok_f_law_refused T 5) rfl (hr.mono (by decide)) tk rfl T.g_f_law_refused T.F_f_law_refused.kp T.b_f_law_refused kn (dvs_cons (dv_sh (de_lam (id := 1) (ls := []) (hl 1) ⟨T.tb_f_law_bad, rfl, T.me_f_law_bad, T.uq_f_law_bad, lamG_by (sc := defScope s_f_law_bad) (by decide +kernel), rfl⟩)) (dvs_nil (q := true)))) (de_pk (de_fr (df_lst (da_cons (de_str (q := true)) (da_cons (de_bl (q := true)) (da_cons (de_call0 (call_reprP hr) s_reprP rfl T.n_repr (dp_var (q := true) 3)) (da_nil (q := true)))))))) rfl) (dss_one (ds_ret (de_bl (q := true)))) dss_nil)
    (dss_cons (ds_set 3 sc_f_law_bad.nd (de_ix (de_fr (df_lst (da_cons (de_bl (q := true)) (da_cons (de_str (q := true)) (da_cons (de_fr (df_lst (da_cons (de_int (q := true)) (da_nil (q := true))))) (da_cons (de_tup (da_cons (de_int (q := true)) (da_nil (q := true)))) (da_nil (q := true)))))))) (de_pk (de_own (ok_f_law_draw T) (hr.mono (by decide)) tk rfl T.g_f_law_draw T.F_f_law_draw.kp T.b_f_law_draw .nil (fun _ => .nil) (dvs_cons (dv_ln (q := true) 0) (dvs_cons (dv_sh (de_int (q := true))) (dvs_nil (q := true)))))) (fun _ _ => rfl)))
    (dss_cons (ds_if (dt_cmp (op_neP hr.units) s_ne (de_ownC (ok_f_law_refused T 5) rfl (hr.mono (by decide)) tk rfl T.g_f_law_refused T.F_f_law_refused.kp T.b_f_law_refused kn (dvs_cons (dv_sh (de_lam (id := 2) (ls := []) (hl 2) ⟨T.tb_f_law_bad, rfl, T.me_f_law_bad, T.uq_f_law_bad, lamG_by (sc := defScope s_f_law_bad) (by decide +kernel), rfl⟩)) (dvs_nil (q := true)))) (de_pk (de_fr (df_lst (da_cons (de_str (q := true)) (da_cons (de_bl (q := true)) (da_cons (de_call0 (call_reprP hr) s_reprP rfl T.n_repr (dp_var (q := true) 3)) (da_nil (q := true)))))))) rfl) (dss_one (ds_ret (de_bl (q := true)))) dss_nil)
    (dss_cons (ds_if (dt_cmp (op_neP hr.units) s_ne (de_ownC (ok_f_law_refused T 5) rfl (hr.mono (by decide)) tk rfl T.g_f_law_refused T.F_f_law_refused.kp T.b_f_law_refused kn (dvs_cons (dv_sh (de_lam (id := 3) (ls := []) (hl 3) ⟨T.tb_f_law_bad, rfl, T.me_f_law_bad, T.uq_f_law_bad, lamG_by (sc := defScope s_f_law_bad) (by decide +kernel), rfl⟩)) (dvs_nil (q := true)))) (de_pk (de_fr (df_lst (da_cons (de_str (q := true)) (da_cons (de_bl (q := true)) (da_cons (de_call0 (call_reprP hr) s_reprP rfl T.n_repr (dp_var (q := true) 3)) (da_nil (q := true)))))))) rfl) (dss_one (ds_ret (de_bl (q := true)))) dss_nil)
    (dss_cons (ds_set 3 sc_f_law_bad.nd (de_ix (de_fr (df_lst (da_cons (de_un un_neg s_neg (de_pk (de_int (q := true)))) (da_cons (de_non (q := true)) (da_cons (de_bl (q := true)) (da_cons (de_str (q := true)) (da_nil (q := true)))))))) (de_pk (de_own (ok_f_law_draw T) (hr.mono (by decide)) tk rfl T.g_f_law_draw T.F_f_law_draw.kp T.b_f_law_draw .nil (fun _ => .nil) (dvs_cons (dv_ln (q := true) 0) (dvs_cons (dv_sh (de_int (q := true))) (dvs_nil (q := true)))))) (fun _ _ => rfl)))
    (dss_one (ds_ret (de_cmp (op_eqP hr.units) s_eq (de_ownC (ok_f_law_refused T 5) rfl (hr.mono (by decide)) tk rfl T.g_f_law_refused T.F_f_law_refused.kp T.b_f_law_refused kn (dvs_cons (dv_sh (de_lam (id := 4) (ls := []) (hl 4) ⟨T.tb_f_law_bad, rfl, T.me_f_law_bad, T.uq_f_law_bad, lamG_by (sc := defScope s_f_law_bad) (by decide +kernel), rfl⟩)) (dvs_nil (q := true)))) (de_pk (de_fr (df_lst (da_cons (de_str (q := true)) (da_cons (de_bl (q := true)) (da_cons (de_call0 (call_reprP hr) s_reprP rfl T.n_repr (dp_var (q := true) 3)) (da_nil (q := true)))))))) rfl)))))))))))
theorem sc_flaw : FnScope N_flaw ["script"] (defScope s_flaw) := ⟨rfl, rfl, rfl, by decide +kernel, rfl, by decide +kernel, by decide +kernel⟩
theorem ok_flaw (T : Txt K mg base a) : DL.FnOk P w K mg base (CX P w) 8 a.f_flaw a.d_flaw ["script"] (spD K [false] (m_flaw a)) :=
  fnDM (kf := 6) (mbs := mbs_flaw a) tab_flaw T.F_flaw T.hc_flaw sc_flaw rfl (fun A outer s H E hl =>
    (.cons (lam_row (ls := []) (ps := []) (lamG_by (sc := defScope s_flaw) (by decide +kernel)) rfl (fun _ _ _ _ _ us hl => match us, hl with | [], _ => rfl) (fun A outer s H E f2 c2 hr F tk hp => (de_frB (df_make T.mk_ChangeLog (ok_fChangeLog___init__ T) (hr.mono (by decide)) tk rfl T.gc_ChangeLog T.b_fChangeLog___init__ .nil (fun _ => .nil) (dvs_cons (dv_sh (de_var 1)) (dvs_nil (q := true)))))))
    .nil)) fun A outer s H E hl hr F _ W tk hp kn =>
    (dss_cons (ds_for hp rfl (di_list (de_fr (df_lst (da_cons (de_un un_neg s_neg (de_pk (de_int (q := true)))) (da_cons (de_int (q := true)) (da_cons (de_non (q := true)) (da_cons (de_bl (q := true)) (da_cons (de_str (q := true)) (da_nil (q := true)))))))))) (dg_name 1 sc_flaw.nd) (dss_one (ds_if (PW.pt (dt_or (dt_cmp (q1 := true) (q2 := true) (op_neP hr.units) s_ne (de_globE (q := true) rfl T.k_MAX_BOUND (fun _ => Rep.int _)) (de_pk (de_int (q := true))) rfl) (dt_or1 (dt_cmp (op_neP hr.units) s_ne (de_ownC (ok_f_law_refused T 6) rfl (hr.mono (by decide)) tk rfl T.g_f_law_refused T.F_f_law_refused.kp T.b_f_law_refused kn (dvs_cons (dv_sh (de_lam (id := 0) (ls := []) (hl 0) ⟨T.tb_flaw, rfl, T.me_flaw, T.uq_flaw, lamG_by (sc := defScope s_flaw) (by decide +kernel), rfl⟩)) (dvs_nil (q := true)))) (de_pk (de_fr (df_lst (da_cons (de_str (q := true)) (da_cons (de_bl (q := true)) (da_cons (de_call0 (call_reprP hr) s_reprP rfl T.n_repr (dp_var (q := true) 1)) (da_nil (q := true)))))))) rfl)))) (dss_one (ds_ret (de_bl (q := true)))) dss_nil)))
    (dss_cons (ds_for hp rfl (di_rng1 rfl T.n_range (de_call2 (call_max2 rfl) s_max2 rfl T.n_max (de_int (q := true)) (de_pk (de_call2 (call_min2 rfl) s_min2 rfl T.n_min (de_call0 k_len s_len rfl T.n_len (dp_var (q := true) 0)) (de_pk (de_int (q := true))))))) (dg_name 2 sc_flaw.nd) (dss_cons (ds_setF 3 sc_flaw.nd (df_own (ok_f_law_hand T) (hr.mono (by decide)) tk rfl T.g_f_law_hand T.F_f_law_hand.kp T.b_f_law_hand .nil (fun _ => .nil) (dvs_cons (dv_sh (de_var 0)) (dvs_cons (dv_sh (de_var 2)) (dvs_nil (q := true))))))
    (dss_cons (ds_set 4 sc_flaw.nd (de_ix (de_fr (df_lst (da_cons (de_int (q := true)) (da_cons (de_int (q := true)) (da_cons (de_int (q := true)) (da_cons (de_int (q := true)) (da_cons (de_int (q := true)) (da_nil (q := true))))))))) (de_pk (de_own (ok_f_law_draw T) (hr.mono (by decide)) tk rfl T.g_f_law_draw T.F_f_law_draw.kp T.b_f_law_draw .nil (fun _ => .nil) (dvs_cons (dv_ln (q := true) 3) (dvs_cons (dv_sh (de_int (q := true))) (dvs_nil (q := true)))))) (fun _ _ => rfl)))
    (dss_cons (ds_tupX5 (i := 5) (j := 6) (m := 7) (l := 8) (r := 9) rfl sc_flaw.nd (dm_frB (df_make T.mk_ChangeLog (ok_fChangeLog___init__ T) (hr.mono (by decide)) tk rfl T.gc_ChangeLog T.b_fChangeLog___init__ .nil (fun _ => .nil) (dvs_cons (dv_sh (de_var 4)) (dvs_nil (q := true)))) (fun F _ => (dm_frB (df_make T.mk_ChangeLog (ok_fChangeLog___init__ T) (hr.mono (by decide)) tk rfl T.gc_ChangeLog T.b_fChangeLog___init__ .nil (fun _ => .nil) (dvs_cons (dv_sh (de_var 4)) (dvs_nil (q := true)))) (fun F _ => (dm_fr (df_lst (da_nil (q := true))) (fun F _ => (dm_sh (de_int (q := true)) (dm_sh (de_int (q := true)) (dm_nil (q := true)))))))))))
    (dss_cons (ds_for hp rfl (di_rng1 rfl T.n_range (de_own (ok_f_law_draw T) (hr.mono (by decide)) tk rfl T.g_f_law_draw T.F_f_law_draw.kp T.b_f_law_draw .nil (fun _ => .nil) (dvs_cons (dv_ln (q := true) 3) (dvs_cons (dv_sh (de_int (q := true))) (dvs_nil (q := true)))))) (dg_name 10 sc_flaw.nd) (dss_cons (ds_set 9 sc_flaw.nd (de_op o_addD s_addD (de_opQ o_addD s_addD (dp_var (q := true) 9) (de_pk (de_int (q := true)))) (de_pk (de_own (ok_f_law_draw T) (hr.mono (by decide)) tk rfl T.g_f_law_draw T.F_f_law_draw.kp T.b_f_law_draw .nil (fun _ => .nil) (dvs_cons (dv_ln (q := true) 3) (dvs_cons (dv_sh (de_int (q := true))) (dvs_nil (q := true))))))))
    (dss_cons (ds_set 11 sc_flaw.nd (de_tup (da_cons (de_var 9) (da_cons (de_own (ok_f_law_key T) (hr.mono (by decide)) tk rfl T.g_f_law_key T.F_f_law_key.kp T.b_f_law_key .nil (fun _ => .nil) (dvs_cons (dv_ln (q := true) 3) (dvs_cons (dv_sh (de_int (q := true))) (dvs_nil (q := true))))) (da_cons (de_ix (de_fr (df_lst (da_cons (de_non (q := true)) (da_cons (de_int (q := true)) (da_cons (de_un un_neg s_neg (de_pk (de_int (q := true)))) (da_nil (q := true))))))) (de_pk (de_own (ok_f_law_draw T) (hr.mono (by decide)) tk rfl T.g_f_law_draw T.F_f_law_draw.kp T.b_f_law_draw .nil (fun _ => .nil) (dvs_cons (dv_ln (q := true) 3) (dvs_cons (dv_sh (de_int (q := true))) (dvs_nil (q := true)))))) (fun _ _ => rfl)) (da_cons (de_ix (de_fr (df_lst (da_cons (de_non (q := true)) (da_cons (de_int (q := true)) (da_cons (de_int (q := true)) (da_nil (q := true))))))) (de_pk (de_own (ok_f_law_draw T) (hr.mono (by decide)) tk rfl T.g_f_law_draw T.F_f_law_draw.kp T.b_f_law_draw .nil (fun _ => .nil) (dvs_cons (dv_ln (q := true) 3) (dvs_cons (dv_sh (de_int (q := true))) (dvs_nil (q := true)))))) (fun _ _ => rfl)) (da_nil (q := true))))))))
    (dss_cons (ds_expr (de_meth (dv_ln (q := true) 5) T.cl_ChangeLog T.me_fChangeLog_add (ok_fChangeLog_add T) (hr.mono (by decide)) tk T.b_fChangeLog_add .nil (fun _ => .nil) (dvs_cons (dv_sh (de_ixQ (dp_var (q := true) 11) (de_pk (de_int (q := true))) (fun _ _ => rfl))) (dvs_cons (dv_sh (de_ixQ (dp_var (q := true) 11) (de_pk (de_int (q := true))) (fun _ _ => rfl))) (dvs_cons (dv_sh (de_ixQ (dp_var (q := true) 11) (de_pk (de_int (q := true))) (fun _ _ => rfl))) (dvs_cons (dv_sh (de_ixQ (dp_var (q := true) 11) (de_pk (de_int (q := true))) (fun _ _ => rfl))) (dvs_nil (q := true))))))))
    (dss_cons (ds_expr (de_wr 7 PySem.F.slot_list_append PySem.F.type_list_append mt_append s_app (da_cons (de_var 11) (da_nil (q := true)))))
    (dss_cons (ds_if (PW.pt (dt_and (dt_cmpQ (o_gt hr.units) s_gt (dp_var (q := true) 4) (de_pk (de_int (q := true))) rfl) (dt_and1 (PW.pt (dt_or (dt_eqO T.insts T.eq_ChangeLog (((ok_fChangeLog___eq__ T).vw 0 [true, false]).vw 1 [true, true]) (hr.mono (by decide)) T.b_fChangeLog___eq__ (dv_ln (q := true) 5) (dv_ln (q := true) 6)) (dt_or1 (dt_not (dt_neO T.insts T.eq_ChangeLog T.ne_ChangeLog T.it_ChangeLog.hm (((ok_fChangeLog___eq__ T).vw 0 [true, false]).vw 1 [true, true]) (hr.mono (by decide)) T.b_fChangeLog___eq__ (dv_ln (q := true) 5) (dv_ln (q := true) 6))))))))) (dss_one (ds_ret (de_bl (q := true)))) dss_nil)
    (dss_cons (ds_expr (de_meth (dv_ln (q := true) 6) T.cl_ChangeLog T.me_fChangeLog_add (ok_fChangeLog_add T) (hr.mono (by decide)) tk T.b_fChangeLog_add .nil (fun _ => .nil) (dvs_cons (dv_sh (de_ixQ (dp_var (q := true) 11) (de_pk (de_int (q := true))) (fun _ _ => rfl))) (dvs_cons (dv_sh (de_ixQ (dp_var (q := true) 11) (de_pk (de_int (q := true))) (fun _ _ => rfl))) (dvs_cons (dv_sh (de_ixQ (dp_var (q := true) 11) (de_pk (de_int (q := true))) (fun _ _ => rfl))) (dvs_cons (dv_sh (de_ixQ (dp_var (q := true) 11) (de_pk (de_int (q := true))) (fun _ _ => rfl))) (dvs_nil (q := true))))))))
    (dss_cons (ds_if (dt_cmp (q1 := true) (q2 := true) (o_gt hr.units) s_gt (de_call0 k_len s_len rfl T.n_len (dp_var (q := true) 7)) (dp_var (q := true) 4) rfl) (dss_one (ds_set 8 sc_flaw.nd (de_ix (de_wr 7 PySem.F.slot_list_pop PySem.F.type_list_pop mt_popAt s_popAt (da_cons (de_int (q := true)) (da_nil (q := true)))) (de_pk (de_int (q := true))) (fun _ _ => rfl)))) dss_nil)
    (dss_one (ds_if (PW.pt (dt_or (dt_not (dt_val (de_own (((ok_f_law_shown T).vw 0 [true, false, false, false, false]).vw 1 [true, true, false, false, false]) (hr.mono (by decide)) tk rfl T.g_f_law_shown T.F_f_law_shown.kp T.b_f_law_shown .nil (fun _ => .nil) (dvs_cons (dv_ln (q := true) 5) (dvs_cons (dv_ln (q := true) 7) (dvs_cons (dv_sh (de_var 8)) (dvs_cons (dv_sh (de_var 4)) (dvs_cons (dv_sh (de_var 9)) (dvs_nil (q := true)))))))))) (dt_or (dt_neO T.insts T.eq_ChangeLog T.ne_ChangeLog T.it_ChangeLog.hm (((ok_fChangeLog___eq__ T).vw 0 [true, false]).vw 1 [true, true]) (hr.mono (by decide)) T.b_fChangeLog___eq__ (dv_ln (q := true) 5) (dv_ln (q := true) 6)) (dt_or1 (dt_not (dt_val (de_own (ok_f_law_bad T) (hr.mono (by decide)) tk rfl T.g_f_law_bad T.F_f_law_bad.kp T.b_f_law_bad .nil (fun _ => .nil) (dvs_cons (dv_ln (q := true) 3) (dvs_cons (dv_ln (q := true) 5) (dvs_cons (dv_sh (de_var 9)) (dvs_nil (q := true)))))))))))) (dss_one (ds_ret (de_bl (q := true)))) dss_nil))))))))))
    (dss_one (ds_if (PW.pt (dt_or (dt_eqO T.insts T.eq_ChangeLog (((ok_fChangeLog___eq__ T).vw 0 [true, false]).vw 1 [true, true]) (hr.mono (by decide)) T.b_fChangeLog___eq__ (dv_ln (q := true) 5) (dv_ln (q := true) 7)) (dt_or1 (dt_eqO T.insts T.eq_ChangeLog (ok_fChangeLog___eq__ T) (hr.mono (by decide)) T.b_fChangeLog___eq__ (dv_sh (de_frB (df_make T.mk_ChangeLog (ok_fChangeLog___init__ T) (hr.mono (by decide)) tk rfl T.gc_ChangeLog T.b_fChangeLog___init__ .nil (fun _ => .nil) (dvs_cons (dv_sh (de_var 4)) (dvs_nil (q := true)))))) (dv_sh (de_frB (df_make T.mk_ChangeLog (ok_fChangeLog___init__ T) (hr.mono (by decide)) tk rfl T.gc_ChangeLog T.b_fChangeLog___init__ .nil (fun _ => .nil) (dvs_cons (dv_sh (de_if (dt_cmpQ (o_lt hr.units) s_lt (dp_var (q := true) 4) (de_pk (de_int (q := true))) rfl) (de_opQ o_addD s_addD (dp_var (q := true) 4) (de_pk (de_int (q := true)))) (de_int (q := true)))) (dvs_nil (q := true)))))))))) (dss_one (ds_ret (de_bl (q := true)))) dss_nil)))))))
    (dss_one (ds_ret (de_bl (q := true))))))
end
end K12
namespace K12
open PySem L2 DL
local instance : TB := ⟨[]⟩
local instance : LC := ⟨fun _ => none⟩
/-! ### the draws -/
def pl (p : Int × Int) : D := .lst [.int p.1, .int p.2]
def drawP (p : Int × Int) (n : Int) : Int × Int := if 0 < p.1 then (p.1 / n, p.2) else (p.1, (p.2 * 48271 + 11) % 2147483647)
def drawV (p : Int × Int) (n : Int) : Int := if 0 < p.1 then p.1 % n else (((p.2 * 48271 + 11) % 2147483647) * ((p.2 * 48271 + 11) % 2147483647)) % 2147483629 / 64 % n
theorem draw_eq (a : Ad) (p : Int × Int) (n : Int) (h0 : 0 < n) (h1 : n < 1073741824) : m_f_law_draw a [pl p, .int n] = .ok false (.int (drawV p n)) [pl (drawP p n), .non] := by
  obtain ⟨p0, p1⟩ := p
  unfold m_f_law_draw runF pl drawV drawP
  by_cases c : 0 < p0
  · simp [a_ret,a_bnd,a_lift,a_opM,a_unM,a_testM,a_andM,a_orM,a_notM,a_iteM,a_andV,a_orV,a_notV,a_shareM,a_varM,a_peekM,a_args0,a_args1,a_lstM,a_tupM,a_chainM,a_partM0,a_partM1,a_slM,a_asStrM,a_fmtM,a_joinM,a_fstrM,a_fstr0,a_fstr1,a_seqM,a_ifM,a_skipM,a_dropM,a_retM,a_retF,a_retN,a_bkM,a_ctM,a_retOw,a_asgM,a_asgF,a_parM,a_nameT,a_tupT,a_tgs0,a_tgs1,a_forM,a_loop0,a_loop1,a_strM,a_seqM',a_tupM',a_rng1M,a_compM,a_comp0,a_comp1,a_wipe0,a_wipe1,a_avs0,a_avs1,a_shA,a_lnA,a_callM,a_callF,a_callQ,a_callN,a_mkQ,a_makeF,a_chkO,a_noErr,a_propM,a_callOM,a_methM,a_cmpO,a_reprO,a_putM,a_flM,a_wrM,a_setIx,a_fm0,a_fm1,a_fm2,a_enumM,a_zipM,a_zipSM,a_idxM,a_lenA,a_callPM,a_mx0,a_mxS,a_mxF,a_parX,a_raiseF,a_tryM,a_cloM,a_callCM, initS, ixD, atI, ixN, gtD, gtvD, c, modI, h0, h1, divI, isLst, flatD, endF, outS]
  · have hx : -18446744073709551616 < (p1 * 48271 + 11) % 2147483647 ∧ (p1 * 48271 + 11) % 2147483647 < 18446744073709551616 := by omega
    simp [a_ret,a_bnd,a_lift,a_opM,a_unM,a_testM,a_andM,a_orM,a_notM,a_iteM,a_andV,a_orV,a_notV,a_shareM,a_varM,a_peekM,a_args0,a_args1,a_lstM,a_tupM,a_chainM,a_partM0,a_partM1,a_slM,a_asStrM,a_fmtM,a_joinM,a_fstrM,a_fstr0,a_fstr1,a_seqM,a_ifM,a_skipM,a_dropM,a_retM,a_retF,a_retN,a_bkM,a_ctM,a_retOw,a_asgM,a_asgF,a_parM,a_nameT,a_tupT,a_tgs0,a_tgs1,a_forM,a_loop0,a_loop1,a_strM,a_seqM',a_tupM',a_rng1M,a_compM,a_comp0,a_comp1,a_wipe0,a_wipe1,a_avs0,a_avs1,a_shA,a_lnA,a_callM,a_callF,a_callQ,a_callN,a_mkQ,a_makeF,a_chkO,a_noErr,a_propM,a_callOM,a_methM,a_cmpO,a_reprO,a_putM,a_flM,a_wrM,a_setIx,a_fm0,a_fm1,a_fm2,a_enumM,a_zipM,a_zipSM,a_idxM,a_lenA,a_callPM,a_mx0,a_mxS,a_mxF,a_parX,a_raiseF,a_tryM,a_cloM,a_callCM, initS, ixD, atI, ixN, gtD, gtvD, c, modI, h0, h1, hx, divI, isLst, flatD, endF, outS, mulI, addD]
theorem drawV_rng (p : Int × Int) (n : Int) (h : 0 < n) : 0 ≤ drawV p n ∧ drawV p n < n := by
  unfold drawV
  split
  · exact ⟨Int.emod_nonneg _ (by omega), Int.emod_lt_of_pos _ h⟩
  · exact ⟨Int.emod_nonneg _ (by omega), Int.emod_lt_of_pos _ h⟩
theorem atI_zero {α : Type} (x : α) (xs : List α) : atI (x :: xs) 0 = some x := by
  unfold atI ixN
  rw [if_pos (Int.le_refl 0), if_pos (by rw [List.length_cons]; omega)]
  rfl
theorem cut1 (ds : List D) (k : Nat) : (cutD ds (some (k : Int)) (some ((k : Int) + 1))).length ≤ 1 := by
  unfold cutD
  have e1 := HT.sIx_nat ds.length ds.length (k + 1)
  rw [Int.natCast_add, Int.natCast_one] at e1
  rw [e1, HT.sIx_nat]
  refine Nat.le_trans (List.length_take_le _ _) ?_
  omega
def handP (c : Int) (k : Nat) : Int × Int := ((if 1000000000000000000 ≤ c then (1 : Int) else 0) * c, (c % 2147483647 + 7919 * (k : Int) + 1) * 48271 % 2147483629)
theorem hand_eq (a : Ad) (ns : List Int) (k : Nat) (h : k < 1000000) : ∃ p, m_f_law_hand a [.kl (ns.map .int), .int k] = .ok true (pl p) [.non, .non] := by
  have cell : ∃ c : Int, atI ((cutD (ns.map D.int) (some (k : Int)) (some ((k : Int) + 1))) ++ [D.int 0]) 0 = some (.int c) := by
    have : ∃ ms : List Int, cutD (ns.map D.int) (some (k : Int)) (some ((k : Int) + 1)) = ms.map .int := by
      unfold cutD
      rw [← List.map_drop, ← List.map_take]
      exact ⟨_, rfl⟩
    obtain ⟨ms, e⟩ := this
    rw [e]
    cases ms with
    | nil => exact ⟨0, atI_zero _ _⟩
    | cons m ms => exact ⟨m, atI_zero _ _⟩
  obtain ⟨c, hc⟩ := cell
  have lc : (cutD (ns.map D.int) (some (k : Int)) (some ((k : Int) + 1))).length + 1 ≤ 16777216 := by
    have := cut1 (ns.map D.int) k
    omega
  refine ⟨handP c k, ?_⟩
  have hk : -18446744073709551616 < 7919 ∧ (7919 : Int) < 18446744073709551616 := by omega
  have h01 : (-18446744073709551616 < (if 1000000000000000000 ≤ c then (1 : Int) else 0) ∧ (if 1000000000000000000 ≤ c then (1 : Int) else 0) < 18446744073709551616) := by split <;> omega
  unfold m_f_law_hand runF
  simp [a_ret,a_bnd,a_lift,a_opM,a_unM,a_testM,a_andM,a_orM,a_notM,a_iteM,a_andV,a_orV,a_notV,a_shareM,a_varM,a_peekM,a_args0,a_args1,a_lstM,a_tupM,a_chainM,a_partM0,a_partM1,a_slM,a_asStrM,a_fmtM,a_joinM,a_fstrM,a_fstr0,a_fstr1,a_seqM,a_ifM,a_skipM,a_dropM,a_retM,a_retF,a_retN,a_bkM,a_ctM,a_retOw,a_asgM,a_asgF,a_parM,a_nameT,a_tupT,a_tgs0,a_tgs1,a_forM,a_loop0,a_loop1,a_strM,a_seqM',a_tupM',a_rng1M,a_compM,a_comp0,a_comp1,a_wipe0,a_wipe1,a_avs0,a_avs1,a_shA,a_lnA,a_callM,a_callF,a_callQ,a_callN,a_mkQ,a_makeF,a_chkO,a_noErr,a_propM,a_callOM,a_methM,a_cmpO,a_reprO,a_putM,a_flM,a_wrM,a_setIx,a_fm0,a_fm1,a_fm2,a_enumM,a_zipM,a_zipSM,a_idxM,a_lenA,a_callPM,a_mx0,a_mxS,a_mxF,a_parX,a_raiseF,a_tryM,a_cloM,a_callCM, initS, slD, addD, addL, ixD, hc, lc, modI, flatD, mulI, powI, geD, gevD, intD, endF, outS, pl, handP]
  rw [if_pos (.inl h01)]
  rfl
/-! ### keys -/
abbrev CH : Str := "abcdefghijklmnopqrstuvwxyz0123456789"
def inC (c : Nat) : Bool := decide (c ∈ CH.cps.toList)
def okS (s : Str) : Bool := s.cps.toList.all inC
theorem asBls_f (f : Nat → Bool) : ∀ cs : List Nat, asBls (cs.map fun c => D.bl (f c)) = some (cs.map f)
  | [] => rfl
  | c :: cs => by
    rw [List.map_cons, List.map_cons, asBls, asBls_f f cs]
    rfl
theorem key_loop (a : Ad) (k : Str) : ∀ (cs : List Nat) (acc : List D) (x : Option Slot), acc.length + cs.length < 16777216 → ∃ y,
    compL [1] (nameT 1) (DL.ret true) (bd0_fis_key a) (cs.map fun c => D.str ⟨#[c]⟩) acc [some (.sh (.str k)), x] = .ok (.lst (acc ++ cs.map fun c => .bl (inC c))) [some (.sh (.str k)), y]
  | [], acc, x, _ => ⟨x, by rw [List.map_nil, a_comp0]; simp⟩
  | c :: cs, acc, x, hl => by
    rw [List.length_cons] at hl
    obtain ⟨y, h⟩ := key_loop a k cs (acc ++ [.bl (inC c)]) none (by rw [List.length_append, List.length_singleton]; omega)
    refine ⟨y, ?_⟩
    have h1 : acc.length < 16777216 := by omega
    have h2 : bd0_fis_key a [some (.sh (.str k)), some (.sh (.str ⟨#[c]⟩))] = .ok (.bl (inC c)) [some (.sh (.str k)), some (.sh (.str ⟨#[c]⟩))] := rfl
    rw [List.map_cons, a_comp1]
    simp only [a_ret,a_bnd,a_lift,a_opM,a_unM,a_testM,a_andM,a_orM,a_notM,a_iteM,a_andV,a_orV,a_notV,a_shareM,a_varM,a_peekM,a_args0,a_args1,a_lstM,a_tupM,a_chainM,a_partM0,a_partM1,a_slM,a_asStrM,a_fmtM,a_joinM,a_fstrM,a_fstr0,a_fstr1,a_seqM,a_ifM,a_skipM,a_dropM,a_retM,a_retF,a_retN,a_bkM,a_ctM,a_retOw,a_asgM,a_asgF,a_parM,a_nameT,a_tupT,a_tgs0,a_tgs1,a_forM,a_loop0,a_loop1,a_strM,a_seqM',a_tupM',a_rng1M,a_compM,a_comp0,a_comp1,a_wipe0,a_wipe1,a_avs0,a_avs1,a_shA,a_lnA,a_callM,a_callF,a_callQ,a_callN,a_mkQ,a_makeF,a_chkO,a_noErr,a_propM,a_callOM,a_methM,a_cmpO,a_reprO,a_putM,a_flM,a_wrM,a_setIx,a_fm0,a_fm1,a_fm2,a_enumM,a_zipM,a_zipSM,a_idxM,a_lenA,a_callPM,a_mx0,a_mxS,a_mxF,a_parX,a_raiseF,a_tryM,a_cloM,a_callCM, List.getElem?_cons_succ, List.getElem?_cons_zero, List.set_cons_succ, List.set_cons_zero, h2, h1, if_true]
    rw [h, List.map_cons, List.append_assoc]
    rfl
theorem is_key_str (a : Ad) (s : Str) (h : s.length ≤ 1000000) : m_fis_key a [.str s] = .ok false (.bl (decide (1 ≤ s.length ∧ s.length ≤ 20) && okS s)) [.non] := by
  have hl : s.cps.toList.length = s.length := Array.length_toList
  obtain ⟨y, e⟩ := key_loop a s s.cps.toList [] none (by rw [hl, List.length_nil]; omega)
  have h3 : s.length ≤ 16777216 := by omega
  unfold m_fis_key runF
  by_cases c1 : 1 ≤ s.length
  · by_cases c2 : s.length ≤ 20
    · have c1' : (1 : Int) ≤ (s.length : Int) := by omega
      have c2' : (s.length : Int) ≤ 20 := by omega
      have e2 : blsOf (.lst ([] ++ s.cps.toList.map fun c => .bl (inC c))) = some (s.cps.toList.map inC) := asBls_f inC _
      simp only [List.nil_append] at e e2
      simp [a_ret,a_bnd,a_lift,a_opM,a_unM,a_testM,a_andM,a_orM,a_notM,a_iteM,a_andV,a_orV,a_notV,a_shareM,a_varM,a_peekM,a_args0,a_args1,a_lstM,a_tupM,a_chainM,a_partM0,a_partM1,a_slM,a_asStrM,a_fmtM,a_joinM,a_fstrM,a_fstr0,a_fstr1,a_seqM,a_ifM,a_skipM,a_dropM,a_retM,a_retF,a_retN,a_bkM,a_ctM,a_retOw,a_asgM,a_asgF,a_parM,a_nameT,a_tupT,a_tgs0,a_tgs1,a_forM,a_loop0,a_loop1,a_strM,a_seqM',a_tupM',a_rng1M,a_compM,a_comp0,a_comp1,a_wipe0,a_wipe1,a_avs0,a_avs1,a_shA,a_lnA,a_callM,a_callF,a_callQ,a_callN,a_mkQ,a_makeF,a_chkO,a_noErr,a_propM,a_callOM,a_methM,a_cmpO,a_reprO,a_putM,a_flM,a_wrM,a_setIx,a_fm0,a_fm1,a_fm2,a_enumM,a_zipM,a_zipSM,a_idxM,a_lenA,a_callPM,a_mx0,a_mxS,a_mxF,a_parX,a_raiseF,a_tryM,a_cloM,a_callCM, initS, isB, kindIn, kindD, isK, leD, levD, lenD, h3, c1', c2', strD, flatD, e, allD, e2, endF, outS, c1, c2, okS, List.all_map]
    · have c1' : (1 : Int) ≤ (s.length : Int) := by omega
      have c2' : ¬ (s.length : Int) ≤ 20 := by omega
      simp [a_ret,a_bnd,a_lift,a_opM,a_unM,a_testM,a_andM,a_orM,a_notM,a_iteM,a_andV,a_orV,a_notV,a_shareM,a_varM,a_peekM,a_args0,a_args1,a_lstM,a_tupM,a_chainM,a_partM0,a_partM1,a_slM,a_asStrM,a_fmtM,a_joinM,a_fstrM,a_fstr0,a_fstr1,a_seqM,a_ifM,a_skipM,a_dropM,a_retM,a_retF,a_retN,a_bkM,a_ctM,a_retOw,a_asgM,a_asgF,a_parM,a_nameT,a_tupT,a_tgs0,a_tgs1,a_forM,a_loop0,a_loop1,a_strM,a_seqM',a_tupM',a_rng1M,a_compM,a_comp0,a_comp1,a_wipe0,a_wipe1,a_avs0,a_avs1,a_shA,a_lnA,a_callM,a_callF,a_callQ,a_callN,a_mkQ,a_makeF,a_chkO,a_noErr,a_propM,a_callOM,a_methM,a_cmpO,a_reprO,a_putM,a_flM,a_wrM,a_setIx,a_fm0,a_fm1,a_fm2,a_enumM,a_zipM,a_zipSM,a_idxM,a_lenA,a_callPM,a_mx0,a_mxS,a_mxF,a_parX,a_raiseF,a_tryM,a_cloM,a_callCM, initS, isB, kindIn, kindD, isK, leD, levD, lenD, h3, c1', c2', endF, outS, c2]
  · have c1' : ¬ (1 : Int) ≤ (s.length : Int) := by omega
    simp [a_ret,a_bnd,a_lift,a_opM,a_unM,a_testM,a_andM,a_orM,a_notM,a_iteM,a_andV,a_orV,a_notV,a_shareM,a_varM,a_peekM,a_args0,a_args1,a_lstM,a_tupM,a_chainM,a_partM0,a_partM1,a_slM,a_asStrM,a_fmtM,a_joinM,a_fstrM,a_fstr0,a_fstr1,a_seqM,a_ifM,a_skipM,a_dropM,a_retM,a_retF,a_retN,a_bkM,a_ctM,a_retOw,a_asgM,a_asgF,a_parM,a_nameT,a_tupT,a_tgs0,a_tgs1,a_forM,a_loop0,a_loop1,a_strM,a_seqM',a_tupM',a_rng1M,a_compM,a_comp0,a_comp1,a_wipe0,a_wipe1,a_avs0,a_avs1,a_shA,a_lnA,a_callM,a_callF,a_callQ,a_callN,a_mkQ,a_makeF,a_chkO,a_noErr,a_propM,a_callOM,a_methM,a_cmpO,a_reprO,a_putM,a_flM,a_wrM,a_setIx,a_fm0,a_fm1,a_fm2,a_enumM,a_zipM,a_zipSM,a_idxM,a_lenA,a_callPM,a_mx0,a_mxS,a_mxF,a_parX,a_raiseF,a_tryM,a_cloM,a_callCM, initS, isB, kindIn, kindD, isK, leD, levD, lenD, h3, c1', endF, outS, c1]
theorem is_key_no (a : Ad) : m_fis_key a [.non] = .ok false (.bl false) [.non] ∧ m_fis_key a [.int 5] = .ok false (.bl false) [.non] ∧ (∀ ds, m_fis_key a [.lst ds] = .ok false (.bl false) [.non]) := by
  refine ⟨rfl, rfl, fun _ => rfl⟩
structure Good (k : Str) : Prop where
  h1 : 1 ≤ k.length
  h2 : k.length ≤ 20
  h3 : okS k = true
theorem is_key_good (a : Ad) {k : Str} (g : Good k) : m_fis_key a [.str k] = .ok false (.bl true) [.non] := by
  have := g.h2
  rw [is_key_str a k (by omega), g.h3]
  have : decide (1 ≤ k.length ∧ k.length ≤ 20) = true := decide_eq_true ⟨g.h1, g.h2⟩
  rw [this]
  rfl
theorem check_key_good (a : Ad) {k : Str} (g : Good k) : m_fcheck_key a [.str k] = .ok false .non [.non] := by
  unfold m_fcheck_key runF
  simp [a_ret,a_bnd,a_lift,a_opM,a_unM,a_testM,a_andM,a_orM,a_notM,a_iteM,a_andV,a_orV,a_notV,a_shareM,a_varM,a_peekM,a_args0,a_args1,a_lstM,a_tupM,a_chainM,a_partM0,a_partM1,a_slM,a_asStrM,a_fmtM,a_joinM,a_fstrM,a_fstr0,a_fstr1,a_seqM,a_ifM,a_skipM,a_dropM,a_retM,a_retF,a_retN,a_bkM,a_ctM,a_retOw,a_asgM,a_asgF,a_parM,a_nameT,a_tupT,a_tgs0,a_tgs1,a_forM,a_loop0,a_loop1,a_strM,a_seqM',a_tupM',a_rng1M,a_compM,a_comp0,a_comp1,a_wipe0,a_wipe1,a_avs0,a_avs1,a_shA,a_lnA,a_callM,a_callF,a_callQ,a_callN,a_mkQ,a_makeF,a_chkO,a_noErr,a_propM,a_callOM,a_methM,a_cmpO,a_reprO,a_putM,a_flM,a_wrM,a_setIx,a_fm0,a_fm1,a_fm2,a_enumM,a_zipM,a_zipSM,a_idxM,a_lenA,a_callPM,a_mx0,a_mxS,a_mxF,a_parX,a_raiseF,a_tryM,a_cloM,a_callCM, initS, flatD, avSl, getA, is_key_good a g, setBack, endF, outS]
theorem is_int (a : Ad) (i : Int) : m_fis_integer a [.int i] = .ok false (.bl true) [.non] := rfl
theorem in_range_int (a : Ad) (v lo hi : Int) : m_fin_range a [.int v, .int lo, .int hi] = .ok false (.bl (decide (lo ≤ v) && decide (v ≤ hi))) [.non, .non, .non] := by
  unfold m_fin_range runF
  by_cases c : lo ≤ v
  · simp [a_ret,a_bnd,a_lift,a_opM,a_unM,a_testM,a_andM,a_orM,a_notM,a_iteM,a_andV,a_orV,a_notV,a_shareM,a_varM,a_peekM,a_args0,a_args1,a_lstM,a_tupM,a_chainM,a_partM0,a_partM1,a_slM,a_asStrM,a_fmtM,a_joinM,a_fstrM,a_fstr0,a_fstr1,a_seqM,a_ifM,a_skipM,a_dropM,a_retM,a_retF,a_retN,a_bkM,a_ctM,a_retOw,a_asgM,a_asgF,a_parM,a_nameT,a_tupT,a_tgs0,a_tgs1,a_forM,a_loop0,a_loop1,a_strM,a_seqM',a_tupM',a_rng1M,a_compM,a_comp0,a_comp1,a_wipe0,a_wipe1,a_avs0,a_avs1,a_shA,a_lnA,a_callM,a_callF,a_callQ,a_callN,a_mkQ,a_makeF,a_chkO,a_noErr,a_propM,a_callOM,a_methM,a_cmpO,a_reprO,a_putM,a_flM,a_wrM,a_setIx,a_fm0,a_fm1,a_fm2,a_enumM,a_zipM,a_zipSM,a_idxM,a_lenA,a_callPM,a_mx0,a_mxS,a_mxF,a_parX,a_raiseF,a_tryM,a_cloM,a_callCM, initS, flatD, avSl, getA, is_int, setBack, endF, outS, leD, levD, c]
  · simp [a_ret,a_bnd,a_lift,a_opM,a_unM,a_testM,a_andM,a_orM,a_notM,a_iteM,a_andV,a_orV,a_notV,a_shareM,a_varM,a_peekM,a_args0,a_args1,a_lstM,a_tupM,a_chainM,a_partM0,a_partM1,a_slM,a_asStrM,a_fmtM,a_joinM,a_fstrM,a_fstr0,a_fstr1,a_seqM,a_ifM,a_skipM,a_dropM,a_retM,a_retF,a_retN,a_bkM,a_ctM,a_retOw,a_asgM,a_asgF,a_parM,a_nameT,a_tupT,a_tgs0,a_tgs1,a_forM,a_loop0,a_loop1,a_strM,a_seqM',a_tupM',a_rng1M,a_compM,a_comp0,a_comp1,a_wipe0,a_wipe1,a_avs0,a_avs1,a_shA,a_lnA,a_callM,a_callF,a_callQ,a_callN,a_mkQ,a_makeF,a_chkO,a_noErr,a_propM,a_callOM,a_methM,a_cmpO,a_reprO,a_putM,a_flM,a_wrM,a_setIx,a_fm0,a_fm1,a_fm2,a_enumM,a_zipM,a_zipSM,a_idxM,a_lenA,a_callPM,a_mx0,a_mxS,a_mxF,a_parX,a_raiseF,a_tryM,a_cloM,a_callCM, initS, flatD, avSl, getA, is_int, setBack, endF, outS, leD, levD, c]
theorem check_num (a : Ad) {v lo hi : Int} (h1 : lo ≤ v) (h2 : v ≤ hi) : m_fcheck_number a [.int v, .int lo, .int hi] = .ok false .non [.non, .non, .non] := by
  unfold m_fcheck_number runF
  simp [a_ret,a_bnd,a_lift,a_opM,a_unM,a_testM,a_andM,a_orM,a_notM,a_iteM,a_andV,a_orV,a_notV,a_shareM,a_varM,a_peekM,a_args0,a_args1,a_lstM,a_tupM,a_chainM,a_partM0,a_partM1,a_slM,a_asStrM,a_fmtM,a_joinM,a_fstrM,a_fstr0,a_fstr1,a_seqM,a_ifM,a_skipM,a_dropM,a_retM,a_retF,a_retN,a_bkM,a_ctM,a_retOw,a_asgM,a_asgF,a_parM,a_nameT,a_tupT,a_tgs0,a_tgs1,a_forM,a_loop0,a_loop1,a_strM,a_seqM',a_tupM',a_rng1M,a_compM,a_comp0,a_comp1,a_wipe0,a_wipe1,a_avs0,a_avs1,a_shA,a_lnA,a_callM,a_callF,a_callQ,a_callN,a_mkQ,a_makeF,a_chkO,a_noErr,a_propM,a_callOM,a_methM,a_cmpO,a_reprO,a_putM,a_flM,a_wrM,a_setIx,a_fm0,a_fm1,a_fm2,a_enumM,a_zipM,a_zipSM,a_idxM,a_lenA,a_callPM,a_mx0,a_mxS,a_mxF,a_parX,a_raiseF,a_tryM,a_cloM,a_callCM, initS, flatD, avSl, getA, in_range_int, setBack, endF, outS, h1, h2]
theorem is_bl (a : Ad) (b : Bool) : m_fis_integer a [.bl b] = .ok false (.bl false) [.non] := rfl
theorem is_non (a : Ad) : m_fis_integer a [.non] = .ok false (.bl false) [.non] := rfl
theorem is_str (a : Ad) (s : Str) : m_fis_integer a [.str s] = .ok false (.bl false) [.non] := rfl
theorem is_lst (a : Ad) (s : List D) : m_fis_integer a [.lst s] = .ok false (.bl false) [.non] := rfl
theorem is_tup (a : Ad) (s : List D) : m_fis_integer a [.tup s] = .ok false (.bl false) [.non] := rfl
theorem draw_call (a : Ad) {st : DSt} {i : Nat} {p : Int × Int} {n : Int} {mu : Bool} (hi : st[i]? = some (some (.ow mu (pl p)))) (h0 : 0 < n) (h1 : n < 1073741824) :
    callM [true, false] (m_f_law_draw a) [] (avsM [lnA i, shA (DL.ret (.int n))]) st = .ok (.int (drawV p n)) (st.set i (some (.ow mu (pl (drawP p n))))) := by
  simp [a_ret,a_bnd,a_lift,a_opM,a_unM,a_testM,a_andM,a_orM,a_notM,a_iteM,a_andV,a_orV,a_notV,a_shareM,a_varM,a_peekM,a_args0,a_args1,a_lstM,a_tupM,a_chainM,a_partM0,a_partM1,a_slM,a_asStrM,a_fmtM,a_joinM,a_fstrM,a_fstr0,a_fstr1,a_seqM,a_ifM,a_skipM,a_dropM,a_retM,a_retF,a_retN,a_bkM,a_ctM,a_retOw,a_asgM,a_asgF,a_parM,a_nameT,a_tupT,a_tgs0,a_tgs1,a_forM,a_loop0,a_loop1,a_strM,a_seqM',a_tupM',a_rng1M,a_compM,a_comp0,a_comp1,a_wipe0,a_wipe1,a_avs0,a_avs1,a_shA,a_lnA,a_callM,a_callF,a_callQ,a_callN,a_mkQ,a_makeF,a_chkO,a_noErr,a_propM,a_callOM,a_methM,a_cmpO,a_reprO,a_putM,a_flM,a_wrM,a_setIx,a_fm0,a_fm1,a_fm2,a_enumM,a_zipM,a_zipSM,a_idxM,a_lenA,a_callPM,a_mx0,a_mxS,a_mxF,a_parX,a_raiseF,a_tryM,a_cloM,a_callCM, hi, getA, draw_eq a p n h0 h1, setBack, setOw]
abbrev SG : Str := "abz09m"
theorem sg_all : ∀ c ∈ SG.cps.toList, inC c = true := by decide
theorem sg_ix (v : Int) (h0 : 0 ≤ v) (h1 : v < 6) : ∃ c, inC c = true ∧ ixD (.str SG) (.int v) = some (.str ⟨#[c]⟩) := by
  have hl : SG.cps.toList.length = 6 := by decide
  have hv : v.toNat < SG.cps.toList.length := by rw [hl]; omega
  refine ⟨SG.cps.toList[v.toNat], sg_all _ (List.getElem_mem hv), ?_⟩
  have e : atI SG.cps.toList v = some SG.cps.toList[v.toNat] := by
    unfold atI ixN
    rw [if_pos h0, if_pos (by rw [hl]; omega)]
    exact List.getElem?_eq_getElem hv
  show (if SG.length ≤ 16777216 then (atI SG.cps.toList v).map fun c => D.str ⟨#[c]⟩ else none) = _
  rw [if_pos (by decide), e]
  rfl
theorem lk_loop (a : Ad) (most : Int) : ∀ (ds acc : List D) (p : Int × Int) (x : Option Slot), acc.length + ds.length < 16777216 → ∃ (cs : List Nat) (p' : Int × Int) (y : Option Slot), cs.length = ds.length ∧ (∀ c ∈ cs, inC c = true) ∧
    compL [2] (nameT 2) (DL.ret true) (bd0_f_law_key a) ds acc [some (.ow true (pl p)), some (.sh (.int most)), x] = .ok (.lst (acc ++ cs.map fun c => .str ⟨#[c]⟩)) [some (.ow true (pl p')), some (.sh (.int most)), y]
  | [], acc, p, x, _ => ⟨[], p, x, rfl, (fun _ h => by cases h), by rw [a_comp0]; simp⟩
  | d :: ds, acc, p, x, hl => by
    rw [List.length_cons] at hl
    obtain ⟨v0, v1⟩ := drawV_rng p 6 (by omega)
    obtain ⟨c, hc, e⟩ := sg_ix (drawV p 6) v0 v1
    obtain ⟨cs, p', y, h1, h2, h3⟩ := lk_loop a most ds (acc ++ [.str ⟨#[c]⟩]) (drawP p 6) none (by rw [List.length_append, List.length_singleton]; omega)
    refine ⟨c :: cs, p', y, by rw [List.length_cons, List.length_cons, h1], fun b hb => ?_, ?_⟩
    · rcases List.mem_cons.mp hb with rfl | hb
      · exact hc
      · exact h2 b hb
    · have hacc : acc.length < 16777216 := by omega
      have el : bd0_f_law_key a [some (.ow true (pl p)), some (.sh (.int most)), some (.sh d)] = .ok (.str ⟨#[c]⟩) [some (.ow true (pl (drawP p 6))), some (.sh (.int most)), some (.sh d)] := by
        unfold bd0_f_law_key
        exact e_op (a_ret _) (draw_call a (i := 0) rfl (by omega) (by omega)) e
      rw [a_comp1]
      simp only [a_nameT, List.set_cons_succ, List.set_cons_zero, a_ret, el, hacc, if_true, a_wipe1, a_wipe0]
      rw [h3, List.map_cons, List.append_assoc]
      rfl
theorem asStrs_f (f : Nat → Str) : ∀ cs : List Nat, asStrs (cs.map fun c => D.str (f c)) = some (cs.map f)
  | [] => rfl
  | c :: cs => by
    rw [List.map_cons, List.map_cons, asStrs, asStrs_f f cs]
    rfl
theorem glue_l : ∀ (cs : List Nat) (acc : Array Nat), (cs.map fun c => (⟨#[c]⟩ : Str)).foldl (fun acc p => acc ++ (Str.ofString "").cps ++ p.cps) acc = acc ++ cs.toArray
  | [], acc => by simp
  | c :: cs, acc => by
    rw [List.map_cons, List.foldl_cons, glue_l cs]
    have : (Str.ofString "").cps = #[] := by decide
    rw [this]
    simp
theorem join_cs (cs : List Nat) : Txt.join (Str.ofString "") (cs.map fun c => ⟨#[c]⟩) = ⟨cs.toArray⟩ := by
  show Builtin.Str.glued _ _ = _
  unfold Builtin.Str.glued
  cases cs with
  | nil => rfl
  | cons c cs =>
    rw [List.map_cons, List.drop_succ_cons, List.drop_zero, glue_l]
    simp
theorem sum_ones : ∀ cs : List Nat, ((cs.map fun c => (⟨#[c]⟩ : Str)).map (·.length)).sum = cs.length
  | [] => rfl
  | c :: cs => by
    rw [List.map_cons, List.map_cons, List.sum_cons, sum_ones cs, List.length_cons]
    show 1 + cs.length = cs.length + 1
    omega
theorem law_key (a : Ad) (p : Int × Int) : ∃ (k : Str) (p' : Int × Int), Good k ∧ m_f_law_key a [pl p, .int 2] = .ok false (.str k) [pl p', .non] := by
  obtain ⟨v0, v1⟩ := drawV_rng p 2 (by omega)
  have hlen : (rangeD 0 (1 + drawV p 2).toNat).length = (1 + drawV p 2).toNat := by unfold rangeD; rw [List.length_map, List.length_range]
  obtain ⟨cs, p', y, h1, h2, h3⟩ := lk_loop a 2 (rangeD 0 (1 + drawV p 2).toNat) [] (drawP p 2) none (by rw [hlen, List.length_nil]; omega)
  rw [hlen] at h1
  have kl : (⟨cs.toArray⟩ : Str).length = cs.length := by show cs.toArray.size = _; simp
  refine ⟨⟨cs.toArray⟩, p', ⟨by rw [kl]; omega, by rw [kl]; omega, ?_⟩, ?_⟩
  · unfold okS
    exact List.all_eq_true.mpr h2
  · have hj : joinD (Str.ofString "") (.lst (cs.map fun c => D.str ⟨#[c]⟩)) = some (.str ⟨cs.toArray⟩) := by
      show (asStrs _).bind _ = _
      rw [asStrs_f fun c => ⟨#[c]⟩]
      show (if _ then _ else _) = _
      rw [sum_ones, List.length_map, if_pos (by have : (Str.ofString "").length = 0 := by decide
                                                rw [this]; omega), join_cs]
    rw [List.nil_append] at h3
    have hr : rng1M (opM addD (DL.ret (.int 1)) (callM [true, false] (m_f_law_draw a) [] (avsM [lnA 0, shA (varM 1)]))) [some (.ow true (pl p)), some (.sh (.int 2)), none] = .ok (rangeD 0 (1 + drawV p 2).toNat) [some (.ow true (pl (drawP p 2))), some (.sh (.int 2)), none] := by
      have hd : callM [true, false] (m_f_law_draw a) [] (avsM [lnA 0, shA (varM 1)]) [some (.ow true (pl p)), some (.sh (.int 2)), none] = .ok (.int (drawV p 2)) [some (.ow true (pl (drawP p 2))), some (.sh (.int 2)), none] := by
        simp [a_ret,a_bnd,a_lift,a_opM,a_unM,a_testM,a_andM,a_orM,a_notM,a_iteM,a_andV,a_orV,a_notV,a_shareM,a_varM,a_peekM,a_args0,a_args1,a_lstM,a_tupM,a_chainM,a_partM0,a_partM1,a_slM,a_asStrM,a_fmtM,a_joinM,a_fstrM,a_fstr0,a_fstr1,a_seqM,a_ifM,a_skipM,a_dropM,a_retM,a_retF,a_retN,a_bkM,a_ctM,a_retOw,a_asgM,a_asgF,a_parM,a_nameT,a_tupT,a_tgs0,a_tgs1,a_forM,a_loop0,a_loop1,a_strM,a_seqM',a_tupM',a_rng1M,a_compM,a_comp0,a_comp1,a_wipe0,a_wipe1,a_avs0,a_avs1,a_shA,a_lnA,a_callM,a_callF,a_callQ,a_callN,a_mkQ,a_makeF,a_chkO,a_noErr,a_propM,a_callOM,a_methM,a_cmpO,a_reprO,a_putM,a_flM,a_wrM,a_setIx,a_fm0,a_fm1,a_fm2,a_enumM,a_zipM,a_zipSM,a_idxM,a_lenA,a_callPM,a_mx0,a_mxS,a_mxF,a_parX,a_raiseF,a_tryM,a_cloM,a_callCM, getA, draw_eq a p 2 (by omega) (by omega), setBack, setOw]
      rw [a_rng1M, e_op (z := .int (1 + drawV p 2)) (a_ret _) hd rfl]
      have r1 : -4611686018427387904 ≤ 1 + drawV p 2 ∧ 1 + drawV p 2 < 4611686018427387904 := by omega
      simp only [r1, and_self, if_true]
    have hc : shareM (compM [2] (rng1M (opM addD (DL.ret (.int 1)) (callM [true, false] (m_f_law_draw a) [] (avsM [lnA 0, shA (varM 1)])))) (nameT 2) (DL.ret true) (bd0_f_law_key a)) [some (.ow true (pl p)), some (.sh (.int 2)), none] = .ok (.lst (cs.map fun c => D.str ⟨#[c]⟩)) [some (.ow true (pl p')), some (.sh (.int 2)), y] := by
      refine e_share ?_ rfl
      rw [a_compM, hr]
      exact h3
    unfold m_f_law_key runF
    have hs : retM (joinM (asStrM (DL.ret (.str ""))) (shareM (compM [2] (rng1M (opM addD (DL.ret (.int 1)) (callM [true, false] (m_f_law_draw a) [] (avsM [lnA 0, shA (varM 1)])))) (nameT 2) (DL.ret true) (bd0_f_law_key a)))) [some (.ow true (pl p)), some (.sh (.int 2)), none] = .rt false (.str ⟨cs.toArray⟩) [some (.ow true (pl p')), some (.sh (.int 2)), y] := by
      refine e_ret ?_
      rw [a_joinM, a_asStrM, a_ret]
      simp only [hc, hj]
    show (match retM (joinM (asStrM (DL.ret (.str ""))) _) [some (.ow true (pl p)), some (.sh (.int 2)), none] with | .nx st => _ | .rt fr d st => _ | .err x st => _ | _ => _) = _
    rw [hs]
    rfl
end K12
namespace K12
open PySem L2 DL
local instance : TB := ⟨[]⟩
local instance : LC := ⟨fun _ => none⟩
/-! ### a log -/
abbrev RW := Int × Str × Option Int × Option Int
def oD : Option Int → D
  | none => .non
  | some i => .int i
def rD (r : RW) : D := .tup [.int r.1, .str r.2.1, oD r.2.2.1, oD r.2.2.2]
def lgO (a : Ad) (b f : Int) (L : List RW) : D := .obj a.c_ChangeLog [("own_bound", .int b), ("own_floor", .int f), ("own_changes", .box (.lst (L.map rD)))]
def lgS (a : Ad) (b f : Int) (L : List RW) : D := .obj a.c_ChangeLog [("own_bound", .int b), ("own_floor", .int f), ("own_changes", .lst (L.map rD))]
theorem nk0 : (("last" : Str) == ("own_bound" : Str)) = false := by decide
theorem nk1 : (("last" : Str) == ("own_floor" : Str)) = false := by decide
theorem nk2 : (("last" : Str) == ("own_changes" : Str)) = false := by decide
theorem nk3 : (("add" : Str) == ("own_bound" : Str)) = false := by decide
theorem nk4 : (("add" : Str) == ("own_floor" : Str)) = false := by decide
theorem nk5 : (("add" : Str) == ("own_changes" : Str)) = false := by decide
theorem nk6 : (("trim" : Str) == ("own_bound" : Str)) = false := by decide
theorem nk7 : (("trim" : Str) == ("own_floor" : Str)) = false := by decide
theorem nk8 : (("trim" : Str) == ("own_changes" : Str)) = false := by decide
theorem nk9 : (("changes" : Str) == ("own_bound" : Str)) = false := by decide
theorem nk10 : (("changes" : Str) == ("own_floor" : Str)) = false := by decide
theorem nk11 : (("changes" : Str) == ("own_changes" : Str)) = false := by decide
theorem nk12 : (("since" : Str) == ("own_bound" : Str)) = false := by decide
theorem nk13 : (("since" : Str) == ("own_floor" : Str)) = false := by decide
theorem nk14 : (("since" : Str) == ("own_changes" : Str)) = false := by decide
theorem nk15 : (("floor" : Str) == ("own_bound" : Str)) = false := by decide
theorem nk16 : (("floor" : Str) == ("own_floor" : Str)) = false := by decide
theorem nk17 : (("floor" : Str) == ("own_changes" : Str)) = false := by decide
theorem nk18 : (("bound" : Str) == ("own_bound" : Str)) = false := by decide
theorem nk19 : (("bound" : Str) == ("own_floor" : Str)) = false := by decide
theorem nk20 : (("bound" : Str) == ("own_changes" : Str)) = false := by decide
theorem nk21 : (("own_bound" : Str) == ("own_floor" : Str)) = false := by decide
theorem nk22 : (("own_bound" : Str) == ("own_changes" : Str)) = false := by decide
theorem nk23 : (("own_floor" : Str) == ("own_bound" : Str)) = false := by decide
theorem nk24 : (("own_floor" : Str) == ("own_changes" : Str)) = false := by decide
theorem nk25 : (("own_changes" : Str) == ("own_bound" : Str)) = false := by decide
theorem nk26 : (("own_changes" : Str) == ("own_floor" : Str)) = false := by decide
theorem nk27 : (Str.empty == ("own_bound" : Str)) = false := by decide
theorem nk28 : (Str.empty == ("own_floor" : Str)) = false := by decide
theorem nk29 : (Str.empty == ("own_changes" : Str)) = false := by decide
theorem nk30 : ¬ (("own_bound" : Str) = ("own_floor" : Str)) := by decide
theorem nk31 : ¬ (("own_bound" : Str) = ("own_changes" : Str)) := by decide
theorem nk32 : ¬ (("own_floor" : Str) = ("own_bound" : Str)) := by decide
theorem nk33 : ¬ (("own_floor" : Str) = ("own_changes" : Str)) := by decide
theorem nk34 : ¬ (("own_changes" : Str) = ("own_bound" : Str)) := by decide
theorem nk35 : ¬ (("own_changes" : Str) = ("own_floor" : Str)) := by decide
theorem imm_o (x : Option Int) : immD (oD x) = true := by cases x <;> simp [oD, immD]
theorem imm_r (r : RW) : immD (rD r) = true := by simp [rD, immD, immA, imm_o]
theorem imm_rs : ∀ L : List RW, immA (L.map rD) = true
  | [] => by simp [immA]
  | r :: L => by rw [List.map_cons, immA, imm_r, imm_rs L]; rfl
theorem immF_lg (a : Ad) (b f : Int) (L : List RW) : immF (lgO a b f L) = true := by simp [immF, lgO, immB, imm_rs, immD]
theorem vw_lg (a : Ad) (b f : Int) (L : List RW) : vwOk (lgO a b f L) = true := by simp [vwOk, lgO, isLs]
theorem unb_lg (a : Ad) (b f : Int) (L : List RW) : unb (lgO a b f L) = lgS a b f L := rfl
theorem s_bound (a : Ad) (b f : Int) (L : List RW) : attD a.c_ChangeLog "own_bound" (lgS a b f L) = some (.int b) := by simp [lgS, attD, isBox, List.lookup]
theorem s_floor (a : Ad) (b f : Int) (L : List RW) : attD a.c_ChangeLog "own_floor" (lgS a b f L) = some (.int f) := by simp [lgS, attD, isBox, List.lookup, nk0, nk1, nk2, nk3, nk4, nk5, nk6, nk7, nk8, nk9, nk10, nk11, nk12, nk13, nk14, nk15, nk16, nk17, nk18, nk19, nk20, nk21, nk22, nk23, nk24, nk25, nk26, nk27, nk28, nk29, nk30, nk31, nk32, nk33, nk34, nk35]
theorem s_chs (a : Ad) (b f : Int) (L : List RW) : attD a.c_ChangeLog "own_changes" (lgS a b f L) = some (.lst (L.map rD)) := by simp [lgS, attD, isBox, List.lookup, nk0, nk1, nk2, nk3, nk4, nk5, nk6, nk7, nk8, nk9, nk10, nk11, nk12, nk13, nk14, nk15, nk16, nk17, nk18, nk19, nk20, nk21, nk22, nk23, nk24, nk25, nk26, nk27, nk28, nk29, nk30, nk31, nk32, nk33, nk34, nk35]
theorem o_bound (a : Ad) (b f : Int) (L : List RW) : attD a.c_ChangeLog "own_bound" (lgO a b f L) = some (.int b) := by simp [lgO, attD, isBox, List.lookup]
theorem o_chs (a : Ad) (b f : Int) (L : List RW) : attP a.c_ChangeLog "own_changes" (lgO a b f L) = some (.lst (L.map rD)) := by simp [lgO, attP, opn, List.lookup, nk0, nk1, nk2, nk3, nk4, nk5, nk6, nk7, nk8, nk9, nk10, nk11, nk12, nk13, nk14, nk15, nk16, nk17, nk18, nk19, nk20, nk21, nk22, nk23, nk24, nk25, nk26, nk27, nk28, nk29, nk30, nk31, nk32, nk33, nk34, nk35]
theorem obS (a : Ad) (b f : Int) (L : List RW) (st : DSt) {nm : Str} (h1 : (nm == ("own_bound" : Str)) = false) (h2 : (nm == ("own_floor" : Str)) = false) (h3 : (nm == ("own_changes" : Str)) = false) : chkO a.c_ChangeLog nm (.d (lgS a b f L)) st = .ok () st := by
  simp [b_chkO, b_objD, lgS, List.lookup, h1, h2, h3]
theorem obO (a : Ad) {b f : Int} {L : List RW} {st : DSt} {nm : Str} {i : Nat} {mu : Bool} (hi : st[i]? = some (some (.ow mu (lgO a b f L)))) (h1 : (nm == ("own_bound" : Str)) = false) (h2 : (nm == ("own_floor" : Str)) = false) (h3 : (nm == ("own_changes" : Str)) = false) : chkO a.c_ChangeLog nm (.m i) st = .ok () st := by
  simp [b_chkO, b_objM, hi, lgO, List.lookup, h1, h2, h3]
/-! ### what is told of it -/
theorem bound_eq (a : Ad) (b f : Int) (L : List RW) : m_fChangeLog_bound a [lgS a b f L] = .ok false (.int b) [.non] := by
  unfold m_fChangeLog_bound
  simp [b_bd1,b_bd2,b_bd3,b_od1,b_od2,b_od3,b_th1,b_th2,b_th3,b_th4,b_th5,b_th6,b_fin1,b_fin2,b_fin3,b_runF,b_q1,b_q2,b_q3,b_n1,b_n2,b_qK,b_nK,b_ret,b_bnd,b_doM,b_lift,b_opM,b_unM,b_testM,b_tst,b_andM,b_and1,b_and2,b_orM,b_or1,b_or2,b_notM,b_iteM,b_ite1,b_ite2,b_andV,b_andV1,b_andV2,b_orV,b_orV1,b_orV2,b_notV,b_notK,b_shareM,b_shK,b_varM,b_peekM,b_args0,b_args1,b_lstM,b_tupM,b_chainM,b_ch1,b_ch2,b_part0,b_part1,b_prK,b_slM,b_seqM,b_ifM,b_if1,b_if2,b_skipM,b_dropM,b_retM,b_retF,b_retK,b_retN,b_bkM,b_ctM,b_retOw,b_asgM,b_asgK,b_out,b_nameT,b_tupT,b_tgs0,b_tgs1,b_asgF,b_asgFK,b_parM,b_parK,b_parX,b_parXK,b_setL0,b_setL1,b_setL2,b_mx0,b_mxS,b_mxF,b_mxK,b_forM,b_loop0,b_seqM',b_sq1,b_sq2,b_tupM',b_tp1,b_rng1M,b_rgK,b_enumM,b_zipM,b_zpK,b_zipSM,b_zsK,b_avs0,b_avs1,b_shA,b_lnA,b_callM,b_callF,b_callQ,b_callN,b_fm0,b_fm1,b_fm2,b_getA0,b_getA1,b_getA2,b_back0,b_back1,b_back2,b_setOw,b_flM,b_wrM,b_wrK,b_setIx,b_sxK,b_idxM,b_lenA,b_lnK,b_callPM,b_raiseF,b_rsK,b_init0,b_init1,b_init2,b_endF,b_outS0,b_outS1,b_outS2,b_rng3M,b_rgK3,b_setT,b_setTk,b_lstR1,b_lrK,b_dspM,b_dspI,b_dspS,b_enumFM,b_enK,b_lstR2,b_lr2K, s_bound]
theorem floor_eq (a : Ad) (b f : Int) (L : List RW) : m_fChangeLog_floor a [lgS a b f L] = .ok false (.int f) [.non] := by
  unfold m_fChangeLog_floor
  simp [b_bd1,b_bd2,b_bd3,b_od1,b_od2,b_od3,b_th1,b_th2,b_th3,b_th4,b_th5,b_th6,b_fin1,b_fin2,b_fin3,b_runF,b_q1,b_q2,b_q3,b_n1,b_n2,b_qK,b_nK,b_ret,b_bnd,b_doM,b_lift,b_opM,b_unM,b_testM,b_tst,b_andM,b_and1,b_and2,b_orM,b_or1,b_or2,b_notM,b_iteM,b_ite1,b_ite2,b_andV,b_andV1,b_andV2,b_orV,b_orV1,b_orV2,b_notV,b_notK,b_shareM,b_shK,b_varM,b_peekM,b_args0,b_args1,b_lstM,b_tupM,b_chainM,b_ch1,b_ch2,b_part0,b_part1,b_prK,b_slM,b_seqM,b_ifM,b_if1,b_if2,b_skipM,b_dropM,b_retM,b_retF,b_retK,b_retN,b_bkM,b_ctM,b_retOw,b_asgM,b_asgK,b_out,b_nameT,b_tupT,b_tgs0,b_tgs1,b_asgF,b_asgFK,b_parM,b_parK,b_parX,b_parXK,b_setL0,b_setL1,b_setL2,b_mx0,b_mxS,b_mxF,b_mxK,b_forM,b_loop0,b_seqM',b_sq1,b_sq2,b_tupM',b_tp1,b_rng1M,b_rgK,b_enumM,b_zipM,b_zpK,b_zipSM,b_zsK,b_avs0,b_avs1,b_shA,b_lnA,b_callM,b_callF,b_callQ,b_callN,b_fm0,b_fm1,b_fm2,b_getA0,b_getA1,b_getA2,b_back0,b_back1,b_back2,b_setOw,b_flM,b_wrM,b_wrK,b_setIx,b_sxK,b_idxM,b_lenA,b_lnK,b_callPM,b_raiseF,b_rsK,b_init0,b_init1,b_init2,b_endF,b_outS0,b_outS1,b_outS2,b_rng3M,b_rgK3,b_setT,b_setTk,b_lstR1,b_lrK,b_dspM,b_dspI,b_dspS,b_enumFM,b_enK,b_lstR2,b_lr2K, s_floor]
def lastV (f : Int) (L : List RW) : Int := match L.getLast? with
  | some r => r.1
  | none => f
def oP : Option Int → PyData
  | none => .none
  | some i => .int i
def rP (r : RW) : PyData := .tuple [.int r.1, .str r.2.1, oP r.2.2.1, oP r.2.2.2]
theorem toP_r (r : RW) : toP (rD r) = some (rP r) := by
  obtain ⟨m, k, o, n⟩ := r
  cases o <;> cases n <;> rfl
theorem toPs_r : ∀ L : List RW, toPs (L.map rD) = some (L.map rP)
  | [] => rfl
  | r :: L => by rw [List.map_cons, toPs, toP_r, toPs_r L]; rfl
theorem neNil (L : List RW) : neD (.lst (L.map rD)) (.lst []) = some (.bl (!L.isEmpty)) := by
  rw [ne_empty (toPs_r L)]
  cases L <;> rfl
theorem ix_last {xs : List D} {x : D} (h : xs.getLast? = some x) : ixD (.lst xs) (.int (-1)) = some x := by
  have hl : xs ≠ [] := by intro z; subst z; cases h
  have hp : 0 < xs.length := List.length_pos_iff.mpr hl
  show atI xs (-1) = _
  unfold atI ixN
  rw [if_neg (by omega), if_pos (by omega)]
  rw [List.getLast?_eq_getElem?] at h
  rw [show (-1 + (xs.length : Int)).toNat = xs.length - 1 by omega]
  exact h
theorem last_eq (a : Ad) (b f : Int) (L : List RW) : m_fChangeLog_last a [lgS a b f L] = .ok false (.int (lastV f L)) [.non] := by
  unfold m_fChangeLog_last
  cases h : L.getLast? with
  | none =>
    have : L = [] := by simpa using h
    subst this
    have z := neNil []
    simp only [List.map_nil] at z
    simp [b_bd1,b_bd2,b_bd3,b_od1,b_od2,b_od3,b_th1,b_th2,b_th3,b_th4,b_th5,b_th6,b_fin1,b_fin2,b_fin3,b_runF,b_q1,b_q2,b_q3,b_n1,b_n2,b_qK,b_nK,b_ret,b_bnd,b_doM,b_lift,b_opM,b_unM,b_testM,b_tst,b_andM,b_and1,b_and2,b_orM,b_or1,b_or2,b_notM,b_iteM,b_ite1,b_ite2,b_andV,b_andV1,b_andV2,b_orV,b_orV1,b_orV2,b_notV,b_notK,b_shareM,b_shK,b_varM,b_peekM,b_args0,b_args1,b_lstM,b_tupM,b_chainM,b_ch1,b_ch2,b_part0,b_part1,b_prK,b_slM,b_seqM,b_ifM,b_if1,b_if2,b_skipM,b_dropM,b_retM,b_retF,b_retK,b_retN,b_bkM,b_ctM,b_retOw,b_asgM,b_asgK,b_out,b_nameT,b_tupT,b_tgs0,b_tgs1,b_asgF,b_asgFK,b_parM,b_parK,b_parX,b_parXK,b_setL0,b_setL1,b_setL2,b_mx0,b_mxS,b_mxF,b_mxK,b_forM,b_loop0,b_seqM',b_sq1,b_sq2,b_tupM',b_tp1,b_rng1M,b_rgK,b_enumM,b_zipM,b_zpK,b_zipSM,b_zsK,b_avs0,b_avs1,b_shA,b_lnA,b_callM,b_callF,b_callQ,b_callN,b_fm0,b_fm1,b_fm2,b_getA0,b_getA1,b_getA2,b_back0,b_back1,b_back2,b_setOw,b_flM,b_wrM,b_wrK,b_setIx,b_sxK,b_idxM,b_lenA,b_lnK,b_callPM,b_raiseF,b_rsK,b_init0,b_init1,b_init2,b_endF,b_outS0,b_outS1,b_outS2,b_rng3M,b_rgK3,b_setT,b_setTk,b_lstR1,b_lrK,b_dspM,b_dspI,b_dspS,b_enumFM,b_enK,b_lstR2,b_lr2K, s_chs, s_floor, flatD, z, lastV]
  | some r =>
    have hn : L.isEmpty = false := by cases L with | nil => cases h | cons _ _ => rfl
    have hx : ixD (.lst (L.map rD)) (.int (-1)) = some (rD r) := ix_last (by rw [List.getLast?_map, h]; rfl)
    have hr : ixD (rD r) (.int 0) = some (.int r.1) := rfl
    simp [b_bd1,b_bd2,b_bd3,b_od1,b_od2,b_od3,b_th1,b_th2,b_th3,b_th4,b_th5,b_th6,b_fin1,b_fin2,b_fin3,b_runF,b_q1,b_q2,b_q3,b_n1,b_n2,b_qK,b_nK,b_ret,b_bnd,b_doM,b_lift,b_opM,b_unM,b_testM,b_tst,b_andM,b_and1,b_and2,b_orM,b_or1,b_or2,b_notM,b_iteM,b_ite1,b_ite2,b_andV,b_andV1,b_andV2,b_orV,b_orV1,b_orV2,b_notV,b_notK,b_shareM,b_shK,b_varM,b_peekM,b_args0,b_args1,b_lstM,b_tupM,b_chainM,b_ch1,b_ch2,b_part0,b_part1,b_prK,b_slM,b_seqM,b_ifM,b_if1,b_if2,b_skipM,b_dropM,b_retM,b_retF,b_retK,b_retN,b_bkM,b_ctM,b_retOw,b_asgM,b_asgK,b_out,b_nameT,b_tupT,b_tgs0,b_tgs1,b_asgF,b_asgFK,b_parM,b_parK,b_parX,b_parXK,b_setL0,b_setL1,b_setL2,b_mx0,b_mxS,b_mxF,b_mxK,b_forM,b_loop0,b_seqM',b_sq1,b_sq2,b_tupM',b_tp1,b_rng1M,b_rgK,b_enumM,b_zipM,b_zpK,b_zipSM,b_zsK,b_avs0,b_avs1,b_shA,b_lnA,b_callM,b_callF,b_callQ,b_callN,b_fm0,b_fm1,b_fm2,b_getA0,b_getA1,b_getA2,b_back0,b_back1,b_back2,b_setOw,b_flM,b_wrM,b_wrK,b_setIx,b_sxK,b_idxM,b_lenA,b_lnK,b_callPM,b_raiseF,b_rsK,b_init0,b_init1,b_init2,b_endF,b_outS0,b_outS1,b_outS2,b_rng3M,b_rgK3,b_setT,b_setTk,b_lstR1,b_lrK,b_dspM,b_dspI,b_dspS,b_enumFM,b_enK,b_lstR2,b_lr2K, s_chs, flatD, neNil, hn, lastV, h, negI, hx, hr]
theorem len_eq (a : Ad) (b f : Int) (L : List RW) (hl : L.length ≤ 1000000) : m_fChangeLog___len__ a [lgS a b f L] = .ok false (.int L.length) [.non] := by
  unfold m_fChangeLog___len__
  simp [b_bd1,b_bd2,b_bd3,b_od1,b_od2,b_od3,b_th1,b_th2,b_th3,b_th4,b_th5,b_th6,b_fin1,b_fin2,b_fin3,b_runF,b_q1,b_q2,b_q3,b_n1,b_n2,b_qK,b_nK,b_ret,b_bnd,b_doM,b_lift,b_opM,b_unM,b_testM,b_tst,b_andM,b_and1,b_and2,b_orM,b_or1,b_or2,b_notM,b_iteM,b_ite1,b_ite2,b_andV,b_andV1,b_andV2,b_orV,b_orV1,b_orV2,b_notV,b_notK,b_shareM,b_shK,b_varM,b_peekM,b_args0,b_args1,b_lstM,b_tupM,b_chainM,b_ch1,b_ch2,b_part0,b_part1,b_prK,b_slM,b_seqM,b_ifM,b_if1,b_if2,b_skipM,b_dropM,b_retM,b_retF,b_retK,b_retN,b_bkM,b_ctM,b_retOw,b_asgM,b_asgK,b_out,b_nameT,b_tupT,b_tgs0,b_tgs1,b_asgF,b_asgFK,b_parM,b_parK,b_parX,b_parXK,b_setL0,b_setL1,b_setL2,b_mx0,b_mxS,b_mxF,b_mxK,b_forM,b_loop0,b_seqM',b_sq1,b_sq2,b_tupM',b_tp1,b_rng1M,b_rgK,b_enumM,b_zipM,b_zpK,b_zipSM,b_zsK,b_avs0,b_avs1,b_shA,b_lnA,b_callM,b_callF,b_callQ,b_callN,b_fm0,b_fm1,b_fm2,b_getA0,b_getA1,b_getA2,b_back0,b_back1,b_back2,b_setOw,b_flM,b_wrM,b_wrK,b_setIx,b_sxK,b_idxM,b_lenA,b_lnK,b_callPM,b_raiseF,b_rsK,b_init0,b_init1,b_init2,b_endF,b_outS0,b_outS1,b_outS2,b_rng3M,b_rgK3,b_setT,b_setTk,b_lstR1,b_lrK,b_dspM,b_dspI,b_dspS,b_enumFM,b_enK,b_lstR2,b_lr2K, s_chs, lenD]
theorem changes_eq (a : Ad) (b f : Int) (L : List RW) : m_fChangeLog_changes a [lgS a b f L] = .ok true (.lst (L.map rD)) [.non] := by
  unfold m_fChangeLog_changes
  simp [b_bd1,b_bd2,b_bd3,b_od1,b_od2,b_od3,b_th1,b_th2,b_th3,b_th4,b_th5,b_th6,b_fin1,b_fin2,b_fin3,b_runF,b_q1,b_q2,b_q3,b_n1,b_n2,b_qK,b_nK,b_ret,b_bnd,b_doM,b_lift,b_opM,b_unM,b_testM,b_tst,b_andM,b_and1,b_and2,b_orM,b_or1,b_or2,b_notM,b_iteM,b_ite1,b_ite2,b_andV,b_andV1,b_andV2,b_orV,b_orV1,b_orV2,b_notV,b_notK,b_shareM,b_shK,b_varM,b_peekM,b_args0,b_args1,b_lstM,b_tupM,b_chainM,b_ch1,b_ch2,b_part0,b_part1,b_prK,b_slM,b_seqM,b_ifM,b_if1,b_if2,b_skipM,b_dropM,b_retM,b_retF,b_retK,b_retN,b_bkM,b_ctM,b_retOw,b_asgM,b_asgK,b_out,b_nameT,b_tupT,b_tgs0,b_tgs1,b_asgF,b_asgFK,b_parM,b_parK,b_parX,b_parXK,b_setL0,b_setL1,b_setL2,b_mx0,b_mxS,b_mxF,b_mxK,b_forM,b_loop0,b_seqM',b_sq1,b_sq2,b_tupM',b_tp1,b_rng1M,b_rgK,b_enumM,b_zipM,b_zpK,b_zipSM,b_zsK,b_avs0,b_avs1,b_shA,b_lnA,b_callM,b_callF,b_callQ,b_callN,b_fm0,b_fm1,b_fm2,b_getA0,b_getA1,b_getA2,b_back0,b_back1,b_back2,b_setOw,b_flM,b_wrM,b_wrK,b_setIx,b_sxK,b_idxM,b_lenA,b_lnK,b_callPM,b_raiseF,b_rsK,b_init0,b_init1,b_init2,b_endF,b_outS0,b_outS1,b_outS2,b_rng3M,b_rgK3,b_setT,b_setTk,b_lstR1,b_lrK,b_dspM,b_dspI,b_dspS,b_enumFM,b_enK,b_lstR2,b_lr2K, s_chs, listD]
end K12
namespace K12
open PySem L2 DL
local instance : TB := ⟨[]⟩
local instance : LC := ⟨fun _ => none⟩
/-! ### checks -/
abbrev xN (a : Ad) (v : D) : Exc := ⟨.ref a.e_InvalidNumber, [("value", v)]⟩
abbrev xK (a : Ad) (v : D) : Exc := ⟨.ref a.e_InvalidKey, [("value", v)]⟩
abbrev xF (a : Ad) (v : D) : Exc := ⟨.ref a.e_Forgotten, [("until", v)]⟩
theorem least_ok (a : Ad) {v k : Int} (h : k ≤ v) : m_fcheck_least a [.int v, .int k] = .ok false .non [.non, .non] := by
  unfold m_fcheck_least
  have h' : ¬ v < k := by omega
  simp [b_bd1,b_bd2,b_bd3,b_od1,b_od2,b_od3,b_th1,b_th2,b_th3,b_th4,b_th5,b_th6,b_fin1,b_fin2,b_fin3,b_runF,b_q1,b_q2,b_q3,b_n1,b_n2,b_qK,b_nK,b_ret,b_bnd,b_doM,b_lift,b_opM,b_unM,b_testM,b_tst,b_andM,b_and1,b_and2,b_orM,b_or1,b_or2,b_notM,b_iteM,b_ite1,b_ite2,b_andV,b_andV1,b_andV2,b_orV,b_orV1,b_orV2,b_notV,b_notK,b_shareM,b_shK,b_varM,b_peekM,b_args0,b_args1,b_lstM,b_tupM,b_chainM,b_ch1,b_ch2,b_part0,b_part1,b_prK,b_slM,b_seqM,b_ifM,b_if1,b_if2,b_skipM,b_dropM,b_retM,b_retF,b_retK,b_retN,b_bkM,b_ctM,b_retOw,b_asgM,b_asgK,b_out,b_nameT,b_tupT,b_tgs0,b_tgs1,b_asgF,b_asgFK,b_parM,b_parK,b_parX,b_parXK,b_setL0,b_setL1,b_setL2,b_mx0,b_mxS,b_mxF,b_mxK,b_forM,b_loop0,b_seqM',b_sq1,b_sq2,b_tupM',b_tp1,b_rng1M,b_rgK,b_enumM,b_zipM,b_zpK,b_zipSM,b_zsK,b_avs0,b_avs1,b_shA,b_lnA,b_callM,b_callF,b_callQ,b_callN,b_fm0,b_fm1,b_fm2,b_getA0,b_getA1,b_getA2,b_back0,b_back1,b_back2,b_setOw,b_flM,b_wrM,b_wrK,b_setIx,b_sxK,b_idxM,b_lenA,b_lnK,b_callPM,b_raiseF,b_rsK,b_init0,b_init1,b_init2,b_endF,b_outS0,b_outS1,b_outS2,b_rng3M,b_rgK3,b_setT,b_setTk,b_lstR1,b_lrK,b_dspM,b_dspI,b_dspS,b_enumFM,b_enK,b_lstR2,b_lr2K, is_int, ltD, ltvD, h']
theorem least_lo (a : Ad) {v k : Int} (h : v < k) : m_fcheck_least a [.int v, .int k] = .err (xN a (.int v)) [.non, .non] := by
  unfold m_fcheck_least
  simp [b_bd1,b_bd2,b_bd3,b_od1,b_od2,b_od3,b_th1,b_th2,b_th3,b_th4,b_th5,b_th6,b_fin1,b_fin2,b_fin3,b_runF,b_q1,b_q2,b_q3,b_n1,b_n2,b_qK,b_nK,b_ret,b_bnd,b_doM,b_lift,b_opM,b_unM,b_testM,b_tst,b_andM,b_and1,b_and2,b_orM,b_or1,b_or2,b_notM,b_iteM,b_ite1,b_ite2,b_andV,b_andV1,b_andV2,b_orV,b_orV1,b_orV2,b_notV,b_notK,b_shareM,b_shK,b_varM,b_peekM,b_args0,b_args1,b_lstM,b_tupM,b_chainM,b_ch1,b_ch2,b_part0,b_part1,b_prK,b_slM,b_seqM,b_ifM,b_if1,b_if2,b_skipM,b_dropM,b_retM,b_retF,b_retK,b_retN,b_bkM,b_ctM,b_retOw,b_asgM,b_asgK,b_out,b_nameT,b_tupT,b_tgs0,b_tgs1,b_asgF,b_asgFK,b_parM,b_parK,b_parX,b_parXK,b_setL0,b_setL1,b_setL2,b_mx0,b_mxS,b_mxF,b_mxK,b_forM,b_loop0,b_seqM',b_sq1,b_sq2,b_tupM',b_tp1,b_rng1M,b_rgK,b_enumM,b_zipM,b_zpK,b_zipSM,b_zsK,b_avs0,b_avs1,b_shA,b_lnA,b_callM,b_callF,b_callQ,b_callN,b_fm0,b_fm1,b_fm2,b_getA0,b_getA1,b_getA2,b_back0,b_back1,b_back2,b_setOw,b_flM,b_wrM,b_wrK,b_setIx,b_sxK,b_idxM,b_lenA,b_lnK,b_callPM,b_raiseF,b_rsK,b_init0,b_init1,b_init2,b_endF,b_outS0,b_outS1,b_outS2,b_rng3M,b_rgK3,b_setT,b_setTk,b_lstR1,b_lrK,b_dspM,b_dspI,b_dspS,b_enumFM,b_enK,b_lstR2,b_lr2K, is_int, ltD, ltvD, h]
/-- what is no number -/
def NoI (a : Ad) (v : D) : Prop := m_fis_integer a [v] = .ok false (.bl false) [.non]
theorem least_no (a : Ad) {v : D} (k : Int) (h : NoI a v) : m_fcheck_least a [v, .int k] = .err (xN a v) [.non, .non] := by
  have h' : m_fis_integer a [v] = .ok false (.bl false) [.non] := h
  unfold m_fcheck_least
  simp [b_bd1,b_bd2,b_bd3,b_od1,b_od2,b_od3,b_th1,b_th2,b_th3,b_th4,b_th5,b_th6,b_fin1,b_fin2,b_fin3,b_runF,b_q1,b_q2,b_q3,b_n1,b_n2,b_qK,b_nK,b_ret,b_bnd,b_doM,b_lift,b_opM,b_unM,b_testM,b_tst,b_andM,b_and1,b_and2,b_orM,b_or1,b_or2,b_notM,b_iteM,b_ite1,b_ite2,b_andV,b_andV1,b_andV2,b_orV,b_orV1,b_orV2,b_notV,b_notK,b_shareM,b_shK,b_varM,b_peekM,b_args0,b_args1,b_lstM,b_tupM,b_chainM,b_ch1,b_ch2,b_part0,b_part1,b_prK,b_slM,b_seqM,b_ifM,b_if1,b_if2,b_skipM,b_dropM,b_retM,b_retF,b_retK,b_retN,b_bkM,b_ctM,b_retOw,b_asgM,b_asgK,b_out,b_nameT,b_tupT,b_tgs0,b_tgs1,b_asgF,b_asgFK,b_parM,b_parK,b_parX,b_parXK,b_setL0,b_setL1,b_setL2,b_mx0,b_mxS,b_mxF,b_mxK,b_forM,b_loop0,b_seqM',b_sq1,b_sq2,b_tupM',b_tp1,b_rng1M,b_rgK,b_enumM,b_zipM,b_zpK,b_zipSM,b_zsK,b_avs0,b_avs1,b_shA,b_lnA,b_callM,b_callF,b_callQ,b_callN,b_fm0,b_fm1,b_fm2,b_getA0,b_getA1,b_getA2,b_back0,b_back1,b_back2,b_setOw,b_flM,b_wrM,b_wrK,b_setIx,b_sxK,b_idxM,b_lenA,b_lnK,b_callPM,b_raiseF,b_rsK,b_init0,b_init1,b_init2,b_endF,b_outS0,b_outS1,b_outS2,b_rng3M,b_rgK3,b_setT,b_setTk,b_lstR1,b_lrK,b_dspM,b_dspI,b_dspS,b_enumFM,b_enK,b_lstR2,b_lr2K, h']
theorem value_ok (a : Ad) (v : Int) : m_fcheck_value a [.int v] = .ok false .non [.non] := by
  unfold m_fcheck_value
  simp [b_bd1,b_bd2,b_bd3,b_od1,b_od2,b_od3,b_th1,b_th2,b_th3,b_th4,b_th5,b_th6,b_fin1,b_fin2,b_fin3,b_runF,b_q1,b_q2,b_q3,b_n1,b_n2,b_qK,b_nK,b_ret,b_bnd,b_doM,b_lift,b_opM,b_unM,b_testM,b_tst,b_andM,b_and1,b_and2,b_orM,b_or1,b_or2,b_notM,b_iteM,b_ite1,b_ite2,b_andV,b_andV1,b_andV2,b_orV,b_orV1,b_orV2,b_notV,b_notK,b_shareM,b_shK,b_varM,b_peekM,b_args0,b_args1,b_lstM,b_tupM,b_chainM,b_ch1,b_ch2,b_part0,b_part1,b_prK,b_slM,b_seqM,b_ifM,b_if1,b_if2,b_skipM,b_dropM,b_retM,b_retF,b_retK,b_retN,b_bkM,b_ctM,b_retOw,b_asgM,b_asgK,b_out,b_nameT,b_tupT,b_tgs0,b_tgs1,b_asgF,b_asgFK,b_parM,b_parK,b_parX,b_parXK,b_setL0,b_setL1,b_setL2,b_mx0,b_mxS,b_mxF,b_mxK,b_forM,b_loop0,b_seqM',b_sq1,b_sq2,b_tupM',b_tp1,b_rng1M,b_rgK,b_enumM,b_zipM,b_zpK,b_zipSM,b_zsK,b_avs0,b_avs1,b_shA,b_lnA,b_callM,b_callF,b_callQ,b_callN,b_fm0,b_fm1,b_fm2,b_getA0,b_getA1,b_getA2,b_back0,b_back1,b_back2,b_setOw,b_flM,b_wrM,b_wrK,b_setIx,b_sxK,b_idxM,b_lenA,b_lnK,b_callPM,b_raiseF,b_rsK,b_init0,b_init1,b_init2,b_endF,b_outS0,b_outS1,b_outS2,b_rng3M,b_rgK3,b_setT,b_setTk,b_lstR1,b_lrK,b_dspM,b_dspI,b_dspS,b_enumFM,b_enK,b_lstR2,b_lr2K, is_int]
theorem value_no (a : Ad) {v : D} (h : NoI a v) : m_fcheck_value a [v] = .err (xN a v) [.non] := by
  have h' : m_fis_integer a [v] = .ok false (.bl false) [.non] := h
  unfold m_fcheck_value
  simp [b_bd1,b_bd2,b_bd3,b_od1,b_od2,b_od3,b_th1,b_th2,b_th3,b_th4,b_th5,b_th6,b_fin1,b_fin2,b_fin3,b_runF,b_q1,b_q2,b_q3,b_n1,b_n2,b_qK,b_nK,b_ret,b_bnd,b_doM,b_lift,b_opM,b_unM,b_testM,b_tst,b_andM,b_and1,b_and2,b_orM,b_or1,b_or2,b_notM,b_iteM,b_ite1,b_ite2,b_andV,b_andV1,b_andV2,b_orV,b_orV1,b_orV2,b_notV,b_notK,b_shareM,b_shK,b_varM,b_peekM,b_args0,b_args1,b_lstM,b_tupM,b_chainM,b_ch1,b_ch2,b_part0,b_part1,b_prK,b_slM,b_seqM,b_ifM,b_if1,b_if2,b_skipM,b_dropM,b_retM,b_retF,b_retK,b_retN,b_bkM,b_ctM,b_retOw,b_asgM,b_asgK,b_out,b_nameT,b_tupT,b_tgs0,b_tgs1,b_asgF,b_asgFK,b_parM,b_parK,b_parX,b_parXK,b_setL0,b_setL1,b_setL2,b_mx0,b_mxS,b_mxF,b_mxK,b_forM,b_loop0,b_seqM',b_sq1,b_sq2,b_tupM',b_tp1,b_rng1M,b_rgK,b_enumM,b_zipM,b_zpK,b_zipSM,b_zsK,b_avs0,b_avs1,b_shA,b_lnA,b_callM,b_callF,b_callQ,b_callN,b_fm0,b_fm1,b_fm2,b_getA0,b_getA1,b_getA2,b_back0,b_back1,b_back2,b_setOw,b_flM,b_wrM,b_wrK,b_setIx,b_sxK,b_idxM,b_lenA,b_lnK,b_callPM,b_raiseF,b_rsK,b_init0,b_init1,b_init2,b_endF,b_outS0,b_outS1,b_outS2,b_rng3M,b_rgK3,b_setT,b_setTk,b_lstR1,b_lrK,b_dspM,b_dspI,b_dspS,b_enumFM,b_enK,b_lstR2,b_lr2K, h']
theorem range_no (a : Ad) {v : D} (k l : Int) (h : NoI a v) : m_fin_range a [v, .int k, .int l] = .ok false (.bl false) [.non, .non, .non] := by
  have h' : m_fis_integer a [v] = .ok false (.bl false) [.non] := h
  unfold m_fin_range
  simp [b_bd1,b_bd2,b_bd3,b_od1,b_od2,b_od3,b_th1,b_th2,b_th3,b_th4,b_th5,b_th6,b_fin1,b_fin2,b_fin3,b_runF,b_q1,b_q2,b_q3,b_n1,b_n2,b_qK,b_nK,b_ret,b_bnd,b_doM,b_lift,b_opM,b_unM,b_testM,b_tst,b_andM,b_and1,b_and2,b_orM,b_or1,b_or2,b_notM,b_iteM,b_ite1,b_ite2,b_andV,b_andV1,b_andV2,b_orV,b_orV1,b_orV2,b_notV,b_notK,b_shareM,b_shK,b_varM,b_peekM,b_args0,b_args1,b_lstM,b_tupM,b_chainM,b_ch1,b_ch2,b_part0,b_part1,b_prK,b_slM,b_seqM,b_ifM,b_if1,b_if2,b_skipM,b_dropM,b_retM,b_retF,b_retK,b_retN,b_bkM,b_ctM,b_retOw,b_asgM,b_asgK,b_out,b_nameT,b_tupT,b_tgs0,b_tgs1,b_asgF,b_asgFK,b_parM,b_parK,b_parX,b_parXK,b_setL0,b_setL1,b_setL2,b_mx0,b_mxS,b_mxF,b_mxK,b_forM,b_loop0,b_seqM',b_sq1,b_sq2,b_tupM',b_tp1,b_rng1M,b_rgK,b_enumM,b_zipM,b_zpK,b_zipSM,b_zsK,b_avs0,b_avs1,b_shA,b_lnA,b_callM,b_callF,b_callQ,b_callN,b_fm0,b_fm1,b_fm2,b_getA0,b_getA1,b_getA2,b_back0,b_back1,b_back2,b_setOw,b_flM,b_wrM,b_wrK,b_setIx,b_sxK,b_idxM,b_lenA,b_lnK,b_callPM,b_raiseF,b_rsK,b_init0,b_init1,b_init2,b_endF,b_outS0,b_outS1,b_outS2,b_rng3M,b_rgK3,b_setT,b_setTk,b_lstR1,b_lrK,b_dspM,b_dspI,b_dspS,b_enumFM,b_enK,b_lstR2,b_lr2K, h']
theorem num_no (a : Ad) {v : D} (k l : Int) (h : m_fin_range a [v, .int k, .int l] = .ok false (.bl false) [.non, .non, .non]) : m_fcheck_number a [v, .int k, .int l] = .err (xN a v) [.non, .non, .non] := by
  unfold m_fcheck_number
  simp [b_bd1,b_bd2,b_bd3,b_od1,b_od2,b_od3,b_th1,b_th2,b_th3,b_th4,b_th5,b_th6,b_fin1,b_fin2,b_fin3,b_runF,b_q1,b_q2,b_q3,b_n1,b_n2,b_qK,b_nK,b_ret,b_bnd,b_doM,b_lift,b_opM,b_unM,b_testM,b_tst,b_andM,b_and1,b_and2,b_orM,b_or1,b_or2,b_notM,b_iteM,b_ite1,b_ite2,b_andV,b_andV1,b_andV2,b_orV,b_orV1,b_orV2,b_notV,b_notK,b_shareM,b_shK,b_varM,b_peekM,b_args0,b_args1,b_lstM,b_tupM,b_chainM,b_ch1,b_ch2,b_part0,b_part1,b_prK,b_slM,b_seqM,b_ifM,b_if1,b_if2,b_skipM,b_dropM,b_retM,b_retF,b_retK,b_retN,b_bkM,b_ctM,b_retOw,b_asgM,b_asgK,b_out,b_nameT,b_tupT,b_tgs0,b_tgs1,b_asgF,b_asgFK,b_parM,b_parK,b_parX,b_parXK,b_setL0,b_setL1,b_setL2,b_mx0,b_mxS,b_mxF,b_mxK,b_forM,b_loop0,b_seqM',b_sq1,b_sq2,b_tupM',b_tp1,b_rng1M,b_rgK,b_enumM,b_zipM,b_zpK,b_zipSM,b_zsK,b_avs0,b_avs1,b_shA,b_lnA,b_callM,b_callF,b_callQ,b_callN,b_fm0,b_fm1,b_fm2,b_getA0,b_getA1,b_getA2,b_back0,b_back1,b_back2,b_setOw,b_flM,b_wrM,b_wrK,b_setIx,b_sxK,b_idxM,b_lenA,b_lnK,b_callPM,b_raiseF,b_rsK,b_init0,b_init1,b_init2,b_endF,b_outS0,b_outS1,b_outS2,b_rng3M,b_rgK3,b_setT,b_setTk,b_lstR1,b_lrK,b_dspM,b_dspI,b_dspS,b_enumFM,b_enK,b_lstR2,b_lr2K, h]
theorem key_no (a : Ad) {v : D} (h : m_fis_key a [v] = .ok false (.bl false) [.non]) : m_fcheck_key a [v] = .err (xK a v) [.non] := by
  unfold m_fcheck_key
  simp [b_bd1,b_bd2,b_bd3,b_od1,b_od2,b_od3,b_th1,b_th2,b_th3,b_th4,b_th5,b_th6,b_fin1,b_fin2,b_fin3,b_runF,b_q1,b_q2,b_q3,b_n1,b_n2,b_qK,b_nK,b_ret,b_bnd,b_doM,b_lift,b_opM,b_unM,b_testM,b_tst,b_andM,b_and1,b_and2,b_orM,b_or1,b_or2,b_notM,b_iteM,b_ite1,b_ite2,b_andV,b_andV1,b_andV2,b_orV,b_orV1,b_orV2,b_notV,b_notK,b_shareM,b_shK,b_varM,b_peekM,b_args0,b_args1,b_lstM,b_tupM,b_chainM,b_ch1,b_ch2,b_part0,b_part1,b_prK,b_slM,b_seqM,b_ifM,b_if1,b_if2,b_skipM,b_dropM,b_retM,b_retF,b_retK,b_retN,b_bkM,b_ctM,b_retOw,b_asgM,b_asgK,b_out,b_nameT,b_tupT,b_tgs0,b_tgs1,b_asgF,b_asgFK,b_parM,b_parK,b_parX,b_parXK,b_setL0,b_setL1,b_setL2,b_mx0,b_mxS,b_mxF,b_mxK,b_forM,b_loop0,b_seqM',b_sq1,b_sq2,b_tupM',b_tp1,b_rng1M,b_rgK,b_enumM,b_zipM,b_zpK,b_zipSM,b_zsK,b_avs0,b_avs1,b_shA,b_lnA,b_callM,b_callF,b_callQ,b_callN,b_fm0,b_fm1,b_fm2,b_getA0,b_getA1,b_getA2,b_back0,b_back1,b_back2,b_setOw,b_flM,b_wrM,b_wrK,b_setIx,b_sxK,b_idxM,b_lenA,b_lnK,b_callPM,b_raiseF,b_rsK,b_init0,b_init1,b_init2,b_endF,b_outS0,b_outS1,b_outS2,b_rng3M,b_rgK3,b_setT,b_setTk,b_lstR1,b_lrK,b_dspM,b_dspI,b_dspS,b_enumFM,b_enK,b_lstR2,b_lr2K, h]
/-! ### since -/
theorem since_ok (a : Ad) (b f : Int) (L : List RW) (m : Int) (h0 : 0 ≤ m) (h1 : f ≤ m) (hl : L.length ≤ 1000000) : m_fChangeLog_since a [lgS a b f L, .int m] = .ok true (.lst ((L.filter fun r => decide (m < r.1)).map rD)) [.non, .non] := by
  have c := comp_sel (vs := [2]) (mi := seqM' (unM (attD a.c_ChangeLog "own_changes") (peekM 0))) (t := nameT 2) (mt := testM (opM gtD (opM ixD (peekM 2) (DL.ret (.int 0))) (peekM 1))) (me := bd0_fChangeLog_since a) (st := [some (.sh (lgS a b f L)), some (.sh (.int m)), none]) (g := rD) (p := fun r => decide (m < r.1)) (f := rD) (xs := L) (by simp [b_bd1,b_bd2,b_bd3,b_od1,b_od2,b_od3,b_th1,b_th2,b_th3,b_th4,b_th5,b_th6,b_fin1,b_fin2,b_fin3,b_runF,b_q1,b_q2,b_q3,b_n1,b_n2,b_qK,b_nK,b_ret,b_bnd,b_doM,b_lift,b_opM,b_unM,b_testM,b_tst,b_andM,b_and1,b_and2,b_orM,b_or1,b_or2,b_notM,b_iteM,b_ite1,b_ite2,b_andV,b_andV1,b_andV2,b_orV,b_orV1,b_orV2,b_notV,b_notK,b_shareM,b_shK,b_varM,b_peekM,b_args0,b_args1,b_lstM,b_tupM,b_chainM,b_ch1,b_ch2,b_part0,b_part1,b_prK,b_slM,b_seqM,b_ifM,b_if1,b_if2,b_skipM,b_dropM,b_retM,b_retF,b_retK,b_retN,b_bkM,b_ctM,b_retOw,b_asgM,b_asgK,b_out,b_nameT,b_tupT,b_tgs0,b_tgs1,b_asgF,b_asgFK,b_parM,b_parK,b_parX,b_parXK,b_setL0,b_setL1,b_setL2,b_mx0,b_mxS,b_mxF,b_mxK,b_forM,b_loop0,b_seqM',b_sq1,b_sq2,b_tupM',b_tp1,b_rng1M,b_rgK,b_enumM,b_zipM,b_zpK,b_zipSM,b_zsK,b_avs0,b_avs1,b_shA,b_lnA,b_callM,b_callF,b_callQ,b_callN,b_fm0,b_fm1,b_fm2,b_getA0,b_getA1,b_getA2,b_back0,b_back1,b_back2,b_setOw,b_flM,b_wrM,b_wrK,b_setIx,b_sxK,b_idxM,b_lenA,b_lnK,b_callPM,b_raiseF,b_rsK,b_init0,b_init1,b_init2,b_endF,b_outS0,b_outS1,b_outS2,b_rng3M,b_rgK3,b_setT,b_setTk,b_lstR1,b_lrK,b_dspM,b_dspI,b_dspS,b_enumFM,b_enK,b_lstR2,b_lr2K, s_chs]) rfl (fun r _ => by
    have hr : ixD (rD r) (.int 0) = some (.int r.1) := rfl
    unfold bd0_fChangeLog_since
    by_cases c : m < r.1
    · simp [b_bd1,b_bd2,b_bd3,b_od1,b_od2,b_od3,b_th1,b_th2,b_th3,b_th4,b_th5,b_th6,b_fin1,b_fin2,b_fin3,b_runF,b_q1,b_q2,b_q3,b_n1,b_n2,b_qK,b_nK,b_ret,b_bnd,b_doM,b_lift,b_opM,b_unM,b_testM,b_tst,b_andM,b_and1,b_and2,b_orM,b_or1,b_or2,b_notM,b_iteM,b_ite1,b_ite2,b_andV,b_andV1,b_andV2,b_orV,b_orV1,b_orV2,b_notV,b_notK,b_shareM,b_shK,b_varM,b_peekM,b_args0,b_args1,b_lstM,b_tupM,b_chainM,b_ch1,b_ch2,b_part0,b_part1,b_prK,b_slM,b_seqM,b_ifM,b_if1,b_if2,b_skipM,b_dropM,b_retM,b_retF,b_retK,b_retN,b_bkM,b_ctM,b_retOw,b_asgM,b_asgK,b_out,b_nameT,b_tupT,b_tgs0,b_tgs1,b_asgF,b_asgFK,b_parM,b_parK,b_parX,b_parXK,b_setL0,b_setL1,b_setL2,b_mx0,b_mxS,b_mxF,b_mxK,b_forM,b_loop0,b_seqM',b_sq1,b_sq2,b_tupM',b_tp1,b_rng1M,b_rgK,b_enumM,b_zipM,b_zpK,b_zipSM,b_zsK,b_avs0,b_avs1,b_shA,b_lnA,b_callM,b_callF,b_callQ,b_callN,b_fm0,b_fm1,b_fm2,b_getA0,b_getA1,b_getA2,b_back0,b_back1,b_back2,b_setOw,b_flM,b_wrM,b_wrK,b_setIx,b_sxK,b_idxM,b_lenA,b_lnK,b_callPM,b_raiseF,b_rsK,b_init0,b_init1,b_init2,b_endF,b_outS0,b_outS1,b_outS2,b_rng3M,b_rgK3,b_setT,b_setTk,b_lstR1,b_lrK,b_dspM,b_dspI,b_dspS,b_enumFM,b_enK,b_lstR2,b_lr2K, b_endK,b_turnK1,b_turnK2,b_turnS,b_turnC,b_turnB,b_turnF,b_wipe0,b_wipe1,-List.getD_eq_getElem?_getD, hr, gtD, gtvD, c]
    · simp [b_bd1,b_bd2,b_bd3,b_od1,b_od2,b_od3,b_th1,b_th2,b_th3,b_th4,b_th5,b_th6,b_fin1,b_fin2,b_fin3,b_runF,b_q1,b_q2,b_q3,b_n1,b_n2,b_qK,b_nK,b_ret,b_bnd,b_doM,b_lift,b_opM,b_unM,b_testM,b_tst,b_andM,b_and1,b_and2,b_orM,b_or1,b_or2,b_notM,b_iteM,b_ite1,b_ite2,b_andV,b_andV1,b_andV2,b_orV,b_orV1,b_orV2,b_notV,b_notK,b_shareM,b_shK,b_varM,b_peekM,b_args0,b_args1,b_lstM,b_tupM,b_chainM,b_ch1,b_ch2,b_part0,b_part1,b_prK,b_slM,b_seqM,b_ifM,b_if1,b_if2,b_skipM,b_dropM,b_retM,b_retF,b_retK,b_retN,b_bkM,b_ctM,b_retOw,b_asgM,b_asgK,b_out,b_nameT,b_tupT,b_tgs0,b_tgs1,b_asgF,b_asgFK,b_parM,b_parK,b_parX,b_parXK,b_setL0,b_setL1,b_setL2,b_mx0,b_mxS,b_mxF,b_mxK,b_forM,b_loop0,b_seqM',b_sq1,b_sq2,b_tupM',b_tp1,b_rng1M,b_rgK,b_enumM,b_zipM,b_zpK,b_zipSM,b_zsK,b_avs0,b_avs1,b_shA,b_lnA,b_callM,b_callF,b_callQ,b_callN,b_fm0,b_fm1,b_fm2,b_getA0,b_getA1,b_getA2,b_back0,b_back1,b_back2,b_setOw,b_flM,b_wrM,b_wrK,b_setIx,b_sxK,b_idxM,b_lenA,b_lnK,b_callPM,b_raiseF,b_rsK,b_init0,b_init1,b_init2,b_endF,b_outS0,b_outS1,b_outS2,b_rng3M,b_rgK3,b_setT,b_setTk,b_lstR1,b_lrK,b_dspM,b_dspI,b_dspS,b_enumFM,b_enK,b_lstR2,b_lr2K, b_endK,b_turnK1,b_turnK2,b_turnS,b_turnC,b_turnB,b_turnF,b_wipe0,b_wipe1,-List.getD_eq_getElem?_getD, hr, gtD, gtvD, c]) (by omega)
  have h1' : ¬ m < f := by omega
  unfold m_fChangeLog_since
  simp [b_bd1,b_bd2,b_bd3,b_od1,b_od2,b_od3,b_th1,b_th2,b_th3,b_th4,b_th5,b_th6,b_fin1,b_fin2,b_fin3,b_runF,b_q1,b_q2,b_q3,b_n1,b_n2,b_qK,b_nK,b_ret,b_bnd,b_doM,b_lift,b_opM,b_unM,b_testM,b_tst,b_andM,b_and1,b_and2,b_orM,b_or1,b_or2,b_notM,b_iteM,b_ite1,b_ite2,b_andV,b_andV1,b_andV2,b_orV,b_orV1,b_orV2,b_notV,b_notK,b_shareM,b_shK,b_varM,b_peekM,b_args0,b_args1,b_lstM,b_tupM,b_chainM,b_ch1,b_ch2,b_part0,b_part1,b_prK,b_slM,b_seqM,b_ifM,b_if1,b_if2,b_skipM,b_dropM,b_retM,b_retF,b_retK,b_retN,b_bkM,b_ctM,b_retOw,b_asgM,b_asgK,b_out,b_nameT,b_tupT,b_tgs0,b_tgs1,b_asgF,b_asgFK,b_parM,b_parK,b_parX,b_parXK,b_setL0,b_setL1,b_setL2,b_mx0,b_mxS,b_mxF,b_mxK,b_forM,b_loop0,b_seqM',b_sq1,b_sq2,b_tupM',b_tp1,b_rng1M,b_rgK,b_enumM,b_zipM,b_zpK,b_zipSM,b_zsK,b_avs0,b_avs1,b_shA,b_lnA,b_callM,b_callF,b_callQ,b_callN,b_fm0,b_fm1,b_fm2,b_getA0,b_getA1,b_getA2,b_back0,b_back1,b_back2,b_setOw,b_flM,b_wrM,b_wrK,b_setIx,b_sxK,b_idxM,b_lenA,b_lnK,b_callPM,b_raiseF,b_rsK,b_init0,b_init1,b_init2,b_endF,b_outS0,b_outS1,b_outS2,b_rng3M,b_rgK3,b_setT,b_setTk,b_lstR1,b_lrK,b_dspM,b_dspI,b_dspS,b_enumFM,b_enK,b_lstR2,b_lr2K, least_ok a h0, s_floor, ltD, ltvD, h1', c]
theorem since_fg (a : Ad) (b f : Int) (L : List RW) (m : Int) (h0 : 0 ≤ m) (h1 : m < f) : m_fChangeLog_since a [lgS a b f L, .int m] = .err (xF a (.int f)) [.non, .non] := by
  unfold m_fChangeLog_since
  simp [b_bd1,b_bd2,b_bd3,b_od1,b_od2,b_od3,b_th1,b_th2,b_th3,b_th4,b_th5,b_th6,b_fin1,b_fin2,b_fin3,b_runF,b_q1,b_q2,b_q3,b_n1,b_n2,b_qK,b_nK,b_ret,b_bnd,b_doM,b_lift,b_opM,b_unM,b_testM,b_tst,b_andM,b_and1,b_and2,b_orM,b_or1,b_or2,b_notM,b_iteM,b_ite1,b_ite2,b_andV,b_andV1,b_andV2,b_orV,b_orV1,b_orV2,b_notV,b_notK,b_shareM,b_shK,b_varM,b_peekM,b_args0,b_args1,b_lstM,b_tupM,b_chainM,b_ch1,b_ch2,b_part0,b_part1,b_prK,b_slM,b_seqM,b_ifM,b_if1,b_if2,b_skipM,b_dropM,b_retM,b_retF,b_retK,b_retN,b_bkM,b_ctM,b_retOw,b_asgM,b_asgK,b_out,b_nameT,b_tupT,b_tgs0,b_tgs1,b_asgF,b_asgFK,b_parM,b_parK,b_parX,b_parXK,b_setL0,b_setL1,b_setL2,b_mx0,b_mxS,b_mxF,b_mxK,b_forM,b_loop0,b_seqM',b_sq1,b_sq2,b_tupM',b_tp1,b_rng1M,b_rgK,b_enumM,b_zipM,b_zpK,b_zipSM,b_zsK,b_avs0,b_avs1,b_shA,b_lnA,b_callM,b_callF,b_callQ,b_callN,b_fm0,b_fm1,b_fm2,b_getA0,b_getA1,b_getA2,b_back0,b_back1,b_back2,b_setOw,b_flM,b_wrM,b_wrK,b_setIx,b_sxK,b_idxM,b_lenA,b_lnK,b_callPM,b_raiseF,b_rsK,b_init0,b_init1,b_init2,b_endF,b_outS0,b_outS1,b_outS2,b_rng3M,b_rgK3,b_setT,b_setTk,b_lstR1,b_lrK,b_dspM,b_dspI,b_dspS,b_enumFM,b_enK,b_lstR2,b_lr2K, least_ok a h0, s_floor, ltD, ltvD, h1]
theorem since_bad (a : Ad) (b f : Int) (L : List RW) {v : D} (h : m_fcheck_least a [v, .int 0] = .err (xN a v) [.non, .non]) : m_fChangeLog_since a [lgS a b f L, v] = .err (xN a v) [.non, .non] := by
  unfold m_fChangeLog_since
  simp [b_bd1,b_bd2,b_bd3,b_od1,b_od2,b_od3,b_th1,b_th2,b_th3,b_th4,b_th5,b_th6,b_fin1,b_fin2,b_fin3,b_runF,b_q1,b_q2,b_q3,b_n1,b_n2,b_qK,b_nK,b_ret,b_bnd,b_doM,b_lift,b_opM,b_unM,b_testM,b_tst,b_andM,b_and1,b_and2,b_orM,b_or1,b_or2,b_notM,b_iteM,b_ite1,b_ite2,b_andV,b_andV1,b_andV2,b_orV,b_orV1,b_orV2,b_notV,b_notK,b_shareM,b_shK,b_varM,b_peekM,b_args0,b_args1,b_lstM,b_tupM,b_chainM,b_ch1,b_ch2,b_part0,b_part1,b_prK,b_slM,b_seqM,b_ifM,b_if1,b_if2,b_skipM,b_dropM,b_retM,b_retF,b_retK,b_retN,b_bkM,b_ctM,b_retOw,b_asgM,b_asgK,b_out,b_nameT,b_tupT,b_tgs0,b_tgs1,b_asgF,b_asgFK,b_parM,b_parK,b_parX,b_parXK,b_setL0,b_setL1,b_setL2,b_mx0,b_mxS,b_mxF,b_mxK,b_forM,b_loop0,b_seqM',b_sq1,b_sq2,b_tupM',b_tp1,b_rng1M,b_rgK,b_enumM,b_zipM,b_zpK,b_zipSM,b_zsK,b_avs0,b_avs1,b_shA,b_lnA,b_callM,b_callF,b_callQ,b_callN,b_fm0,b_fm1,b_fm2,b_getA0,b_getA1,b_getA2,b_back0,b_back1,b_back2,b_setOw,b_flM,b_wrM,b_wrK,b_setIx,b_sxK,b_idxM,b_lenA,b_lnK,b_callPM,b_raiseF,b_rsK,b_init0,b_init1,b_init2,b_endF,b_outS0,b_outS1,b_outS2,b_rng3M,b_rgK3,b_setT,b_setTk,b_lstR1,b_lrK,b_dspM,b_dspI,b_dspS,b_enumFM,b_enK,b_lstR2,b_lr2K, h]
/-! ### == -/
def lgP (b f : Int) (L : List RW) : PyData := .tuple [.int b, .int f, .list (L.map rP)]
theorem kind_lgS (a : Ad) (b f : Int) (L : List RW) : isO (cs a) a.c_ChangeLog (lgS a b f L) = some (.bl true) := by simp [isO, lgS, kindIn, kindD, cs, isOb]
theorem toP_lg (b f : Int) (L : List RW) : toP (.tup [.int b, .int f, .lst (L.map rD)]) = some (lgP b f L) := by
  have h : toP (.lst (L.map rD)) = some (.list (L.map rP)) := by rw [toP, toPs_r]; rfl
  have h2 : toPs [.lst (L.map rD)] = some [.list (L.map rP)] := by rw [toPs, h]; rfl
  have h3 : toPs [.int f, .lst (L.map rD)] = some [.int f, .list (L.map rP)] := by rw [toPs, h2]; rfl
  rw [toP, toPs, h3]
  rfl
theorem dep_r (r : RW) : (rP r).depth ≤ 2 := by
  obtain ⟨m, k, o, n⟩ := r
  cases o <;> cases n <;> simp [rP, oP, PyData.depth, PyData.depthAll]
theorem dep_rs : ∀ L : List RW, PyData.depthAll (L.map rP) ≤ 2
  | [] => by simp [PyData.depthAll]
  | r :: L => by
    have := dep_r r
    have := dep_rs L
    rw [List.map_cons, PyData.depthAll]
    omega
theorem dep_lg (b f : Int) (L : List RW) : (lgP b f L).depth ≤ 5 := by
  have := dep_rs L
  simp only [lgP, PyData.depth, PyData.depthAll]
  omega
theorem eq_lg (a : Ad) (b f b' f' : Int) (L L' : List RW) : m_fChangeLog___eq__ a [lgS a b f L, lgS a b' f' L'] = .ok false (.bl (PyData.eqv (lgP b f L) (lgP b' f' L'))) [.non, .non] := by
  have e : eqD (.tup [.int b, .int f, .lst (L.map rD)]) (.tup [.int b', .int f', .lst (L'.map rD)]) = some (.bl (PyData.eqv (lgP b f L) (lgP b' f' L'))) := by
    rw [eq_of (toP_lg b f L) (toP_lg b' f' L') (by have := dep_lg b f L; omega)]
  unfold m_fChangeLog___eq__
  simp [b_bd1,b_bd2,b_bd3,b_od1,b_od2,b_od3,b_th1,b_th2,b_th3,b_th4,b_th5,b_th6,b_fin1,b_fin2,b_fin3,b_runF,b_q1,b_q2,b_q3,b_n1,b_n2,b_qK,b_nK,b_ret,b_bnd,b_doM,b_lift,b_opM,b_unM,b_testM,b_tst,b_andM,b_and1,b_and2,b_orM,b_or1,b_or2,b_notM,b_iteM,b_ite1,b_ite2,b_andV,b_andV1,b_andV2,b_orV,b_orV1,b_orV2,b_notV,b_notK,b_shareM,b_shK,b_varM,b_peekM,b_args0,b_args1,b_lstM,b_tupM,b_chainM,b_ch1,b_ch2,b_part0,b_part1,b_prK,b_slM,b_seqM,b_ifM,b_if1,b_if2,b_skipM,b_dropM,b_retM,b_retF,b_retK,b_retN,b_bkM,b_ctM,b_retOw,b_asgM,b_asgK,b_out,b_nameT,b_tupT,b_tgs0,b_tgs1,b_asgF,b_asgFK,b_parM,b_parK,b_parX,b_parXK,b_setL0,b_setL1,b_setL2,b_mx0,b_mxS,b_mxF,b_mxK,b_forM,b_loop0,b_seqM',b_sq1,b_sq2,b_tupM',b_tp1,b_rng1M,b_rgK,b_enumM,b_zipM,b_zpK,b_zipSM,b_zsK,b_avs0,b_avs1,b_shA,b_lnA,b_callM,b_callF,b_callQ,b_callN,b_fm0,b_fm1,b_fm2,b_getA0,b_getA1,b_getA2,b_back0,b_back1,b_back2,b_setOw,b_flM,b_wrM,b_wrK,b_setIx,b_sxK,b_idxM,b_lenA,b_lnK,b_callPM,b_raiseF,b_rsK,b_init0,b_init1,b_init2,b_endF,b_outS0,b_outS1,b_outS2,b_rng3M,b_rgK3,b_setT,b_setTk,b_lstR1,b_lrK,b_dspM,b_dspI,b_dspS,b_enumFM,b_enK,b_lstR2,b_lr2K, kind_lgS, s_bound, s_floor, s_chs, e]
theorem eq_lst (a : Ad) (b f : Int) (L : List RW) (xs : List D) : m_fChangeLog___eq__ a [lgS a b f L, .lst xs] = .ok false (.bl false) [.non, .non] := by
  have h : isO (cs a) a.c_ChangeLog (.lst xs) = some (.bl false) := rfl
  unfold m_fChangeLog___eq__
  simp [b_bd1,b_bd2,b_bd3,b_od1,b_od2,b_od3,b_th1,b_th2,b_th3,b_th4,b_th5,b_th6,b_fin1,b_fin2,b_fin3,b_runF,b_q1,b_q2,b_q3,b_n1,b_n2,b_qK,b_nK,b_ret,b_bnd,b_doM,b_lift,b_opM,b_unM,b_testM,b_tst,b_andM,b_and1,b_and2,b_orM,b_or1,b_or2,b_notM,b_iteM,b_ite1,b_ite2,b_andV,b_andV1,b_andV2,b_orV,b_orV1,b_orV2,b_notV,b_notK,b_shareM,b_shK,b_varM,b_peekM,b_args0,b_args1,b_lstM,b_tupM,b_chainM,b_ch1,b_ch2,b_part0,b_part1,b_prK,b_slM,b_seqM,b_ifM,b_if1,b_if2,b_skipM,b_dropM,b_retM,b_retF,b_retK,b_retN,b_bkM,b_ctM,b_retOw,b_asgM,b_asgK,b_out,b_nameT,b_tupT,b_tgs0,b_tgs1,b_asgF,b_asgFK,b_parM,b_parK,b_parX,b_parXK,b_setL0,b_setL1,b_setL2,b_mx0,b_mxS,b_mxF,b_mxK,b_forM,b_loop0,b_seqM',b_sq1,b_sq2,b_tupM',b_tp1,b_rng1M,b_rgK,b_enumM,b_zipM,b_zpK,b_zipSM,b_zsK,b_avs0,b_avs1,b_shA,b_lnA,b_callM,b_callF,b_callQ,b_callN,b_fm0,b_fm1,b_fm2,b_getA0,b_getA1,b_getA2,b_back0,b_back1,b_back2,b_setOw,b_flM,b_wrM,b_wrK,b_setIx,b_sxK,b_idxM,b_lenA,b_lnK,b_callPM,b_raiseF,b_rsK,b_init0,b_init1,b_init2,b_endF,b_outS0,b_outS1,b_outS2,b_rng3M,b_rgK3,b_setT,b_setTk,b_lstR1,b_lrK,b_dspM,b_dspI,b_dspS,b_enumFM,b_enK,b_lstR2,b_lr2K, h]
/-! ### a log made, changed -/
theorem init_eq (a : Ad) {b : Int} (h0 : 0 ≤ b) (h1 : b ≤ 1000) : m_fChangeLog___init__ a [.obj a.c_ChangeLog [], .int b] = .ok false .non [lgO a b 0 [], .non] := by
  unfold m_fChangeLog___init__
  simp [b_bd1,b_bd2,b_bd3,b_od1,b_od2,b_od3,b_th1,b_th2,b_th3,b_th4,b_th5,b_th6,b_fin1,b_fin2,b_fin3,b_runF,b_q1,b_q2,b_q3,b_n1,b_n2,b_qK,b_nK,b_ret,b_bnd,b_doM,b_lift,b_opM,b_unM,b_testM,b_tst,b_andM,b_and1,b_and2,b_orM,b_or1,b_or2,b_notM,b_iteM,b_ite1,b_ite2,b_andV,b_andV1,b_andV2,b_orV,b_orV1,b_orV2,b_notV,b_notK,b_shareM,b_shK,b_varM,b_peekM,b_args0,b_args1,b_lstM,b_tupM,b_chainM,b_ch1,b_ch2,b_part0,b_part1,b_prK,b_slM,b_seqM,b_ifM,b_if1,b_if2,b_skipM,b_dropM,b_retM,b_retF,b_retK,b_retN,b_bkM,b_ctM,b_retOw,b_asgM,b_asgK,b_out,b_nameT,b_tupT,b_tgs0,b_tgs1,b_asgF,b_asgFK,b_parM,b_parK,b_parX,b_parXK,b_setL0,b_setL1,b_setL2,b_mx0,b_mxS,b_mxF,b_mxK,b_forM,b_loop0,b_seqM',b_sq1,b_sq2,b_tupM',b_tp1,b_rng1M,b_rgK,b_enumM,b_zipM,b_zpK,b_zipSM,b_zsK,b_avs0,b_avs1,b_shA,b_lnA,b_callM,b_callF,b_callQ,b_callN,b_fm0,b_fm1,b_fm2,b_getA0,b_getA1,b_getA2,b_back0,b_back1,b_back2,b_setOw,b_flM,b_wrM,b_wrK,b_setIx,b_sxK,b_idxM,b_lenA,b_lnK,b_callPM,b_raiseF,b_rsK,b_init0,b_init1,b_init2,b_endF,b_outS0,b_outS1,b_outS2,b_rng3M,b_rgK3,b_setT,b_setTk,b_lstR1,b_lrK,b_dspM,b_dspI,b_dspS,b_enumFM,b_enK,b_lstR2,b_lr2K, b_methM,b_propM,b_noErr,b_chkO,b_objD,b_objM,b_makeF,b_mkQ,b_putM,b_ptK,b_putB,b_ptB,b_varQ,b_bxM,b_bxEnd,b_wrB,b_wrBT,b_btK,b_lenO,b_lnOK,b_shareB,b_shBK,b_wrF,b_wrFK,b_cmpK,b_cmpO,b_kindD,b_kindM,b_mxB,b_mbK, check_num a h0 h1, noBoxAt, putD, lgO, List.lookup, flatD, nk0, nk1, nk2, nk3, nk4, nk5, nk6, nk7, nk8, nk9, nk10, nk11, nk12, nk13, nk14, nk15, nk16, nk17, nk18, nk19, nk20, nk21, nk22, nk23, nk24, nk25, nk26, nk27, nk28, nk29, nk30, nk31, nk32, nk33, nk34, nk35]
theorem init_no (a : Ad) {v : D} (h : m_fcheck_number a [v, .int 0, .int 1000] = .err (xN a v) [.non, .non, .non]) : m_fChangeLog___init__ a [.obj a.c_ChangeLog [], v] = .err (xN a v) [.obj a.c_ChangeLog [], .non] := by
  unfold m_fChangeLog___init__
  simp [b_bd1,b_bd2,b_bd3,b_od1,b_od2,b_od3,b_th1,b_th2,b_th3,b_th4,b_th5,b_th6,b_fin1,b_fin2,b_fin3,b_runF,b_q1,b_q2,b_q3,b_n1,b_n2,b_qK,b_nK,b_ret,b_bnd,b_doM,b_lift,b_opM,b_unM,b_testM,b_tst,b_andM,b_and1,b_and2,b_orM,b_or1,b_or2,b_notM,b_iteM,b_ite1,b_ite2,b_andV,b_andV1,b_andV2,b_orV,b_orV1,b_orV2,b_notV,b_notK,b_shareM,b_shK,b_varM,b_peekM,b_args0,b_args1,b_lstM,b_tupM,b_chainM,b_ch1,b_ch2,b_part0,b_part1,b_prK,b_slM,b_seqM,b_ifM,b_if1,b_if2,b_skipM,b_dropM,b_retM,b_retF,b_retK,b_retN,b_bkM,b_ctM,b_retOw,b_asgM,b_asgK,b_out,b_nameT,b_tupT,b_tgs0,b_tgs1,b_asgF,b_asgFK,b_parM,b_parK,b_parX,b_parXK,b_setL0,b_setL1,b_setL2,b_mx0,b_mxS,b_mxF,b_mxK,b_forM,b_loop0,b_seqM',b_sq1,b_sq2,b_tupM',b_tp1,b_rng1M,b_rgK,b_enumM,b_zipM,b_zpK,b_zipSM,b_zsK,b_avs0,b_avs1,b_shA,b_lnA,b_callM,b_callF,b_callQ,b_callN,b_fm0,b_fm1,b_fm2,b_getA0,b_getA1,b_getA2,b_back0,b_back1,b_back2,b_setOw,b_flM,b_wrM,b_wrK,b_setIx,b_sxK,b_idxM,b_lenA,b_lnK,b_callPM,b_raiseF,b_rsK,b_init0,b_init1,b_init2,b_endF,b_outS0,b_outS1,b_outS2,b_rng3M,b_rgK3,b_setT,b_setTk,b_lstR1,b_lrK,b_dspM,b_dspI,b_dspS,b_enumFM,b_enK,b_lstR2,b_lr2K, b_methM,b_propM,b_noErr,b_chkO,b_objD,b_objM,b_makeF,b_mkQ,b_putM,b_ptK,b_putB,b_ptB,b_varQ,b_bxM,b_bxEnd,b_wrB,b_wrBT,b_btK,b_lenO,b_lnOK,b_shareB,b_shBK,b_wrF,b_wrFK,b_cmpK,b_cmpO,b_kindD,b_kindM,b_mxB,b_mbK, h]
theorem tr_c (a : Ad) {b f : Int} {L : List RW} {k : Bool} (h : decide (b < (L.length : Int)) = k) (hl : L.length ≤ 1000000) : bd1_fChangeLog_trim a [some (.ow true (lgO a b f L))] = .ok k [some (.ow true (lgO a b f L))] := by
  subst h
  unfold bd1_fChangeLog_trim
  simp [b_bd1,b_bd2,b_bd3,b_od1,b_od2,b_od3,b_th1,b_th2,b_th3,b_th4,b_th5,b_th6,b_fin1,b_fin2,b_fin3,b_runF,b_q1,b_q2,b_q3,b_n1,b_n2,b_qK,b_nK,b_ret,b_bnd,b_doM,b_lift,b_opM,b_unM,b_testM,b_tst,b_andM,b_and1,b_and2,b_orM,b_or1,b_or2,b_notM,b_iteM,b_ite1,b_ite2,b_andV,b_andV1,b_andV2,b_orV,b_orV1,b_orV2,b_notV,b_notK,b_shareM,b_shK,b_varM,b_peekM,b_args0,b_args1,b_lstM,b_tupM,b_chainM,b_ch1,b_ch2,b_part0,b_part1,b_prK,b_slM,b_seqM,b_ifM,b_if1,b_if2,b_skipM,b_dropM,b_retM,b_retF,b_retK,b_retN,b_bkM,b_ctM,b_retOw,b_asgM,b_asgK,b_out,b_nameT,b_tupT,b_tgs0,b_tgs1,b_asgF,b_asgFK,b_parM,b_parK,b_parX,b_parXK,b_setL0,b_setL1,b_setL2,b_mx0,b_mxS,b_mxF,b_mxK,b_forM,b_loop0,b_seqM',b_sq1,b_sq2,b_tupM',b_tp1,b_rng1M,b_rgK,b_enumM,b_zipM,b_zpK,b_zipSM,b_zsK,b_avs0,b_avs1,b_shA,b_lnA,b_callM,b_callF,b_callQ,b_callN,b_fm0,b_fm1,b_fm2,b_getA0,b_getA1,b_getA2,b_back0,b_back1,b_back2,b_setOw,b_flM,b_wrM,b_wrK,b_setIx,b_sxK,b_idxM,b_lenA,b_lnK,b_callPM,b_raiseF,b_rsK,b_init0,b_init1,b_init2,b_endF,b_outS0,b_outS1,b_outS2,b_rng3M,b_rgK3,b_setT,b_setTk,b_lstR1,b_lrK,b_dspM,b_dspI,b_dspS,b_enumFM,b_enK,b_lstR2,b_lr2K, o_chs, o_bound, lenD, gtD, gtvD]
theorem wh_no (a : Ad) {b f : Int} {L : List RW} (n : Nat) (h : (L.length : Int) ≤ b) (hl : L.length ≤ 1000000) : whileM (n + 1) (bd1_fChangeLog_trim a) (bd0_fChangeLog_trim a) [some (.ow true (lgO a b f L))] = .nx [some (.ow true (lgO a b f L))] := by
  rw [a_while, tr_c a (k := false) (by simpa using h) hl]
theorem trim_no (a : Ad) {b f : Int} {L : List RW} (h : (L.length : Int) ≤ b) (hl : L.length ≤ 1000000) : m_fChangeLog_trim a [lgO a b f L] = .ok false .non [lgO a b f L] := by
  have w := wh_no a (f := f) 999999 h hl
  unfold m_fChangeLog_trim
  simp [b_bd1,b_bd2,b_bd3,b_od1,b_od2,b_od3,b_th1,b_th2,b_th3,b_th4,b_th5,b_th6,b_fin1,b_fin2,b_fin3,b_runF,b_q1,b_q2,b_q3,b_n1,b_n2,b_qK,b_nK,b_ret,b_bnd,b_doM,b_lift,b_opM,b_unM,b_testM,b_tst,b_andM,b_and1,b_and2,b_orM,b_or1,b_or2,b_notM,b_iteM,b_ite1,b_ite2,b_andV,b_andV1,b_andV2,b_orV,b_orV1,b_orV2,b_notV,b_notK,b_shareM,b_shK,b_varM,b_peekM,b_args0,b_args1,b_lstM,b_tupM,b_chainM,b_ch1,b_ch2,b_part0,b_part1,b_prK,b_slM,b_seqM,b_ifM,b_if1,b_if2,b_skipM,b_dropM,b_retM,b_retF,b_retK,b_retN,b_bkM,b_ctM,b_retOw,b_asgM,b_asgK,b_out,b_nameT,b_tupT,b_tgs0,b_tgs1,b_asgF,b_asgFK,b_parM,b_parK,b_parX,b_parXK,b_setL0,b_setL1,b_setL2,b_mx0,b_mxS,b_mxF,b_mxK,b_forM,b_loop0,b_seqM',b_sq1,b_sq2,b_tupM',b_tp1,b_rng1M,b_rgK,b_enumM,b_zipM,b_zpK,b_zipSM,b_zsK,b_avs0,b_avs1,b_shA,b_lnA,b_callM,b_callF,b_callQ,b_callN,b_fm0,b_fm1,b_fm2,b_getA0,b_getA1,b_getA2,b_back0,b_back1,b_back2,b_setOw,b_flM,b_wrM,b_wrK,b_setIx,b_sxK,b_idxM,b_lenA,b_lnK,b_callPM,b_raiseF,b_rsK,b_init0,b_init1,b_init2,b_endF,b_outS0,b_outS1,b_outS2,b_rng3M,b_rgK3,b_setT,b_setTk,b_lstR1,b_lrK,b_dspM,b_dspI,b_dspS,b_enumFM,b_enK,b_lstR2,b_lr2K, w]
theorem tr_b (a : Ad) (b f : Int) (r : RW) (T : List RW) (hl : T.length ≤ 1000000) : bd0_fChangeLog_trim a [some (.ow true (lgO a b f (r :: T)))] = .nx [some (.ow true (lgO a b r.1 T))] := by
  have hp : popAtD (.lst (rD r :: T.map rD)) [.int 0] = some (rD r, .lst (T.map rD)) := by
    simp [popAtD, seqIndex?]
  have hr : ixD (rD r) (.int 0) = some (.int r.1) := rfl
  unfold bd0_fChangeLog_trim
  simp [b_bd1,b_bd2,b_bd3,b_od1,b_od2,b_od3,b_th1,b_th2,b_th3,b_th4,b_th5,b_th6,b_fin1,b_fin2,b_fin3,b_runF,b_q1,b_q2,b_q3,b_n1,b_n2,b_qK,b_nK,b_ret,b_bnd,b_doM,b_lift,b_opM,b_unM,b_testM,b_tst,b_andM,b_and1,b_and2,b_orM,b_or1,b_or2,b_notM,b_iteM,b_ite1,b_ite2,b_andV,b_andV1,b_andV2,b_orV,b_orV1,b_orV2,b_notV,b_notK,b_shareM,b_shK,b_varM,b_peekM,b_args0,b_args1,b_lstM,b_tupM,b_chainM,b_ch1,b_ch2,b_part0,b_part1,b_prK,b_slM,b_seqM,b_ifM,b_if1,b_if2,b_skipM,b_dropM,b_retM,b_retF,b_retK,b_retN,b_bkM,b_ctM,b_retOw,b_asgM,b_asgK,b_out,b_nameT,b_tupT,b_tgs0,b_tgs1,b_asgF,b_asgFK,b_parM,b_parK,b_parX,b_parXK,b_setL0,b_setL1,b_setL2,b_mx0,b_mxS,b_mxF,b_mxK,b_forM,b_loop0,b_seqM',b_sq1,b_sq2,b_tupM',b_tp1,b_rng1M,b_rgK,b_enumM,b_zipM,b_zpK,b_zipSM,b_zsK,b_avs0,b_avs1,b_shA,b_lnA,b_callM,b_callF,b_callQ,b_callN,b_fm0,b_fm1,b_fm2,b_getA0,b_getA1,b_getA2,b_back0,b_back1,b_back2,b_setOw,b_flM,b_wrM,b_wrK,b_setIx,b_sxK,b_idxM,b_lenA,b_lnK,b_callPM,b_raiseF,b_rsK,b_init0,b_init1,b_init2,b_endF,b_outS0,b_outS1,b_outS2,b_rng3M,b_rgK3,b_setT,b_setTk,b_lstR1,b_lrK,b_dspM,b_dspI,b_dspS,b_enumFM,b_enK,b_lstR2,b_lr2K, b_methM,b_propM,b_noErr,b_chkO,b_objD,b_objM,b_makeF,b_mkQ,b_putM,b_ptK,b_putB,b_ptB,b_varQ,b_bxM,b_bxEnd,b_wrB,b_wrBT,b_btK,b_lenO,b_lnOK,b_shareB,b_shBK,b_wrF,b_wrFK,b_cmpK,b_cmpO,b_kindD,b_kindM,b_mxB,b_mbK, lgO, List.lookup, nk0, nk1, nk2, nk3, nk4, nk5, nk6, nk7, nk8, nk9, nk10, nk11, nk12, nk13, nk14, nk15, nk16, nk17, nk18, nk19, nk20, nk21, nk22, nk23, nk24, nk25, nk26, nk27, nk28, nk29, nk30, nk31, nk32, nk33, nk34, nk35, hp, hr, isLst, putD, noBoxAt, isBox]
theorem trim_one (a : Ad) {b f : Int} {r : RW} {T : List RW} (h : b < (T.length : Int) + 1) (h2 : (T.length : Int) ≤ b) (hl : T.length ≤ 10000) : m_fChangeLog_trim a [lgO a b f (r :: T)] = .ok false .non [lgO a b r.1 T] := by
  have w : whileM 1000000 (bd1_fChangeLog_trim a) (bd0_fChangeLog_trim a) [some (.ow true (lgO a b f (r :: T)))] = .nx [some (.ow true (lgO a b r.1 T))] := by
    rw [show 1000000 = (999998 + 1) + 1 from rfl, a_while, tr_c a (k := true) (by simpa using h) (by rw [List.length_cons]; omega)]
    dsimp only
    rw [tr_b a b f r T (by omega)]
    exact wh_no a 999998 h2 (by omega)
  unfold m_fChangeLog_trim
  simp [b_bd1,b_bd2,b_bd3,b_od1,b_od2,b_od3,b_th1,b_th2,b_th3,b_th4,b_th5,b_th6,b_fin1,b_fin2,b_fin3,b_runF,b_q1,b_q2,b_q3,b_n1,b_n2,b_qK,b_nK,b_ret,b_bnd,b_doM,b_lift,b_opM,b_unM,b_testM,b_tst,b_andM,b_and1,b_and2,b_orM,b_or1,b_or2,b_notM,b_iteM,b_ite1,b_ite2,b_andV,b_andV1,b_andV2,b_orV,b_orV1,b_orV2,b_notV,b_notK,b_shareM,b_shK,b_varM,b_peekM,b_args0,b_args1,b_lstM,b_tupM,b_chainM,b_ch1,b_ch2,b_part0,b_part1,b_prK,b_slM,b_seqM,b_ifM,b_if1,b_if2,b_skipM,b_dropM,b_retM,b_retF,b_retK,b_retN,b_bkM,b_ctM,b_retOw,b_asgM,b_asgK,b_out,b_nameT,b_tupT,b_tgs0,b_tgs1,b_asgF,b_asgFK,b_parM,b_parK,b_parX,b_parXK,b_setL0,b_setL1,b_setL2,b_mx0,b_mxS,b_mxF,b_mxK,b_forM,b_loop0,b_seqM',b_sq1,b_sq2,b_tupM',b_tp1,b_rng1M,b_rgK,b_enumM,b_zipM,b_zpK,b_zipSM,b_zsK,b_avs0,b_avs1,b_shA,b_lnA,b_callM,b_callF,b_callQ,b_callN,b_fm0,b_fm1,b_fm2,b_getA0,b_getA1,b_getA2,b_back0,b_back1,b_back2,b_setOw,b_flM,b_wrM,b_wrK,b_setIx,b_sxK,b_idxM,b_lenA,b_lnK,b_callPM,b_raiseF,b_rsK,b_init0,b_init1,b_init2,b_endF,b_outS0,b_outS1,b_outS2,b_rng3M,b_rgK3,b_setT,b_setTk,b_lstR1,b_lrK,b_dspM,b_dspI,b_dspS,b_enumFM,b_enK,b_lstR2,b_lr2K, w]
/-- a change comes: the log's floor, its rows -/
def pushF (b f : Int) (L : List RW) (r : RW) : Int := if b < (L.length : Int) + 1 then ((L ++ [r]).headD r).1 else f
def pushL (b : Int) (L : List RW) (r : RW) : List RW := if b < (L.length : Int) + 1 then (L ++ [r]).tail else L ++ [r]
theorem trim_eq (a : Ad) {b f : Int} {L : List RW} {r : RW} (h : (L.length : Int) ≤ b) (hl : L.length ≤ 9999) : m_fChangeLog_trim a [lgO a b f (L ++ [r])] = .ok false .non [lgO a b (pushF b f L r) (pushL b L r)] := by
  unfold pushF pushL
  by_cases c : b < (L.length : Int) + 1
  · rw [if_pos c, if_pos c]
    cases e : L ++ [r] with
    | nil => simp at e
    | cons x T =>
      have hT : T.length = L.length := by
        have := congrArg List.length e
        simpa using this.symm
      exact trim_one a (by omega) (by omega) (by omega)
  · rw [if_neg c, if_neg c]
    exact trim_no a (by rw [List.length_append, List.length_singleton]; omega) (by rw [List.length_append, List.length_singleton]; omega)
theorem meth_last (a : Ad) {b f : Int} {L : List RW} {st : DSt} {i : Nat} {mu : Bool} (hi : st[i]? = some (some (.ow mu (lgO a b f L)))) : methM callQ a.c_ChangeLog "last" [true] (viewF 0 (m_fChangeLog_last a)) [] (lnA i) (DL.ret []) st = .ok (.int (lastV f L)) st := by
  have hv : viewF 0 (m_fChangeLog_last a) [lgO a b f L] = .ok false (.int (lastV f L)) [lgO a b f L] := view_ok (d := lgO a b f L) (ms := [.non]) rfl (vw_lg a b f L) (last_eq a b f L) rfl rfl
  have hs : st.set i (some (.ow mu (lgO a b f L))) = st := by
    apply List.ext_getElem?
    intro j
    rw [List.getElem?_set]
    by_cases c : i = j
    · subst c
      rw [if_pos rfl, if_pos (List.getElem?_eq_some_iff.mp hi).1, hi]
    · rw [if_neg c]
  have ob := obO a (nm := "last") hi (by decide) (by decide) (by decide)
  simp [b_bd1,b_bd2,b_bd3,b_od1,b_od2,b_od3,b_th1,b_th2,b_th3,b_th4,b_th5,b_th6,b_fin1,b_fin2,b_fin3,b_runF,b_q1,b_q2,b_q3,b_n1,b_n2,b_qK,b_nK,b_ret,b_bnd,b_doM,b_lift,b_opM,b_unM,b_testM,b_tst,b_andM,b_and1,b_and2,b_orM,b_or1,b_or2,b_notM,b_iteM,b_ite1,b_ite2,b_andV,b_andV1,b_andV2,b_orV,b_orV1,b_orV2,b_notV,b_notK,b_shareM,b_shK,b_varM,b_peekM,b_args0,b_args1,b_lstM,b_tupM,b_chainM,b_ch1,b_ch2,b_part0,b_part1,b_prK,b_slM,b_seqM,b_ifM,b_if1,b_if2,b_skipM,b_dropM,b_retM,b_retF,b_retK,b_retN,b_bkM,b_ctM,b_retOw,b_asgM,b_asgK,b_out,b_nameT,b_tupT,b_tgs0,b_tgs1,b_asgF,b_asgFK,b_parM,b_parK,b_parX,b_parXK,b_setL0,b_setL1,b_setL2,b_mx0,b_mxS,b_mxF,b_mxK,b_forM,b_loop0,b_seqM',b_sq1,b_sq2,b_tupM',b_tp1,b_rng1M,b_rgK,b_enumM,b_zipM,b_zpK,b_zipSM,b_zsK,b_avs0,b_avs1,b_shA,b_lnA,b_callM,b_callF,b_callQ,b_callN,b_fm0,b_fm1,b_fm2,b_getA0,b_getA1,b_getA2,b_back0,b_back1,b_back2,b_setOw,b_flM,b_wrM,b_wrK,b_setIx,b_sxK,b_idxM,b_lenA,b_lnK,b_callPM,b_raiseF,b_rsK,b_init0,b_init1,b_init2,b_endF,b_outS0,b_outS1,b_outS2,b_rng3M,b_rgK3,b_setT,b_setTk,b_lstR1,b_lrK,b_dspM,b_dspI,b_dspS,b_enumFM,b_enK,b_lstR2,b_lr2K, b_methM, hi, ob, hv, hs]
/-! ### add -/
theorem vals_loop (a : Ad) (o n : Option Int) (s0 s1 s2 s3 s4 s5 : Option Slot) : ∃ y, loopM (nameT 5) (bd0_fChangeLog_add a) [oD o, oD n] [s0, s1, s2, s3, s4, s5] = .nx [s0, s1, s2, s3, s4, y] := by
  have hb : ∀ (x : Option Int) (s5 : Option Slot), turnF (nameT 5) (bd0_fChangeLog_add a) (oD x) [s0, s1, s2, s3, s4, s5] = .nx [s0, s1, s2, s3, s4, some (.sh (oD x))] := fun x s5 => by
    unfold bd0_fChangeLog_add
    cases x with
    | none => simp [b_bd1,b_bd2,b_bd3,b_od1,b_od2,b_od3,b_th1,b_th2,b_th3,b_th4,b_th5,b_th6,b_fin1,b_fin2,b_fin3,b_runF,b_q1,b_q2,b_q3,b_n1,b_n2,b_qK,b_nK,b_ret,b_bnd,b_doM,b_lift,b_opM,b_unM,b_testM,b_tst,b_andM,b_and1,b_and2,b_orM,b_or1,b_or2,b_notM,b_iteM,b_ite1,b_ite2,b_andV,b_andV1,b_andV2,b_orV,b_orV1,b_orV2,b_notV,b_notK,b_shareM,b_shK,b_varM,b_peekM,b_args0,b_args1,b_lstM,b_tupM,b_chainM,b_ch1,b_ch2,b_part0,b_part1,b_prK,b_slM,b_seqM,b_ifM,b_if1,b_if2,b_skipM,b_dropM,b_retM,b_retF,b_retK,b_retN,b_bkM,b_ctM,b_retOw,b_asgM,b_asgK,b_out,b_nameT,b_tupT,b_tgs0,b_tgs1,b_asgF,b_asgFK,b_parM,b_parK,b_parX,b_parXK,b_setL0,b_setL1,b_setL2,b_mx0,b_mxS,b_mxF,b_mxK,b_forM,b_loop0,b_seqM',b_sq1,b_sq2,b_tupM',b_tp1,b_rng1M,b_rgK,b_enumM,b_zipM,b_zpK,b_zipSM,b_zsK,b_avs0,b_avs1,b_shA,b_lnA,b_callM,b_callF,b_callQ,b_callN,b_fm0,b_fm1,b_fm2,b_getA0,b_getA1,b_getA2,b_back0,b_back1,b_back2,b_setOw,b_flM,b_wrM,b_wrK,b_setIx,b_sxK,b_idxM,b_lenA,b_lnK,b_callPM,b_raiseF,b_rsK,b_init0,b_init1,b_init2,b_endF,b_outS0,b_outS1,b_outS2,b_rng3M,b_rgK3,b_setT,b_setTk,b_lstR1,b_lrK,b_dspM,b_dspI,b_dspS,b_enumFM,b_enK,b_lstR2,b_lr2K, b_endK,b_turnK1,b_turnK2,b_turnS,b_turnC,b_turnB,b_turnF,b_wipe0,b_wipe1,-List.getD_eq_getElem?_getD, oD, isnD, DL.isNon, value_ok]
    | some i => simp [b_bd1,b_bd2,b_bd3,b_od1,b_od2,b_od3,b_th1,b_th2,b_th3,b_th4,b_th5,b_th6,b_fin1,b_fin2,b_fin3,b_runF,b_q1,b_q2,b_q3,b_n1,b_n2,b_qK,b_nK,b_ret,b_bnd,b_doM,b_lift,b_opM,b_unM,b_testM,b_tst,b_andM,b_and1,b_and2,b_orM,b_or1,b_or2,b_notM,b_iteM,b_ite1,b_ite2,b_andV,b_andV1,b_andV2,b_orV,b_orV1,b_orV2,b_notV,b_notK,b_shareM,b_shK,b_varM,b_peekM,b_args0,b_args1,b_lstM,b_tupM,b_chainM,b_ch1,b_ch2,b_part0,b_part1,b_prK,b_slM,b_seqM,b_ifM,b_if1,b_if2,b_skipM,b_dropM,b_retM,b_retF,b_retK,b_retN,b_bkM,b_ctM,b_retOw,b_asgM,b_asgK,b_out,b_nameT,b_tupT,b_tgs0,b_tgs1,b_asgF,b_asgFK,b_parM,b_parK,b_parX,b_parXK,b_setL0,b_setL1,b_setL2,b_mx0,b_mxS,b_mxF,b_mxK,b_forM,b_loop0,b_seqM',b_sq1,b_sq2,b_tupM',b_tp1,b_rng1M,b_rgK,b_enumM,b_zipM,b_zpK,b_zipSM,b_zsK,b_avs0,b_avs1,b_shA,b_lnA,b_callM,b_callF,b_callQ,b_callN,b_fm0,b_fm1,b_fm2,b_getA0,b_getA1,b_getA2,b_back0,b_back1,b_back2,b_setOw,b_flM,b_wrM,b_wrK,b_setIx,b_sxK,b_idxM,b_lenA,b_lnK,b_callPM,b_raiseF,b_rsK,b_init0,b_init1,b_init2,b_endF,b_outS0,b_outS1,b_outS2,b_rng3M,b_rgK3,b_setT,b_setTk,b_lstR1,b_lrK,b_dspM,b_dspI,b_dspS,b_enumFM,b_enK,b_lstR2,b_lr2K, b_endK,b_turnK1,b_turnK2,b_turnS,b_turnC,b_turnB,b_turnF,b_wipe0,b_wipe1,-List.getD_eq_getElem?_getD, oD, isnD, DL.isNon, value_ok]
  refine ⟨some (.sh (oD n)), ?_⟩
  rw [loop_turn, hb o s5]
  dsimp only
  rw [loop_turn, hb n _]
  rfl
theorem add_eq (a : Ad) {b f : Int} {L : List RW} {m : Int} {k : Str} (o n : Option Int) (h : (L.length : Int) ≤ b) (hl : L.length ≤ 9999) (hm : lastV f L + 1 ≤ m) (hk : Good k) :
    m_fChangeLog_add a [lgO a b f L, .int m, .str k, oD o, oD n] = .ok false .non [lgO a b (pushF b f L (m, k, o, n)) (pushL b L (m, k, o, n)), .non, .non, .non, .non] := by
  have ml := meth_last a (b := b) (f := f) (L := L) (st := [some (.ow true (lgO a b f L)), some (.sh (.int m)), some (.sh (.str k)), some (.sh (oD o)), some (.sh (oD n)), none]) (i := 0) (mu := true) rfl
  obtain ⟨y, lp⟩ := vals_loop a o n (some (.ow true (lgO a b f L))) (some (.sh (.int m))) (some (.sh (.str k))) (some (.sh (oD o))) (some (.sh (oD n))) none
  have tr := trim_eq a (b := b) (f := f) (L := L) (r := (m, k, o, n)) h hl
  have ap : appD (.lst (L.map rD)) [.tup [.int m, .str k, oD o, oD n]] = some (.non, .lst ((L ++ [(m, k, o, n)]).map rD)) := by
    have : (L.map rD).length < 16777216 := by rw [List.length_map]; omega
    simp only [appD, this, if_true, List.map_append]
    rfl
  have wb : wrBT isLst 0 a.c_ChangeLog "own_changes" appD [varQ 1, varQ 2, varQ 3, varQ 4] [some (.ow true (lgO a b f L)), some (.sh (.int m)), some (.sh (.str k)), some (.sh (oD o)), some (.sh (oD n)), y] = .ok .non [some (.ow true (lgO a b f (L ++ [(m, k, o, n)]))), some (.sh (.int m)), some (.sh (.str k)), some (.sh (oD o)), some (.sh (oD n)), y] := by
    generalize eL : L.map rD = D1 at ap
    generalize eL2 : (L ++ [(m, k, o, n)]).map rD = D2 at ap
    simp [b_bd1,b_bd2,b_bd3,b_od1,b_od2,b_od3,b_th1,b_th2,b_th3,b_th4,b_th5,b_th6,b_fin1,b_fin2,b_fin3,b_runF,b_q1,b_q2,b_q3,b_n1,b_n2,b_qK,b_nK,b_ret,b_bnd,b_doM,b_lift,b_opM,b_unM,b_testM,b_tst,b_andM,b_and1,b_and2,b_orM,b_or1,b_or2,b_notM,b_iteM,b_ite1,b_ite2,b_andV,b_andV1,b_andV2,b_orV,b_orV1,b_orV2,b_notV,b_notK,b_shareM,b_shK,b_varM,b_peekM,b_args0,b_args1,b_lstM,b_tupM,b_chainM,b_ch1,b_ch2,b_part0,b_part1,b_prK,b_slM,b_seqM,b_ifM,b_if1,b_if2,b_skipM,b_dropM,b_retM,b_retF,b_retK,b_retN,b_bkM,b_ctM,b_retOw,b_asgM,b_asgK,b_out,b_nameT,b_tupT,b_tgs0,b_tgs1,b_asgF,b_asgFK,b_parM,b_parK,b_parX,b_parXK,b_setL0,b_setL1,b_setL2,b_mx0,b_mxS,b_mxF,b_mxK,b_forM,b_loop0,b_seqM',b_sq1,b_sq2,b_tupM',b_tp1,b_rng1M,b_rgK,b_enumM,b_zipM,b_zpK,b_zipSM,b_zsK,b_avs0,b_avs1,b_shA,b_lnA,b_callM,b_callF,b_callQ,b_callN,b_fm0,b_fm1,b_fm2,b_getA0,b_getA1,b_getA2,b_back0,b_back1,b_back2,b_setOw,b_flM,b_wrM,b_wrK,b_setIx,b_sxK,b_idxM,b_lenA,b_lnK,b_callPM,b_raiseF,b_rsK,b_init0,b_init1,b_init2,b_endF,b_outS0,b_outS1,b_outS2,b_rng3M,b_rgK3,b_setT,b_setTk,b_lstR1,b_lrK,b_dspM,b_dspI,b_dspS,b_enumFM,b_enK,b_lstR2,b_lr2K, b_methM,b_propM,b_noErr,b_chkO,b_objD,b_objM,b_makeF,b_mkQ,b_putM,b_ptK,b_putB,b_ptB,b_varQ,b_bxM,b_bxEnd,b_wrB,b_wrBT,b_btK,b_lenO,b_lnOK,b_shareB,b_shBK,b_wrF,b_wrFK,b_cmpK,b_cmpO,b_kindD,b_kindM,b_mxB,b_mbK, lgO, eL, eL2, List.lookup, nk0, nk1, nk2, nk3, nk4, nk5, nk6, nk7, nk8, nk9, nk10, nk11, nk12, nk13, nk14, nk15, nk16, nk17, nk18, nk19, nk20, nk21, nk22, nk23, nk24, nk25, nk26, nk27, nk28, nk29, nk30, nk31, nk32, nk33, nk34, nk35, ap, isLst, putD]
  have ob := obO a (b := b) (f := f) (L := L ++ [(m, k, o, n)]) (st := [some (.ow true (lgO a b f (L ++ [(m, k, o, n)]))), some (.sh (.int m)), some (.sh (.str k)), some (.sh (oD o)), some (.sh (oD n)), y]) (nm := "trim") (i := 0) (mu := true) rfl (by decide) (by decide) (by decide)
  have lo := least_ok a hm
  have ck := check_key_good a hk
  generalize lgO a b f (L ++ [(m, k, o, n)]) = D1 at *
  generalize lgO a b (pushF b f L (m, k, o, n)) (pushL b L (m, k, o, n)) = D2 at *
  generalize lgO a b f L = D0 at *
  unfold m_fChangeLog_add
  simp [b_bd1,b_bd2,b_bd3,b_od1,b_od2,b_od3,b_th1,b_th2,b_th3,b_th4,b_th5,b_th6,b_fin1,b_fin2,b_fin3,b_runF,b_q1,b_q2,b_q3,b_n1,b_n2,b_qK,b_nK,b_ret,b_bnd,b_doM,b_lift,b_opM,b_unM,b_testM,b_tst,b_andM,b_and1,b_and2,b_orM,b_or1,b_or2,b_notM,b_iteM,b_ite1,b_ite2,b_andV,b_andV1,b_andV2,b_orV,b_orV1,b_orV2,b_notV,b_notK,b_shareM,b_shK,b_varM,b_peekM,b_args0,b_args1,b_lstM,b_tupM,b_chainM,b_ch1,b_ch2,b_part0,b_part1,b_prK,b_slM,b_seqM,b_ifM,b_if1,b_if2,b_skipM,b_dropM,b_retM,b_retF,b_retK,b_retN,b_bkM,b_ctM,b_retOw,b_asgM,b_asgK,b_out,b_nameT,b_tupT,b_tgs0,b_tgs1,b_asgF,b_asgFK,b_parM,b_parK,b_parX,b_parXK,b_setL0,b_setL1,b_setL2,b_mx0,b_mxS,b_mxF,b_mxK,b_forM,b_loop0,b_seqM',b_sq1,b_sq2,b_tupM',b_tp1,b_rng1M,b_rgK,b_enumM,b_zipM,b_zpK,b_zipSM,b_zsK,b_avs0,b_avs1,b_shA,b_lnA,b_callM,b_callF,b_callQ,b_callN,b_fm0,b_fm1,b_fm2,b_getA0,b_getA1,b_getA2,b_back0,b_back1,b_back2,b_setOw,b_flM,b_wrM,b_wrK,b_setIx,b_sxK,b_idxM,b_lenA,b_lnK,b_callPM,b_raiseF,b_rsK,b_init0,b_init1,b_init2,b_endF,b_outS0,b_outS1,b_outS2,b_rng3M,b_rgK3,b_setT,b_setTk,b_lstR1,b_lrK,b_dspM,b_dspI,b_dspS,b_enumFM,b_enK,b_lstR2,b_lr2K, b_methM, ml, addD, lo, ck, lp, wb, ob, tr]
end K12
namespace K12
open PySem L2 DL
local instance : TB := ⟨[]⟩
local instance : LC := ⟨fun _ => none⟩
/-! ### repr -/
theorem len_i {i : Int} (h : -1000 ≤ i ∧ i ≤ 1000) : ((toString i : Str)).length ≤ 5 := by
  rw [ofString_length]
  exact int_text_length_le10 (k := 4) (by decide) (by omega)
theorem log_i {i : Int} (h : -1000 ≤ i ∧ i ≤ 1000) : i.natAbs.log2 < 1920 := by
  have h1 : i.natAbs < 2 ^ 1920 := Nat.lt_of_lt_of_le (show i.natAbs < 2 ^ 10 by omega) (Nat.pow_le_pow_right (by decide) (by decide))
  by_cases h0 : i.natAbs = 0
  · rw [h0]; decide
  · exact (Nat.log2_lt h0).mpr h1
def RepOk (d : D) : Prop := ∃ r, reprPD d = some (.str r)
theorem rep_of {d : D} {q : PyData} (h : reprP d = some q) (h1 : (q.showable && decide (q.depth ≤ 60) && decide (q.shown.length ≤ 16777216)) = true) : RepOk d := by
  simp only [Bool.and_eq_true, decide_eq_true_eq] at h1
  refine ⟨q.shown, ?_⟩
  unfold reprPD
  rw [h]
  simp [h1]
theorem rep_int {i : Int} (h : -1000 ≤ i ∧ i ≤ 1000) : RepOk (.int i) := rep_of (q := .int i) rfl (by
  have h2 : (PyData.int i).shown.length ≤ 16777216 := by
    have := len_i h
    have e : (PyData.int i).shown = (toString i : Str) := by simp [PyData.shown]
    rw [e]
    omega
  simp [PyData.showable, PyData.depth, log_i h, h2])
/-! ### a refusal -/
theorem callC_fr {n : Nat} {m : MS} {ds : List D} {pre s st : DSt} {d : D} (hn : ds.length ≤ n) (hp : pre.length = n) (hl : s.length = st.length) (hf : flatD d = true) (h : m (ds.map (fun d => some (Slot.sh d)) ++ List.replicate (n - ds.length) none ++ st) = .rt true d (pre ++ s)) :
    callC (List.replicate ds.length false) n m (avD ds) st = .ok d s := by
  unfold callC
  rw [nd_d, if_pos List.nodup_nil, getA_d]
  dsimp only
  rw [init_d, clr_d, h]
  dsimp only
  rw [if_pos ⟨by rw [List.length_append, hp, hl], hf⟩]
  unfold endC
  rw [out_d (by rw [List.length_append]; omega)]
  dsimp only
  unfold setC
  rw [back_d, res_d, ← hp, List.drop_left]
abbrev clo (id : Nat) : Option Slot := some (.sh (.clo id))
theorem ref_err (a : Ad) (nd : (es a).Nodup) {mb : LMB} {id i : Nat} {x : Exc} {h : Hd} {r : D} {st s : DSt} (hm : mb id [] st = .err x s) (hl : s.length = st.length) (hf : flatD r = true) (hh : (bd0_f_law_refused a (liftB N_f_law_refused.length mb))[i]? = some h) (hx : x.cls = .ref h.C) (hE : h.C ∈ es a)
    (hr : ∀ (b : Addr) (s : DSt), suiteO h.oi h.sm x (clo id :: none :: s) b = .rt true r (clo id :: none :: s)) : callCM [false] N_f_law_refused.length (m_f_law_refused a (liftB N_f_law_refused.length mb)) (avsM [shA (DL.ret (.clo id))]) st = .ok r s := by
  have e : liftB N_f_law_refused.length mb id [] (clo id :: none :: st) = .err x (clo id :: none :: s) := lift_err (pre := [clo id, none]) rfl hm
  have e2 : cloM (liftB N_f_law_refused.length mb) 0 [] (clo id :: none :: st) = .err x (clo id :: none :: s) := by rw [a_clo0 _ _ id rfl, e]
  have e3 : dropM (cloM (liftB N_f_law_refused.length mb) 0 []) (clo id :: none :: st) = .err x (clo id :: none :: s) := by simp only [b_bd1,b_bd2,b_bd3,b_od1,b_od2,b_od3,b_th1,b_th2,b_th3,b_th4,b_th5,b_th6,b_fin1,b_fin2,b_fin3,b_runF,b_q1,b_q2,b_q3,b_n1,b_n2,b_qK,b_nK,b_ret,b_bnd,b_doM,b_lift,b_opM,b_unM,b_testM,b_tst,b_andM,b_and1,b_and2,b_orM,b_or1,b_or2,b_notM,b_iteM,b_ite1,b_ite2,b_andV,b_andV1,b_andV2,b_orV,b_orV1,b_orV2,b_notV,b_notK,b_shareM,b_shK,b_varM,b_peekM,b_args0,b_args1,b_lstM,b_tupM,b_chainM,b_ch1,b_ch2,b_part0,b_part1,b_prK,b_slM,b_seqM,b_ifM,b_if1,b_if2,b_skipM,b_dropM,b_retM,b_retF,b_retK,b_retN,b_bkM,b_ctM,b_retOw,b_asgM,b_asgK,b_out,b_nameT,b_tupT,b_tgs0,b_tgs1,b_asgF,b_asgFK,b_parM,b_parK,b_parX,b_parXK,b_setL0,b_setL1,b_setL2,b_mx0,b_mxS,b_mxF,b_mxK,b_forM,b_loop0,b_seqM',b_sq1,b_sq2,b_tupM',b_tp1,b_rng1M,b_rgK,b_enumM,b_zipM,b_zpK,b_zipSM,b_zsK,b_avs0,b_avs1,b_shA,b_lnA,b_callM,b_callF,b_callQ,b_callN,b_fm0,b_fm1,b_fm2,b_getA0,b_getA1,b_getA2,b_back0,b_back1,b_back2,b_setOw,b_flM,b_wrM,b_wrK,b_setIx,b_sxK,b_idxM,b_lenA,b_lnK,b_callPM,b_raiseF,b_rsK,b_init0,b_init1,b_init2,b_endF,b_outS0,b_outS1,b_outS2,b_rng3M,b_rgK3,b_setT,b_setTk,b_lstR1,b_lrK,b_dspM,b_dspI,b_dspS,b_enumFM,b_enK,b_lstR2,b_lr2K, e2]
  have e4 : m_f_law_refused a (liftB N_f_law_refused.length mb) (clo id :: none :: st) = .rt true r (clo id :: none :: s) := by
    have e5 : tryM (es a) (dropM (cloM (liftB N_f_law_refused.length mb) 0 [])) (bd0_f_law_refused a (liftB N_f_law_refused.length mb)) (clo id :: none :: st) = .rt true r (clo id :: none :: s) := by
      rw [a_tryM, e3]
      exact catch_at hh nd hx hE fun b => hr b s
    unfold m_f_law_refused
    simp only [b_bd1,b_bd2,b_bd3,b_od1,b_od2,b_od3,b_th1,b_th2,b_th3,b_th4,b_th5,b_th6,b_fin1,b_fin2,b_fin3,b_runF,b_q1,b_q2,b_q3,b_n1,b_n2,b_qK,b_nK,b_ret,b_bnd,b_doM,b_lift,b_opM,b_unM,b_testM,b_tst,b_andM,b_and1,b_and2,b_orM,b_or1,b_or2,b_notM,b_iteM,b_ite1,b_ite2,b_andV,b_andV1,b_andV2,b_orV,b_orV1,b_orV2,b_notV,b_notK,b_shareM,b_shK,b_varM,b_peekM,b_args0,b_args1,b_lstM,b_tupM,b_chainM,b_ch1,b_ch2,b_part0,b_part1,b_prK,b_slM,b_seqM,b_ifM,b_if1,b_if2,b_skipM,b_dropM,b_retM,b_retF,b_retK,b_retN,b_bkM,b_ctM,b_retOw,b_asgM,b_asgK,b_out,b_nameT,b_tupT,b_tgs0,b_tgs1,b_asgF,b_asgFK,b_parM,b_parK,b_parX,b_parXK,b_setL0,b_setL1,b_setL2,b_mx0,b_mxS,b_mxF,b_mxK,b_forM,b_loop0,b_seqM',b_sq1,b_sq2,b_tupM',b_tp1,b_rng1M,b_rgK,b_enumM,b_zipM,b_zpK,b_zipSM,b_zsK,b_avs0,b_avs1,b_shA,b_lnA,b_callM,b_callF,b_callQ,b_callN,b_fm0,b_fm1,b_fm2,b_getA0,b_getA1,b_getA2,b_back0,b_back1,b_back2,b_setOw,b_flM,b_wrM,b_wrK,b_setIx,b_sxK,b_idxM,b_lenA,b_lnK,b_callPM,b_raiseF,b_rsK,b_init0,b_init1,b_init2,b_endF,b_outS0,b_outS1,b_outS2,b_rng3M,b_rgK3,b_setT,b_setTk,b_lstR1,b_lrK,b_dspM,b_dspI,b_dspS,b_enumFM,b_enK,b_lstR2,b_lr2K, e5]
  rw [a_callCM]
  simp only [b_bd1,b_bd2,b_bd3,b_od1,b_od2,b_od3,b_th1,b_th2,b_th3,b_th4,b_th5,b_th6,b_fin1,b_fin2,b_fin3,b_runF,b_q1,b_q2,b_q3,b_n1,b_n2,b_qK,b_nK,b_ret,b_bnd,b_doM,b_lift,b_opM,b_unM,b_testM,b_tst,b_andM,b_and1,b_and2,b_orM,b_or1,b_or2,b_notM,b_iteM,b_ite1,b_ite2,b_andV,b_andV1,b_andV2,b_orV,b_orV1,b_orV2,b_notV,b_notK,b_shareM,b_shK,b_varM,b_peekM,b_args0,b_args1,b_lstM,b_tupM,b_chainM,b_ch1,b_ch2,b_part0,b_part1,b_prK,b_slM,b_seqM,b_ifM,b_if1,b_if2,b_skipM,b_dropM,b_retM,b_retF,b_retK,b_retN,b_bkM,b_ctM,b_retOw,b_asgM,b_asgK,b_out,b_nameT,b_tupT,b_tgs0,b_tgs1,b_asgF,b_asgFK,b_parM,b_parK,b_parX,b_parXK,b_setL0,b_setL1,b_setL2,b_mx0,b_mxS,b_mxF,b_mxK,b_forM,b_loop0,b_seqM',b_sq1,b_sq2,b_tupM',b_tp1,b_rng1M,b_rgK,b_enumM,b_zipM,b_zpK,b_zipSM,b_zsK,b_avs0,b_avs1,b_shA,b_lnA,b_callM,b_callF,b_callQ,b_callN,b_fm0,b_fm1,b_fm2,b_getA0,b_getA1,b_getA2,b_back0,b_back1,b_back2,b_setOw,b_flM,b_wrM,b_wrK,b_setIx,b_sxK,b_idxM,b_lenA,b_lnK,b_callPM,b_raiseF,b_rsK,b_init0,b_init1,b_init2,b_endF,b_outS0,b_outS1,b_outS2,b_rng3M,b_rgK3,b_setT,b_setTk,b_lstR1,b_lrK,b_dspM,b_dspI,b_dspS,b_enumFM,b_enK,b_lstR2,b_lr2K]
  exact callC_fr (ds := [.clo id]) (n := 2) (pre := [clo id, none]) (Nat.le_of_ble_eq_true rfl) rfl hl hf e4
theorem ref_num (a : Ad) (nd : (es a).Nodup) {mb : LMB} {id : Nat} {v : D} {z : Str} {st s : DSt} (hm : mb id [] st = .err (xN a v) s) (hl : s.length = st.length) (hz : reprPD v = some (.str z)) :
    callCM [false] N_f_law_refused.length (m_f_law_refused a (liftB N_f_law_refused.length mb)) (avsM [shA (DL.ret (.clo id))]) st = .ok (.lst [.str "number", .bl true, .str z]) s :=
  ref_err a nd (i := 0) hm hl rfl rfl rfl (by simp [es]) fun b s => by
    simp [suiteO, goneO, b_bd1,b_bd2,b_bd3,b_od1,b_od2,b_od3,b_th1,b_th2,b_th3,b_th4,b_th5,b_th6,b_fin1,b_fin2,b_fin3,b_runF,b_q1,b_q2,b_q3,b_n1,b_n2,b_qK,b_nK,b_ret,b_bnd,b_doM,b_lift,b_opM,b_unM,b_testM,b_tst,b_andM,b_and1,b_and2,b_orM,b_or1,b_or2,b_notM,b_iteM,b_ite1,b_ite2,b_andV,b_andV1,b_andV2,b_orV,b_orV1,b_orV2,b_notV,b_notK,b_shareM,b_shK,b_varM,b_peekM,b_args0,b_args1,b_lstM,b_tupM,b_chainM,b_ch1,b_ch2,b_part0,b_part1,b_prK,b_slM,b_seqM,b_ifM,b_if1,b_if2,b_skipM,b_dropM,b_retM,b_retF,b_retK,b_retN,b_bkM,b_ctM,b_retOw,b_asgM,b_asgK,b_out,b_nameT,b_tupT,b_tgs0,b_tgs1,b_asgF,b_asgFK,b_parM,b_parK,b_parX,b_parXK,b_setL0,b_setL1,b_setL2,b_mx0,b_mxS,b_mxF,b_mxK,b_forM,b_loop0,b_seqM',b_sq1,b_sq2,b_tupM',b_tp1,b_rng1M,b_rgK,b_enumM,b_zipM,b_zpK,b_zipSM,b_zsK,b_avs0,b_avs1,b_shA,b_lnA,b_callM,b_callF,b_callQ,b_callN,b_fm0,b_fm1,b_fm2,b_getA0,b_getA1,b_getA2,b_back0,b_back1,b_back2,b_setOw,b_flM,b_wrM,b_wrK,b_setIx,b_sxK,b_idxM,b_lenA,b_lnK,b_callPM,b_raiseF,b_rsK,b_init0,b_init1,b_init2,b_endF,b_outS0,b_outS1,b_outS2,b_rng3M,b_rgK3,b_setT,b_setTk,b_lstR1,b_lrK,b_dspM,b_dspI,b_dspS,b_enumFM,b_enK,b_lstR2,b_lr2K, xfM, xisM, List.lookup, hz]
theorem ref_key (a : Ad) (nd : (es a).Nodup) {mb : LMB} {id : Nat} {v : D} {z : Str} {st s : DSt} (hm : mb id [] st = .err (xK a v) s) (hl : s.length = st.length) (hz : reprPD v = some (.str z)) :
    callCM [false] N_f_law_refused.length (m_f_law_refused a (liftB N_f_law_refused.length mb)) (avsM [shA (DL.ret (.clo id))]) st = .ok (.lst [.str "key", .bl true, .str z]) s :=
  ref_err a nd (i := 1) hm hl rfl rfl rfl (by simp [es]) fun b s => by
    simp [suiteO, goneO, b_bd1,b_bd2,b_bd3,b_od1,b_od2,b_od3,b_th1,b_th2,b_th3,b_th4,b_th5,b_th6,b_fin1,b_fin2,b_fin3,b_runF,b_q1,b_q2,b_q3,b_n1,b_n2,b_qK,b_nK,b_ret,b_bnd,b_doM,b_lift,b_opM,b_unM,b_testM,b_tst,b_andM,b_and1,b_and2,b_orM,b_or1,b_or2,b_notM,b_iteM,b_ite1,b_ite2,b_andV,b_andV1,b_andV2,b_orV,b_orV1,b_orV2,b_notV,b_notK,b_shareM,b_shK,b_varM,b_peekM,b_args0,b_args1,b_lstM,b_tupM,b_chainM,b_ch1,b_ch2,b_part0,b_part1,b_prK,b_slM,b_seqM,b_ifM,b_if1,b_if2,b_skipM,b_dropM,b_retM,b_retF,b_retK,b_retN,b_bkM,b_ctM,b_retOw,b_asgM,b_asgK,b_out,b_nameT,b_tupT,b_tgs0,b_tgs1,b_asgF,b_asgFK,b_parM,b_parK,b_parX,b_parXK,b_setL0,b_setL1,b_setL2,b_mx0,b_mxS,b_mxF,b_mxK,b_forM,b_loop0,b_seqM',b_sq1,b_sq2,b_tupM',b_tp1,b_rng1M,b_rgK,b_enumM,b_zipM,b_zpK,b_zipSM,b_zsK,b_avs0,b_avs1,b_shA,b_lnA,b_callM,b_callF,b_callQ,b_callN,b_fm0,b_fm1,b_fm2,b_getA0,b_getA1,b_getA2,b_back0,b_back1,b_back2,b_setOw,b_flM,b_wrM,b_wrK,b_setIx,b_sxK,b_idxM,b_lenA,b_lnK,b_callPM,b_raiseF,b_rsK,b_init0,b_init1,b_init2,b_endF,b_outS0,b_outS1,b_outS2,b_rng3M,b_rgK3,b_setT,b_setTk,b_lstR1,b_lrK,b_dspM,b_dspI,b_dspS,b_enumFM,b_enK,b_lstR2,b_lr2K, xfM, xisM, List.lookup, hz]
theorem ref_fg (a : Ad) (nd : (es a).Nodup) {mb : LMB} {id : Nat} {v : D} {st s : DSt} (hm : mb id [] st = .err (xF a v) s) (hl : s.length = st.length) :
    callCM [false] N_f_law_refused.length (m_f_law_refused a (liftB N_f_law_refused.length mb)) (avsM [shA (DL.ret (.clo id))]) st = .ok (.lst [.str "forgotten", .bl true, v]) s :=
  ref_err a nd (i := 2) hm hl rfl rfl rfl (by simp [es]) fun b s => by
    simp [suiteO, goneO, b_bd1,b_bd2,b_bd3,b_od1,b_od2,b_od3,b_th1,b_th2,b_th3,b_th4,b_th5,b_th6,b_fin1,b_fin2,b_fin3,b_runF,b_q1,b_q2,b_q3,b_n1,b_n2,b_qK,b_nK,b_ret,b_bnd,b_doM,b_lift,b_opM,b_unM,b_testM,b_tst,b_andM,b_and1,b_and2,b_orM,b_or1,b_or2,b_notM,b_iteM,b_ite1,b_ite2,b_andV,b_andV1,b_andV2,b_orV,b_orV1,b_orV2,b_notV,b_notK,b_shareM,b_shK,b_varM,b_peekM,b_args0,b_args1,b_lstM,b_tupM,b_chainM,b_ch1,b_ch2,b_part0,b_part1,b_prK,b_slM,b_seqM,b_ifM,b_if1,b_if2,b_skipM,b_dropM,b_retM,b_retF,b_retK,b_retN,b_bkM,b_ctM,b_retOw,b_asgM,b_asgK,b_out,b_nameT,b_tupT,b_tgs0,b_tgs1,b_asgF,b_asgFK,b_parM,b_parK,b_parX,b_parXK,b_setL0,b_setL1,b_setL2,b_mx0,b_mxS,b_mxF,b_mxK,b_forM,b_loop0,b_seqM',b_sq1,b_sq2,b_tupM',b_tp1,b_rng1M,b_rgK,b_enumM,b_zipM,b_zpK,b_zipSM,b_zsK,b_avs0,b_avs1,b_shA,b_lnA,b_callM,b_callF,b_callQ,b_callN,b_fm0,b_fm1,b_fm2,b_getA0,b_getA1,b_getA2,b_back0,b_back1,b_back2,b_setOw,b_flM,b_wrM,b_wrK,b_setIx,b_sxK,b_idxM,b_lenA,b_lnK,b_callPM,b_raiseF,b_rsK,b_init0,b_init1,b_init2,b_endF,b_outS0,b_outS1,b_outS2,b_rng3M,b_rgK3,b_setT,b_setTk,b_lstR1,b_lrK,b_dspM,b_dspI,b_dspS,b_enumFM,b_enK,b_lstR2,b_lr2K, xfM, xisM, List.lookup]
theorem lam_err {ms : List (List D → M D)} {id : Nat} {m : M D} {x : Exc} {st s : DSt} (hi : ms[id]? = some (lamM 0 0 m)) (h : m st = .err x s) : mbL ms id [] st = .err x s := by
  unfold mbL
  rw [List.getD_eq_getElem?_getD, hi]
  show lamM 0 0 m [] st = _
  unfold lamM
  simp [h]
/-- text of three: alike -/
theorem eqv_refl3 (w z : Str) : PyData.eqv (.list [.str w, .bool true, .str z]) (.list [.str w, .bool true, .str z]) = true := by simp [PyData.eqv, PyData.eqvAll]
theorem ne3 (w z : Str) : neD (.lst [.str w, .bl true, .str z]) (.lst [.str w, .bl true, .str z]) = some (.bl false) := by
  have e : toP (.lst [.str w, .bl true, .str z]) = some (.list [.str w, .bool true, .str z]) := rfl
  rw [ne_of' e e (by simp [PyData.depth, PyData.depthAll]), eqv_refl3]
  rfl
theorem eq3 (w z : Str) : eqD (.lst [.str w, .bl true, .str z]) (.lst [.str w, .bl true, .str z]) = some (.bl true) := by
  have e : toP (.lst [.str w, .bl true, .str z]) = some (.list [.str w, .bool true, .str z]) := rfl
  rw [eq_of e e (by simp [PyData.depth, PyData.depthAll]), eqv_refl3]
theorem ne3i (w : Str) (z : Int) : neD (.lst [.str w, .bl true, .int z]) (.lst [.str w, .bl true, .int z]) = some (.bl false) := by
  have e : toP (.lst [.str w, .bl true, .int z]) = some (.list [.str w, .bool true, .int z]) := rfl
  rw [ne_of' e e (by simp [PyData.depth, PyData.depthAll])]
  simp [PyData.eqv, PyData.eqvAll]
/-! ### add, refused -/
abbrev args5 (a : Ad) (b f : Int) (L : List RW) : List D := [lgO a b f L, .non, .non, .non, .non]
theorem add_m (a : Ad) {b f : Int} {L : List RW} {v k o n : D} {now : Int} (hn : lastV f L = now) (h : m_fcheck_least a [v, .int (now + 1)] = .err (xN a v) [.non, .non]) : m_fChangeLog_add a [lgO a b f L, v, k, o, n] = .err (xN a v) (args5 a b f L) := by
  subst hn
  have ml := meth_last a (b := b) (f := f) (L := L) (st := [some (.ow true (lgO a b f L)), some (.sh v), some (.sh k), some (.sh o), some (.sh n), none]) (i := 0) (mu := true) rfl
  dsimp only [args5]
  generalize lgO a b f L = D0 at *
  unfold m_fChangeLog_add
  simp [b_bd1,b_bd2,b_bd3,b_od1,b_od2,b_od3,b_th1,b_th2,b_th3,b_th4,b_th5,b_th6,b_fin1,b_fin2,b_fin3,b_runF,b_q1,b_q2,b_q3,b_n1,b_n2,b_qK,b_nK,b_ret,b_bnd,b_doM,b_lift,b_opM,b_unM,b_testM,b_tst,b_andM,b_and1,b_and2,b_orM,b_or1,b_or2,b_notM,b_iteM,b_ite1,b_ite2,b_andV,b_andV1,b_andV2,b_orV,b_orV1,b_orV2,b_notV,b_notK,b_shareM,b_shK,b_varM,b_peekM,b_args0,b_args1,b_lstM,b_tupM,b_chainM,b_ch1,b_ch2,b_part0,b_part1,b_prK,b_slM,b_seqM,b_ifM,b_if1,b_if2,b_skipM,b_dropM,b_retM,b_retF,b_retK,b_retN,b_bkM,b_ctM,b_retOw,b_asgM,b_asgK,b_out,b_nameT,b_tupT,b_tgs0,b_tgs1,b_asgF,b_asgFK,b_parM,b_parK,b_parX,b_parXK,b_setL0,b_setL1,b_setL2,b_mx0,b_mxS,b_mxF,b_mxK,b_forM,b_loop0,b_seqM',b_sq1,b_sq2,b_tupM',b_tp1,b_rng1M,b_rgK,b_enumM,b_zipM,b_zpK,b_zipSM,b_zsK,b_avs0,b_avs1,b_shA,b_lnA,b_callM,b_callF,b_callQ,b_callN,b_fm0,b_fm1,b_fm2,b_getA0,b_getA1,b_getA2,b_back0,b_back1,b_back2,b_setOw,b_flM,b_wrM,b_wrK,b_setIx,b_sxK,b_idxM,b_lenA,b_lnK,b_callPM,b_raiseF,b_rsK,b_init0,b_init1,b_init2,b_endF,b_outS0,b_outS1,b_outS2,b_rng3M,b_rgK3,b_setT,b_setTk,b_lstR1,b_lrK,b_dspM,b_dspI,b_dspS,b_enumFM,b_enK,b_lstR2,b_lr2K, ml, addD, h]
theorem add_k (a : Ad) {b f : Int} {L : List RW} {v o n : D} {now : Int} (hn : lastV f L = now) (h : m_fcheck_key a [v] = .err (xK a v) [.non]) : m_fChangeLog_add a [lgO a b f L, .int (now + 1), v, o, n] = .err (xK a v) (args5 a b f L) := by
  subst hn
  have ml := meth_last a (b := b) (f := f) (L := L) (st := [some (.ow true (lgO a b f L)), some (.sh (.int (lastV f L + 1))), some (.sh v), some (.sh o), some (.sh n), none]) (i := 0) (mu := true) rfl
  have lo := least_ok a (Int.le_refl (lastV f L + 1))
  dsimp only [args5]
  generalize lgO a b f L = D0 at *
  generalize lastV f L = l at *
  unfold m_fChangeLog_add
  simp [b_bd1,b_bd2,b_bd3,b_od1,b_od2,b_od3,b_th1,b_th2,b_th3,b_th4,b_th5,b_th6,b_fin1,b_fin2,b_fin3,b_runF,b_q1,b_q2,b_q3,b_n1,b_n2,b_qK,b_nK,b_ret,b_bnd,b_doM,b_lift,b_opM,b_unM,b_testM,b_tst,b_andM,b_and1,b_and2,b_orM,b_or1,b_or2,b_notM,b_iteM,b_ite1,b_ite2,b_andV,b_andV1,b_andV2,b_orV,b_orV1,b_orV2,b_notV,b_notK,b_shareM,b_shK,b_varM,b_peekM,b_args0,b_args1,b_lstM,b_tupM,b_chainM,b_ch1,b_ch2,b_part0,b_part1,b_prK,b_slM,b_seqM,b_ifM,b_if1,b_if2,b_skipM,b_dropM,b_retM,b_retF,b_retK,b_retN,b_bkM,b_ctM,b_retOw,b_asgM,b_asgK,b_out,b_nameT,b_tupT,b_tgs0,b_tgs1,b_asgF,b_asgFK,b_parM,b_parK,b_parX,b_parXK,b_setL0,b_setL1,b_setL2,b_mx0,b_mxS,b_mxF,b_mxK,b_forM,b_loop0,b_seqM',b_sq1,b_sq2,b_tupM',b_tp1,b_rng1M,b_rgK,b_enumM,b_zipM,b_zpK,b_zipSM,b_zsK,b_avs0,b_avs1,b_shA,b_lnA,b_callM,b_callF,b_callQ,b_callN,b_fm0,b_fm1,b_fm2,b_getA0,b_getA1,b_getA2,b_back0,b_back1,b_back2,b_setOw,b_flM,b_wrM,b_wrK,b_setIx,b_sxK,b_idxM,b_lenA,b_lnK,b_callPM,b_raiseF,b_rsK,b_init0,b_init1,b_init2,b_endF,b_outS0,b_outS1,b_outS2,b_rng3M,b_rgK3,b_setT,b_setTk,b_lstR1,b_lrK,b_dspM,b_dspI,b_dspS,b_enumFM,b_enK,b_lstR2,b_lr2K, ml, addD, lo, h]
theorem goodA : Good "a" := ⟨by decide, by decide, by decide⟩
theorem add_o (a : Ad) {b f : Int} {L : List RW} {v n : D} {now : Int} (hn : lastV f L = now) (hv : isnD v .non = some (.bl true)) (h : m_fcheck_value a [v] = .err (xN a v) [.non]) : m_fChangeLog_add a [lgO a b f L, .int (now + 1), .str "a", v, n] = .err (xN a v) (args5 a b f L) := by
  subst hn
  have ml := meth_last a (b := b) (f := f) (L := L) (st := [some (.ow true (lgO a b f L)), some (.sh (.int (lastV f L + 1))), some (.sh (.str "a")), some (.sh v), some (.sh n), none]) (i := 0) (mu := true) rfl
  have lo := least_ok a (Int.le_refl (lastV f L + 1))
  have lp : loopM (nameT 5) (bd0_fChangeLog_add a) [v, n] [some (.ow true (lgO a b f L)), some (.sh (.int (lastV f L + 1))), some (.sh (.str "a")), some (.sh v), some (.sh n), none] = .err (xN a v) [some (.ow true (lgO a b f L)), some (.sh (.int (lastV f L + 1))), some (.sh (.str "a")), some (.sh v), some (.sh n), some (.sh v)] := by
    have hb : turnF (nameT 5) (bd0_fChangeLog_add a) v [some (.ow true (lgO a b f L)), some (.sh (.int (lastV f L + 1))), some (.sh (.str "a")), some (.sh v), some (.sh n), none] = .err (xN a v) [some (.ow true (lgO a b f L)), some (.sh (.int (lastV f L + 1))), some (.sh (.str "a")), some (.sh v), some (.sh n), some (.sh v)] := by
      unfold bd0_fChangeLog_add
      simp [b_bd1,b_bd2,b_bd3,b_od1,b_od2,b_od3,b_th1,b_th2,b_th3,b_th4,b_th5,b_th6,b_fin1,b_fin2,b_fin3,b_runF,b_q1,b_q2,b_q3,b_n1,b_n2,b_qK,b_nK,b_ret,b_bnd,b_doM,b_lift,b_opM,b_unM,b_testM,b_tst,b_andM,b_and1,b_and2,b_orM,b_or1,b_or2,b_notM,b_iteM,b_ite1,b_ite2,b_andV,b_andV1,b_andV2,b_orV,b_orV1,b_orV2,b_notV,b_notK,b_shareM,b_shK,b_varM,b_peekM,b_args0,b_args1,b_lstM,b_tupM,b_chainM,b_ch1,b_ch2,b_part0,b_part1,b_prK,b_slM,b_seqM,b_ifM,b_if1,b_if2,b_skipM,b_dropM,b_retM,b_retF,b_retK,b_retN,b_bkM,b_ctM,b_retOw,b_asgM,b_asgK,b_out,b_nameT,b_tupT,b_tgs0,b_tgs1,b_asgF,b_asgFK,b_parM,b_parK,b_parX,b_parXK,b_setL0,b_setL1,b_setL2,b_mx0,b_mxS,b_mxF,b_mxK,b_forM,b_loop0,b_seqM',b_sq1,b_sq2,b_tupM',b_tp1,b_rng1M,b_rgK,b_enumM,b_zipM,b_zpK,b_zipSM,b_zsK,b_avs0,b_avs1,b_shA,b_lnA,b_callM,b_callF,b_callQ,b_callN,b_fm0,b_fm1,b_fm2,b_getA0,b_getA1,b_getA2,b_back0,b_back1,b_back2,b_setOw,b_flM,b_wrM,b_wrK,b_setIx,b_sxK,b_idxM,b_lenA,b_lnK,b_callPM,b_raiseF,b_rsK,b_init0,b_init1,b_init2,b_endF,b_outS0,b_outS1,b_outS2,b_rng3M,b_rgK3,b_setT,b_setTk,b_lstR1,b_lrK,b_dspM,b_dspI,b_dspS,b_enumFM,b_enK,b_lstR2,b_lr2K, b_endK,b_turnK1,b_turnK2,b_turnS,b_turnC,b_turnB,b_turnF,b_wipe0,b_wipe1,-List.getD_eq_getElem?_getD, hv, h]
    rw [loop_turn, hb]
  dsimp only [args5]
  generalize lgO a b f L = D0 at *
  generalize lastV f L = l at *
  unfold m_fChangeLog_add
  simp [b_bd1,b_bd2,b_bd3,b_od1,b_od2,b_od3,b_th1,b_th2,b_th3,b_th4,b_th5,b_th6,b_fin1,b_fin2,b_fin3,b_runF,b_q1,b_q2,b_q3,b_n1,b_n2,b_qK,b_nK,b_ret,b_bnd,b_doM,b_lift,b_opM,b_unM,b_testM,b_tst,b_andM,b_and1,b_and2,b_orM,b_or1,b_or2,b_notM,b_iteM,b_ite1,b_ite2,b_andV,b_andV1,b_andV2,b_orV,b_orV1,b_orV2,b_notV,b_notK,b_shareM,b_shK,b_varM,b_peekM,b_args0,b_args1,b_lstM,b_tupM,b_chainM,b_ch1,b_ch2,b_part0,b_part1,b_prK,b_slM,b_seqM,b_ifM,b_if1,b_if2,b_skipM,b_dropM,b_retM,b_retF,b_retK,b_retN,b_bkM,b_ctM,b_retOw,b_asgM,b_asgK,b_out,b_nameT,b_tupT,b_tgs0,b_tgs1,b_asgF,b_asgFK,b_parM,b_parK,b_parX,b_parXK,b_setL0,b_setL1,b_setL2,b_mx0,b_mxS,b_mxF,b_mxK,b_forM,b_loop0,b_seqM',b_sq1,b_sq2,b_tupM',b_tp1,b_rng1M,b_rgK,b_enumM,b_zipM,b_zpK,b_zipSM,b_zsK,b_avs0,b_avs1,b_shA,b_lnA,b_callM,b_callF,b_callQ,b_callN,b_fm0,b_fm1,b_fm2,b_getA0,b_getA1,b_getA2,b_back0,b_back1,b_back2,b_setOw,b_flM,b_wrM,b_wrK,b_setIx,b_sxK,b_idxM,b_lenA,b_lnK,b_callPM,b_raiseF,b_rsK,b_init0,b_init1,b_init2,b_endF,b_outS0,b_outS1,b_outS2,b_rng3M,b_rgK3,b_setT,b_setTk,b_lstR1,b_lrK,b_dspM,b_dspI,b_dspS,b_enumFM,b_enK,b_lstR2,b_lr2K, ml, addD, lo, check_key_good a goodA, lp]
theorem add_n (a : Ad) {b f : Int} {L : List RW} {v : D} {now : Int} (hn : lastV f L = now) (hv : isnD v .non = some (.bl true)) (h : m_fcheck_value a [v] = .err (xN a v) [.non]) : m_fChangeLog_add a [lgO a b f L, .int (now + 1), .str "a", .non, v] = .err (xN a v) (args5 a b f L) := by
  subst hn
  have ml := meth_last a (b := b) (f := f) (L := L) (st := [some (.ow true (lgO a b f L)), some (.sh (.int (lastV f L + 1))), some (.sh (.str "a")), some (.sh .non), some (.sh v), none]) (i := 0) (mu := true) rfl
  have lo := least_ok a (Int.le_refl (lastV f L + 1))
  have lp : loopM (nameT 5) (bd0_fChangeLog_add a) [.non, v] [some (.ow true (lgO a b f L)), some (.sh (.int (lastV f L + 1))), some (.sh (.str "a")), some (.sh .non), some (.sh v), none] = .err (xN a v) [some (.ow true (lgO a b f L)), some (.sh (.int (lastV f L + 1))), some (.sh (.str "a")), some (.sh .non), some (.sh v), some (.sh v)] := by
    have h0 : turnF (nameT 5) (bd0_fChangeLog_add a) .non [some (.ow true (lgO a b f L)), some (.sh (.int (lastV f L + 1))), some (.sh (.str "a")), some (.sh .non), some (.sh v), none] = .nx [some (.ow true (lgO a b f L)), some (.sh (.int (lastV f L + 1))), some (.sh (.str "a")), some (.sh .non), some (.sh v), some (.sh .non)] := by
      unfold bd0_fChangeLog_add
      simp [b_bd1,b_bd2,b_bd3,b_od1,b_od2,b_od3,b_th1,b_th2,b_th3,b_th4,b_th5,b_th6,b_fin1,b_fin2,b_fin3,b_runF,b_q1,b_q2,b_q3,b_n1,b_n2,b_qK,b_nK,b_ret,b_bnd,b_doM,b_lift,b_opM,b_unM,b_testM,b_tst,b_andM,b_and1,b_and2,b_orM,b_or1,b_or2,b_notM,b_iteM,b_ite1,b_ite2,b_andV,b_andV1,b_andV2,b_orV,b_orV1,b_orV2,b_notV,b_notK,b_shareM,b_shK,b_varM,b_peekM,b_args0,b_args1,b_lstM,b_tupM,b_chainM,b_ch1,b_ch2,b_part0,b_part1,b_prK,b_slM,b_seqM,b_ifM,b_if1,b_if2,b_skipM,b_dropM,b_retM,b_retF,b_retK,b_retN,b_bkM,b_ctM,b_retOw,b_asgM,b_asgK,b_out,b_nameT,b_tupT,b_tgs0,b_tgs1,b_asgF,b_asgFK,b_parM,b_parK,b_parX,b_parXK,b_setL0,b_setL1,b_setL2,b_mx0,b_mxS,b_mxF,b_mxK,b_forM,b_loop0,b_seqM',b_sq1,b_sq2,b_tupM',b_tp1,b_rng1M,b_rgK,b_enumM,b_zipM,b_zpK,b_zipSM,b_zsK,b_avs0,b_avs1,b_shA,b_lnA,b_callM,b_callF,b_callQ,b_callN,b_fm0,b_fm1,b_fm2,b_getA0,b_getA1,b_getA2,b_back0,b_back1,b_back2,b_setOw,b_flM,b_wrM,b_wrK,b_setIx,b_sxK,b_idxM,b_lenA,b_lnK,b_callPM,b_raiseF,b_rsK,b_init0,b_init1,b_init2,b_endF,b_outS0,b_outS1,b_outS2,b_rng3M,b_rgK3,b_setT,b_setTk,b_lstR1,b_lrK,b_dspM,b_dspI,b_dspS,b_enumFM,b_enK,b_lstR2,b_lr2K, b_endK,b_turnK1,b_turnK2,b_turnS,b_turnC,b_turnB,b_turnF,b_wipe0,b_wipe1,-List.getD_eq_getElem?_getD, isnD, DL.isNon]
    have hb : turnF (nameT 5) (bd0_fChangeLog_add a) v [some (.ow true (lgO a b f L)), some (.sh (.int (lastV f L + 1))), some (.sh (.str "a")), some (.sh .non), some (.sh v), some (.sh .non)] = .err (xN a v) [some (.ow true (lgO a b f L)), some (.sh (.int (lastV f L + 1))), some (.sh (.str "a")), some (.sh .non), some (.sh v), some (.sh v)] := by
      unfold bd0_fChangeLog_add
      simp [b_bd1,b_bd2,b_bd3,b_od1,b_od2,b_od3,b_th1,b_th2,b_th3,b_th4,b_th5,b_th6,b_fin1,b_fin2,b_fin3,b_runF,b_q1,b_q2,b_q3,b_n1,b_n2,b_qK,b_nK,b_ret,b_bnd,b_doM,b_lift,b_opM,b_unM,b_testM,b_tst,b_andM,b_and1,b_and2,b_orM,b_or1,b_or2,b_notM,b_iteM,b_ite1,b_ite2,b_andV,b_andV1,b_andV2,b_orV,b_orV1,b_orV2,b_notV,b_notK,b_shareM,b_shK,b_varM,b_peekM,b_args0,b_args1,b_lstM,b_tupM,b_chainM,b_ch1,b_ch2,b_part0,b_part1,b_prK,b_slM,b_seqM,b_ifM,b_if1,b_if2,b_skipM,b_dropM,b_retM,b_retF,b_retK,b_retN,b_bkM,b_ctM,b_retOw,b_asgM,b_asgK,b_out,b_nameT,b_tupT,b_tgs0,b_tgs1,b_asgF,b_asgFK,b_parM,b_parK,b_parX,b_parXK,b_setL0,b_setL1,b_setL2,b_mx0,b_mxS,b_mxF,b_mxK,b_forM,b_loop0,b_seqM',b_sq1,b_sq2,b_tupM',b_tp1,b_rng1M,b_rgK,b_enumM,b_zipM,b_zpK,b_zipSM,b_zsK,b_avs0,b_avs1,b_shA,b_lnA,b_callM,b_callF,b_callQ,b_callN,b_fm0,b_fm1,b_fm2,b_getA0,b_getA1,b_getA2,b_back0,b_back1,b_back2,b_setOw,b_flM,b_wrM,b_wrK,b_setIx,b_sxK,b_idxM,b_lenA,b_lnK,b_callPM,b_raiseF,b_rsK,b_init0,b_init1,b_init2,b_endF,b_outS0,b_outS1,b_outS2,b_rng3M,b_rgK3,b_setT,b_setTk,b_lstR1,b_lrK,b_dspM,b_dspI,b_dspS,b_enumFM,b_enK,b_lstR2,b_lr2K, b_endK,b_turnK1,b_turnK2,b_turnS,b_turnC,b_turnB,b_turnF,b_wipe0,b_wipe1,-List.getD_eq_getElem?_getD, hv, h]
    rw [loop_turn, h0]
    dsimp only
    rw [loop_turn, hb]
  dsimp only [args5]
  generalize lgO a b f L = D0 at *
  generalize lastV f L = l at *
  unfold m_fChangeLog_add
  simp [b_bd1,b_bd2,b_bd3,b_od1,b_od2,b_od3,b_th1,b_th2,b_th3,b_th4,b_th5,b_th6,b_fin1,b_fin2,b_fin3,b_runF,b_q1,b_q2,b_q3,b_n1,b_n2,b_qK,b_nK,b_ret,b_bnd,b_doM,b_lift,b_opM,b_unM,b_testM,b_tst,b_andM,b_and1,b_and2,b_orM,b_or1,b_or2,b_notM,b_iteM,b_ite1,b_ite2,b_andV,b_andV1,b_andV2,b_orV,b_orV1,b_orV2,b_notV,b_notK,b_shareM,b_shK,b_varM,b_peekM,b_args0,b_args1,b_lstM,b_tupM,b_chainM,b_ch1,b_ch2,b_part0,b_part1,b_prK,b_slM,b_seqM,b_ifM,b_if1,b_if2,b_skipM,b_dropM,b_retM,b_retF,b_retK,b_retN,b_bkM,b_ctM,b_retOw,b_asgM,b_asgK,b_out,b_nameT,b_tupT,b_tgs0,b_tgs1,b_asgF,b_asgFK,b_parM,b_parK,b_parX,b_parXK,b_setL0,b_setL1,b_setL2,b_mx0,b_mxS,b_mxF,b_mxK,b_forM,b_loop0,b_seqM',b_sq1,b_sq2,b_tupM',b_tp1,b_rng1M,b_rgK,b_enumM,b_zipM,b_zpK,b_zipSM,b_zsK,b_avs0,b_avs1,b_shA,b_lnA,b_callM,b_callF,b_callQ,b_callN,b_fm0,b_fm1,b_fm2,b_getA0,b_getA1,b_getA2,b_back0,b_back1,b_back2,b_setOw,b_flM,b_wrM,b_wrK,b_setIx,b_sxK,b_idxM,b_lenA,b_lnK,b_callPM,b_raiseF,b_rsK,b_init0,b_init1,b_init2,b_endF,b_outS0,b_outS1,b_outS2,b_rng3M,b_rgK3,b_setT,b_setTk,b_lstR1,b_lrK,b_dspM,b_dspI,b_dspS,b_enumFM,b_enK,b_lstR2,b_lr2K, ml, addD, lo, check_key_good a goodA, lp]
end K12
namespace K12
open PySem L2 DL
local instance : TB := ⟨[]⟩
local instance : LC := ⟨fun _ => none⟩
theorem fs {mu : List Bool} {A B : MS} {st s : DSt} {X : FRes} (h : A st = .nx s) (h2 : (B s).fin mu = X) : (seqM A B st).fin mu = X := by rw [b_seqM, h]; exact h2
theorem set_same {α : Type} {st : List α} {i : Nat} {x : α} (h : st[i]? = some x) : st.set i x = st := by
  apply List.ext_getElem?
  intro j
  rw [List.getElem?_set]
  by_cases c : i = j
  · subst c
    rw [if_pos rfl, if_pos (List.getElem?_eq_some_iff.mp h).1, h]
  · rw [if_neg c]
theorem pick_ex (a : Ad) (p : Int × Int) {xs : List D} {n : Int} (hn : n = (xs.length : Int)) (h0 : 0 < xs.length) (h1 : xs.length < 1000) : ∃ (q : Int × Int) (v : Int) (y : D), m_f_law_draw a [pl p, .int n] = .ok false (.int v) [pl q, .non] ∧ ixD (.lst xs) (.int v) = some y ∧ y ∈ xs := by
  obtain ⟨v0, v1⟩ := drawV_rng p n (by omega)
  have hv : (drawV p n).toNat < xs.length := by omega
  refine ⟨_, drawV p n, xs[(drawV p n).toNat], draw_eq a p n (by omega) (by omega), ?_, List.getElem_mem hv⟩
  show atI xs (drawV p n) = _
  unfold atI ixN
  rw [if_pos v0, if_pos (by omega)]
  exact List.getElem?_eq_getElem hv
theorem draw_ex (a : Ad) (p : Int × Int) {n : Int} (h0 : 0 < n) (h1 : n < 1073741824) : ∃ (q : Int × Int) (v : Int), m_f_law_draw a [pl p, .int n] = .ok false (.int v) [pl q, .non] ∧ 0 ≤ v ∧ v < n :=
  ⟨_, _, draw_eq a p n h0 h1, drawV_rng p n h0⟩
theorem meth_add_err (a : Ad) {b f : Int} {L : List RW} {st : DSt} {i : Nat} {mu : Bool} {x : Exc} {v1 v2 v3 v4 : D} {m1 m2 m3 m4 : M D} (hi : st[i]? = some (some (.ow mu (lgO a b f L)))) (h1 : m1 st = .ok v1 st) (h2 : m2 st = .ok v2 st) (h3 : m3 st = .ok v3 st) (h4 : m4 st = .ok v4 st)
    (h : m_fChangeLog_add a [lgO a b f L, v1, v2, v3, v4] = .err x (args5 a b f L)) : methM callQ a.c_ChangeLog "add" [true, false, false, false, false] (m_fChangeLog_add a) [] (lnA i) (avsM [shA m1, shA m2, shA m3, shA m4]) st = .err x st := by
  have ob := obO a (nm := "add") hi (by decide) (by decide) (by decide)
  have hs := set_same hi
  dsimp only [args5] at h
  generalize lgO a b f L = D0 at *
  simp [b_bd1,b_bd2,b_bd3,b_od1,b_od2,b_od3,b_th1,b_th2,b_th3,b_th4,b_th5,b_th6,b_fin1,b_fin2,b_fin3,b_runF,b_q1,b_q2,b_q3,b_n1,b_n2,b_qK,b_nK,b_ret,b_bnd,b_doM,b_lift,b_opM,b_unM,b_testM,b_tst,b_andM,b_and1,b_and2,b_orM,b_or1,b_or2,b_notM,b_iteM,b_ite1,b_ite2,b_andV,b_andV1,b_andV2,b_orV,b_orV1,b_orV2,b_notV,b_notK,b_shareM,b_shK,b_varM,b_peekM,b_args0,b_args1,b_lstM,b_tupM,b_chainM,b_ch1,b_ch2,b_part0,b_part1,b_prK,b_slM,b_seqM,b_ifM,b_if1,b_if2,b_skipM,b_dropM,b_retM,b_retF,b_retK,b_retN,b_bkM,b_ctM,b_retOw,b_asgM,b_asgK,b_out,b_nameT,b_tupT,b_tgs0,b_tgs1,b_asgF,b_asgFK,b_parM,b_parK,b_parX,b_parXK,b_setL0,b_setL1,b_setL2,b_mx0,b_mxS,b_mxF,b_mxK,b_forM,b_loop0,b_seqM',b_sq1,b_sq2,b_tupM',b_tp1,b_rng1M,b_rgK,b_enumM,b_zipM,b_zpK,b_zipSM,b_zsK,b_avs0,b_avs1,b_shA,b_lnA,b_callM,b_callF,b_callQ,b_callN,b_fm0,b_fm1,b_fm2,b_getA0,b_getA1,b_getA2,b_back0,b_back1,b_back2,b_setOw,b_flM,b_wrM,b_wrK,b_setIx,b_sxK,b_idxM,b_lenA,b_lnK,b_callPM,b_raiseF,b_rsK,b_init0,b_init1,b_init2,b_endF,b_outS0,b_outS1,b_outS2,b_rng3M,b_rgK3,b_setT,b_setTk,b_lstR1,b_lrK,b_dspM,b_dspI,b_dspS,b_enumFM,b_enK,b_lstR2,b_lr2K, b_methM, hi, ob, h1, h2, h3, h4, h, hs]
theorem meth_since_err (a : Ad) {b f : Int} {L : List RW} {st : DSt} {i : Nat} {mu : Bool} {x : Exc} {v : D} {m : M D} (hi : st[i]? = some (some (.ow mu (lgO a b f L)))) (h1 : m st = .ok v st) (hx : immA (x.fs.map (·.2)) = true)
    (h : m_fChangeLog_since a [lgS a b f L, v] = .err x [.non, .non]) : methM callQ a.c_ChangeLog "since" [true, false] (viewF 0 (m_fChangeLog_since a)) [] (lnA i) (avsM [shA m]) st = .err x st := by
  have ob := obO a (nm := "since") hi (by decide) (by decide) (by decide)
  have hs := set_same hi
  have hv : viewF 0 (m_fChangeLog_since a) [lgO a b f L, v] = .err x [lgO a b f L, .non] := view_err (d := lgO a b f L) (ms := [.non, .non]) rfl (vw_lg a b f L) h hx rfl
  generalize lgO a b f L = D0 at *
  simp [b_bd1,b_bd2,b_bd3,b_od1,b_od2,b_od3,b_th1,b_th2,b_th3,b_th4,b_th5,b_th6,b_fin1,b_fin2,b_fin3,b_runF,b_q1,b_q2,b_q3,b_n1,b_n2,b_qK,b_nK,b_ret,b_bnd,b_doM,b_lift,b_opM,b_unM,b_testM,b_tst,b_andM,b_and1,b_and2,b_orM,b_or1,b_or2,b_notM,b_iteM,b_ite1,b_ite2,b_andV,b_andV1,b_andV2,b_orV,b_orV1,b_orV2,b_notV,b_notK,b_shareM,b_shK,b_varM,b_peekM,b_args0,b_args1,b_lstM,b_tupM,b_chainM,b_ch1,b_ch2,b_part0,b_part1,b_prK,b_slM,b_seqM,b_ifM,b_if1,b_if2,b_skipM,b_dropM,b_retM,b_retF,b_retK,b_retN,b_bkM,b_ctM,b_retOw,b_asgM,b_asgK,b_out,b_nameT,b_tupT,b_tgs0,b_tgs1,b_asgF,b_asgFK,b_parM,b_parK,b_parX,b_parXK,b_setL0,b_setL1,b_setL2,b_mx0,b_mxS,b_mxF,b_mxK,b_forM,b_loop0,b_seqM',b_sq1,b_sq2,b_tupM',b_tp1,b_rng1M,b_rgK,b_enumM,b_zipM,b_zpK,b_zipSM,b_zsK,b_avs0,b_avs1,b_shA,b_lnA,b_callM,b_callF,b_callQ,b_callN,b_fm0,b_fm1,b_fm2,b_getA0,b_getA1,b_getA2,b_back0,b_back1,b_back2,b_setOw,b_flM,b_wrM,b_wrK,b_setIx,b_sxK,b_idxM,b_lenA,b_lnK,b_callPM,b_raiseF,b_rsK,b_init0,b_init1,b_init2,b_endF,b_outS0,b_outS1,b_outS2,b_rng3M,b_rgK3,b_setT,b_setTk,b_lstR1,b_lrK,b_dspM,b_dspI,b_dspS,b_enumFM,b_enK,b_lstR2,b_lr2K, b_methM, hi, ob, h1, hv, hs]
theorem nstep {c : M D} {st : DSt} {w z : Str} {v : D} (hc : c st = .ok (.lst [.str w, .bl true, .str z]) st) (hz : reprPD v = some (.str z)) (h3 : st[3]? = some (some (.sh v))) :
    ifM (testM (opM neD c (shareM (lstM [DL.ret (.str w), DL.ret (.bl true), unM reprPD (peekM 3)])))) (retM (DL.ret (.bl false))) skipM st = .nx st := by
  simp [b_bd1,b_bd2,b_bd3,b_od1,b_od2,b_od3,b_th1,b_th2,b_th3,b_th4,b_th5,b_th6,b_fin1,b_fin2,b_fin3,b_runF,b_q1,b_q2,b_q3,b_n1,b_n2,b_qK,b_nK,b_ret,b_bnd,b_doM,b_lift,b_opM,b_unM,b_testM,b_tst,b_andM,b_and1,b_and2,b_orM,b_or1,b_or2,b_notM,b_iteM,b_ite1,b_ite2,b_andV,b_andV1,b_andV2,b_orV,b_orV1,b_orV2,b_notV,b_notK,b_shareM,b_shK,b_varM,b_peekM,b_args0,b_args1,b_lstM,b_tupM,b_chainM,b_ch1,b_ch2,b_part0,b_part1,b_prK,b_slM,b_seqM,b_ifM,b_if1,b_if2,b_skipM,b_dropM,b_retM,b_retF,b_retK,b_retN,b_bkM,b_ctM,b_retOw,b_asgM,b_asgK,b_out,b_nameT,b_tupT,b_tgs0,b_tgs1,b_asgF,b_asgFK,b_parM,b_parK,b_parX,b_parXK,b_setL0,b_setL1,b_setL2,b_mx0,b_mxS,b_mxF,b_mxK,b_forM,b_loop0,b_seqM',b_sq1,b_sq2,b_tupM',b_tp1,b_rng1M,b_rgK,b_enumM,b_zipM,b_zpK,b_zipSM,b_zsK,b_avs0,b_avs1,b_shA,b_lnA,b_callM,b_callF,b_callQ,b_callN,b_fm0,b_fm1,b_fm2,b_getA0,b_getA1,b_getA2,b_back0,b_back1,b_back2,b_setOw,b_flM,b_wrM,b_wrK,b_setIx,b_sxK,b_idxM,b_lenA,b_lnK,b_callPM,b_raiseF,b_rsK,b_init0,b_init1,b_init2,b_endF,b_outS0,b_outS1,b_outS2,b_rng3M,b_rgK3,b_setT,b_setTk,b_lstR1,b_lrK,b_dspM,b_dspI,b_dspS,b_enumFM,b_enK,b_lstR2,b_lr2K, hc, h3, hz, flatD, ne3]
theorem estep {c : M D} {st : DSt} {w z : Str} {v : D} (hc : c st = .ok (.lst [.str w, .bl true, .str z]) st) (hz : reprPD v = some (.str z)) (h3 : st[3]? = some (some (.sh v))) :
    retM (opM eqD c (shareM (lstM [DL.ret (.str w), DL.ret (.bl true), unM reprPD (peekM 3)]))) st = .rt false (.bl true) st := by
  simp [b_bd1,b_bd2,b_bd3,b_od1,b_od2,b_od3,b_th1,b_th2,b_th3,b_th4,b_th5,b_th6,b_fin1,b_fin2,b_fin3,b_runF,b_q1,b_q2,b_q3,b_n1,b_n2,b_qK,b_nK,b_ret,b_bnd,b_doM,b_lift,b_opM,b_unM,b_testM,b_tst,b_andM,b_and1,b_and2,b_orM,b_or1,b_or2,b_notM,b_iteM,b_ite1,b_ite2,b_andV,b_andV1,b_andV2,b_orV,b_orV1,b_orV2,b_notV,b_notK,b_shareM,b_shK,b_varM,b_peekM,b_args0,b_args1,b_lstM,b_tupM,b_chainM,b_ch1,b_ch2,b_part0,b_part1,b_prK,b_slM,b_seqM,b_ifM,b_if1,b_if2,b_skipM,b_dropM,b_retM,b_retF,b_retK,b_retN,b_bkM,b_ctM,b_retOw,b_asgM,b_asgK,b_out,b_nameT,b_tupT,b_tgs0,b_tgs1,b_asgF,b_asgFK,b_parM,b_parK,b_parX,b_parXK,b_setL0,b_setL1,b_setL2,b_mx0,b_mxS,b_mxF,b_mxK,b_forM,b_loop0,b_seqM',b_sq1,b_sq2,b_tupM',b_tp1,b_rng1M,b_rgK,b_enumM,b_zipM,b_zpK,b_zipSM,b_zsK,b_avs0,b_avs1,b_shA,b_lnA,b_callM,b_callF,b_callQ,b_callN,b_fm0,b_fm1,b_fm2,b_getA0,b_getA1,b_getA2,b_back0,b_back1,b_back2,b_setOw,b_flM,b_wrM,b_wrK,b_setIx,b_sxK,b_idxM,b_lenA,b_lnK,b_callPM,b_raiseF,b_rsK,b_init0,b_init1,b_init2,b_endF,b_outS0,b_outS1,b_outS2,b_rng3M,b_rgK3,b_setT,b_setTk,b_lstR1,b_lrK,b_dspM,b_dspI,b_dspS,b_enumFM,b_enK,b_lstR2,b_lr2K, hc, h3, hz, flatD, eq3]
/-! ### what is refused -/
abbrev bs (q : Int × Int) (d : D) (now : Int) (o : Option Slot) : DSt := [some (.ow true (pl q)), some (.ow true d), some (.sh (.int now)), o]
theorem noclo_o (x : Option Int) : noClo (oD x) = true := by cases x <;> rfl
theorem noclo_r (r : RW) : noClo (rD r) = true := by simp [rD, noClo, noCloA, noclo_o]
theorem noclo_rs : ∀ L : List RW, noCloA (L.map rD) = true
  | [] => rfl
  | r :: L => by rw [List.map_cons, noCloA, noclo_r, noclo_rs L]; rfl
theorem noclo_lg (a : Ad) (b f : Int) (L : List RW) : noClo (lgO a b f L) = true := by
  simp [lgO, noClo, noCloA, noCloF, noclo_rs]
theorem no_pl (q : Int × Int) : noClo (pl q) = true := rfl
theorem bad_eq (a : Ad) (nd : (es a).Nodup) {b f : Int} {L : List RW} {now : Int} (p : Int × Int) (hn : lastV f L = now) (h0 : 0 ≤ now) (h1 : now ≤ 900) : ∃ q, m_f_law_bad a [pl p, lgO a b f L, .int now] = .ok false (.bl true) [pl q, lgO a b f L, .non] := by
  obtain ⟨q1, v1, y1, d1, x1, m1⟩ := pick_ex a p (n := 6) (xs := [.int now, .int (now - 1), .non, .bl true, .str "9", .int (-1)]) rfl (by simp) (by simp)
  obtain ⟨q2, v2, y2, d2, x2, m2⟩ := pick_ex a q1 (n := 5) (xs := [.non, .str "", .str "A", .int 5, .lst [.str "a"]]) rfl (by decide) (by decide)
  obtain ⟨q3, v3, y3, d3, x3, m3⟩ := pick_ex a q2 (n := 4) (xs := [.bl true, .str "5", .lst [.int 5], .tup [.int 5]]) rfl (by decide) (by decide)
  obtain ⟨q4, v4, y4, d4, x4, m4⟩ := pick_ex a q3 (n := 4) (xs := [.int (-1), .non, .bl true, .str "1"]) rfl (by decide) (by decide)
  have k1 : m_fcheck_least a [y1, .int (now + 1)] = .err (xN a y1) [.non, .non] ∧ RepOk y1 := by
    simp only [List.mem_cons, List.not_mem_nil, or_false] at m1
    rcases m1 with rfl | rfl | rfl | rfl | rfl | rfl
    · exact ⟨least_lo a (by omega), rep_int (by omega)⟩
    · exact ⟨least_lo a (by omega), rep_int (by omega)⟩
    · exact ⟨least_no a _ (is_non a), rep_of (q := .none) rfl (by decide +kernel)⟩
    · exact ⟨least_no a _ (is_bl a true), rep_of (q := .bool true) rfl (by decide +kernel)⟩
    · exact ⟨least_no a _ (is_str a _), rep_of (q := .str "9") rfl (by decide +kernel)⟩
    · exact ⟨least_lo a (by omega), rep_int (by omega)⟩
  have k2 : m_fcheck_key a [y2] = .err (xK a y2) [.non] ∧ RepOk y2 := by
    simp only [List.mem_cons, List.not_mem_nil, or_false] at m2
    have eA : (decide (1 ≤ ("A" : Str).length ∧ ("A" : Str).length ≤ 20) && okS "A") = false := by decide
    rcases m2 with rfl | rfl | rfl | rfl | rfl
    · exact ⟨key_no a (is_key_no a).1, rep_of (q := .none) rfl (by decide +kernel)⟩
    · exact ⟨key_no a (by rw [is_key_str a _ (by decide)]; rfl), rep_of (q := .str "") rfl (by decide +kernel)⟩
    · exact ⟨key_no a (by rw [is_key_str a _ (by decide), eA]), rep_of (q := .str "A") rfl (by decide +kernel)⟩
    · exact ⟨key_no a (is_key_no a).2.1, rep_int (by omega)⟩
    · exact ⟨key_no a ((is_key_no a).2.2 _), rep_of (q := .list [.str "a"]) rfl (by decide +kernel)⟩
  have k3 : m_fcheck_value a [y3] = .err (xN a y3) [.non] ∧ isnD y3 .non = some (.bl true) ∧ RepOk y3 := by
    simp only [List.mem_cons, List.not_mem_nil, or_false] at m3
    rcases m3 with rfl | rfl | rfl | rfl
    · exact ⟨value_no a (is_bl a true), rfl, rep_of (q := .bool true) rfl (by decide +kernel)⟩
    · exact ⟨value_no a (is_str a _), rfl, rep_of (q := .str "5") rfl (by decide +kernel)⟩
    · exact ⟨value_no a (is_lst a _), rfl, rep_of (q := .list [.int 5]) rfl (by decide +kernel)⟩
    · exact ⟨value_no a (is_tup a _), rfl, rep_of (q := .tuple [.int 5]) rfl (by decide +kernel)⟩
  have k4 : m_fcheck_least a [y4, .int 0] = .err (xN a y4) [.non, .non] ∧ immD y4 = true ∧ RepOk y4 := by
    simp only [List.mem_cons, List.not_mem_nil, or_false] at m4
    rcases m4 with rfl | rfl | rfl | rfl
    · exact ⟨least_lo a (by omega), rfl, rep_int (by omega)⟩
    · exact ⟨least_no a _ (is_non a), rfl, rep_of (q := .none) rfl (by decide +kernel)⟩
    · exact ⟨least_no a _ (is_bl a true), rfl, rep_of (q := .bool true) rfl (by decide +kernel)⟩
    · exact ⟨least_no a _ (is_str a _), rfl, rep_of (q := .str "1") rfl (by decide +kernel)⟩
  obtain ⟨c1, z1, r1⟩ := k1
  obtain ⟨c2, z2, r2⟩ := k2
  obtain ⟨c3, n3, z3, r3⟩ := k3
  obtain ⟨c4, i4, z4, r4⟩ := k4
  have a1 := ref_num a nd (mb := mbL (mbs_f_law_bad a)) (id := 0) (st := bs q1 (lgO a b f L) now (some (.sh y1))) (lam_err rfl (meth_add_err a (i := 1) (mu := true) (v1 := y1) (v2 := .non) (v3 := .non) (v4 := .non) rfl rfl rfl rfl rfl (add_m a hn c1))) rfl r1
  have a2 := ref_key a nd (mb := mbL (mbs_f_law_bad a)) (id := 1) (st := bs q2 (lgO a b f L) now (some (.sh y2))) (lam_err rfl (meth_add_err a (i := 1) (mu := true) (v1 := .int (now + 1)) (v2 := y2) (v3 := .str "x") (v4 := .non) rfl rfl rfl rfl rfl (add_k a hn c2))) rfl r2
  have a3 := ref_num a nd (mb := mbL (mbs_f_law_bad a)) (id := 2) (st := bs q3 (lgO a b f L) now (some (.sh y3))) (lam_err rfl (meth_add_err a (i := 1) (mu := true) (v1 := .int (now + 1)) (v2 := .str "a") (v3 := y3) (v4 := .str "y") rfl rfl rfl rfl rfl (add_o a hn n3 c3))) rfl r3
  have a4 := ref_num a nd (mb := mbL (mbs_f_law_bad a)) (id := 3) (st := bs q3 (lgO a b f L) now (some (.sh y3))) (lam_err rfl (meth_add_err a (i := 1) (mu := true) (v1 := .int (now + 1)) (v2 := .str "a") (v3 := .non) (v4 := y3) rfl rfl rfl rfl rfl (add_n a hn n3 c3))) rfl r3
  have a5 := ref_num a nd (mb := mbL (mbs_f_law_bad a)) (id := 4) (st := bs q4 (lgO a b f L) now (some (.sh y4))) (lam_err rfl (meth_since_err a (i := 1) (mu := true) (v := y4) rfl rfl (by simp [immA, i4]) (since_bad a b f L c4))) rfl r4
  refine ⟨q4, runC_ok ?_ (by simp [noCloA, noclo_lg, no_pl, noClo]) (by simp [noClo]) (by simp [noCloA, noclo_lg, no_pl, noClo])⟩
  rw [b_runF]
  show (seqM _ _ (bs p (lgO a b f L) now none)).fin _ = _
  generalize lgO a b f L = D0 at *
  refine fs (s := bs q1 D0 now (some (.sh y1))) (by simp [b_bd1,b_bd2,b_bd3,b_od1,b_od2,b_od3,b_th1,b_th2,b_th3,b_th4,b_th5,b_th6,b_fin1,b_fin2,b_fin3,b_runF,b_q1,b_q2,b_q3,b_n1,b_n2,b_qK,b_nK,b_ret,b_bnd,b_doM,b_lift,b_opM,b_unM,b_testM,b_tst,b_andM,b_and1,b_and2,b_orM,b_or1,b_or2,b_notM,b_iteM,b_ite1,b_ite2,b_andV,b_andV1,b_andV2,b_orV,b_orV1,b_orV2,b_notV,b_notK,b_shareM,b_shK,b_varM,b_peekM,b_args0,b_args1,b_lstM,b_tupM,b_chainM,b_ch1,b_ch2,b_part0,b_part1,b_prK,b_slM,b_seqM,b_ifM,b_if1,b_if2,b_skipM,b_dropM,b_retM,b_retF,b_retK,b_retN,b_bkM,b_ctM,b_retOw,b_asgM,b_asgK,b_out,b_nameT,b_tupT,b_tgs0,b_tgs1,b_asgF,b_asgFK,b_parM,b_parK,b_parX,b_parXK,b_setL0,b_setL1,b_setL2,b_mx0,b_mxS,b_mxF,b_mxK,b_forM,b_loop0,b_seqM',b_sq1,b_sq2,b_tupM',b_tp1,b_rng1M,b_rgK,b_enumM,b_zipM,b_zpK,b_zipSM,b_zsK,b_avs0,b_avs1,b_shA,b_lnA,b_callM,b_callF,b_callQ,b_callN,b_fm0,b_fm1,b_fm2,b_getA0,b_getA1,b_getA2,b_back0,b_back1,b_back2,b_setOw,b_flM,b_wrM,b_wrK,b_setIx,b_sxK,b_idxM,b_lenA,b_lnK,b_callPM,b_raiseF,b_rsK,b_init0,b_init1,b_init2,b_endF,b_outS0,b_outS1,b_outS2,b_rng3M,b_rgK3,b_setT,b_setTk,b_lstR1,b_lrK,b_dspM,b_dspI,b_dspS,b_enumFM,b_enK,b_lstR2,b_lr2K, subI, negI, flatD, d1, x1]) ?_
  refine fs (nstep a1 r1 rfl) ?_
  refine fs (s := bs q2 D0 now (some (.sh y2))) (by simp [b_bd1,b_bd2,b_bd3,b_od1,b_od2,b_od3,b_th1,b_th2,b_th3,b_th4,b_th5,b_th6,b_fin1,b_fin2,b_fin3,b_runF,b_q1,b_q2,b_q3,b_n1,b_n2,b_qK,b_nK,b_ret,b_bnd,b_doM,b_lift,b_opM,b_unM,b_testM,b_tst,b_andM,b_and1,b_and2,b_orM,b_or1,b_or2,b_notM,b_iteM,b_ite1,b_ite2,b_andV,b_andV1,b_andV2,b_orV,b_orV1,b_orV2,b_notV,b_notK,b_shareM,b_shK,b_varM,b_peekM,b_args0,b_args1,b_lstM,b_tupM,b_chainM,b_ch1,b_ch2,b_part0,b_part1,b_prK,b_slM,b_seqM,b_ifM,b_if1,b_if2,b_skipM,b_dropM,b_retM,b_retF,b_retK,b_retN,b_bkM,b_ctM,b_retOw,b_asgM,b_asgK,b_out,b_nameT,b_tupT,b_tgs0,b_tgs1,b_asgF,b_asgFK,b_parM,b_parK,b_parX,b_parXK,b_setL0,b_setL1,b_setL2,b_mx0,b_mxS,b_mxF,b_mxK,b_forM,b_loop0,b_seqM',b_sq1,b_sq2,b_tupM',b_tp1,b_rng1M,b_rgK,b_enumM,b_zipM,b_zpK,b_zipSM,b_zsK,b_avs0,b_avs1,b_shA,b_lnA,b_callM,b_callF,b_callQ,b_callN,b_fm0,b_fm1,b_fm2,b_getA0,b_getA1,b_getA2,b_back0,b_back1,b_back2,b_setOw,b_flM,b_wrM,b_wrK,b_setIx,b_sxK,b_idxM,b_lenA,b_lnK,b_callPM,b_raiseF,b_rsK,b_init0,b_init1,b_init2,b_endF,b_outS0,b_outS1,b_outS2,b_rng3M,b_rgK3,b_setT,b_setTk,b_lstR1,b_lrK,b_dspM,b_dspI,b_dspS,b_enumFM,b_enK,b_lstR2,b_lr2K, flatD, d2, x2]) ?_
  refine fs (nstep a2 r2 rfl) ?_
  refine fs (s := bs q3 D0 now (some (.sh y3))) (by simp [b_bd1,b_bd2,b_bd3,b_od1,b_od2,b_od3,b_th1,b_th2,b_th3,b_th4,b_th5,b_th6,b_fin1,b_fin2,b_fin3,b_runF,b_q1,b_q2,b_q3,b_n1,b_n2,b_qK,b_nK,b_ret,b_bnd,b_doM,b_lift,b_opM,b_unM,b_testM,b_tst,b_andM,b_and1,b_and2,b_orM,b_or1,b_or2,b_notM,b_iteM,b_ite1,b_ite2,b_andV,b_andV1,b_andV2,b_orV,b_orV1,b_orV2,b_notV,b_notK,b_shareM,b_shK,b_varM,b_peekM,b_args0,b_args1,b_lstM,b_tupM,b_chainM,b_ch1,b_ch2,b_part0,b_part1,b_prK,b_slM,b_seqM,b_ifM,b_if1,b_if2,b_skipM,b_dropM,b_retM,b_retF,b_retK,b_retN,b_bkM,b_ctM,b_retOw,b_asgM,b_asgK,b_out,b_nameT,b_tupT,b_tgs0,b_tgs1,b_asgF,b_asgFK,b_parM,b_parK,b_parX,b_parXK,b_setL0,b_setL1,b_setL2,b_mx0,b_mxS,b_mxF,b_mxK,b_forM,b_loop0,b_seqM',b_sq1,b_sq2,b_tupM',b_tp1,b_rng1M,b_rgK,b_enumM,b_zipM,b_zpK,b_zipSM,b_zsK,b_avs0,b_avs1,b_shA,b_lnA,b_callM,b_callF,b_callQ,b_callN,b_fm0,b_fm1,b_fm2,b_getA0,b_getA1,b_getA2,b_back0,b_back1,b_back2,b_setOw,b_flM,b_wrM,b_wrK,b_setIx,b_sxK,b_idxM,b_lenA,b_lnK,b_callPM,b_raiseF,b_rsK,b_init0,b_init1,b_init2,b_endF,b_outS0,b_outS1,b_outS2,b_rng3M,b_rgK3,b_setT,b_setTk,b_lstR1,b_lrK,b_dspM,b_dspI,b_dspS,b_enumFM,b_enK,b_lstR2,b_lr2K, flatD, d3, x3]) ?_
  refine fs (nstep a3 r3 rfl) ?_
  refine fs (nstep a4 r3 rfl) ?_
  refine fs (s := bs q4 D0 now (some (.sh y4))) (by simp [b_bd1,b_bd2,b_bd3,b_od1,b_od2,b_od3,b_th1,b_th2,b_th3,b_th4,b_th5,b_th6,b_fin1,b_fin2,b_fin3,b_runF,b_q1,b_q2,b_q3,b_n1,b_n2,b_qK,b_nK,b_ret,b_bnd,b_doM,b_lift,b_opM,b_unM,b_testM,b_tst,b_andM,b_and1,b_and2,b_orM,b_or1,b_or2,b_notM,b_iteM,b_ite1,b_ite2,b_andV,b_andV1,b_andV2,b_orV,b_orV1,b_orV2,b_notV,b_notK,b_shareM,b_shK,b_varM,b_peekM,b_args0,b_args1,b_lstM,b_tupM,b_chainM,b_ch1,b_ch2,b_part0,b_part1,b_prK,b_slM,b_seqM,b_ifM,b_if1,b_if2,b_skipM,b_dropM,b_retM,b_retF,b_retK,b_retN,b_bkM,b_ctM,b_retOw,b_asgM,b_asgK,b_out,b_nameT,b_tupT,b_tgs0,b_tgs1,b_asgF,b_asgFK,b_parM,b_parK,b_parX,b_parXK,b_setL0,b_setL1,b_setL2,b_mx0,b_mxS,b_mxF,b_mxK,b_forM,b_loop0,b_seqM',b_sq1,b_sq2,b_tupM',b_tp1,b_rng1M,b_rgK,b_enumM,b_zipM,b_zpK,b_zipSM,b_zsK,b_avs0,b_avs1,b_shA,b_lnA,b_callM,b_callF,b_callQ,b_callN,b_fm0,b_fm1,b_fm2,b_getA0,b_getA1,b_getA2,b_back0,b_back1,b_back2,b_setOw,b_flM,b_wrM,b_wrK,b_setIx,b_sxK,b_idxM,b_lenA,b_lnK,b_callPM,b_raiseF,b_rsK,b_init0,b_init1,b_init2,b_endF,b_outS0,b_outS1,b_outS2,b_rng3M,b_rgK3,b_setT,b_setTk,b_lstR1,b_lrK,b_dspM,b_dspI,b_dspS,b_enumFM,b_enK,b_lstR2,b_lr2K, negI, flatD, d4, x4]) ?_
  rw [estep a5 r4 rfl]
  rfl
end K12
namespace K12
open PySem L2 DL
local instance : TB := ⟨[]⟩
local instance : LC := ⟨fun _ => none⟩
/-! ### rows, compared -/
theorem eqv_o (x : Option Int) : PyData.eqv (oP x) (oP x) = true := by cases x <;> simp [oP, PyData.eqv]
theorem eqv_r (r : RW) : PyData.eqv (rP r) (rP r) = true := by simp [rP, PyData.eqv, PyData.eqvAll, eqv_o]
theorem eqv_rs : ∀ L : List RW, PyData.eqvAll (L.map rP) (L.map rP) = true
  | [] => by simp [PyData.eqvAll]
  | r :: L => by simp [PyData.eqvAll, eqv_r, eqv_rs L]
theorem ne_rows (L : List RW) : neD (.lst (L.map rD)) (.lst (L.map rD)) = some (.bl false) := by
  have e : toP (.lst (L.map rD)) = some (.list (L.map rP)) := by rw [toP, toPs_r]; rfl
  have d : (PyData.list (L.map rP)).depth ≤ 3 := by
    have := dep_rs L
    simp only [PyData.depth]
    omega
  rw [ne_of' e e (by omega)]
  have : PyData.eqv (.list (L.map rP)) (.list (L.map rP)) = true := by simp [PyData.eqv, eqv_rs L]
  rw [this]
  rfl
theorem ne_ints3 (x y z : Int) : neD (.lst [.int x, .int y, .int z]) (.lst [.int x, .int y, .int z]) = some (.bl false) := by
  have e : toP (.lst [.int x, .int y, .int z]) = some (.list [.int x, .int y, .int z]) := rfl
  rw [ne_of' e e (by simp [PyData.depth, PyData.depthAll])]
  simp [PyData.eqv, PyData.eqvAll]
theorem ne_int (x : Int) : neD (.int x) (.int x) = some (.bl false) := by
  rw [ne_of' (p := .int x) (q := .int x) rfl rfl (by simp [PyData.depth])]
  simp [PyData.eqv]
theorem ob_shown (a : Ad) (b f : Int) (L : List RW) (st : DSt) : chkO a.c_ChangeLog "changes" (.d (lgS a b f L)) st = .ok () st ∧ chkO a.c_ChangeLog "floor" (.d (lgS a b f L)) st = .ok () st ∧ chkO a.c_ChangeLog "bound" (.d (lgS a b f L)) st = .ok () st ∧ chkO a.c_ChangeLog "last" (.d (lgS a b f L)) st = .ok () st ∧ chkO a.c_ChangeLog "since" (.d (lgS a b f L)) st = .ok () st ∧ chkO a.c_ChangeLog Str.empty (.d (lgS a b f L)) st = .ok () st :=
  ⟨obS a b f L st (by decide) (by decide) (by decide), obS a b f L st (by decide) (by decide) (by decide), obS a b f L st (by decide) (by decide) (by decide), obS a b f L st (by decide) (by decide) (by decide), obS a b f L st (by decide) (by decide) (by decide), obS a b f L st (by decide) (by decide) (by decide)⟩
theorem fl_lst (xs : List D) : flatD (.lst xs) = true := rfl
theorem nfalse {c1 c2 : M D} {st : DSt} {d e : D} (h1 : c1 st = .ok d st) (h2 : c2 st = .ok e st) (h : neD d e = some (.bl false)) : ifM (testM (opM neD c1 c2)) (retM (DL.ret (.bl false))) skipM st = .nx st := by simp [b_bd1,b_bd2,b_bd3,b_od1,b_od2,b_od3,b_th1,b_th2,b_th3,b_th4,b_th5,b_th6,b_fin1,b_fin2,b_fin3,b_runF,b_q1,b_q2,b_q3,b_n1,b_n2,b_qK,b_nK,b_ret,b_bnd,b_doM,b_lift,b_opM,b_unM,b_testM,b_tst,b_andM,b_and1,b_and2,b_orM,b_or1,b_or2,b_notM,b_iteM,b_ite1,b_ite2,b_andV,b_andV1,b_andV2,b_orV,b_orV1,b_orV2,b_notV,b_notK,b_shareM,b_shK,b_varM,b_peekM,b_args0,b_args1,b_lstM,b_tupM,b_chainM,b_ch1,b_ch2,b_part0,b_part1,b_prK,b_slM,b_seqM,b_ifM,b_if1,b_if2,b_skipM,b_dropM,b_retM,b_retF,b_retK,b_retN,b_bkM,b_ctM,b_retOw,b_asgM,b_asgK,b_out,b_nameT,b_tupT,b_tgs0,b_tgs1,b_asgF,b_asgFK,b_parM,b_parK,b_parX,b_parXK,b_setL0,b_setL1,b_setL2,b_mx0,b_mxS,b_mxF,b_mxK,b_forM,b_loop0,b_seqM',b_sq1,b_sq2,b_tupM',b_tp1,b_rng1M,b_rgK,b_enumM,b_zipM,b_zpK,b_zipSM,b_zsK,b_avs0,b_avs1,b_shA,b_lnA,b_callM,b_callF,b_callQ,b_callN,b_fm0,b_fm1,b_fm2,b_getA0,b_getA1,b_getA2,b_back0,b_back1,b_back2,b_setOw,b_flM,b_wrM,b_wrK,b_setIx,b_sxK,b_idxM,b_lenA,b_lnK,b_callPM,b_raiseF,b_rsK,b_init0,b_init1,b_init2,b_endF,b_outS0,b_outS1,b_outS2,b_rng3M,b_rgK3,b_setT,b_setTk,b_lstR1,b_lrK,b_dspM,b_dspI,b_dspS,b_enumFM,b_enK,b_lstR2,b_lr2K, h1, h2, h]
abbrev sS (d R : D) (f b now : Int) (o5 o6 : Option Slot) : DSt := [some (.sh d), some (.sh R), some (.sh (.int f)), some (.sh (.int b)), some (.sh (.int now)), o5, o6]
theorem shown_turn (a : Ad) (nd : (es a).Nodup) {b f : Int} {L : List RW} {now m : Int} (o5 : Option Slot) (h0 : 0 ≤ m) (hl : L.length ≤ 10000) :
    turnF (nameT 5) (bd1_f_law_shown a) (.int m) (sS (lgS a b f L) (.lst (L.map rD)) f b now o5 none) = .nx (sS (lgS a b f L) (.lst (L.map rD)) f b now (some (.sh (.int m))) none) := by
  obtain ⟨k1, k2, k3, k4, k5, k6⟩ := ob_shown a b f L (sS (lgS a b f L) (.lst (L.map rD)) f b now (some (.sh (.int m))) none)
  by_cases c : m < f
  · have e := since_fg a b f L m h0 c
    have e1 : methM callQ a.c_ChangeLog "since" [false, false] (m_fChangeLog_since a) [] (shA (varM 0)) (avsM [(shA (varM 5))]) (sS (lgS a b f L) (.lst (L.map rD)) f b now (some (.sh (.int m))) none) = .err (xF a (.int f)) (sS (lgS a b f L) (.lst (L.map rD)) f b now (some (.sh (.int m))) none) := by
      generalize lgS a b f L = D0 at *
      simp [b_bd1,b_bd2,b_bd3,b_od1,b_od2,b_od3,b_th1,b_th2,b_th3,b_th4,b_th5,b_th6,b_fin1,b_fin2,b_fin3,b_runF,b_q1,b_q2,b_q3,b_n1,b_n2,b_qK,b_nK,b_ret,b_bnd,b_doM,b_lift,b_opM,b_unM,b_testM,b_tst,b_andM,b_and1,b_and2,b_orM,b_or1,b_or2,b_notM,b_iteM,b_ite1,b_ite2,b_andV,b_andV1,b_andV2,b_orV,b_orV1,b_orV2,b_notV,b_notK,b_shareM,b_shK,b_varM,b_peekM,b_args0,b_args1,b_lstM,b_tupM,b_chainM,b_ch1,b_ch2,b_part0,b_part1,b_prK,b_slM,b_seqM,b_ifM,b_if1,b_if2,b_skipM,b_dropM,b_retM,b_retF,b_retK,b_retN,b_bkM,b_ctM,b_retOw,b_asgM,b_asgK,b_out,b_nameT,b_tupT,b_tgs0,b_tgs1,b_asgF,b_asgFK,b_parM,b_parK,b_parX,b_parXK,b_setL0,b_setL1,b_setL2,b_mx0,b_mxS,b_mxF,b_mxK,b_forM,b_loop0,b_seqM',b_sq1,b_sq2,b_tupM',b_tp1,b_rng1M,b_rgK,b_enumM,b_zipM,b_zpK,b_zipSM,b_zsK,b_avs0,b_avs1,b_shA,b_lnA,b_callM,b_callF,b_callQ,b_callN,b_fm0,b_fm1,b_fm2,b_getA0,b_getA1,b_getA2,b_back0,b_back1,b_back2,b_setOw,b_flM,b_wrM,b_wrK,b_setIx,b_sxK,b_idxM,b_lenA,b_lnK,b_callPM,b_raiseF,b_rsK,b_init0,b_init1,b_init2,b_endF,b_outS0,b_outS1,b_outS2,b_rng3M,b_rgK3,b_setT,b_setTk,b_lstR1,b_lrK,b_dspM,b_dspI,b_dspS,b_enumFM,b_enK,b_lstR2,b_lr2K, b_methM, k5, e]
    have r := ref_fg a nd (mb := mbL (mbs_f_law_shown a)) (id := 0) (v := .int f) (lam_err rfl e1) rfl
    generalize lgS a b f L = D0 at *
    simp only [sS] at r
    unfold bd1_f_law_shown
    simp only [b_bd1,b_bd2,b_bd3,b_od1,b_od2,b_od3,b_th1,b_th2,b_th3,b_th4,b_th5,b_th6,b_fin1,b_fin2,b_fin3,b_runF,b_q1,b_q2,b_q3,b_n1,b_n2,b_qK,b_nK,b_ret,b_bnd,b_doM,b_lift,b_opM,b_unM,b_testM,b_tst,b_andM,b_and1,b_and2,b_orM,b_or1,b_or2,b_notM,b_iteM,b_ite1,b_ite2,b_andV,b_andV1,b_andV2,b_orV,b_orV1,b_orV2,b_notV,b_notK,b_shareM,b_shK,b_varM,b_peekM,b_args0,b_args1,b_lstM,b_tupM,b_chainM,b_ch1,b_ch2,b_part0,b_part1,b_prK,b_slM,b_seqM,b_ifM,b_if1,b_if2,b_skipM,b_dropM,b_retM,b_retF,b_retK,b_retN,b_bkM,b_ctM,b_retOw,b_asgM,b_asgK,b_out,b_nameT,b_tupT,b_tgs0,b_tgs1,b_asgF,b_asgFK,b_parM,b_parK,b_parX,b_parXK,b_setL0,b_setL1,b_setL2,b_mx0,b_mxS,b_mxF,b_mxK,b_forM,b_loop0,b_seqM',b_sq1,b_sq2,b_tupM',b_tp1,b_rng1M,b_rgK,b_enumM,b_zipM,b_zpK,b_zipSM,b_zsK,b_avs0,b_avs1,b_shA,b_lnA,b_callM,b_callF,b_callQ,b_callN,b_fm0,b_fm1,b_fm2,b_getA0,b_getA1,b_getA2,b_back0,b_back1,b_back2,b_setOw,b_flM,b_wrM,b_wrK,b_setIx,b_sxK,b_idxM,b_lenA,b_lnK,b_callPM,b_raiseF,b_rsK,b_init0,b_init1,b_init2,b_endF,b_outS0,b_outS1,b_outS2,b_rng3M,b_rgK3,b_setT,b_setTk,b_lstR1,b_lrK,b_dspM,b_dspI,b_dspS,b_enumFM,b_enK,b_lstR2,b_lr2K, b_endK,b_turnK1,b_turnK2,b_turnS,b_turnC,b_turnB,b_turnF,b_wipe0,b_wipe1,-List.getD_eq_getElem?_getD, sS, List.set_cons_succ, List.set_cons_zero, List.getElem?_cons_succ, List.getElem?_cons_zero, ltD, ltvD, c, decide_true, Option.map_some, r, fl_lst, ne3i, if_true]
  · have e := since_ok a b f L m h0 (by omega) (by omega)
    have e1 : methM callQ a.c_ChangeLog "since" [false, false] (m_fChangeLog_since a) [] (shA (varM 0)) (avsM [(shA (varM 5))]) (sS (lgS a b f L) (.lst (L.map rD)) f b now (some (.sh (.int m))) none) = .ok (.lst ((L.filter fun r => decide (m < r.1)).map rD)) (sS (lgS a b f L) (.lst (L.map rD)) f b now (some (.sh (.int m))) none) := by
      generalize lgS a b f L = D0 at *
      simp [b_bd1,b_bd2,b_bd3,b_od1,b_od2,b_od3,b_th1,b_th2,b_th3,b_th4,b_th5,b_th6,b_fin1,b_fin2,b_fin3,b_runF,b_q1,b_q2,b_q3,b_n1,b_n2,b_qK,b_nK,b_ret,b_bnd,b_doM,b_lift,b_opM,b_unM,b_testM,b_tst,b_andM,b_and1,b_and2,b_orM,b_or1,b_or2,b_notM,b_iteM,b_ite1,b_ite2,b_andV,b_andV1,b_andV2,b_orV,b_orV1,b_orV2,b_notV,b_notK,b_shareM,b_shK,b_varM,b_peekM,b_args0,b_args1,b_lstM,b_tupM,b_chainM,b_ch1,b_ch2,b_part0,b_part1,b_prK,b_slM,b_seqM,b_ifM,b_if1,b_if2,b_skipM,b_dropM,b_retM,b_retF,b_retK,b_retN,b_bkM,b_ctM,b_retOw,b_asgM,b_asgK,b_out,b_nameT,b_tupT,b_tgs0,b_tgs1,b_asgF,b_asgFK,b_parM,b_parK,b_parX,b_parXK,b_setL0,b_setL1,b_setL2,b_mx0,b_mxS,b_mxF,b_mxK,b_forM,b_loop0,b_seqM',b_sq1,b_sq2,b_tupM',b_tp1,b_rng1M,b_rgK,b_enumM,b_zipM,b_zpK,b_zipSM,b_zsK,b_avs0,b_avs1,b_shA,b_lnA,b_callM,b_callF,b_callQ,b_callN,b_fm0,b_fm1,b_fm2,b_getA0,b_getA1,b_getA2,b_back0,b_back1,b_back2,b_setOw,b_flM,b_wrM,b_wrK,b_setIx,b_sxK,b_idxM,b_lenA,b_lnK,b_callPM,b_raiseF,b_rsK,b_init0,b_init1,b_init2,b_endF,b_outS0,b_outS1,b_outS2,b_rng3M,b_rgK3,b_setT,b_setTk,b_lstR1,b_lrK,b_dspM,b_dspI,b_dspS,b_enumFM,b_enK,b_lstR2,b_lr2K, b_methM, k5, e, flatD]
    have cs := comp_sel (vs := [6]) (mi := seqM' (varM 1)) (t := nameT 6) (mt := testM (opM gtD (opM ixD (peekM 6) (DL.ret (.int 0))) (peekM 5))) (me := bd0_f_law_shown a) (st := sS (lgS a b f L) (.lst (L.map rD)) f b now (some (.sh (.int m))) none) (g := rD) (p := fun r => decide (m < r.1)) (f := rD) (xs := L) (by simp [b_bd1,b_bd2,b_bd3,b_od1,b_od2,b_od3,b_th1,b_th2,b_th3,b_th4,b_th5,b_th6,b_fin1,b_fin2,b_fin3,b_runF,b_q1,b_q2,b_q3,b_n1,b_n2,b_qK,b_nK,b_ret,b_bnd,b_doM,b_lift,b_opM,b_unM,b_testM,b_tst,b_andM,b_and1,b_and2,b_orM,b_or1,b_or2,b_notM,b_iteM,b_ite1,b_ite2,b_andV,b_andV1,b_andV2,b_orV,b_orV1,b_orV2,b_notV,b_notK,b_shareM,b_shK,b_varM,b_peekM,b_args0,b_args1,b_lstM,b_tupM,b_chainM,b_ch1,b_ch2,b_part0,b_part1,b_prK,b_slM,b_seqM,b_ifM,b_if1,b_if2,b_skipM,b_dropM,b_retM,b_retF,b_retK,b_retN,b_bkM,b_ctM,b_retOw,b_asgM,b_asgK,b_out,b_nameT,b_tupT,b_tgs0,b_tgs1,b_asgF,b_asgFK,b_parM,b_parK,b_parX,b_parXK,b_setL0,b_setL1,b_setL2,b_mx0,b_mxS,b_mxF,b_mxK,b_forM,b_loop0,b_seqM',b_sq1,b_sq2,b_tupM',b_tp1,b_rng1M,b_rgK,b_enumM,b_zipM,b_zpK,b_zipSM,b_zsK,b_avs0,b_avs1,b_shA,b_lnA,b_callM,b_callF,b_callQ,b_callN,b_fm0,b_fm1,b_fm2,b_getA0,b_getA1,b_getA2,b_back0,b_back1,b_back2,b_setOw,b_flM,b_wrM,b_wrK,b_setIx,b_sxK,b_idxM,b_lenA,b_lnK,b_callPM,b_raiseF,b_rsK,b_init0,b_init1,b_init2,b_endF,b_outS0,b_outS1,b_outS2,b_rng3M,b_rgK3,b_setT,b_setTk,b_lstR1,b_lrK,b_dspM,b_dspI,b_dspS,b_enumFM,b_enK,b_lstR2,b_lr2K, sS]) rfl (fun r _ => by
      have hr : ixD (rD r) (.int 0) = some (.int r.1) := rfl
      unfold bd0_f_law_shown
      by_cases c : m < r.1
      · simp [b_bd1,b_bd2,b_bd3,b_od1,b_od2,b_od3,b_th1,b_th2,b_th3,b_th4,b_th5,b_th6,b_fin1,b_fin2,b_fin3,b_runF,b_q1,b_q2,b_q3,b_n1,b_n2,b_qK,b_nK,b_ret,b_bnd,b_doM,b_lift,b_opM,b_unM,b_testM,b_tst,b_andM,b_and1,b_and2,b_orM,b_or1,b_or2,b_notM,b_iteM,b_ite1,b_ite2,b_andV,b_andV1,b_andV2,b_orV,b_orV1,b_orV2,b_notV,b_notK,b_shareM,b_shK,b_varM,b_peekM,b_args0,b_args1,b_lstM,b_tupM,b_chainM,b_ch1,b_ch2,b_part0,b_part1,b_prK,b_slM,b_seqM,b_ifM,b_if1,b_if2,b_skipM,b_dropM,b_retM,b_retF,b_retK,b_retN,b_bkM,b_ctM,b_retOw,b_asgM,b_asgK,b_out,b_nameT,b_tupT,b_tgs0,b_tgs1,b_asgF,b_asgFK,b_parM,b_parK,b_parX,b_parXK,b_setL0,b_setL1,b_setL2,b_mx0,b_mxS,b_mxF,b_mxK,b_forM,b_loop0,b_seqM',b_sq1,b_sq2,b_tupM',b_tp1,b_rng1M,b_rgK,b_enumM,b_zipM,b_zpK,b_zipSM,b_zsK,b_avs0,b_avs1,b_shA,b_lnA,b_callM,b_callF,b_callQ,b_callN,b_fm0,b_fm1,b_fm2,b_getA0,b_getA1,b_getA2,b_back0,b_back1,b_back2,b_setOw,b_flM,b_wrM,b_wrK,b_setIx,b_sxK,b_idxM,b_lenA,b_lnK,b_callPM,b_raiseF,b_rsK,b_init0,b_init1,b_init2,b_endF,b_outS0,b_outS1,b_outS2,b_rng3M,b_rgK3,b_setT,b_setTk,b_lstR1,b_lrK,b_dspM,b_dspI,b_dspS,b_enumFM,b_enK,b_lstR2,b_lr2K, b_endK,b_turnK1,b_turnK2,b_turnS,b_turnC,b_turnB,b_turnF,b_wipe0,b_wipe1,-List.getD_eq_getElem?_getD, sS, hr, gtD, gtvD, c]
      · simp [b_bd1,b_bd2,b_bd3,b_od1,b_od2,b_od3,b_th1,b_th2,b_th3,b_th4,b_th5,b_th6,b_fin1,b_fin2,b_fin3,b_runF,b_q1,b_q2,b_q3,b_n1,b_n2,b_qK,b_nK,b_ret,b_bnd,b_doM,b_lift,b_opM,b_unM,b_testM,b_tst,b_andM,b_and1,b_and2,b_orM,b_or1,b_or2,b_notM,b_iteM,b_ite1,b_ite2,b_andV,b_andV1,b_andV2,b_orV,b_orV1,b_orV2,b_notV,b_notK,b_shareM,b_shK,b_varM,b_peekM,b_args0,b_args1,b_lstM,b_tupM,b_chainM,b_ch1,b_ch2,b_part0,b_part1,b_prK,b_slM,b_seqM,b_ifM,b_if1,b_if2,b_skipM,b_dropM,b_retM,b_retF,b_retK,b_retN,b_bkM,b_ctM,b_retOw,b_asgM,b_asgK,b_out,b_nameT,b_tupT,b_tgs0,b_tgs1,b_asgF,b_asgFK,b_parM,b_parK,b_parX,b_parXK,b_setL0,b_setL1,b_setL2,b_mx0,b_mxS,b_mxF,b_mxK,b_forM,b_loop0,b_seqM',b_sq1,b_sq2,b_tupM',b_tp1,b_rng1M,b_rgK,b_enumM,b_zipM,b_zpK,b_zipSM,b_zsK,b_avs0,b_avs1,b_shA,b_lnA,b_callM,b_callF,b_callQ,b_callN,b_fm0,b_fm1,b_fm2,b_getA0,b_getA1,b_getA2,b_back0,b_back1,b_back2,b_setOw,b_flM,b_wrM,b_wrK,b_setIx,b_sxK,b_idxM,b_lenA,b_lnK,b_callPM,b_raiseF,b_rsK,b_init0,b_init1,b_init2,b_endF,b_outS0,b_outS1,b_outS2,b_rng3M,b_rgK3,b_setT,b_setTk,b_lstR1,b_lrK,b_dspM,b_dspI,b_dspS,b_enumFM,b_enK,b_lstR2,b_lr2K, b_endK,b_turnK1,b_turnK2,b_turnS,b_turnC,b_turnB,b_turnF,b_wipe0,b_wipe1,-List.getD_eq_getElem?_getD, sS, hr, gtD, gtvD, c]) (by omega)
    generalize L.filter (fun r => decide (m < r.1)) = L2 at *
    generalize lgS a b f L = D0 at *
    have n2 := ne_rows L2
    generalize D.lst (L.map rD) = R0 at *
    generalize L2.map rD = R2 at *
    unfold bd1_f_law_shown
    simp only [b_bd1,b_bd2,b_bd3,b_od1,b_od2,b_od3,b_th1,b_th2,b_th3,b_th4,b_th5,b_th6,b_fin1,b_fin2,b_fin3,b_runF,b_q1,b_q2,b_q3,b_n1,b_n2,b_qK,b_nK,b_ret,b_bnd,b_doM,b_lift,b_opM,b_unM,b_testM,b_tst,b_andM,b_and1,b_and2,b_orM,b_or1,b_or2,b_notM,b_iteM,b_ite1,b_ite2,b_andV,b_andV1,b_andV2,b_orV,b_orV1,b_orV2,b_notV,b_notK,b_shareM,b_shK,b_varM,b_peekM,b_args0,b_args1,b_lstM,b_tupM,b_chainM,b_ch1,b_ch2,b_part0,b_part1,b_prK,b_slM,b_seqM,b_ifM,b_if1,b_if2,b_skipM,b_dropM,b_retM,b_retF,b_retK,b_retN,b_bkM,b_ctM,b_retOw,b_asgM,b_asgK,b_out,b_nameT,b_tupT,b_tgs0,b_tgs1,b_asgF,b_asgFK,b_parM,b_parK,b_parX,b_parXK,b_setL0,b_setL1,b_setL2,b_mx0,b_mxS,b_mxF,b_mxK,b_forM,b_loop0,b_seqM',b_sq1,b_sq2,b_tupM',b_tp1,b_rng1M,b_rgK,b_enumM,b_zipM,b_zpK,b_zipSM,b_zsK,b_avs0,b_avs1,b_shA,b_lnA,b_callM,b_callF,b_callQ,b_callN,b_fm0,b_fm1,b_fm2,b_getA0,b_getA1,b_getA2,b_back0,b_back1,b_back2,b_setOw,b_flM,b_wrM,b_wrK,b_setIx,b_sxK,b_idxM,b_lenA,b_lnK,b_callPM,b_raiseF,b_rsK,b_init0,b_init1,b_init2,b_endF,b_outS0,b_outS1,b_outS2,b_rng3M,b_rgK3,b_setT,b_setTk,b_lstR1,b_lrK,b_dspM,b_dspI,b_dspS,b_enumFM,b_enK,b_lstR2,b_lr2K, b_endK,b_turnK1,b_turnK2,b_turnS,b_turnC,b_turnB,b_turnF,b_wipe0,b_wipe1,-List.getD_eq_getElem?_getD, sS, List.set_cons_succ, List.set_cons_zero, List.getElem?_cons_succ, List.getElem?_cons_zero, ltD, ltvD, c, decide_false, Option.map_some]
    simp [b_bd1,b_bd2,b_bd3,b_od1,b_od2,b_od3,b_th1,b_th2,b_th3,b_th4,b_th5,b_th6,b_fin1,b_fin2,b_fin3,b_runF,b_q1,b_q2,b_q3,b_n1,b_n2,b_qK,b_nK,b_ret,b_bnd,b_doM,b_lift,b_opM,b_unM,b_testM,b_tst,b_andM,b_and1,b_and2,b_orM,b_or1,b_or2,b_notM,b_iteM,b_ite1,b_ite2,b_andV,b_andV1,b_andV2,b_orV,b_orV1,b_orV2,b_notV,b_notK,b_shareM,b_shK,b_varM,b_peekM,b_args0,b_args1,b_lstM,b_tupM,b_chainM,b_ch1,b_ch2,b_part0,b_part1,b_prK,b_slM,b_seqM,b_ifM,b_if1,b_if2,b_skipM,b_dropM,b_retM,b_retF,b_retK,b_retN,b_bkM,b_ctM,b_retOw,b_asgM,b_asgK,b_out,b_nameT,b_tupT,b_tgs0,b_tgs1,b_asgF,b_asgFK,b_parM,b_parK,b_parX,b_parXK,b_setL0,b_setL1,b_setL2,b_mx0,b_mxS,b_mxF,b_mxK,b_forM,b_loop0,b_seqM',b_sq1,b_sq2,b_tupM',b_tp1,b_rng1M,b_rgK,b_enumM,b_zipM,b_zpK,b_zipSM,b_zsK,b_avs0,b_avs1,b_shA,b_lnA,b_callM,b_callF,b_callQ,b_callN,b_fm0,b_fm1,b_fm2,b_getA0,b_getA1,b_getA2,b_back0,b_back1,b_back2,b_setOw,b_flM,b_wrM,b_wrK,b_setIx,b_sxK,b_idxM,b_lenA,b_lnK,b_callPM,b_raiseF,b_rsK,b_init0,b_init1,b_init2,b_endF,b_outS0,b_outS1,b_outS2,b_rng3M,b_rgK3,b_setT,b_setTk,b_lstR1,b_lrK,b_dspM,b_dspI,b_dspS,b_enumFM,b_enK,b_lstR2,b_lr2K, e1, cs, flatD, n2]
theorem shown_eq (a : Ad) (nd : (es a).Nodup) {b f : Int} {L : List RW} {now : Int} (h0 : 0 ≤ now) (h1 : now ≤ 1000) (hl : L.length ≤ 1000) : m_f_law_shown a [lgS a b f L, .lst (L.map rD), .int f, .int b, .int now] = .ok false (.bl true) [.non, .non, .non, .non, .non] := by
  obtain ⟨s, lp, o5, rfl⟩ := loop_P (t := nameT 5) (b := bd1_f_law_shown a) (I := fun st => ∃ o5, st = sS (lgS a b f L) (.lst (L.map rD)) f b now o5 none) (ds := rangeD 0 (now + 2).toNat) (st := sS (lgS a b f L) (.lst (L.map rD)) f b now none none) (fun d hd st hst => by
    obtain ⟨o5, rfl⟩ := hst
    unfold rangeD at hd
    obtain ⟨i, _, rfl⟩ := List.mem_map.mp hd
    exact ⟨_, shown_turn a nd o5 (by omega) (by omega), _, rfl⟩) ⟨none, rfl⟩
  obtain ⟨k1, k2, k3, k4, k5, k6⟩ := ob_shown a b f L (sS (lgS a b f L) (.lst (L.map rD)) f b now none none)
  have c1 := changes_eq a b f L
  have c2 := floor_eq a b f L
  have c3 := bound_eq a b f L
  have c4 := len_eq a b f L (by omega)
  have c5 := last_eq a b f L
  have nr := ne_rows L
  have n0 := neNil L
  have ll : lenD (.lst (L.map rD)) = some (.int L.length) := by
    have : L.length ≤ 16777216 := by omega
    simp [lenD, this]
  have li : ∀ s, iteM (testM (opM neD (varM 1) (shareM (lstM [])))) (opM ixD (opM ixD (peekM 1) (unM negI (DL.ret (.int 1)))) (DL.ret (.int 0))) (varM 2) (sS (lgS a b f L) (.lst (L.map rD)) f b now none s) = .ok (.int (lastV f L)) (sS (lgS a b f L) (.lst (L.map rD)) f b now none s) := fun s => by
    cases h : L.getLast? with
    | none =>
      have : L = [] := by simpa using h
      subst this
      simp only [List.map_nil] at n0
      generalize lgS a b f [] = D0 at *
      simp [b_bd1,b_bd2,b_bd3,b_od1,b_od2,b_od3,b_th1,b_th2,b_th3,b_th4,b_th5,b_th6,b_fin1,b_fin2,b_fin3,b_runF,b_q1,b_q2,b_q3,b_n1,b_n2,b_qK,b_nK,b_ret,b_bnd,b_doM,b_lift,b_opM,b_unM,b_testM,b_tst,b_andM,b_and1,b_and2,b_orM,b_or1,b_or2,b_notM,b_iteM,b_ite1,b_ite2,b_andV,b_andV1,b_andV2,b_orV,b_orV1,b_orV2,b_notV,b_notK,b_shareM,b_shK,b_varM,b_peekM,b_args0,b_args1,b_lstM,b_tupM,b_chainM,b_ch1,b_ch2,b_part0,b_part1,b_prK,b_slM,b_seqM,b_ifM,b_if1,b_if2,b_skipM,b_dropM,b_retM,b_retF,b_retK,b_retN,b_bkM,b_ctM,b_retOw,b_asgM,b_asgK,b_out,b_nameT,b_tupT,b_tgs0,b_tgs1,b_asgF,b_asgFK,b_parM,b_parK,b_parX,b_parXK,b_setL0,b_setL1,b_setL2,b_mx0,b_mxS,b_mxF,b_mxK,b_forM,b_loop0,b_seqM',b_sq1,b_sq2,b_tupM',b_tp1,b_rng1M,b_rgK,b_enumM,b_zipM,b_zpK,b_zipSM,b_zsK,b_avs0,b_avs1,b_shA,b_lnA,b_callM,b_callF,b_callQ,b_callN,b_fm0,b_fm1,b_fm2,b_getA0,b_getA1,b_getA2,b_back0,b_back1,b_back2,b_setOw,b_flM,b_wrM,b_wrK,b_setIx,b_sxK,b_idxM,b_lenA,b_lnK,b_callPM,b_raiseF,b_rsK,b_init0,b_init1,b_init2,b_endF,b_outS0,b_outS1,b_outS2,b_rng3M,b_rgK3,b_setT,b_setTk,b_lstR1,b_lrK,b_dspM,b_dspI,b_dspS,b_enumFM,b_enK,b_lstR2,b_lr2K, sS, flatD, n0, lastV]
    | some r =>
      have hn : L.isEmpty = false := by cases L with | nil => cases h | cons _ _ => rfl
      have hx : ixD (.lst (L.map rD)) (.int (-1)) = some (rD r) := ix_last (by rw [List.getLast?_map, h]; rfl)
      have hr : ixD (rD r) (.int 0) = some (.int r.1) := rfl
      generalize lgS a b f L = D0 at *
      simp [b_bd1,b_bd2,b_bd3,b_od1,b_od2,b_od3,b_th1,b_th2,b_th3,b_th4,b_th5,b_th6,b_fin1,b_fin2,b_fin3,b_runF,b_q1,b_q2,b_q3,b_n1,b_n2,b_qK,b_nK,b_ret,b_bnd,b_doM,b_lift,b_opM,b_unM,b_testM,b_tst,b_andM,b_and1,b_and2,b_orM,b_or1,b_or2,b_notM,b_iteM,b_ite1,b_ite2,b_andV,b_andV1,b_andV2,b_orV,b_orV1,b_orV2,b_notV,b_notK,b_shareM,b_shK,b_varM,b_peekM,b_args0,b_args1,b_lstM,b_tupM,b_chainM,b_ch1,b_ch2,b_part0,b_part1,b_prK,b_slM,b_seqM,b_ifM,b_if1,b_if2,b_skipM,b_dropM,b_retM,b_retF,b_retK,b_retN,b_bkM,b_ctM,b_retOw,b_asgM,b_asgK,b_out,b_nameT,b_tupT,b_tgs0,b_tgs1,b_asgF,b_asgFK,b_parM,b_parK,b_parX,b_parXK,b_setL0,b_setL1,b_setL2,b_mx0,b_mxS,b_mxF,b_mxK,b_forM,b_loop0,b_seqM',b_sq1,b_sq2,b_tupM',b_tp1,b_rng1M,b_rgK,b_enumM,b_zipM,b_zpK,b_zipSM,b_zsK,b_avs0,b_avs1,b_shA,b_lnA,b_callM,b_callF,b_callQ,b_callN,b_fm0,b_fm1,b_fm2,b_getA0,b_getA1,b_getA2,b_back0,b_back1,b_back2,b_setOw,b_flM,b_wrM,b_wrK,b_setIx,b_sxK,b_idxM,b_lenA,b_lnK,b_callPM,b_raiseF,b_rsK,b_init0,b_init1,b_init2,b_endF,b_outS0,b_outS1,b_outS2,b_rng3M,b_rgK3,b_setT,b_setTk,b_lstR1,b_lrK,b_dspM,b_dspI,b_dspS,b_enumFM,b_enK,b_lstR2,b_lr2K, sS, flatD, n0, hn, lastV, h, negI, hx, hr]
  have lc : (0 : Int) ≤ (L.length : Int) ∧ (L.length : Int) < 9223372036854775808 := by omega
  have rg : -4611686018427387904 ≤ now + 2 ∧ now + 2 < 4611686018427387904 := by omega
  have ls : ∀ l : Int, clrD (.lst (L.map rD)) [] = some (.non, .lst []) := fun _ => rfl
  have is : isLst (.lst (L.map rD)) = true := rfl
  have fl : flatD (.lst (L.map rD)) = true := rfl
  have n3 := ne_ints3 f b L.length
  have nl := ne_int (lastV f L)
  have noc : noClo (lgS a b f L) = true := by simp [lgS, noClo, noCloA, noCloF, noclo_rs]
  have noR : noClo (.lst (L.map rD)) = true := by simp [noClo, noclo_rs]
  refine runC_ok ?_ (by simp [noCloA, noc, noclo_rs, noClo]) (by simp [noClo]) (by simp [noCloA, noClo])
  have li' := li none
  generalize lastV f L = l at *
  generalize (L.length : Int) = n at *
  generalize lgS a b f L = D0 at *
  generalize eR : D.lst (L.map rD) = R0 at *
  rw [b_runF]
  show (seqM _ _ (sS D0 R0 f b now none none)).fin _ = _
  refine fs (s := sS D0 R0 f b now none none) (by simp [b_bd1,b_bd2,b_bd3,b_od1,b_od2,b_od3,b_th1,b_th2,b_th3,b_th4,b_th5,b_th6,b_fin1,b_fin2,b_fin3,b_runF,b_q1,b_q2,b_q3,b_n1,b_n2,b_qK,b_nK,b_ret,b_bnd,b_doM,b_lift,b_opM,b_unM,b_testM,b_tst,b_andM,b_and1,b_and2,b_orM,b_or1,b_or2,b_notM,b_iteM,b_ite1,b_ite2,b_andV,b_andV1,b_andV2,b_orV,b_orV1,b_orV2,b_notV,b_notK,b_shareM,b_shK,b_varM,b_peekM,b_args0,b_args1,b_lstM,b_tupM,b_chainM,b_ch1,b_ch2,b_part0,b_part1,b_prK,b_slM,b_seqM,b_ifM,b_if1,b_if2,b_skipM,b_dropM,b_retM,b_retF,b_retK,b_retN,b_bkM,b_ctM,b_retOw,b_asgM,b_asgK,b_out,b_nameT,b_tupT,b_tgs0,b_tgs1,b_asgF,b_asgFK,b_parM,b_parK,b_parX,b_parXK,b_setL0,b_setL1,b_setL2,b_mx0,b_mxS,b_mxF,b_mxK,b_forM,b_loop0,b_seqM',b_sq1,b_sq2,b_tupM',b_tp1,b_rng1M,b_rgK,b_enumM,b_zipM,b_zpK,b_zipSM,b_zsK,b_avs0,b_avs1,b_shA,b_lnA,b_callM,b_callF,b_callQ,b_callN,b_fm0,b_fm1,b_fm2,b_getA0,b_getA1,b_getA2,b_back0,b_back1,b_back2,b_setOw,b_flM,b_wrM,b_wrK,b_setIx,b_sxK,b_idxM,b_lenA,b_lnK,b_callPM,b_raiseF,b_rsK,b_init0,b_init1,b_init2,b_endF,b_outS0,b_outS1,b_outS2,b_rng3M,b_rgK3,b_setT,b_setTk,b_lstR1,b_lrK,b_dspM,b_dspI,b_dspS,b_enumFM,b_enK,b_lstR2,b_lr2K, b_methM, b_propM, b_lenO, b_lnOK, b_noErr, k1, k2, k3, k6, c1, c2, c3, c4, fl, fl_lst, nr, ll, lc, n3]) ?_
  refine fs (s := sS D0 R0 f b now none none) (nfalse (d := .int l) (e := .int l) (by simp [b_bd1,b_bd2,b_bd3,b_od1,b_od2,b_od3,b_th1,b_th2,b_th3,b_th4,b_th5,b_th6,b_fin1,b_fin2,b_fin3,b_runF,b_q1,b_q2,b_q3,b_n1,b_n2,b_qK,b_nK,b_ret,b_bnd,b_doM,b_lift,b_opM,b_unM,b_testM,b_tst,b_andM,b_and1,b_and2,b_orM,b_or1,b_or2,b_notM,b_iteM,b_ite1,b_ite2,b_andV,b_andV1,b_andV2,b_orV,b_orV1,b_orV2,b_notV,b_notK,b_shareM,b_shK,b_varM,b_peekM,b_args0,b_args1,b_lstM,b_tupM,b_chainM,b_ch1,b_ch2,b_part0,b_part1,b_prK,b_slM,b_seqM,b_ifM,b_if1,b_if2,b_skipM,b_dropM,b_retM,b_retF,b_retK,b_retN,b_bkM,b_ctM,b_retOw,b_asgM,b_asgK,b_out,b_nameT,b_tupT,b_tgs0,b_tgs1,b_asgF,b_asgFK,b_parM,b_parK,b_parX,b_parXK,b_setL0,b_setL1,b_setL2,b_mx0,b_mxS,b_mxF,b_mxK,b_forM,b_loop0,b_seqM',b_sq1,b_sq2,b_tupM',b_tp1,b_rng1M,b_rgK,b_enumM,b_zipM,b_zpK,b_zipSM,b_zsK,b_avs0,b_avs1,b_shA,b_lnA,b_callM,b_callF,b_callQ,b_callN,b_fm0,b_fm1,b_fm2,b_getA0,b_getA1,b_getA2,b_back0,b_back1,b_back2,b_setOw,b_flM,b_wrM,b_wrK,b_setIx,b_sxK,b_idxM,b_lenA,b_lnK,b_callPM,b_raiseF,b_rsK,b_init0,b_init1,b_init2,b_endF,b_outS0,b_outS1,b_outS2,b_rng3M,b_rgK3,b_setT,b_setTk,b_lstR1,b_lrK,b_dspM,b_dspI,b_dspS,b_enumFM,b_enK,b_lstR2,b_lr2K, b_methM, k4, c5]) li' nl) ?_
  refine fs (s := sS D0 R0 f b now none none) (by simp [b_bd1,b_bd2,b_bd3,b_od1,b_od2,b_od3,b_th1,b_th2,b_th3,b_th4,b_th5,b_th6,b_fin1,b_fin2,b_fin3,b_runF,b_q1,b_q2,b_q3,b_n1,b_n2,b_qK,b_nK,b_ret,b_bnd,b_doM,b_lift,b_opM,b_unM,b_testM,b_tst,b_andM,b_and1,b_and2,b_orM,b_or1,b_or2,b_notM,b_iteM,b_ite1,b_ite2,b_andV,b_andV1,b_andV2,b_orV,b_orV1,b_orV2,b_notV,b_notK,b_shareM,b_shK,b_varM,b_peekM,b_args0,b_args1,b_lstM,b_tupM,b_chainM,b_ch1,b_ch2,b_part0,b_part1,b_prK,b_slM,b_seqM,b_ifM,b_if1,b_if2,b_skipM,b_dropM,b_retM,b_retF,b_retK,b_retN,b_bkM,b_ctM,b_retOw,b_asgM,b_asgK,b_out,b_nameT,b_tupT,b_tgs0,b_tgs1,b_asgF,b_asgFK,b_parM,b_parK,b_parX,b_parXK,b_setL0,b_setL1,b_setL2,b_mx0,b_mxS,b_mxF,b_mxK,b_forM,b_loop0,b_seqM',b_sq1,b_sq2,b_tupM',b_tp1,b_rng1M,b_rgK,b_enumM,b_zipM,b_zpK,b_zipSM,b_zsK,b_avs0,b_avs1,b_shA,b_lnA,b_callM,b_callF,b_callQ,b_callN,b_fm0,b_fm1,b_fm2,b_getA0,b_getA1,b_getA2,b_back0,b_back1,b_back2,b_setOw,b_flM,b_wrM,b_wrK,b_setIx,b_sxK,b_idxM,b_lenA,b_lnK,b_callPM,b_raiseF,b_rsK,b_init0,b_init1,b_init2,b_endF,b_outS0,b_outS1,b_outS2,b_rng3M,b_rgK3,b_setT,b_setTk,b_lstR1,b_lrK,b_dspM,b_dspI,b_dspS,b_enumFM,b_enK,b_lstR2,b_lr2K, b_methM, b_wrF, b_wrFK, k1, c1, is, ls l]) ?_
  refine fs (s := sS D0 R0 f b now o5 none) (by simp [b_bd1,b_bd2,b_bd3,b_od1,b_od2,b_od3,b_th1,b_th2,b_th3,b_th4,b_th5,b_th6,b_fin1,b_fin2,b_fin3,b_runF,b_q1,b_q2,b_q3,b_n1,b_n2,b_qK,b_nK,b_ret,b_bnd,b_doM,b_lift,b_opM,b_unM,b_testM,b_tst,b_andM,b_and1,b_and2,b_orM,b_or1,b_or2,b_notM,b_iteM,b_ite1,b_ite2,b_andV,b_andV1,b_andV2,b_orV,b_orV1,b_orV2,b_notV,b_notK,b_shareM,b_shK,b_varM,b_peekM,b_args0,b_args1,b_lstM,b_tupM,b_chainM,b_ch1,b_ch2,b_part0,b_part1,b_prK,b_slM,b_seqM,b_ifM,b_if1,b_if2,b_skipM,b_dropM,b_retM,b_retF,b_retK,b_retN,b_bkM,b_ctM,b_retOw,b_asgM,b_asgK,b_out,b_nameT,b_tupT,b_tgs0,b_tgs1,b_asgF,b_asgFK,b_parM,b_parK,b_parX,b_parXK,b_setL0,b_setL1,b_setL2,b_mx0,b_mxS,b_mxF,b_mxK,b_forM,b_loop0,b_seqM',b_sq1,b_sq2,b_tupM',b_tp1,b_rng1M,b_rgK,b_enumM,b_zipM,b_zpK,b_zipSM,b_zsK,b_avs0,b_avs1,b_shA,b_lnA,b_callM,b_callF,b_callQ,b_callN,b_fm0,b_fm1,b_fm2,b_getA0,b_getA1,b_getA2,b_back0,b_back1,b_back2,b_setOw,b_flM,b_wrM,b_wrK,b_setIx,b_sxK,b_idxM,b_lenA,b_lnK,b_callPM,b_raiseF,b_rsK,b_init0,b_init1,b_init2,b_endF,b_outS0,b_outS1,b_outS2,b_rng3M,b_rgK3,b_setT,b_setTk,b_lstR1,b_lrK,b_dspM,b_dspI,b_dspS,b_enumFM,b_enK,b_lstR2,b_lr2K, addD, rg, lp]) ?_
  simp [b_bd1,b_bd2,b_bd3,b_od1,b_od2,b_od3,b_th1,b_th2,b_th3,b_th4,b_th5,b_th6,b_fin1,b_fin2,b_fin3,b_runF,b_q1,b_q2,b_q3,b_n1,b_n2,b_qK,b_nK,b_ret,b_bnd,b_doM,b_lift,b_opM,b_unM,b_testM,b_tst,b_andM,b_and1,b_and2,b_orM,b_or1,b_or2,b_notM,b_iteM,b_ite1,b_ite2,b_andV,b_andV1,b_andV2,b_orV,b_orV1,b_orV2,b_notV,b_notK,b_shareM,b_shK,b_varM,b_peekM,b_args0,b_args1,b_lstM,b_tupM,b_chainM,b_ch1,b_ch2,b_part0,b_part1,b_prK,b_slM,b_seqM,b_ifM,b_if1,b_if2,b_skipM,b_dropM,b_retM,b_retF,b_retK,b_retN,b_bkM,b_ctM,b_retOw,b_asgM,b_asgK,b_out,b_nameT,b_tupT,b_tgs0,b_tgs1,b_asgF,b_asgFK,b_parM,b_parK,b_parX,b_parXK,b_setL0,b_setL1,b_setL2,b_mx0,b_mxS,b_mxF,b_mxK,b_forM,b_loop0,b_seqM',b_sq1,b_sq2,b_tupM',b_tp1,b_rng1M,b_rgK,b_enumM,b_zipM,b_zpK,b_zipSM,b_zsK,b_avs0,b_avs1,b_shA,b_lnA,b_callM,b_callF,b_callQ,b_callN,b_fm0,b_fm1,b_fm2,b_getA0,b_getA1,b_getA2,b_back0,b_back1,b_back2,b_setOw,b_flM,b_wrM,b_wrK,b_setIx,b_sxK,b_idxM,b_lenA,b_lnK,b_callPM,b_raiseF,b_rsK,b_init0,b_init1,b_init2,b_endF,b_outS0,b_outS1,b_outS2,b_rng3M,b_rgK3,b_setT,b_setTk,b_lstR1,b_lrK,b_dspM,b_dspI,b_dspS,b_enumFM,b_enK,b_lstR2,b_lr2K]
end K12
namespace K12
open PySem L2 DL
local instance : TB := ⟨[]⟩
local instance : LC := ⟨fun _ => none⟩
/-! ### what a change makes of a log -/
theorem push_len {b : Int} {L : List RW} {r : RW} (h : (L.length : Int) ≤ b) : ((pushL b L r).length : Int) ≤ b := by
  unfold pushL
  split
  · rw [List.length_tail, List.length_append, List.length_singleton]; omega
  · rw [List.length_append, List.length_singleton]; omega
theorem push_lastO {b : Int} {L : List RW} {r : RW} (h0 : 0 < b) (h : (L.length : Int) ≤ b) : (pushL b L r).getLast? = some r := by
  unfold pushL
  split
  · cases L with
    | nil => simp at *; omega
    | cons x T => simp
  · simp
theorem push_last {b f : Int} {L : List RW} {r : RW} (h0 : 0 ≤ b) (h : (L.length : Int) ≤ b) : lastV (pushF b f L r) (pushL b L r) = r.1 := by
  by_cases c : 0 < b
  · unfold lastV
    rw [push_lastO c h]
  · have : L = [] := by
      cases L with
      | nil => rfl
      | cons x T => rw [List.length_cons] at h; omega
    subst this
    have e : b < 1 := by omega
    simp [lastV, pushF, pushL, e]
theorem eqv_fst1 {r s : RW} (h : PyData.eqv (rP r) (rP s) = true) : r.1 = s.1 := by
  simp only [rP, PyData.eqv, PyData.eqvAll, Bool.and_eq_true] at h
  simpa using h.1
theorem eqv_fst : ∀ {A B : List RW}, PyData.eqvAll (A.map rP) (B.map rP) = true → A.map (·.1) = B.map (·.1)
  | [], [], _ => rfl
  | [], _ :: _, h => by simp [PyData.eqvAll] at h
  | _ :: _, [], h => by simp [PyData.eqvAll] at h
  | a :: A, b :: B, h => by
    simp only [List.map_cons, PyData.eqvAll, Bool.and_eq_true] at h
    rw [List.map_cons, List.map_cons, eqv_fst1 h.1, eqv_fst h.2]
theorem eqv_same (b f : Int) (L : List RW) : PyData.eqv (lgP b f L) (lgP b f L) = true := by
  simp [lgP, PyData.eqv, PyData.eqvAll, eqv_rs]
theorem eqv_bound {b b' f f' : Int} {L L' : List RW} (h : b ≠ b') : PyData.eqv (lgP b f L) (lgP b' f' L') = false := by
  simp [lgP, PyData.eqv, PyData.eqvAll, h]
theorem eqv_push {b f f' now : Int} {L : List RW} {r : RW} (h0 : 0 < b) (h : (L.length : Int) ≤ b) (hn : lastV f L = now) (hr : now < r.1) : PyData.eqv (lgP b f' (pushL b L r)) (lgP b f L) = false := by
  rw [Bool.eq_false_iff]
  intro z
  have z2 : PyData.eqvAll ((pushL b L r).map rP) (L.map rP) = true := by
    simp only [lgP, PyData.eqv, PyData.eqvAll, Bool.and_eq_true] at z
    exact z.2.2.1
  have e := congrArg List.getLast? (eqv_fst z2)
  rw [List.getLast?_map, List.getLast?_map, push_lastO h0 h] at e
  unfold lastV at hn
  cases hL : L.getLast? with
  | none => rw [hL] at e; cases e
  | some x =>
    rw [hL] at e hn
    have : r.1 = x.1 := by simpa using e
    dsimp only at hn
    omega
theorem immF_non : immF .non = true := rfl
/-! ### calls -/
theorem kind_lgO (a : Ad) (b f : Int) (L : List RW) : kindIn (cs a) (lgO a b f L) = some (.obj a.c_ChangeLog) := by simp [lgO, kindIn, kindD, cs]
theorem view_eq (a : Ad) (b f b' f' : Int) (L L' : List RW) : viewF 1 (viewF 0 (m_fChangeLog___eq__ a)) [lgO a b f L, lgO a b' f' L'] = .ok false (.bl (PyData.eqv (lgP b f L) (lgP b' f' L'))) [lgO a b f L, lgO a b' f' L'] := by
  have h0 : viewF 0 (m_fChangeLog___eq__ a) [lgO a b f L, lgS a b' f' L'] = .ok false (.bl (PyData.eqv (lgP b f L) (lgP b' f' L'))) [lgO a b f L, .non] := view_ok (d := lgO a b f L) (ms := [.non, .non]) rfl (vw_lg a b f L) (eq_lg a b f b' f' L L') rfl rfl
  exact view_ok (i := 1) (d := lgO a b' f' L') (ms := [lgO a b f L, .non]) rfl (vw_lg a b' f' L') h0 rfl (by simp only [List.all_cons, List.all_nil, immF_lg, immF_non, Bool.and_true])
theorem view_eqL (a : Ad) (b f : Int) (L R : List RW) : viewF 1 (viewF 0 (m_fChangeLog___eq__ a)) [lgO a b f L, .lst (R.map rD)] = .ok false (.bl false) [lgO a b f L, .lst (R.map rD)] := by
  have h0 : viewF 0 (m_fChangeLog___eq__ a) [lgO a b f L, .lst (R.map rD)] = .ok false (.bl false) [lgO a b f L, .non] := view_ok (d := lgO a b f L) (ms := [.non, .non]) rfl (vw_lg a b f L) (eq_lst a b f L (R.map rD)) rfl rfl
  exact view_ok (i := 1) (d := .lst (R.map rD)) (ms := [lgO a b f L, .non]) rfl rfl h0 rfl (by simp only [List.all_cons, List.all_nil, immF_lg, immF_non, Bool.and_true])
theorem cmp_lg (a : Ad) {b f b' f' : Int} {L L' : List RW} {st : DSt} {i j : Nat} {mu mv : Bool} (neg : Bool) (hij : i ≠ j) (hi : st[i]? = some (some (.ow mu (lgO a b f L)))) (hj : st[j]? = some (some (.ow mv (lgO a b' f' L')))) :
    cmpO neg (cs a) a.c_ChangeLog [true, true] (viewF 1 (viewF 0 (m_fChangeLog___eq__ a))) (lnA i) (lnA j) st = .ok (.bl (neg != PyData.eqv (lgP b f L) (lgP b' f' L'))) st := by
  have ob := obO a (nm := Str.empty) hi (by decide) (by decide) (by decide)
  have v := view_eq a b f b' f' L L'
  have s1 := set_same hi
  have s2 := set_same hj
  have k := kind_lgO a b' f' L'
  generalize lgO a b f L = D1 at *
  generalize lgO a b' f' L' = D2 at *
  generalize PyData.eqv (lgP b f L) (lgP b' f' L') = e at *
  simp [b_bd1,b_bd2,b_bd3,b_od1,b_od2,b_od3,b_th1,b_th2,b_th3,b_th4,b_th5,b_th6,b_fin1,b_fin2,b_fin3,b_runF,b_q1,b_q2,b_q3,b_n1,b_n2,b_qK,b_nK,b_ret,b_bnd,b_doM,b_lift,b_opM,b_unM,b_testM,b_tst,b_andM,b_and1,b_and2,b_orM,b_or1,b_or2,b_notM,b_iteM,b_ite1,b_ite2,b_andV,b_andV1,b_andV2,b_orV,b_orV1,b_orV2,b_notV,b_notK,b_shareM,b_shK,b_varM,b_peekM,b_args0,b_args1,b_lstM,b_tupM,b_chainM,b_ch1,b_ch2,b_part0,b_part1,b_prK,b_slM,b_seqM,b_ifM,b_if1,b_if2,b_skipM,b_dropM,b_retM,b_retF,b_retK,b_retN,b_bkM,b_ctM,b_retOw,b_asgM,b_asgK,b_out,b_nameT,b_tupT,b_tgs0,b_tgs1,b_asgF,b_asgFK,b_parM,b_parK,b_parX,b_parXK,b_setL0,b_setL1,b_setL2,b_mx0,b_mxS,b_mxF,b_mxK,b_forM,b_loop0,b_seqM',b_sq1,b_sq2,b_tupM',b_tp1,b_rng1M,b_rgK,b_enumM,b_zipM,b_zpK,b_zipSM,b_zsK,b_avs0,b_avs1,b_shA,b_lnA,b_callM,b_callF,b_callQ,b_callN,b_fm0,b_fm1,b_fm2,b_getA0,b_getA1,b_getA2,b_back0,b_back1,b_back2,b_setOw,b_flM,b_wrM,b_wrK,b_setIx,b_sxK,b_idxM,b_lenA,b_lnK,b_callPM,b_raiseF,b_rsK,b_init0,b_init1,b_init2,b_endF,b_outS0,b_outS1,b_outS2,b_rng3M,b_rgK3,b_setT,b_setTk,b_lstR1,b_lrK,b_dspM,b_dspI,b_dspS,b_enumFM,b_enK,b_lstR2,b_lr2K, b_cmpO, b_cmpK, b_noErr, b_kindM, hi, hj, ob, k, v, s1, s2, hij]
theorem cmp_lst (a : Ad) {b f : Int} {L R : List RW} {st : DSt} {i j : Nat} {mu mv : Bool} (hij : i ≠ j) (hi : st[i]? = some (some (.ow mu (lgO a b f L)))) (hj : st[j]? = some (some (.ow mv (.lst (R.map rD))))) :
    cmpO false (cs a) a.c_ChangeLog [true, true] (viewF 1 (viewF 0 (m_fChangeLog___eq__ a))) (lnA i) (lnA j) st = .ok (.bl false) st := by
  have ob := obO a (nm := Str.empty) hi (by decide) (by decide) (by decide)
  have v := view_eqL a b f L R
  have s1 := set_same hi
  have s2 := set_same hj
  have k : ∃ k, kindIn (cs a) (.lst (R.map rD)) = some k := ⟨_, rfl⟩
  obtain ⟨k, hk⟩ := k
  generalize lgO a b f L = D1 at *
  generalize D.lst (R.map rD) = D2 at *
  simp [b_bd1,b_bd2,b_bd3,b_od1,b_od2,b_od3,b_th1,b_th2,b_th3,b_th4,b_th5,b_th6,b_fin1,b_fin2,b_fin3,b_runF,b_q1,b_q2,b_q3,b_n1,b_n2,b_qK,b_nK,b_ret,b_bnd,b_doM,b_lift,b_opM,b_unM,b_testM,b_tst,b_andM,b_and1,b_and2,b_orM,b_or1,b_or2,b_notM,b_iteM,b_ite1,b_ite2,b_andV,b_andV1,b_andV2,b_orV,b_orV1,b_orV2,b_notV,b_notK,b_shareM,b_shK,b_varM,b_peekM,b_args0,b_args1,b_lstM,b_tupM,b_chainM,b_ch1,b_ch2,b_part0,b_part1,b_prK,b_slM,b_seqM,b_ifM,b_if1,b_if2,b_skipM,b_dropM,b_retM,b_retF,b_retK,b_retN,b_bkM,b_ctM,b_retOw,b_asgM,b_asgK,b_out,b_nameT,b_tupT,b_tgs0,b_tgs1,b_asgF,b_asgFK,b_parM,b_parK,b_parX,b_parXK,b_setL0,b_setL1,b_setL2,b_mx0,b_mxS,b_mxF,b_mxK,b_forM,b_loop0,b_seqM',b_sq1,b_sq2,b_tupM',b_tp1,b_rng1M,b_rgK,b_enumM,b_zipM,b_zpK,b_zipSM,b_zsK,b_avs0,b_avs1,b_shA,b_lnA,b_callM,b_callF,b_callQ,b_callN,b_fm0,b_fm1,b_fm2,b_getA0,b_getA1,b_getA2,b_back0,b_back1,b_back2,b_setOw,b_flM,b_wrM,b_wrK,b_setIx,b_sxK,b_idxM,b_lenA,b_lnK,b_callPM,b_raiseF,b_rsK,b_init0,b_init1,b_init2,b_endF,b_outS0,b_outS1,b_outS2,b_rng3M,b_rgK3,b_setT,b_setTk,b_lstR1,b_lrK,b_dspM,b_dspI,b_dspS,b_enumFM,b_enK,b_lstR2,b_lr2K, b_cmpO, b_cmpK, b_noErr, b_kindM, hi, hj, ob, hk, v, s1, s2, hij]
theorem meth_add (a : Ad) {b f : Int} {L : List RW} {st : DSt} {i : Nat} {mu : Bool} {m : Int} {k : Str} {o n : Option Int} {m1 m2 m3 m4 : M D} (hi : st[i]? = some (some (.ow mu (lgO a b f L)))) (h1 : m1 st = .ok (.int m) st) (h2 : m2 st = .ok (.str k) st) (h3 : m3 st = .ok (oD o) st) (h4 : m4 st = .ok (oD n) st)
    (h : (L.length : Int) ≤ b) (hl : L.length ≤ 9999) (hm : lastV f L + 1 ≤ m) (hk : Good k) : dropM (methM callQ a.c_ChangeLog "add" [true, false, false, false, false] (m_fChangeLog_add a) [] (lnA i) (avsM [shA m1, shA m2, shA m3, shA m4])) st = .nx (st.set i (some (.ow mu (lgO a b (pushF b f L (m, k, o, n)) (pushL b L (m, k, o, n)))))) := by
  have ob := obO a (nm := "add") hi (by decide) (by decide) (by decide)
  have e := add_eq a (f := f) o n h hl hm hk
  generalize lgO a b (pushF b f L (m, k, o, n)) (pushL b L (m, k, o, n)) = D2 at *
  generalize lgO a b f L = D0 at *
  simp [b_bd1,b_bd2,b_bd3,b_od1,b_od2,b_od3,b_th1,b_th2,b_th3,b_th4,b_th5,b_th6,b_fin1,b_fin2,b_fin3,b_runF,b_q1,b_q2,b_q3,b_n1,b_n2,b_qK,b_nK,b_ret,b_bnd,b_doM,b_lift,b_opM,b_unM,b_testM,b_tst,b_andM,b_and1,b_and2,b_orM,b_or1,b_or2,b_notM,b_iteM,b_ite1,b_ite2,b_andV,b_andV1,b_andV2,b_orV,b_orV1,b_orV2,b_notV,b_notK,b_shareM,b_shK,b_varM,b_peekM,b_args0,b_args1,b_lstM,b_tupM,b_chainM,b_ch1,b_ch2,b_part0,b_part1,b_prK,b_slM,b_seqM,b_ifM,b_if1,b_if2,b_skipM,b_dropM,b_retM,b_retF,b_retK,b_retN,b_bkM,b_ctM,b_retOw,b_asgM,b_asgK,b_out,b_nameT,b_tupT,b_tgs0,b_tgs1,b_asgF,b_asgFK,b_parM,b_parK,b_parX,b_parXK,b_setL0,b_setL1,b_setL2,b_mx0,b_mxS,b_mxF,b_mxK,b_forM,b_loop0,b_seqM',b_sq1,b_sq2,b_tupM',b_tp1,b_rng1M,b_rgK,b_enumM,b_zipM,b_zpK,b_zipSM,b_zsK,b_avs0,b_avs1,b_shA,b_lnA,b_callM,b_callF,b_callQ,b_callN,b_fm0,b_fm1,b_fm2,b_getA0,b_getA1,b_getA2,b_back0,b_back1,b_back2,b_setOw,b_flM,b_wrM,b_wrK,b_setIx,b_sxK,b_idxM,b_lenA,b_lnK,b_callPM,b_raiseF,b_rsK,b_init0,b_init1,b_init2,b_endF,b_outS0,b_outS1,b_outS2,b_rng3M,b_rgK3,b_setT,b_setTk,b_lstR1,b_lrK,b_dspM,b_dspI,b_dspS,b_enumFM,b_enK,b_lstR2,b_lr2K, b_methM, hi, ob, h1, h2, h3, h4, e]
theorem call_shown (a : Ad) (nd : (es a).Nodup) {b f now : Int} {L : List RW} {st : DSt} {i j : Nat} {mu mv : Bool} {m1 m2 m3 : M D} (hij : i ≠ j) (hi : st[i]? = some (some (.ow mu (lgO a b f L)))) (hj : st[j]? = some (some (.ow mv (.lst (L.map rD))))) (h1 : m1 st = .ok (.int f) st) (h2 : m2 st = .ok (.int b) st) (h3 : m3 st = .ok (.int now) st)
    (h0 : 0 ≤ now) (hn : now ≤ 1000) (hl : L.length ≤ 1000) : callM [true, true, false, false, false] (viewF 1 (viewF 0 (m_f_law_shown a))) [] (avsM [lnA i, lnA j, shA m1, shA m2, shA m3]) st = .ok (.bl true) st := by
  have s := shown_eq a nd (b := b) (f := f) (L := L) (now := now) h0 hn hl
  have v0 : viewF 0 (m_f_law_shown a) [lgO a b f L, .lst (L.map rD), .int f, .int b, .int now] = .ok false (.bl true) [lgO a b f L, .non, .non, .non, .non] := view_ok (d := lgO a b f L) (ms := [.non, .non, .non, .non, .non]) rfl (vw_lg a b f L) s rfl rfl
  have v : viewF 1 (viewF 0 (m_f_law_shown a)) [lgO a b f L, .lst (L.map rD), .int f, .int b, .int now] = .ok false (.bl true) [lgO a b f L, .lst (L.map rD), .non, .non, .non] := view_ok (i := 1) (d := .lst (L.map rD)) (ms := [lgO a b f L, .non, .non, .non, .non]) rfl rfl v0 rfl (by simp only [List.all_cons, List.all_nil, immF_lg, immF_non, Bool.and_true])
  have s1 := set_same hi
  have s2 := set_same hj
  generalize lgO a b f L = D0 at *
  generalize D.lst (L.map rD) = R0 at *
  simp [b_bd1,b_bd2,b_bd3,b_od1,b_od2,b_od3,b_th1,b_th2,b_th3,b_th4,b_th5,b_th6,b_fin1,b_fin2,b_fin3,b_runF,b_q1,b_q2,b_q3,b_n1,b_n2,b_qK,b_nK,b_ret,b_bnd,b_doM,b_lift,b_opM,b_unM,b_testM,b_tst,b_andM,b_and1,b_and2,b_orM,b_or1,b_or2,b_notM,b_iteM,b_ite1,b_ite2,b_andV,b_andV1,b_andV2,b_orV,b_orV1,b_orV2,b_notV,b_notK,b_shareM,b_shK,b_varM,b_peekM,b_args0,b_args1,b_lstM,b_tupM,b_chainM,b_ch1,b_ch2,b_part0,b_part1,b_prK,b_slM,b_seqM,b_ifM,b_if1,b_if2,b_skipM,b_dropM,b_retM,b_retF,b_retK,b_retN,b_bkM,b_ctM,b_retOw,b_asgM,b_asgK,b_out,b_nameT,b_tupT,b_tgs0,b_tgs1,b_asgF,b_asgFK,b_parM,b_parK,b_parX,b_parXK,b_setL0,b_setL1,b_setL2,b_mx0,b_mxS,b_mxF,b_mxK,b_forM,b_loop0,b_seqM',b_sq1,b_sq2,b_tupM',b_tp1,b_rng1M,b_rgK,b_enumM,b_zipM,b_zpK,b_zipSM,b_zsK,b_avs0,b_avs1,b_shA,b_lnA,b_callM,b_callF,b_callQ,b_callN,b_fm0,b_fm1,b_fm2,b_getA0,b_getA1,b_getA2,b_back0,b_back1,b_back2,b_setOw,b_flM,b_wrM,b_wrK,b_setIx,b_sxK,b_idxM,b_lenA,b_lnK,b_callPM,b_raiseF,b_rsK,b_init0,b_init1,b_init2,b_endF,b_outS0,b_outS1,b_outS2,b_rng3M,b_rgK3,b_setT,b_setTk,b_lstR1,b_lrK,b_dspM,b_dspI,b_dspS,b_enumFM,b_enK,b_lstR2,b_lr2K, hi, hj, h1, h2, h3, v, s1, s2, hij]
theorem call_bad (a : Ad) (nd : (es a).Nodup) {b f now : Int} {L : List RW} {st : DSt} {i j : Nat} {mu mv : Bool} {p : Int × Int} {m1 : M D} (hij : i ≠ j) (hi : st[i]? = some (some (.ow mu (pl p)))) (hj : st[j]? = some (some (.ow mv (lgO a b f L)))) (h1 : m1 st = .ok (.int now) st) (hn : lastV f L = now) (h0 : 0 ≤ now) (hx : now ≤ 900) :
    ∃ q, callM [true, true, false] (m_f_law_bad a) [] (avsM [lnA i, lnA j, shA m1]) st = .ok (.bl true) (st.set i (some (.ow mu (pl q)))) := by
  obtain ⟨q, e⟩ := bad_eq a nd p hn h0 hx
  refine ⟨q, ?_⟩
  have s2 : (st.set i (some (.ow mu (pl q)))).set j (some (.ow mv (lgO a b f L))) = st.set i (some (.ow mu (pl q))) := set_same (by rw [List.getElem?_set_ne hij]; exact hj)
  have s3 : (st.set i (some (.ow mu (pl q))))[j]? = some (some (.ow mv (lgO a b f L))) := by rw [List.getElem?_set_ne hij]; exact hj
  generalize lgO a b f L = D0 at *
  simp [b_bd1,b_bd2,b_bd3,b_od1,b_od2,b_od3,b_th1,b_th2,b_th3,b_th4,b_th5,b_th6,b_fin1,b_fin2,b_fin3,b_runF,b_q1,b_q2,b_q3,b_n1,b_n2,b_qK,b_nK,b_ret,b_bnd,b_doM,b_lift,b_opM,b_unM,b_testM,b_tst,b_andM,b_and1,b_and2,b_orM,b_or1,b_or2,b_notM,b_iteM,b_ite1,b_ite2,b_andV,b_andV1,b_andV2,b_orV,b_orV1,b_orV2,b_notV,b_notK,b_shareM,b_shK,b_varM,b_peekM,b_args0,b_args1,b_lstM,b_tupM,b_chainM,b_ch1,b_ch2,b_part0,b_part1,b_prK,b_slM,b_seqM,b_ifM,b_if1,b_if2,b_skipM,b_dropM,b_retM,b_retF,b_retK,b_retN,b_bkM,b_ctM,b_retOw,b_asgM,b_asgK,b_out,b_nameT,b_tupT,b_tgs0,b_tgs1,b_asgF,b_asgFK,b_parM,b_parK,b_parX,b_parXK,b_setL0,b_setL1,b_setL2,b_mx0,b_mxS,b_mxF,b_mxK,b_forM,b_loop0,b_seqM',b_sq1,b_sq2,b_tupM',b_tp1,b_rng1M,b_rgK,b_enumM,b_zipM,b_zpK,b_zipSM,b_zsK,b_avs0,b_avs1,b_shA,b_lnA,b_callM,b_callF,b_callQ,b_callN,b_fm0,b_fm1,b_fm2,b_getA0,b_getA1,b_getA2,b_back0,b_back1,b_back2,b_setOw,b_flM,b_wrM,b_wrK,b_setIx,b_sxK,b_idxM,b_lenA,b_lnK,b_callPM,b_raiseF,b_rsK,b_init0,b_init1,b_init2,b_endF,b_outS0,b_outS1,b_outS2,b_rng3M,b_rgK3,b_setT,b_setTk,b_lstR1,b_lrK,b_dspM,b_dspI,b_dspS,b_enumFM,b_enK,b_lstR2,b_lr2K, hi, hj, h1, e, s2, hij]
end K12
namespace K12
open PySem L2 DL
local instance : TB := ⟨[]⟩
local instance : LC := ⟨fun _ => none⟩
theorem sq {A B : MS} {st s : DSt} {r : Out} (h : A st = .nx s) (h2 : B s = r) : seqM A B st = r := by rw [b_seqM, h]; exact h2
abbrev lawS (K : D) (o1 : Option Slot) (k : Int) (p : Int × Int) (b : Int) (D5 D6 R : D) (f now : Int) (o10 o11 : Option Slot) : DSt :=
  [some (.sh K), o1, some (.sh (.int k)), some (.ow false (pl p)), some (.sh (.int b)), some (.ow false D5), some (.ow false D6), some (.ow false R), some (.sh (.int f)), some (.sh (.int now)), o10, o11]
theorem o_of {y : D} {ns : List Int} (h : y ∈ D.non :: ns.map .int) : ∃ o, y = oD o := by
  rcases List.mem_cons.mp h with rfl | h
  · exact ⟨none, rfl⟩
  · obtain ⟨i, _, rfl⟩ := List.mem_map.mp h
    exact ⟨some i, rfl⟩
theorem law_turn (a : Ad) (nd : (es a).Nodup) {b f now : Int} {L : List RW} (K : D) (o1 : Option Slot) (k : Int) (p : Int × Int) (d : D) (o10 o11 : Option Slot) (hb : 0 ≤ b) (hb2 : b ≤ 1000) (hl : (L.length : Int) ≤ b) (hn : lastV f L = now) (h0 : 0 ≤ now) (h1 : now ≤ 800) :
    ∃ (q : Int × Int) (f' now' : Int) (L' : List RW) (o11' : Option Slot), turnF (nameT 10) (bd1_flaw a) d (lawS K o1 k p b (lgO a b f L) (lgO a b f L) (.lst (L.map rD)) f now o10 o11) = .nx (lawS K o1 k q b (lgO a b f' L') (lgO a b f' L') (.lst (L'.map rD)) f' now' (some (.sh d)) o11') ∧ (L'.length : Int) ≤ b ∧ lastV f' L' = now' ∧ now ≤ now' ∧ now' ≤ now + 3 := by
  obtain ⟨q1, v1, d1, v10, v11⟩ := draw_ex a p (n := 3) (by omega) (by omega)
  obtain ⟨key, q2, hk, d2⟩ := law_key a q1
  obtain ⟨q3, w3, y3, d3, x3, m3⟩ := pick_ex a q2 (n := 3) (xs := [.non, .int 5, .int (-7)]) rfl (by decide) (by decide)
  obtain ⟨q4, w4, y4, d4, x4, m4⟩ := pick_ex a q3 (n := 3) (xs := [.non, .int 0, .int 8]) rfl (by decide) (by decide)
  obtain ⟨o, rfl⟩ := o_of (ns := [5, -7]) m3
  obtain ⟨n, rfl⟩ := o_of (ns := [0, 8]) m4
  obtain ⟨now1, hnow1⟩ : ∃ now1, now1 = now + 1 + v1 := ⟨_, rfl⟩
  have hL : L.length ≤ 1000 := by omega
  have hL1 := push_len (b := b) (L := L) (r := (now1, key, o, n)) hl
  have hla := push_last (f := f) (r := (now1, key, o, n)) hb hl
  have hpv : 0 < b → PyData.eqv (lgP b (pushF b f L (now1, key, o, n)) (pushL b L (now1, key, o, n))) (lgP b f L) = false := fun c => eqv_push c hl hn (show now < now1 by omega)
  have hrows : (if b < (L.length : Int) + 1 then true else false) = decide (b < (L.length : Int) + 1) := by split <;> simp_all
  obtain ⟨f1, hf1⟩ : ∃ f1, f1 = pushF b f L (now1, key, o, n) := ⟨_, rfl⟩
  obtain ⟨L1, hL1e⟩ : ∃ L1, L1 = pushL b L (now1, key, o, n) := ⟨_, rfl⟩
  rw [← hf1, ← hL1e] at hpv hla
  rw [← hL1e] at hL1
  obtain ⟨q5, e5⟩ := call_bad a nd (b := b) (f := f1) (L := L1) (now := now1) (p := q4) (i := 3) (j := 5) (mu := false) (mv := false) (m1 := varM 9) (st := lawS K o1 k q4 b (lgO a b f1 L1) (lgO a b f1 L1) (.lst (L1.map rD)) f1 now1 (some (.sh d)) (some (.sh (rD (now1, key, o, n))))) (by decide) rfl rfl rfl hla (by omega) (by omega)
  have e4 := call_shown a nd (b := b) (f := f1) (L := L1) (now := now1) (i := 5) (j := 7) (mu := false) (mv := false) (m1 := varM 8) (m2 := varM 4) (m3 := varM 9) (st := lawS K o1 k q4 b (lgO a b f1 L1) (lgO a b f1 L1) (.lst (L1.map rD)) f1 now1 (some (.sh d)) (some (.sh (rD (now1, key, o, n))))) (by decide) rfl rfl rfl rfl rfl (by omega) (by omega) (by omega)
  have e3 := cmp_lg a (b := b) (f := f1) (b' := b) (f' := f1) (L := L1) (L' := L1) (i := 5) (j := 6) (mu := false) (mv := false) (st := lawS K o1 k q4 b (lgO a b f1 L1) (lgO a b f1 L1) (.lst (L1.map rD)) f1 now1 (some (.sh d)) (some (.sh (rD (now1, key, o, n))))) true (by decide) rfl rfl
  rw [eqv_same] at e3
  refine ⟨q5, f1, now1, L1, some (.sh (rD (now1, key, o, n))), ?_, hL1, hla, by omega, by omega⟩
  unfold bd1_flaw
  show seqM _ _ (lawS K o1 k p b (lgO a b f L) (lgO a b f L) (.lst (L.map rD)) f now (some (.sh d)) o11) = _
  refine sq (s := lawS K o1 k q1 b (lgO a b f L) (lgO a b f L) (.lst (L.map rD)) f now1 (some (.sh d)) o11) (by
    subst hnow1
    generalize lgO a b f L = D0 at *
    generalize D.lst (L.map rD) = R0 at *
    simp [b_bd1,b_bd2,b_bd3,b_od1,b_od2,b_od3,b_th1,b_th2,b_th3,b_th4,b_th5,b_th6,b_fin1,b_fin2,b_fin3,b_runF,b_q1,b_q2,b_q3,b_n1,b_n2,b_qK,b_nK,b_ret,b_bnd,b_doM,b_lift,b_opM,b_unM,b_testM,b_tst,b_andM,b_and1,b_and2,b_orM,b_or1,b_or2,b_notM,b_iteM,b_ite1,b_ite2,b_andV,b_andV1,b_andV2,b_orV,b_orV1,b_orV2,b_notV,b_notK,b_shareM,b_shK,b_varM,b_peekM,b_args0,b_args1,b_lstM,b_tupM,b_chainM,b_ch1,b_ch2,b_part0,b_part1,b_prK,b_slM,b_seqM,b_ifM,b_if1,b_if2,b_skipM,b_dropM,b_retM,b_retF,b_retK,b_retN,b_bkM,b_ctM,b_retOw,b_asgM,b_asgK,b_out,b_nameT,b_tupT,b_tgs0,b_tgs1,b_asgF,b_asgFK,b_parM,b_parK,b_parX,b_parXK,b_setL0,b_setL1,b_setL2,b_mx0,b_mxS,b_mxF,b_mxK,b_forM,b_loop0,b_seqM',b_sq1,b_sq2,b_tupM',b_tp1,b_rng1M,b_rgK,b_enumM,b_zipM,b_zpK,b_zipSM,b_zsK,b_avs0,b_avs1,b_shA,b_lnA,b_callM,b_callF,b_callQ,b_callN,b_fm0,b_fm1,b_fm2,b_getA0,b_getA1,b_getA2,b_back0,b_back1,b_back2,b_setOw,b_flM,b_wrM,b_wrK,b_setIx,b_sxK,b_idxM,b_lenA,b_lnK,b_callPM,b_raiseF,b_rsK,b_init0,b_init1,b_init2,b_endF,b_outS0,b_outS1,b_outS2,b_rng3M,b_rgK3,b_setT,b_setTk,b_lstR1,b_lrK,b_dspM,b_dspI,b_dspS,b_enumFM,b_enK,b_lstR2,b_lr2K, lawS, addD, d1]) ?_
  refine sq (s := lawS K o1 k q4 b (lgO a b f L) (lgO a b f L) (.lst (L.map rD)) f now1 (some (.sh d)) (some (.sh (rD (now1, key, o, n))))) (by
    generalize lgO a b f L = D0 at *
    generalize D.lst (L.map rD) = R0 at *
    simp [b_bd1,b_bd2,b_bd3,b_od1,b_od2,b_od3,b_th1,b_th2,b_th3,b_th4,b_th5,b_th6,b_fin1,b_fin2,b_fin3,b_runF,b_q1,b_q2,b_q3,b_n1,b_n2,b_qK,b_nK,b_ret,b_bnd,b_doM,b_lift,b_opM,b_unM,b_testM,b_tst,b_andM,b_and1,b_and2,b_orM,b_or1,b_or2,b_notM,b_iteM,b_ite1,b_ite2,b_andV,b_andV1,b_andV2,b_orV,b_orV1,b_orV2,b_notV,b_notK,b_shareM,b_shK,b_varM,b_peekM,b_args0,b_args1,b_lstM,b_tupM,b_chainM,b_ch1,b_ch2,b_part0,b_part1,b_prK,b_slM,b_seqM,b_ifM,b_if1,b_if2,b_skipM,b_dropM,b_retM,b_retF,b_retK,b_retN,b_bkM,b_ctM,b_retOw,b_asgM,b_asgK,b_out,b_nameT,b_tupT,b_tgs0,b_tgs1,b_asgF,b_asgFK,b_parM,b_parK,b_parX,b_parXK,b_setL0,b_setL1,b_setL2,b_mx0,b_mxS,b_mxF,b_mxK,b_forM,b_loop0,b_seqM',b_sq1,b_sq2,b_tupM',b_tp1,b_rng1M,b_rgK,b_enumM,b_zipM,b_zpK,b_zipSM,b_zsK,b_avs0,b_avs1,b_shA,b_lnA,b_callM,b_callF,b_callQ,b_callN,b_fm0,b_fm1,b_fm2,b_getA0,b_getA1,b_getA2,b_back0,b_back1,b_back2,b_setOw,b_flM,b_wrM,b_wrK,b_setIx,b_sxK,b_idxM,b_lenA,b_lnK,b_callPM,b_raiseF,b_rsK,b_init0,b_init1,b_init2,b_endF,b_outS0,b_outS1,b_outS2,b_rng3M,b_rgK3,b_setT,b_setTk,b_lstR1,b_lrK,b_dspM,b_dspI,b_dspS,b_enumFM,b_enK,b_lstR2,b_lr2K, lawS, d2, d3, d4, negI, flatD, x3, x4, rD]) ?_
  have g0 : ixD (rD (now1, key, o, n)) (.int 0) = some (.int now1) := rfl
  have g1 : ixD (rD (now1, key, o, n)) (.int 1) = some (.str key) := rfl
  have g2 : ixD (rD (now1, key, o, n)) (.int 2) = some (oD o) := rfl
  have g3 : ixD (rD (now1, key, o, n)) (.int 3) = some (oD n) := rfl
  have ixs : ∀ {D5 D6 R : D} {o10 : Option Slot} {fl nw : Int}, (opM ixD (peekM 11) (DL.ret (.int 0))) (lawS K o1 k q4 b D5 D6 R fl nw o10 (some (.sh (rD (now1, key, o, n))))) = .ok (.int now1) (lawS K o1 k q4 b D5 D6 R fl nw o10 (some (.sh (rD (now1, key, o, n))))) ∧ (opM ixD (peekM 11) (DL.ret (.int 1))) (lawS K o1 k q4 b D5 D6 R fl nw o10 (some (.sh (rD (now1, key, o, n))))) = .ok (.str key) (lawS K o1 k q4 b D5 D6 R fl nw o10 (some (.sh (rD (now1, key, o, n))))) ∧
      (opM ixD (peekM 11) (DL.ret (.int 2))) (lawS K o1 k q4 b D5 D6 R fl nw o10 (some (.sh (rD (now1, key, o, n))))) = .ok (oD o) (lawS K o1 k q4 b D5 D6 R fl nw o10 (some (.sh (rD (now1, key, o, n))))) ∧ (opM ixD (peekM 11) (DL.ret (.int 3))) (lawS K o1 k q4 b D5 D6 R fl nw o10 (some (.sh (rD (now1, key, o, n))))) = .ok (oD n) (lawS K o1 k q4 b D5 D6 R fl nw o10 (some (.sh (rD (now1, key, o, n))))) := by
    intro D5 D6 R o10 fl nw
    generalize rD (now1, key, o, n) = rr at *
    refine ⟨?_, ?_, ?_, ?_⟩ <;> simp [b_bd1,b_bd2,b_bd3,b_od1,b_od2,b_od3,b_th1,b_th2,b_th3,b_th4,b_th5,b_th6,b_fin1,b_fin2,b_fin3,b_runF,b_q1,b_q2,b_q3,b_n1,b_n2,b_qK,b_nK,b_ret,b_bnd,b_doM,b_lift,b_opM,b_unM,b_testM,b_tst,b_andM,b_and1,b_and2,b_orM,b_or1,b_or2,b_notM,b_iteM,b_ite1,b_ite2,b_andV,b_andV1,b_andV2,b_orV,b_orV1,b_orV2,b_notV,b_notK,b_shareM,b_shK,b_varM,b_peekM,b_args0,b_args1,b_lstM,b_tupM,b_chainM,b_ch1,b_ch2,b_part0,b_part1,b_prK,b_slM,b_seqM,b_ifM,b_if1,b_if2,b_skipM,b_dropM,b_retM,b_retF,b_retK,b_retN,b_bkM,b_ctM,b_retOw,b_asgM,b_asgK,b_out,b_nameT,b_tupT,b_tgs0,b_tgs1,b_asgF,b_asgFK,b_parM,b_parK,b_parX,b_parXK,b_setL0,b_setL1,b_setL2,b_mx0,b_mxS,b_mxF,b_mxK,b_forM,b_loop0,b_seqM',b_sq1,b_sq2,b_tupM',b_tp1,b_rng1M,b_rgK,b_enumM,b_zipM,b_zpK,b_zipSM,b_zsK,b_avs0,b_avs1,b_shA,b_lnA,b_callM,b_callF,b_callQ,b_callN,b_fm0,b_fm1,b_fm2,b_getA0,b_getA1,b_getA2,b_back0,b_back1,b_back2,b_setOw,b_flM,b_wrM,b_wrK,b_setIx,b_sxK,b_idxM,b_lenA,b_lnK,b_callPM,b_raiseF,b_rsK,b_init0,b_init1,b_init2,b_endF,b_outS0,b_outS1,b_outS2,b_rng3M,b_rgK3,b_setT,b_setTk,b_lstR1,b_lrK,b_dspM,b_dspI,b_dspS,b_enumFM,b_enK,b_lstR2,b_lr2K, lawS, g0, g1, g2, g3]
  refine sq (s := lawS K o1 k q4 b (lgO a b f1 L1) (lgO a b f L) (.lst (L.map rD)) f now1 (some (.sh d)) (some (.sh (rD (now1, key, o, n))))) (by
    have ix := ixs (D5 := lgO a b f L) (D6 := lgO a b f L) (R := .lst (L.map rD)) (o10 := some (.sh d)) (fl := f) (nw := now1)
    rw [meth_add a (i := 5) (mu := false) (b := b) (f := f) (L := L) rfl ix.1 ix.2.1 ix.2.2.1 ix.2.2.2 hl (by omega) (by omega) hk, hf1, hL1e]
    rfl) ?_
  have ap : appD (.lst (L.map rD)) [rD (now1, key, o, n)] = some (.non, .lst ((L ++ [(now1, key, o, n)]).map rD)) := by
    have : (L.map rD).length < 16777216 := by rw [List.length_map]; omega
    simp only [appD, this, if_true, List.map_append]
    rfl
  refine sq (s := lawS K o1 k q4 b (lgO a b f1 L1) (lgO a b f L) (.lst ((L ++ [(now1, key, o, n)]).map rD)) f now1 (some (.sh d)) (some (.sh (rD (now1, key, o, n))))) (by
    have i0 : isLst (.lst (L.map rD)) = true := rfl
    have fl0 : flatD (.lst (L.map rD)) = true := rfl
    have fl1 : flatD (rD (now1, key, o, n)) = true := rfl
    generalize lgO a b f L = D0 at *
    generalize lgO a b f1 L1 = D1 at *
    generalize D.lst (L.map rD) = R0 at *
    generalize D.lst ((L ++ [(now1, key, o, n)]).map rD) = R1 at *
    generalize rD (now1, key, o, n) = rr at *
    simp [b_bd1,b_bd2,b_bd3,b_od1,b_od2,b_od3,b_th1,b_th2,b_th3,b_th4,b_th5,b_th6,b_fin1,b_fin2,b_fin3,b_runF,b_q1,b_q2,b_q3,b_n1,b_n2,b_qK,b_nK,b_ret,b_bnd,b_doM,b_lift,b_opM,b_unM,b_testM,b_tst,b_andM,b_and1,b_and2,b_orM,b_or1,b_or2,b_notM,b_iteM,b_ite1,b_ite2,b_andV,b_andV1,b_andV2,b_orV,b_orV1,b_orV2,b_notV,b_notK,b_shareM,b_shK,b_varM,b_peekM,b_args0,b_args1,b_lstM,b_tupM,b_chainM,b_ch1,b_ch2,b_part0,b_part1,b_prK,b_slM,b_seqM,b_ifM,b_if1,b_if2,b_skipM,b_dropM,b_retM,b_retF,b_retK,b_retN,b_bkM,b_ctM,b_retOw,b_asgM,b_asgK,b_out,b_nameT,b_tupT,b_tgs0,b_tgs1,b_asgF,b_asgFK,b_parM,b_parK,b_parX,b_parXK,b_setL0,b_setL1,b_setL2,b_mx0,b_mxS,b_mxF,b_mxK,b_forM,b_loop0,b_seqM',b_sq1,b_sq2,b_tupM',b_tp1,b_rng1M,b_rgK,b_enumM,b_zipM,b_zpK,b_zipSM,b_zsK,b_avs0,b_avs1,b_shA,b_lnA,b_callM,b_callF,b_callQ,b_callN,b_fm0,b_fm1,b_fm2,b_getA0,b_getA1,b_getA2,b_back0,b_back1,b_back2,b_setOw,b_flM,b_wrM,b_wrK,b_setIx,b_sxK,b_idxM,b_lenA,b_lnK,b_callPM,b_raiseF,b_rsK,b_init0,b_init1,b_init2,b_endF,b_outS0,b_outS1,b_outS2,b_rng3M,b_rgK3,b_setT,b_setTk,b_lstR1,b_lrK,b_dspM,b_dspI,b_dspS,b_enumFM,b_enK,b_lstR2,b_lr2K, lawS, i0, fl0, ap]) ?_
  refine sq (s := lawS K o1 k q4 b (lgO a b f1 L1) (lgO a b f L) (.lst ((L ++ [(now1, key, o, n)]).map rD)) f now1 (some (.sh d)) (some (.sh (rD (now1, key, o, n))))) (by
    have c0 := fun ng => cmp_lg a (b := b) (f := f1) (b' := b) (f' := f) (L := L1) (L' := L) (i := 5) (j := 6) (mu := false) (mv := false) (st := lawS K o1 k q4 b (lgO a b f1 L1) (lgO a b f L) (.lst ((L ++ [(now1, key, o, n)]).map rD)) f now1 (some (.sh d)) (some (.sh (rD (now1, key, o, n))))) ng (by decide) rfl rfl
    have c1 := c0 false
    have c2 := c0 true
    simp only [lawS] at c1 c2
    by_cases c : 0 < b
    · rw [hpv c] at c1 c2
      generalize lgO a b f L = D0 at *
      generalize lgO a b f1 L1 = D1 at *
      generalize D.lst ((L ++ [(now1, key, o, n)]).map rD) = R1 at *
      generalize rD (now1, key, o, n) = rr at *
      simp [b_bd1,b_bd2,b_bd3,b_od1,b_od2,b_od3,b_th1,b_th2,b_th3,b_th4,b_th5,b_th6,b_fin1,b_fin2,b_fin3,b_runF,b_q1,b_q2,b_q3,b_n1,b_n2,b_qK,b_nK,b_ret,b_bnd,b_doM,b_lift,b_opM,b_unM,b_testM,b_tst,b_andM,b_and1,b_and2,b_orM,b_or1,b_or2,b_notM,b_iteM,b_ite1,b_ite2,b_andV,b_andV1,b_andV2,b_orV,b_orV1,b_orV2,b_notV,b_notK,b_shareM,b_shK,b_varM,b_peekM,b_args0,b_args1,b_lstM,b_tupM,b_chainM,b_ch1,b_ch2,b_part0,b_part1,b_prK,b_slM,b_seqM,b_ifM,b_if1,b_if2,b_skipM,b_dropM,b_retM,b_retF,b_retK,b_retN,b_bkM,b_ctM,b_retOw,b_asgM,b_asgK,b_out,b_nameT,b_tupT,b_tgs0,b_tgs1,b_asgF,b_asgFK,b_parM,b_parK,b_parX,b_parXK,b_setL0,b_setL1,b_setL2,b_mx0,b_mxS,b_mxF,b_mxK,b_forM,b_loop0,b_seqM',b_sq1,b_sq2,b_tupM',b_tp1,b_rng1M,b_rgK,b_enumM,b_zipM,b_zpK,b_zipSM,b_zsK,b_avs0,b_avs1,b_shA,b_lnA,b_callM,b_callF,b_callQ,b_callN,b_fm0,b_fm1,b_fm2,b_getA0,b_getA1,b_getA2,b_back0,b_back1,b_back2,b_setOw,b_flM,b_wrM,b_wrK,b_setIx,b_sxK,b_idxM,b_lenA,b_lnK,b_callPM,b_raiseF,b_rsK,b_init0,b_init1,b_init2,b_endF,b_outS0,b_outS1,b_outS2,b_rng3M,b_rgK3,b_setT,b_setTk,b_lstR1,b_lrK,b_dspM,b_dspI,b_dspS,b_enumFM,b_enK,b_lstR2,b_lr2K, lawS, gtD, gtvD, c, c1, c2]
    · generalize lgO a b f L = D0 at *
      generalize lgO a b f1 L1 = D1 at *
      generalize D.lst ((L ++ [(now1, key, o, n)]).map rD) = R1 at *
      generalize rD (now1, key, o, n) = rr at *
      simp [b_bd1,b_bd2,b_bd3,b_od1,b_od2,b_od3,b_th1,b_th2,b_th3,b_th4,b_th5,b_th6,b_fin1,b_fin2,b_fin3,b_runF,b_q1,b_q2,b_q3,b_n1,b_n2,b_qK,b_nK,b_ret,b_bnd,b_doM,b_lift,b_opM,b_unM,b_testM,b_tst,b_andM,b_and1,b_and2,b_orM,b_or1,b_or2,b_notM,b_iteM,b_ite1,b_ite2,b_andV,b_andV1,b_andV2,b_orV,b_orV1,b_orV2,b_notV,b_notK,b_shareM,b_shK,b_varM,b_peekM,b_args0,b_args1,b_lstM,b_tupM,b_chainM,b_ch1,b_ch2,b_part0,b_part1,b_prK,b_slM,b_seqM,b_ifM,b_if1,b_if2,b_skipM,b_dropM,b_retM,b_retF,b_retK,b_retN,b_bkM,b_ctM,b_retOw,b_asgM,b_asgK,b_out,b_nameT,b_tupT,b_tgs0,b_tgs1,b_asgF,b_asgFK,b_parM,b_parK,b_parX,b_parXK,b_setL0,b_setL1,b_setL2,b_mx0,b_mxS,b_mxF,b_mxK,b_forM,b_loop0,b_seqM',b_sq1,b_sq2,b_tupM',b_tp1,b_rng1M,b_rgK,b_enumM,b_zipM,b_zpK,b_zipSM,b_zsK,b_avs0,b_avs1,b_shA,b_lnA,b_callM,b_callF,b_callQ,b_callN,b_fm0,b_fm1,b_fm2,b_getA0,b_getA1,b_getA2,b_back0,b_back1,b_back2,b_setOw,b_flM,b_wrM,b_wrK,b_setIx,b_sxK,b_idxM,b_lenA,b_lnK,b_callPM,b_raiseF,b_rsK,b_init0,b_init1,b_init2,b_endF,b_outS0,b_outS1,b_outS2,b_rng3M,b_rgK3,b_setT,b_setTk,b_lstR1,b_lrK,b_dspM,b_dspI,b_dspS,b_enumFM,b_enK,b_lstR2,b_lr2K, lawS, gtD, gtvD, c]) ?_
  refine sq (s := lawS K o1 k q4 b (lgO a b f1 L1) (lgO a b f1 L1) (.lst ((L ++ [(now1, key, o, n)]).map rD)) f now1 (some (.sh d)) (some (.sh (rD (now1, key, o, n))))) (by
    have ix := ixs (D5 := lgO a b f1 L1) (D6 := lgO a b f L) (R := .lst ((L ++ [(now1, key, o, n)]).map rD)) (o10 := some (.sh d)) (fl := f) (nw := now1)
    rw [meth_add a (i := 6) (mu := false) (b := b) (f := f) (L := L) rfl ix.1 ix.2.1 ix.2.2.1 ix.2.2.2 hl (by omega) (by omega) hk, ← hf1, ← hL1e]
    rfl) ?_
  refine sq (s := lawS K o1 k q4 b (lgO a b f1 L1) (lgO a b f1 L1) (.lst (L1.map rD)) f1 now1 (some (.sh d)) (some (.sh (rD (now1, key, o, n))))) (by
    have ll : lenD (.lst ((L ++ [(now1, key, o, n)]).map rD)) = some (.int ((L.length : Int) + 1)) := by
      have : L.length + 1 ≤ 16777216 := by omega
      simp [lenD, this]
    by_cases c : b < (L.length : Int) + 1
    · have hp : popAtD (.lst ((L ++ [(now1, key, o, n)]).map rD)) [.int 0] = some (rD ((L ++ [(now1, key, o, n)]).headD (now1, key, o, n)), .lst (L1.map rD)) := by
        rw [hL1e]
        unfold pushL
        rw [if_pos c]
        cases e : L ++ [(now1, key, o, n)] with
        | nil => simp at e
        | cons x T => simp [popAtD, seqIndex?]
      have hh : ixD (rD ((L ++ [(now1, key, o, n)]).headD (now1, key, o, n))) (.int 0) = some (.int f1) := by
        rw [hf1]
        unfold pushF
        rw [if_pos c]
        rfl
      have i0 : isLst (.lst ((L ++ [(now1, key, o, n)]).map rD)) = true := rfl
      have fl0 : flatD (.lst ((L ++ [(now1, key, o, n)]).map rD)) = true := rfl
      generalize rD ((L ++ [(now1, key, o, n)]).headD (now1, key, o, n)) = hd at *
      generalize lgO a b f1 L1 = D1 at *
      generalize D.lst ((L ++ [(now1, key, o, n)]).map rD) = R1 at *
      generalize D.lst (L1.map rD) = R2 at *
      generalize rD (now1, key, o, n) = rr at *
      simp [b_bd1,b_bd2,b_bd3,b_od1,b_od2,b_od3,b_th1,b_th2,b_th3,b_th4,b_th5,b_th6,b_fin1,b_fin2,b_fin3,b_runF,b_q1,b_q2,b_q3,b_n1,b_n2,b_qK,b_nK,b_ret,b_bnd,b_doM,b_lift,b_opM,b_unM,b_testM,b_tst,b_andM,b_and1,b_and2,b_orM,b_or1,b_or2,b_notM,b_iteM,b_ite1,b_ite2,b_andV,b_andV1,b_andV2,b_orV,b_orV1,b_orV2,b_notV,b_notK,b_shareM,b_shK,b_varM,b_peekM,b_args0,b_args1,b_lstM,b_tupM,b_chainM,b_ch1,b_ch2,b_part0,b_part1,b_prK,b_slM,b_seqM,b_ifM,b_if1,b_if2,b_skipM,b_dropM,b_retM,b_retF,b_retK,b_retN,b_bkM,b_ctM,b_retOw,b_asgM,b_asgK,b_out,b_nameT,b_tupT,b_tgs0,b_tgs1,b_asgF,b_asgFK,b_parM,b_parK,b_parX,b_parXK,b_setL0,b_setL1,b_setL2,b_mx0,b_mxS,b_mxF,b_mxK,b_forM,b_loop0,b_seqM',b_sq1,b_sq2,b_tupM',b_tp1,b_rng1M,b_rgK,b_enumM,b_zipM,b_zpK,b_zipSM,b_zsK,b_avs0,b_avs1,b_shA,b_lnA,b_callM,b_callF,b_callQ,b_callN,b_fm0,b_fm1,b_fm2,b_getA0,b_getA1,b_getA2,b_back0,b_back1,b_back2,b_setOw,b_flM,b_wrM,b_wrK,b_setIx,b_sxK,b_idxM,b_lenA,b_lnK,b_callPM,b_raiseF,b_rsK,b_init0,b_init1,b_init2,b_endF,b_outS0,b_outS1,b_outS2,b_rng3M,b_rgK3,b_setT,b_setTk,b_lstR1,b_lrK,b_dspM,b_dspI,b_dspS,b_enumFM,b_enK,b_lstR2,b_lr2K, lawS, ll, gtD, gtvD, c, i0, fl0, hp, hh]
    · have eL : L1 = L ++ [(now1, key, o, n)] := by rw [hL1e]; unfold pushL; rw [if_neg c]
      have ef : f1 = f := by rw [hf1]; unfold pushF; rw [if_neg c]
      rw [ef, ← eL]
      rw [← eL] at ll
      generalize lgO a b f L1 = D1 at *
      generalize D.lst (L1.map rD) = R2 at *
      generalize rD (now1, key, o, n) = rr at *
      simp [b_bd1,b_bd2,b_bd3,b_od1,b_od2,b_od3,b_th1,b_th2,b_th3,b_th4,b_th5,b_th6,b_fin1,b_fin2,b_fin3,b_runF,b_q1,b_q2,b_q3,b_n1,b_n2,b_qK,b_nK,b_ret,b_bnd,b_doM,b_lift,b_opM,b_unM,b_testM,b_tst,b_andM,b_and1,b_and2,b_orM,b_or1,b_or2,b_notM,b_iteM,b_ite1,b_ite2,b_andV,b_andV1,b_andV2,b_orV,b_orV1,b_orV2,b_notV,b_notK,b_shareM,b_shK,b_varM,b_peekM,b_args0,b_args1,b_lstM,b_tupM,b_chainM,b_ch1,b_ch2,b_part0,b_part1,b_prK,b_slM,b_seqM,b_ifM,b_if1,b_if2,b_skipM,b_dropM,b_retM,b_retF,b_retK,b_retN,b_bkM,b_ctM,b_retOw,b_asgM,b_asgK,b_out,b_nameT,b_tupT,b_tgs0,b_tgs1,b_asgF,b_asgFK,b_parM,b_parK,b_parX,b_parXK,b_setL0,b_setL1,b_setL2,b_mx0,b_mxS,b_mxF,b_mxK,b_forM,b_loop0,b_seqM',b_sq1,b_sq2,b_tupM',b_tp1,b_rng1M,b_rgK,b_enumM,b_zipM,b_zpK,b_zipSM,b_zsK,b_avs0,b_avs1,b_shA,b_lnA,b_callM,b_callF,b_callQ,b_callN,b_fm0,b_fm1,b_fm2,b_getA0,b_getA1,b_getA2,b_back0,b_back1,b_back2,b_setOw,b_flM,b_wrM,b_wrK,b_setIx,b_sxK,b_idxM,b_lenA,b_lnK,b_callPM,b_raiseF,b_rsK,b_init0,b_init1,b_init2,b_endF,b_outS0,b_outS1,b_outS2,b_rng3M,b_rgK3,b_setT,b_setTk,b_lstR1,b_lrK,b_dspM,b_dspI,b_dspS,b_enumFM,b_enK,b_lstR2,b_lr2K, lawS, ll, gtD, gtvD, c]) ?_
  simp only [lawS] at e3 e4 e5
  generalize lgO a b f1 L1 = D1 at *
  generalize D.lst (L1.map rD) = R2 at *
  generalize rD (now1, key, o, n) = rr at *
  simp [b_bd1,b_bd2,b_bd3,b_od1,b_od2,b_od3,b_th1,b_th2,b_th3,b_th4,b_th5,b_th6,b_fin1,b_fin2,b_fin3,b_runF,b_q1,b_q2,b_q3,b_n1,b_n2,b_qK,b_nK,b_ret,b_bnd,b_doM,b_lift,b_opM,b_unM,b_testM,b_tst,b_andM,b_and1,b_and2,b_orM,b_or1,b_or2,b_notM,b_iteM,b_ite1,b_ite2,b_andV,b_andV1,b_andV2,b_orV,b_orV1,b_orV2,b_notV,b_notK,b_shareM,b_shK,b_varM,b_peekM,b_args0,b_args1,b_lstM,b_tupM,b_chainM,b_ch1,b_ch2,b_part0,b_part1,b_prK,b_slM,b_seqM,b_ifM,b_if1,b_if2,b_skipM,b_dropM,b_retM,b_retF,b_retK,b_retN,b_bkM,b_ctM,b_retOw,b_asgM,b_asgK,b_out,b_nameT,b_tupT,b_tgs0,b_tgs1,b_asgF,b_asgFK,b_parM,b_parK,b_parX,b_parXK,b_setL0,b_setL1,b_setL2,b_mx0,b_mxS,b_mxF,b_mxK,b_forM,b_loop0,b_seqM',b_sq1,b_sq2,b_tupM',b_tp1,b_rng1M,b_rgK,b_enumM,b_zipM,b_zpK,b_zipSM,b_zsK,b_avs0,b_avs1,b_shA,b_lnA,b_callM,b_callF,b_callQ,b_callN,b_fm0,b_fm1,b_fm2,b_getA0,b_getA1,b_getA2,b_back0,b_back1,b_back2,b_setOw,b_flM,b_wrM,b_wrK,b_setIx,b_sxK,b_idxM,b_lenA,b_lnK,b_callPM,b_raiseF,b_rsK,b_init0,b_init1,b_init2,b_endF,b_outS0,b_outS1,b_outS2,b_rng3M,b_rgK3,b_setT,b_setTk,b_lstR1,b_lrK,b_dspM,b_dspI,b_dspS,b_enumFM,b_enK,b_lstR2,b_lr2K, lawS, e3, e4, e5]
end K12
namespace K12
open PySem L2 DL
local instance : TB := ⟨[]⟩
local instance : LC := ⟨fun _ => none⟩
theorem make_ok (a : Ad) {b : Int} {m : M D} {st s : DSt} (h : m st = .ok (.int b) s) (h0 : 0 ≤ b) (h1 : b ≤ 1000) : makeF a.c_ChangeLog [false] (m_fChangeLog___init__ a) [] (avsM [shA m]) st = .ok (lgO a b 0 []) s := by
  have e := init_eq a h0 h1
  generalize lgO a b 0 [] = D0 at *
  simp [b_bd1,b_bd2,b_bd3,b_od1,b_od2,b_od3,b_th1,b_th2,b_th3,b_th4,b_th5,b_th6,b_fin1,b_fin2,b_fin3,b_runF,b_q1,b_q2,b_q3,b_n1,b_n2,b_qK,b_nK,b_ret,b_bnd,b_doM,b_lift,b_opM,b_unM,b_testM,b_tst,b_andM,b_and1,b_and2,b_orM,b_or1,b_or2,b_notM,b_iteM,b_ite1,b_ite2,b_andV,b_andV1,b_andV2,b_orV,b_orV1,b_orV2,b_notV,b_notK,b_shareM,b_shK,b_varM,b_peekM,b_args0,b_args1,b_lstM,b_tupM,b_chainM,b_ch1,b_ch2,b_part0,b_part1,b_prK,b_slM,b_seqM,b_ifM,b_if1,b_if2,b_skipM,b_dropM,b_retM,b_retF,b_retK,b_retN,b_bkM,b_ctM,b_retOw,b_asgM,b_asgK,b_out,b_nameT,b_tupT,b_tgs0,b_tgs1,b_asgF,b_asgFK,b_parM,b_parK,b_parX,b_parXK,b_setL0,b_setL1,b_setL2,b_mx0,b_mxS,b_mxF,b_mxK,b_forM,b_loop0,b_seqM',b_sq1,b_sq2,b_tupM',b_tp1,b_rng1M,b_rgK,b_enumM,b_zipM,b_zpK,b_zipSM,b_zsK,b_avs0,b_avs1,b_shA,b_lnA,b_callM,b_callF,b_callQ,b_callN,b_fm0,b_fm1,b_fm2,b_getA0,b_getA1,b_getA2,b_back0,b_back1,b_back2,b_setOw,b_flM,b_wrM,b_wrK,b_setIx,b_sxK,b_idxM,b_lenA,b_lnK,b_callPM,b_raiseF,b_rsK,b_init0,b_init1,b_init2,b_endF,b_outS0,b_outS1,b_outS2,b_rng3M,b_rgK3,b_setT,b_setTk,b_lstR1,b_lrK,b_dspM,b_dspI,b_dspS,b_enumFM,b_enK,b_lstR2,b_lr2K, b_makeF, b_mkQ, h, e]
theorem make_no (a : Ad) {v : D} {m : M D} {st : DSt} (h : m st = .ok v st) (hc : m_fcheck_number a [v, .int 0, .int 1000] = .err (xN a v) [.non, .non, .non]) : shareB (makeF a.c_ChangeLog [false] (m_fChangeLog___init__ a) [] (avsM [shA m])) st = .err (xN a v) st := by
  have e := init_no a hc
  simp [b_bd1,b_bd2,b_bd3,b_od1,b_od2,b_od3,b_th1,b_th2,b_th3,b_th4,b_th5,b_th6,b_fin1,b_fin2,b_fin3,b_runF,b_q1,b_q2,b_q3,b_n1,b_n2,b_qK,b_nK,b_ret,b_bnd,b_doM,b_lift,b_opM,b_unM,b_testM,b_tst,b_andM,b_and1,b_and2,b_orM,b_or1,b_or2,b_notM,b_iteM,b_ite1,b_ite2,b_andV,b_andV1,b_andV2,b_orV,b_orV1,b_orV2,b_notV,b_notK,b_shareM,b_shK,b_varM,b_peekM,b_args0,b_args1,b_lstM,b_tupM,b_chainM,b_ch1,b_ch2,b_part0,b_part1,b_prK,b_slM,b_seqM,b_ifM,b_if1,b_if2,b_skipM,b_dropM,b_retM,b_retF,b_retK,b_retN,b_bkM,b_ctM,b_retOw,b_asgM,b_asgK,b_out,b_nameT,b_tupT,b_tgs0,b_tgs1,b_asgF,b_asgFK,b_parM,b_parK,b_parX,b_parXK,b_setL0,b_setL1,b_setL2,b_mx0,b_mxS,b_mxF,b_mxK,b_forM,b_loop0,b_seqM',b_sq1,b_sq2,b_tupM',b_tp1,b_rng1M,b_rgK,b_enumM,b_zipM,b_zpK,b_zipSM,b_zsK,b_avs0,b_avs1,b_shA,b_lnA,b_callM,b_callF,b_callQ,b_callN,b_fm0,b_fm1,b_fm2,b_getA0,b_getA1,b_getA2,b_back0,b_back1,b_back2,b_setOw,b_flM,b_wrM,b_wrK,b_setIx,b_sxK,b_idxM,b_lenA,b_lnK,b_callPM,b_raiseF,b_rsK,b_init0,b_init1,b_init2,b_endF,b_outS0,b_outS1,b_outS2,b_rng3M,b_rgK3,b_setT,b_setTk,b_lstR1,b_lrK,b_dspM,b_dspI,b_dspS,b_enumFM,b_enK,b_lstR2,b_lr2K, b_makeF, b_mkQ, b_shareB, h, e]
theorem share_ok (a : Ad) {b : Int} {m : M D} {st s : DSt} (h : m st = .ok (.int b) s) (h0 : 0 ≤ b) (h1 : b ≤ 1000) : shareB (makeF a.c_ChangeLog [false] (m_fChangeLog___init__ a) [] (avsM [shA m])) st = .ok (lgS a b 0 []) s := by
  rw [b_shareB, make_ok a h h0 h1]
  show shBK _ s = _
  rw [b_shBK, if_pos (vw_lg a b 0 []), unb_lg]
abbrev odS (K : D) (o1 : Option Slot) : DSt := [some (.sh K), o1, none, none, none, none, none, none, none, none, none, none]
theorem odd_turn (a : Ad) (nd : (es a).Nodup) (K v : D) (o1 : Option Slot) (hc : m_fcheck_number a [v, .int 0, .int 1000] = .err (xN a v) [.non, .non, .non]) (hr : RepOk v) : turnF (nameT 1) (bd0_flaw a) v (odS K o1) = .nx (odS K (some (.sh v))) := by
  obtain ⟨z, hz⟩ := hr
  have r := ref_num a nd (mb := mbL (mbs_flaw a)) (id := 0) (st := odS K (some (.sh v))) (lam_err rfl (make_no a (m := varM 1) rfl hc)) rfl hz
  have n0 := ne_int 1000
  simp only [odS] at r
  unfold bd0_flaw
  simp only [b_bd1,b_bd2,b_bd3,b_od1,b_od2,b_od3,b_th1,b_th2,b_th3,b_th4,b_th5,b_th6,b_fin1,b_fin2,b_fin3,b_runF,b_q1,b_q2,b_q3,b_n1,b_n2,b_qK,b_nK,b_ret,b_bnd,b_doM,b_lift,b_opM,b_unM,b_testM,b_tst,b_andM,b_and1,b_and2,b_orM,b_or1,b_or2,b_notM,b_iteM,b_ite1,b_ite2,b_andV,b_andV1,b_andV2,b_orV,b_orV1,b_orV2,b_notV,b_notK,b_shareM,b_shK,b_varM,b_peekM,b_args0,b_args1,b_lstM,b_tupM,b_chainM,b_ch1,b_ch2,b_part0,b_part1,b_prK,b_slM,b_seqM,b_ifM,b_if1,b_if2,b_skipM,b_dropM,b_retM,b_retF,b_retK,b_retN,b_bkM,b_ctM,b_retOw,b_asgM,b_asgK,b_out,b_nameT,b_tupT,b_tgs0,b_tgs1,b_asgF,b_asgFK,b_parM,b_parK,b_parX,b_parXK,b_setL0,b_setL1,b_setL2,b_mx0,b_mxS,b_mxF,b_mxK,b_forM,b_loop0,b_seqM',b_sq1,b_sq2,b_tupM',b_tp1,b_rng1M,b_rgK,b_enumM,b_zipM,b_zpK,b_zipSM,b_zsK,b_avs0,b_avs1,b_shA,b_lnA,b_callM,b_callF,b_callQ,b_callN,b_fm0,b_fm1,b_fm2,b_getA0,b_getA1,b_getA2,b_back0,b_back1,b_back2,b_setOw,b_flM,b_wrM,b_wrK,b_setIx,b_sxK,b_idxM,b_lenA,b_lnK,b_callPM,b_raiseF,b_rsK,b_init0,b_init1,b_init2,b_endF,b_outS0,b_outS1,b_outS2,b_rng3M,b_rgK3,b_setT,b_setTk,b_lstR1,b_lrK,b_dspM,b_dspI,b_dspS,b_enumFM,b_enK,b_lstR2,b_lr2K, b_endK,b_turnK1,b_turnK2,b_turnS,b_turnC,b_turnB,b_turnF,b_wipe0,b_wipe1,-List.getD_eq_getElem?_getD, odS, List.set_cons_succ, List.set_cons_zero, List.getElem?_cons_succ, List.getElem?_cons_zero, n0, r, fl_lst, Option.map_some, hz, ne3, if_true]
theorem odd_loop (a : Ad) (nd : (es a).Nodup) (K : D) : ∃ o1, loopM (nameT 1) (bd0_flaw a) [.int (-1), .int 1001, .non, .bl true, .str "5"] (odS K none) = .nx (odS K o1) := by
  obtain ⟨s, e, o1, rfl⟩ := loop_P (t := nameT 1) (b := bd0_flaw a) (I := fun st => ∃ o1, st = odS K o1) (ds := [.int (-1), .int 1001, .non, .bl true, .str "5"]) (st := odS K none) (fun d hd st hst => by
    obtain ⟨o1, rfl⟩ := hst
    have h : m_fcheck_number a [d, .int 0, .int 1000] = .err (xN a d) [.non, .non, .non] ∧ RepOk d := by
      simp only [List.mem_cons, List.not_mem_nil, or_false] at hd
      rcases hd with rfl | rfl | rfl | rfl | rfl
      · exact ⟨num_no a _ _ (by rw [in_range_int]; rfl), rep_int (by omega)⟩
      · exact ⟨num_no a _ _ (by rw [in_range_int]; rfl), rep_of (q := .int 1001) rfl (by decide +kernel)⟩
      · exact ⟨num_no a _ _ (range_no a _ _ (is_non a)), rep_of (q := .none) rfl (by decide +kernel)⟩
      · exact ⟨num_no a _ _ (range_no a _ _ (is_bl a true)), rep_of (q := .bool true) rfl (by decide +kernel)⟩
      · exact ⟨num_no a _ _ (range_no a _ _ (is_str a _)), rep_of (q := .str "5") rfl (by decide +kernel)⟩
    exact ⟨_, odd_turn a nd K d o1 h.1 h.2, _, rfl⟩) ⟨none, rfl⟩
  exact ⟨o1, e⟩
theorem big_turn (a : Ad) (nd : (es a).Nodup) (ns : List Int) (o1 o2 o3 o4 o5 o6 o7 o8 o9 o10 o11 : Option Slot) (k : Nat) (hk : k < 1000) :
    ∃ (q : Int × Int) (b f now : Int) (D5 D6 R : D) (t10 t11 : Option Slot), turnF (nameT 2) (bd2_flaw a) (.int (k : Nat)) [some (.sh (.kl (ns.map .int))), o1, o2, o3, o4, o5, o6, o7, o8, o9, o10, o11] = .nx (lawS (.kl (ns.map .int)) o1 (k : Nat) q b D5 D6 R f now t10 t11) := by
  obtain ⟨p, hp⟩ := hand_eq a ns k (by omega)
  obtain ⟨q1, v1, y1, d1, x1, m1⟩ := pick_ex a p (n := 5) (xs := [.int 0, .int 1, .int 2, .int 5, .int 1000]) rfl (by decide) (by decide)
  obtain ⟨q2, v2, d2, v20, v21⟩ := draw_ex a q1 (n := 13) (by omega) (by omega)
  obtain ⟨b, rfl, hb0, hb1⟩ : ∃ b : Int, y1 = .int b ∧ 0 ≤ b ∧ b ≤ 1000 := by
    simp only [List.mem_cons, List.not_mem_nil, or_false] at m1
    rcases m1 with rfl | rfl | rfl | rfl | rfl <;> exact ⟨_, rfl, by omega, by omega⟩
  generalize D.kl (ns.map .int) = K at *
  obtain ⟨s, lp, q, f, now, L, t10, t11, rfl, i1, i2, i3, i4⟩ := loop_I (t := nameT 10) (b := bd1_flaw a) (g := rgI 0) (xs := List.range v2.toNat) (I := fun i st => ∃ (q : Int × Int) (f now : Int) (L : List RW) (t10 t11 : Option Slot), st = lawS K o1 (k : Nat) q b (lgO a b f L) (lgO a b f L) (.lst (L.map rD)) f now t10 t11 ∧ (L.length : Int) ≤ b ∧ lastV f L = now ∧ 0 ≤ now ∧ now ≤ 3 * (i : Int)) (st := lawS K o1 (k : Nat) q2 b (lgO a b 0 []) (lgO a b 0 []) (.lst []) 0 0 o10 o11) (fun i hi st hst => by
    obtain ⟨q, f, now, L, t10, t11, rfl, i1, i2, i3, i4⟩ := hst
    rw [List.length_range] at hi
    obtain ⟨q', f', now', L', o11', e, j1, j2, j3, j4⟩ := law_turn a nd K o1 (k : Nat) q (rgI 0 (List.range v2.toNat)[i]) t10 t11 hb0 hb1 i1 i2 i3 (by omega)
    exact ⟨_, e, q', f', now', L', _, o11', rfl, j1, j2, by omega, by push_cast; omega⟩) ⟨q2, 0, 0, [], o10, o11, rfl, by simpa using hb0, rfl, by omega, by omega⟩
  have rg : -4611686018427387904 ≤ v2 ∧ v2 < 4611686018427387904 := by omega
  have c1 := cmp_lst a (b := b) (f := f) (L := L) (R := L) (i := 5) (j := 7) (mu := false) (mv := false) (st := lawS K o1 (k : Nat) q b (lgO a b f L) (lgO a b f L) (.lst (L.map rD)) f now t10 t11) (by decide) rfl rfl
  have c2 : cmpO false (cs a) a.c_ChangeLog [false, false] (m_fChangeLog___eq__ a) (shA (shareB (makeF a.c_ChangeLog [false] (m_fChangeLog___init__ a) [] (avsM [(shA (varM 4))])))) (shA (shareB (makeF a.c_ChangeLog [false] (m_fChangeLog___init__ a) [] (avsM [(shA (iteM (testM (opM ltD (peekM 4) (DL.ret (.int 1000)))) (opM addD (peekM 4) (DL.ret (.int 1))) (DL.ret (.int 3))))])))) (lawS K o1 (k : Nat) q b (lgO a b f L) (lgO a b f L) (.lst (L.map rD)) f now t10 t11) = .ok (.bl false) (lawS K o1 (k : Nat) q b (lgO a b f L) (lgO a b f L) (.lst (L.map rD)) f now t10 t11) := by
    obtain ⟨b2, hb2, n2, n0, n1⟩ : ∃ b2 : Int, iteM (testM (opM ltD (peekM 4) (DL.ret (.int 1000)))) (opM addD (peekM 4) (DL.ret (.int 1))) (DL.ret (.int 3)) (lawS K o1 (k : Nat) q b (lgO a b f L) (lgO a b f L) (.lst (L.map rD)) f now t10 t11) = .ok (.int b2) (lawS K o1 (k : Nat) q b (lgO a b f L) (lgO a b f L) (.lst (L.map rD)) f now t10 t11) ∧ b ≠ b2 ∧ 0 ≤ b2 ∧ b2 ≤ 1000 := by
      by_cases c : b < 1000
      · exact ⟨b + 1, by simp [b_bd1,b_bd2,b_bd3,b_od1,b_od2,b_od3,b_th1,b_th2,b_th3,b_th4,b_th5,b_th6,b_fin1,b_fin2,b_fin3,b_runF,b_q1,b_q2,b_q3,b_n1,b_n2,b_qK,b_nK,b_ret,b_bnd,b_doM,b_lift,b_opM,b_unM,b_testM,b_tst,b_andM,b_and1,b_and2,b_orM,b_or1,b_or2,b_notM,b_iteM,b_ite1,b_ite2,b_andV,b_andV1,b_andV2,b_orV,b_orV1,b_orV2,b_notV,b_notK,b_shareM,b_shK,b_varM,b_peekM,b_args0,b_args1,b_lstM,b_tupM,b_chainM,b_ch1,b_ch2,b_part0,b_part1,b_prK,b_slM,b_seqM,b_ifM,b_if1,b_if2,b_skipM,b_dropM,b_retM,b_retF,b_retK,b_retN,b_bkM,b_ctM,b_retOw,b_asgM,b_asgK,b_out,b_nameT,b_tupT,b_tgs0,b_tgs1,b_asgF,b_asgFK,b_parM,b_parK,b_parX,b_parXK,b_setL0,b_setL1,b_setL2,b_mx0,b_mxS,b_mxF,b_mxK,b_forM,b_loop0,b_seqM',b_sq1,b_sq2,b_tupM',b_tp1,b_rng1M,b_rgK,b_enumM,b_zipM,b_zpK,b_zipSM,b_zsK,b_avs0,b_avs1,b_shA,b_lnA,b_callM,b_callF,b_callQ,b_callN,b_fm0,b_fm1,b_fm2,b_getA0,b_getA1,b_getA2,b_back0,b_back1,b_back2,b_setOw,b_flM,b_wrM,b_wrK,b_setIx,b_sxK,b_idxM,b_lenA,b_lnK,b_callPM,b_raiseF,b_rsK,b_init0,b_init1,b_init2,b_endF,b_outS0,b_outS1,b_outS2,b_rng3M,b_rgK3,b_setT,b_setTk,b_lstR1,b_lrK,b_dspM,b_dspI,b_dspS,b_enumFM,b_enK,b_lstR2,b_lr2K, lawS, ltD, ltvD, c, addD], by omega, by omega, by omega⟩
      · exact ⟨3, by simp [b_bd1,b_bd2,b_bd3,b_od1,b_od2,b_od3,b_th1,b_th2,b_th3,b_th4,b_th5,b_th6,b_fin1,b_fin2,b_fin3,b_runF,b_q1,b_q2,b_q3,b_n1,b_n2,b_qK,b_nK,b_ret,b_bnd,b_doM,b_lift,b_opM,b_unM,b_testM,b_tst,b_andM,b_and1,b_and2,b_orM,b_or1,b_or2,b_notM,b_iteM,b_ite1,b_ite2,b_andV,b_andV1,b_andV2,b_orV,b_orV1,b_orV2,b_notV,b_notK,b_shareM,b_shK,b_varM,b_peekM,b_args0,b_args1,b_lstM,b_tupM,b_chainM,b_ch1,b_ch2,b_part0,b_part1,b_prK,b_slM,b_seqM,b_ifM,b_if1,b_if2,b_skipM,b_dropM,b_retM,b_retF,b_retK,b_retN,b_bkM,b_ctM,b_retOw,b_asgM,b_asgK,b_out,b_nameT,b_tupT,b_tgs0,b_tgs1,b_asgF,b_asgFK,b_parM,b_parK,b_parX,b_parXK,b_setL0,b_setL1,b_setL2,b_mx0,b_mxS,b_mxF,b_mxK,b_forM,b_loop0,b_seqM',b_sq1,b_sq2,b_tupM',b_tp1,b_rng1M,b_rgK,b_enumM,b_zipM,b_zpK,b_zipSM,b_zsK,b_avs0,b_avs1,b_shA,b_lnA,b_callM,b_callF,b_callQ,b_callN,b_fm0,b_fm1,b_fm2,b_getA0,b_getA1,b_getA2,b_back0,b_back1,b_back2,b_setOw,b_flM,b_wrM,b_wrK,b_setIx,b_sxK,b_idxM,b_lenA,b_lnK,b_callPM,b_raiseF,b_rsK,b_init0,b_init1,b_init2,b_endF,b_outS0,b_outS1,b_outS2,b_rng3M,b_rgK3,b_setT,b_setTk,b_lstR1,b_lrK,b_dspM,b_dspI,b_dspS,b_enumFM,b_enK,b_lstR2,b_lr2K, lawS, ltD, ltvD, c], by omega, by omega, by omega⟩
    have w1 := share_ok a (b := b) (m := varM 4) (st := lawS K o1 (k : Nat) q b (lgO a b f L) (lgO a b f L) (.lst (L.map rD)) f now t10 t11) rfl hb0 hb1
    have w2 := share_ok a hb2 n0 n1
    generalize lawS K o1 (k : Nat) q b (lgO a b f L) (lgO a b f L) (.lst (L.map rD)) f now t10 t11 = S at *
    have ob := obS a b 0 [] S (nm := Str.empty) (by decide) (by decide) (by decide)
    have kd : kindIn (cs a) (lgS a b2 0 []) = some (.obj a.c_ChangeLog) := by simp [lgS, kindIn, kindD, cs]
    have e := eq_lg a b 0 b2 0 [] []
    rw [eqv_bound n2] at e
    generalize lgS a b 0 [] = D1 at *
    generalize lgS a b2 0 [] = D2 at *
    generalize makeF a.c_ChangeLog [false] (m_fChangeLog___init__ a) [] (avsM [(shA (varM 4))]) = M1 at *
    generalize makeF a.c_ChangeLog [false] (m_fChangeLog___init__ a) [] (avsM [(shA (iteM (testM (opM ltD (peekM 4) (DL.ret (.int 1000)))) (opM addD (peekM 4) (DL.ret (.int 1))) (DL.ret (.int 3))))]) = M2 at *
    simp [b_bd1,b_bd2,b_bd3,b_od1,b_od2,b_od3,b_th1,b_th2,b_th3,b_th4,b_th5,b_th6,b_fin1,b_fin2,b_fin3,b_runF,b_q1,b_q2,b_q3,b_n1,b_n2,b_qK,b_nK,b_ret,b_bnd,b_doM,b_lift,b_opM,b_unM,b_testM,b_tst,b_andM,b_and1,b_and2,b_orM,b_or1,b_or2,b_notM,b_iteM,b_ite1,b_ite2,b_andV,b_andV1,b_andV2,b_orV,b_orV1,b_orV2,b_notV,b_notK,b_shareM,b_shK,b_varM,b_peekM,b_args0,b_args1,b_lstM,b_tupM,b_chainM,b_ch1,b_ch2,b_part0,b_part1,b_prK,b_slM,b_seqM,b_ifM,b_if1,b_if2,b_skipM,b_dropM,b_retM,b_retF,b_retK,b_retN,b_bkM,b_ctM,b_retOw,b_asgM,b_asgK,b_out,b_nameT,b_tupT,b_tgs0,b_tgs1,b_asgF,b_asgFK,b_parM,b_parK,b_parX,b_parXK,b_setL0,b_setL1,b_setL2,b_mx0,b_mxS,b_mxF,b_mxK,b_forM,b_loop0,b_seqM',b_sq1,b_sq2,b_tupM',b_tp1,b_rng1M,b_rgK,b_enumM,b_zipM,b_zpK,b_zipSM,b_zsK,b_avs0,b_avs1,b_shA,b_lnA,b_callM,b_callF,b_callQ,b_callN,b_fm0,b_fm1,b_fm2,b_getA0,b_getA1,b_getA2,b_back0,b_back1,b_back2,b_setOw,b_flM,b_wrM,b_wrK,b_setIx,b_sxK,b_idxM,b_lenA,b_lnK,b_callPM,b_raiseF,b_rsK,b_init0,b_init1,b_init2,b_endF,b_outS0,b_outS1,b_outS2,b_rng3M,b_rgK3,b_setT,b_setTk,b_lstR1,b_lrK,b_dspM,b_dspI,b_dspS,b_enumFM,b_enK,b_lstR2,b_lr2K, b_cmpO, b_cmpK, b_noErr, b_kindD, w1, w2, ob, kd, e]
  refine ⟨q, b, f, now, lgO a b f L, lgO a b f L, .lst (L.map rD), t10, t11, ?_⟩
  unfold bd2_flaw
  show seqM _ _ [some (.sh K), o1, some (.sh (.int (k : Nat))), o3, o4, o5, o6, o7, o8, o9, o10, o11] = _
  refine sq (s := [some (.sh K), o1, some (.sh (.int (k : Nat))), some (.ow false (pl p)), o4, o5, o6, o7, o8, o9, o10, o11]) (by simp [b_bd1,b_bd2,b_bd3,b_od1,b_od2,b_od3,b_th1,b_th2,b_th3,b_th4,b_th5,b_th6,b_fin1,b_fin2,b_fin3,b_runF,b_q1,b_q2,b_q3,b_n1,b_n2,b_qK,b_nK,b_ret,b_bnd,b_doM,b_lift,b_opM,b_unM,b_testM,b_tst,b_andM,b_and1,b_and2,b_orM,b_or1,b_or2,b_notM,b_iteM,b_ite1,b_ite2,b_andV,b_andV1,b_andV2,b_orV,b_orV1,b_orV2,b_notV,b_notK,b_shareM,b_shK,b_varM,b_peekM,b_args0,b_args1,b_lstM,b_tupM,b_chainM,b_ch1,b_ch2,b_part0,b_part1,b_prK,b_slM,b_seqM,b_ifM,b_if1,b_if2,b_skipM,b_dropM,b_retM,b_retF,b_retK,b_retN,b_bkM,b_ctM,b_retOw,b_asgM,b_asgK,b_out,b_nameT,b_tupT,b_tgs0,b_tgs1,b_asgF,b_asgFK,b_parM,b_parK,b_parX,b_parXK,b_setL0,b_setL1,b_setL2,b_mx0,b_mxS,b_mxF,b_mxK,b_forM,b_loop0,b_seqM',b_sq1,b_sq2,b_tupM',b_tp1,b_rng1M,b_rgK,b_enumM,b_zipM,b_zpK,b_zipSM,b_zsK,b_avs0,b_avs1,b_shA,b_lnA,b_callM,b_callF,b_callQ,b_callN,b_fm0,b_fm1,b_fm2,b_getA0,b_getA1,b_getA2,b_back0,b_back1,b_back2,b_setOw,b_flM,b_wrM,b_wrK,b_setIx,b_sxK,b_idxM,b_lenA,b_lnK,b_callPM,b_raiseF,b_rsK,b_init0,b_init1,b_init2,b_endF,b_outS0,b_outS1,b_outS2,b_rng3M,b_rgK3,b_setT,b_setTk,b_lstR1,b_lrK,b_dspM,b_dspI,b_dspS,b_enumFM,b_enK,b_lstR2,b_lr2K, hp]) ?_
  refine sq (s := [some (.sh K), o1, some (.sh (.int (k : Nat))), some (.ow false (pl q1)), some (.sh (.int b)), o5, o6, o7, o8, o9, o10, o11]) (by simp [b_bd1,b_bd2,b_bd3,b_od1,b_od2,b_od3,b_th1,b_th2,b_th3,b_th4,b_th5,b_th6,b_fin1,b_fin2,b_fin3,b_runF,b_q1,b_q2,b_q3,b_n1,b_n2,b_qK,b_nK,b_ret,b_bnd,b_doM,b_lift,b_opM,b_unM,b_testM,b_tst,b_andM,b_and1,b_and2,b_orM,b_or1,b_or2,b_notM,b_iteM,b_ite1,b_ite2,b_andV,b_andV1,b_andV2,b_orV,b_orV1,b_orV2,b_notV,b_notK,b_shareM,b_shK,b_varM,b_peekM,b_args0,b_args1,b_lstM,b_tupM,b_chainM,b_ch1,b_ch2,b_part0,b_part1,b_prK,b_slM,b_seqM,b_ifM,b_if1,b_if2,b_skipM,b_dropM,b_retM,b_retF,b_retK,b_retN,b_bkM,b_ctM,b_retOw,b_asgM,b_asgK,b_out,b_nameT,b_tupT,b_tgs0,b_tgs1,b_asgF,b_asgFK,b_parM,b_parK,b_parX,b_parXK,b_setL0,b_setL1,b_setL2,b_mx0,b_mxS,b_mxF,b_mxK,b_forM,b_loop0,b_seqM',b_sq1,b_sq2,b_tupM',b_tp1,b_rng1M,b_rgK,b_enumM,b_zipM,b_zpK,b_zipSM,b_zsK,b_avs0,b_avs1,b_shA,b_lnA,b_callM,b_callF,b_callQ,b_callN,b_fm0,b_fm1,b_fm2,b_getA0,b_getA1,b_getA2,b_back0,b_back1,b_back2,b_setOw,b_flM,b_wrM,b_wrK,b_setIx,b_sxK,b_idxM,b_lenA,b_lnK,b_callPM,b_raiseF,b_rsK,b_init0,b_init1,b_init2,b_endF,b_outS0,b_outS1,b_outS2,b_rng3M,b_rgK3,b_setT,b_setTk,b_lstR1,b_lrK,b_dspM,b_dspI,b_dspS,b_enumFM,b_enK,b_lstR2,b_lr2K, flatD, d1, x1]) ?_
  have mk := make_ok a (b := b) (m := varM 4) (st := [some (.sh K), o1, some (.sh (.int (k : Nat))), some (.ow false (pl q1)), some (.sh (.int b)), o5, o6, o7, o8, o9, o10, o11]) rfl hb0 hb1
  refine sq (s := lawS K o1 (k : Nat) q1 b (lgO a b 0 []) (lgO a b 0 []) (.lst []) 0 0 o10 o11) (by
    generalize lgO a b 0 [] = D0 at *
    generalize makeF a.c_ChangeLog [false] (m_fChangeLog___init__ a) [] (avsM [(shA (varM 4))]) = M1 at *
    simp [b_bd1,b_bd2,b_bd3,b_od1,b_od2,b_od3,b_th1,b_th2,b_th3,b_th4,b_th5,b_th6,b_fin1,b_fin2,b_fin3,b_runF,b_q1,b_q2,b_q3,b_n1,b_n2,b_qK,b_nK,b_ret,b_bnd,b_doM,b_lift,b_opM,b_unM,b_testM,b_tst,b_andM,b_and1,b_and2,b_orM,b_or1,b_or2,b_notM,b_iteM,b_ite1,b_ite2,b_andV,b_andV1,b_andV2,b_orV,b_orV1,b_orV2,b_notV,b_notK,b_shareM,b_shK,b_varM,b_peekM,b_args0,b_args1,b_lstM,b_tupM,b_chainM,b_ch1,b_ch2,b_part0,b_part1,b_prK,b_slM,b_seqM,b_ifM,b_if1,b_if2,b_skipM,b_dropM,b_retM,b_retF,b_retK,b_retN,b_bkM,b_ctM,b_retOw,b_asgM,b_asgK,b_out,b_nameT,b_tupT,b_tgs0,b_tgs1,b_asgF,b_asgFK,b_parM,b_parK,b_parX,b_parXK,b_setL0,b_setL1,b_setL2,b_mx0,b_mxS,b_mxF,b_mxK,b_forM,b_loop0,b_seqM',b_sq1,b_sq2,b_tupM',b_tp1,b_rng1M,b_rgK,b_enumM,b_zipM,b_zpK,b_zipSM,b_zsK,b_avs0,b_avs1,b_shA,b_lnA,b_callM,b_callF,b_callQ,b_callN,b_fm0,b_fm1,b_fm2,b_getA0,b_getA1,b_getA2,b_back0,b_back1,b_back2,b_setOw,b_flM,b_wrM,b_wrK,b_setIx,b_sxK,b_idxM,b_lenA,b_lnK,b_callPM,b_raiseF,b_rsK,b_init0,b_init1,b_init2,b_endF,b_outS0,b_outS1,b_outS2,b_rng3M,b_rgK3,b_setT,b_setTk,b_lstR1,b_lrK,b_dspM,b_dspI,b_dspS,b_enumFM,b_enK,b_lstR2,b_lr2K, b_mxB, b_mbK, lawS, mk, flatD]) ?_
  refine sq (s := lawS K o1 (k : Nat) q b (lgO a b f L) (lgO a b f L) (.lst (L.map rD)) f now t10 t11) (by
    rw [← rangeI] at lp
    generalize lgO a b f L = D1 at *
    generalize lgO a b 0 [] = D0 at *
    generalize D.lst (L.map rD) = R0 at *
    simp only [lawS] at lp
    simp [b_bd1,b_bd2,b_bd3,b_od1,b_od2,b_od3,b_th1,b_th2,b_th3,b_th4,b_th5,b_th6,b_fin1,b_fin2,b_fin3,b_runF,b_q1,b_q2,b_q3,b_n1,b_n2,b_qK,b_nK,b_ret,b_bnd,b_doM,b_lift,b_opM,b_unM,b_testM,b_tst,b_andM,b_and1,b_and2,b_orM,b_or1,b_or2,b_notM,b_iteM,b_ite1,b_ite2,b_andV,b_andV1,b_andV2,b_orV,b_orV1,b_orV2,b_notV,b_notK,b_shareM,b_shK,b_varM,b_peekM,b_args0,b_args1,b_lstM,b_tupM,b_chainM,b_ch1,b_ch2,b_part0,b_part1,b_prK,b_slM,b_seqM,b_ifM,b_if1,b_if2,b_skipM,b_dropM,b_retM,b_retF,b_retK,b_retN,b_bkM,b_ctM,b_retOw,b_asgM,b_asgK,b_out,b_nameT,b_tupT,b_tgs0,b_tgs1,b_asgF,b_asgFK,b_parM,b_parK,b_parX,b_parXK,b_setL0,b_setL1,b_setL2,b_mx0,b_mxS,b_mxF,b_mxK,b_forM,b_loop0,b_seqM',b_sq1,b_sq2,b_tupM',b_tp1,b_rng1M,b_rgK,b_enumM,b_zipM,b_zpK,b_zipSM,b_zsK,b_avs0,b_avs1,b_shA,b_lnA,b_callM,b_callF,b_callQ,b_callN,b_fm0,b_fm1,b_fm2,b_getA0,b_getA1,b_getA2,b_back0,b_back1,b_back2,b_setOw,b_flM,b_wrM,b_wrK,b_setIx,b_sxK,b_idxM,b_lenA,b_lnK,b_callPM,b_raiseF,b_rsK,b_init0,b_init1,b_init2,b_endF,b_outS0,b_outS1,b_outS2,b_rng3M,b_rgK3,b_setT,b_setTk,b_lstR1,b_lrK,b_dspM,b_dspI,b_dspS,b_enumFM,b_enK,b_lstR2,b_lr2K, lawS, d2, rg, lp]) ?_
  simp only [lawS] at c1 c2
  generalize lgO a b f L = D1 at *
  generalize D.lst (L.map rD) = R0 at *
  generalize shareB (makeF a.c_ChangeLog [false] (m_fChangeLog___init__ a) [] (avsM [(shA (varM 4))])) = M1 at *
  generalize shareB (makeF a.c_ChangeLog [false] (m_fChangeLog___init__ a) [] (avsM [(shA (iteM (testM (opM ltD (peekM 4) (DL.ret (.int 1000)))) (opM addD (peekM 4) (DL.ret (.int 1))) (DL.ret (.int 3))))])) = M2 at *
  simp [b_bd1,b_bd2,b_bd3,b_od1,b_od2,b_od3,b_th1,b_th2,b_th3,b_th4,b_th5,b_th6,b_fin1,b_fin2,b_fin3,b_runF,b_q1,b_q2,b_q3,b_n1,b_n2,b_qK,b_nK,b_ret,b_bnd,b_doM,b_lift,b_opM,b_unM,b_testM,b_tst,b_andM,b_and1,b_and2,b_orM,b_or1,b_or2,b_notM,b_iteM,b_ite1,b_ite2,b_andV,b_andV1,b_andV2,b_orV,b_orV1,b_orV2,b_notV,b_notK,b_shareM,b_shK,b_varM,b_peekM,b_args0,b_args1,b_lstM,b_tupM,b_chainM,b_ch1,b_ch2,b_part0,b_part1,b_prK,b_slM,b_seqM,b_ifM,b_if1,b_if2,b_skipM,b_dropM,b_retM,b_retF,b_retK,b_retN,b_bkM,b_ctM,b_retOw,b_asgM,b_asgK,b_out,b_nameT,b_tupT,b_tgs0,b_tgs1,b_asgF,b_asgFK,b_parM,b_parK,b_parX,b_parXK,b_setL0,b_setL1,b_setL2,b_mx0,b_mxS,b_mxF,b_mxK,b_forM,b_loop0,b_seqM',b_sq1,b_sq2,b_tupM',b_tp1,b_rng1M,b_rgK,b_enumM,b_zipM,b_zpK,b_zipSM,b_zsK,b_avs0,b_avs1,b_shA,b_lnA,b_callM,b_callF,b_callQ,b_callN,b_fm0,b_fm1,b_fm2,b_getA0,b_getA1,b_getA2,b_back0,b_back1,b_back2,b_setOw,b_flM,b_wrM,b_wrK,b_setIx,b_sxK,b_idxM,b_lenA,b_lnK,b_callPM,b_raiseF,b_rsK,b_init0,b_init1,b_init2,b_endF,b_outS0,b_outS1,b_outS2,b_rng3M,b_rgK3,b_setT,b_setTk,b_lstR1,b_lrK,b_dspM,b_dspI,b_dspS,b_enumFM,b_enK,b_lstR2,b_lr2K, lawS, c1, c2]
theorem law_true (a : Ad) (nd : (es a).Nodup) (ns : List Int) (hl : ns.length ≤ 63) : m_flaw a [.kl (ns.map .int)] = .ok false (.bl true) [.non] := by
  obtain ⟨w1, lp1⟩ := odd_loop a nd (.kl (ns.map .int))
  obtain ⟨n, hn, hn1⟩ : ∃ n : Nat, (if (2 : Int) < (if (12 : Int) < (ns.length : Int) then 12 else (ns.length : Int)) then (if (12 : Int) < (ns.length : Int) then 12 else (ns.length : Int)) else 2) = (n : Int) ∧ n ≤ 12 := by
    refine ⟨(if (2 : Int) < (if (12 : Int) < (ns.length : Int) then 12 else (ns.length : Int)) then (if (12 : Int) < (ns.length : Int) then 12 else (ns.length : Int)) else 2).toNat, ?_, ?_⟩
    · split <;> split <;> omega
    · split <;> split <;> omega
  obtain ⟨s, lp2, o1, o2, o3, o4, o5, o6, o7, o8, o9, o10, o11, rfl⟩ := loop_I (t := nameT 2) (b := bd2_flaw a) (g := rgI 0) (xs := List.range n) (I := fun _ st => ∃ o1 o2 o3 o4 o5 o6 o7 o8 o9 o10 o11 : Option Slot, st = [some (.sh (.kl (ns.map .int))), o1, o2, o3, o4, o5, o6, o7, o8, o9, o10, o11]) (st := odS (.kl (ns.map .int)) w1) (fun i hi st hst => by
    obtain ⟨o1, o2, o3, o4, o5, o6, o7, o8, o9, o10, o11, rfl⟩ := hst
    rw [List.length_range] at hi
    obtain ⟨q, b, f, now, D5, D6, R, t10, t11, e⟩ := big_turn a nd ns o1 o2 o3 o4 o5 o6 o7 o8 o9 o10 o11 i (by omega)
    have e' : turnF (nameT 2) (bd2_flaw a) (rgI 0 (List.range n)[i]) [some (.sh (.kl (ns.map .int))), o1, o2, o3, o4, o5, o6, o7, o8, o9, o10, o11] = .nx (lawS (.kl (ns.map .int)) o1 (i : Nat) q b D5 D6 R f now t10 t11) := by
      rw [show rgI 0 (List.range n)[i] = D.int (i : Nat) by simp [rgI]]
      exact e
    exact ⟨_, e', _, _, _, _, _, _, _, _, _, _, _, rfl⟩) ⟨_, _, _, _, _, _, _, _, _, _, _, rfl⟩
  have ll : lenD (.kl (ns.map .int)) = some (.int ns.length) := by
    have : ns.length ≤ 16777216 := by omega
    simp [lenD, this]
  have rg : -4611686018427387904 ≤ (n : Int) ∧ (n : Int) < 4611686018427387904 := by omega
  have mm : min2D (.int ns.length) (.int 12) = some (.int (if (12 : Int) < (ns.length : Int) then 12 else (ns.length : Int))) := rfl
  have mx : max2D (.int 2) (.int (if (12 : Int) < (ns.length : Int) then 12 else (ns.length : Int))) = some (.int (n : Int)) := by rw [← hn]; rfl
  have nk : noClo (.kl (ns.map .int)) = true := by
    have : ∀ l : List Int, noCloA (l.map .int) = true := fun l => by
      induction l with
      | nil => rfl
      | cons x l ih => rw [List.map_cons, noCloA, ih]; rfl
    simp [noClo, this]
  refine runC_ok ?_ (by rw [noCloA, nk]; rfl) (by simp [noClo]) (by simp [noCloA, noClo])
  rw [← rangeI] at lp2
  generalize (if (12 : Int) < (ns.length : Int) then 12 else (ns.length : Int)) = c at *
  generalize D.kl (ns.map .int) = K at *
  generalize (ns.length : Int) = l at *
  rw [b_runF]
  show (seqM _ _ (odS K none)).fin _ = _
  refine fs (s := odS K w1) (by simp only [odS] at lp1; simp [b_bd1,b_bd2,b_bd3,b_od1,b_od2,b_od3,b_th1,b_th2,b_th3,b_th4,b_th5,b_th6,b_fin1,b_fin2,b_fin3,b_runF,b_q1,b_q2,b_q3,b_n1,b_n2,b_qK,b_nK,b_ret,b_bnd,b_doM,b_lift,b_opM,b_unM,b_testM,b_tst,b_andM,b_and1,b_and2,b_orM,b_or1,b_or2,b_notM,b_iteM,b_ite1,b_ite2,b_andV,b_andV1,b_andV2,b_orV,b_orV1,b_orV2,b_notV,b_notK,b_shareM,b_shK,b_varM,b_peekM,b_args0,b_args1,b_lstM,b_tupM,b_chainM,b_ch1,b_ch2,b_part0,b_part1,b_prK,b_slM,b_seqM,b_ifM,b_if1,b_if2,b_skipM,b_dropM,b_retM,b_retF,b_retK,b_retN,b_bkM,b_ctM,b_retOw,b_asgM,b_asgK,b_out,b_nameT,b_tupT,b_tgs0,b_tgs1,b_asgF,b_asgFK,b_parM,b_parK,b_parX,b_parXK,b_setL0,b_setL1,b_setL2,b_mx0,b_mxS,b_mxF,b_mxK,b_forM,b_loop0,b_seqM',b_sq1,b_sq2,b_tupM',b_tp1,b_rng1M,b_rgK,b_enumM,b_zipM,b_zpK,b_zipSM,b_zsK,b_avs0,b_avs1,b_shA,b_lnA,b_callM,b_callF,b_callQ,b_callN,b_fm0,b_fm1,b_fm2,b_getA0,b_getA1,b_getA2,b_back0,b_back1,b_back2,b_setOw,b_flM,b_wrM,b_wrK,b_setIx,b_sxK,b_idxM,b_lenA,b_lnK,b_callPM,b_raiseF,b_rsK,b_init0,b_init1,b_init2,b_endF,b_outS0,b_outS1,b_outS2,b_rng3M,b_rgK3,b_setT,b_setTk,b_lstR1,b_lrK,b_dspM,b_dspI,b_dspS,b_enumFM,b_enK,b_lstR2,b_lr2K, odS, negI, flatD, lp1]) ?_
  refine fs (s := [some (.sh K), o1, o2, o3, o4, o5, o6, o7, o8, o9, o10, o11]) (by simp only [odS] at lp2; simp [b_bd1,b_bd2,b_bd3,b_od1,b_od2,b_od3,b_th1,b_th2,b_th3,b_th4,b_th5,b_th6,b_fin1,b_fin2,b_fin3,b_runF,b_q1,b_q2,b_q3,b_n1,b_n2,b_qK,b_nK,b_ret,b_bnd,b_doM,b_lift,b_opM,b_unM,b_testM,b_tst,b_andM,b_and1,b_and2,b_orM,b_or1,b_or2,b_notM,b_iteM,b_ite1,b_ite2,b_andV,b_andV1,b_andV2,b_orV,b_orV1,b_orV2,b_notV,b_notK,b_shareM,b_shK,b_varM,b_peekM,b_args0,b_args1,b_lstM,b_tupM,b_chainM,b_ch1,b_ch2,b_part0,b_part1,b_prK,b_slM,b_seqM,b_ifM,b_if1,b_if2,b_skipM,b_dropM,b_retM,b_retF,b_retK,b_retN,b_bkM,b_ctM,b_retOw,b_asgM,b_asgK,b_out,b_nameT,b_tupT,b_tgs0,b_tgs1,b_asgF,b_asgFK,b_parM,b_parK,b_parX,b_parXK,b_setL0,b_setL1,b_setL2,b_mx0,b_mxS,b_mxF,b_mxK,b_forM,b_loop0,b_seqM',b_sq1,b_sq2,b_tupM',b_tp1,b_rng1M,b_rgK,b_enumM,b_zipM,b_zpK,b_zipSM,b_zsK,b_avs0,b_avs1,b_shA,b_lnA,b_callM,b_callF,b_callQ,b_callN,b_fm0,b_fm1,b_fm2,b_getA0,b_getA1,b_getA2,b_back0,b_back1,b_back2,b_setOw,b_flM,b_wrM,b_wrK,b_setIx,b_sxK,b_idxM,b_lenA,b_lnK,b_callPM,b_raiseF,b_rsK,b_init0,b_init1,b_init2,b_endF,b_outS0,b_outS1,b_outS2,b_rng3M,b_rgK3,b_setT,b_setTk,b_lstR1,b_lrK,b_dspM,b_dspI,b_dspS,b_enumFM,b_enK,b_lstR2,b_lr2K, odS, ll, mm, mx, rg, lp2]) ?_
  simp [b_bd1,b_bd2,b_bd3,b_od1,b_od2,b_od3,b_th1,b_th2,b_th3,b_th4,b_th5,b_th6,b_fin1,b_fin2,b_fin3,b_runF,b_q1,b_q2,b_q3,b_n1,b_n2,b_qK,b_nK,b_ret,b_bnd,b_doM,b_lift,b_opM,b_unM,b_testM,b_tst,b_andM,b_and1,b_and2,b_orM,b_or1,b_or2,b_notM,b_iteM,b_ite1,b_ite2,b_andV,b_andV1,b_andV2,b_orV,b_orV1,b_orV2,b_notV,b_notK,b_shareM,b_shK,b_varM,b_peekM,b_args0,b_args1,b_lstM,b_tupM,b_chainM,b_ch1,b_ch2,b_part0,b_part1,b_prK,b_slM,b_seqM,b_ifM,b_if1,b_if2,b_skipM,b_dropM,b_retM,b_retF,b_retK,b_retN,b_bkM,b_ctM,b_retOw,b_asgM,b_asgK,b_out,b_nameT,b_tupT,b_tgs0,b_tgs1,b_asgF,b_asgFK,b_parM,b_parK,b_parX,b_parXK,b_setL0,b_setL1,b_setL2,b_mx0,b_mxS,b_mxF,b_mxK,b_forM,b_loop0,b_seqM',b_sq1,b_sq2,b_tupM',b_tp1,b_rng1M,b_rgK,b_enumM,b_zipM,b_zpK,b_zipSM,b_zsK,b_avs0,b_avs1,b_shA,b_lnA,b_callM,b_callF,b_callQ,b_callN,b_fm0,b_fm1,b_fm2,b_getA0,b_getA1,b_getA2,b_back0,b_back1,b_back2,b_setOw,b_flM,b_wrM,b_wrK,b_setIx,b_sxK,b_idxM,b_lenA,b_lnK,b_callPM,b_raiseF,b_rsK,b_init0,b_init1,b_init2,b_endF,b_outS0,b_outS1,b_outS2,b_rng3M,b_rgK3,b_setT,b_setTk,b_lstR1,b_lrK,b_dspM,b_dspI,b_dspS,b_enumFM,b_enK,b_lstR2,b_lr2K]
end K12
namespace K12
open PySem PySem.Spec PyProof.Rows L2 DL PySem.DLX
set_option maxHeartbeats 0 in
theorem all_mk {l : PySem.W.OpenLaw} {q : Program} {w : World} {K : PySem.W.Frag} {h : Heap} {mg : Str → Option Value} {c_ChangeLog e_InvalidNumber e_InvalidKey e_Forgotten fi_InvalidNumber fi_InvalidKey fi_Forgotten f_fis_integer f_fis_key f_fChangeLog_bound f_fChangeLog_floor f_fChangeLog_last f_fChangeLog_trim f_fChangeLog_changes f_fChangeLog___len__ f_fChangeLog___eq__ f_f_law_hand f_f_law_draw f_f_law_refused f_fin_range f_f_law_key f_fcheck_number f_fcheck_least f_fcheck_key f_fcheck_value f_fChangeLog___init__ f_fChangeLog_add f_fChangeLog_since f_f_law_shown f_f_law_bad f_flaw cd_f_law_shown cd_f_law_bad cd_flaw p_fChangeLog_bound p_fChangeLog_floor fa : Addr}
    {od_fis_integer an_fis_integer od_fis_key an_fis_key od_fChangeLog_bound an_fChangeLog_bound od_fChangeLog_floor an_fChangeLog_floor od_fChangeLog_last an_fChangeLog_last od_fChangeLog_trim an_fChangeLog_trim od_fChangeLog_changes an_fChangeLog_changes od_fChangeLog___len__ an_fChangeLog___len__ od_fChangeLog___eq__ an_fChangeLog___eq__ od_f_law_hand an_f_law_hand od_f_law_draw an_f_law_draw od_f_law_refused an_f_law_refused od_fin_range an_fin_range od_f_law_key an_f_law_key od_fcheck_number an_fcheck_number od_fcheck_least an_fcheck_least od_fcheck_key an_fcheck_key od_fcheck_value an_fcheck_value od_fChangeLog___init__ an_fChangeLog___init__ od_fChangeLog_add an_fChangeLog_add od_fChangeLog_since an_fChangeLog_since od_f_law_shown an_f_law_shown od_f_law_bad an_f_law_bad od_flaw an_flaw od_i_InvalidNumber an_i_InvalidNumber od_i_InvalidKey an_i_InvalidKey od_i_Forgotten an_i_Forgotten : Option Addr}
    {sl_fis_integer sl_fis_key sl_fChangeLog_bound sl_fChangeLog_floor sl_fChangeLog_last sl_fChangeLog_trim sl_fChangeLog_changes sl_fChangeLog___len__ sl_fChangeLog___eq__ sl_f_law_hand sl_f_law_draw sl_f_law_refused sl_fin_range sl_f_law_key sl_fcheck_number sl_fcheck_least sl_fcheck_key sl_fcheck_value sl_fChangeLog___init__ sl_fChangeLog_add sl_fChangeLog_since sl_f_law_shown sl_f_law_bad sl_flaw sl_i_InvalidNumber sl_i_InvalidKey sl_i_Forgotten : Array (Option Value)}
    {oc_fis_integer kV_fis_integer dc_fis_integer pm_fis_integer ct_fis_integer cd_fis_integer oc_fis_key kV_fis_key dc_fis_key pm_fis_key ct_fis_key cd_fis_key oc_fChangeLog_bound kV_fChangeLog_bound dc_fChangeLog_bound pm_fChangeLog_bound ct_fChangeLog_bound cd_fChangeLog_bound oc_fChangeLog_floor kV_fChangeLog_floor dc_fChangeLog_floor pm_fChangeLog_floor ct_fChangeLog_floor cd_fChangeLog_floor oc_fChangeLog_last kV_fChangeLog_last dc_fChangeLog_last pm_fChangeLog_last ct_fChangeLog_last cd_fChangeLog_last oc_fChangeLog_trim kV_fChangeLog_trim dc_fChangeLog_trim pm_fChangeLog_trim ct_fChangeLog_trim cd_fChangeLog_trim oc_fChangeLog_changes kV_fChangeLog_changes dc_fChangeLog_changes pm_fChangeLog_changes ct_fChangeLog_changes cd_fChangeLog_changes oc_fChangeLog___len__ kV_fChangeLog___len__ dc_fChangeLog___len__ pm_fChangeLog___len__ ct_fChangeLog___len__ cd_fChangeLog___len__ oc_fChangeLog___eq__ kV_fChangeLog___eq__ dc_fChangeLog___eq__ pm_fChangeLog___eq__ ct_fChangeLog___eq__ cd_fChangeLog___eq__ oc_f_law_hand kV_f_law_hand dc_f_law_hand pm_f_law_hand ct_f_law_hand cd_f_law_hand oc_f_law_draw kV_f_law_draw dc_f_law_draw pm_f_law_draw ct_f_law_draw cd_f_law_draw oc_f_law_refused kV_f_law_refused dc_f_law_refused pm_f_law_refused ct_f_law_refused cd_f_law_refused oc_fin_range kV_fin_range dc_fin_range pm_fin_range ct_fin_range cd_fin_range oc_f_law_key kV_f_law_key dc_f_law_key pm_f_law_key ct_f_law_key cd_f_law_key oc_fcheck_number kV_fcheck_number dc_fcheck_number pm_fcheck_number ct_fcheck_number cd_fcheck_number oc_fcheck_least kV_fcheck_least dc_fcheck_least pm_fcheck_least ct_fcheck_least cd_fcheck_least oc_fcheck_key kV_fcheck_key dc_fcheck_key pm_fcheck_key ct_fcheck_key cd_fcheck_key oc_fcheck_value kV_fcheck_value dc_fcheck_value pm_fcheck_value ct_fcheck_value cd_fcheck_value oc_fChangeLog___init__ kV_fChangeLog___init__ dc_fChangeLog___init__ pm_fChangeLog___init__ ct_fChangeLog___init__ cd_fChangeLog___init__ oc_fChangeLog_add kV_fChangeLog_add dc_fChangeLog_add pm_fChangeLog_add ct_fChangeLog_add cd_fChangeLog_add oc_fChangeLog_since kV_fChangeLog_since dc_fChangeLog_since pm_fChangeLog_since ct_fChangeLog_since cd_fChangeLog_since oc_f_law_shown kV_f_law_shown dc_f_law_shown pm_f_law_shown ct_f_law_shown oc_f_law_bad kV_f_law_bad dc_f_law_bad pm_f_law_bad ct_f_law_bad oc_flaw kV_flaw dc_flaw pm_flaw ct_flaw oc_i_InvalidNumber kV_i_InvalidNumber dc_i_InvalidNumber pm_i_InvalidNumber ct_i_InvalidNumber cd_i_InvalidNumber oc_i_InvalidKey kV_i_InvalidKey dc_i_InvalidKey pm_i_InvalidKey ct_i_InvalidKey cd_i_InvalidKey oc_i_Forgotten kV_i_Forgotten dc_i_Forgotten pm_i_Forgotten ct_i_Forgotten cd_i_Forgotten : Value}
    {nm_InvalidNumber qn_InvalidNumber nm_InvalidKey qn_InvalidKey nm_Forgotten qn_Forgotten : Str} {N_InvalidNumber N_InvalidKey N_Forgotten : Addr} {bs_InvalidNumber sb_InvalidNumber bs_InvalidKey sb_InvalidKey bs_Forgotten sb_Forgotten : List Value} {sn_InvalidNumber sn_InvalidKey sn_Forgotten : List Str} {ab_InvalidNumber ab_InvalidKey ab_Forgotten : Bool} {co_InvalidNumber co_InvalidKey co_Forgotten : Option Bool} {dd_InvalidNumber dd_InvalidKey dd_Forgotten : Option Addr} {k0_InvalidNumber k1_InvalidNumber k2_InvalidNumber k3_InvalidNumber k5_InvalidNumber k0_InvalidKey k1_InvalidKey k2_InvalidKey k3_InvalidKey k5_InvalidKey k0_Forgotten k1_Forgotten k2_Forgotten k3_Forgotten k5_Forgotten : Option Value}
    {rest_fChangeLog_bound rest_fChangeLog_floor : List Value}
    {tk_CHARACTERS tk_MAX_BOUND tk_MAX_LENGTH : Tok}
    (X : K.In h) (G : h.Ns mainGlobals mg) (hfa : mg "law" = some (.ref fa))
    (aC_ChangeLog : PySem.W.nsIn K mainGlobals "ChangeLog" = some (some (.ref c_ChangeLog)))
    (aE_InvalidNumber : PySem.W.nsIn K mainGlobals "InvalidNumber" = some (some (.ref e_InvalidNumber)))
    (aE_InvalidKey : PySem.W.nsIn K mainGlobals "InvalidKey" = some (some (.ref e_InvalidKey)))
    (aE_Forgotten : PySem.W.nsIn K mainGlobals "Forgotten" = some (some (.ref e_Forgotten)))
    (a_fis_integer : PySem.W.nsIn K mainGlobals "is_integer" = some (some (.ref f_fis_integer)))
    (l_fis_integer : K.lookup f_fis_integer = some ⟨oc_fis_integer, od_fis_integer, .func (PySem.W.fnOf "is_integer" "is_integer" (defArgs s_fis_integer) (defBody s_fis_integer) (defScope s_fis_integer) .none kV_fis_integer dc_fis_integer pm_fis_integer an_fis_integer cd_fis_integer ct_fis_integer), sl_fis_integer⟩)
    (c_fis_integer : PySem.W.codeIn K cd_fis_integer "is_integer" = true)
    (k_fis_integer : PySem.W.keepIn K (.ref f_fis_integer) = true)
    (a_fis_key : PySem.W.nsIn K mainGlobals "is_key" = some (some (.ref f_fis_key)))
    (l_fis_key : K.lookup f_fis_key = some ⟨oc_fis_key, od_fis_key, .func (PySem.W.fnOf "is_key" "is_key" (defArgs s_fis_key) (defBody s_fis_key) (defScope s_fis_key) .none kV_fis_key dc_fis_key pm_fis_key an_fis_key cd_fis_key ct_fis_key), sl_fis_key⟩)
    (c_fis_key : PySem.W.codeIn K cd_fis_key "is_key" = true)
    (k_fis_key : PySem.W.keepIn K (.ref f_fis_key) = true)
    (ap_fChangeLog_bound : PySem.W.findIn K (.ref c_ChangeLog) "bound" = some (some (.ref p_fChangeLog_bound)))
    (rp_fChangeLog_bound : PySem.W.recIn K p_fChangeLog_bound "property" = some (.ref f_fChangeLog_bound :: rest_fChangeLog_bound))
    (gp_fChangeLog_bound : PySem.W.specialIn K (.ref p_fChangeLog_bound) "__get__" = some (some (.builtin "property.__get__")))
    (tp_fChangeLog_bound : PySem.W.takesIn K (.ref p_fChangeLog_bound) = some true)
    (l_fChangeLog_bound : K.lookup f_fChangeLog_bound = some ⟨oc_fChangeLog_bound, od_fChangeLog_bound, .func (PySem.W.fnOf "bound" "ChangeLog.bound" (defArgs s_fChangeLog_bound) (defBody s_fChangeLog_bound) (defScope s_fChangeLog_bound) .none kV_fChangeLog_bound dc_fChangeLog_bound pm_fChangeLog_bound an_fChangeLog_bound cd_fChangeLog_bound ct_fChangeLog_bound), sl_fChangeLog_bound⟩)
    (c_fChangeLog_bound : PySem.W.codeIn K cd_fChangeLog_bound "ChangeLog.bound" = true)
    (k_fChangeLog_bound : PySem.W.keepIn K (.ref f_fChangeLog_bound) = true)
    (ap_fChangeLog_floor : PySem.W.findIn K (.ref c_ChangeLog) "floor" = some (some (.ref p_fChangeLog_floor)))
    (rp_fChangeLog_floor : PySem.W.recIn K p_fChangeLog_floor "property" = some (.ref f_fChangeLog_floor :: rest_fChangeLog_floor))
    (gp_fChangeLog_floor : PySem.W.specialIn K (.ref p_fChangeLog_floor) "__get__" = some (some (.builtin "property.__get__")))
    (tp_fChangeLog_floor : PySem.W.takesIn K (.ref p_fChangeLog_floor) = some true)
    (l_fChangeLog_floor : K.lookup f_fChangeLog_floor = some ⟨oc_fChangeLog_floor, od_fChangeLog_floor, .func (PySem.W.fnOf "floor" "ChangeLog.floor" (defArgs s_fChangeLog_floor) (defBody s_fChangeLog_floor) (defScope s_fChangeLog_floor) .none kV_fChangeLog_floor dc_fChangeLog_floor pm_fChangeLog_floor an_fChangeLog_floor cd_fChangeLog_floor ct_fChangeLog_floor), sl_fChangeLog_floor⟩)
    (c_fChangeLog_floor : PySem.W.codeIn K cd_fChangeLog_floor "ChangeLog.floor" = true)
    (k_fChangeLog_floor : PySem.W.keepIn K (.ref f_fChangeLog_floor) = true)
    (a_fChangeLog_last : PySem.W.findIn K (.ref c_ChangeLog) "last" = some (some (.ref f_fChangeLog_last)))
    (l_fChangeLog_last : K.lookup f_fChangeLog_last = some ⟨oc_fChangeLog_last, od_fChangeLog_last, .func (PySem.W.fnOf "last" "ChangeLog.last" (defArgs s_fChangeLog_last) (defBody s_fChangeLog_last) (defScope s_fChangeLog_last) .none kV_fChangeLog_last dc_fChangeLog_last pm_fChangeLog_last an_fChangeLog_last cd_fChangeLog_last ct_fChangeLog_last), sl_fChangeLog_last⟩)
    (c_fChangeLog_last : PySem.W.codeIn K cd_fChangeLog_last "ChangeLog.last" = true)
    (k_fChangeLog_last : PySem.W.keepIn K (.ref f_fChangeLog_last) = true)
    (i_fChangeLog_last : PySem.W.isFn K (.ref f_fChangeLog_last) = true)
    (a_fChangeLog_trim : PySem.W.findIn K (.ref c_ChangeLog) "trim" = some (some (.ref f_fChangeLog_trim)))
    (l_fChangeLog_trim : K.lookup f_fChangeLog_trim = some ⟨oc_fChangeLog_trim, od_fChangeLog_trim, .func (PySem.W.fnOf "trim" "ChangeLog.trim" (defArgs s_fChangeLog_trim) (defBody s_fChangeLog_trim) (defScope s_fChangeLog_trim) .none kV_fChangeLog_trim dc_fChangeLog_trim pm_fChangeLog_trim an_fChangeLog_trim cd_fChangeLog_trim ct_fChangeLog_trim), sl_fChangeLog_trim⟩)
    (c_fChangeLog_trim : PySem.W.codeIn K cd_fChangeLog_trim "ChangeLog.trim" = true)
    (k_fChangeLog_trim : PySem.W.keepIn K (.ref f_fChangeLog_trim) = true)
    (i_fChangeLog_trim : PySem.W.isFn K (.ref f_fChangeLog_trim) = true)
    (a_fChangeLog_changes : PySem.W.findIn K (.ref c_ChangeLog) "changes" = some (some (.ref f_fChangeLog_changes)))
    (l_fChangeLog_changes : K.lookup f_fChangeLog_changes = some ⟨oc_fChangeLog_changes, od_fChangeLog_changes, .func (PySem.W.fnOf "changes" "ChangeLog.changes" (defArgs s_fChangeLog_changes) (defBody s_fChangeLog_changes) (defScope s_fChangeLog_changes) .none kV_fChangeLog_changes dc_fChangeLog_changes pm_fChangeLog_changes an_fChangeLog_changes cd_fChangeLog_changes ct_fChangeLog_changes), sl_fChangeLog_changes⟩)
    (c_fChangeLog_changes : PySem.W.codeIn K cd_fChangeLog_changes "ChangeLog.changes" = true)
    (k_fChangeLog_changes : PySem.W.keepIn K (.ref f_fChangeLog_changes) = true)
    (i_fChangeLog_changes : PySem.W.isFn K (.ref f_fChangeLog_changes) = true)
    (a_fChangeLog___len__ : PySem.W.findIn K (.ref c_ChangeLog) "__len__" = some (some (.ref f_fChangeLog___len__)))
    (l_fChangeLog___len__ : K.lookup f_fChangeLog___len__ = some ⟨oc_fChangeLog___len__, od_fChangeLog___len__, .func (PySem.W.fnOf "__len__" "ChangeLog.__len__" (defArgs s_fChangeLog___len__) (defBody s_fChangeLog___len__) (defScope s_fChangeLog___len__) .none kV_fChangeLog___len__ dc_fChangeLog___len__ pm_fChangeLog___len__ an_fChangeLog___len__ cd_fChangeLog___len__ ct_fChangeLog___len__), sl_fChangeLog___len__⟩)
    (c_fChangeLog___len__ : PySem.W.codeIn K cd_fChangeLog___len__ "ChangeLog.__len__" = true)
    (k_fChangeLog___len__ : PySem.W.keepIn K (.ref f_fChangeLog___len__) = true)
    (i_fChangeLog___len__ : PySem.W.isFn K (.ref f_fChangeLog___len__) = true)
    (a_fChangeLog___eq__ : PySem.W.findIn K (.ref c_ChangeLog) "__eq__" = some (some (.ref f_fChangeLog___eq__)))
    (l_fChangeLog___eq__ : K.lookup f_fChangeLog___eq__ = some ⟨oc_fChangeLog___eq__, od_fChangeLog___eq__, .func (PySem.W.fnOf "__eq__" "ChangeLog.__eq__" (defArgs s_fChangeLog___eq__) (defBody s_fChangeLog___eq__) (defScope s_fChangeLog___eq__) .none kV_fChangeLog___eq__ dc_fChangeLog___eq__ pm_fChangeLog___eq__ an_fChangeLog___eq__ cd_fChangeLog___eq__ ct_fChangeLog___eq__), sl_fChangeLog___eq__⟩)
    (c_fChangeLog___eq__ : PySem.W.codeIn K cd_fChangeLog___eq__ "ChangeLog.__eq__" = true)
    (k_fChangeLog___eq__ : PySem.W.keepIn K (.ref f_fChangeLog___eq__) = true)
    (i_fChangeLog___eq__ : PySem.W.isFn K (.ref f_fChangeLog___eq__) = true)
    (a_f_law_hand : PySem.W.nsIn K mainGlobals "_law_hand" = some (some (.ref f_f_law_hand)))
    (l_f_law_hand : K.lookup f_f_law_hand = some ⟨oc_f_law_hand, od_f_law_hand, .func (PySem.W.fnOf "_law_hand" "_law_hand" (defArgs s_f_law_hand) (defBody s_f_law_hand) (defScope s_f_law_hand) .none kV_f_law_hand dc_f_law_hand pm_f_law_hand an_f_law_hand cd_f_law_hand ct_f_law_hand), sl_f_law_hand⟩)
    (c_f_law_hand : PySem.W.codeIn K cd_f_law_hand "_law_hand" = true)
    (k_f_law_hand : PySem.W.keepIn K (.ref f_f_law_hand) = true)
    (a_f_law_draw : PySem.W.nsIn K mainGlobals "_law_draw" = some (some (.ref f_f_law_draw)))
    (l_f_law_draw : K.lookup f_f_law_draw = some ⟨oc_f_law_draw, od_f_law_draw, .func (PySem.W.fnOf "_law_draw" "_law_draw" (defArgs s_f_law_draw) (defBody s_f_law_draw) (defScope s_f_law_draw) .none kV_f_law_draw dc_f_law_draw pm_f_law_draw an_f_law_draw cd_f_law_draw ct_f_law_draw), sl_f_law_draw⟩)
    (c_f_law_draw : PySem.W.codeIn K cd_f_law_draw "_law_draw" = true)
    (k_f_law_draw : PySem.W.keepIn K (.ref f_f_law_draw) = true)
    (a_f_law_refused : PySem.W.nsIn K mainGlobals "_law_refused" = some (some (.ref f_f_law_refused)))
    (l_f_law_refused : K.lookup f_f_law_refused = some ⟨oc_f_law_refused, od_f_law_refused, .func (PySem.W.fnOf "_law_refused" "_law_refused" (defArgs s_f_law_refused) (defBody s_f_law_refused) (defScope s_f_law_refused) .none kV_f_law_refused dc_f_law_refused pm_f_law_refused an_f_law_refused cd_f_law_refused ct_f_law_refused), sl_f_law_refused⟩)
    (c_f_law_refused : PySem.W.codeIn K cd_f_law_refused "_law_refused" = true)
    (k_f_law_refused : PySem.W.keepIn K (.ref f_f_law_refused) = true)
    (a_fin_range : PySem.W.nsIn K mainGlobals "in_range" = some (some (.ref f_fin_range)))
    (l_fin_range : K.lookup f_fin_range = some ⟨oc_fin_range, od_fin_range, .func (PySem.W.fnOf "in_range" "in_range" (defArgs s_fin_range) (defBody s_fin_range) (defScope s_fin_range) .none kV_fin_range dc_fin_range pm_fin_range an_fin_range cd_fin_range ct_fin_range), sl_fin_range⟩)
    (c_fin_range : PySem.W.codeIn K cd_fin_range "in_range" = true)
    (k_fin_range : PySem.W.keepIn K (.ref f_fin_range) = true)
    (a_f_law_key : PySem.W.nsIn K mainGlobals "_law_key" = some (some (.ref f_f_law_key)))
    (l_f_law_key : K.lookup f_f_law_key = some ⟨oc_f_law_key, od_f_law_key, .func (PySem.W.fnOf "_law_key" "_law_key" (defArgs s_f_law_key) (defBody s_f_law_key) (defScope s_f_law_key) .none kV_f_law_key dc_f_law_key pm_f_law_key an_f_law_key cd_f_law_key ct_f_law_key), sl_f_law_key⟩)
    (c_f_law_key : PySem.W.codeIn K cd_f_law_key "_law_key" = true)
    (k_f_law_key : PySem.W.keepIn K (.ref f_f_law_key) = true)
    (a_fcheck_number : PySem.W.nsIn K mainGlobals "check_number" = some (some (.ref f_fcheck_number)))
    (l_fcheck_number : K.lookup f_fcheck_number = some ⟨oc_fcheck_number, od_fcheck_number, .func (PySem.W.fnOf "check_number" "check_number" (defArgs s_fcheck_number) (defBody s_fcheck_number) (defScope s_fcheck_number) .none kV_fcheck_number dc_fcheck_number pm_fcheck_number an_fcheck_number cd_fcheck_number ct_fcheck_number), sl_fcheck_number⟩)
    (c_fcheck_number : PySem.W.codeIn K cd_fcheck_number "check_number" = true)
    (k_fcheck_number : PySem.W.keepIn K (.ref f_fcheck_number) = true)
    (a_fcheck_least : PySem.W.nsIn K mainGlobals "check_least" = some (some (.ref f_fcheck_least)))
    (l_fcheck_least : K.lookup f_fcheck_least = some ⟨oc_fcheck_least, od_fcheck_least, .func (PySem.W.fnOf "check_least" "check_least" (defArgs s_fcheck_least) (defBody s_fcheck_least) (defScope s_fcheck_least) .none kV_fcheck_least dc_fcheck_least pm_fcheck_least an_fcheck_least cd_fcheck_least ct_fcheck_least), sl_fcheck_least⟩)
    (c_fcheck_least : PySem.W.codeIn K cd_fcheck_least "check_least" = true)
    (k_fcheck_least : PySem.W.keepIn K (.ref f_fcheck_least) = true)
    (a_fcheck_key : PySem.W.nsIn K mainGlobals "check_key" = some (some (.ref f_fcheck_key)))
    (l_fcheck_key : K.lookup f_fcheck_key = some ⟨oc_fcheck_key, od_fcheck_key, .func (PySem.W.fnOf "check_key" "check_key" (defArgs s_fcheck_key) (defBody s_fcheck_key) (defScope s_fcheck_key) .none kV_fcheck_key dc_fcheck_key pm_fcheck_key an_fcheck_key cd_fcheck_key ct_fcheck_key), sl_fcheck_key⟩)
    (c_fcheck_key : PySem.W.codeIn K cd_fcheck_key "check_key" = true)
    (k_fcheck_key : PySem.W.keepIn K (.ref f_fcheck_key) = true)
    (a_fcheck_value : PySem.W.nsIn K mainGlobals "check_value" = some (some (.ref f_fcheck_value)))
    (l_fcheck_value : K.lookup f_fcheck_value = some ⟨oc_fcheck_value, od_fcheck_value, .func (PySem.W.fnOf "check_value" "check_value" (defArgs s_fcheck_value) (defBody s_fcheck_value) (defScope s_fcheck_value) .none kV_fcheck_value dc_fcheck_value pm_fcheck_value an_fcheck_value cd_fcheck_value ct_fcheck_value), sl_fcheck_value⟩)
    (c_fcheck_value : PySem.W.codeIn K cd_fcheck_value "check_value" = true)
    (k_fcheck_value : PySem.W.keepIn K (.ref f_fcheck_value) = true)
    (a_fChangeLog___init__ : PySem.W.findIn K (.ref c_ChangeLog) "__init__" = some (some (.ref f_fChangeLog___init__)))
    (l_fChangeLog___init__ : K.lookup f_fChangeLog___init__ = some ⟨oc_fChangeLog___init__, od_fChangeLog___init__, .func (PySem.W.fnOf "__init__" "ChangeLog.__init__" (defArgs s_fChangeLog___init__) (defBody s_fChangeLog___init__) (defScope s_fChangeLog___init__) .none kV_fChangeLog___init__ dc_fChangeLog___init__ pm_fChangeLog___init__ an_fChangeLog___init__ cd_fChangeLog___init__ ct_fChangeLog___init__), sl_fChangeLog___init__⟩)
    (c_fChangeLog___init__ : PySem.W.codeIn K cd_fChangeLog___init__ "ChangeLog.__init__" = true)
    (k_fChangeLog___init__ : PySem.W.keepIn K (.ref f_fChangeLog___init__) = true)
    (i_fChangeLog___init__ : PySem.W.isFn K (.ref f_fChangeLog___init__) = true)
    (a_fChangeLog_add : PySem.W.findIn K (.ref c_ChangeLog) "add" = some (some (.ref f_fChangeLog_add)))
    (l_fChangeLog_add : K.lookup f_fChangeLog_add = some ⟨oc_fChangeLog_add, od_fChangeLog_add, .func (PySem.W.fnOf "add" "ChangeLog.add" (defArgs s_fChangeLog_add) (defBody s_fChangeLog_add) (defScope s_fChangeLog_add) .none kV_fChangeLog_add dc_fChangeLog_add pm_fChangeLog_add an_fChangeLog_add cd_fChangeLog_add ct_fChangeLog_add), sl_fChangeLog_add⟩)
    (c_fChangeLog_add : PySem.W.codeIn K cd_fChangeLog_add "ChangeLog.add" = true)
    (k_fChangeLog_add : PySem.W.keepIn K (.ref f_fChangeLog_add) = true)
    (i_fChangeLog_add : PySem.W.isFn K (.ref f_fChangeLog_add) = true)
    (a_fChangeLog_since : PySem.W.findIn K (.ref c_ChangeLog) "since" = some (some (.ref f_fChangeLog_since)))
    (l_fChangeLog_since : K.lookup f_fChangeLog_since = some ⟨oc_fChangeLog_since, od_fChangeLog_since, .func (PySem.W.fnOf "since" "ChangeLog.since" (defArgs s_fChangeLog_since) (defBody s_fChangeLog_since) (defScope s_fChangeLog_since) .none kV_fChangeLog_since dc_fChangeLog_since pm_fChangeLog_since an_fChangeLog_since cd_fChangeLog_since ct_fChangeLog_since), sl_fChangeLog_since⟩)
    (c_fChangeLog_since : PySem.W.codeIn K cd_fChangeLog_since "ChangeLog.since" = true)
    (k_fChangeLog_since : PySem.W.keepIn K (.ref f_fChangeLog_since) = true)
    (i_fChangeLog_since : PySem.W.isFn K (.ref f_fChangeLog_since) = true)
    (a_f_law_shown : PySem.W.nsIn K mainGlobals "_law_shown" = some (some (.ref f_f_law_shown)))
    (l_f_law_shown : K.lookup f_f_law_shown = some ⟨oc_f_law_shown, od_f_law_shown, .func (PySem.W.fnOf "_law_shown" "_law_shown" (defArgs s_f_law_shown) (defBody s_f_law_shown) (defScope s_f_law_shown) .none kV_f_law_shown dc_f_law_shown pm_f_law_shown an_f_law_shown (.ref cd_f_law_shown) ct_f_law_shown), sl_f_law_shown⟩)
    (c_f_law_shown : PySem.W.codeIn K (.ref cd_f_law_shown) "_law_shown" = true)
    (k_f_law_shown : PySem.W.keepIn K (.ref f_f_law_shown) = true)
    (a_f_law_bad : PySem.W.nsIn K mainGlobals "_law_bad" = some (some (.ref f_f_law_bad)))
    (l_f_law_bad : K.lookup f_f_law_bad = some ⟨oc_f_law_bad, od_f_law_bad, .func (PySem.W.fnOf "_law_bad" "_law_bad" (defArgs s_f_law_bad) (defBody s_f_law_bad) (defScope s_f_law_bad) .none kV_f_law_bad dc_f_law_bad pm_f_law_bad an_f_law_bad (.ref cd_f_law_bad) ct_f_law_bad), sl_f_law_bad⟩)
    (c_f_law_bad : PySem.W.codeIn K (.ref cd_f_law_bad) "_law_bad" = true)
    (k_f_law_bad : PySem.W.keepIn K (.ref f_f_law_bad) = true)
    (a_flaw : PySem.W.nsIn K mainGlobals "law" = some (some (.ref f_flaw)))
    (l_flaw : K.lookup f_flaw = some ⟨oc_flaw, od_flaw, .func (PySem.W.fnOf "law" "law" (defArgs s_flaw) (defBody s_flaw) (defScope s_flaw) .none kV_flaw dc_flaw pm_flaw an_flaw (.ref cd_flaw) ct_flaw), sl_flaw⟩)
    (c_flaw : PySem.W.codeIn K (.ref cd_flaw) "law" = true)
    (k_flaw : PySem.W.keepIn K (.ref f_flaw) = true)
    (xl_InvalidNumber : K.lookup e_InvalidNumber = some (excClassObj nm_InvalidNumber qn_InvalidNumber e_InvalidNumber N_InvalidNumber bs_InvalidNumber [.type "ValueError", .type "Exception", .type "BaseException", .type "object"] true sn_InvalidNumber sb_InvalidNumber ab_InvalidNumber co_InvalidNumber dd_InvalidNumber k0_InvalidNumber k1_InvalidNumber k2_InvalidNumber k3_InvalidNumber k5_InvalidNumber "ValueError.__new__"))
    (xsa_InvalidNumber : PySem.W.findIn K (.ref e_InvalidNumber) "__setattr__" = some (some (.builtin "object.__setattr__")))
    (xex_InvalidNumber : PySem.W.subIn K (.ref e_InvalidNumber) (.type "BaseException") = some true)
    (xty_InvalidNumber : PySem.W.typeIn K (.ref e_InvalidNumber) = some (.type "type"))
    (xkk_InvalidNumber : PySem.W.keepIn K (.ref e_InvalidNumber) = true)
    (xga_InvalidNumber : PySem.W.findIn K (.ref e_InvalidNumber) "__getattribute__" = some (some (.builtin "BaseException.__getattribute__")))
    (xgg_InvalidNumber : PySem.W.findIn K (.ref e_InvalidNumber) "__getattr__" = some none)
    (xhd_InvalidNumber : PySem.W.hasDictIn K e_InvalidNumber = true)
    (xha_InvalidNumber : PySem.W.findIn K (.ref e_InvalidNumber) "__class__" = some (some (.builtin "object.__class__")))
    (xhm_InvalidNumber : PySem.W.mroIn K e_InvalidNumber (.type "object") = some true)
    (xkb_InvalidNumber_ValueError : PySem.W.mroIn K e_InvalidNumber (.type "ValueError") = some true)
    (xo_InvalidNumber : PySem.W.findIn K (.ref e_InvalidNumber) "value" = some none)
    (xi_InvalidNumber : PySem.W.findIn K (.ref e_InvalidNumber) "__init__" = some (some (.ref fi_InvalidNumber)))
    (xt_InvalidNumber : PySem.W.isFn K (.ref fi_InvalidNumber) = true)
    (l_i_InvalidNumber : K.lookup fi_InvalidNumber = some ⟨oc_i_InvalidNumber, od_i_InvalidNumber, .func (PySem.W.fnOf "__init__" "InvalidNumber.__init__" (defArgs si_InvalidNumber) (defBody si_InvalidNumber) (defScope si_InvalidNumber) .none kV_i_InvalidNumber dc_i_InvalidNumber pm_i_InvalidNumber an_i_InvalidNumber cd_i_InvalidNumber ct_i_InvalidNumber), sl_i_InvalidNumber⟩)
    (c_i_InvalidNumber : PySem.W.codeIn K cd_i_InvalidNumber "InvalidNumber.__init__" = true)
    (k_i_InvalidNumber : PySem.W.keepIn K (.ref fi_InvalidNumber) = true)
    (xl_InvalidKey : K.lookup e_InvalidKey = some (excClassObj nm_InvalidKey qn_InvalidKey e_InvalidKey N_InvalidKey bs_InvalidKey [.type "ValueError", .type "Exception", .type "BaseException", .type "object"] true sn_InvalidKey sb_InvalidKey ab_InvalidKey co_InvalidKey dd_InvalidKey k0_InvalidKey k1_InvalidKey k2_InvalidKey k3_InvalidKey k5_InvalidKey "ValueError.__new__"))
    (xsa_InvalidKey : PySem.W.findIn K (.ref e_InvalidKey) "__setattr__" = some (some (.builtin "object.__setattr__")))
    (xex_InvalidKey : PySem.W.subIn K (.ref e_InvalidKey) (.type "BaseException") = some true)
    (xty_InvalidKey : PySem.W.typeIn K (.ref e_InvalidKey) = some (.type "type"))
    (xkk_InvalidKey : PySem.W.keepIn K (.ref e_InvalidKey) = true)
    (xga_InvalidKey : PySem.W.findIn K (.ref e_InvalidKey) "__getattribute__" = some (some (.builtin "BaseException.__getattribute__")))
    (xgg_InvalidKey : PySem.W.findIn K (.ref e_InvalidKey) "__getattr__" = some none)
    (xhd_InvalidKey : PySem.W.hasDictIn K e_InvalidKey = true)
    (xha_InvalidKey : PySem.W.findIn K (.ref e_InvalidKey) "__class__" = some (some (.builtin "object.__class__")))
    (xhm_InvalidKey : PySem.W.mroIn K e_InvalidKey (.type "object") = some true)
    (xkb_InvalidKey_ValueError : PySem.W.mroIn K e_InvalidKey (.type "ValueError") = some true)
    (xo_InvalidKey : PySem.W.findIn K (.ref e_InvalidKey) "value" = some none)
    (xi_InvalidKey : PySem.W.findIn K (.ref e_InvalidKey) "__init__" = some (some (.ref fi_InvalidKey)))
    (xt_InvalidKey : PySem.W.isFn K (.ref fi_InvalidKey) = true)
    (l_i_InvalidKey : K.lookup fi_InvalidKey = some ⟨oc_i_InvalidKey, od_i_InvalidKey, .func (PySem.W.fnOf "__init__" "InvalidKey.__init__" (defArgs si_InvalidKey) (defBody si_InvalidKey) (defScope si_InvalidKey) .none kV_i_InvalidKey dc_i_InvalidKey pm_i_InvalidKey an_i_InvalidKey cd_i_InvalidKey ct_i_InvalidKey), sl_i_InvalidKey⟩)
    (c_i_InvalidKey : PySem.W.codeIn K cd_i_InvalidKey "InvalidKey.__init__" = true)
    (k_i_InvalidKey : PySem.W.keepIn K (.ref fi_InvalidKey) = true)
    (xl_Forgotten : K.lookup e_Forgotten = some (excClassObj nm_Forgotten qn_Forgotten e_Forgotten N_Forgotten bs_Forgotten [.type "LookupError", .type "Exception", .type "BaseException", .type "object"] true sn_Forgotten sb_Forgotten ab_Forgotten co_Forgotten dd_Forgotten k0_Forgotten k1_Forgotten k2_Forgotten k3_Forgotten k5_Forgotten "LookupError.__new__"))
    (xsa_Forgotten : PySem.W.findIn K (.ref e_Forgotten) "__setattr__" = some (some (.builtin "object.__setattr__")))
    (xex_Forgotten : PySem.W.subIn K (.ref e_Forgotten) (.type "BaseException") = some true)
    (xty_Forgotten : PySem.W.typeIn K (.ref e_Forgotten) = some (.type "type"))
    (xkk_Forgotten : PySem.W.keepIn K (.ref e_Forgotten) = true)
    (xga_Forgotten : PySem.W.findIn K (.ref e_Forgotten) "__getattribute__" = some (some (.builtin "BaseException.__getattribute__")))
    (xgg_Forgotten : PySem.W.findIn K (.ref e_Forgotten) "__getattr__" = some none)
    (xhd_Forgotten : PySem.W.hasDictIn K e_Forgotten = true)
    (xha_Forgotten : PySem.W.findIn K (.ref e_Forgotten) "__class__" = some (some (.builtin "object.__class__")))
    (xhm_Forgotten : PySem.W.mroIn K e_Forgotten (.type "object") = some true)
    (xkb_Forgotten_LookupError : PySem.W.mroIn K e_Forgotten (.type "LookupError") = some true)
    (xo_Forgotten : PySem.W.findIn K (.ref e_Forgotten) "until" = some none)
    (xi_Forgotten : PySem.W.findIn K (.ref e_Forgotten) "__init__" = some (some (.ref fi_Forgotten)))
    (xt_Forgotten : PySem.W.isFn K (.ref fi_Forgotten) = true)
    (l_i_Forgotten : K.lookup fi_Forgotten = some ⟨oc_i_Forgotten, od_i_Forgotten, .func (PySem.W.fnOf "__init__" "Forgotten.__init__" (defArgs si_Forgotten) (defBody si_Forgotten) (defScope si_Forgotten) .none kV_i_Forgotten dc_i_Forgotten pm_i_Forgotten an_i_Forgotten cd_i_Forgotten ct_i_Forgotten), sl_i_Forgotten⟩)
    (c_i_Forgotten : PySem.W.codeIn K cd_i_Forgotten "Forgotten.__init__" = true)
    (k_i_Forgotten : PySem.W.keepIn K (.ref fi_Forgotten) = true)
    (hd_f_law_shown : PySem.W.codeHdIn K cd_f_law_shown (tabOf K cd_f_law_shown) = true)
    (no_f_law_shown : K.lookup (tabOf K cd_f_law_shown) = none)
    (rq_f_law_shown : ((recsOf q).any fun e => e.name == "_law_shown") = true)
    (hd_f_law_bad : PySem.W.codeHdIn K cd_f_law_bad (tabOf K cd_f_law_bad) = true)
    (no_f_law_bad : K.lookup (tabOf K cd_f_law_bad) = none)
    (rq_f_law_bad : ((recsOf q).any fun e => e.name == "_law_bad") = true)
    (hd_flaw : PySem.W.codeHdIn K cd_flaw (tabOf K cd_flaw) = true)
    (no_flaw : K.lookup (tabOf K cd_flaw) = none)
    (rq_flaw : ((recsOf q).any fun e => e.name == "law") = true)
    (pnd : ndA [tabOf K cd_f_law_shown, tabOf K cd_f_law_bad, tabOf K cd_flaw] = true)
    (esnd : ndA [e_InvalidNumber, e_InvalidKey, e_Forgotten] = true)
    (pg_ChangeLog : PySem.W.plainGet K c_ChangeLog Str.empty = true)
    (hd_ChangeLog : PySem.W.hasDictIn K c_ChangeLog = true)
    (po_ChangeLog : PySem.W.plainOver K c_ChangeLog = true)
    (sa_ChangeLog : PySem.W.findIn K (.ref c_ChangeLog) "__setattr__" = some (some (.builtin "object.__setattr__")))
    (ha_ChangeLog : PySem.W.findIn K (.ref c_ChangeLog) "__class__" = some (some (.builtin "object.__class__")))
    (hm_ChangeLog : PySem.W.mroIn K c_ChangeLog (.type "object") = some true)
    (kt_ChangeLog_int : PySem.W.mroIn K c_ChangeLog (.type "int") = some false)
    (kt_ChangeLog_str : PySem.W.mroIn K c_ChangeLog (.type "str") = some false)
    (kt_ChangeLog_list : PySem.W.mroIn K c_ChangeLog (.type "list") = some false)
    (kt_ChangeLog_tuple : PySem.W.mroIn K c_ChangeLog (.type "tuple") = some false)
    (kt_ChangeLog_dict : PySem.W.mroIn K c_ChangeLog (.type "dict") = some false)
    (kt_ChangeLog_bool : PySem.W.mroIn K c_ChangeLog (.type "bool") = some false)
    (mk_ChangeLog : PySem.W.makesIn K c_ChangeLog = true)
    (kc_ChangeLog : PySem.W.keepIn K (.ref c_ChangeLog) = true)
    (ne_ChangeLog : PySem.W.findIn K (.ref c_ChangeLog) "__ne__" = some (some (.builtin "object.__ne__")))
    (ty_ChangeLog : PySem.W.typeIn K (.ref c_ChangeLog) = some (.type "type"))
    (hn_ : PySem.W.specialIn K (.builtin "object.__class__") "__get__" = some (some (.builtin "getset_descriptor.__get__")))
    (htk_ : PySem.W.takesIn K (.builtin "object.__class__") = some true)
    (na_ChangeLog_own_bound : PySem.W.findIn K (.ref c_ChangeLog) "own_bound" = some none)
    (na_ChangeLog_own_changes : PySem.W.findIn K (.ref c_ChangeLog) "own_changes" = some none)
    (na_ChangeLog_own_floor : PySem.W.findIn K (.ref c_ChangeLog) "own_floor" = some none)
    (n_LookupError : PySem.W.nsIn K mainGlobals "LookupError" = some none)
    (n_ValueError : PySem.W.nsIn K mainGlobals "ValueError" = some none)
    (n_all : PySem.W.nsIn K mainGlobals "all" = some none)
    (n_bool : PySem.W.nsIn K mainGlobals "bool" = some none)
    (n_int : PySem.W.nsIn K mainGlobals "int" = some none)
    (n_isinstance : PySem.W.nsIn K mainGlobals "isinstance" = some none)
    (n_len : PySem.W.nsIn K mainGlobals "len" = some none)
    (n_list : PySem.W.nsIn K mainGlobals "list" = some none)
    (n_max : PySem.W.nsIn K mainGlobals "max" = some none)
    (n_min : PySem.W.nsIn K mainGlobals "min" = some none)
    (n_range : PySem.W.nsIn K mainGlobals "range" = some none)
    (n_repr : PySem.W.nsIn K mainGlobals "repr" = some none)
    (n_str : PySem.W.nsIn K mainGlobals "str" = some none)
    (v_CHARACTERS : PySem.W.nsIn K mainGlobals "CHARACTERS" = some (some (.str "abcdefghijklmnopqrstuvwxyz0123456789" tk_CHARACTERS)))
    (v_MAX_BOUND : PySem.W.nsIn K mainGlobals "MAX_BOUND" = some (some (.int 1000 tk_MAX_BOUND)))
    (v_MAX_LENGTH : PySem.W.nsIn K mainGlobals "MAX_LENGTH" = some (some (.int 20 tk_MAX_LENGTH)))
    : ∃ (fd : FuncData) (cs : List (Addr × Addr)) (T : List (Addr × Str)), (∀ p ∈ cs, ∃ (nm : Str) (a : Addr) (o : Obj) (fd' : FuncData), ((recsOf q).any fun e => e.name == nm) = true ∧ mg nm = some (.ref a) ∧ K.lookup a = some o ∧ o.data = .func fd' ∧ fd'.code = .ref p.1) ∧
      (∀ p ∈ cs, K.lookup p.2 = none) ∧ (∀ p ∈ cs, PySem.W.CodeHd h p.1 p.2) ∧ (∀ p ∈ T, ∃ c, (c, p.1) ∈ cs) ∧ (∀ (s : Shared) (u : Value), BindsTo s fd ⟨[u], []⟩ [("script", u)]) ∧
      ∀ base : Heap, K.In base → base.Ns mainGlobals mg → (∀ p ∈ cs, LamX.TabB base mg p.1 p.2) → DL.FnOk l.prog w K mg base (CX l.prog w) 8 fa fd ["script"] (@spLaw ⟨T⟩ K) := by
  have e := hfa.symm.trans (PySem.W.mg_of X G a_flaw)
  cases e
  letI : TB := ⟨[(tabOf K cd_f_law_shown, q_f_law_shown), (tabOf K cd_f_law_bad, q_f_law_bad), (tabOf K cd_flaw, q_flaw)]⟩
  letI : LC := ⟨fun _ => none⟩
  have F_fis_integer := fun_mk (st := s_fis_integer) l_fis_integer c_fis_integer k_fis_integer
  have b_fis_integer := F_fis_integer.binds (ps := ["value"]) fun _ _ _ _ _ _ us hl => match us, hl with | [_], _ => rfl
  have F_fis_key := fun_mk (st := s_fis_key) l_fis_key c_fis_key k_fis_key
  have b_fis_key := F_fis_key.binds (ps := ["value"]) fun _ _ _ _ _ _ us hl => match us, hl with | [_], _ => rfl
  have F_fChangeLog_bound := fun_mk (st := s_fChangeLog_bound) l_fChangeLog_bound c_fChangeLog_bound k_fChangeLog_bound
  have b_fChangeLog_bound := F_fChangeLog_bound.binds (ps := ["self"]) fun _ _ _ _ _ _ us hl => match us, hl with | [_], _ => rfl
  have F_fChangeLog_floor := fun_mk (st := s_fChangeLog_floor) l_fChangeLog_floor c_fChangeLog_floor k_fChangeLog_floor
  have b_fChangeLog_floor := F_fChangeLog_floor.binds (ps := ["self"]) fun _ _ _ _ _ _ us hl => match us, hl with | [_], _ => rfl
  have F_fChangeLog_last := fun_mk (st := s_fChangeLog_last) l_fChangeLog_last c_fChangeLog_last k_fChangeLog_last
  have b_fChangeLog_last := F_fChangeLog_last.binds (ps := ["self"]) fun _ _ _ _ _ _ us hl => match us, hl with | [_], _ => rfl
  have F_fChangeLog_trim := fun_mk (st := s_fChangeLog_trim) l_fChangeLog_trim c_fChangeLog_trim k_fChangeLog_trim
  have b_fChangeLog_trim := F_fChangeLog_trim.binds (ps := ["self"]) fun _ _ _ _ _ _ us hl => match us, hl with | [_], _ => rfl
  have F_fChangeLog_changes := fun_mk (st := s_fChangeLog_changes) l_fChangeLog_changes c_fChangeLog_changes k_fChangeLog_changes
  have b_fChangeLog_changes := F_fChangeLog_changes.binds (ps := ["self"]) fun _ _ _ _ _ _ us hl => match us, hl with | [_], _ => rfl
  have F_fChangeLog___len__ := fun_mk (st := s_fChangeLog___len__) l_fChangeLog___len__ c_fChangeLog___len__ k_fChangeLog___len__
  have b_fChangeLog___len__ := F_fChangeLog___len__.binds (ps := ["self"]) fun _ _ _ _ _ _ us hl => match us, hl with | [_], _ => rfl
  have F_fChangeLog___eq__ := fun_mk (st := s_fChangeLog___eq__) l_fChangeLog___eq__ c_fChangeLog___eq__ k_fChangeLog___eq__
  have b_fChangeLog___eq__ := F_fChangeLog___eq__.binds (ps := ["self", "other"]) fun _ _ _ _ _ _ us hl => match us, hl with | [_, _], _ => rfl
  have F_f_law_hand := fun_mk (st := s_f_law_hand) l_f_law_hand c_f_law_hand k_f_law_hand
  have b_f_law_hand := F_f_law_hand.binds (ps := ["script", "k"]) fun _ _ _ _ _ _ us hl => match us, hl with | [_, _], _ => rfl
  have F_f_law_draw := fun_mk (st := s_f_law_draw) l_f_law_draw c_f_law_draw k_f_law_draw
  have b_f_law_draw := F_f_law_draw.binds (ps := ["pool", "size"]) fun _ _ _ _ _ _ us hl => match us, hl with | [_, _], _ => rfl
  have F_f_law_refused := fun_mk (st := s_f_law_refused) l_f_law_refused c_f_law_refused k_f_law_refused
  have b_f_law_refused := F_f_law_refused.binds (ps := ["call"]) fun _ _ _ _ _ _ us hl => match us, hl with | [_], _ => rfl
  have F_fin_range := fun_mk (st := s_fin_range) l_fin_range c_fin_range k_fin_range
  have b_fin_range := F_fin_range.binds (ps := ["value", "least", "most"]) fun _ _ _ _ _ _ us hl => match us, hl with | [_, _, _], _ => rfl
  have F_f_law_key := fun_mk (st := s_f_law_key) l_f_law_key c_f_law_key k_f_law_key
  have b_f_law_key := F_f_law_key.binds (ps := ["pool", "most"]) fun _ _ _ _ _ _ us hl => match us, hl with | [_, _], _ => rfl
  have F_fcheck_number := fun_mk (st := s_fcheck_number) l_fcheck_number c_fcheck_number k_fcheck_number
  have b_fcheck_number := F_fcheck_number.binds (ps := ["value", "least", "most"]) fun _ _ _ _ _ _ us hl => match us, hl with | [_, _, _], _ => rfl
  have F_fcheck_least := fun_mk (st := s_fcheck_least) l_fcheck_least c_fcheck_least k_fcheck_least
  have b_fcheck_least := F_fcheck_least.binds (ps := ["value", "least"]) fun _ _ _ _ _ _ us hl => match us, hl with | [_, _], _ => rfl
  have F_fcheck_key := fun_mk (st := s_fcheck_key) l_fcheck_key c_fcheck_key k_fcheck_key
  have b_fcheck_key := F_fcheck_key.binds (ps := ["value"]) fun _ _ _ _ _ _ us hl => match us, hl with | [_], _ => rfl
  have F_fcheck_value := fun_mk (st := s_fcheck_value) l_fcheck_value c_fcheck_value k_fcheck_value
  have b_fcheck_value := F_fcheck_value.binds (ps := ["value"]) fun _ _ _ _ _ _ us hl => match us, hl with | [_], _ => rfl
  have F_fChangeLog___init__ := fun_mk (st := s_fChangeLog___init__) l_fChangeLog___init__ c_fChangeLog___init__ k_fChangeLog___init__
  have b_fChangeLog___init__ := F_fChangeLog___init__.binds (ps := ["self", "bound"]) fun _ _ _ _ _ _ us hl => match us, hl with | [_, _], _ => rfl
  have F_fChangeLog_add := fun_mk (st := s_fChangeLog_add) l_fChangeLog_add c_fChangeLog_add k_fChangeLog_add
  have b_fChangeLog_add := F_fChangeLog_add.binds (ps := ["self", "moment", "key", "old", "new"]) fun _ _ _ _ _ _ us hl => match us, hl with | [_, _, _, _, _], _ => rfl
  have F_fChangeLog_since := fun_mk (st := s_fChangeLog_since) l_fChangeLog_since c_fChangeLog_since k_fChangeLog_since
  have b_fChangeLog_since := F_fChangeLog_since.binds (ps := ["self", "moment"]) fun _ _ _ _ _ _ us hl => match us, hl with | [_, _], _ => rfl
  have F_f_law_shown := fun_mk (st := s_f_law_shown) l_f_law_shown c_f_law_shown k_f_law_shown
  have b_f_law_shown := F_f_law_shown.binds (ps := ["log", "rows", "floor", "bound", "now"]) fun _ _ _ _ _ _ us hl => match us, hl with | [_, _, _, _, _], _ => rfl
  have F_f_law_bad := fun_mk (st := s_f_law_bad) l_f_law_bad c_f_law_bad k_f_law_bad
  have b_f_law_bad := F_f_law_bad.binds (ps := ["pool", "log", "now"]) fun _ _ _ _ _ _ us hl => match us, hl with | [_, _, _], _ => rfl
  have F_flaw := fun_mk (st := s_flaw) l_flaw c_flaw k_flaw
  have b_flaw := F_flaw.binds (ps := ["script"]) fun _ _ _ _ _ _ us hl => match us, hl with | [_], _ => rfl
  have F_i_InvalidNumber := fun_mk (st := si_InvalidNumber) l_i_InvalidNumber c_i_InvalidNumber k_i_InvalidNumber
  have b_i_InvalidNumber := F_i_InvalidNumber.binds (ps := ["self", "value"]) fun _ _ _ _ _ _ us hl => match us, hl with | [_, _], _ => rfl
  have F_i_InvalidKey := fun_mk (st := si_InvalidKey) l_i_InvalidKey c_i_InvalidKey k_i_InvalidKey
  have b_i_InvalidKey := F_i_InvalidKey.binds (ps := ["self", "value"]) fun _ _ _ _ _ _ us hl => match us, hl with | [_, _], _ => rfl
  have F_i_Forgotten := fun_mk (st := si_Forgotten) l_i_Forgotten c_i_Forgotten k_i_Forgotten
  have b_i_Forgotten := F_i_Forgotten.binds (ps := ["self", "until"]) fun _ _ _ _ _ _ us hl => match us, hl with | [_, _], _ => rfl
  have nd : (List.map (·.1) ([(tabOf K cd_f_law_shown, q_f_law_shown), (tabOf K cd_f_law_bad, q_f_law_bad), (tabOf K cd_flaw, q_flaw)] : List (Addr × Str))).Nodup := ndA_nd pnd
  refine ⟨PySem.W.fnOf "law" "law" (defArgs s_flaw) (defBody s_flaw) (defScope s_flaw) .none kV_flaw dc_flaw pm_flaw an_flaw (.ref cd_flaw) ct_flaw, [(cd_f_law_shown, tabOf K cd_f_law_shown), (cd_f_law_bad, tabOf K cd_f_law_bad), (cd_flaw, tabOf K cd_flaw)], [(tabOf K cd_f_law_shown, q_f_law_shown), (tabOf K cd_f_law_bad, q_f_law_bad), (tabOf K cd_flaw, q_flaw)],
    (by
    intro p hp
    simp only [List.mem_cons, List.not_mem_nil, or_false] at hp
    rcases hp with rfl | rfl | rfl
    · exact ⟨"_law_shown", f_f_law_shown, _, _, rq_f_law_shown, PySem.W.mg_of X G a_f_law_shown, l_f_law_shown, rfl, rfl⟩
    · exact ⟨"_law_bad", f_f_law_bad, _, _, rq_f_law_bad, PySem.W.mg_of X G a_f_law_bad, l_f_law_bad, rfl, rfl⟩
    · exact ⟨"law", f_flaw, _, _, rq_flaw, PySem.W.mg_of X G a_flaw, l_flaw, rfl, rfl⟩),
    (by
    intro p hp
    simp only [List.mem_cons, List.not_mem_nil, or_false] at hp
    rcases hp with rfl | rfl | rfl
    · exact no_f_law_shown
    · exact no_f_law_bad
    · exact no_flaw),
    (by
    intro p hp
    simp only [List.mem_cons, List.not_mem_nil, or_false] at hp
    rcases hp with rfl | rfl | rfl
    · exact PySem.W.codeHd_of_K X hd_f_law_shown
    · exact PySem.W.codeHd_of_K X hd_f_law_bad
    · exact PySem.W.codeHd_of_K X hd_flaw),
    (by
    intro p hp
    simp only [List.mem_cons, List.not_mem_nil, or_false] at hp
    rcases hp with rfl | rfl | rfl
    · exact ⟨cd_f_law_shown, .head _⟩
    · exact ⟨cd_f_law_bad, .tail _ (.head _)⟩
    · exact ⟨cd_flaw, .tail _ (.tail _ (.head _))⟩),
    fun s v => .of_eq rfl, fun base XB GB hTB => ?_⟩
  have T : @Txt ⟨[(tabOf K cd_f_law_shown, q_f_law_shown), (tabOf K cd_f_law_bad, q_f_law_bad), (tabOf K cd_flaw, q_flaw)]⟩ K mg base { c_ChangeLog := c_ChangeLog, e_InvalidNumber := e_InvalidNumber, e_InvalidKey := e_InvalidKey, e_Forgotten := e_Forgotten, fi_InvalidNumber := fi_InvalidNumber, di_InvalidNumber := _, fi_InvalidKey := fi_InvalidKey, di_InvalidKey := _, fi_Forgotten := fi_Forgotten, di_Forgotten := _, f_fis_integer := f_fis_integer, d_fis_integer := _, f_fis_key := f_fis_key, d_fis_key := _, f_fChangeLog_bound := f_fChangeLog_bound, d_fChangeLog_bound := _, f_fChangeLog_floor := f_fChangeLog_floor, d_fChangeLog_floor := _, f_fChangeLog_last := f_fChangeLog_last, d_fChangeLog_last := _, f_fChangeLog_trim := f_fChangeLog_trim, d_fChangeLog_trim := _, f_fChangeLog_changes := f_fChangeLog_changes, d_fChangeLog_changes := _, f_fChangeLog___len__ := f_fChangeLog___len__, d_fChangeLog___len__ := _, f_fChangeLog___eq__ := f_fChangeLog___eq__, d_fChangeLog___eq__ := _, f_f_law_hand := f_f_law_hand, d_f_law_hand := _, f_f_law_draw := f_f_law_draw, d_f_law_draw := _, f_f_law_refused := f_f_law_refused, d_f_law_refused := _, f_fin_range := f_fin_range, d_fin_range := _, f_f_law_key := f_f_law_key, d_f_law_key := _, f_fcheck_number := f_fcheck_number, d_fcheck_number := _, f_fcheck_least := f_fcheck_least, d_fcheck_least := _, f_fcheck_key := f_fcheck_key, d_fcheck_key := _, f_fcheck_value := f_fcheck_value, d_fcheck_value := _, f_fChangeLog___init__ := f_fChangeLog___init__, d_fChangeLog___init__ := _, f_fChangeLog_add := f_fChangeLog_add, d_fChangeLog_add := _, f_fChangeLog_since := f_fChangeLog_since, d_fChangeLog_since := _, f_f_law_shown := f_f_law_shown, d_f_law_shown := _, cd_f_law_shown := cd_f_law_shown, P_f_law_shown := tabOf K cd_f_law_shown, f_f_law_bad := f_f_law_bad, d_f_law_bad := _, cd_f_law_bad := cd_f_law_bad, P_f_law_bad := tabOf K cd_f_law_bad, f_flaw := f_flaw, d_flaw := _, cd_flaw := cd_flaw, P_flaw := tabOf K cd_flaw, p_fChangeLog_bound := p_fChangeLog_bound, p_fChangeLog_floor := p_fChangeLog_floor } := @Txt.mk _ _ _ _ _
      (fun_D F_fis_integer)
      b_fis_integer
      (PySem.W.mg_of X G a_fis_integer)
      (fun_D F_fis_key)
      b_fis_key
      (PySem.W.mg_of X G a_fis_key)
      (fun_D F_fChangeLog_bound)
      b_fChangeLog_bound
      (fun_D F_fChangeLog_floor)
      b_fChangeLog_floor
      (fun_D F_fChangeLog_last)
      b_fChangeLog_last
      (fun_D F_fChangeLog_trim)
      b_fChangeLog_trim
      (fun_D F_fChangeLog_changes)
      b_fChangeLog_changes
      (fun_D F_fChangeLog___len__)
      b_fChangeLog___len__
      (fun_D F_fChangeLog___eq__)
      b_fChangeLog___eq__
      (fun_D F_f_law_hand)
      b_f_law_hand
      (PySem.W.mg_of X G a_f_law_hand)
      (fun_D F_f_law_draw)
      b_f_law_draw
      (PySem.W.mg_of X G a_f_law_draw)
      (fun_D F_f_law_refused)
      b_f_law_refused
      (PySem.W.mg_of X G a_f_law_refused)
      (fun_D F_fin_range)
      b_fin_range
      (PySem.W.mg_of X G a_fin_range)
      (fun_D F_f_law_key)
      b_f_law_key
      (PySem.W.mg_of X G a_f_law_key)
      (fun_D F_fcheck_number)
      b_fcheck_number
      (PySem.W.mg_of X G a_fcheck_number)
      (fun_D F_fcheck_least)
      b_fcheck_least
      (PySem.W.mg_of X G a_fcheck_least)
      (fun_D F_fcheck_key)
      b_fcheck_key
      (PySem.W.mg_of X G a_fcheck_key)
      (fun_D F_fcheck_value)
      b_fcheck_value
      (PySem.W.mg_of X G a_fcheck_value)
      (fun_D F_fChangeLog___init__)
      b_fChangeLog___init__
      (fun_D F_fChangeLog_add)
      b_fChangeLog_add
      (fun_D F_fChangeLog_since)
      b_fChangeLog_since
      (fun_D F_f_law_shown)
      b_f_law_shown
      (PySem.W.mg_of X G a_f_law_shown)
      (hTB (cd_f_law_shown, tabOf K cd_f_law_shown) (.head _))
      rfl
      (.head _)
      (nd_uq nd (.head _))
      (fun_D F_f_law_bad)
      b_f_law_bad
      (PySem.W.mg_of X G a_f_law_bad)
      (hTB (cd_f_law_bad, tabOf K cd_f_law_bad) (.tail _ (.head _)))
      rfl
      (.tail _ (.head _))
      (nd_uq nd (.tail _ (.head _)))
      (fun_D F_flaw)
      b_flaw
      (PySem.W.mg_of X G a_flaw)
      (hTB (cd_flaw, tabOf K cd_flaw) (.tail _ (.tail _ (.head _))))
      rfl
      (.tail _ (.tail _ (.head _)))
      (nd_uq nd (.tail _ (.tail _ (.head _))))
      ⟨pg_ChangeLog, hd_ChangeLog, po_ChangeLog, sa_ChangeLog⟩
      ⟨⟨pg_ChangeLog, hd_ChangeLog, po_ChangeLog, sa_ChangeLog⟩, ha_ChangeLog, hn_, htk_, hm_ChangeLog, fun b => kit_mro b (by cases b <;> assumption)⟩
      (PySem.W.mg_of X G aC_ChangeLog)
      ⟨mk_ChangeLog, a_fChangeLog___init__, i_fChangeLog___init__, kc_ChangeLog⟩
      ⟨a_fChangeLog___eq__, i_fChangeLog___eq__, (by
      intro C' hC
      simp only [cs, List.mem_cons, List.not_mem_nil, or_false] at hC
      rcases hC with rfl | rfl
      all_goals first | exact nf_mro (by assumption) | (unfold PySem.W.notFirst; simp))⟩
      ne_ChangeLog
      a_fChangeLog___len__
      i_fChangeLog___len__
      ⟨isC_of hd_ChangeLog ty_ChangeLog, by
      intro C' hC n
      simp only [cs, List.mem_cons, List.not_mem_nil, or_false] at hC
      rcases hC with rfl
      all_goals first | exact kit_mroO (isC_of hd_ChangeLog ty_ChangeLog) n (by assumption) | exact absurd rfl n⟩
      ⟨⟨_, _, _, _, _, _, _, _, _, _, _, _, _, _, xl_InvalidNumber⟩, xsa_InvalidNumber, xex_InvalidNumber, xty_InvalidNumber, xkk_InvalidNumber⟩
      (PySem.W.mg_of X G aE_InvalidNumber)
      ⟨xga_InvalidNumber, xgg_InvalidNumber, xex_InvalidNumber, xhd_InvalidNumber⟩
      ⟨xha_InvalidNumber, hn_, htk_, xhm_InvalidNumber⟩
      (kit_base (by decide +kernel) xkb_InvalidNumber_ValueError)
      xo_InvalidNumber
      xi_InvalidNumber
      xt_InvalidNumber
      (fun_D F_i_InvalidNumber)
      b_i_InvalidNumber
      ⟨⟨_, _, _, _, _, _, _, _, _, _, _, _, _, _, xl_InvalidKey⟩, xsa_InvalidKey, xex_InvalidKey, xty_InvalidKey, xkk_InvalidKey⟩
      (PySem.W.mg_of X G aE_InvalidKey)
      ⟨xga_InvalidKey, xgg_InvalidKey, xex_InvalidKey, xhd_InvalidKey⟩
      ⟨xha_InvalidKey, hn_, htk_, xhm_InvalidKey⟩
      (kit_base (by decide +kernel) xkb_InvalidKey_ValueError)
      xo_InvalidKey
      xi_InvalidKey
      xt_InvalidKey
      (fun_D F_i_InvalidKey)
      b_i_InvalidKey
      ⟨⟨_, _, _, _, _, _, _, _, _, _, _, _, _, _, xl_Forgotten⟩, xsa_Forgotten, xex_Forgotten, xty_Forgotten, xkk_Forgotten⟩
      (PySem.W.mg_of X G aE_Forgotten)
      ⟨xga_Forgotten, xgg_Forgotten, xex_Forgotten, xhd_Forgotten⟩
      ⟨xha_Forgotten, hn_, htk_, xhm_Forgotten⟩
      (kit_base (by decide +kernel) xkb_Forgotten_LookupError)
      xo_Forgotten
      xi_Forgotten
      xt_Forgotten
      (fun_D F_i_Forgotten)
      b_i_Forgotten
      (ndA_nd esnd)
      na_ChangeLog_own_bound
      na_ChangeLog_own_changes
      na_ChangeLog_own_floor
      ⟨ap_fChangeLog_bound, gp_fChangeLog_bound, tp_fChangeLog_bound, ⟨_, rp_fChangeLog_bound⟩⟩
      ⟨ap_fChangeLog_floor, gp_fChangeLog_floor, tp_fChangeLog_floor, ⟨_, rp_fChangeLog_floor⟩⟩
      ⟨a_fChangeLog_add, i_fChangeLog_add, k_fChangeLog_add⟩
      ⟨a_fChangeLog_changes, i_fChangeLog_changes, k_fChangeLog_changes⟩
      ⟨a_fChangeLog_last, i_fChangeLog_last, k_fChangeLog_last⟩
      ⟨a_fChangeLog_since, i_fChangeLog_since, k_fChangeLog_since⟩
      ⟨a_fChangeLog_trim, i_fChangeLog_trim, k_fChangeLog_trim⟩
      (PySem.W.mg_none_of X G n_LookupError)
      (PySem.W.mg_none_of X G n_ValueError)
      (PySem.W.mg_none_of X G n_all)
      (PySem.W.mg_none_of X G n_bool)
      (PySem.W.mg_none_of X G n_int)
      (PySem.W.mg_none_of X G n_isinstance)
      (PySem.W.mg_none_of X G n_len)
      (PySem.W.mg_none_of X G n_list)
      (PySem.W.mg_none_of X G n_max)
      (PySem.W.mg_none_of X G n_min)
      (PySem.W.mg_none_of X G n_range)
      (PySem.W.mg_none_of X G n_repr)
      (PySem.W.mg_none_of X G n_str)
      ⟨_, PySem.W.mg_of X G v_CHARACTERS, ⟨_, rfl⟩⟩
      ⟨_, PySem.W.mg_of X G v_MAX_BOUND, ⟨_, rfl⟩⟩
      ⟨_, PySem.W.mg_of X G v_MAX_LENGTH, ⟨_, rfl⟩⟩
  exact (@ok_flaw ⟨[(tabOf K cd_f_law_shown, q_f_law_shown), (tabOf K cd_f_law_bad, q_f_law_bad), (tabOf K cd_flaw, q_flaw)]⟩ ⟨fun _ => none⟩ _ _ _ _ _ _ T).imp (@law_sp ⟨[(tabOf K cd_f_law_shown, q_f_law_shown), (tabOf K cd_f_law_bad, q_f_law_bad), (tabOf K cd_flaw, q_flaw)]⟩ ⟨fun _ => none⟩ _ _ fun ns hl => law_true _ T.esnd ns (by omega))
end K12
open PySem PySem.W PyProof.Rows in
set_option maxRecDepth 100000 in
set_option maxHeartbeats 0 in
theorem PySem.Challenge.cw_fullestfirst_k12_change_logs_holds : PySem.Challenge.rw_fullestfirst_k12_change_logs.Holds := by
  w_on; o_law; k_head; (case hw => w_witness2)
  k_fill
  refine DL.walk_law (l := PySem.Challenge.rw_fullestfirst_k12_change_logs) (k := 8) rfl rfl ⟨⟨rfl, by decide, by decide⟩, rfl⟩ (fun w h Y => PySem.W.km_in_of Y) ?F
  case F =>
    intro w mg fa h KX G hmg
    refine' K12.all_mk KX G hmg ?aC_ChangeLog ?aE_InvalidNumber ?aE_InvalidKey ?aE_Forgotten ?a_fis_integer ?l_fis_integer ?c_fis_integer ?k_fis_integer ?a_fis_key ?l_fis_key ?c_fis_key ?k_fis_key ?ap_fChangeLog_bound ?rp_fChangeLog_bound ?gp_fChangeLog_bound ?tp_fChangeLog_bound ?l_fChangeLog_bound ?c_fChangeLog_bound ?k_fChangeLog_bound ?ap_fChangeLog_floor ?rp_fChangeLog_floor ?gp_fChangeLog_floor ?tp_fChangeLog_floor ?l_fChangeLog_floor ?c_fChangeLog_floor ?k_fChangeLog_floor ?a_fChangeLog_last ?l_fChangeLog_last ?c_fChangeLog_last ?k_fChangeLog_last ?i_fChangeLog_last ?a_fChangeLog_trim ?l_fChangeLog_trim ?c_fChangeLog_trim ?k_fChangeLog_trim ?i_fChangeLog_trim ?a_fChangeLog_changes ?l_fChangeLog_changes ?c_fChangeLog_changes ?k_fChangeLog_changes ?i_fChangeLog_changes ?a_fChangeLog___len__ ?l_fChangeLog___len__ ?c_fChangeLog___len__ ?k_fChangeLog___len__ ?i_fChangeLog___len__ ?a_fChangeLog___eq__ ?l_fChangeLog___eq__ ?c_fChangeLog___eq__ ?k_fChangeLog___eq__ ?i_fChangeLog___eq__ ?a_f_law_hand ?l_f_law_hand ?c_f_law_hand ?k_f_law_hand ?a_f_law_draw ?l_f_law_draw ?c_f_law_draw ?k_f_law_draw ?a_f_law_refused ?l_f_law_refused ?c_f_law_refused ?k_f_law_refused ?a_fin_range ?l_fin_range ?c_fin_range ?k_fin_range ?a_f_law_key ?l_f_law_key ?c_f_law_key ?k_f_law_key ?a_fcheck_number ?l_fcheck_number ?c_fcheck_number ?k_fcheck_number ?a_fcheck_least ?l_fcheck_least ?c_fcheck_least ?k_fcheck_least ?a_fcheck_key ?l_fcheck_key ?c_fcheck_key ?k_fcheck_key ?a_fcheck_value ?l_fcheck_value ?c_fcheck_value ?k_fcheck_value ?a_fChangeLog___init__ ?l_fChangeLog___init__ ?c_fChangeLog___init__ ?k_fChangeLog___init__ ?i_fChangeLog___init__ ?a_fChangeLog_add ?l_fChangeLog_add ?c_fChangeLog_add ?k_fChangeLog_add ?i_fChangeLog_add ?a_fChangeLog_since ?l_fChangeLog_since ?c_fChangeLog_since ?k_fChangeLog_since ?i_fChangeLog_since ?a_f_law_shown ?l_f_law_shown ?c_f_law_shown ?k_f_law_shown ?a_f_law_bad ?l_f_law_bad ?c_f_law_bad ?k_f_law_bad ?a_flaw ?l_flaw ?c_flaw ?k_flaw ?xl_InvalidNumber ?xsa_InvalidNumber ?xex_InvalidNumber ?xty_InvalidNumber ?xkk_InvalidNumber ?xga_InvalidNumber ?xgg_InvalidNumber ?xhd_InvalidNumber ?xha_InvalidNumber ?xhm_InvalidNumber ?xkb_InvalidNumber_ValueError ?xo_InvalidNumber ?xi_InvalidNumber ?xt_InvalidNumber ?l_i_InvalidNumber ?c_i_InvalidNumber ?k_i_InvalidNumber ?xl_InvalidKey ?xsa_InvalidKey ?xex_InvalidKey ?xty_InvalidKey ?xkk_InvalidKey ?xga_InvalidKey ?xgg_InvalidKey ?xhd_InvalidKey ?xha_InvalidKey ?xhm_InvalidKey ?xkb_InvalidKey_ValueError ?xo_InvalidKey ?xi_InvalidKey ?xt_InvalidKey ?l_i_InvalidKey ?c_i_InvalidKey ?k_i_InvalidKey ?xl_Forgotten ?xsa_Forgotten ?xex_Forgotten ?xty_Forgotten ?xkk_Forgotten ?xga_Forgotten ?xgg_Forgotten ?xhd_Forgotten ?xha_Forgotten ?xhm_Forgotten ?xkb_Forgotten_LookupError ?xo_Forgotten ?xi_Forgotten ?xt_Forgotten ?l_i_Forgotten ?c_i_Forgotten ?k_i_Forgotten ?hd_f_law_shown ?no_f_law_shown ?rq_f_law_shown ?hd_f_law_bad ?no_f_law_bad ?rq_f_law_bad ?hd_flaw ?no_flaw ?rq_flaw ?pnd ?esnd ?pg_ChangeLog ?hd_ChangeLog ?po_ChangeLog ?sa_ChangeLog ?ha_ChangeLog ?hm_ChangeLog ?kt_ChangeLog_int ?kt_ChangeLog_str ?kt_ChangeLog_list ?kt_ChangeLog_tuple ?kt_ChangeLog_dict ?kt_ChangeLog_bool ?mk_ChangeLog ?kc_ChangeLog ?ne_ChangeLog ?ty_ChangeLog ?hn_ ?htk_ ?na_ChangeLog_own_bound ?na_ChangeLog_own_changes ?na_ChangeLog_own_floor ?n_LookupError ?n_ValueError ?n_all ?n_bool ?n_int ?n_isinstance ?n_len ?n_list ?n_max ?n_min ?n_range ?n_repr ?n_str ?v_CHARACTERS ?v_MAX_BOUND ?v_MAX_LENGTH
    (case aC_ChangeLog => k_is)
    (case aE_InvalidNumber => k_is)
    (case aE_InvalidKey => k_is)
    (case aE_Forgotten => k_is)
    (case a_fis_integer => k_is)
    (case l_fis_integer => k_is)
    (case c_fis_integer => k_is)
    (case k_fis_integer => k_is)
    (case a_fis_key => k_is)
    (case l_fis_key => k_is)
    (case c_fis_key => k_is)
    (case k_fis_key => k_is)
    (case ap_fChangeLog_bound => k_is)
    (case rp_fChangeLog_bound => k_is)
    (case gp_fChangeLog_bound => k_is)
    (case tp_fChangeLog_bound => k_is)
    (case l_fChangeLog_bound => k_is)
    (case c_fChangeLog_bound => k_is)
    (case k_fChangeLog_bound => k_is)
    (case ap_fChangeLog_floor => k_is)
    (case rp_fChangeLog_floor => k_is)
    (case gp_fChangeLog_floor => k_is)
    (case tp_fChangeLog_floor => k_is)
    (case l_fChangeLog_floor => k_is)
    (case c_fChangeLog_floor => k_is)
    (case k_fChangeLog_floor => k_is)
    (case a_fChangeLog_last => k_is)
    (case l_fChangeLog_last => k_is)
    (case c_fChangeLog_last => k_is)
    (case k_fChangeLog_last => k_is)
    (case i_fChangeLog_last => k_is)
    (case a_fChangeLog_trim => k_is)
    (case l_fChangeLog_trim => k_is)
    (case c_fChangeLog_trim => k_is)
    (case k_fChangeLog_trim => k_is)
    (case i_fChangeLog_trim => k_is)
    (case a_fChangeLog_changes => k_is)
    (case l_fChangeLog_changes => k_is)
    (case c_fChangeLog_changes => k_is)
    (case k_fChangeLog_changes => k_is)
    (case i_fChangeLog_changes => k_is)
    (case a_fChangeLog___len__ => k_is)
    (case l_fChangeLog___len__ => k_is)
    (case c_fChangeLog___len__ => k_is)
    (case k_fChangeLog___len__ => k_is)
    (case i_fChangeLog___len__ => k_is)
    (case a_fChangeLog___eq__ => k_is)
    (case l_fChangeLog___eq__ => k_is)
    (case c_fChangeLog___eq__ => k_is)
    (case k_fChangeLog___eq__ => k_is)
    (case i_fChangeLog___eq__ => k_is)
    (case a_f_law_hand => k_is)
    (case l_f_law_hand => k_is)
    (case c_f_law_hand => k_is)
    (case k_f_law_hand => k_is)
    (case a_f_law_draw => k_is)
    (case l_f_law_draw => k_is)
    (case c_f_law_draw => k_is)
    (case k_f_law_draw => k_is)
    (case a_f_law_refused => k_is)
    (case l_f_law_refused => k_is)
    (case c_f_law_refused => k_is)
    (case k_f_law_refused => k_is)
    (case a_fin_range => k_is)
    (case l_fin_range => k_is)
    (case c_fin_range => k_is)
    (case k_fin_range => k_is)
    (case a_f_law_key => k_is)
    (case l_f_law_key => k_is)
    (case c_f_law_key => k_is)
    (case k_f_law_key => k_is)
    (case a_fcheck_number => k_is)
    (case l_fcheck_number => k_is)
    (case c_fcheck_number => k_is)
    (case k_fcheck_number => k_is)
    (case a_fcheck_least => k_is)
    (case l_fcheck_least => k_is)
    (case c_fcheck_least => k_is)
    (case k_fcheck_least => k_is)
    (case a_fcheck_key => k_is)
    (case l_fcheck_key => k_is)
    (case c_fcheck_key => k_is)
    (case k_fcheck_key => k_is)
    (case a_fcheck_value => k_is)
    (case l_fcheck_value => k_is)
    (case c_fcheck_value => k_is)
    (case k_fcheck_value => k_is)
    (case a_fChangeLog___init__ => k_is)
    (case l_fChangeLog___init__ => k_is)
    (case c_fChangeLog___init__ => k_is)
    (case k_fChangeLog___init__ => k_is)
    (case i_fChangeLog___init__ => k_is)
    (case a_fChangeLog_add => k_is)
    (case l_fChangeLog_add => k_is)
    (case c_fChangeLog_add => k_is)
    (case k_fChangeLog_add => k_is)
    (case i_fChangeLog_add => k_is)
    (case a_fChangeLog_since => k_is)
    (case l_fChangeLog_since => k_is)
    (case c_fChangeLog_since => k_is)
    (case k_fChangeLog_since => k_is)
    (case i_fChangeLog_since => k_is)
    (case a_f_law_shown => k_is)
    (case l_f_law_shown => k_is)
    (case c_f_law_shown => k_is)
    (case k_f_law_shown => k_is)
    (case a_f_law_bad => k_is)
    (case l_f_law_bad => k_is)
    (case c_f_law_bad => k_is)
    (case k_f_law_bad => k_is)
    (case a_flaw => k_is)
    (case l_flaw => k_is)
    (case c_flaw => k_is)
    (case k_flaw => k_is)
    (case xl_InvalidNumber => k_is)
    (case xsa_InvalidNumber => k_is)
    (case xex_InvalidNumber => k_is)
    (case xty_InvalidNumber => k_is)
    (case xkk_InvalidNumber => k_is)
    (case xga_InvalidNumber => k_is)
    (case xgg_InvalidNumber => k_is)
    (case xhd_InvalidNumber => k_is)
    (case xha_InvalidNumber => k_is)
    (case xhm_InvalidNumber => k_is)
    (case xkb_InvalidNumber_ValueError => k_is)
    (case xo_InvalidNumber => k_is)
    (case xi_InvalidNumber => k_is)
    (case xt_InvalidNumber => k_is)
    (case l_i_InvalidNumber => k_is)
    (case c_i_InvalidNumber => k_is)
    (case k_i_InvalidNumber => k_is)
    (case xl_InvalidKey => k_is)
    (case xsa_InvalidKey => k_is)
    (case xex_InvalidKey => k_is)
    (case xty_InvalidKey => k_is)
    (case xkk_InvalidKey => k_is)
    (case xga_InvalidKey => k_is)
    (case xgg_InvalidKey => k_is)
    (case xhd_InvalidKey => k_is)
    (case xha_InvalidKey => k_is)
    (case xhm_InvalidKey => k_is)
    (case xkb_InvalidKey_ValueError => k_is)
    (case xo_InvalidKey => k_is)
    (case xi_InvalidKey => k_is)
    (case xt_InvalidKey => k_is)
    (case l_i_InvalidKey => k_is)
    (case c_i_InvalidKey => k_is)
    (case k_i_InvalidKey => k_is)
    (case xl_Forgotten => k_is)
    (case xsa_Forgotten => k_is)
    (case xex_Forgotten => k_is)
    (case xty_Forgotten => k_is)
    (case xkk_Forgotten => k_is)
    (case xga_Forgotten => k_is)
    (case xgg_Forgotten => k_is)
    (case xhd_Forgotten => k_is)
    (case xha_Forgotten => k_is)
    (case xhm_Forgotten => k_is)
    (case xkb_Forgotten_LookupError => k_is)
    (case xo_Forgotten => k_is)
    (case xi_Forgotten => k_is)
    (case xt_Forgotten => k_is)
    (case l_i_Forgotten => k_is)
    (case c_i_Forgotten => k_is)
    (case k_i_Forgotten => k_is)
    (case hd_f_law_shown => kernel_rfl)
    (case no_f_law_shown => kernel_rfl)
    (case rq_f_law_shown => kernel_rfl)
    (case hd_f_law_bad => kernel_rfl)
    (case no_f_law_bad => kernel_rfl)
    (case rq_f_law_bad => kernel_rfl)
    (case hd_flaw => kernel_rfl)
    (case no_flaw => kernel_rfl)
    (case rq_flaw => kernel_rfl)
    (case pnd => kernel_rfl)
    (case esnd => kernel_rfl)
    (case pg_ChangeLog => k_is)
    (case hd_ChangeLog => k_is)
    (case po_ChangeLog => k_is)
    (case sa_ChangeLog => k_is)
    (case ha_ChangeLog => k_is)
    (case hm_ChangeLog => k_is)
    (case kt_ChangeLog_int => k_is)
    (case kt_ChangeLog_str => k_is)
    (case kt_ChangeLog_list => k_is)
    (case kt_ChangeLog_tuple => k_is)
    (case kt_ChangeLog_dict => k_is)
    (case kt_ChangeLog_bool => k_is)
    (case mk_ChangeLog => k_is)
    (case kc_ChangeLog => k_is)
    (case ne_ChangeLog => k_is)
    (case ty_ChangeLog => k_is)
    (case hn_ => k_is)
    (case htk_ => k_is)
    (case na_ChangeLog_own_bound => k_is)
    (case na_ChangeLog_own_changes => k_is)
    (case na_ChangeLog_own_floor => k_is)
    (case n_LookupError => k_is)
    (case n_ValueError => k_is)
    (case n_all => k_is)
    (case n_bool => k_is)
    (case n_int => k_is)
    (case n_isinstance => k_is)
    (case n_len => k_is)
    (case n_list => k_is)
    (case n_max => k_is)
    (case n_min => k_is)
    (case n_range => k_is)
    (case n_repr => k_is)
    (case n_str => k_is)
    (case v_CHARACTERS => k_is)
    (case v_MAX_BOUND => k_is)
    (case v_MAX_LENGTH => k_is)
