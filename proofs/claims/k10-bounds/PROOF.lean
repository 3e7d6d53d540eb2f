import PyProof.Rows.All
import Wide.All
import OpenK.AllK
import Wide.FinOn
import HandS.ForMost
import HandS.ForExc
import HandS.ExcInit
import HandS.ExcField
import HandS.CallSlots
import HandS.Ends
import PyProof.ReprRoads
import PyProof.ReprLen
import HandS.Style
import PyProof.P3Eq
import HandS.IsInst
import HandS.FStr
import HandS.Iter
import HandS.DictComp
import HandS.Dict
import HandS.ExcIs
import KE.KExcIs
import PySem.Challenge.RW_patchedplaces_k10_bounds
set_option Elab.async false
set_option linter.all false
set_option maxRecDepth 100000
/-! Sm0: promises of defs that know that no repr is under way around them. -/
namespace Sm
open PySem PySem.Spec PyProof.Rows L2
/-- room for a call; no repr is under way -/
structure RmG (k : Nat) (A : Around) : Prop extends Room k A where
  gd : A.guards = some []
section
variable {j k : Nat} {A : Around}
theorem RmG.mono (r : RmG k A) (h : j ≤ k) : RmG j A := ⟨r.toRoom.mono h, r.gd⟩
theorem RmG.deeper (r : RmG (k + 1) A) (e : Env) : RmG k (A.deeper e) := ⟨r.toRoom.deeper e, r.gd⟩
theorem RmG.make (r : RmG (k + 1) A) (C : Addr) (us : List Value) (kw : List (Str × Value)) : RmG k (A.under (.builtin "type.__call__" ⟨.ref C :: us, kw⟩)) :=
  ⟨r.toRoom.make C us kw, by
    have g : (Code.builtin "type.__call__" ⟨Value.ref C :: us, kw⟩).isGuard = false := by simp [Code.isGuard, guardIds]
    have e : (Code.builtin "type.__call__" ⟨Value.ref C :: us, kw⟩).guards = [] := by unfold Code.guards; rw [g]; rfl
    unfold Around.under
    simp only [e]
    exact r.gd⟩
theorem RmG.units (r : RmG k A) : A.units + 64 < cLine := r.toRoom.units
end
/-- what a def keeps, called where no repr is under way -/
structure FnG (P : Program) (w : World) (K : PySem.W.Frag) (mg : Str → Option Value) (base : Heap) (CX : CXT) (k : Nat) (f : Addr) (fd : FuncData) (ps : List Str) (sp : Sp) : Prop where
  len : ∀ vs H Q E, sp vs H Q E → vs.length = ps.length
  run : ∀ (A : Around) (out : List Env) (s : Shared) (H : Hp) (as : Args) (us : List Value) (vs : List V) (Q : VK) (E : XK), RmG k A → Env0 P w K mg base A out s H → BindsTo s fd as (ps.zip us) → Vals vs us → sp vs H Q E →
    codeAny (model P w) A (.call (.ref f) as) (CR CX out P w H s Q E) s
section
variable {P : Program} {w : World} {K : PySem.W.Frag} {mg : Str → Option Value} {base : Heap} {CX : CXT} {k : Nat} {f : Addr} {fd : FuncData} {ps : List Str} {sp : Sp}
theorem FnG.imp {sp' : Sp} (F : FnG P w K mg base CX k f fd ps sp) (h : ∀ vs H Q E, sp' vs H Q E → sp vs H Q E) : FnG P w K mg base CX k f fd ps sp' :=
  ⟨fun vs H Q E q => F.len vs H Q E (h _ _ _ _ q), fun A out s H as us vs Q E a b c d e => F.run A out s H as us vs Q E a b c d (h _ _ _ _ e)⟩
theorem FnG.of (F : FnOk P w K mg base CX k f fd ps sp) : FnG P w K mg base CX k f fd ps sp :=
  ⟨F.len, fun A out s H as us vs Q E a b c d e => F.run A out s H as us vs Q E a.toRoom b c d e⟩
/-- a def by its body -/
theorem okG {x qual : Str} {st : Stmt} {N : List Str} (F : Fun K x qual st f fd) (S : FnScope N ps (defScope st)) (len : ∀ vs H Q E, sp vs H Q E → vs.length = ps.length)
    (hb : ∀ (cd : Value) (A : Around) (out : List Env) (s : Shared) (H : Hp) (vs : List V) (Q : VK) (E : XK), RmG k (A.deeper (envOfC qual (defScope st) s.heap.objs.size f cd)) → sp vs H Q E →
      ∃ t, PSs (cxOf CX P w K mg base N qual (defScope st) f cd A out s H E) (defBody st) t ∧ t { nx := fun _ H' => Q .non H', rt := Q } (start N vs) H) : FnG P w K mg base CX (k + 1) f fd ps sp := by
  obtain ⟨oc, od, kV, doc, pm, an, cd, ct, osl, rfl, lk, hc⟩ := F.ex
  constructor
  · exact len
  intro A out s H as us vs Q E room e0 bind val hsp
  have inS : K.In s.heap := e0.mod.kin.keeps fun b o z => (e0.bs b o z).1
  obtain ⟨t, ht, hq⟩ := hb cd A out s H vs Q E (room.deeper _) hsp
  have kinds : ∀ y ∈ ps.zip us, (defScope st).names.lookup y.1 = some .local ∨ ((defScope st).names.lookup y.1 = some .cell ∧ ((cellsFrom (s.heap.objs.size + 1) (defScope st).names []).lookup y.1).isSome = true) := by
    intro y hy
    obtain ⟨n, v⟩ := y
    exact (S.par n (List.of_mem_zip hy).1).imp id fun q => ⟨q, PySem.W.cellsFrom_some _ _ _ (.inl q)⟩
  apply codeAny_call_function room.toRoom.depth (inS _ _ lk) rfl S.co S.gen rfl (PySem.W.codeRec_of inS hc)
  apply bind
  apply wpAny_newFunctionEnv_cells S.kind kinds
  intro env henv s1 x
  subst henv
  have li : s.heap.NoLimit := e0.mod.nolimit.keeps fun b o z => (e0.bs b o z).1
  refine ⟨li.keeps x.toInCall.keep, codeAny_func (wpAny_mono (ht.run [] s1 (start N vs) H _ (inv_start S room.hd e0 (len _ _ _ _ hsp) val x) hq) (fun fl s2 z => ?_) fun _ _ z => z)⟩
  cases fl with
  | next =>
    obtain ⟨_, H2, J, q⟩ := z
    exact ⟨.non, H2, J.os, J.bare, J.base, J.hok, rfl, q⟩
  | ret u =>
    obtain ⟨v, _, H2, J, rv, q⟩ := z
    exact ⟨v, H2, J.os, J.bare, J.base, J.hok, rv, q⟩
  | brk => obtain ⟨_, _, _, q⟩ := z; exact q.elim
  | cont => obtain ⟨_, _, _, q⟩ := z; exact q.elim
end
section
variable {X : Cx} {CX : CXT} {k : Nat} {f : Addr} {fd : FuncData} {ps : List Str} {sp : Sp} {E : L2.St → XK}
/-- the callee runs; what it raises is wished for at the slots of the call -/
theorem run_fnG {pins : List (Addr × Obj)} {σ : L2.St} {H : Hp} {s : Shared} {Q : VK} {us : List Value} {vs : List V} (F : FnG X.prog X.w X.K X.mg X.base CX k f fd ps sp) (hr : RmG k X.A) (hb : Binds X.K fd ps []) (hx : PassesAt CX X σ (E σ))
    (I : Inv X pins σ H s) (r : Vals vs us) (h : sp vs H Q (E σ)) : wpAny (model X.prog X.w) X.A (call (.ref f) us) (EP X pins σ Q) X.xe s := by
  have hl : us.length = ps.length := r.length.symm.trans (F.len _ _ _ _ h)
  have b := hb s us I.kIn (by simpa using hl)
  rw [List.append_nil] at b
  apply wpAny_call
  apply codeAny_mono (F.run X.A X.stack s H ⟨us, []⟩ us vs Q (E σ) hr I.env0 b r h)
  intro out s' z
  match out, z with
  | .error e, z => exact hx pins H s e s' I z
  | .ok (.ret u), z => exact I.after z
  | .ok .next, z => exact z.elim
  | .ok .brk, z => exact z.elim
  | .ok .cont, z => exact z.elim
theorem pe_callG {x : Str} {p pos : Pos} {e : Expr} {es : List Expr} {t : TA} (F : FnG X.prog X.w X.K X.mg X.base CX k f fd ps sp) (hr : RmG k X.A) (hg : Gl X x) (hm : X.mg x = some (.ref f)) (hk : PySem.W.keepIn X.K (.ref f) = true) (hb : Binds X.K fd ps [])
    (hx : ∀ σ, PassesAt CX X σ (E σ)) (ha : PA X (e :: es) t) (hd : (x == ("__debug__" : Str)) = false) (he : starEach (e :: es) X.env = (false, eval e X.env) :: starEach es X.env) (hp : (backTo pos (starEach es X.env)).any (·.1) = false) :
    PE X (.Call (.Name x p) (e :: es) [] pos) (tCallS sp E t) := by
  constructor
  intro pins s σ H Q I h
  apply wpAny_Call_Name_kw
  apply ld_glob I hg hm _ hd
  have go := ha.run pos pins s σ H _ I h
  exact PySem.W.callWith_K (h₀ := X.base) I.ok.mod.kin hk (thn go fun us s1 z => by
    obtain ⟨vs, H1, J, r, q⟩ := z
    exact ⟨J.kIn, run_fnG F hr hb (hx σ) J r q⟩) he hp
theorem pe_callG0 {x : Str} {p pos : Pos} (F : FnG X.prog X.w X.K X.mg X.base CX k f fd ps sp) (hr : RmG k X.A) (hg : Gl X x) (hm : X.mg x = some (.ref f)) (hk : PySem.W.keepIn X.K (.ref f) = true) (hb : Binds X.K fd ps [])
    (hx : ∀ σ, PassesAt CX X σ (E σ)) (hd : (x == ("__debug__" : Str)) = false) : PE X (.Call (.Name x p) [] [] pos) (tCallS sp E tNil) := by
  constructor
  intro pins s σ H Q I h
  apply wpAny_Call_Name_kw
  apply ld_glob I hg hm _ hd
  exact PySem.W.callWith_K0 I.kIn hk (run_fnG (us := []) F hr hb (hx σ) I .nil h)
end
/-! ### a law -/
section
variable {P : Program} {w : World} {K : PySem.W.Frag} {mg mb : Str → Option Value} {CX : CXT} {k : Nat} {fa a : Addr} {fd : FuncData} {x : Str} {sp : Sp} {s0 : Shared} {us : List Value} {ns : List Int}
/-- the law's call from a heap in which at most the script is tracked -/
theorem law_at {H : Hp} {g : Obj} (KX : K.In s0.heap) (hn : s0.heap.Ns mainGlobals mg) (hb : s0.heap.Ns builtinsNs mb) (hbb : ∀ x : Str, x ≠ "__name__" → mb x = bootBuiltins x) (hl : s0.heap.NoLimit) (hg : s0.gens = #[])
    (ga : s0.heap.get? a = some g) (gl : ∀ es n, g.data ≠ .dict es n) (hr : RmG k callerA) (F : ∀ base : Heap, K.In base → base.Ns mainGlobals mg → FnG P w K mg base CX k fa fd [x] sp) (bi : ∀ (s : Shared) (u : Value), BindsTo s fd ⟨[u], []⟩ [(x, u)])
    (ok : HOk P w H s0.heap) (only : ∀ b, H b ≠ none → b = a ∧ K.lookup a = none ∧ ∃ o xs, H b = some (.frz o (.lst xs))) (hsp : sp [.ref a] H (fun v _ => v = .bl true) fun _ _ _ => False) (hC : ∀ e s', CX [] H s0 (fun _ _ _ => False) e s' → False) :
    codeAny (model P w) callerA (.call (.ref fa) ⟨[.ref a], []⟩) (fun r s' => r = .ok (.ret (.bool true)) ∧ OldK s0.heap s'.heap ∧ s'.os = s0.os ∧ AllBare s'.gens) s0 := by
  have fresh : ∀ b, b ≠ a → H b = none := fun b hb => by
    cases q : H b with
    | none => rfl
    | some u => exact absurd (only b (by rw [q]; exact fun z => by cases z)).1 hb
  have dictN : ∀ {b : Addr} {o : Obj} {es : Array DictEntry} {n : Nat}, s0.heap.get? b = some o → o.data = .dict es n → H b = none := fun {b o es n} e d => fresh b fun hb => by
    subst hb
    rw [ga] at e
    cases e
    exact gl es n d
  have low : ∀ {b : Addr} {m : Str → Option Value}, s0.heap.Ns b m → (hidT s0.heap H).Ns b m := fun {b m} ⟨o, es, n, e, d, r⟩ => ⟨o, es, n, hidT_get e (dictN e d), d, r⟩
  have KB : K.In (hidT s0.heap H) := fun b o e => hidT_get (KX b o e) (by
    cases q : H b with
    | none => rfl
    | some u =>
      obtain ⟨z1, z2, _⟩ := only b (by rw [q]; exact fun z => by cases z)
      subst z1
      rw [z2] at e
      cases e)
  obtain ⟨mc, l1, l2⟩ := hl
  have M : Mod K mg (hidT s0.heap H) := ⟨KB, low hn, ⟨mb, low hb, hbb⟩, ⟨mc, low l1, l2⟩⟩
  have nofr : ∀ b : Addr, b ∉ frs ([] : List Env) := fun b z => by cases z
  have e0 : Env0 P w K mg (hidT s0.heap H) callerA [] s0 H := ⟨rfl, M, fun b o e => of_hidT e, Nat.le_of_eq (hidT_size _ _), trivial, fun b hb => absurd hb (nofr b), ok, .of_eq hg⟩
  apply codeAny_mono ((F _ KB (low hn)).run callerA [] s0 H ⟨[.ref a], []⟩ [.ref a] [.ref a] _ _ hr e0 (bi s0 (.ref a)) (.cons rfl .nil) hsp)
  intro r s' z
  match r, z with
  | .error e, z => exact (hC e s' z).elim
  | .ok .next, z => exact z.elim
  | .ok .brk, z => exact z.elim
  | .ok .cont, z => exact z.elim
  | .ok (.ret u), z =>
    obtain ⟨v, H', hos, bare, un, ok', rv, hv⟩ := z
    cases hv
    obtain rfl : u = Value.bool true := rv
    refine ⟨rfl, OldK.of_keep fun b o e => ?_, hos, bare⟩
    cases q : H b with
    | none => exact un.keep b o e q (nofr b) (by simp)
    | some y =>
      obtain ⟨_, _, ob, xs, z⟩ := only b (by rw [q]; exact fun z => by cases z)
      obtain ⟨g1, _⟩ := ok b _ z
      obtain ⟨g2, _⟩ := ok' b _ (un.frzs b ob _ z)
      rw [e] at g1
      cases g1
      exact g2
theorem law_callG (KX : K.In s0.heap) (hn : s0.heap.Ns mainGlobals mg) (hb : s0.heap.Ns builtinsNs mb) (hbb : ∀ x : Str, x ≠ "__name__" → mb x = bootBuiltins x) (hl : s0.heap.NoLimit) (hg : s0.gens = #[])
    (ga : s0.heap.get? a = some { cls := .type "list", data := .seq us.toArray }) (hi : IntsAre us ns) (hz : ns.length ≤ sizeLine) (hr : RmG k callerA) (F : ∀ base : Heap, K.In base → base.Ns mainGlobals mg → FnG P w K mg base CX k fa fd [x] sp)
    (bi : ∀ (s : Shared) (u : Value), BindsTo s fd ⟨[u], []⟩ [(x, u)]) (hsp : ∀ H : Hp, SqL K H a (ns.map V.int) → sp [.ref a] H (fun v _ => v = .bl true) fun _ _ _ => False) (hC : ∀ H e s', CX [] H s0 (fun _ _ _ => False) e s' → False) :
    codeAny (model P w) callerA (.call (.ref fa) ⟨[.ref a], []⟩) (fun r s' => r = .ok (.ret (.bool true)) ∧ OldK s0.heap s'.heap ∧ s'.os = s0.os ∧ AllBare s'.gens) s0 := by
  have rv := vals_ints hi
  have ln := hi.length
  have nod : ∀ (es : Array DictEntry) (n : Nat), ({ cls := .type "list", data := .seq us.toArray } : Obj).data ≠ .dict es n := fun es n z => by
    have z : Data.seq us.toArray _ = Data.dict es n := z
    cases z
  rcases hk : K.lookup a with _ | o
  · let H : Hp := fun b => if b = a then some (.frz { cls := .type "list", data := .seq us.toArray } (.lst (ns.map V.int))) else none
    have hH : H a = some (.frz { cls := .type "list", data := .seq us.toArray } (.lst (ns.map V.int))) := if_pos rfl
    have hN : ∀ b, b ≠ a → H b = none := fun b hb => if_neg hb
    refine law_at (H := H) KX hn hb hbb hl hg ga nod hr F bi (fun b u z => ?_) (fun b z => ?_) (hsp H (.inl (.inr ⟨_, hH⟩))) (hC H)
    · by_cases e : b = a
      · subst e
        rw [hH] at z
        cases z
        exact ⟨ga, by rw [List.length_map]; exact hz, us, _, rv, ga⟩
      · rw [hN b e] at z; cases z
    · by_cases e : b = a
      · subst e; exact ⟨rfl, hk, _, _, hH⟩
      · exact absurd (hN b e) z
  · have e := KX a o hk
    rw [ga] at e
    cases e
    exact law_at (H := fun _ => none) KX hn hb hbb hl hg ga nod hr F bi (fun b u z => by have z : (none : Option HO) = some u := z; cases z) (fun b z => absurd rfl z)
      (hsp _ (.inr ⟨_, us.toArray, _, hk, rfl, rfl, rfl, by rw [List.size_toArray, ln]; exact hz, by simpa using rv⟩)) (hC _)
/-- the goal that k_head leaves -/
theorem walk_ofG {l : PySem.W.OpenLaw} {n : Nat} {q : Program} {loose : List Str} {XP : (Str → Option Value) → Heap → Prop} {YP : World → Heap → Prop} {d : DefRec} {K : Params → PySem.W.Frag} {CX : World → CXT} {sp : World → Sp}
    (hn : l.most = some n) (hz : n ≤ sizeLine) (hdf : d.params.defaults = []) (hr : RmG k callerA) (hY : ∀ (w : World) (h : Heap), YP w h → (K w.params).In h)
    (F : ∀ (w : World) (mg : Str → Option Value) (fa : Addr) (h : Heap), (K w.params).In h → h.Ns mainGlobals mg → mg d.name = some (.ref fa) → ∃ fd : FuncData, (∀ (s : Shared) (u : Value), BindsTo s fd ⟨[u], []⟩ [(x, u)]) ∧
        ∀ base : Heap, (K w.params).In base → base.Ns mainGlobals mg → FnG l.prog w (K w.params) mg base (CX w) k fa fd [x] (sp w))
    (hsp : ∀ (w : World) (H : Hp) (a : Addr) (ns : List Int), ns.length ≤ n → SqL (K w.params) H a (ns.map V.int) → sp w [.ref a] H (fun v _ => v = .bl true) fun _ _ _ => False)
    (hC : ∀ (w : World) (H : Hp) (s : Shared) (e : Value) (s' : Shared), CX w [] H s (fun _ _ _ => False) e s' → False) : PySem.W.WalkO q loose XP YP l.row.toRowW d [] (fun f vs => PySem.call f vs) := by
  apply Att.attach_call hn hdf
  intro w _ s1 mg mb fa _ _ _ _ a us ns G Y _ _ _ hm ho hi hl hg
  have KX := hY w _ Y
  obtain ⟨fd, bi, hF⟩ := F w mg fa _ KX G.T.g hm
  exact law_callG KX G.T.g G.T.b G.T.builtins G.T.nolimit hg ho hi (Nat.le_trans hl hz) hr hF bi (fun H hS => hsp w H a ns hl hS) fun H e s' => hC w H s1 e s'
end
end Sm

/-! Sm: a functional reading of the hand layer: values as data, mutable objects in a store by numbers. -/
namespace Sm
open PySem PySem.Spec PyProof.Rows L2

/-- the written part; the module's names; the exception that is being handled here: its slot, its dict's number, itself, its dict -/
structure KX where
  k : PySem.W.Frag
  mg : Str → Option Value
  ex : Option (Nat × Nat × Addr × Addr)
/-- what is wished of an exception; the one that is being handled -/
structure WZ where
  x : WX
  ex : Option (Nat × Nat × Addr × Addr) := none
def exOff (ex : Option (Nat × Nat × Addr × Addr)) (vs : List Nat) : Bool := match ex with
  | none => true
  | some (i, _) => !vs.contains i
/-- the class of a name -/
def clsV (mg : Str → Option Value) (C : Str) : Value := (mg C).getD .none
inductive IV where
  | non | bl (b : Bool) | int (i : Int) | str (s : Str) | adr (n : Nat) | lst (xs : List IV) | wls (xs : List IV) | tup (xs : List IV) | ref (a : Addr) | ty (n : String)
  deriving Inhabited
inductive Cell where
  | lst (xs : List IV) | dic (kvs : List (Key × IV)) | dicL (kvs : List (Key × IV)) | ins (C : Str) (fs : List (Str × IV)) | xd (fs : List (Str × IV))
abbrev Sto := List Cell
abbrev Slots := List (Option IV)
inductive Out (α : Type) where
  | ok (a : α) (S : Sto)
  | exc (C : Str) (n : Nat) (L : Slots) (S : Sto)
  | bad
def Out.bind {α β : Type} : Out α → (α → Sto → Out β) → Out β
  | .ok a S, k => k a S
  | .exc C n L S, _ => .exc C n L S
  | .bad, _ => .bad
@[simp] theorem Out.bind_ok {α β : Type} (a : α) (S : Sto) (k : α → Sto → Out β) : (Out.ok a S).bind k = k a S := rfl
@[simp] theorem Out.bind_exc {α β : Type} (C n L) (S : Sto) (k : α → Sto → Out β) : (Out.exc C n L S).bind k = .exc C n L S := rfl
@[simp] theorem Out.bind_bad {α β : Type} (k : α → Sto → Out β) : (Out.bad).bind k = .bad := rfl
theorem Out.bind_assoc {α β γ : Type} (o : Out α) (k : α → Sto → Out β) (j : β → Sto → Out γ) : (o.bind k).bind j = o.bind fun a S => (k a S).bind j := by
  cases o <;> rfl

structure Wd where
  rho : List Addr
  F : Hp
  G : Hp
structure Wd.lr (w w' : Wd) : Prop where
  rho : ∃ more, w'.rho = w.rho ++ more
  F : Same w.F w'.F
structure Wd.le (w w' : Wd) : Prop extends Wd.lr w w' where
  G : w'.G = w.G
/-- .. and what is locked stays -/
structure Wd.lz (w w' : Wd) : Prop extends Wd.lr w w' where
  fz : ∀ (a : Addr) (u : Obj) (v : HO), w.G a = some (.frz u v) → w'.G a = some (.frz u v)
theorem Wd.le.lz {w w' : Wd} (h : w.le w') : w.lz w' := ⟨h.1, fun a u v e => by rw [h.G]; exact e⟩
theorem Wd.lr.refl (w : Wd) : w.lr w := ⟨⟨[], by simp⟩, Same.refl _⟩
theorem Wd.lr.trans {a b c : Wd} (h : a.lr b) (k : b.lr c) : a.lr c := by
  obtain ⟨⟨m, e⟩, f⟩ := h
  obtain ⟨⟨m', e'⟩, f'⟩ := k
  exact ⟨⟨m ++ m', by rw [e', e, List.append_assoc]⟩, f.trans f'⟩
theorem Wd.le.refl (w : Wd) : w.le w := ⟨Wd.lr.refl w, rfl⟩
theorem Wd.le.trans {a b c : Wd} (h : a.le b) (k : b.le c) : a.le c := ⟨h.1.trans k.1, k.2.trans h.2⟩
theorem Wd.lr.get {w w' : Wd} (h : w.lr w') {n : Nat} {a : Addr} (e : w.rho[n]? = some a) : w'.rho[n]? = some a := by
  obtain ⟨m, e'⟩ := h.rho
  rw [e', List.getElem?_append_left (List.getElem?_eq_some_iff.mp e).1]
  exact e

mutual
inductive Rel (K : KX) (w : Wd) : V → IV → Prop
  | non : Rel K w .non .non
  | bl (b : Bool) : Rel K w (.bl b) (.bl b)
  | int (i : Int) : Rel K w (.int i) (.int i)
  | str (x : Str) : Rel K w (.str x) (.str x)
  | adr {n : Nat} {a : Addr} : w.rho[n]? = some a → Rel K w (.ref a) (.adr n)
  | lst {a : Addr} {xs : List V} {ivs : List IV} : w.F a = some (.lst xs) → RelL K w xs ivs → Rel K w (.ref a) (.lst ivs)
  | wls {a : Addr} {xs : List V} {ivs : List IV} : SqL K.k w.F a xs → RelL K w xs ivs → Rel K w (.ref a) (.wls ivs)
  | tup {a : Addr} {xs : List V} {ivs : List IV} : SqT K.k w.F a xs → RelL K w xs ivs → Rel K w (.ref a) (.tup ivs)
  | ref (a : Addr) : Rel K w (.ref a) (.ref a)
  | ty (n : String) : Rel K w (.ty n) (.ty n)
inductive RelL (K : KX) (w : Wd) : List V → List IV → Prop
  | nil : RelL K w [] []
  | cons {v : V} {vs : List V} {iv : IV} {ivs : List IV} : Rel K w v iv → RelL K w vs ivs → RelL K w (v :: vs) (iv :: ivs)
end
theorem same_t {K : PySem.W.Frag} {H H' : Hp} {a : Addr} {xs : List V} (e : Same H H') (h : SqT K H a xs) : SqT K H' a xs := by
  rcases h with (h | ⟨o, h⟩) | h
  · exact .inl (.inl (e _ _ h))
  · exact .inl (.inr ⟨o, e _ _ h⟩)
  · exact .inr h
section
variable {K : KX} {w w' : Wd}
mutual
theorem Rel.mono (l : w.lr w') : ∀ (iv : IV) (v : V), Rel K w v iv → Rel K w' v iv
  | .non, _, h => by cases h; exact .non
  | .bl b, _, h => by cases h; exact .bl b
  | .int b, _, h => by cases h; exact .int b
  | .str b, _, h => by cases h; exact .str b
  | .adr n, _, h => by
    cases h with
    | adr e => exact .adr (l.get e)
  | .lst ivs, _, h => by
    cases h with
    | lst e r => exact .lst (l.F _ _ e) (RelL.mono l ivs _ r)
  | .wls ivs, _, h => by
    cases h with
    | wls e r => exact .wls (l.F.seq e) (RelL.mono l ivs _ r)
  | .tup ivs, _, h => by
    cases h with
    | tup e r => exact .tup (same_t l.F e) (RelL.mono l ivs _ r)
  | .ref a, _, h => by cases h; exact .ref a
  | .ty n, _, h => by cases h; exact .ty n
theorem RelL.mono (l : w.lr w') : ∀ (ivs : List IV) (vs : List V), RelL K w vs ivs → RelL K w' vs ivs
  | [], _, h => by cases h; exact .nil
  | iv :: ivs, _, h => by
    cases h with
    | cons a b => exact .cons (Rel.mono l iv _ a) (RelL.mono l ivs _ b)
end
theorem Rel.up {v : V} {iv : IV} (h : Rel K w v iv) (l : w.le w') : Rel K w' v iv := Rel.mono l.1 _ _ h
theorem RelL.up {v : List V} {iv : List IV} (h : RelL K w v iv) (l : w.le w') : RelL K w' v iv := RelL.mono l.1 _ _ h
theorem RelL.length : ∀ {vs : List V} {ivs : List IV}, RelL K w vs ivs → vs.length = ivs.length
  | _, _, .nil => rfl
  | _, _, .cons _ h => by rw [List.length_cons, List.length_cons, RelL.length h]
theorem RelL.get : ∀ {vs : List V} {ivs : List IV} {i : Nat} {iv : IV}, RelL K w vs ivs → ivs[i]? = some iv → ∃ v, vs[i]? = some v ∧ Rel K w v iv
  | _, _, _, _, .nil, e => by simp at e
  | _, _, 0, _, .cons r _, e => by simp at e; subst e; exact ⟨_, rfl, r⟩
  | _, _, i + 1, iv, .cons _ t, e => by
    obtain ⟨u, h1, h2⟩ := RelL.get (i := i) (iv := iv) t (by simpa using e)
    exact ⟨u, by simpa using h1, h2⟩
theorem RelL.get' : ∀ {vs : List V} {ivs : List IV} {i : Nat} {v : V}, RelL K w vs ivs → vs[i]? = some v → ∃ iv, ivs[i]? = some iv ∧ Rel K w v iv
  | _, _, _, _, .nil, e => by simp at e
  | _, _, 0, _, .cons r _, e => by simp at e; subst e; exact ⟨_, rfl, r⟩
  | _, _, i + 1, iv, .cons _ t, e => by
    obtain ⟨u, h1, h2⟩ := RelL.get' (i := i) (v := iv) t (by simpa using e)
    exact ⟨u, by simpa using h1, h2⟩
theorem RelL.append : ∀ {xs ys : List V} {us ws : List IV}, RelL K w xs us → RelL K w ys ws → RelL K w (xs ++ ys) (us ++ ws)
  | _, _, _, _, .nil, s => s
  | _, _, _, _, .cons r t, s => .cons r (RelL.append t s)
theorem RelL.take : ∀ {xs : List V} {us : List IV} (n : Nat), RelL K w xs us → RelL K w (xs.take n) (us.take n)
  | _, _, 0, _ => .nil
  | _, _, _ + 1, .nil => .nil
  | _, _, n + 1, .cons r t => .cons r (RelL.take n t)
theorem RelL.drop : ∀ {xs : List V} {us : List IV} (n : Nat), RelL K w xs us → RelL K w (xs.drop n) (us.drop n)
  | _, _, 0, r => r
  | _, _, _ + 1, .nil => .nil
  | _, _, n + 1, .cons _ t => RelL.drop n t
theorem RelL.set {x : V} {u : IV} (r : Rel K w x u) : ∀ {xs : List V} {us : List IV} (i : Nat), RelL K w xs us → RelL K w (xs.set i x) (us.set i u)
  | _, _, _, .nil => .nil
  | _, _, 0, .cons _ t => .cons r t
  | _, _, i + 1, .cons q t => .cons q (RelL.set r i t)
theorem RelL.one {x : V} {u : IV} (r : Rel K w x u) : RelL K w [x] [u] := .cons r .nil
theorem RelL.erase : ∀ {xs : List V} {us : List IV} (i : Nat), RelL K w xs us → RelL K w (xs.eraseIdx i) (us.eraseIdx i)
  | _, _, _, .nil => .nil
  | _, _, 0, .cons _ t => t
  | _, _, i + 1, .cons q t => .cons q (RelL.erase i t)
theorem RelL.reverse : ∀ {xs : List V} {us : List IV}, RelL K w xs us → RelL K w xs.reverse us.reverse
  | _, _, .nil => .nil
  | _, _, .cons q t => by
    rw [List.reverse_cons, List.reverse_cons]
    exact (RelL.reverse t).append (.one q)
end

def RelKV {κ : Type} (K : KX) (w : Wd) : List (κ × V) → List (κ × IV) → Prop := Paired fun (p : κ × V) (q : κ × IV) => p.1 = q.1 ∧ Rel K w p.2 q.2
theorem RelKV.mono {κ : Type} {K : KX} {w w' : Wd} (l : w.lr w') {a : List (κ × V)} {b : List (κ × IV)} (h : RelKV K w a b) : RelKV K w' a b :=
  Paired.mapP h fun _ _ z => ⟨z.1, Rel.mono l _ _ z.2⟩

def CellOk (K : KX) (w : Wd) (H : Hp) (a : Addr) : Cell → Prop
  | .lst ivs => ∃ xs, H a = some (.lst xs) ∧ RelL K w xs ivs
  | .dic kvs => ∃ ps, H a = some (.dK ps) ∧ RelKV K w ps kvs
  | .dicL kvs => ∃ o ps, w.G a = some (.frz o (.dK ps)) ∧ H a = some (.frz o (.dK ps)) ∧ RelKV K w ps kvs
  | .ins C fs => ∃ (Ca : Addr) (dx : Addr) (ps : List (Str × V)), K.mg C = some (.ref Ca) ∧ H a = some (.ins Ca dx ps) ∧ RelKV K w ps fs
  | .xd fs => ∃ ps, H a = some (.xd ps) ∧ RelKV K w ps fs
theorem CellOk.mono {K : KX} {w w' : Wd} {H H' : Hp} {a : Addr} {c : Cell} (h : CellOk K w H a c) (l : w.lr w') (e : H' a = H a) (g : ∀ o, w.G a = some o → w'.G a = some o) : CellOk K w' H' a c := by
  cases c with
  | lst ivs => obtain ⟨xs, h1, h2⟩ := h; exact ⟨xs, e.trans h1, RelL.mono l _ _ h2⟩
  | dic ivs => obtain ⟨xs, h1, h2⟩ := h; exact ⟨xs, e.trans h1, h2.mono l⟩
  | dicL ivs => obtain ⟨o, xs, h0, h1, h2⟩ := h; exact ⟨o, xs, g _ h0, e.trans h1, h2.mono l⟩
  | ins C ivs => obtain ⟨Ca, dx, xs, h0, h1, h2⟩ := h; exact ⟨Ca, dx, xs, h0, e.trans h1, h2.mono l⟩
  | xd ivs => obtain ⟨xs, h1, h2⟩ := h; exact ⟨xs, e.trans h1, h2.mono l⟩
theorem CellOk.some {K : KX} {w : Wd} {H : Hp} {a : Addr} {c : Cell} (h : CellOk K w H a c) : ∃ o, H a = some o := by
  cases c with
  | lst ivs => obtain ⟨xs, h1, h2⟩ := h; exact ⟨_, h1⟩
  | dic ivs => obtain ⟨xs, h1, h2⟩ := h; exact ⟨_, h1⟩
  | dicL ivs => obtain ⟨o, xs, h0, h1, h2⟩ := h; exact ⟨_, h1⟩
  | ins C ivs => obtain ⟨Ca, dx, xs, h0, h1, h2⟩ := h; exact ⟨_, h1⟩
  | xd ivs => obtain ⟨xs, h1, h2⟩ := h; exact ⟨_, h1⟩

section
variable {K K' : KX} {w : Wd}
mutual
theorem Rel.cx (hk : K.k = K'.k) : ∀ (iv : IV) (v : V), Rel K w v iv → Rel K' w v iv
  | .non, _, h => by cases h; exact .non
  | .bl b, _, h => by cases h; exact .bl b
  | .int b, _, h => by cases h; exact .int b
  | .str b, _, h => by cases h; exact .str b
  | .adr n, _, h => by
    cases h with
    | adr e => exact .adr e
  | .lst ivs, _, h => by
    cases h with
    | lst e r => exact .lst e (RelL.cx hk ivs _ r)
  | .wls ivs, _, h => by
    cases h with
    | wls e r => exact .wls (hk ▸ e) (RelL.cx hk ivs _ r)
  | .tup ivs, _, h => by
    cases h with
    | tup e r => exact .tup (hk ▸ e) (RelL.cx hk ivs _ r)
  | .ref a, _, h => by cases h; exact .ref a
  | .ty n, _, h => by cases h; exact .ty n
theorem RelL.cx (hk : K.k = K'.k) : ∀ (ivs : List IV) (vs : List V), RelL K w vs ivs → RelL K' w vs ivs
  | [], _, h => by cases h; exact .nil
  | iv :: ivs, _, h => by
    cases h with
    | cons a b => exact .cons (Rel.cx hk iv _ a) (RelL.cx hk ivs _ b)
end
theorem RelKV.cx {κ : Type} (hk : K.k = K'.k) {a : List (κ × V)} {b : List (κ × IV)} (h : RelKV K w a b) : RelKV K' w a b :=
  Paired.mapP h fun _ _ z => ⟨z.1, Rel.cx hk _ _ z.2⟩
theorem CellOk.cx (hk : K.k = K'.k) (hm : K.mg = K'.mg) {H : Hp} {a : Addr} {c : Cell} (h : CellOk K w H a c) : CellOk K' w H a c := by
  cases c with
  | lst ivs => obtain ⟨xs, h1, h2⟩ := h; exact ⟨xs, h1, RelL.cx hk _ _ h2⟩
  | dic ivs => obtain ⟨xs, h1, h2⟩ := h; exact ⟨xs, h1, h2.cx hk⟩
  | dicL ivs => obtain ⟨o, xs, h0, h1, h2⟩ := h; exact ⟨o, xs, h0, h1, h2.cx hk⟩
  | ins C ivs => obtain ⟨Ca, dx, xs, h0, h1, h2⟩ := h; exact ⟨Ca, dx, xs, hm ▸ h0, h1, h2.cx hk⟩
  | xd ivs => obtain ⟨xs, h1, h2⟩ := h; exact ⟨xs, h1, h2.cx hk⟩
end

structure R (K : KX) (w : Wd) (S : Sto) (H : Hp) : Prop where
  len : w.rho.length = S.length
  nd : w.rho.Nodup
  cell : ∀ (n : Nat) (c : Cell) (a : Addr), S[n]? = some c → w.rho[n]? = some a → CellOk K w H a c
  own : ∀ (n : Nat) (a : Addr), w.rho[n]? = some a → w.F a = none ∧ (w.G a = none ∨ ∃ kvs, S[n]? = some (.dicL kvs))
  F : Same w.F H
  G : Same w.G H
  dis : ∀ (a : Addr) (o : HO), w.G a = some o → w.F a = none
theorem R.cx {K K' : KX} {w : Wd} {S : Sto} {H : Hp} (r : R K w S H) (hk : K.k = K'.k) (hm : K.mg = K'.mg) : R K' w S H :=
  ⟨r.len, r.nd, fun n c a h1 h2 => (r.cell n c a h1 h2).cx hk hm, r.own, r.F, r.G, r.dis⟩
section
variable {K : KX} {w : Wd} {S : Sto} {H : Hp}
theorem R.addr (r : R K w S H) {n : Nat} {c : Cell} (h : S[n]? = some c) : ∃ a, w.rho[n]? = some a := by
  have := (List.getElem?_eq_some_iff.mp h).1
  exact ⟨_, List.getElem?_eq_getElem (by rw [r.len]; exact this)⟩
theorem R.there (r : R K w S H) {n : Nat} {a : Addr} (h : w.rho[n]? = some a) : ∃ c, S[n]? = some c ∧ CellOk K w H a c := by
  have := (List.getElem?_eq_some_iff.mp h).1
  have e := List.getElem?_eq_getElem (l := S) (i := n) (by rw [← r.len]; exact this)
  exact ⟨_, e, r.cell n _ a e h⟩
theorem R.ne_new (r : R K w S H) {n : Nat} {a p : Addr} (h : w.rho[n]? = some a) (hp : H p = none) : a ≠ p := by
  obtain ⟨c, _, h2⟩ := r.there h
  obtain ⟨o, h3⟩ := h2.some
  exact ne_of_none h3 hp
/-- a new cell -/
theorem R.alloc (r : R K w S H) {p : Addr} {o : HO} {c : Cell} (hp : H p = none) (hc : ∀ w', w.le w' → CellOk K w' (upd H p o) p c) : w.le ⟨w.rho ++ [p], w.F, w.G⟩ ∧ R K ⟨w.rho ++ [p], w.F, w.G⟩ (S ++ [c]) (upd H p o) := by
  have l : w.le ⟨w.rho ++ [p], w.F, w.G⟩ := ⟨⟨⟨[p], rfl⟩, Same.refl _⟩, rfl⟩
  have key : ∀ {n : Nat} {a : Addr}, (w.rho ++ [p])[n]? = some a → (w.rho[n]? = some a ∧ n < w.rho.length) ∨ (n = w.rho.length ∧ a = p) := fun {n a} h => by
    by_cases hn : n < w.rho.length
    · rw [List.getElem?_append_left hn] at h; exact .inl ⟨h, hn⟩
    · have hlt := (List.getElem?_eq_some_iff.mp h).1
      rw [List.length_append, List.length_singleton] at hlt
      have e : n = w.rho.length := by omega
      subst e
      rw [List.getElem?_append_right (Nat.le_refl _), Nat.sub_self] at h
      exact .inr ⟨rfl, (Option.some.inj h).symm⟩
  refine ⟨l, ?_, ?_, fun n c' a h1 h2 => ?_, fun n a h => ?_, fun b u e => ?_, fun b u e => ?_, r.dis⟩
  · show (w.rho ++ [p]).length = (S ++ [c]).length
    rw [List.length_append, List.length_append, r.len]
    rfl
  · show (w.rho ++ [p]).Nodup
    rw [List.nodup_append]
    refine ⟨r.nd, by simp, fun a ha b hb => ?_⟩
    obtain ⟨n, h⟩ := List.getElem?_of_mem ha
    have : b = p := by simpa using hb
    rw [this]
    exact r.ne_new h hp
  · rcases key h2 with ⟨h, hn⟩ | ⟨h, e⟩
    · rw [List.getElem?_append_left (by rw [← r.len]; exact hn)] at h1
      exact (r.cell n c' a h1 h).mono l.1 (upd_ne (r.ne_new h hp)) fun _ z => z
    · subst e
      rw [h, r.len, List.getElem?_append_right (Nat.le_refl _), Nat.sub_self] at h1
      have : c = c' := Option.some.inj h1
      rw [← this]
      exact hc _ l
  · rcases key h with ⟨h, hn⟩ | ⟨h, e⟩
    · obtain ⟨g1, g2⟩ := r.own n a h
      refine ⟨g1, g2.imp id fun ⟨kvs, z⟩ => ⟨kvs, ?_⟩⟩
      rw [List.getElem?_append_left (List.getElem?_eq_some_iff.mp z).1]
      exact z
    · subst e
      constructor
      · cases q : w.F a with
        | none => rfl
        | some u => rw [r.F _ _ q] at hp; cases hp
      · left
        cases q : w.G a with
        | none => rfl
        | some u => rw [r.G _ _ q] at hp; cases hp
  · have := r.F _ _ e
    rw [upd_ne (ne_of_none this hp)]; exact this
  · have := r.G _ _ e
    rw [upd_ne (ne_of_none this hp)]; exact this
/-- a new object that never changes -/
theorem R.frz (r : R K w S H) {p : Addr} {o : HO} (hp : H p = none) : w.le ⟨w.rho, upd w.F p o, w.G⟩ ∧ R K ⟨w.rho, upd w.F p o, w.G⟩ S (upd H p o) := by
  have nF : w.F p = none := by
    cases q : w.F p with
    | none => rfl
    | some u => rw [r.F _ _ q] at hp; cases hp
  have l : w.le ⟨w.rho, upd w.F p o, w.G⟩ := ⟨⟨⟨[], by simp⟩, fun b u e => by
    show upd w.F p o b = some u
    rw [upd_ne (ne_of_none e nF)]; exact e⟩, rfl⟩
  refine ⟨l, r.len, r.nd, fun n c a h1 h2 => (r.cell n c a h1 h2).mono l.1 (upd_ne (r.ne_new h2 hp)) (fun _ z => z), fun n a h => ⟨?_, (r.own n a h).2⟩, fun b u e => ?_, fun b u e => ?_, fun b u e => ?_⟩
  · show upd w.F p o a = none
    rw [upd_ne (r.ne_new h hp)]; exact (r.own n a h).1
  · have e : upd w.F p o b = some u := e
    by_cases hb : b = p
    · subst hb; rw [upd_same] at e; rw [upd_same]; exact e
    · rw [upd_ne hb] at e; rw [upd_ne hb]; exact r.F _ _ e
  · have := r.G _ _ e
    rw [upd_ne (ne_of_none this hp)]; exact this
  · show upd w.F p o b = none
    rw [upd_ne (ne_of_none (r.G _ _ e) hp)]; exact r.dis _ _ e
/-- a cell is written -/
theorem R.write (r : R K w S H) {n : Nat} {a : Addr} {o : HO} {c : Cell} (h : w.rho[n]? = some a) (hc : CellOk K w (upd H a o) a c) (hnl : ∀ kvs, S[n]? ≠ some (.dicL kvs)) : R K w (S.set n c) (upd H a o) := by
  have hG : w.G a = none := (r.own n a h).2.elim id fun ⟨kvs, z⟩ => absurd z (hnl kvs)
  refine ⟨by rw [List.length_set]; exact r.len, r.nd, fun m c' b h1 h2 => ?_, fun m b hm => ?_, fun b u e => ?_, fun b u e => ?_, r.dis⟩
  · by_cases hm : m = n
    · subst hm
      rw [h] at h2; cases h2
      have hlt : m < S.length := by rw [← r.len]; exact (List.getElem?_eq_some_iff.mp h).1
      rw [List.getElem?_set_self hlt] at h1
      cases h1
      exact hc
    · rw [List.getElem?_set_ne (Ne.symm hm)] at h1
      have hb : b ≠ a := fun z => by
        subst z
        obtain ⟨i1, e1⟩ := List.getElem?_eq_some_iff.mp h
        obtain ⟨i2, e2⟩ := List.getElem?_eq_some_iff.mp h2
        exact hm ((List.getElem_inj r.nd).mp (e2.trans e1.symm))
      exact (r.cell m c' b h1 h2).mono (Wd.lr.refl w) (upd_ne hb) fun _ z => z
  · refine ⟨(r.own m b hm).1, ?_⟩
    rcases (r.own m b hm).2 with z | ⟨kvs, z⟩
    · exact .inl z
    · refine .inr ⟨kvs, ?_⟩
      by_cases hmn : m = n
      · subst hmn; exact absurd z (hnl kvs)
      · rw [List.getElem?_set_ne (Ne.symm hmn)]; exact z
  · rw [upd_ne (ne_of_none e (r.own n a h).1)]; exact r.F _ _ e
  · rw [upd_ne (ne_of_none e hG)]; exact r.G _ _ e
/-- an object of the frame -/
theorem R.ghost (r : R K w S H) {p : Addr} {o : HO} (hp : H p = none) : R K ⟨w.rho, w.F, upd w.G p o⟩ S (upd H p o) := by
  have nF : w.F p = none := by
    cases q : w.F p with
    | none => rfl
    | some u => rw [r.F _ _ q] at hp; cases hp
  refine ⟨r.len, r.nd, fun n c a h1 h2 => (r.cell n c a h1 h2).mono (Wd.lr.mk ⟨[], by simp⟩ (Same.refl _)) (upd_ne (r.ne_new h2 hp)) (fun o' z => by
    show upd w.G p o a = some o'
    rw [upd_ne (r.ne_new h2 hp)]; exact z), fun n a h => ⟨(r.own n a h).1, (r.own n a h).2.imp (fun z => ?_) id⟩, fun b u e => ?_, fun b u e => ?_, fun b u e => ?_⟩
  · show upd w.G p o a = none
    rw [upd_ne (r.ne_new h hp)]; exact z
  · have := r.F _ _ e
    rw [upd_ne (ne_of_none this hp)]; exact this
  · have e : upd w.G p o b = some u := e
    by_cases hb : b = p
    · subst hb; rw [upd_same] at e; rw [upd_same]; exact e
    · rw [upd_ne hb] at e; rw [upd_ne hb]; exact r.G _ _ e
  · have e : upd w.G p o b = some u := e
    by_cases hb : b = p
    · subst hb; exact nF
    · rw [upd_ne hb] at e; exact r.dis _ _ e
theorem R.ghostW {rho : List Addr} {F G : Hp} {p : Addr} {o o' : HO} (ho : ∀ u v, o ≠ .frz u v) (r : R K ⟨rho, F, upd G p o⟩ S H) : R K ⟨rho, F, upd G p o'⟩ S (upd H p o') := by
  have hF : F p = none := r.dis p o upd_same
  have hrho : ∀ n a, rho[n]? = some a → a ≠ p := fun n a h z => by
    subst z
    rcases (r.own n a h).2 with t | ⟨kvs, t⟩
    · have t : upd G a o a = none := t
      rw [upd_same] at t
      cases t
    · obtain ⟨o1, ps, h1, _⟩ := r.cell n _ a t h
      have h1 : upd G a o a = _ := h1
      rw [upd_same] at h1
      exact ho _ _ (Option.some.inj h1)
  refine ⟨r.len, r.nd, fun n c a h1 h2 => (r.cell n c a h1 h2).mono (Wd.lr.mk ⟨[], by simp⟩ (Same.refl _)) (upd_ne (hrho n a h2)) (fun o1 z => by
    have z : upd G p o a = some o1 := z
    show upd G p o' a = some o1
    rw [upd_ne (hrho n a h2)] at z ⊢; exact z), fun n a h => ⟨(r.own n a h).1, (r.own n a h).2.imp (fun z => ?_) id⟩, fun b u e => ?_, fun b u e => ?_, fun b u e => ?_⟩
  · show upd G p o' a = none
    rw [upd_ne (hrho n a h)]
    have t : upd G p o a = none := z
    rw [upd_ne (hrho n a h)] at t; exact t
  · have e : F b = some u := e
    rw [upd_ne (ne_of_none e hF)]; exact r.F _ _ e
  · have e : upd G p o' b = some u := e
    by_cases hb : b = p
    · subst hb; rw [upd_same] at e; rw [upd_same]; exact e
    · rw [upd_ne hb] at e; rw [upd_ne hb]; exact r.G b u (by show upd G p o b = some u; rw [upd_ne hb]; exact e)
  · have e : upd G p o' b = some u := e
    by_cases hb : b = p
    · subst hb; exact hF
    · rw [upd_ne hb] at e; exact r.dis b u (by show upd G p o b = some u; rw [upd_ne hb]; exact e)
/-- the ghost becomes an object that never changes -/
theorem R.ghostF {rho : List Addr} {F G : Hp} {p : Addr} {o : HO} (ho : ∀ u v, o ≠ .frz u v) (r : R K ⟨rho, F, upd G p o⟩ S H) (hG : G p = none) : R K ⟨rho, upd F p o, G⟩ S H := by
  have hF : F p = none := r.dis p o upd_same
  have hrho : ∀ n a, rho[n]? = some a → a ≠ p := fun n a h z => by
    subst z
    rcases (r.own n a h).2 with t | ⟨kvs, t⟩
    · have t : upd G a o a = none := t
      rw [upd_same] at t
      cases t
    · obtain ⟨o1, ps, h1, _⟩ := r.cell n _ a t h
      have h1 : upd G a o a = _ := h1
      rw [upd_same] at h1
      exact ho _ _ (Option.some.inj h1)
  refine ⟨r.len, r.nd, fun n c a h1 h2 => (r.cell n c a h1 h2).mono ⟨⟨[], by simp⟩, fun b u e => ?_⟩ rfl (fun o1 z => by
    have z : upd G p o a = some o1 := z
    rw [upd_ne (hrho n a h2)] at z; exact z), fun n a h => ⟨?_, (r.own n a h).2.imp (fun z => ?_) id⟩, fun b u e => ?_, fun b u e => ?_, fun b u e => ?_⟩
  · have e : F b = some u := e
    show upd F p o b = some u
    rw [upd_ne (ne_of_none e hF)]; exact e
  · show upd F p o a = none
    rw [upd_ne (hrho n a h)]; exact (r.own n a h).1
  · have t : upd G p o a = none := z
    rw [upd_ne (hrho n a h)] at t; exact t
  · have e : upd F p o b = some u := e
    by_cases hb : b = p
    · subst hb; rw [upd_same] at e; exact r.G b u (by show upd G b o b = some u; rw [upd_same]; exact e)
    · rw [upd_ne hb] at e; exact r.F _ _ e
  · have e : G b = some u := e
    exact r.G b u (by show upd G p o b = some u; rw [upd_ne (ne_of_none e hG)]; exact e)
  · have e : G b = some u := e
    show upd F p o b = none
    rw [upd_ne (ne_of_none e hG)]
    exact r.dis b u (by show upd G p o b = some u; rw [upd_ne (ne_of_none e hG)]; exact e)
/-- the ghost becomes a cell -/
theorem R.ghostC {rho : List Addr} {F G : Hp} {p : Addr} {o : HO} {c : Cell} (ho : ∀ u v, o ≠ .frz u v) (r : R K ⟨rho, F, upd G p o⟩ S H) (hG : G p = none) (hc : ∀ w', Wd.lr ⟨rho, F, upd G p o⟩ w' → CellOk K w' H p c) : R K ⟨rho ++ [p], F, G⟩ (S ++ [c]) H := by
  have hF : F p = none := r.dis p o upd_same
  have hrho : ∀ n a, rho[n]? = some a → a ≠ p := fun n a h z => by
    subst z
    rcases (r.own n a h).2 with t | ⟨kvs, t⟩
    · have t : upd G a o a = none := t
      rw [upd_same] at t
      cases t
    · obtain ⟨o1, ps, h1, _⟩ := r.cell n _ a t h
      have h1 : upd G a o a = _ := h1
      rw [upd_same] at h1
      exact ho _ _ (Option.some.inj h1)
  have hlen : rho.length = S.length := r.len
  have l : Wd.lr ⟨rho, F, upd G p o⟩ ⟨rho ++ [p], F, G⟩ := ⟨⟨[p], rfl⟩, Same.refl _⟩
  have key : ∀ {n : Nat} {a : Addr}, (rho ++ [p])[n]? = some a → (rho[n]? = some a ∧ n < rho.length) ∨ (n = rho.length ∧ a = p) := fun {n a} h => by
    by_cases hn : n < rho.length
    · rw [List.getElem?_append_left hn] at h; exact .inl ⟨h, hn⟩
    · have hlt := (List.getElem?_eq_some_iff.mp h).1
      rw [List.length_append, List.length_singleton] at hlt
      have e : n = rho.length := by omega
      subst e
      rw [List.getElem?_append_right (Nat.le_refl _), Nat.sub_self] at h
      exact .inr ⟨rfl, (Option.some.inj h).symm⟩
  refine ⟨?_, ?_, fun n c' a h1 h2 => ?_, fun n a h => ?_, r.F, fun b u e => ?_, fun b u e => ?_⟩
  · show (rho ++ [p]).length = (S ++ [c]).length
    rw [List.length_append, List.length_append, hlen]
    rfl
  · show (rho ++ [p]).Nodup
    rw [List.nodup_append]
    refine ⟨r.nd, by simp, fun a ha b hb => ?_⟩
    obtain ⟨n, h⟩ := List.getElem?_of_mem ha
    have : b = p := by simpa using hb
    rw [this]
    exact hrho n a h
  · rcases key h2 with ⟨h, hn⟩ | ⟨h, e⟩
    · rw [List.getElem?_append_left (by rw [← hlen]; exact hn)] at h1
      exact (r.cell n c' a h1 h).mono l rfl fun o1 z => by
        have z : upd G p o a = some o1 := z
        rw [upd_ne (hrho n a h)] at z; exact z
    · subst e
      rw [h, hlen, List.getElem?_append_right (Nat.le_refl _), Nat.sub_self] at h1
      have : c = c' := Option.some.inj h1
      rw [← this]
      exact hc _ l
  · rcases key h with ⟨h, hn⟩ | ⟨h, e⟩
    · refine ⟨(r.own n a h).1, (r.own n a h).2.imp (fun z => ?_) fun ⟨kvs, z⟩ => ⟨kvs, ?_⟩⟩
      · have t : upd G p o a = none := z
        rw [upd_ne (hrho n a h)] at t; exact t
      · rw [List.getElem?_append_left (List.getElem?_eq_some_iff.mp z).1]; exact z
    · subst e
      exact ⟨hF, .inl hG⟩
  · have e : G b = some u := e
    exact r.G b u (by show upd G p o b = some u; rw [upd_ne (ne_of_none e hG)]; exact e)
  · have e : G b = some u := e
    exact r.dis b u (by show upd G p o b = some u; rw [upd_ne (ne_of_none e hG)]; exact e)
end

section
variable {K : KX} {w : Wd} {S : Sto} {H : Hp}
/-- a dict is locked -/
theorem R.lock (r : R K w S H) {n : Nat} {a : Addr} {o : Obj} {ps : List (Key × V)} {kvs : List (Key × IV)} (h : w.rho[n]? = some a) (hs : S[n]? = some (.dic kvs)) (hH : H a = some (.dK ps)) (hr : RelKV K w ps kvs) :
    R K ⟨w.rho, w.F, upd w.G a (.frz o (.dK ps))⟩ (S.set n (.dicL kvs)) (upd H a (.frz o (.dK ps))) := by
  have hF : w.F a = none := (r.own n a h).1
  have inj : ∀ m b, w.rho[m]? = some b → m ≠ n → b ≠ a := fun m b hb hm z => by
    subst z
    obtain ⟨i1, e1⟩ := List.getElem?_eq_some_iff.mp h
    obtain ⟨i2, e2⟩ := List.getElem?_eq_some_iff.mp hb
    exact hm ((List.getElem_inj r.nd).mp (e2.trans e1.symm))
  have hlt : n < S.length := (List.getElem?_eq_some_iff.mp hs).1
  have l : Wd.lr w ⟨w.rho, w.F, upd w.G a (.frz o (.dK ps))⟩ := ⟨⟨[], by simp⟩, Same.refl _⟩
  refine ⟨by rw [List.length_set]; exact r.len, r.nd, fun m c b h1 h2 => ?_, fun m b hm => ⟨(r.own m b hm).1, ?_⟩, fun b u e => ?_, fun b u e => ?_, fun b u e => ?_⟩
  · by_cases hm : m = n
    · subst hm
      have h2 : w.rho[m]? = some b := h2
      rw [h] at h2; cases h2
      rw [List.getElem?_set_self hlt] at h1
      cases h1
      exact ⟨o, ps, upd_same, upd_same, hr.mono l⟩
    · rw [List.getElem?_set_ne (Ne.symm hm)] at h1
      have hb := inj m b h2 hm
      refine (r.cell m c b h1 h2).mono l (upd_ne hb) fun o1 z => ?_
      show upd w.G a _ b = some o1
      rw [upd_ne hb]; exact z
  · by_cases hmn : m = n
    · subst hmn; exact .inr ⟨kvs, List.getElem?_set_self hlt⟩
    · refine (r.own m b hm).2.imp (fun z => ?_) fun ⟨k, z⟩ => ⟨k, by rw [List.getElem?_set_ne (Ne.symm hmn)]; exact z⟩
      show upd w.G a _ b = none
      rw [upd_ne (inj m b hm hmn)]; exact z
  · rw [upd_ne (ne_of_none e hF)]; exact r.F _ _ e
  · have e : upd w.G a _ b = some u := e
    by_cases hb : b = a
    · subst hb; rw [upd_same] at e; rw [upd_same]; exact e
    · rw [upd_ne hb] at e; rw [upd_ne hb]; exact r.G _ _ e
  · have e : upd w.G a _ b = some u := e
    by_cases hb : b = a
    · subst hb; exact hF
    · rw [upd_ne hb] at e; exact r.dis _ _ e
/-- .. and let go -/
theorem R.unlock {rho : List Addr} {F G : Hp} {n : Nat} {a : Addr} {o : Obj} {ps : List (Key × V)} {kvs : List (Key × IV)} (r : R K ⟨rho, F, upd G a (.frz o (.dK ps))⟩ S H) (h : rho[n]? = some a) (hs : S[n]? = some (.dicL kvs)) (hG : G a = none) :
    H a = some (.frz o (.dK ps)) ∧ R K ⟨rho, F, G⟩ (S.set n (.dic kvs)) (upd H a (.dK ps)) := by
  obtain ⟨o1, ps1, g1, g2, g3⟩ := r.cell n _ a hs h
  have g1 : upd G a (.frz o (.dK ps)) a = some (.frz o1 (.dK ps1)) := g1
  rw [upd_same] at g1
  cases g1
  refine ⟨g2, ?_⟩
  have hF : F a = none := (r.own n a h).1
  have inj : ∀ m b, rho[m]? = some b → m ≠ n → b ≠ a := fun m b hb hm z => by
    subst z
    obtain ⟨i1, e1⟩ := List.getElem?_eq_some_iff.mp h
    obtain ⟨i2, e2⟩ := List.getElem?_eq_some_iff.mp hb
    exact hm ((List.getElem_inj r.nd).mp (e2.trans e1.symm))
  have hlt : n < S.length := (List.getElem?_eq_some_iff.mp hs).1
  have l : Wd.lr ⟨rho, F, upd G a (.frz o (.dK ps))⟩ ⟨rho, F, G⟩ := ⟨⟨[], by simp⟩, Same.refl _⟩
  refine ⟨by rw [List.length_set]; exact r.len, r.nd, fun m c b h1 h2 => ?_, fun m b hm => ⟨(r.own m b hm).1, ?_⟩, fun b u e => ?_, fun b u e => ?_, fun b u e => ?_⟩
  · by_cases hm : m = n
    · subst hm
      have h2 : rho[m]? = some b := h2
      rw [h] at h2; cases h2
      rw [List.getElem?_set_self hlt] at h1
      cases h1
      exact ⟨ps, upd_same, g3.mono l⟩
    · rw [List.getElem?_set_ne (Ne.symm hm)] at h1
      have hb := inj m b h2 hm
      refine (r.cell m c b h1 h2).mono l (upd_ne hb) fun o1 z => ?_
      have z : upd G a _ b = some o1 := z
      rw [upd_ne hb] at z; exact z
  · by_cases hmn : m = n
    · subst hmn
      have hm : rho[m]? = some b := hm
      rw [h] at hm; cases hm
      exact .inl hG
    · refine (r.own m b hm).2.imp (fun z => ?_) fun ⟨k, z⟩ => ⟨k, by rw [List.getElem?_set_ne (Ne.symm hmn)]; exact z⟩
      have z : upd G a _ b = none := z
      rw [upd_ne (inj m b hm hmn)] at z; exact z
  · rw [upd_ne (ne_of_none e hF)]; exact r.F _ _ e
  · have e : G b = some u := e
    have hb : b ≠ a := ne_of_none e hG
    rw [upd_ne hb]
    exact r.G b u (by show upd G a _ b = some u; rw [upd_ne hb]; exact e)
  · have e : G b = some u := e
    have hb : b ≠ a := ne_of_none e hG
    exact r.dis b u (by show upd G a _ b = some u; rw [upd_ne hb]; exact e)
/-- .. told anew -/
theorem R.unlockK {rho : List Addr} {F G : Hp} {n : Nat} {a : Addr} {o : Obj} {ps : List (Key × V)} {kvs kvs2 : List (Key × IV)} (r : R K ⟨rho, F, upd G a (.frz o (.dK ps))⟩ S H) (h : rho[n]? = some a) (hs : S[n]? = some (.dicL kvs2)) (hG : G a = none) (h4 : RelKV K ⟨rho, F, G⟩ ps kvs) :
    H a = some (.frz o (.dK ps)) ∧ R K ⟨rho, F, G⟩ (S.set n (.dic kvs)) (upd H a (.dK ps)) := by
  obtain ⟨o1, ps1, g1, g2, g3⟩ := r.cell n _ a hs h
  have g1 : upd G a (.frz o (.dK ps)) a = some (.frz o1 (.dK ps1)) := g1
  rw [upd_same] at g1
  cases g1
  refine ⟨g2, ?_⟩
  have hF : F a = none := (r.own n a h).1
  have inj : ∀ m b, rho[m]? = some b → m ≠ n → b ≠ a := fun m b hb hm z => by
    subst z
    obtain ⟨i1, e1⟩ := List.getElem?_eq_some_iff.mp h
    obtain ⟨i2, e2⟩ := List.getElem?_eq_some_iff.mp hb
    exact hm ((List.getElem_inj r.nd).mp (e2.trans e1.symm))
  have hlt : n < S.length := (List.getElem?_eq_some_iff.mp hs).1
  have l : Wd.lr ⟨rho, F, upd G a (.frz o (.dK ps))⟩ ⟨rho, F, G⟩ := ⟨⟨[], by simp⟩, Same.refl _⟩
  refine ⟨by rw [List.length_set]; exact r.len, r.nd, fun m c b h1 h2 => ?_, fun m b hm => ⟨(r.own m b hm).1, ?_⟩, fun b u e => ?_, fun b u e => ?_, fun b u e => ?_⟩
  · by_cases hm : m = n
    · subst hm
      have h2 : rho[m]? = some b := h2
      rw [h] at h2; cases h2
      rw [List.getElem?_set_self hlt] at h1
      cases h1
      exact ⟨ps, upd_same, h4⟩
    · rw [List.getElem?_set_ne (Ne.symm hm)] at h1
      have hb := inj m b h2 hm
      refine (r.cell m c b h1 h2).mono l (upd_ne hb) fun o1 z => ?_
      have z : upd G a _ b = some o1 := z
      rw [upd_ne hb] at z; exact z
  · by_cases hmn : m = n
    · subst hmn
      have hm : rho[m]? = some b := hm
      rw [h] at hm; cases hm
      exact .inl hG
    · refine (r.own m b hm).2.imp (fun z => ?_) fun ⟨k, z⟩ => ⟨k, by rw [List.getElem?_set_ne (Ne.symm hmn)]; exact z⟩
      have z : upd G a _ b = none := z
      rw [upd_ne (inj m b hm hmn)] at z; exact z
  · rw [upd_ne (ne_of_none e hF)]; exact r.F _ _ e
  · have e : G b = some u := e
    have hb : b ≠ a := ne_of_none e hG
    rw [upd_ne hb]
    exact r.G b u (by show upd G a _ b = some u; rw [upd_ne hb]; exact e)
  · have e : G b = some u := e
    have hb : b ≠ a := ne_of_none e hG
    exact r.dis b u (by show upd G a _ b = some u; rw [upd_ne hb]; exact e)
end

/-- the slots; that of the exception that is being handled tells nothing -/
structure SR (K : KX) (w : Wd) (σ : L2.St) (Λ : Slots) : Prop where
  len : σ.length = Λ.length
  get : ∀ (i : Nat) (iv : IV), Λ[i]? = some (some iv) → ∃ v, σ[i]? = some (some v) ∧ Rel K w v iv
  ex : ∀ (i n : Nat) (a d : Addr), K.ex = some (i, n, a, d) → Λ[i]? = some none → σ[i]? = some (some (.ref a)) ∧ w.rho[n]? = some d
theorem SR.mono {K : KX} {w w' : Wd} {σ : L2.St} {Λ : Slots} (h : SR K w σ Λ) (l : w.lr w') : SR K w' σ Λ :=
  ⟨h.len, fun i iv e => let ⟨v, h1, h2⟩ := h.get i iv e; ⟨v, h1, Rel.mono l _ _ h2⟩, fun i n a d e1 e2 => ⟨(h.ex i n a d e1 e2).1, l.get (h.ex i n a d e1 e2).2⟩⟩
theorem SR.up {K : KX} {w w' : Wd} {σ : L2.St} {Λ : Slots} (h : SR K w σ Λ) (l : w.le w') : SR K w' σ Λ := h.mono l.1
theorem SR.set {K : KX} {w : Wd} {σ : L2.St} {Λ : Slots} (h : SR K w σ Λ) (i : Nat) {v : V} {iv : IV} (r : Rel K w v iv) : SR K w (σ.set i (some v)) (Λ.set i (some iv)) := by
  refine ⟨by rw [List.length_set, List.length_set]; exact h.len, fun j jv e => ?_, fun j n a d e1 e2 => ?_⟩
  · by_cases hj : j = i
    · subst hj
      have hlt : j < Λ.length := by have := (List.getElem?_eq_some_iff.mp e).1; rwa [List.length_set] at this
      rw [List.getElem?_set_self hlt] at e
      have : iv = jv := Option.some.inj (Option.some.inj e)
      rw [← this]
      exact ⟨v, by rw [List.getElem?_set_self (by rw [h.len]; exact hlt)], r⟩
    · rw [List.getElem?_set_ne (Ne.symm hj)] at e
      rw [List.getElem?_set_ne (Ne.symm hj)]
      exact h.get j jv e
  · by_cases hj : j = i
    · subst hj
      have hlt : j < Λ.length := by have := (List.getElem?_eq_some_iff.mp e2).1; rwa [List.length_set] at this
      rw [List.getElem?_set_self hlt] at e2
      cases e2
    · rw [List.getElem?_set_ne (Ne.symm hj)] at e2
      rw [List.getElem?_set_ne (Ne.symm hj)]
      exact h.ex j n a d e1 e2
theorem SR.setN {K : KX} {w : Wd} {σ : L2.St} {Λ : Slots} (h : SR K w σ Λ) (i : Nat) (u : Option V) (hx : exOff K.ex [i] = true) : SR K w (σ.set i u) (Λ.set i none) := by
  refine ⟨by rw [List.length_set, List.length_set]; exact h.len, fun j jv e => ?_, fun j n a d e1 e2 => ?_⟩
  · by_cases hj : j = i
    · subst hj
      have hlt : j < Λ.length := by have := (List.getElem?_eq_some_iff.mp e).1; rwa [List.length_set] at this
      rw [List.getElem?_set_self hlt] at e
      cases e
    · rw [List.getElem?_set_ne (Ne.symm hj)] at e
      rw [List.getElem?_set_ne (Ne.symm hj)]
      exact h.get j jv e
  · have hj : j ≠ i := fun z => by
      rw [e1, z] at hx
      simp [exOff] at hx
    rw [List.getElem?_set_ne (Ne.symm hj)] at e2
    rw [List.getElem?_set_ne (Ne.symm hj)]
    exact h.ex j n a d e1 e2

/-! ### what follows -/
def Post {α : Type} (K : KX) (W : WX) (w : Wd) (o : Out α) (P : Wd → Hp → Sto → α → Prop) : Prop :=
  match o with
  | .ok a S' => ∀ w' H', w.le w' → R K w' S' H' → P w' H' S' a
  | .exc C n L S' => ∀ w' H' a σ', w.le w' → R K w' S' H' → SR K w' σ' L → w'.rho[n]? = some a → W (clsV K.mg C) (some a) σ' H'
  | .bad => False
section
variable {K : KX} {W : WX} {w : Wd} {α β : Type}
theorem Post.bind {o : Out α} {k : α → Sto → Out β} {P : Wd → Hp → Sto → β → Prop} (h : Post K W w (o.bind k) P) : Post K W w o fun w' H' S' a => Post K W w' (k a S') P := by
  cases o with
  | ok a S' =>
    intro w' H' l r
    have h : Post K W w (k a S') P := h
    show Post K W w' (k a S') P
    cases e : k a S' with
    | ok b S2 =>
      rw [e] at h
      exact fun w2 H2 l2 r2 => h w2 H2 (l.trans l2) r2
    | exc C n L S2 =>
      rw [e] at h
      exact fun w2 H2 a2 σ2 l2 r2 s2 g => h w2 H2 a2 σ2 (l.trans l2) r2 s2 g
    | bad =>
      rw [e] at h
      exact h
  | exc C n L S' => exact h
  | bad => exact h
theorem Post.imp {o : Out α} {P P' : Wd → Hp → Sto → α → Prop} (h : Post K W w o P) (f : ∀ w' H' S' a, w.le w' → R K w' S' H' → P w' H' S' a → P' w' H' S' a) : Post K W w o P' := by
  cases o with
  | ok a S' => exact fun w' H' l r => f w' H' S' a l r (h w' H' l r)
  | exc C n L S' => exact h
  | bad => exact h
theorem Post.now {a : α} {S : Sto} {H : Hp} {P : Wd → Hp → Sto → α → Prop} (h : Post K W w (.ok a S) P) (r : R K w S H) : P w H S a := h w H (Wd.le.refl w) r
theorem Post.ok {a : α} {S : Sto} {H : Hp} {w' : Wd} {P : Wd → Hp → Sto → α → Prop} (h : Post K W w (.ok a S) P) (l : w.le w') (r : R K w' S H) : P w' H S a := h w' H l r
end

abbrev IE := Slots → Sto → Out IV
abbrev IT := Slots → Sto → Out Bool
abbrev IA := Slots → Sto → Out (List IV)
inductive Fl where
  | nx (L : Slots) | rt (v : IV) | bk (L : Slots) | ct (L : Slots)
abbrev IS := Slots → Sto → Out Fl
abbrev IG := IV → Slots → Sto → Out Slots

def eM (K : KX) (W : WX) (m : IE) : TE := fun σ H Q => ∃ w S Λ, R K w S H ∧ SR K w σ Λ ∧ Post K W w (m Λ S) fun w' H' _ iv => ∀ v, Rel K w' v iv → Q v H'
def tM (K : KX) (W : WX) (m : IT) : TT := fun σ H Q => ∃ w S Λ, R K w S H ∧ SR K w σ Λ ∧ Post K W w (m Λ S) fun _ H' _ b => Q b H'
def aM (K : KX) (W : WX) (m : IA) : TA := fun σ H Q => ∃ w S Λ, R K w S H ∧ SR K w σ Λ ∧ Post K W w (m Λ S) fun w' H' _ ivs => ∀ vs, RelL K w' vs ivs → Q vs H'
def FlP (K : KX) (w : Wd) (D : Ends) (H : Hp) : Fl → Prop
  | .nx L => ∀ σ, SR K w σ L → D.nx σ H
  | .rt iv => ∀ v, Rel K w v iv → D.rt v H
  | .bk L => ∀ σ, SR K w σ L → D.bk σ H
  | .ct L => ∀ σ, SR K w σ L → D.ct σ H
def sM (K : KX) (W : WX) (m : IS) : TS := fun D σ H => ∃ w S Λ, R K w S H ∧ SR K w σ Λ ∧ Post K W w (m Λ S) fun w' H' _ fl => FlP K w' D H' fl
def gM (K : KX) (W : WX) (m : IG) : TG := fun v σ H Q => ∃ w S Λ iv, R K w S H ∧ SR K w σ Λ ∧ Rel K w v iv ∧ Post K W w (m iv Λ S) fun w' H' _ L => ∀ σ', SR K w' σ' L → Q σ' H'

theorem _root_.L2.PE.imp {X : Cx} {e : Expr} {t t' : TE} (h : PE X e t) (f : ∀ σ H Q, t' σ H Q → t σ H Q) : PE X e t' := ⟨fun pins s σ H Q I q => h.run pins s σ H Q I (f σ H Q q)⟩
theorem _root_.L2.PT.imp {X : Cx} {e : Expr} {t t' : TT} (h : PT X e t) (f : ∀ σ H Q, t' σ H Q → t σ H Q) : PT X e t' := ⟨fun pins s σ H Q I q => h.run pins s σ H Q I (f σ H Q q)⟩
theorem _root_.L2.PW.imp {X : Cx} {e : Expr} {t t' : TT} (h : PW X e t) (f : ∀ σ H Q, t' σ H Q → t σ H Q) : PW X e t' := ⟨fun wh pins s σ H Q I q => h.run wh pins s σ H Q I (f σ H Q q)⟩
theorem _root_.L2.PA.imp {X : Cx} {e : List Expr} {t t' : TA} (h : PA X e t) (f : ∀ σ H Q, t' σ H Q → t σ H Q) : PA X e t' := ⟨fun p pins s σ H Q I q => h.run p pins s σ H Q I (f σ H Q q)⟩
theorem _root_.L2.PS.imp {X : Cx} {e : Stmt} {t t' : TS} (h : PS X e t) (f : ∀ D σ H, t' D σ H → t D σ H) : PS X e t' := ⟨fun pins s σ H D I q => h.run pins s σ H D I (f D σ H q)⟩
theorem _root_.L2.PSs.imp {X : Cx} {e : List Stmt} {t t' : TS} (h : PSs X e t) (f : ∀ D σ H, t' D σ H → t D σ H) : PSs X e t' := ⟨fun pins s σ H D I q => h.run pins s σ H D I (f D σ H q)⟩
theorem _root_.L2.PG.imp {X : Cx} {e : Expr} {t t' : TG} (h : PG X e t) (f : ∀ v σ H Q, t' v σ H Q → t v σ H Q) : PG X e t' := ⟨fun pins s σ H v u Q I r q => h.run pins s σ H v u Q I r (f v σ H Q q)⟩
theorem _root_.L2.PTs.imp {X : Cx} {e : List Expr} {t t' : TT} (h : PTs X e t) (f : ∀ σ H Q, t' σ H Q → t σ H Q) : PTs X e t' := ⟨fun pins s σ H Q I q => h.run pins s σ H Q I (f σ H Q q)⟩
end Sm

namespace Sm
open PySem PySem.Spec PyProof.Rows L2

def chk {α : Type} (p : Prop) [Decidable p] (o : Out α) : Out α := if p then o else .bad
theorem chk_pos {α : Type} {p : Prop} [Decidable p] {o : Out α} (h : p) : chk p o = o := if_pos h
theorem chk_neg {α : Type} {p : Prop} [Decidable p] {o : Out α} (h : ¬ p) : chk p o = .bad := if_neg h
theorem chk_post {α : Type} {K : KX} {W : WX} {w : Wd} {p : Prop} [Decidable p] {o : Out α} {P : Wd → Hp → Sto → α → Prop} (h : Post K W w (chk p o) P) : p ∧ Post K W w o P := by
  by_cases hp : p
  · rw [chk_pos hp] at h; exact ⟨hp, h⟩
  · rw [chk_neg hp] at h; exact h.elim

abbrev kx (X : Cx) (W : WZ) : KX := ⟨X.K, X.mg, W.ex⟩
/-! ### names, constants -/
def iVar (i : Nat) : IE := fun Λ S => match Λ[i]? with
  | some (some iv) => .ok iv S
  | _ => .bad
def iC (iv : IV) : IE := fun _ S => .ok iv S
section
variable {X : Cx} {W : WZ} {pos : Pos}
abbrev DE (X : Cx) (W : WZ) (e : Expr) (m : IE) : Prop := PE X e (eM (kx X W) W.x m)
abbrev DT (X : Cx) (W : WZ) (e : Expr) (m : IT) : Prop := PT X e (tM (kx X W) W.x m)
abbrev DW (X : Cx) (W : WZ) (e : Expr) (m : IT) : Prop := PW X e (tM (kx X W) W.x m)
abbrev DA (X : Cx) (W : WZ) (e : List Expr) (m : IA) : Prop := PA X e (aM (kx X W) W.x m)
abbrev DS (X : Cx) (W : WZ) (e : Stmt) (m : IS) : Prop := PS X e (sM (kx X W) W.x m)
abbrev DSs (X : Cx) (W : WZ) (e : List Stmt) (m : IS) : Prop := PSs X e (sM (kx X W) W.x m)
abbrev DG (X : Cx) (W : WZ) (e : Expr) (m : IG) : Prop := PG X e (gM (kx X W) W.x m)
theorem de_var (i : Nat) {x : Str} (hN : X.N[i]? = some x := by rfl) (hv : Vis X.env.scope x := by first | exact Or.inl rfl | exact Or.inr (Or.inl rfl) | exact Or.inr (Or.inr rfl)) (hd : (x == ("__debug__" : Str)) = false := by decide)
    (hcd : (x == ("__classdict__" : Str)) = false := by decide) : DE X W (.Name x pos) (iVar i) :=
  (pe_var hN hv hd hcd).imp fun σ H Q ⟨w, S, Λ, r, s, p⟩ => by
    unfold iVar at p
    split at p
    · rename_i iv e
      obtain ⟨v, h1, h2⟩ := s.get i iv e
      exact ⟨v, h1, p.now r v h2⟩
    · exact p.elim
theorem de_c {e : Expr} {v : V} {iv : IV} (h : PE X e (tC v)) (hr : ∀ w, Rel (kx X W) w v iv) : DE X W e (iC iv) :=
  h.imp fun σ H Q ⟨w, S, Λ, r, s, p⟩ => p.now r v (hr w)
theorem de_int {i j} : DE X W (.Constant (.int i) j pos) (iC (.int i)) := de_c pe_int fun _ => .int i
theorem de_bl {i j} : DE X W (.Constant (.bool i) j pos) (iC (.bl i)) := de_c pe_bl fun _ => .bl i
theorem de_str {i j} : DE X W (.Constant (.str i) j pos) (iC (.str i)) := de_c pe_str fun _ => .str i
theorem de_non {j} : DE X W (.Constant .none j pos) (iC .non) := de_c pe_non fun _ => .non
end

/-! ### operators -/
def OpS (K : KX) (W : WX) (r : R2) (f : IV → IV → Sto → Out IV) : Prop := ∀ (w : Wd) (S : Sto) (H : Hp) (x y : V) (ix iy : IV) (Q : VK), R K w S H → Rel K w x ix → Rel K w y iy →
  Post K W w (f ix iy S) (fun w' H' _ iv => ∀ v, Rel K w' v iv → Q v H') → r x y H Q
def UnS (K : KX) (W : WX) (r : V → Hp → VK → Prop) (f : IV → Sto → Out IV) : Prop := ∀ (w : Wd) (S : Sto) (H : Hp) (x : V) (ix : IV) (Q : VK), R K w S H → Rel K w x ix →
  Post K W w (f ix S) (fun w' H' _ iv => ∀ v, Rel K w' v iv → Q v H') → r x H Q
def CaS (K : KX) (W : WX) (r : List V → Hp → VK → Prop) (f : List IV → Sto → Out IV) : Prop := ∀ (w : Wd) (S : Sto) (H : Hp) (xs : List V) (ix : List IV) (Q : VK), R K w S H → RelL K w xs ix →
  Post K W w (f ix S) (fun w' H' _ iv => ∀ v, Rel K w' v iv → Q v H') → r xs H Q
def MtS (K : KX) (W : WX) (r : V → List V → Hp → VK → Prop) (f : IV → List IV → Sto → Out IV) : Prop := ∀ (w : Wd) (S : Sto) (H : Hp) (x : V) (xs : List V) (io : IV) (ix : List IV) (Q : VK), R K w S H → Rel K w x io → RelL K w xs ix →
  Post K W w (f io ix S) (fun w' H' _ iv => ∀ v, Rel K w' v iv → Q v H') → r x xs H Q
def iBin (f : IV → IV → Sto → Out IV) (ma mb : IE) : IE := fun Λ S => (ma Λ S).bind fun x S1 => (mb Λ S1).bind fun y S2 => f x y S2
def iUn (f : IV → Sto → Out IV) (ma : IE) : IE := fun Λ S => (ma Λ S).bind fun x S1 => f x S1
def iNil : IA := fun _ S => .ok [] S
def iCons (ma : IE) (mr : IA) : IA := fun Λ S => (ma Λ S).bind fun x S1 => (mr Λ S1).bind fun xs S2 => .ok (x :: xs) S2
def iCa (f : List IV → Sto → Out IV) (ma : IA) : IE := fun Λ S => (ma Λ S).bind fun x S1 => f x S1
section
variable {K : KX} {W : WX} {σ : L2.St} {H : Hp} {Q : VK}
theorem eM_bin {r : R2} {f : IV → IV → Sto → Out IV} {ma mb : IE} (ho : OpS K W r f) (h : eM K W (iBin f ma mb) σ H Q) : tOp r (eM K W ma) (eM K W mb) σ H Q := by
  obtain ⟨w, S, Λ, r0, s0, p⟩ := h
  exact ⟨w, S, Λ, r0, s0, p.bind.imp fun w1 H1 S1 ix l1 r1 p1 v1 rv1 => ⟨w1, S1, Λ, r1, s0.up l1, p1.bind.imp fun w2 H2 S2 iy l2 r2 p2 v2 rv2 => ho w2 S2 H2 _ _ _ _ _ r2 (rv1.up l2) rv2 p2⟩⟩
theorem eM_un {r : V → Hp → VK → Prop} {f : IV → Sto → Out IV} {ma : IE} (ho : UnS K W r f) (h : eM K W (iUn f ma) σ H Q) : tUn r (eM K W ma) σ H Q := by
  obtain ⟨w, S, Λ, r0, s0, p⟩ := h
  exact ⟨w, S, Λ, r0, s0, p.bind.imp fun w1 H1 S1 ix l1 r1 p1 v1 rv1 => ho w1 S1 H1 _ _ _ r1 rv1 p1⟩
theorem eM_ca {r : List V → Hp → VK → Prop} {f : List IV → Sto → Out IV} {ma : IA} (ho : CaS K W r f) (h : eM K W (iCa f ma) σ H Q) : tCB r (aM K W ma) σ H Q := by
  obtain ⟨w, S, Λ, r0, s0, p⟩ := h
  exact ⟨w, S, Λ, r0, s0, p.bind.imp fun w1 H1 S1 ix l1 r1 p1 v1 rv1 => ho w1 S1 H1 _ _ _ r1 rv1 p1⟩
end
section
variable {X : Cx} {W : WZ} {pos : Pos} {a b c : Expr} {ma mb mc : IE} {e : Expr} {es : List Expr} {me : IE} {mr : IA}
theorem da_nil : DA X W [] iNil := pa_nil.imp fun σ H Q ⟨w, S, Λ, r0, s0, p⟩ => p.now r0 [] .nil
theorem da_cons (ha : DE X W e me) (hr : DA X W es mr) (hs : starEach (e :: es) X.env = (false, eval e X.env) :: starEach es X.env := by rfl) : DA X W (e :: es) (iCons me mr) :=
  (pa_cons ha hr hs).imp fun σ H Q ⟨w, S, Λ, r0, s0, p⟩ => ⟨w, S, Λ, r0, s0, p.bind.imp fun w1 H1 S1 ix l1 r1 p1 v1 rv1 => ⟨w1, S1, Λ, r1, s0.up l1, p1.bind.imp fun w2 H2 S2 iy l2 r2 p2 v2 rv2 => p2.now r2 _ (.cons (rv1.up l2) rv2)⟩⟩
theorem de_bin {op : Operator} {r : R2} {f : IV → IV → Sto → Out IV} (ho : OpR X (binaryOp op) r) (hs : OpS (kx X W) W.x r f) (ha : DE X W a ma) (hb : DE X W b mb) : DE X W (.BinOp a op b pos) (iBin f ma mb) :=
  (pe_op ho ha hb).imp fun _ _ _ h => eM_bin hs h
theorem de_un {op : UnaryOp} {r : V → Hp → VK → Prop} {f : IV → Sto → Out IV} (ho : UnR X (unaryOp op) r) (hs : UnS (kx X W) W.x r f) (ha : DE X W a ma) : DE X W (.UnaryOp op a pos) (iUn f ma) :=
  (pe_un ho ha).imp fun _ _ _ h => eM_un hs h
theorem de_cmp {op : CmpOp} {r : R2} {f : IV → IV → Sto → Out IV} (ho : OpR X (compareOp op) r) (hs : OpS (kx X W) W.x r f) (ha : DE X W a ma) (hb : DE X W b mb) (hm : behindInMarks op b = false := by first | exact nomark _ | rfl) : DE X W (.Compare a [op] [b] pos) (iBin f ma mb) :=
  (pe_cmpR ho ha hb hm).imp fun _ _ _ h => eM_bin hs h
def asB {α : Type} (x : IV) (k : Bool → Out α) : Out α := match x with
  | .bl b => k b
  | _ => .bad
def iTest (m : IE) : IT := fun Λ S => (m Λ S).bind fun x S1 => asB x fun b => .ok b S1
theorem asB_post {α : Type} {K : KX} {W : WX} {w : Wd} {x : IV} {v : V} {k : Bool → Out α} {P : Wd → Hp → Sto → α → Prop} (h : Post K W w (asB x k) P) (r : Rel K w v x) : ∃ b, x = .bl b ∧ v = .bl b ∧ Post K W w (k b) P := by
  unfold asB at h
  split at h
  · rename_i b
    cases r
    exact ⟨_, rfl, rfl, h⟩
  · exact h.elim
theorem dt_cmp {op : CmpOp} {r : R2} {f : IV → IV → Sto → Out IV} (ho : OpR X (compareOp op) r) (hs : OpS (kx X W) W.x r f) (ha : DE X W a ma) (hb : DE X W b mb) (hm : behindInMarks op b = false := by first | exact nomark _ | rfl) : DT X W (.Compare a [op] [b] pos) (iTest (iBin f ma mb)) :=
  (pt_cmpR ho ha hb hm).imp fun σ H Q ⟨w, S, Λ, r0, s0, p⟩ => eM_bin hs ⟨w, S, Λ, r0, s0, p.bind.imp fun w1 H1 S1 ix l1 r1 p1 v1 rv1 => by
    obtain ⟨b, rfl, rfl, q⟩ := asB_post p1 rv1
    exact ⟨b, rfl, q.now r1⟩⟩
/-- a < b < c -/
def iChain (f g : IV → IV → Sto → Out IV) (ma mb mc : IE) : IE := fun Λ S => (ma Λ S).bind fun x S1 => (mb Λ S1).bind fun y S2 => (f x y S2).bind fun z S3 => asB z fun k => if k = true then (mc Λ S3).bind fun u S4 => g y u S4 else .ok (.bl false) S3
theorem eM_chain {K : KX} {W : WX} {σ : L2.St} {H : Hp} {Q : VK} {r r' : R2} {f g : IV → IV → Sto → Out IV} {ma mb mc : IE} (ho : OpS K W r f) (ho' : OpS K W r' g) (h : eM K W (iChain f g ma mb mc) σ H Q) : tChain r r' (eM K W ma) (eM K W mb) (eM K W mc) σ H Q := by
  obtain ⟨w, S, Λ, r0, s0, p⟩ := h
  refine ⟨w, S, Λ, r0, s0, p.bind.imp fun w1 H1 S1 ix l1 r1 p1 v1 rv1 => ⟨w1, S1, Λ, r1, s0.up l1, p1.bind.imp fun w2 H2 S2 iy l2 r2 p2 v2 rv2 => ?_⟩⟩
  refine ho w2 S2 H2 _ _ _ _ _ r2 (rv1.up l2) rv2 (p2.bind.imp fun w3 H3 S3 iz l3 r3 p3 v3 rv3 => ?_)
  obtain ⟨k, rfl, rfl, q⟩ := asB_post p3 rv3
  refine ⟨k, rfl, ?_⟩
  cases k with
  | true =>
    rw [if_pos rfl] at q ⊢
    exact ⟨w3, S3, Λ, r3, (s0.up l1).up (l2.trans l3), q.bind.imp fun w4 H4 S4 iu l4 r4 p4 v4 rv4 => ho' w4 S4 H4 _ _ _ _ _ r4 (rv2.up (l3.trans l4)) rv4 p4⟩
  | false =>
    rw [if_neg Bool.false_ne_true] at q ⊢
    exact q.now r3 _ (.bl false)
end

/-! ### values by kind -/
def asI {α : Type} (x : IV) (k : Int → Out α) : Out α := match x with
  | .int b => k b
  | _ => .bad
def asS {α : Type} (x : IV) (k : Str → Out α) : Out α := match x with
  | .str b => k b
  | _ => .bad
def lstOf (S : Sto) : IV → Option (List IV)
  | .lst xs => some xs
  | .wls xs => some xs
  | .adr n => match S[n]? with
    | some (.lst xs) => some xs
    | _ => none
  | _ => none
def lstX (S : Sto) : IV → Option (List IV)
  | .lst xs => some xs
  | .adr n => match S[n]? with
    | some (.lst xs) => some xs
    | _ => none
  | _ => none
def tupOf : IV → Option (List IV)
  | .tup xs => some xs
  | _ => none
section
variable {K : KX} {W : WX} {w : Wd} {S : Sto} {H : Hp} {α : Type} {P : Wd → Hp → Sto → α → Prop}
theorem asI_post {x : IV} {v : V} {k : Int → Out α} (h : Post K W w (asI x k) P) (r : Rel K w v x) : ∃ b, x = .int b ∧ v = .int b ∧ Post K W w (k b) P := by
  unfold asI at h
  split at h
  · rename_i b
    cases r
    exact ⟨_, rfl, rfl, h⟩
  · exact h.elim
theorem asS_post {x : IV} {v : V} {k : Str → Out α} (h : Post K W w (asS x k) P) (r : Rel K w v x) : ∃ b, x = .str b ∧ v = .str b ∧ Post K W w (k b) P := by
  unfold asS at h
  split at h
  · rename_i b
    cases r
    exact ⟨_, rfl, rfl, h⟩
  · exact h.elim
theorem lstOf_sq {iv : IV} {v : V} {ivs : List IV} (e : lstOf S iv = some ivs) (r : R K w S H) (rv : Rel K w v iv) : ∃ a xs, v = .ref a ∧ SqL K.k H a xs ∧ RelL K w xs ivs := by
  cases iv with
  | lst ys =>
    cases e
    cases rv with
    | lst h1 h2 => exact ⟨_, _, rfl, .of (r.F _ _ h1), h2⟩
  | wls ys =>
    cases e
    cases rv with
    | wls h1 h2 => exact ⟨_, _, rfl, r.F.seq h1, h2⟩
  | adr n =>
    cases rv with
    | adr h1 =>
      unfold lstOf at e
      cases q : S[n]? with
      | none => simp only [q] at e; cases e
      | some c =>
        simp only [q] at e
        cases c with
        | lst ys =>
          cases e
          obtain ⟨xs, h2, h3⟩ := r.cell n _ _ q h1
          exact ⟨_, _, rfl, .of h2, h3⟩
        | _ => cases e
  | _ => cases e
theorem lstX_sq {iv : IV} {v : V} {ivs : List IV} (e : lstX S iv = some ivs) (r : R K w S H) (rv : Rel K w v iv) : ∃ a xs, v = .ref a ∧ H a = some (.lst xs) ∧ RelL K w xs ivs := by
  cases iv with
  | lst ys =>
    cases e
    cases rv with
    | lst h1 h2 => exact ⟨_, _, rfl, (r.F _ _ h1), h2⟩
  | adr n =>
    cases rv with
    | adr h1 =>
      unfold lstX at e
      cases q : S[n]? with
      | none => simp only [q] at e; cases e
      | some c =>
        simp only [q] at e
        cases c with
        | lst ys =>
          cases e
          obtain ⟨xs, h2, h3⟩ := r.cell n _ _ q h1
          exact ⟨_, _, rfl, h2, h3⟩
        | _ => cases e
  | _ => cases e
theorem tupOf_sq {iv : IV} {v : V} {ivs : List IV} (e : tupOf iv = some ivs) (r : R K w S H) (rv : Rel K w v iv) : ∃ a xs, v = .ref a ∧ SqT K.k H a xs ∧ RelL K w xs ivs := by
  cases iv with
  | tup ys =>
    cases e
    cases rv with
    | tup h1 h2 => exact ⟨_, _, rfl, same_t r.F h1, h2⟩
  | _ => cases e
/-- an option must be there -/
def orBad {β : Type} (o : Option β) (k : β → Out α) : Out α := match o with
  | some b => k b
  | none => .bad
theorem orBad_post {β : Type} {o : Option β} {k : β → Out α} (h : Post K W w (orBad o k) P) : ∃ b, o = some b ∧ Post K W w (k b) P := by
  unfold orBad at h
  split at h
  · exact ⟨_, rfl, h⟩
  · exact h.elim
@[simp] theorem orBad_some {β : Type} {b : β} {k : β → Out α} : orBad (some b) k = k b := rfl
end
/-- a new list that never changes; a new list in the store; a new tuple -/
def mkF (ivs : List IV) (S : Sto) : Out IV := chk (ivs.length ≤ sizeLine) (.ok (.lst ivs) S)
def mkC (ivs : List IV) (S : Sto) : Out IV := chk (ivs.length ≤ sizeLine) (.ok (.adr S.length) (S ++ [.lst ivs]))
def mkL (cell : Bool) (ivs : List IV) (S : Sto) : Out IV := if cell = true then mkC ivs S else mkF ivs S
def mkT (ivs : List IV) (S : Sto) : Out IV := chk (ivs.length ≤ sizeLine) (.ok (.tup ivs) S)
section
variable {K : KX} {W : WX} {w : Wd} {S : Sto} {H : Hp} {Q : VK}
theorem mkL_post {cell : Bool} {ivs : List IV} {xs : List V} (h : Post K W w (mkL cell ivs S) fun w' H' _ iv => ∀ v, Rel K w' v iv → Q v H') (r : R K w S H) (rx : RelL K w xs ivs) : xs.length ≤ sizeLine ∧ ∀ p, H p = none → Q (.ref p) (upd H p (.lst xs)) := by
  rw [rx.length]
  cases cell with
  | true =>
    obtain ⟨h1, h⟩ := chk_post (show Post K W w (mkC ivs S) _ from h)
    refine ⟨h1, fun p hp => ?_⟩
    obtain ⟨l, r'⟩ := r.alloc (c := .lst ivs) (o := .lst xs) hp fun w' l => ⟨xs, upd_same, rx.up l⟩
    refine h _ _ l r' _ (.adr ?_)
    show (w.rho ++ [p])[S.length]? = some p
    rw [← r.len, List.getElem?_append_right (Nat.le_refl _), Nat.sub_self]
    rfl
  | false =>
    obtain ⟨h1, h⟩ := chk_post (show Post K W w (mkF ivs S) _ from h)
    refine ⟨h1, fun p hp => ?_⟩
    obtain ⟨l, r'⟩ := r.frz (o := .lst xs) hp
    exact h _ _ l r' _ (.lst upd_same (rx.up l))
theorem mkT_post {ivs : List IV} {xs : List V} (h : Post K W w (mkT ivs S) fun w' H' _ iv => ∀ v, Rel K w' v iv → Q v H') (r : R K w S H) (rx : RelL K w xs ivs) : xs.length ≤ sizeLine ∧ ∀ p, H p = none → Q (.ref p) (upd H p (.tup xs)) := by
  rw [rx.length]
  obtain ⟨h1, h⟩ := chk_post h
  refine ⟨h1, fun p hp => ?_⟩
  obtain ⟨l, r'⟩ := r.frz (o := .tup xs) hp
  exact h _ _ l r' _ (.tup (.of upd_same) (rx.up l))
end
section
variable {X : Cx} {W : WZ} {pos : Pos} {es : List Expr} {m : IA}
def iLst (cell : Bool) (m : IA) : IE := iCa (mkL cell) m
def iTup (m : IA) : IE := iCa mkT m
theorem de_lst (cell : Bool) (h : DA X W es m) : DE X W (.List es pos) (iLst cell m) :=
  (pe_lst h).imp fun σ H Q ⟨w, S, Λ, r0, s0, p⟩ => ⟨w, S, Λ, r0, s0, p.bind.imp fun w1 H1 S1 ix l1 r1 p1 v1 rv1 => mkL_post p1 r1 rv1⟩
theorem de_tup {x1} (h : DA X W es m) : DE X W (.Tuple es x1 pos) (iTup m) :=
  (pe_tup h).imp fun σ H Q ⟨w, S, Λ, r0, s0, p⟩ => ⟨w, S, Λ, r0, s0, p.bind.imp fun w1 H1 S1 ix l1 r1 p1 v1 rv1 => mkT_post p1 r1 rv1⟩
end

/-! ### ints -/
instance (i j : Int) : Decidable (CMul i j) := by unfold CMul; infer_instance
instance (i j : Int) : Decidable (CDiv i j) := by unfold CDiv; infer_instance
instance (i j : Int) : Decidable (CPow i j) := by unfold CPow; infer_instance
def fI (C : Int → Int → Prop) [∀ i j, Decidable (C i j)] (g : Int → Int → Int) (x y : IV) (S : Sto) : Out IV := asI x fun i => asI y fun j => chk (C i j) (.ok (.int (g i j)) S)
def fB (g : Int → Int → Bool) (x y : IV) (S : Sto) : Out IV := asI x fun i => asI y fun j => .ok (.bl (g i j)) S
section
variable {K : KX} {W : WX}
theorem os_I {C : Int → Int → Prop} [∀ i j, Decidable (C i j)] {g : Int → Int → Int} : OpS K W (rI C fun i j => .int (g i j)) (fI C g) := fun w S H x y ix iy Q r rx ry p => by
  obtain ⟨i, rfl, rfl, p⟩ := asI_post p rx
  obtain ⟨j, rfl, rfl, p⟩ := asI_post p ry
  obtain ⟨c, p⟩ := chk_post p
  exact ⟨i, j, rfl, rfl, c, p.now r _ (.int _)⟩
theorem os_B {g : Int → Int → Bool} : OpS K W (rI0 fun i j => .bl (g i j)) (fB g) := fun w S H x y ix iy Q r rx ry p => by
  obtain ⟨i, rfl, rfl, p⟩ := asI_post p rx
  obtain ⟨j, rfl, rfl, p⟩ := asI_post p ry
  exact ⟨i, j, rfl, rfl, p.now r _ (.bl _)⟩
end
/-- a + b: ints, texts, lists (the sum never changes) -/
def fAdd (x y : IV) (S : Sto) : Out IV := match x, y with
  | .int i, .int j => .ok (.int (i + j)) S
  | .str a, .str b => chk (a.length + b.length ≤ sizeLine) (.ok (.str (a ++ b)) S)
  | a, b => orBad (lstX S a) fun xs => orBad (lstX S b) fun ys => mkF (xs ++ ys) S
abbrev rAddS : R2 := fun x y H Q => ∃ i j, x = .str i ∧ y = .str j ∧ i.length + j.length ≤ sizeLine ∧ Q (.str (i ++ j)) H
abbrev rAddI : R2 := rI0 fun i j => .int (i + j)
abbrev rAddA : R2 := fun x y H Q => rAddI x y H Q ∨ ((fun x y H Q => rAddS x y H Q ∨ rCat x y H Q) : R2) x y H Q
theorem op_addA {X : Cx} : OpR X (binaryOp .Add) rAddA := op_add.or (op_add_str.or op_cat)
theorem os_add {K : KX} {W : WX} : OpS K W rAddA fAdd := fun w S H x y ix iy Q r rx ry p => by
  unfold fAdd at p
  split at p
  · rename_i i j
    cases rx; cases ry
    exact .inl ⟨_, _, rfl, rfl, p.now r _ (.int _)⟩
  · rename_i i j
    cases rx; cases ry
    obtain ⟨c, p⟩ := chk_post p
    exact .inr (.inl ⟨_, _, rfl, rfl, c, p.now r _ (.str _)⟩)
  · obtain ⟨xs, e1, p⟩ := orBad_post p
    obtain ⟨ys, e2, p⟩ := orBad_post p
    obtain ⟨a, vs, rfl, h1, q1⟩ := lstX_sq e1 r rx
    obtain ⟨b, us, rfl, h2, q2⟩ := lstX_sq e2 r ry
    obtain ⟨c, k⟩ := mkL_post (cell := false) p r (q1.append q2)
    exact .inr (.inr ⟨_, _, _, _, rfl, rfl, h1, h2, by rw [List.length_append] at c; exact c, k⟩)
/-- the sum is in the store -/
def fCatC (x y : IV) (S : Sto) : Out IV := orBad (lstX S x) fun xs => orBad (lstX S y) fun ys => mkC (xs ++ ys) S
theorem os_catC {K : KX} {W : WX} : OpS K W rCat fCatC := fun w S H x y ix iy Q r rx ry p => by
  obtain ⟨xs, e1, p⟩ := orBad_post p
  obtain ⟨ys, e2, p⟩ := orBad_post p
  obtain ⟨a, vs, rfl, h1, q1⟩ := lstX_sq e1 r rx
  obtain ⟨b, us, rfl, h2, q2⟩ := lstX_sq e2 r ry
  obtain ⟨c, k⟩ := mkL_post (cell := true) p r (q1.append q2)
  exact ⟨_, _, _, _, rfl, rfl, h1, h2, by rw [List.length_append] at c; exact c, k⟩
abbrev fSub := fI (fun _ _ => True) fun i j => i - j
abbrev rSubT : R2 := rI (fun _ _ => True) fun i j => .int (i - j)
theorem op_subT {X : Cx} : OpR X (binaryOp .Sub) rSubT := opI fun _ _ _ _ _ _ _ _ q => sub_int q
abbrev fMul := fI CMul fun i j => i * j
abbrev fDiv := fI CDiv fun i j => i / j
abbrev fMod := fI (fun _ j => 0 < j) fun i j => i % j
abbrev fPow := fI CPow fun i j => i ^ j.toNat
def fNeg (x : IV) (S : Sto) : Out IV := asI x fun i => .ok (.int (-i)) S
theorem us_neg {K : KX} {W : WX} : UnS K W (rU fun i => .int (-i)) fNeg := fun w S H x ix Q r rx p => by
  obtain ⟨i, rfl, rfl, p⟩ := asI_post p rx
  exact ⟨i, rfl, p.now r _ (.int _)⟩
abbrev fLt := fB fun i j => decide (i < j)
abbrev fLe := fB fun i j => decide (i ≤ j)
abbrev fGt := fB fun i j => decide (j < i)
abbrev fGe := fB fun i j => decide (j ≤ i)

/-! ### data, == -/
def viewL (f : IV → Option PyData) : List IV → Option (List PyData)
  | [] => some []
  | x :: xs => match f x, viewL f xs with
    | some d, some ds => some (d :: ds)
    | _, _ => none
def view : Nat → Sto → IV → Option PyData
  | 0, _, _ => none
  | n + 1, S, x => match x with
    | .non => some .none
    | .bl b => some (.bool b)
    | .int i => some (.int i)
    | .str s => some (.str s)
    | .lst xs => (viewL (view n S) xs).map .list
    | .wls xs => (viewL (view n S) xs).map .list
    | .tup xs => (viewL (view n S) xs).map .tuple
    | .adr m => match S[m]? with
      | some (.lst xs) => (viewL (view n S) xs).map .list
      | _ => none
    | _ => none
section
variable {K : KX} {w : Wd} {S : Sto} {H : Hp}
theorem viewL_dp {f : IV → Option PyData} (hf : ∀ x d v, f x = some d → Rel K w v x → Dp K.k H v d) : ∀ (xs : List IV) (ds : List PyData) (vs : List V), viewL f xs = some ds → RelL K w vs xs → DpAll K.k H vs ds
  | [], _, _, e, h => by
    cases h; cases e; exact .nil
  | x :: xs, ds, _, e, h => by
    cases h with
    | cons a b =>
      unfold viewL at e
      split at e
      · rename_i d ds' e1 e2
        cases e
        exact .cons (hf _ _ _ e1 a) (viewL_dp hf xs _ _ e2 b)
      · cases e
theorem view_dp (r : R K w S H) : ∀ (n : Nat) (x : IV) (d : PyData) (v : V), view n S x = some d → Rel K w v x → Dp K.k H v d
  | 0, _, _, _, e, _ => by cases e
  | n + 1, x, d, v, e, h => by
    have ih := view_dp r n
    unfold view at e
    cases x with
    | non => cases e; cases h; exact .non
    | bl b => cases e; cases h; exact .bl _
    | int b => cases e; cases h; exact .int _
    | str b => cases e; cases h; exact .str _
    | lst xs =>
      obtain ⟨ds, e1, e2⟩ := Option.map_eq_some_iff.mp e
      subst e2
      cases h with
      | lst h1 h2 => exact .lst (.of (r.F _ _ h1)) (viewL_dp ih xs ds _ e1 h2)
    | wls xs =>
      obtain ⟨ds, e1, e2⟩ := Option.map_eq_some_iff.mp e
      subst e2
      cases h with
      | wls h1 h2 => exact .lst (r.F.seq h1) (viewL_dp ih xs ds _ e1 h2)
    | tup xs =>
      obtain ⟨ds, e1, e2⟩ := Option.map_eq_some_iff.mp e
      subst e2
      cases h with
      | tup h1 h2 => exact .tup (same_t r.F h1) (viewL_dp ih xs ds _ e1 h2)
    | adr m =>
      cases h with
      | adr h1 =>
        cases q : S[m]? with
        | none => simp only [q] at e; cases e
        | some c =>
          simp only [q] at e
          cases c with
          | lst xs =>
            obtain ⟨ds, e1, e2⟩ := Option.map_eq_some_iff.mp e
            subst e2
            obtain ⟨vs, h2, h3⟩ := r.cell m _ _ q h1
            exact .lst (.of h2) (viewL_dp ih xs ds _ e1 h3)
          | _ => cases e
    | _ => cases e
end
/-- == of data: the scalars by themselves -/
def eqB (S : Sto) (x y : IV) : Option Bool := match x, y with
  | .int i, .int j => some (decide (i = j))
  | .str a, .str b => some (decide (a = b))
  | .bl a, .bl b => some (decide (a = b))
  | a, b => match view 8 S a, view 8 S b with
    | some d, some e => if SeqAt.shaped d = true ∧ SeqAt.shaped e = true then some (PyData.eqv d e) else none
    | _, _ => none
def fEq (x y : IV) (S : Sto) : Out IV := orBad (eqB S x y) fun b => .ok (.bl b) S
def fNe (x y : IV) (S : Sto) : Out IV := orBad (eqB S x y) fun b => .ok (.bl (!b)) S
abbrev rEqA (K : PySem.W.Frag) : R2 := fun x y H Q => rEq x y H Q ∨ rEqD K x y H Q
abbrev rNeA (K : PySem.W.Frag) : R2 := fun x y H Q => rNe x y H Q ∨ rNeD K x y H Q
theorem op_eqA {X : Cx} (hu : X.A.units + 64 < cLine) : OpR X (compareOp .Eq) (rEqA X.K) := op_eq.or (op_eqD hu)
theorem op_neA {X : Cx} (hu : X.A.units + 64 < cLine) : OpR X (compareOp .NotEq) (rNeA X.K) := op_ne.or (op_neD hu)
theorem eqB_cases {K : KX} {w : Wd} {S : Sto} {H : Hp} {x y : V} {ix iy : IV} {b : Bool} (r : R K w S H) (rx : Rel K w x ix) (ry : Rel K w y iy) (e : eqB S ix iy = some b) :
    (scal x y = true ∧ b = decide (x = y)) ∨ ∃ d e, Dp K.k H x d ∧ Dp K.k H y e ∧ SeqAt.shaped d = true ∧ SeqAt.shaped e = true ∧ b = PyData.eqv d e := by
  unfold eqB at e
  split at e
  · cases rx; cases ry; cases e
    exact .inl ⟨rfl, by simp⟩
  · cases rx; cases ry; cases e
    exact .inl ⟨rfl, by simp⟩
  · cases rx; cases ry; cases e
    exact .inl ⟨rfl, by simp⟩
  · split at e
    · rename_i d d' h1 h2
      split at e
      · rename_i hs
        cases e
        exact .inr ⟨d, d', view_dp r _ _ _ _ h1 rx, view_dp r _ _ _ _ h2 ry, hs.1, hs.2, rfl⟩
      · cases e
    · cases e
theorem os_eq {K : KX} {W : WX} : OpS K W (rEqA K.k) fEq := fun w S H x y ix iy Q r rx ry p => by
  obtain ⟨b, e, p⟩ := orBad_post p
  rcases eqB_cases r rx ry e with ⟨h1, h2⟩ | ⟨d, d', h1, h2, h3, h4, h5⟩
  · subst h2; exact .inl ⟨h1, p.now r _ (.bl _)⟩
  · subst h5; exact .inr ⟨d, d', h1, h2, h3, h4, p.now r _ (.bl _)⟩
theorem os_ne {K : KX} {W : WX} : OpS K W (rNeA K.k) fNe := fun w S H x y ix iy Q r rx ry p => by
  obtain ⟨b, e, p⟩ := orBad_post p
  rcases eqB_cases r rx ry e with ⟨h1, h2⟩ | ⟨d, d', h1, h2, h3, h4, h5⟩
  · subst h2; exact .inl ⟨h1, p.now r _ (.bl _)⟩
  · subst h5; exact .inr ⟨d, d', h1, h2, h3, h4, p.now r _ (.bl _)⟩
/-- is None -/
def isN : IV → Bool
  | .non => true
  | _ => false
theorem isN_rel {K : KX} {w : Wd} {x : V} {ix : IV} (rx : Rel K w x ix) : decide (x = .non) = isN ix := by
  cases rx <;> simp [isN]
def fIsN (x _y : IV) (S : Sto) : Out IV := .ok (.bl (isN x)) S
def fNotN (x _y : IV) (S : Sto) : Out IV := .ok (.bl (!isN x)) S
end Sm

namespace Sm
open PySem PySem.Spec PyProof.Rows L2

/-! ### is None -/
theorem os_isN {K : KX} {W : WX} : OpS K W (fun x y H Q => y = .non ∧ Q (.bl (decide (x = .non))) H) (fun x y S => match y with | .non => .ok (.bl (isN x)) S | _ => .bad) := fun w S H x y ix iy Q r rx ry p => by
  cases ry with
  | non =>
    refine ⟨rfl, ?_⟩
    rw [isN_rel rx]
    exact (show Post K W w (Out.ok (IV.bl (isN ix)) S) (fun w' H' _ iv => ∀ v, Rel K w' v iv → Q v H') from p).now r _ (Rel.bl _)
  | _ => exact p.elim
theorem os_notN {K : KX} {W : WX} : OpS K W (fun x y H Q => y = .non ∧ Q (.bl (!decide (x = .non))) H) (fun x y S => match y with | .non => .ok (.bl (!isN x)) S | _ => .bad) := fun w S H x y ix iy Q r rx ry p => by
  cases ry with
  | non =>
    refine ⟨rfl, ?_⟩
    rw [isN_rel rx]
    exact (show Post K W w (Out.ok (IV.bl (!isN ix)) S) (fun w' H' _ iv => ∀ v, Rel K w' v iv → Q v H') from p).now r _ (Rel.bl _)
  | _ => exact p.elim
def gIsN : IV → IV → Sto → Out IV := fun x y S => match y with | .non => .ok (.bl (isN x)) S | _ => .bad
def gNotN : IV → IV → Sto → Out IV := fun x y S => match y with | .non => .ok (.bl (!isN x)) S | _ => .bad

/-! ### in -/
def scV : IV → Option V
  | .non => some .non
  | .bl b => some (.bl b)
  | .int i => some (.int i)
  | .str s => some (.str s)
  | _ => none
def scVs : List IV → Option (List V)
  | [] => some []
  | x :: xs => match scV x, scVs xs with
    | some v, some vs => some (v :: vs)
    | _, _ => none
theorem scV_rel {K : KX} {w : Wd} {x : IV} {v u : V} (e : scV x = some u) (r : Rel K w v x) : v = u ∧ flatV u = true := by
  cases x <;> (first | (cases e; done) | (cases e; cases r; exact ⟨rfl, rfl⟩))
theorem scVs_rel {K : KX} {w : Wd} : ∀ {xs : List IV} {vs us : List V}, scVs xs = some us → RelL K w vs xs → vs = us ∧ us.all flatV = true
  | [], _, _, e, r => by cases e; cases r; exact ⟨rfl, rfl⟩
  | x :: xs, _, us, e, r => by
    cases r with
    | cons a b =>
      unfold scVs at e
      split at e
      · rename_i u us' e1 e2
        cases e
        obtain ⟨h1, h2⟩ := scV_rel e1 a
        obtain ⟨h3, h4⟩ := scVs_rel e2 b
        exact ⟨by rw [h1, h3], by rw [List.all_cons, h2, h4]; rfl⟩
      · cases e
def seqOf (S : Sto) (x : IV) : Option (List IV) := match tupOf x with
  | some xs => some xs
  | none => lstOf S x
theorem seqOf_sq {K : KX} {w : Wd} {S : Sto} {H : Hp} {iv : IV} {v : V} {ivs : List IV} (e : seqOf S iv = some ivs) (r : R K w S H) (rv : Rel K w v iv) : ∃ a xs, v = .ref a ∧ (SqL K.k H a xs ∨ SqT K.k H a xs) ∧ RelL K w xs ivs := by
  unfold seqOf at e
  split at e
  · rename_i xs h
    cases e
    obtain ⟨a, xs, h1, h2, h3⟩ := tupOf_sq h r rv
    exact ⟨a, xs, h1, .inr h2, h3⟩
  · obtain ⟨a, xs, h1, h2, h3⟩ := lstOf_sq e r rv
    exact ⟨a, xs, h1, .inl h2, h3⟩
/-- the one sign of a text -/
def sgn (s : Str) : Option Nat := match s.cps.toList with
  | [c] => some c
  | _ => none
theorem sgn_eq {s : Str} {c : Nat} (h : sgn s = some c) : s = ⟨#[c]⟩ := by
  unfold sgn at h
  split at h
  · rename_i d e
    cases h
    cases s with
    | mk a =>
      have : a = #[c] := Array.toList_inj.mp e
      rw [this]
  · cases h
/-- x in y: one sign in a text, a flat thing in a list or tuple -/
def inB (S : Sto) (x y : IV) : Option Bool := match y with
  | .str z => match x with
    | .str s => (sgn s).map fun c => decide (c ∈ z.cps.toList)
    | _ => none
  | y => match scV x, seqOf S y with
    | some u, some ys => (scVs ys).map fun us => inV u us
    | _, _ => none
def fIn (x y : IV) (S : Sto) : Out IV := orBad (inB S x y) fun b => .ok (.bl b) S
def fNotIn (x y : IV) (S : Sto) : Out IV := orBad (inB S x y) fun b => .ok (.bl (!b)) S
abbrev rInSg : R2 := fun x y H Q => ∃ (c : Nat) (z : Str), x = .str ⟨#[c]⟩ ∧ y = .str z ∧ Q (.bl (decide (c ∈ z.cps.toList))) H
abbrev rNotInSg : R2 := fun x y H Q => ∃ (c : Nat) (z : Str), x = .str ⟨#[c]⟩ ∧ y = .str z ∧ Q (.bl (!decide (c ∈ z.cps.toList))) H
theorem op_inA {X : Cx} : OpR X (compareOp .In) (fun x y H Q => rInSg x y H Q ∨ rIn X.K false x y H Q) := op_in_sign.or op_in_seq
theorem op_notInA {X : Cx} : OpR X (compareOp .NotIn) (fun x y H Q => rNotInSg x y H Q ∨ rIn X.K true x y H Q) := op_notIn_sign.or op_notIn_seq
theorem inB_cases {K : KX} {w : Wd} {S : Sto} {H : Hp} {x y : V} {ix iy : IV} {b : Bool} (r : R K w S H) (rx : Rel K w x ix) (ry : Rel K w y iy) (e : inB S ix iy = some b) :
    (∃ (c : Nat) (z : Str), x = .str ⟨#[c]⟩ ∧ y = .str z ∧ b = decide (c ∈ z.cps.toList)) ∨ ∃ p xs, y = .ref p ∧ (SqL K.k H p xs ∨ SqT K.k H p xs) ∧ flatV x = true ∧ xs.all flatV = true ∧ b = inV x xs := by
  unfold inB at e
  split at e
  · rename_i z
    cases ry
    split at e
    · rename_i t
      cases rx
      obtain ⟨c, h1, h2⟩ := Option.map_eq_some_iff.mp e
      have := sgn_eq h1
      subst this
      exact .inl ⟨c, z, rfl, rfl, h2.symm⟩
    · cases e
  · split at e
    · rename_i u ys e1 e2
      obtain ⟨us, e3, e4⟩ := Option.map_eq_some_iff.mp e
      obtain ⟨h1, h2⟩ := scV_rel e1 rx
      obtain ⟨p, xs, h3, h4, h5⟩ := seqOf_sq e2 r ry
      obtain ⟨h6, h7⟩ := scVs_rel e3 h5
      subst h1 h6
      exact .inr ⟨p, _, h3, h4, h2, h7, e4.symm⟩
    · cases e
theorem os_in {K : KX} {W : WX} : OpS K W (fun x y H Q => rInSg x y H Q ∨ rIn K.k false x y H Q) fIn := fun w S H x y ix iy Q r rx ry p => by
  obtain ⟨b, e, p⟩ := orBad_post p
  rcases inB_cases r rx ry e with ⟨c, z, rfl, rfl, rfl⟩ | ⟨a, xs, h1, h2, h3, h4, rfl⟩
  · exact .inl ⟨c, z, rfl, rfl, p.now r _ (.bl _)⟩
  · exact .inr ⟨a, xs, h1, h2, h3, h4, by rw [if_neg Bool.false_ne_true]; exact p.now r _ (.bl _)⟩
theorem os_notIn {K : KX} {W : WX} : OpS K W (fun x y H Q => rNotInSg x y H Q ∨ rIn K.k true x y H Q) fNotIn := fun w S H x y ix iy Q r rx ry p => by
  obtain ⟨b, e, p⟩ := orBad_post p
  rcases inB_cases r rx ry e with ⟨c, z, rfl, rfl, rfl⟩ | ⟨a, xs, h1, h2, h3, h4, rfl⟩
  · exact .inl ⟨c, z, rfl, rfl, p.now r _ (.bl _)⟩
  · exact .inr ⟨a, xs, h1, h2, h3, h4, by rw [if_pos rfl]; exact p.now r _ (.bl _)⟩

/-! ### truth, and, or, not, if -/
def truB (S : Sto) (x : IV) : Option Bool := match x with
  | .non => some false
  | .bl b => some b
  | .int i => some (i != 0)
  | .str y => if y.length ≤ sizeLine then some ((y.length : Int) != 0) else none
  | .tup xs => some (!xs.isEmpty)
  | .adr n => match S[n]? with
    | some (.lst xs) => some (!xs.isEmpty)
    | some (.dic kvs) => some (!kvs.isEmpty)
    | _ => none
  | x => (lstOf S x).map fun xs => !xs.isEmpty
theorem RelL.empty {K : KX} {w : Wd} {xs : List V} {ivs : List IV} (r : RelL K w xs ivs) : (!ivs.isEmpty) = !xs.isEmpty := by cases r <;> rfl
theorem truB_rel {K : KX} {w : Wd} {S : Sto} {H : Hp} {x : V} {ix : IV} {b : Bool} (r : R K w S H) (rx : Rel K w x ix) (e : truB S ix = some b) : TruV K.k x H b := by
  have lst : ∀ {ys}, lstOf S ix = some ys → b = (!ys.isEmpty) → TruV K.k x H b := fun {ys} h1 h2 => by
    obtain ⟨a, xs, rfl, h3, h4⟩ := lstOf_sq h1 r rx
    exact .inl ⟨xs, h3, by rw [h2, h4.empty]⟩
  unfold truB at e
  split at e
  · cases rx; cases e; rfl
  · cases rx; cases e; rfl
  · cases rx; cases e; rfl
  · cases rx
    split at e
    · cases e
      exact ⟨by assumption, rfl⟩
    · cases e
  · cases rx with
    | tup h1 h2 =>
      cases e
      exact .inr (.inl ⟨_, same_t r.F h1, by rw [h2.empty]⟩)
  · cases rx with
    | adr h1 =>
      split at e
      · rename_i q
        cases e
        obtain ⟨xs, h2, h3⟩ := r.cell _ _ _ q h1
        exact .inl ⟨xs, .of h2, by rw [h3.empty]⟩
      · rename_i q
        cases e
        obtain ⟨xs, h2, h3⟩ := r.cell _ _ _ q h1
        refine .inr (.inr ⟨xs, h2, ?_⟩)
        cases h3 <;> rfl
      · cases e
  · obtain ⟨ys, h1, h2⟩ := Option.map_eq_some_iff.mp e
    exact lst h1 h2.symm
def iTru (m : IE) : IT := fun Λ S => (m Λ S).bind fun x S1 => orBad (truB S1 x) fun b => .ok b S1
def iAnd (c d : IT) : IT := fun Λ S => (c Λ S).bind fun b S1 => if b = true then d Λ S1 else .ok false S1
def iOr (c d : IT) : IT := fun Λ S => (c Λ S).bind fun b S1 => if b = true then .ok true S1 else d Λ S1
def iNot (c : IT) : IT := fun Λ S => (c Λ S).bind fun b S1 => .ok (!b) S1
def iAndV (c d : IE) : IE := fun Λ S => (c Λ S).bind fun x S1 => asB x fun b => if b = true then d Λ S1 else .ok (.bl false) S1
def iOrV (c d : IE) : IE := fun Λ S => (c Λ S).bind fun x S1 => asB x fun b => if b = true then .ok (.bl true) S1 else d Λ S1
def iNotV (c : IE) : IE := fun Λ S => (c Λ S).bind fun x S1 => asB x fun b => .ok (.bl (!b)) S1
def iIf {α : Type} (c : IT) (a b : Slots → Sto → Out α) : Slots → Sto → Out α := fun Λ S => (c Λ S).bind fun k S1 => if k = true then a Λ S1 else b Λ S1
section
variable {X : Cx} {W : WZ} {pos : Pos} {a b c : Expr} {rest : List Expr} {ma mb : IE} {ta tb tc : IT}
theorem dt_tru (ha : DE X W a ma) (he : ∀ whole, isTrue a X.env whole = (do let v ← whole; standAt a.pos; holding [v] (truthy v)) := by intro _; rfl) : DT X W a (iTru ma) :=
  (pt_truth ha he).imp fun σ H Q ⟨w, S, Λ, r0, s0, p⟩ => ⟨w, S, Λ, r0, s0, p.bind.imp fun w1 H1 S1 ix l1 r1 p1 v1 rv1 => by
    obtain ⟨b, e, q⟩ := orBad_post p1
    exact ⟨b, truB_rel r1 rv1 e, q.now r1⟩⟩
theorem dt_val (ha : DE X W a ma) (he : ∀ whole, isTrue a X.env whole = (do let v ← whole; standAt a.pos; holding [v] (truthy v)) := by intro _; rfl) : DT X W a (iTest ma) :=
  (pt_val ha he).imp fun σ H Q ⟨w, S, Λ, r0, s0, p⟩ => ⟨w, S, Λ, r0, s0, p.bind.imp fun w1 H1 S1 ix l1 r1 p1 v1 rv1 => by
    obtain ⟨b, rfl, rfl, q⟩ := asB_post p1 rv1
    exact ⟨b, rfl, q.now r1⟩⟩
theorem dt_w (h : DW X W a ta) : DT X W a ta := PW.pt h
theorem dw_and1 (h : DT X W a ta) : DW X W (.BoolOp .And [a] pos) ta := pw_and1 h
theorem dw_or1 (h : DT X W a ta) : DW X W (.BoolOp .Or [a] pos) ta := pw_or1 h
theorem dw_and (ha : DT X W a ta) (hb : DW X W (.BoolOp .And (b :: rest) pos) tb) : DW X W (.BoolOp .And (a :: b :: rest) pos) (iAnd ta tb) :=
  (pw_and ha hb).imp fun σ H Q ⟨w, S, Λ, r0, s0, p⟩ => ⟨w, S, Λ, r0, s0, p.bind.imp fun w1 H1 S1 k l1 r1 p1 => by
    cases k with
    | true => rw [if_pos rfl] at p1 ⊢; exact ⟨w1, S1, Λ, r1, s0.up l1, p1⟩
    | false => rw [if_neg Bool.false_ne_true] at p1 ⊢; exact p1.now r1⟩
theorem dw_or (ha : DT X W a ta) (hb : DW X W (.BoolOp .Or (b :: rest) pos) tb) : DW X W (.BoolOp .Or (a :: b :: rest) pos) (iOr ta tb) :=
  (pw_or ha hb).imp fun σ H Q ⟨w, S, Λ, r0, s0, p⟩ => ⟨w, S, Λ, r0, s0, p.bind.imp fun w1 H1 S1 k l1 r1 p1 => by
    cases k with
    | true => rw [if_pos rfl] at p1 ⊢; exact p1.now r1
    | false => rw [if_neg Bool.false_ne_true] at p1 ⊢; exact ⟨w1, S1, Λ, r1, s0.up l1, p1⟩⟩
theorem dt_not (ha : DT X W a ta) : DT X W (.UnaryOp .Not a pos) (iNot ta) :=
  (pt_not ha).imp fun σ H Q ⟨w, S, Λ, r0, s0, p⟩ => ⟨w, S, Λ, r0, s0, p.bind.imp fun w1 H1 S1 k l1 r1 p1 => p1.now r1⟩
theorem de_one {op} (h : DE X W a ma) : DE X W (.BoolOp op [a] pos) ma := pe_one h
theorem de_and (ha : DE X W a ma) (hb : DE X W (.BoolOp .And (b :: rest) pos) mb) : DE X W (.BoolOp .And (a :: b :: rest) pos) (iAndV ma mb) :=
  (pe_and ha hb).imp fun σ H Q ⟨w, S, Λ, r0, s0, p⟩ => ⟨w, S, Λ, r0, s0, p.bind.imp fun w1 H1 S1 ix l1 r1 p1 v1 rv1 => by
    obtain ⟨k, rfl, rfl, p1⟩ := asB_post p1 rv1
    refine ⟨k, rfl, ?_⟩
    cases k with
    | true => rw [if_pos rfl] at p1 ⊢; exact ⟨w1, S1, Λ, r1, s0.up l1, p1⟩
    | false => rw [if_neg Bool.false_ne_true] at p1 ⊢; exact p1.now r1 _ (.bl _)⟩
theorem de_or (ha : DE X W a ma) (hb : DE X W (.BoolOp .Or (b :: rest) pos) mb) : DE X W (.BoolOp .Or (a :: b :: rest) pos) (iOrV ma mb) :=
  (pe_or ha hb).imp fun σ H Q ⟨w, S, Λ, r0, s0, p⟩ => ⟨w, S, Λ, r0, s0, p.bind.imp fun w1 H1 S1 ix l1 r1 p1 v1 rv1 => by
    obtain ⟨k, rfl, rfl, p1⟩ := asB_post p1 rv1
    refine ⟨k, rfl, ?_⟩
    cases k with
    | true => rw [if_pos rfl] at p1 ⊢; exact p1.now r1 _ (.bl _)
    | false => rw [if_neg Bool.false_ne_true] at p1 ⊢; exact ⟨w1, S1, Λ, r1, s0.up l1, p1⟩⟩
theorem de_not (ha : DE X W a ma) : DE X W (.UnaryOp .Not a pos) (iNotV ma) :=
  (pe_not ha).imp fun σ H Q ⟨w, S, Λ, r0, s0, p⟩ => ⟨w, S, Λ, r0, s0, p.bind.imp fun w1 H1 S1 ix l1 r1 p1 v1 rv1 => by
    obtain ⟨k, rfl, rfl, p1⟩ := asB_post p1 rv1
    exact ⟨k, rfl, p1.now r1 _ (.bl _)⟩⟩
theorem de_if (hc : DT X W c tc) (ha : DE X W a ma) (hb : DE X W b mb) : DE X W (.IfExp c a b pos) (iIf tc ma mb) :=
  (pe_ifExp hc ha hb).imp fun σ H Q ⟨w, S, Λ, r0, s0, p⟩ => ⟨w, S, Λ, r0, s0, p.bind.imp fun w1 H1 S1 k l1 r1 p1 => by
    cases k with
    | true => rw [if_pos rfl] at p1 ⊢; exact ⟨w1, S1, Λ, r1, s0.up l1, p1⟩
    | false => rw [if_neg Bool.false_ne_true] at p1 ⊢; exact ⟨w1, S1, Λ, r1, s0.up l1, p1⟩⟩
end

/-! ### subscripts, slices -/
theorem atI_rel {K : KX} {w : Wd} {xs : List V} {ivs : List IV} {i : Int} {iv : IV} (r : RelL K w xs ivs) (e : atI ivs i = some iv) : ∃ v, atI xs i = some v ∧ Rel K w v iv := by
  unfold atI at e ⊢
  rw [r.length]
  cases h : ixN ivs.length i with
  | none => rw [h] at e; cases e
  | some j =>
    rw [h] at e
    exact r.get e
def fIx (x y : IV) (S : Sto) : Out IV := asI y fun i => match x with
  | .str z => chk (z.length ≤ sizeLine) (orBad (atI z.cps.toList i) fun c => .ok (.str ⟨#[c]⟩) S)
  | .tup xs => orBad (atI xs i) fun v => .ok v S
  | x => orBad (lstOf S x) fun xs => orBad (atI xs i) fun v => .ok v S
theorem os_ix {K : KX} {W : WX} : OpS K W (rIx K.k) fIx := fun w S H x y ix iy Q r rx ry p => by
  obtain ⟨i, rfl, rfl, p⟩ := asI_post p ry
  split at p
  · cases rx
    obtain ⟨h1, p⟩ := chk_post p
    obtain ⟨c, h2, p⟩ := orBad_post p
    exact .inr (.inr ⟨_, _, _, rfl, rfl, h1, h2, p.now r _ (.str _)⟩)
  · cases rx with
    | tup h1 h2 =>
      obtain ⟨c, h3, p⟩ := orBad_post p
      obtain ⟨v, h4, h5⟩ := atI_rel h2 h3
      exact .inr (.inl ⟨_, _, _, v, rfl, rfl, same_t r.F h1, h4, p.now r _ h5⟩)
  · obtain ⟨ivs, h0, p⟩ := orBad_post p
    obtain ⟨c, h3, p⟩ := orBad_post p
    obtain ⟨a, xs, rfl, h1, h2⟩ := lstOf_sq h0 r rx
    obtain ⟨v, h4, h5⟩ := atI_rel h2 h3
    exact .inl ⟨_, _, _, v, rfl, rfl, h1, h4, p.now r _ h5⟩
abbrev IO := Slots → Sto → Out (Option Int)
def oM (K : KX) (W : WX) (m : IO) : TO := fun σ H Q => ∃ w S Λ, R K w S H ∧ SR K w σ Λ ∧ Post K W w (m Λ S) fun _ H' _ o => Q o H'
def iNoPart : IO := fun _ S => .ok none S
def iPart (m : IE) : IO := fun Λ S => (m Λ S).bind fun x S1 => asI x fun i => .ok (some i) S1
abbrev DO (X : Cx) (W : WZ) (e : Option Expr) (m : IO) : Prop := PO X e (oM (kx X W) W.x m)
theorem _root_.L2.PO.imp {X : Cx} {e : Option Expr} {t t' : TO} (h : PO X e t) (f : ∀ σ H Q, t' σ H Q → t σ H Q) : PO X e t' := ⟨fun pins s σ H Q I q => h.run pins s σ H Q I (f σ H Q q)⟩
def cutI (xs : List IV) (lo hi : Option Int) : List IV := (xs.drop (HT.sIx xs.length 0 lo)).take (HT.sIx xs.length xs.length hi - HT.sIx xs.length 0 lo)
theorem cut_rel {K : KX} {w : Wd} {xs : List V} {ivs : List IV} (r : RelL K w xs ivs) (lo hi : Option Int) : RelL K w (cutV xs lo hi) (cutI ivs lo hi) := by
  unfold cutV cutI
  rw [r.length]
  exact (r.drop _).take _
def fSl (cell : Bool) (x : IV) (lo hi : Option Int) (S : Sto) : Out IV := match x with
  | .str z => chk (z.length ≤ sizeLine) (.ok (.str (cutS z lo hi)) S)
  | x => orBad (lstOf S x) fun xs => mkL cell (cutI xs lo hi) S
def iSl (cell : Bool) (m : IE) (ml mh : IO) : IE := fun Λ S => (m Λ S).bind fun x S1 => (ml Λ S1).bind fun lo S2 => (mh Λ S2).bind fun hi S3 => fSl cell x lo hi S3
section
variable {X : Cx} {W : WZ} {pos p2 : Pos} {a b e : Expr} {ma mb me : IE} {lo hi : Option Expr} {ml mh : IO}
theorem de_ix (ha : DE X W a ma) (hb : DE X W b mb) (hs : PlainIx b := by exact fun _ _ => rfl) : DE X W (.Subscript a b pos) (iBin fIx ma mb) :=
  (pe_ix ix_seq ha hb hs).imp fun _ _ _ h => eM_bin os_ix h
theorem do_none : DO X W none iNoPart := po_none.imp fun σ H Q ⟨w, S, Λ, r0, s0, p⟩ => p.now r0
theorem do_some (h : DE X W e me) : DO X W (some e) (iPart me) := (po_some h).imp fun σ H Q ⟨w, S, Λ, r0, s0, p⟩ => ⟨w, S, Λ, r0, s0, p.bind.imp fun w1 H1 S1 ix l1 r1 p1 v1 rv1 => by
  obtain ⟨i, rfl, rfl, q⟩ := asI_post p1 rv1
  exact ⟨i, rfl, q.now r1⟩⟩
theorem de_slice (cell : Bool) (he : DE X W e me) (hl : DO X W lo ml) (hh : DO X W hi mh) : DE X W (.Subscript e (.Slice lo hi none p2) pos) (iSl cell me ml mh) :=
  (pe_slice (SlR.or sl_str sl_list) he hl hh).imp fun σ H Q ⟨w, S, Λ, r0, s0, p⟩ => ⟨w, S, Λ, r0, s0, p.bind.imp fun w1 H1 S1 ix l1 r1 p1 v1 rv1 =>
    ⟨w1, S1, Λ, r1, s0.up l1, p1.bind.imp fun w2 H2 S2 o1 l2 r2 p2 => ⟨w2, S2, Λ, r2, s0.up (l1.trans l2), p2.bind.imp fun w3 H3 S3 o2 l3 r3 p3 => by
      have rv3 := rv1.up (l2.trans l3)
      unfold fSl at p3
      split at p3
      · cases rv3
        obtain ⟨h1, q⟩ := chk_post p3
        exact .inl ⟨_, rfl, h1, q.now r3 _ (.str _)⟩
      · obtain ⟨ys, h1, q⟩ := orBad_post p3
        obtain ⟨a, xs, rfl, h2, h3⟩ := lstOf_sq h1 r3 rv3
        exact .inr ⟨a, xs, rfl, h2, (mkL_post q r3 (cut_rel h3 _ _)).2⟩⟩⟩⟩
end

/-! ### calls -/
def spM (K : PySem.W.Frag) (mg : Str → Option Value) (np : Nat) (mf : List IV → Sto → Out IV) : Sp := fun vs H Q E => vs.length = np ∧ ∃ w S ivs, R ⟨K, mg, none⟩ w S H ∧ RelL ⟨K, mg, none⟩ w vs ivs ∧ Post ⟨K, mg, none⟩ (fun c d _ H => E c d H) w (mf ivs S) fun w' H' _ iv => ∀ v, Rel ⟨K, mg, none⟩ w' v iv → Q v H'
def mDef (n : Nat) (body : IS) : List IV → Sto → Out IV := fun ivs S => match body (ivs.map some ++ List.replicate (n - ivs.length) none) S with
  | .ok (.rt iv) S' => .ok iv S'
  | .ok (.nx _) S' => .ok .non S'
  | .ok _ _ => .bad
  | .exc C k _ S' => .exc C k [] S'
  | .bad => .bad
def relab (Λ : Slots) : Out IV → Out IV
  | .exc C n _ S => .exc C n Λ S
  | o => o
def iCall (np : Nat) (mf : List IV → Sto → Out IV) (ma : IA) : IE := fun Λ S => (ma Λ S).bind fun xs S1 => chk (xs.length = np) (relab Λ (mf xs S1))
theorem relab_post {K : KX} {W : WX} {w : Wd} {Λ : Slots} {σ : L2.St} {o : Out IV} {P : Wd → Hp → Sto → IV → Prop} (h : Post K W w (relab Λ o) P) (s : SR K w σ Λ) : Post K (fun c d _ H => W c d σ H) w o P := by
  cases o with
  | ok iv S2 => exact h
  | exc C n L S2 => exact fun w2 H2 a σ2 l2 r2 s2 e => h w2 H2 a σ l2 r2 (s.up l2) e
  | bad => exact h
/-- .. that lets no exception out -/
def iCall0 (mf : List IV → Sto → Out IV) : IE := fun _ S => match mf [] S with
  | .ok iv S2 => .ok iv S2
  | _ => .bad
section
variable {X : Cx} {W : WX} {pos p : Pos} {k : Nat} {f : Addr} {fd : FuncData} {ps : List Str} {mf : List IV → Sto → Out IV} {x : Str} {e : Expr} {es : List Expr} {ma : IA} {np : Nat}
theorem sr_nil {K : KX} {w : Wd} : SR K w [] [] := ⟨rfl, fun i iv e => by simp at e, fun i n a d _ e => by simp at e⟩
theorem de_call (F : FnG X.prog X.w X.K X.mg X.base (L2.CX X.prog X.w) k f fd ps (spM X.K X.mg np mf)) (tk : Takes X W) (hr : RmG k X.A) (hm : X.mg x = some (.ref f)) (hk : PySem.W.keepIn X.K (.ref f) = true) (hb : Binds X.K fd ps [])
    (ha : DA X ⟨W, none⟩ (e :: es) ma) (hg : Gl X x := by rfl) (hdb : (x == ("__debug__" : Str)) = false := by decide) (he : starEach (e :: es) X.env = (false, eval e X.env) :: starEach es X.env := by rfl) (hpl : (backTo pos (starEach es X.env)).any (·.1) = false := by rfl) :
    DE X ⟨W, none⟩ (.Call (.Name x p) (e :: es) [] pos) (iCall np mf ma) :=
  (pe_callG F hr hg hm hk hb (E := WE W) (fun σ => passAt tk σ) ha hdb he hpl).imp fun σ H Q ⟨w, S, Λ, r0, s0, p⟩ => ⟨w, S, Λ, r0, s0, p.bind.imp fun w1 H1 S1 xs l1 r1 p1 vs rv => by
    obtain ⟨h1, q⟩ := chk_post p1
    exact ⟨rv.length.trans h1, w1, S1, xs, r1, rv, relab_post q (s0.up l1)⟩⟩
theorem de_call0 (F : FnG X.prog X.w X.K X.mg X.base (L2.CX X.prog X.w) k f fd [] (spM X.K X.mg 0 mf)) (tk : Takes X W) (hr : RmG k X.A) (hm : X.mg x = some (.ref f)) (hk : PySem.W.keepIn X.K (.ref f) = true) (hb : Binds X.K fd [] [])
    (hg : Gl X x := by rfl) (hdb : (x == ("__debug__" : Str)) = false := by decide) :
    DE X ⟨W, none⟩ (.Call (.Name x p) [] [] pos) (iCall0 mf) :=
  (pe_callG0 F hr hg hm hk hb (E := WE W) (fun σ => passAt tk σ) hdb).imp fun σ H Q ⟨w, S, Λ, r0, s0, p⟩ => ⟨rfl, w, S, [], r0, .nil, by
    unfold iCall0 at p
    cases hf : mf [] S with
    | ok iv S2 => rw [hf] at p; exact p
    | exc C n L S2 => rw [hf] at p; exact p.elim
    | bad => rw [hf] at p; exact p⟩
end
end Sm

namespace Sm
open PySem PySem.Spec PyProof.Rows L2

theorem Post.up {K : KX} {W : WX} {w w' : Wd} {α : Type} {o : Out α} {P : Wd → Hp → Sto → α → Prop} (h : Post K W w o P) (l : w.le w') : Post K W w' o P := by
  cases o with
  | ok a S' => exact fun w2 H2 l2 r2 => h w2 H2 (l.trans l2) r2
  | exc C n L S' => exact fun w2 H2 a σ l2 r2 s2 e => h w2 H2 a σ (l.trans l2) r2 s2 e
  | bad => exact h

/-! ### statements -/
def iNext : IS := fun Λ S => .ok (.nx Λ) S
def fSeq (b : IS) (fl : Fl) (S : Sto) : Out Fl := match fl with
  | .nx L => b L S
  | o => .ok o S
def iSeq (a b : IS) : IS := fun Λ S => (a Λ S).bind fun fl S1 => fSeq b fl S1
def iDrop (m : IE) : IS := fun Λ S => (m Λ S).bind fun _ S1 => .ok (.nx Λ) S1
def iRet (m : IE) : IS := fun Λ S => (m Λ S).bind fun x S1 => .ok (.rt x) S1
def iRetN : IS := fun _ S => .ok (.rt .non) S
def iBrk : IS := fun Λ S => .ok (.bk Λ) S
def iCnt : IS := fun Λ S => .ok (.ct Λ) S
def iName (i : Nat) : IG := fun x Λ S => .ok (Λ.set i (some x)) S
def iAsg (m : IE) (g : IG) : IS := fun Λ S => (m Λ S).bind fun x S1 => (g x Λ S1).bind fun L S2 => .ok (.nx L) S2
def iSet (i : Nat) (m : IE) : IS := fun Λ S => (m Λ S).bind fun x S1 => .ok (.nx (Λ.set i (some x))) S1
section
variable {X : Cx} {W : WZ} {pos pos' : Pos} {st : Stmt} {rest : List Stmt} {m u : IS} {e : Expr} {me : IE} {g : IG}
theorem dss_nil : DSs X W [] iNext := pss_nil.imp fun D σ H ⟨w, S, Λ, r0, s0, p⟩ => p.now r0 σ s0
theorem dss_cons (h1 : DS X W st m) (h2 : DSs X W rest u) : DSs X W (st :: rest) (iSeq m u) :=
  (pss_cons h1 h2).imp fun D σ H ⟨w, S, Λ, r0, s0, p⟩ => ⟨w, S, Λ, r0, s0, p.bind.imp fun w1 H1 S1 fl l1 r1 p1 => by
    cases fl with
    | nx L => exact fun σ' s' => ⟨w1, S1, L, r1, s', p1⟩
    | rt iv => exact p1.now r1
    | bk L => exact p1.now r1
    | ct L => exact p1.now r1⟩
theorem dss_one (h1 : DS X W st m) : DSs X W [st] m := pss_one h1
theorem ds_pass : DS X W (.Pass pos) iNext := ps_pass.imp fun D σ H ⟨w, S, Λ, r0, s0, p⟩ => p.now r0 σ s0
theorem ds_break : DS X W (.Break pos) iBrk := ps_break.imp fun D σ H ⟨w, S, Λ, r0, s0, p⟩ => p.now r0 σ s0
theorem ds_continue : DS X W (.Continue pos) iCnt := ps_continue.imp fun D σ H ⟨w, S, Λ, r0, s0, p⟩ => p.now r0 σ s0
theorem ds_expr (he : DE X W e me) (hs : swapsWith e none pos.line X.env = pure false := by rfl) : DS X W (.Expr e pos) (iDrop me) :=
  (ps_expr he hs).imp fun D σ H ⟨w, S, Λ, r0, s0, p⟩ => ⟨w, S, Λ, r0, s0, p.bind.imp fun w1 H1 S1 ix l1 r1 p1 v1 rv1 => p1.now r1 σ (s0.up l1)⟩
theorem ds_ret (he : DE X W e me) : DS X W (.Return (some e) pos) (iRet me) :=
  (ps_ret he).imp fun D σ H ⟨w, S, Λ, r0, s0, p⟩ => ⟨w, S, Λ, r0, s0, p.bind.imp fun w1 H1 S1 ix l1 r1 p1 v1 rv1 => p1.now r1 v1 rv1⟩
theorem ds_retN : DS X W (.Return none pos) iRetN := ps_retN.imp fun D σ H ⟨w, S, Λ, r0, s0, p⟩ => p.now r0 _ .non
theorem ds_if {c : Expr} {a b : List Stmt} {tc : IT} (hc : DT X W c tc) (ha : DSs X W a m) (hb : DSs X W b u) : DS X W (.If c a b pos) (iIf tc m u) :=
  (ps_if hc ha hb).imp fun D σ H ⟨w, S, Λ, r0, s0, p⟩ => ⟨w, S, Λ, r0, s0, p.bind.imp fun w1 H1 S1 k l1 r1 p1 => by
    cases k with
    | true => rw [if_pos rfl] at p1 ⊢; exact ⟨w1, S1, Λ, r1, s0.up l1, p1⟩
    | false => rw [if_neg Bool.false_ne_true] at p1 ⊢; exact ⟨w1, S1, Λ, r1, s0.up l1, p1⟩⟩
theorem dg_name (i : Nat) {x : Str} (hN : X.N.Nodup) (hi : X.N[i]? = some x := by rfl) (hx : Loc X.env.scope x := by first | exact Or.inl rfl | exact Or.inr rfl) (hf : X.fn x = true ∨ X.env.scope.names.lookup x = some .local := by first | exact .inl rfl | exact .inr rfl) : DG X W (.Name x pos) (iName i) :=
  (pg_name hN hi hx hf).imp fun v σ H Q ⟨w, S, Λ, iv, r0, s0, rv, p⟩ => p.now r0 _ (s0.set i rv)
theorem ds_set (i : Nat) {x : Str} (hN : X.N.Nodup) (he : DE X W e me) (hi : X.N[i]? = some x := by rfl) (hx : Loc X.env.scope x := by first | exact Or.inl rfl | exact Or.inr rfl) (hs : swapsWith e (some (.Name x pos')) pos.line X.env = pure false := by rfl)
    (hf : X.fn x = true ∨ X.env.scope.names.lookup x = some .local := by first | exact .inl rfl | exact .inr rfl) : DS X W (.Assign [.Name x pos'] e pos) (iSet i me) :=
  (ps_set hN hi hx he hs hf).imp fun D σ H ⟨w, S, Λ, r0, s0, p⟩ => ⟨w, S, Λ, r0, s0, p.bind.imp fun w1 H1 S1 ix l1 r1 p1 v1 rv1 => p1.now r1 _ ((s0.up l1).set i rv1)⟩
theorem ds_asg {tg : Expr} (he : DE X W e me) (hg : DG X W tg g) (hs : swapsWithSole [tg] e pos.line X.env = pure false := by rfl) (hw : swappedStores [tg] e X.env = pure none := by rfl)
    (h1 : (assignEach [tg] X.env).map (·.2) = [assign tg X.env] := by rfl) : DS X W (.Assign [tg] e pos) (iAsg me g) :=
  (ps_asg he hg hs hw h1).imp fun D σ H ⟨w, S, Λ, r0, s0, p⟩ => ⟨w, S, Λ, r0, s0, p.bind.imp fun w1 H1 S1 ix l1 r1 p1 v1 rv1 => ⟨w1, S1, Λ, ix, r1, s0.up l1, rv1, p1.bind.imp fun w2 H2 S2 L l2 r2 p2 => p2.now r2⟩⟩
/-- a op= e -/
def iAug (i : Nat) (f : IV → IV → Sto → Out IV) (m : IE) : IS := fun Λ S => (iVar i Λ S).bind fun x S0 => (m Λ S0).bind fun y S1 => (f x y S1).bind fun z S2 => .ok (.nx (Λ.set i (some z))) S2
theorem ds_aug (i : Nat) {x : Str} {op : Operator} {r : R2} {f : IV → IV → Sto → Out IV} (hN : X.N.Nodup) (ho : OpR X (inplaceOp op) r) (hs : OpS (kx X W) W.x r f) (he : DE X W e me) (hi : X.N[i]? = some x := by rfl) (hx : Loc X.env.scope x := by first | exact Or.inl rfl | exact Or.inr rfl)
    (hf : X.fn x = true ∨ X.env.scope.names.lookup x = some .local := by first | exact .inl rfl | exact .inr rfl) : DS X W (.AugAssign (.Name x pos') op e pos) (iAug i f me) :=
  (ps_aug hN hi hx he (ti := r) ho hf).imp fun D σ H ⟨w, S, Λ, r0, s0, p⟩ => by
    unfold iAug iVar at p
    split at p
    · rename_i iv el
      obtain ⟨v, h1, h2⟩ := s0.get i iv el
      have p : Post (kx X W) W.x w ((me Λ S).bind fun y S1 => (f iv y S1).bind fun z S2 => Out.ok (Fl.nx (Λ.set i (some z))) S2) (fun w' H' _ fl => FlP (kx X W) w' D H' fl) := p
      exact ⟨v, h1, w, S, Λ, r0, s0, p.bind.imp fun w1 H1 S1 iy l1 r1 p1 v1 rv1 => hs w1 S1 H1 _ _ _ _ _ r1 (h2.up l1) rv1 (p1.bind.imp fun w2 H2 S2 iz l2 r2 p2 v2 rv2 => p2.now r2 _ ((s0.up (l1.trans l2)).set i rv2))⟩
    · exact p.elim
/-- targets in a row; a tuple's -/
abbrev IGs := List IV → Slots → Sto → Out Slots
def iGNil : IGs := fun xs Λ S => match xs with
  | [] => .ok Λ S
  | _ => .bad
def iGCons (g : IG) (r : IGs) : IGs := fun xs Λ S => match xs with
  | x :: xs => (g x Λ S).bind fun L S1 => r xs L S1
  | [] => .bad
def gsM (K : KX) (W : WX) (m : IGs) : TGs := fun vs σ H Q => ∃ w S Λ ivs, R K w S H ∧ SR K w σ Λ ∧ RelL K w vs ivs ∧ Post K W w (m ivs Λ S) fun w' H' _ L => ∀ σ', SR K w' σ' L → Q σ' H'
theorem _root_.L2.PGs.imp {X : Cx} {e : List Expr} {t t' : TGs} (h : PGs X e t) (f : ∀ v σ H Q, t' v σ H Q → t v σ H Q) : PGs X e t' := ⟨fun pins s σ H v u Q I r q => h.run pins s σ H v u Q I r (f v σ H Q q)⟩
abbrev DGs (X : Cx) (W : WZ) (e : List Expr) (m : IGs) : Prop := PGs X e (gsM (kx X W) W.x m)
theorem dgs_nil : DGs X W [] iGNil := pgs_nil.imp fun v σ H Q ⟨w, S, Λ, ivs, r0, s0, rv, p⟩ => by
  cases rv with
  | nil => exact ⟨rfl, Post.now (show Post (kx X W) W.x w (Out.ok Λ S) _ from p) r0 σ s0⟩
  | cons a b => exact p.elim
theorem dgs_cons {es : List Expr} {r : IGs} (h1 : DG X W e g) (h2 : DGs X W es r) (hs : (assignEach (e :: es) X.env).map (·.2) = assign e X.env :: (assignEach es X.env).map (·.2) := by rfl) : DGs X W (e :: es) (iGCons g r) :=
  (pgs_cons h1 h2 hs).imp fun v σ H Q ⟨w, S, Λ, ivs, r0, s0, rv, p⟩ => by
    cases rv with
    | nil => exact p.elim
    | cons a b =>
      have p : Post (kx X W) W.x w ((g _ Λ S).bind fun L S1 => r _ L S1) (fun w' H' _ L => ∀ σ', SR (kx X W) w' σ' L → Q σ' H') := p
      exact ⟨_, _, rfl, w, S, Λ, _, r0, s0, a, p.bind.imp fun w1 H1 S1 L l1 r1 p1 σ' s' => ⟨w1, S1, L, _, r1, s', b.up l1, p1⟩⟩
def iGTup (n : Nat) (gs : IGs) : IG := fun x Λ S => orBad (tupOf x) fun xs => chk (xs.length = n) (gs xs Λ S)
theorem dg_tup {es : List Expr} {k n : Nat} {gs : IGs} (hc : X.calm = true) (h : DGs X W es gs) (hn : (assignEach es X.env).length = n := by rfl) (hst : (assignEach es X.env).findIdx? (·.1) = none := by rfl) : DG X W (.Tuple es k pos) (iGTup n gs) :=
  (pg_tup hc h hn hst).imp fun v σ H Q ⟨w, S, Λ, iv, r0, s0, rv, p⟩ => by
    obtain ⟨ivs, h1, p⟩ := orBad_post p
    obtain ⟨h2, p⟩ := chk_post p
    obtain ⟨a, xs, e1, e2, e3⟩ := tupOf_sq h1 r0 rv
    exact ⟨a, xs, e1, e2, e3.length.trans h2, w, S, Λ, ivs, r0, s0, e3, p⟩
/-- xs[i] = e -/
def iGSub (mo mi : IE) : IG := fun x Λ S => (mo Λ S).bind fun o S1 => (mi Λ S1).bind fun i S2 => asI i fun k => match o with
  | .adr n => (match S2[n]? with
    | some (.lst xs) => orBad (ixN xs.length k) fun j => .ok Λ (S2.set n (.lst (xs.set j x)))
    | _ => .bad)
  | _ => .bad
theorem dg_sub {o i : Expr} {mo mi : IE} (ho : DE X W o mo) (hi : DE X W i mi)
    (ha : ∀ v, assign (.Subscript o i pos) X.env v = (do
      let ov ← holding [v] (eval o X.env)
      let iv ← holding [v, ov] (eval i X.env)
      standAt pos
      holding [v, ov, iv] (setItem ov iv v)
      release [v, ov, iv] []) := by intro _; rfl) : DG X W (.Subscript o i pos) (iGSub mo mi) :=
  (pg_sub ho hi set_list ha).imp fun v σ H Q ⟨w, S, Λ, iv, r0, s0, rv, p⟩ => ⟨w, S, Λ, r0, s0, p.bind.imp fun w1 H1 S1 o1 l1 r1 p1 v1 rv1 => ⟨w1, S1, Λ, r1, s0.up l1, p1.bind.imp fun w2 H2 S2 i2 l2 r2 p2 v2 rv2 => by
    obtain ⟨k, rfl, rfl, q⟩ := asI_post p2 rv2
    have rv1 := rv1.up l2
    cases rv1 with
    | adr hrho =>
      rename_i n a
      cases hq : S2[n]? with
      | none => simp only [hq] at q; exact q.elim
      | some c =>
        simp only [hq] at q
        cases c with
        | lst xs =>
          obtain ⟨j, hj, q⟩ := orBad_post q
          obtain ⟨vs, h1, h2⟩ := r2.cell n _ a hq hrho
          have rw' : R (kx X W) w2 (S2.set n (.lst (xs.set j iv))) (upd H2 a (.lst (vs.set j v))) := r2.write hrho ⟨_, upd_same, h2.set (rv.up (l1.trans l2)) j⟩ (fun _ e => by rw [hq] at e; cases e)
          exact ⟨a, vs, k, j, rfl, rfl, h1, by rw [h2.length]; exact hj, q.now rw' σ (s0.up (l1.trans l2))⟩
        | _ => exact q.elim
    | _ => exact q.elim⟩⟩
end

/-! ### what is walked -/
structure Src where
  items : List IV
  keep : Option Nat
def Src.stay (s : Src) (S : Sto) : Prop := match s.keep with
  | none => True
  | some n => S[n]? = some (.lst s.items)
open Classical in
noncomputable def chkP {α : Type} (p : Prop) (o : Out α) : Out α := if p then o else .bad
theorem chkP_pos {α : Type} {p : Prop} {o : Out α} (h : p) : chkP p o = o := if_pos h
theorem chkP_neg {α : Type} {p : Prop} {o : Out α} (h : ¬ p) : chkP p o = .bad := if_neg h
theorem chkP_post {α : Type} {K : KX} {W : WX} {w : Wd} {p : Prop} {o : Out α} {P : Wd → Hp → Sto → α → Prop} (h : Post K W w (chkP p o) P) : p ∧ Post K W w o P := by
  by_cases hp : p
  · rw [chkP_pos hp] at h; exact ⟨hp, h⟩
  · rw [chkP_neg hp] at h; exact h.elim
structure ItR (K : KX) (w0 : Wd) (J : It) (s : Src) : Prop where
  go : ∀ (w : Wd) (S : Sto) (H : Hp) (i : Nat), w0.lz w → R K w S H → s.stay S → i < s.items.length → J.go i H
  stop : ∀ (w : Wd) (S : Sto) (H : Hp) (i : Nat), w0.lz w → R K w S H → s.stay S → s.items.length ≤ i → J.stop i H
  yld : ∀ (w : Wd) (S : Sto) (H : Hp) (i : Nat) (iv : IV) (x : V) (H' : Hp), w0.lz w → R K w S H → s.stay S → s.items[i]? = some iv → J.yld i H x H' → ∃ w', w.le w' ∧ R K w' S H' ∧ Rel K w' x iv
abbrev IW := Slots → Sto → Out Src
def wM (K : KX) (W : WX) (m : IW) : TI := fun σ H Rr => ∃ w S Λ, R K w S H ∧ SR K w σ Λ ∧ Post K W w (m Λ S) fun w' H' S' s => ∀ J, ItR K w' J s → Rr J H'
abbrev DI (X : Cx) (W : WZ) (tg e : Expr) (m : IW) : Prop := PI X tg e (wM (kx X W) W.x m)
theorem _root_.L2.PI.imp {X : Cx} {tg e : Expr} {t t' : TI} (h : PI X tg e t) (f : ∀ σ H Q, t' σ H Q → t σ H Q) : PI X tg e t' := ⟨fun pins s σ H Q I q => h.run pins s σ H Q I (f σ H Q q)⟩
def fSrcL (x : IV) (S : Sto) : Out Src := match x with
  | .adr n => (match S[n]? with
    | some (.lst xs) => .ok ⟨xs, some n⟩ S
    | _ => .bad)
  | x => orBad (lstOf S x) fun xs => .ok ⟨xs, none⟩ S
def iSrcL (m : IE) : IW := fun Λ S => (m Λ S).bind fun x S1 => fSrcL x S1
theorem fSrcL_cases {K : KX} {W : WX} {w : Wd} {S : Sto} {H : Hp} {x : V} {ix : IV} {P : Wd → Hp → Sto → Src → Prop} (h : Post K W w (fSrcL ix S) P) (r : R K w S H) (rx : Rel K w x ix) :
    ∃ a s, x = .ref a ∧ (∃ xs, SqL K.k H a xs) ∧ Post K W w (.ok s S) P ∧ ItR K w (Itl K.k a) s := by
  have mk : ∀ {a : Addr} {s : Src}, (∀ w' S' H', w.lr w' → R K w' S' H' → s.stay S' → ∃ xs, SqL K.k H' a xs ∧ RelL K w' xs s.items) → ItR K w (Itl K.k a) s := fun {a s} f => by
    refine ⟨fun w' S' H' i l r' st hi => ?_, fun w' S' H' i l r' st hi => ?_, fun w' S' H' i iv x H2 l r' st hi hy => ?_⟩
    · obtain ⟨xs, h1, h2⟩ := f w' S' H' l.1 r' st
      obtain ⟨v, h3, _⟩ := h2.get (List.getElem?_eq_getElem hi)
      exact ⟨xs, v, h1, h3⟩
    · obtain ⟨xs, h1, h2⟩ := f w' S' H' l.1 r' st
      exact ⟨xs, h1, by rw [h2.length]; exact hi⟩
    · obtain ⟨xs, h1, h2⟩ := f w' S' H' l.1 r' st
      obtain ⟨e1, e2⟩ := hy
      subst e1
      obtain ⟨v, h3, h4⟩ := h2.get hi
      have := (e2 xs h1).symm.trans h3
      cases this
      exact ⟨w', Wd.le.refl _, r', h4⟩
  unfold fSrcL at h
  split at h
  · cases rx with
    | adr hrho =>
      split at h
      · rename_i n xs hq
        rename_i a _ _
        obtain ⟨vs, h1, h2⟩ := r.cell _ _ _ hq hrho
        refine ⟨_, _, rfl, ⟨vs, .of h1⟩, h, mk fun w' S' H' l r' st => ?_⟩
        obtain ⟨us, h3, h4⟩ := r'.cell _ _ _ (show S'[_]? = some (.lst xs) from st) (l.get hrho)
        exact ⟨us, .of h3, h4⟩
      · exact h.elim
  · rename_i hn
    obtain ⟨xs, e, h⟩ := orBad_post h
    cases ix with
    | lst ys =>
      cases e
      cases rx with
      | lst h1 h2 => exact ⟨_, _, rfl, ⟨_, .of (r.F _ _ h1)⟩, h, mk fun w' S' H' l r' st => ⟨_, .of (r'.F _ _ (l.F _ _ h1)), RelL.mono l _ _ h2⟩⟩
    | wls ys =>
      cases e
      cases rx with
      | wls h1 h2 => exact ⟨_, _, rfl, ⟨_, r.F.seq h1⟩, h, mk fun w' S' H' l r' st => ⟨_, r'.F.seq (l.F.seq h1), RelL.mono l _ _ h2⟩⟩
    | adr n => exact absurd rfl (hn n)
    | _ => cases e
def rangeI (lo : Int) (n : Nat) : List IV := (List.range n).map fun (i : Nat) => .int (lo + i)
theorem itR_range {K : KX} {w : Wd} {lo : Int} {n : Nat} : ItR K w (Itr lo n) ⟨rangeI lo n, none⟩ := by
  refine ⟨fun w' S' H' i l r' st hi => ?_, fun w' S' H' i l r' st hi => ?_, fun w' S' H' i iv x H2 l r' st hi hy => ?_⟩
  · show i < n
    simpa [rangeI] using hi
  · show n ≤ i
    simpa [rangeI] using hi
  · obtain ⟨e1, e2⟩ := hy
    subst e1 e2
    refine ⟨w', Wd.le.refl _, r', ?_⟩
    have hi : (rangeI lo n)[i]? = some iv := hi
    unfold rangeI at hi
    rw [List.getElem?_map] at hi
    obtain ⟨j, h1, h2⟩ := Option.map_eq_some_iff.mp hi
    obtain ⟨hj, h3⟩ := List.getElem?_eq_some_iff.mp h1
    rw [List.getElem_range] at h3
    subst h3 h2
    exact .int _
instance (j : Int) : Decidable (-(2 ^ 62) ≤ j ∧ j < 2 ^ 62) := by infer_instance
def iSrcR1 (m : IE) : IW := fun Λ S => (m Λ S).bind fun x S1 => asI x fun j => chk (-(2 ^ 62) ≤ j ∧ j < 2 ^ 62) (.ok ⟨rangeI 0 j.toNat, none⟩ S1)
def iSrcR2 (m m' : IE) : IW := fun Λ S => (m Λ S).bind fun x S1 => (m' Λ S1).bind fun y S2 => asI x fun i => asI y fun j => chk (-(2 ^ 62) ≤ i ∧ i < 2 ^ 62 ∧ -(2 ^ 62) ≤ j ∧ j < 2 ^ 62) (.ok ⟨rangeI i (j - i).toNat, none⟩ S2)
/-- a text, sign by sign -/
def iSrcS (m : IE) : IW := fun Λ S => (m Λ S).bind fun x S1 => asS x fun z => .ok ⟨z.cps.toList.map fun c => .str ⟨#[c]⟩, none⟩ S1
def iSrcT (m : IE) : IW := fun Λ S => (m Λ S).bind fun x S1 => orBad (tupOf x) fun xs => .ok ⟨xs, none⟩ S1
section
variable {X : Cx} {W : WZ} {tg e e' : Expr} {m m' : IE} {p pos : Pos}
theorem di_list (h : DE X W e m) : DI X W tg e (iSrcL m) := (pi_list h).imp fun σ H Q ⟨w, S, Λ, r0, s0, p⟩ => ⟨w, S, Λ, r0, s0, p.bind.imp fun w1 H1 S1 ix l1 r1 p1 v1 rv1 => by
  obtain ⟨a, s, h1, h2, h3, h4⟩ := fSrcL_cases p1 r1 rv1
  exact ⟨a, h1, h2, h3.now r1 _ h4⟩⟩
theorem di_tup (h : DE X W e m) : DI X W tg e (iSrcT m) := (pi_tup h).imp fun σ H Q ⟨w, S, Λ, r0, s0, p⟩ => ⟨w, S, Λ, r0, s0, p.bind.imp fun w1 H1 S1 ix l1 r1 p1 v1 rv1 => by
  obtain ⟨ivs, h1, q⟩ := orBad_post p1
  obtain ⟨a, xs, e1, e2, e3⟩ := tupOf_sq h1 r1 rv1
  have hF : SqT X.K w1.F a xs ∨ True := .inr trivial
  cases ix with
  | tup ys =>
    cases h1
    cases rv1 with
    | tup k1 k2 =>
      cases e1
      refine ⟨_, rfl, ⟨_, e2⟩, q.now r1 _ ⟨fun w' S' H' i l r' st hi => ?_, fun w' S' H' i l r' st hi => ?_, fun w' S' H' i iv x H2 l r' st hi hy => ?_⟩⟩
      · obtain ⟨v, h3, _⟩ := k2.get (List.getElem?_eq_getElem hi)
        exact ⟨_, v, same_t r'.F (same_t l.F k1), h3⟩
      · exact ⟨_, same_t r'.F (same_t l.F k1), by rw [k2.length]; exact hi⟩
      · obtain ⟨f1, f2⟩ := hy
        subst f1
        obtain ⟨v, h3, h4⟩ := k2.get hi
        have := (f2 _ (same_t r'.F (same_t l.F k1))).symm.trans h3
        cases this
        exact ⟨w', Wd.le.refl _, r', Rel.mono l.1 _ _ h4⟩
  | _ => cases h1⟩
theorem di_range1 (hm : X.mg "range" = none) (ha : DA X W [e] (iCons m iNil)) (hg : Gl X "range" := by rfl) (hs : starEach [e] X.env = [(false, eval e X.env)] := by rfl) : DI X W tg (.Call (.Name "range" p) [e] [] pos) (iSrcR1 m) :=
  (pi_range1 hg hm ha hs).imp fun σ H Q ⟨w, S, Λ, r0, s0, p⟩ => ⟨w, S, Λ, r0, s0, by
    unfold iCons iNil
    cases h : m Λ S with
    | ok x S1 =>
      unfold iSrcR1 at p
      rw [h] at p
      intro w1 H1 l1 r1 vs rv
      cases rv with
      | cons a b =>
        cases b
        obtain ⟨j, rfl, rfl, q⟩ := asI_post (p.up l1) a
        obtain ⟨hj, q⟩ := chk_post q
        exact ⟨j, rfl, hj.1, hj.2, q.now r1 _ itR_range⟩
    | exc C n L S1 => unfold iSrcR1 at p; rw [h] at p; exact p
    | bad => unfold iSrcR1 at p; rw [h] at p; exact p⟩
theorem di_range2 (hm : X.mg "range" = none) (ha : DA X W [e, e'] (iCons m (iCons m' iNil))) (hg : Gl X "range" := by rfl) (hs : starEach [e, e'] X.env = [(false, eval e X.env), (false, eval e' X.env)] := by rfl) (hs2 : starEach [e'] X.env = [(false, eval e' X.env)] := by rfl) : DI X W tg (.Call (.Name "range" p) [e, e'] [] pos) (iSrcR2 m m') :=
  (pi_range2 hg hm ha hs hs2).imp fun σ H Q ⟨w, S, Λ, r0, s0, p⟩ => ⟨w, S, Λ, r0, s0, by
    unfold iCons iNil
    unfold iSrcR2 at p
    cases h : m Λ S with
    | ok x S1 =>
      rw [h] at p
      have p : Post (kx X W) W.x w ((m' Λ S1).bind fun y S2 => asI x fun i => asI y fun j => chk (-(2 ^ 62) ≤ i ∧ i < 2 ^ 62 ∧ -(2 ^ 62) ≤ j ∧ j < 2 ^ 62) (Out.ok (Src.mk (rangeI i (j - i).toNat) none) S2)) (fun w' H' S' s => ∀ J, ItR (kx X W) w' J s → Q J H') := p
      simp only [Out.bind_ok]
      cases h' : m' Λ S1 with
      | ok y S2 =>
        rw [h'] at p
        intro w1 H1 l1 r1 vs rv
        cases rv with
        | cons a b =>
          cases b with
          | cons b c =>
            cases c
            obtain ⟨i, rfl, rfl, q⟩ := asI_post (p.up l1) a
            obtain ⟨j, rfl, rfl, q⟩ := asI_post q b
            obtain ⟨hj, q⟩ := chk_post q
            exact ⟨i, j, rfl, hj, q.now r1 _ itR_range⟩
      | exc C n L S2 => rw [h'] at p; exact p
      | bad => rw [h'] at p; exact p
    | exc C n L S1 => rw [h] at p; exact p
    | bad => rw [h] at p; exact p⟩
end
end Sm

namespace Sm
open PySem PySem.Spec PyProof.Rows L2

/-! ### for -/
noncomputable def iIter (s : Src) (g : IG) (b : IS) : List IV → Slots → Sto → Out Fl
  | [], Λ, S => chkP (s.stay S) (.ok (.nx Λ) S)
  | x :: xs, Λ, S => chkP (s.stay S) ((g x Λ S).bind fun Λ1 S1 => (b Λ1 S1).bind fun fl S2 => match fl with
    | .nx L => iIter s g b xs L S2
    | .ct L => iIter s g b xs L S2
    | .bk L => .ok (.nx L) S2
    | .rt v => .ok (.rt v) S2)
noncomputable def iFor (ms : IW) (g : IG) (b : IS) : IS := fun Λ S => (ms Λ S).bind fun s S1 => iIter s g b s.items Λ S1
theorem for_loop {K : KX} {W : WX} {g : IG} {b : IS} {D : Ends} {σ : L2.St} {H1 : Hp} {J : It} {s : Src} {w1 : Wd} {S1 : Sto} {Λ : Slots} (hJ : ItR K w1 J s) (r1 : R K w1 S1 H1) (s0 : SR K w1 σ Λ) (p1 : Post K W w1 (iIter s g b s.items Λ S1) fun w' H' _ fl => FlP K w' D H' fl) : tFor (fun _ H Rr => Rr J H) (gM K W g) (sM K W b) D σ H1 := by
  refine ⟨fun i m σ H => m = s.items.length - i ∧ i ≤ s.items.length ∧ ∃ w2 S2 L, w1.le w2 ∧ R K w2 S2 H ∧ SR K w2 σ L ∧ Post K W w2 (iIter s g b (s.items.drop i) L S2) fun w' H' _ fl => FlP K w' D H' fl,
    ⟨s.items.length, by simp, Nat.zero_le _, w1, S1, Λ, Wd.le.refl _, r1, s0, by rw [List.drop_zero]; exact p1⟩, ?_⟩
  rintro i m σ2 H2 ⟨rfl, hi, w2, S2, L, l2, r2, s2, p2⟩
  by_cases hlt : i < s.items.length
  · rw [List.drop_eq_getElem_cons hlt] at p2
    obtain ⟨st, p2⟩ := chkP_post (show Post K W w2 (chkP (s.stay S2) _) _ from p2)
    refine .inr ⟨hJ.go w2 S2 H2 i l2.lz r2 st hlt, fun σ' H' => i + 1 ≤ s.items.length ∧ ∃ w3 S3 L3, w1.le w3 ∧ R K w3 S3 H' ∧ SR K w3 σ' L3 ∧ Post K W w3 (iIter s g b (s.items.drop (i + 1)) L3 S3) fun w' H' _ fl => FlP K w' D H' fl,
      fun σ' H' h' => ⟨s.items.length - (i + 1), by omega, rfl, h'.1, h'.2⟩, fun x H' y => ?_⟩
    obtain ⟨w3, l3, r3, rv⟩ := hJ.yld w2 S2 H2 i _ x H' l2.lz r2 st (List.getElem?_eq_getElem hlt) y
    refine ⟨w3, S2, L, _, r3, s2.up l3, rv, (p2.up l3).bind.imp fun w4 H4 S4 L4 l4 r4 p4 σ4 s4 => ⟨w4, S4, L4, r4, s4, p4.bind.imp fun w5 H5 S5 fl l5 r5 p5 => ?_⟩⟩
    have lA := l2.trans (l3.trans (l4.trans l5))
    cases fl with
    | nx L5 => exact fun σ5 s5 => ⟨hlt, w5, S5, L5, lA, r5, s5, p5⟩
    | ct L5 => exact fun σ5 s5 => ⟨hlt, w5, S5, L5, lA, r5, s5, p5⟩
    | bk L5 => exact Post.now (show Post K W w5 (Out.ok (Fl.nx L5) S5) (fun w' H' _ fl => FlP K w' D H' fl) from p5) r5
    | rt v => exact Post.now (show Post K W w5 (Out.ok (Fl.rt v) S5) (fun w' H' _ fl => FlP K w' D H' fl) from p5) r5
  · have e : i = s.items.length := by omega
    subst e
    rw [List.drop_length] at p2
    obtain ⟨st, p2⟩ := chkP_post (show Post K W w2 (chkP (s.stay S2) _) _ from p2)
    exact .inl ⟨hJ.stop w2 S2 H2 _ l2.lz r2 st (Nat.le_refl _), p2.now r2 σ2 s2⟩
theorem for_M {K : KX} {W : WX} {ms : IW} {g : IG} {b : IS} {D : Ends} {σ : L2.St} {H : Hp} (h : sM K W (iFor ms g b) D σ H) : tFor (wM K W ms) (gM K W g) (sM K W b) D σ H := by
  obtain ⟨w, S, Λ, r0, s0, p⟩ := h
  exact ⟨w, S, Λ, r0, s0, p.bind.imp fun w1 H1 S1 s l1 r1 p1 J hJ => for_loop hJ r1 (s0.up l1) p1⟩
section
variable {X : Cx} {W : WZ} {pos : Pos} {tg iter : Expr} {body : List Stmt} {ms : IW} {g : IG} {b : IS}
theorem ds_for (hp : PassesOwn (model X.prog X.w) X.A X.env X.xe) (hc : X.calm = true) (hi : DI X W tg iter ms) (hg : DG X W tg g) (hb : DSs X W body b) (hs : ∀ x, foldedSetIterable iter X.env x = pure x := by intro _; rfl) : DS X W (.For tg iter body [] pos) (iFor ms g b) :=
  (ps_for hp hc hi hg hb hs).imp fun D σ H h => for_M h
end

/-! ### while -/
def iWh (c : IT) (b : IS) : Nat → Slots → Sto → Out Fl
  | 0, _, _ => .bad
  | n + 1, Λ, S => (c Λ S).bind fun k S1 => if k = true then (b Λ S1).bind fun fl S2 => match fl with
      | .nx L => iWh c b n L S2
      | .ct L => iWh c b n L S2
      | .bk L => .ok (.nx L) S2
      | .rt v => .ok (.rt v) S2
    else .ok (.nx Λ) S1
open Classical in
noncomputable def iWhile (c : IT) (b : IS) : IS := fun Λ S => if h : ∃ n, iWh c b n Λ S ≠ .bad then iWh c b h.choose Λ S else .bad
theorem iWh_mono {c : IT} {b : IS} : ∀ (n m : Nat) (Λ : Slots) (S : Sto), iWh c b n Λ S ≠ .bad → n ≤ m → iWh c b m Λ S = iWh c b n Λ S
  | 0, _, _, _, h, _ => absurd rfl h
  | n + 1, 0, _, _, _, l => by omega
  | n + 1, m + 1, Λ, S, h, l => by
    unfold iWh at h ⊢
    cases hc : c Λ S with
    | ok k S1 =>
      rw [hc] at h
      simp only [Out.bind_ok] at h ⊢
      cases k with
      | true =>
        rw [if_pos rfl] at h ⊢
        cases hb : b Λ S1 with
        | ok fl S2 =>
          rw [hb] at h
          simp only [Out.bind_ok] at h ⊢
          cases fl with
          | nx L => exact iWh_mono n m L S2 h (by omega)
          | ct L => exact iWh_mono n m L S2 h (by omega)
          | bk L => rfl
          | rt v => rfl
        | exc C k L S2 => rfl
        | bad => rfl
      | false => rfl
    | exc C k L S1 => rfl
    | bad => rfl
theorem iWhile_of {c : IT} {b : IS} {n : Nat} {Λ : Slots} {S : Sto} {o : Out Fl} (h : iWh c b n Λ S = o) (hb : o ≠ .bad) : iWhile c b Λ S = o := by
  have hx : ∃ n, iWh c b n Λ S ≠ .bad := ⟨n, by rw [h]; exact hb⟩
  unfold iWhile
  rw [dif_pos hx]
  have h1 := hx.choose_spec
  rcases Nat.le_total n hx.choose with l | l
  · rw [iWh_mono n _ Λ S (by rw [h]; exact hb) l, h]
  · rw [← iWh_mono _ n Λ S h1 l, h]
theorem while_M {K : KX} {W : WX} {c : IT} {b : IS} {D : Ends} {σ : L2.St} {H : Hp} (h : sM K W (iWhile c b) D σ H) : tWhile (tM K W c) (sM K W b) D σ H := by
  obtain ⟨w, S, Λ, r0, s0, p⟩ := h
  unfold iWhile at p
  split at p
  · rename_i hx
    generalize hx.choose = n at p
    refine ⟨fun m σ H => ∃ w2 S2 L, R K w2 S2 H ∧ SR K w2 σ L ∧ Post K W w2 (iWh c b m L S2) fun w' H' _ fl => FlP K w' D H' fl, ⟨n, w, S, Λ, r0, s0, p⟩, ?_⟩
    rintro m σ2 H2 ⟨w2, S2, L, r2, s2, p2⟩
    cases m with
    | zero => exact p2.elim
    | succ m =>
      unfold iWh at p2
      refine ⟨w2, S2, L, r2, s2, p2.bind.imp fun w3 H3 S3 k l3 r3 p3 => ?_⟩
      cases k with
      | true =>
        rw [if_pos rfl] at p3 ⊢
        refine ⟨fun σ' H' => ∃ w4 S4 L4, R K w4 S4 H' ∧ SR K w4 σ' L4 ∧ Post K W w4 (iWh c b m L4 S4) fun w' H' _ fl => FlP K w' D H' fl, fun σ' H' h' => ⟨m, Nat.lt_succ_self m, h'⟩,
          w3, S3, L, r3, s2.up l3, p3.bind.imp fun w5 H5 S5 fl l5 r5 p5 => ?_⟩
        cases fl with
        | nx L5 => exact fun σ5 s5 => ⟨w5, S5, L5, r5, s5, p5⟩
        | ct L5 => exact fun σ5 s5 => ⟨w5, S5, L5, r5, s5, p5⟩
        | bk L5 => exact Post.now (show Post K W w5 (Out.ok (Fl.nx L5) S5) (fun w' H' _ fl => FlP K w' D H' fl) from p5) r5
        | rt v => exact Post.now (show Post K W w5 (Out.ok (Fl.rt v) S5) (fun w' H' _ fl => FlP K w' D H' fl) from p5) r5
      | false =>
        rw [if_neg Bool.false_ne_true] at p3 ⊢
        exact p3.now r3 σ2 (s2.up l3)
  · exact p.elim
section
variable {X : Cx} {W : WZ} {pos : Pos} {c : Expr} {body : List Stmt} {tc : IT} {b : IS}
theorem ds_while (hp : PassesOwn (model X.prog X.w) X.A X.env X.xe) (hc : DT X W c tc) (hb : DSs X W body b) : DS X W (.While c body [] pos) (iWhile tc b) :=
  (ps_while hp hc hb).imp fun D σ H h => while_M h
end

/-! ### list comprehensions -/
def W0 : WX := fun _ _ _ _ => False
def noX {α : Type} : Out α → Out α
  | .exc _ _ _ _ => .bad
  | o => o
@[simp] theorem noX_ok {α : Type} (a : α) (S : Sto) : noX (.ok a S) = .ok a S := rfl
@[simp] theorem noX_bad {α : Type} : noX (.bad : Out α) = .bad := rfl
def wipeI (Λ : Slots) : List Nat → Slots
  | [] => Λ
  | v :: vs => (wipeI Λ vs).set v none
theorem sr_wipe {K : KX} {w : Wd} {σ : L2.St} {Λ : Slots} (s : SR K w σ Λ) (hx : K.ex = none) : ∀ vs : List Nat, SR K w (wipe σ vs) (wipeI Λ vs)
  | [] => s
  | v :: vs => (sr_wipe s hx vs).setN v none (by rw [hx]; rfl)
theorem wipe_get {σ : L2.St} {j : Nat} : ∀ {vs : List Nat}, (wipe σ vs)[j]? = if j ∈ vs then σ[j]?.map (fun _ => none) else σ[j]?
  | [] => by simp [wipe]
  | v :: vs => by
    unfold wipe
    by_cases h : v = j
    · subst h
      rw [if_pos List.mem_cons_self]
      by_cases hl : v < (wipe σ vs).length
      · rw [List.getElem?_set_self hl]
        rw [wipe_length] at hl
        rw [List.getElem?_eq_getElem hl]
        rfl
      · have hl' := hl
        rw [wipe_length] at hl'
        rw [List.getElem?_eq_none (by rw [List.length_set]; omega), List.getElem?_eq_none (by omega)]
        rfl
    · rw [List.getElem?_set_ne h, wipe_get (vs := vs)]
      have : (j ∈ v :: vs) ↔ j ∈ vs := by
        rw [List.mem_cons]
        exact ⟨fun z => z.elim (fun e => absurd e.symm h) id, .inr⟩
      by_cases hj : j ∈ vs
      · rw [if_pos hj, if_pos (this.mpr hj)]
      · rw [if_neg hj, if_neg fun z => hj (this.mp z)]
theorem wipe_set {σ : L2.St} {i : Nat} {u : Option V} {vs : List Nat} (h : i ∈ vs) : wipe (σ.set i u) vs = wipe σ vs := by
  refine List.ext_getElem? fun j => ?_
  rw [wipe_get, wipe_get]
  by_cases hj : j ∈ vs
  · rw [if_pos hj, if_pos hj]
    by_cases e : i = j
    · subst e
      by_cases hl : i < σ.length
      · rw [List.getElem?_set_self hl, List.getElem?_eq_getElem hl]; rfl
      · rw [List.getElem?_eq_none (by rw [List.length_set]; omega), List.getElem?_eq_none (by omega)]
    · rw [List.getElem?_set_ne e]
  · rw [if_neg hj, if_neg hj]
    have e : i ≠ j := fun e => hj (e ▸ h)
    rw [List.getElem?_set_ne e]
theorem wipe_wipe {σ : L2.St} : ∀ {vs ws : List Nat}, (∀ v ∈ ws, v ∈ vs) → wipe (wipe σ ws) vs = wipe σ vs
  | vs, [], _ => rfl
  | vs, w :: ws, h => by
    show wipe ((wipe σ ws).set w none) vs = wipe σ vs
    rw [wipe_set (h w List.mem_cons_self), wipe_wipe fun v hv => h v (List.mem_cons_of_mem _ hv)]
/-- a block's target -/
structure GC (K : KX) (vs : List Nat) (g : TG) (gi : IV → Slots → Option Slots) : Prop where
  run : ∀ (w : Wd) (S : Sto) (H : Hp) (σ : L2.St) (Λ : Slots) (x : V) (ix : IV) (L : Slots) (Q : L2.St → Hp → Prop), R K w S H → SR K w σ Λ → Rel K w x ix → gi ix Λ = some L → (∀ σ', SR K w σ' L → wipe σ' vs = wipe σ vs → Q σ' H) → g x σ H Q
def giN (j : Nat) (x : IV) (Λ : Slots) : Option Slots := some (Λ.set j (some x))
theorem gc_name {K : KX} {vs : List Nat} {j : Nat} (h : j ∈ vs) : GC K vs (gName j) (giN j) :=
  ⟨fun w S H σ Λ x ix L Q r s rx e k => by
    cases e
    exact k _ (s.set j rx) (wipe_set h)⟩
def giT2 (i j : Nat) (x : IV) (Λ : Slots) : Option Slots := match x with
  | .tup [a, b] => some ((Λ.set i (some a)).set j (some b))
  | _ => none
theorem gc_tup2 {K : KX} {vs : List Nat} {i j : Nat} (hi : i ∈ vs) (hj : j ∈ vs) : GC K vs (gTup K.k 2 (gCons (gName i) (gCons (gName j) gNil))) (giT2 i j) :=
  ⟨fun w S H σ Λ x ix L Q r s rx e k => by
    unfold giT2 at e
    split at e
    · cases e
      cases rx with
      | tup h1 h2 =>
        cases h2 with
        | cons a b =>
          cases b with
          | cons b c =>
            cases c
            exact ⟨_, _, rfl, same_t r.F h1, rfl, _, _, rfl, _, _, rfl, rfl, k _ ((s.set i a).set j b) (by rw [wipe_set hj, wipe_set hi])⟩
    · cases e⟩
noncomputable def iLcGo (s : Src) (gi : IV → Slots → Option Slots) (tt : IT) (te : IE) : List IV → Slots → Sto → List IV → Out (List IV)
  | [], _, S, acc => chkP (s.stay S) (.ok acc S)
  | x :: xs, Λ, S, acc => chkP (s.stay S) (orBad (gi x Λ) fun L => (noX (tt L S)).bind fun b S1 => if b = true then (noX (te L S1)).bind fun y S2 => chk (acc.length < sizeLine) (iLcGo s gi tt te xs Λ S2 (acc ++ [y])) else iLcGo s gi tt te xs Λ S1 acc)
noncomputable def iLc (cell : Bool) (ms : IW) (gi : IV → Slots → Option Slots) (tt : IT) (te : IE) (vs : List Nat) : IE := fun Λ S => (ms Λ S).bind fun s S1 => (iLcGo s gi tt te s.items (wipeI Λ vs) S1 []).bind fun acc S2 => mkL cell acc S2
def iYes : IT := fun _ S => .ok true S
abbrev DTs (X : Cx) (W : WZ) (e : List Expr) (m : IT) : Prop := PTs X e (tM (kx X W) W.x m)
theorem noX_post {α : Type} {K : KX} {w w' : Wd} {o : Out α} {P : Wd → Hp → Sto → α → Prop} (h : ∀ a S, noX o = .ok a S → ∀ w2 H2, w.le w2 → R K w2 S H2 → P w2 H2 S a) (hb : noX o ≠ .bad) : Post K W0 w o P := by
  cases o with
  | ok a S => exact h a S rfl
  | exc C n L S => exact absurd rfl hb
  | bad => exact absurd rfl hb
theorem lc_M {K : KX} {W : WX} {cell : Bool} {ms : IW} {g : TG} {gi : IV → Slots → Option Slots} {tt : IT} {te : IE} {vs : List Nat} {σ : L2.St} {H : Hp} {Q : VK} (hg : GC K vs g gi) (hx : K.ex = none) (h : eM K W (iLc cell ms gi tt te vs) σ H Q) :
    tLc (wM K W ms) g (tM K W0 tt) (eM K W0 te) vs σ H Q := by
  obtain ⟨w, S, Λ, r0, s0, p⟩ := h
  refine ⟨w, S, Λ, r0, s0, p.bind.imp fun w1 H1 S1 s l1 r1 p1 J hJ => ?_⟩
  intro D hD
  have hG : w1.G D = none := by
    cases q : w1.G D with
    | none => rfl
    | some u => rw [r1.G _ _ q] at hD; cases hD
  have s1 := sr_wipe (s0.up l1) hx vs
  -- the word at turn i: the new list at D is a ghost
  let Z : Nat → Hp → Prop := fun i H => i ≤ s.items.length ∧ ∃ (rho : List Addr) (F : Hp) (S2 : Sto) (xs : List V) (acc : List IV), w1.le ⟨rho, F, w1.G⟩ ∧ R K ⟨rho, F, upd w1.G D (.lst xs)⟩ S2 H ∧ RelL K ⟨rho, F, w1.G⟩ xs acc ∧
    Post K W ⟨rho, F, w1.G⟩ ((iLcGo s gi tt te (s.items.drop i) (wipeI Λ vs) S2 acc).bind fun acc S2 => mkL cell acc S2) fun w' H' _ iv => ∀ v, Rel K w' v iv → Q v H'
  refine ⟨fun i m H => m = s.items.length - i ∧ Z i H, ⟨s.items.length, by simp, Nat.zero_le _, w1.rho, w1.F, S1, [], [], Wd.le.refl w1, r1.ghost hD, .nil, by rw [List.drop_zero]; exact p1⟩, ?_⟩
  rintro i m H2 ⟨rfl, hi, rho, F, S2, xs, acc, l2, r2, rl, p2⟩
  have l2' : w1.lr ⟨rho, F, upd w1.G D (.lst xs)⟩ := ⟨l2.rho, l2.F⟩
  have l2z : w1.lz ⟨rho, F, upd w1.G D (.lst xs)⟩ := ⟨l2', fun a u v e => by
    show upd w1.G D (.lst xs) a = some (.frz u v)
    rw [upd_ne (ne_of_none e hG)]; exact e⟩
  by_cases hlt : i < s.items.length
  · rw [List.drop_eq_getElem_cons hlt] at p2
    have st : s.stay S2 := by
      by_cases hs : s.stay S2
      · exact hs
      · exact (show Post K W ⟨rho, F, w1.G⟩ ((chkP (s.stay S2) _).bind _) _ from p2) |> fun z => by rw [chkP_neg hs] at z; exact z.elim
    have p2 : Post K W ⟨rho, F, w1.G⟩ ((orBad (gi s.items[i] (wipeI Λ vs)) fun L => (noX (tt L S2)).bind fun b S1 => if b = true then (noX (te L S1)).bind fun y S2 => chk (acc.length < sizeLine) (iLcGo s gi tt te (s.items.drop (i + 1)) (wipeI Λ vs) S2 (acc ++ [y])) else iLcGo s gi tt te (s.items.drop (i + 1)) (wipeI Λ vs) S1 acc).bind fun acc S2 => mkL cell acc S2) (fun w' H' _ iv => ∀ v, Rel K w' v iv → Q v H') := by
      have z := (show Post K W ⟨rho, F, w1.G⟩ ((chkP (s.stay S2) _).bind _) _ from p2)
      rw [chkP_pos st] at z
      exact z
    refine .inr ⟨hJ.go _ S2 H2 i l2z r2 st hlt, Z (i + 1), fun H' z => ⟨s.items.length - (i + 1), by omega, rfl, z⟩, fun x H' y => ?_⟩
    obtain ⟨⟨rho3, F3, G3⟩, l3, r3, rv⟩ := hJ.yld _ S2 H2 i _ x H' l2z r2 st (List.getElem?_eq_getElem hlt) y
    have hG3 : G3 = upd w1.G D (.lst xs) := l3.G
    subst hG3
    have l23 : w1.le ⟨rho3, F3, w1.G⟩ := ⟨⟨(l2'.trans l3.1).rho, (l2'.trans l3.1).F⟩, rfl⟩
    have lp3 : Wd.le ⟨rho, F, w1.G⟩ ⟨rho3, F3, w1.G⟩ := ⟨⟨l3.rho, l3.F⟩, rfl⟩
    cases hgi : gi s.items[i] (wipeI Λ vs) with
    | none => rw [hgi] at p2; exact p2.elim
    | some L =>
      rw [hgi, orBad_some] at p2
      have sw : SR K ⟨rho3, F3, upd w1.G D (.lst xs)⟩ (wipe σ vs) (wipeI Λ vs) := s1.mono (l2'.trans l3.1)
      refine hg.run _ S2 H' _ _ x _ L _ r3 sw rv hgi fun σ' s' hw => ⟨by rw [hw, wipe_wipe fun _ hv => hv], ?_⟩
      refine ⟨_, S2, L, r3, s', noX_post (w' := ⟨rho, F, w1.G⟩) (fun b S3 e3 w4 H4 l4 r4 => ?_) fun hb => ?_⟩
      · rw [e3, Out.bind_ok] at p2
        obtain ⟨rho4, F4, G4⟩ := w4
        have hG4 : G4 = upd w1.G D (.lst xs) := l4.G
        subst hG4
        have lp4 : Wd.le ⟨rho, F, w1.G⟩ ⟨rho4, F4, w1.G⟩ := lp3.trans ⟨⟨l4.rho, l4.F⟩, rfl⟩
        cases b with
        | true =>
          rw [if_pos rfl] at p2 ⊢
          refine ⟨_, S3, L, r4, s'.up l4, noX_post (w' := ⟨rho, F, w1.G⟩) (fun y S5 e5 w5 H5 l5 r5 v5 rv5 => ?_) fun hb => ?_⟩
          · rw [e5, Out.bind_ok] at p2
            obtain ⟨rho5, F5, G5⟩ := w5
            have hG5 : G5 = upd w1.G D (.lst xs) := l5.G
            subst hG5
            have lp5 : Wd.le ⟨rho, F, w1.G⟩ ⟨rho5, F5, w1.G⟩ := lp4.trans ⟨⟨l5.rho, l5.F⟩, rfl⟩
            have hz : acc.length < sizeLine := by
              by_cases hz : acc.length < sizeLine
              · exact hz
              · rw [chk_neg hz] at p2; exact p2.elim
            rw [chk_pos hz] at p2
            refine ⟨xs, r5.G D _ upd_same, by rw [rl.length]; exact hz, hlt, rho5, F5, S5, xs ++ [v5], acc ++ [y], l2.trans lp5, R.ghostW (fun _ _ z => by cases z) r5, (rl.up lp5).append (.one (Rel.mono (w := ⟨rho5, F5, upd w1.G D (.lst xs)⟩) (w' := ⟨rho5, F5, w1.G⟩) ⟨⟨[], by simp⟩, Same.refl _⟩ _ _ rv5)), p2.up lp5⟩
          · rw [hb] at p2; exact p2.elim
        | false =>
          rw [if_neg Bool.false_ne_true] at p2 ⊢
          exact ⟨hlt, rho4, F4, S3, xs, acc, l2.trans lp4, r4, rl.up lp4, p2.up lp4⟩
      · rw [hb] at p2; exact p2.elim
  · have e : i = s.items.length := by omega
    subst e
    rw [List.drop_length] at p2
    have st : s.stay S2 := by
      by_cases hs : s.stay S2
      · exact hs
      · exact (show Post K W ⟨rho, F, w1.G⟩ ((chkP (s.stay S2) _).bind _) _ from p2) |> fun z => by rw [chkP_neg hs] at z; exact z.elim
    have p2 : Post K W ⟨rho, F, w1.G⟩ (mkL cell acc S2) (fun w' H' _ iv => ∀ v, Rel K w' v iv → Q v H') := by
      have z := (show Post K W ⟨rho, F, w1.G⟩ ((chkP (s.stay S2) _).bind _) _ from p2)
      rw [chkP_pos st] at z
      exact z
    refine .inl ⟨hJ.stop _ S2 H2 _ l2z r2 st (Nat.le_refl _), ?_⟩
    have hF : F D = none := r2.dis D _ upd_same
    cases cell with
    | true =>
      obtain ⟨h1, q⟩ := chk_post (show Post K W ⟨rho, F, w1.G⟩ (mkC acc S2) _ from p2)
      have r5 := R.ghostC (c := .lst acc) (fun _ _ z => by cases z) r2 hG fun w' l' => ⟨xs, r2.G D _ upd_same, RelL.mono (w := ⟨rho, F, w1.G⟩) ⟨l'.rho, l'.F⟩ _ _ rl⟩
      refine q ⟨rho ++ [D], F, w1.G⟩ H2 ⟨⟨⟨[D], rfl⟩, Same.refl _⟩, rfl⟩ r5 _ (.adr ?_)
      show (rho ++ [D])[S2.length]? = some D
      have hlen : rho.length = S2.length := r2.len
      rw [← hlen, List.getElem?_append_right (Nat.le_refl _), Nat.sub_self]
      rfl
    | false =>
      obtain ⟨h1, q⟩ := chk_post (show Post K W ⟨rho, F, w1.G⟩ (mkF acc S2) _ from p2)
      have lf : Wd.le ⟨rho, F, w1.G⟩ ⟨rho, upd F D (.lst xs), w1.G⟩ := ⟨⟨⟨[], by simp⟩, fun b u e => by
        show upd F D (.lst xs) b = some u
        rw [upd_ne (ne_of_none e hF)]; exact e⟩, rfl⟩
      exact q ⟨rho, upd F D (.lst xs), w1.G⟩ H2 lf (R.ghostF (fun _ _ z => by cases z) r2 hG) _ (.lst upd_same (rl.up lf))
section
variable {X : Cx} {W : WZ} {pos spos : Pos} {elt tg iter : Expr} {ifs : List Expr} {scope : Scope} {own : List (Str × Nat)} {ms : IW} {g : TG} {gi : IV → Slots → Option Slots} {tt : IT} {te : IE}
theorem dts_nil : DTs X W [] iYes := pts_nil.imp fun σ H Q ⟨w, S, Λ, r0, s0, p⟩ => p.now r0
theorem dts_one {c : Expr} {t : IT} (h : DT X W c t) : DTs X W [c] t := pts_one h
theorem de_lc (cell : Bool) (hc : X.calm = true) (hN : X.N.Nodup) (hi : DI X W tg iter ms) (ok : BlkOk X.N X.env.scope scope own)
    (hg : ∀ (s : Shared) (H : Hp) (C : Addr) (cl : List (Str × Addr)) (fp : List Addr), PG (X.blk s H scope (compEnvC scope cl C X.env) fp) tg g) (hgc : GC (kx X W) (own.map (·.2)) g gi) (ht : ∀ (s : Shared) (H : Hp) (C : Addr) (cl : List (Str × Addr)) (fp : List Addr), DTs (X.blk s H scope (compEnvC scope cl C X.env) fp) ⟨W0, W.ex⟩ ifs tt)
    (he : ∀ (s : Shared) (H : Hp) (C : Addr) (cl : List (Str × Addr)) (fp : List Addr), DE (X.blk s H scope (compEnvC scope cl C X.env) fp) ⟨W0, W.ex⟩ elt te) (hs : ∀ x, foldedSetIterable iter X.env x = pure x := by intro _; rfl) (hx : W.ex = none := by rfl) :
    DE X W (.ListComp elt [⟨tg, iter, ifs, 0⟩] scope pos) (iLc cell ms gi tt te (own.map (·.2))) :=
  (pe_lc hc hN hi ok hg ht he hs).imp fun σ H Q h => lc_M hgc hx h
theorem ds_setLc (cell : Bool) (i : Nat) {y : Str} {py : Pos} (hc : X.calm = true) (hN : X.N.Nodup) (hi : DI X W tg iter ms) (ok : BlkOk X.N X.env.scope scope own)
    (hg : ∀ (s : Shared) (H : Hp) (C : Addr) (cl : List (Str × Addr)) (fp : List Addr), PG (X.blk s H scope (compEnvC scope cl C X.env) fp) tg g) (hgc : GC (kx X W) (own.map (·.2)) g gi) (ht : ∀ (s : Shared) (H : Hp) (C : Addr) (cl : List (Str × Addr)) (fp : List Addr), DTs (X.blk s H scope (compEnvC scope cl C X.env) fp) ⟨W0, W.ex⟩ ifs tt)
    (he : ∀ (s : Shared) (H : Hp) (C : Addr) (cl : List (Str × Addr)) (fp : List Addr), DE (X.blk s H scope (compEnvC scope cl C X.env) fp) ⟨W0, W.ex⟩ elt te)
    (hy : X.N[i]? = some y := by rfl) (hyl : X.env.scope.names.lookup y = some .local := by rfl)
    (hsw : swapsWith (.ListComp elt [⟨tg, iter, ifs, 0⟩] scope pos) (some (.Name y py)) spos.line X.env = pure true := by exact sw_true rfl rfl rfl (by decide +kernel)) (hs : ∀ x, foldedSetIterable iter X.env x = pure x := by intro _; rfl) (hx : W.ex = none := by rfl) :
    DS X W (.Assign [.Name y py] (.ListComp elt [⟨tg, iter, ifs, 0⟩] scope pos) spos) (iSet i (iLc cell ms gi tt te (own.map (·.2)))) :=
  (ps_setLc hc hN hy hyl hsw hi ok hg ht he hs).imp fun D σ H ⟨w, S, Λ, r0, s0, p⟩ => lc_M (cell := cell) hgc hx ⟨w, S, Λ, r0, s0, p.bind.imp fun w1 H1 S1 ix l1 r1 p1 v1 rv1 => p1.now r1 _ ((s0.up l1).set i rv1)⟩
end

/-! ### a def -/
section
variable {P : Program} {w : World} {K : PySem.W.Frag} {mg : Str → Option Value} {base : Heap}
/-- what a def's body is shown in -/
abbrev DX (P : Program) (w : World) (K : PySem.W.Frag) (mg : Str → Option Value) (base : Heap) (N : List Str) (qual : Str) (sc : Scope) (f : Addr) (cdv : Value) (A : Around) (outer : List Env) (s : Shared) (H : Hp) (E : XK) : Cx :=
  cxOf (L2.CX P w) P w K mg base N qual sc f cdv A outer s H E
abbrev WEx (E : XK) : WX := fun c d _ H => E c d H
theorem start_sr {K : KX} {w : Wd} {N : List Str} {vs : List V} {ivs : List IV} (r : RelL K w vs ivs) (hx : K.ex = none) : SR K w (L2.start N vs) (ivs.map some ++ List.replicate (N.length - ivs.length) none) := by
  unfold L2.start
  rw [r.length]
  refine ⟨by simp [r.length], fun i iv e => ?_, fun i n a d e _ => by rw [hx] at e; cases e⟩
  by_cases hi : i < ivs.length
  · rw [List.getElem?_append_left (by simpa using hi), List.getElem?_map] at e
    obtain ⟨jv, e1, e2⟩ := Option.map_eq_some_iff.mp e
    cases e2
    obtain ⟨v, h1, h2⟩ := r.get e1
    exact ⟨v, by rw [List.getElem?_append_left (by rw [List.length_map, r.length]; exact hi), List.getElem?_map, h1]; rfl, h2⟩
  · rw [List.getElem?_append_right (by simpa using Nat.le_of_not_lt hi)] at e
    obtain ⟨h1, h2⟩ := List.getElem?_eq_some_iff.mp e
    rw [List.getElem_replicate] at h2
    cases h2
theorem ok_def {x qual : Str} {st : Stmt} {f : Addr} {fd : FuncData} {N ps : List Str} {k : Nat} {body : IS} (F : Fun K x qual st f fd) (Sc : FnScope N ps (defScope st))
    (hb : ∀ (cdv : Value) (A : Around) (outer : List Env) (s : Shared) (H : Hp) (E : XK), RmG k (A.deeper (envOfC qual (defScope st) s.heap.objs.size f cdv)) →
      Takes (DX P w K mg base N qual (defScope st) f cdv A outer s H E) (WEx E) → PassesOwn (model P w) (DX P w K mg base N qual (defScope st) f cdv A outer s H E).A (DX P w K mg base N qual (defScope st) f cdv A outer s H E).env (DX P w K mg base N qual (defScope st) f cdv A outer s H E).xe →
      DSs (DX P w K mg base N qual (defScope st) f cdv A outer s H E) ⟨WEx E, none⟩ (defBody st) body) : FnG P w K mg base (L2.CX P w) (k + 1) f fd ps (spM K mg ps.length (mDef N.length body)) := by
  refine okG F Sc (fun vs H Q E h => h.1) fun cdv A outer s H vs Q E hr h => ?_
  obtain ⟨hl, w0, S, ivs, r0, rl, p⟩ := h
  refine ⟨_, hb cdv A outer s H E hr (takes_of rfl rfl rfl rfl) (passes_of rfl), w0, S, _, r0, start_sr rl rfl, ?_⟩
  unfold mDef at p
  cases e : body (ivs.map some ++ List.replicate (N.length - ivs.length) none) S with
  | ok fl S' =>
    simp only [e] at p
    intro w' H' l r
    cases fl with
    | nx L => exact fun σ' s' => p w' H' l r _ .non
    | rt iv => exact p w' H' l r
    | bk L => exact p.elim
    | ct L => exact p.elim
  | exc C n L S' =>
    simp only [e] at p
    exact fun w' H' a σ' l r s' ea => p w' H' a [] l r sr_nil ea
  | bad =>
    simp only [e] at p
    exact p
/-- the same result told otherwise -/
theorem ok_eq {f : Addr} {fd : FuncData} {ps : List Str} {k np : Nat} {m m' : List IV → Sto → Out IV} (F : FnG P w K mg base (L2.CX P w) k f fd ps (spM K mg np m)) (h : ∀ xs S, xs.length = np → m' xs S ≠ .bad → m xs S = m' xs S) : FnG P w K mg base (L2.CX P w) k f fd ps (spM K mg np m') :=
  F.imp fun vs H Q E ⟨h1, w0, S, ivs, r0, rl, p⟩ => ⟨h1, w0, S, ivs, r0, rl, by
    rw [h ivs S (rl.length.symm.trans h1) fun z => by rw [z] at p; exact p.elim]
    exact p⟩
end
end Sm

namespace Sm
open PySem PySem.Spec PyProof.Rows L2

section
variable {X : Cx} {W : WZ} {p pos : Pos} {e : Expr} {es : List Expr} {ma : IA} {x : Str} {id T : String} {r : List V → Hp → VK → Prop} {f : List IV → Sto → Out IV}
theorem de_cb (hc : CallR X (.builtin id) r) (hs : CaS (kx X W) W.x r f) (hm : X.mg x = none) (hv : bootBuiltins x = some (.builtin id)) (ha : DA X W (e :: es) ma) (hg : Gl X x := by rfl) (hn : x ≠ "__name__" := by decide) (hdb : (x == ("__debug__" : Str)) = false := by decide)
    (he : starEach (e :: es) X.env = (false, eval e X.env) :: starEach es X.env := by rfl) (hpl : (backTo pos (starEach es X.env)).any (·.1) = false := by rfl) : DE X W (.Call (.Name x p) (e :: es) [] pos) (iCa f ma) :=
  (pe_callB hc hg hm hv ha hn hdb he hpl).imp fun σ H Q h => eM_ca hs h
theorem de_ct (hc : CallR X (.type T) r) (hs : CaS (kx X W) W.x r f) (hm : X.mg x = none) (hv : bootBuiltins x = some (.type T)) (ha : DA X W (e :: es) ma) (hg : Gl X x := by rfl) (hn : x ≠ "__name__" := by decide) (hdb : (x == ("__debug__" : Str)) = false := by decide)
    (he : starEach (e :: es) X.env = (false, eval e X.env) :: starEach es X.env := by rfl) (hpl : (backTo pos (starEach es X.env)).any (·.1) = false := by rfl) : DE X W (.Call (.Name x p) (e :: es) [] pos) (iCa f ma) :=
  (pe_callTy hc hg hm hv ha hn hdb he hpl).imp fun σ H Q h => eM_ca hs h
end

section
variable {K : KX} {W : WX} {w : Wd} {α : Type} {P : Wd → Hp → Sto → α → Prop}
/-- one argument, two arguments -/
def a1 {α : Type} (xs : List IV) (k : IV → Out α) : Out α := match xs with
  | [x] => k x
  | _ => .bad
def a2 {α : Type} (xs : List IV) (k : IV → IV → Out α) : Out α := match xs with
  | [x, y] => k x y
  | _ => .bad
theorem a1_post {xs : List IV} {vs : List V} {k : IV → Out α} (h : Post K W w (a1 xs k) P) (r : RelL K w vs xs) : ∃ v x, vs = [v] ∧ xs = [x] ∧ Rel K w v x ∧ Post K W w (k x) P := by
  unfold a1 at h
  split at h
  · cases r with
    | cons a b => cases b; exact ⟨_, _, rfl, rfl, a, h⟩
  · exact h.elim
theorem a2_post {xs : List IV} {vs : List V} {k : IV → IV → Out α} (h : Post K W w (a2 xs k) P) (r : RelL K w vs xs) : ∃ v x u y, vs = [v, u] ∧ xs = [x, y] ∧ Rel K w v x ∧ Rel K w u y ∧ Post K W w (k x y) P := by
  unfold a2 at h
  split at h
  · cases r with
    | cons a b =>
      cases b with
      | cons b c => cases c; exact ⟨_, _, _, _, rfl, rfl, a, b, h⟩
  · exact h.elim
end

/-! ### len, abs, int, max, min, list -/
def lenN (S : Sto) (x : IV) : Option Nat := match x with
  | .str s => if s.length ≤ sizeLine then some s.length else none
  | x => (seqOf S x).map List.length
theorem lenN_rel {K : KX} {w : Wd} {S : Sto} {H : Hp} {v : V} {x : IV} {n : Nat} (r : R K w S H) (rx : Rel K w v x) (e : lenN S x = some n) : LenV K.k v H n := by
  unfold lenN at e
  split at e
  · cases rx
    split at e
    · cases e; exact ⟨by assumption, rfl⟩
    · cases e
  · obtain ⟨ys, h1, h2⟩ := Option.map_eq_some_iff.mp e
    obtain ⟨a, xs, rfl, h3, h4⟩ := seqOf_sq h1 r rx
    rcases h3 with h3 | h3
    · exact .inl ⟨xs, h3, by rw [h4.length, h2]⟩
    · exact .inr ⟨xs, h3, by rw [h4.length, h2]⟩
def fLen (xs : List IV) (S : Sto) : Out IV := a1 xs fun x => orBad (lenN S x) fun n => .ok (.int n) S
theorem cs_len {K : KX} {W : WX} : CaS K W (fun xs H Q => ∃ x n, xs = [x] ∧ LenV K.k x H n ∧ Q (.int n) H) fLen := fun w S H xs ix Q r rx p => by
  obtain ⟨v, x, rfl, rfl, rv, p⟩ := a1_post p rx
  obtain ⟨n, e, p⟩ := orBad_post p
  exact ⟨v, n, rfl, lenN_rel r rv e, p.now r _ (.int _)⟩
def fAbs (xs : List IV) (S : Sto) : Out IV := a1 xs fun x => asI x fun i => .ok (.int (if i < 0 then -i else i)) S
theorem cs_abs {K : KX} {W : WX} : CaS K W (fun xs H Q => ∃ i, xs = [.int i] ∧ Q (.int (if i < 0 then -i else i)) H) fAbs := fun w S H xs ix Q r rx p => by
  obtain ⟨v, x, rfl, rfl, rv, p⟩ := a1_post p rx
  obtain ⟨i, rfl, rfl, p⟩ := asI_post p rv
  exact ⟨i, rfl, p.now r _ (.int _)⟩
def fInt (xs : List IV) (S : Sto) : Out IV := a1 xs fun x => match x with
  | .int i => .ok (.int i) S
  | .bl k => .ok (.int (if k then 1 else 0)) S
  | _ => .bad
theorem cs_int {K : KX} {W : WX} : CaS K W (fun xs H Q => (∃ i, xs = [.int i] ∧ Q (.int i) H) ∨ ∃ k, xs = [.bl k] ∧ Q (.int (if k then 1 else 0)) H) fInt := fun w S H xs ix Q r rx p => by
  obtain ⟨v, x, rfl, rfl, rv, p⟩ := a1_post p rx
  cases rv with
  | int i => exact .inl ⟨i, rfl, (show Post K W w (Out.ok (IV.int i) S) _ from p).now r _ (Rel.int _)⟩
  | bl k => exact .inr ⟨k, rfl, (show Post K W w (Out.ok (IV.int (if k then 1 else 0)) S) _ from p).now r _ (Rel.int _)⟩
  | _ => exact p.elim
def fMax2 (xs : List IV) (S : Sto) : Out IV := a2 xs fun x y => asI x fun i => asI y fun j => .ok (.int (if j > i then j else i)) S
def fMin2 (xs : List IV) (S : Sto) : Out IV := a2 xs fun x y => asI x fun i => asI y fun j => .ok (.int (if j < i then j else i)) S
theorem cs_max2 {K : KX} {W : WX} : CaS K W (fun xs H Q => ∃ i j, xs = [.int i, .int j] ∧ Q (.int (if j > i then j else i)) H) fMax2 := fun w S H xs ix Q r rx p => by
  obtain ⟨v, x, u, y, rfl, rfl, rv, ru, p⟩ := a2_post p rx
  obtain ⟨i, rfl, rfl, p⟩ := asI_post p rv
  obtain ⟨j, rfl, rfl, p⟩ := asI_post p ru
  exact ⟨i, j, rfl, p.now r _ (.int _)⟩
theorem cs_min2 {K : KX} {W : WX} : CaS K W (fun xs H Q => ∃ i j, xs = [.int i, .int j] ∧ Q (.int (if j < i then j else i)) H) fMin2 := fun w S H xs ix Q r rx p => by
  obtain ⟨v, x, u, y, rfl, rfl, rv, ru, p⟩ := a2_post p rx
  obtain ⟨i, rfl, rfl, p⟩ := asI_post p rv
  obtain ⟨j, rfl, rfl, p⟩ := asI_post p ru
  exact ⟨i, j, rfl, p.now r _ (.int _)⟩
def fList (cell : Bool) (xs : List IV) (S : Sto) : Out IV := a1 xs fun x => orBad (seqOf S x) fun ys => mkL cell ys S
theorem cs_list {K : KX} {W : WX} (cell : Bool) : CaS K W (fun xs H Q => ∃ p ys, xs = [.ref p] ∧ (SqL K.k H p ys ∨ SqT K.k H p ys) ∧ ∀ l, H l = none → Q (.ref l) (upd H l (.lst ys))) (fList cell) := fun w S H xs ix Q r rx p => by
  obtain ⟨v, x, rfl, rfl, rv, p⟩ := a1_post p rx
  obtain ⟨ys, e, p⟩ := orBad_post p
  obtain ⟨a, vs, rfl, h1, h2⟩ := seqOf_sq e r rv
  exact ⟨a, vs, rfl, h1, (mkL_post p r h2).2⟩

/-! ### isinstance of built-in classes -/
def tyN (S : Sto) (x : IV) : Option String := match x with
  | .non => some "NoneType"
  | .bl _ => some "bool"
  | .int _ => some "int"
  | .str _ => some "str"
  | .lst _ => some "list"
  | .tup _ => some "tuple"
  | .adr n => match S[n]? with
    | some (.lst _) => some "list"
    | some (.dic _) => some "dict"
    | _ => none
  | _ => none
theorem tyN_rel {K : KX} {w : Wd} {S : Sto} {H : Hp} {v : V} {x : IV} {t : String} (r : R K w S H) (rx : Rel K w v x) (e : tyN S x = some t) : TyX K.k H v (.type t) := by
  cases x with
  | non => cases rx; cases e; exact .base .non
  | bl b => cases rx; cases e; exact .base (.bl _)
  | int b => cases rx; cases e; exact .base (.int _)
  | str b => cases rx; cases e; exact .base (.str _)
  | lst ys =>
    cases e
    cases rx with
    | lst h1 h2 => exact .base (.lst (r.F _ _ h1))
  | tup ys =>
    cases e
    cases rx with
    | tup h1 h2 =>
      rcases same_t r.F h1 with (h | ⟨o, h⟩) | ⟨o, its, n, h, hc, _⟩
      · exact .base (.tup h)
      · exact .fTuple h
      · exact .kTuple h hc
  | adr n =>
    cases rx with
    | adr hrho =>
      unfold tyN at e
      cases q : S[n]? with
      | none => simp only [q] at e; cases e
      | some c =>
        simp only [q] at e
        cases c with
        | lst ys =>
          cases e
          obtain ⟨xs, h2, h3⟩ := r.cell n _ _ q hrho
          exact .base (.lst h2)
        | dic ys =>
          cases e
          obtain ⟨xs, h2, h3⟩ := r.cell n _ _ q hrho
          exact .base (.dK h2)
        | _ => cases e
  | _ => cases e
/-- the types that come up here -/
def kitN (t n : String) : Option Bool := kitB t n
def fIsi (xs : List IV) (S : Sto) : Out IV := a2 xs fun x c => match c with
  | .ty n => orBad (tyN S x) fun t => orBad (kitN t n) fun b => .ok (.bl b) S
  | _ => .bad
theorem cs_isi {K : KX} {W : WX} : CaS K W (rIsi K.k) fIsi := fun w S H xs ix Q r rx p => by
  obtain ⟨v, x, u, y, rfl, rfl, rv, ru, p⟩ := a2_post p rx
  cases ru with
  | ty n =>
    obtain ⟨t, e1, p⟩ := orBad_post p
    obtain ⟨b, e2, p⟩ := orBad_post p
    exact ⟨v, _, _, _, b, rfl, .ty n, tyN_rel r rv e1, kit_ty e2, p.now r _ (.bl _)⟩
  | _ => exact p.elim
theorem de_ty {X : Cx} {W : WZ} {x : Str} {pos : Pos} {T : String} (hm : X.mg x = none) (hv : bootBuiltins x = some (.type T)) (hg : Gl X x := by rfl) (hn : x ≠ "__name__" := by decide) (hd : (x == ("__debug__" : Str)) = false := by decide) : DE X W (.Name x pos) (iC (.ty T)) :=
  de_c (pe_bltn hg hm hv (v := .ty T) rfl hn hd) fun _ => .ty T
/-- a module's text -/
theorem de_gstr {X : Cx} {W : WZ} {x z : Str} {pos : Pos} {t : Tok} (hm : X.mg x = some (.str z t)) (hg : Gl X x := by rfl) (hd : (x == ("__debug__" : Str)) = false := by decide) : DE X W (.Name x pos) (iC (.str z)) :=
  de_c (pe_glob hg hm (v := .str z) ⟨t, rfl⟩ hd) fun _ => .str z
/-- a module's tuple of texts -/
theorem de_gtup {X : Cx} {W : WZ} {x : Str} {pos : Pos} {a : Addr} {o : Obj} {its : Array Value} {n : Nat} {zs : List Str} (hm : X.mg x = some (.ref a)) (hk : X.K.lookup a = some o) (hc : o.cls = .type "tuple") (hd' : o.data = .seq its n) (hz : its.size ≤ sizeLine) (hv : Vals (zs.map V.str) its.toList) (hg : Gl X x := by rfl) (hd : (x == ("__debug__" : Str)) = false := by decide) :
    DE X W (.Name x pos) (iC (.tup (zs.map IV.str))) :=
  de_c (pe_glob hg hm (v := .ref a) rfl hd) fun w => .tup (.inr ⟨o, its, n, hk, hc, hd', hz, hv⟩) (by
    clear hv
    induction zs with
    | nil => exact .nil
    | cons z zs ih => exact .cons (.str z) ih)

/-! ### methods of built-in types -/
def hasTy (T : String) (S : Sto) (x : IV) : Bool := match x with
  | .str _ => T == "str"
  | x => T == "list" && (lstOf S x).isSome
theorem hasTy_rel {K : KX} {w : Wd} {S : Sto} {H : Hp} {v : V} {x : IV} {T : String} (r : R K w S H) (rx : Rel K w v x) (e : hasTy T S x = true) : tyV K.k T v H := by
  unfold hasTy at e
  split at e
  · cases rx
    exact beq_iff_eq.mp e
  · obtain ⟨e1, e2⟩ := Bool.and_eq_true_iff.mp e
    obtain ⟨ys, h⟩ := Option.isSome_iff_exists.mp e2
    obtain ⟨a, xs, rfl, h3, h4⟩ := lstOf_sq h r rx
    exact .inl ⟨beq_iff_eq.mp e1, xs, h3⟩
def iBM (T : String) (f : IV → List IV → Sto → Out IV) (mo : IE) (ma : IA) : IE := fun Λ S => (mo Λ S).bind fun o S1 => chk (hasTy T S1 o = true) ((ma Λ S1).bind fun xs S2 => f o xs S2)
section
variable {X : Cx} {W : WZ} {pos apos : Pos} {o e : Expr} {es : List Expr} {mo : IE} {ma : IA} {T id : String} {name : Str} {r : V → List V → Hp → VK → Prop} {f : IV → List IV → Sto → Out IV}
theorem de_bm (pa : PlainAttrs T) (slot : Slot T name id) (hty : typeOf (.builtin id) = pure (.type "method_descriptor")) (hm : MtR X id r) (hs : MtS (kx X W) W.x r f) (ho : DE X W o mo) (ha : DA X W (e :: es) ma)
    (hbase : attributeBase o name X.env (eval o X.env) = eval o X.env := by rfl)
    (hfew : ((backTo pos (starEach (e :: es) X.env)).all (fun x => !x.1) && (backToKw pos (keywordEach [] X.env)).all (fun x => x.1.isSome)
      && decide ((e :: es).length + ([] : List Keyword).length + (if ([] : List Keyword).isEmpty then 0 else 1) < 30)) = true := by rfl)
    (hline : (apos.endLine == pos.line) = true := by rfl) (hst : starEach (e :: es) X.env = (false, eval e X.env) :: starEach es X.env := by rfl) (hplain : (backTo pos (starEach es X.env)).any (·.1) = false := by rfl) :
    DE X W (.Call (.Attribute o name apos) (e :: es) [] pos) (iBM T f mo ma) :=
  (pe_bm pa slot hty hm ho ha hbase hfew hline hst hplain).imp fun σ H Q ⟨w, S, Λ, r0, s0, p⟩ => ⟨w, S, Λ, r0, s0, p.bind.imp fun w1 H1 S1 ix l1 r1 p1 v1 rv1 => by
    obtain ⟨h1, p1⟩ := chk_post p1
    exact ⟨hasTy_rel r1 rv1 h1, w1, S1, Λ, r1, s0.up l1, p1.bind.imp fun w2 H2 S2 xs l2 r2 p2 vs rvs => hs w2 S2 H2 _ _ _ _ _ r2 (rv1.up l2) rvs p2⟩⟩
theorem de_bm0 (pa : PlainAttrs T) (slot : Slot T name id) (hty : typeOf (.builtin id) = pure (.type "method_descriptor")) (hm : MtR X id r) (hs : MtS (kx X W) W.x r f) (ho : DE X W o mo)
    (hbase : attributeBase o name X.env (eval o X.env) = eval o X.env := by rfl) (hline : (apos.endLine == pos.line) = true := by rfl) : DE X W (.Call (.Attribute o name apos) [] [] pos) (iBM T f mo iNil) :=
  (pe_bm0 pa slot hty hm ho hbase hline).imp fun σ H Q ⟨w, S, Λ, r0, s0, p⟩ => ⟨w, S, Λ, r0, s0, p.bind.imp fun w1 H1 S1 ix l1 r1 p1 v1 rv1 => by
    obtain ⟨h1, p1⟩ := chk_post p1
    exact ⟨hasTy_rel r1 rv1 h1, hs w1 S1 H1 _ _ _ _ _ r1 rv1 .nil p1⟩⟩
end
/-- a list in the store, to be changed -/
def onL {α : Type} (S : Sto) (x : IV) (k : Nat → List IV → Out α) : Out α := match x with
  | .adr n => (match S[n]? with
    | some (.lst xs) => k n xs
    | _ => .bad)
  | _ => .bad
theorem onL_post {α : Type} {K : KX} {W : WX} {w : Wd} {S : Sto} {H : Hp} {v : V} {x : IV} {k : Nat → List IV → Out α} {P : Wd → Hp → Sto → α → Prop} (h : Post K W w (onL S x k) P) (r : R K w S H) (rx : Rel K w v x) :
    ∃ n xs a vs, S[n]? = some (.lst xs) ∧ w.rho[n]? = some a ∧ v = .ref a ∧ H a = some (.lst vs) ∧ RelL K w vs xs ∧ Post K W w (k n xs) P := by
  unfold onL at h
  split at h
  · cases rx with
    | adr hrho =>
      split at h
      · rename_i q
        obtain ⟨vs, h2, h3⟩ := r.cell _ _ _ q hrho
        exact ⟨_, _, _, vs, q, hrho, rfl, h2, h3, h⟩
      · exact h.elim
  · exact h.elim
def fApp (o : IV) (xs : List IV) (S : Sto) : Out IV := a1 xs fun y => onL S o fun n ys => chk (ys.length < sizeLine) (.ok .non (S.set n (.lst (ys ++ [y]))))
theorem ms_app {K : KX} {W : WX} : MtS K W rAppend fApp := fun w S H x xs io ix Q r ro rx p => by
  obtain ⟨v, y, rfl, rfl, rv, p⟩ := a1_post p rx
  obtain ⟨n, ys, a, vs, h1, h2, rfl, h3, h4, p⟩ := onL_post p r ro
  obtain ⟨c, p⟩ := chk_post p
  exact ⟨a, vs, v, rfl, rfl, h3, by rw [h4.length]; exact c, p.now (r.write h2 ⟨_, upd_same, h4.append (.one rv)⟩ (fun _ e => by rw [h1] at e; cases e)) _ .non⟩
/-- xs.extend(ys) -/
def fExt (o : IV) (xs : List IV) (S : Sto) : Out IV := a1 xs fun y => onL S o fun n ys => orBad (lstX S y) fun zs => chk (ys.length + zs.length ≤ sizeLine) (.ok .non (S.set n (.lst (ys ++ zs))))
theorem ms_ext {K : KX} {W : WX} : MtS K W rExtend fExt := fun w S H x xs io ix Q r ro rx p => by
  obtain ⟨v, y, rfl, rfl, rv, p⟩ := a1_post p rx
  obtain ⟨n, ys, a, vs, h1, h2, rfl, h3, h4, p⟩ := onL_post p r ro
  obtain ⟨zs, e, p⟩ := orBad_post p
  obtain ⟨b, us, rfl, h5, h6⟩ := lstX_sq e r rv
  obtain ⟨c, p⟩ := chk_post p
  exact ⟨a, b, vs, us, rfl, rfl, h3, h5, by rw [h4.length, h6.length]; exact c, p.now (r.write h2 ⟨_, upd_same, h4.append h6⟩ (fun _ e => by rw [h1] at e; cases e)) _ .non⟩
def strsOf : List IV → Option (List Str)
  | [] => some []
  | .str s :: xs => (strsOf xs).map (s :: ·)
  | _ => none
theorem strsOf_rel {K : KX} {w : Wd} : ∀ {xs : List IV} {vs : List V} {ss : List Str}, strsOf xs = some ss → RelL K w vs xs → vs = ss.map V.str
  | [], _, _, e, r => by cases e; cases r; rfl
  | x :: xs, _, ss, e, r => by
    cases r with
    | cons a b =>
      cases x with
      | str s =>
        obtain ⟨ts, h1, h2⟩ := Option.map_eq_some_iff.mp (show (strsOf xs).map (s :: ·) = some ss from e)
        subst h2
        cases a
        rw [strsOf_rel h1 b]
        rfl
      | _ => cases e
def fJoin (o : IV) (xs : List IV) (S : Sto) : Out IV := asS o fun a => a1 xs fun y => orBad (seqOf S y) fun ys => orBad (strsOf ys) fun zs => chk ((zs.map (·.length)).sum + zs.length * a.length ≤ 16777216) (.ok (.str (PySem.Txt.join a zs)) S)
theorem ms_join {K : KX} {W : WX} : MtS K W (fun x xs H Q => ∃ a p ys, x = V.str a ∧ xs = [V.ref p] ∧ (SqL K.k H p (ys.map V.str) ∨ SqT K.k H p (ys.map V.str)) ∧ (ys.map fun x => x.length).sum + ys.length * a.length ≤ 16777216 ∧ Q (.str (PySem.Txt.join a ys)) H) fJoin := fun w S H x xs io ix Q r ro rx p => by
  obtain ⟨a, rfl, rfl, p⟩ := asS_post p ro
  obtain ⟨v, y, rfl, rfl, rv, p⟩ := a1_post p rx
  obtain ⟨ys, e1, p⟩ := orBad_post p
  obtain ⟨zs, e2, p⟩ := orBad_post p
  obtain ⟨c, p⟩ := chk_post p
  obtain ⟨b, vs, rfl, h1, h2⟩ := seqOf_sq e1 r rv
  have := strsOf_rel e2 h2
  subst this
  exact ⟨a, b, zs, rfl, rfl, h1, c, p.now r _ (.str _)⟩

/-! ### C.m(..), m a static method -/
structure SMet (K : PySem.W.Frag) (C : Addr) (m : Str) (p g : Addr) : Prop where
  ga : PySem.W.specialIn K (.ref C) "__getattribute__" = some (some (.builtin "type.__getattribute__"))
  ty : PySem.W.typeIn K (.ref C) = some (.type "type")
  rd : PySem.W.readsIn K C (.type "type") = true
  at_ : PySem.W.findCls K (.ref C) (.type "type") m = some (.get (.builtin "staticmethod.__get__") (.ref p) .none (.ref C))
  rc : ∃ rest, PySem.W.recIn K p "staticmethod" = some (.ref g :: rest)
section
variable {X : Cx} {W : WX} {pos apos p0 : Pos} {k : Nat} {C p f : Addr} {fd : FuncData} {ps : List Str} {mf : List IV → Sto → Out IV} {x m : Str} {e : Expr} {es : List Expr} {ma : IA} {np : Nat} {pl : Sem Bool}
theorem de_smeth (T : SMet X.K C m p f) (F : FnG X.prog X.w X.K X.mg X.base (L2.CX X.prog X.w) k f fd ps (spM X.K X.mg np mf)) (tk : Takes X W) (hr : RmG k X.A) (hm : X.mg x = some (.ref C)) (hk : PySem.W.keepIn X.K (.ref f) = true) (hb : Binds X.K fd ps [])
    (ha : DA X ⟨W, none⟩ (e :: es) ma) (hg : Gl X x := by rfl) (hdb : (x == ("__debug__" : Str)) = false := by decide)
    (hst : starEach (e :: es) X.env = (false, eval e X.env) :: starEach es X.env := by rfl) (hpl : (backTo pos (starEach es X.env)).any (·.1) = false := by rfl)
    (ht : eval (.Call (.Attribute (.Name x p0) m apos) (e :: es) [] pos) X.env = (do
      let ov ← eval (.Name x p0) X.env
      standAt apos.atName
      let (f, first) ← holding [ov] (getMethod ov m pl)
      callWith pos f first (backTo pos (starEach (e :: es) X.env)) (backToKw pos (keywordEach [] X.env))) := by rfl) :
    DE X ⟨W, none⟩ (.Call (.Attribute (.Name x p0) m apos) (e :: es) [] pos) (iCall np mf ma) := by
  refine ⟨fun pins s σ H Q I h => ?_⟩
  obtain ⟨w, S, Λ, r0, s0, p0⟩ := h
  refine PySem.W.methodCall_KW (pl := pl) (ld_glob I hg hm ?_ hdb) ht
  obtain ⟨m', fr⟩ := I.fr
  obtain ⟨rest, hrc⟩ := T.rc
  refine PySem.W.method_of_cls fr I.ok.mod.kin T.ga (PySem.W.cls_sm fr I.ok.mod.kin T.ty T.rd T.at_ hrc rfl ?_)
  have I1 := I.tok (s.toks + 1)
  have hq := ha.run pos pins _ σ H (fun vs H1 => spM X.K X.mg np mf vs H1 Q (WE W σ)) I1 ⟨w, S, Λ, r0, s0, p0.bind.imp fun w1 H1 S1 xs l1 r1 p1 vs rv => by
    obtain ⟨h1, q⟩ := chk_post p1
    exact ⟨rv.length.trans h1, w1, S1, xs, r1, rv, relab_post q (s0.up l1)⟩⟩
  refine PySem.W.callWith_K (h₀ := X.base) (first := []) I.ok.mod.kin hk (thn hq fun us s1 z => ?_) hst hpl
  obtain ⟨vs, H1, I2, r, q⟩ := z
  exact ⟨I2.kIn, run_fnG F hr hb (passAt tk σ) I2 r q⟩
end
end Sm

namespace Sm
open PySem PySem.Spec PyProof.Rows L2
section
variable {X : Cx} {W : WZ} {pos : Pos} {a b c : Expr} {ma mb mc : IE}
theorem dt_chain {op op' : CmpOp} {r r' : R2} {f g : IV → IV → Sto → Out IV} (ho : OpR X (compareOp op) r) (hs : OpS (kx X W) W.x r f) (ho' : OpR X (compareOp op') r') (hs' : OpS (kx X W) W.x r' g) (ha : DE X W a ma) (hb : DE X W b mb) (hc : DE X W c mc)
    (hm : lastMarks [op, op'] [b, c] = false := by with_unfolding_all rfl) : DT X W (.Compare a [op, op'] [b, c] pos) (iTest (iChain f g ma mb mc)) :=
  (pt_chain ho ho' ha hb hc hm).imp fun σ H Q ⟨w, S, Λ, r0, s0, p⟩ => eM_chain hs hs' ⟨w, S, Λ, r0, s0, p.bind.imp fun w1 H1 S1 ix l1 r1 p1 v1 rv1 => by
    obtain ⟨k, rfl, rfl, q⟩ := asB_post p1 rv1
    exact ⟨k, rfl, q.now r1⟩⟩
theorem de_chain {op op' : CmpOp} {r r' : R2} {f g : IV → IV → Sto → Out IV} (ho : OpR X (compareOp op) r) (hs : OpS (kx X W) W.x r f) (ho' : OpR X (compareOp op') r') (hs' : OpS (kx X W) W.x r' g) (ha : DE X W a ma) (hb : DE X W b mb) (hc : DE X W c mc)
    (hm : lastMarks [op, op'] [b, c] = false := by with_unfolding_all rfl) : DE X W (.Compare a [op, op'] [b, c] pos) (iChain f g ma mb mc) :=
  (pe_chain ho ho' ha hb hc hm).imp fun σ H Q h => eM_chain hs hs' h
end
section
variable {P : Program} {w : World} {K : PySem.W.Frag} {mg : Str → Option Value} {base : Heap}
/-- a def that stands at a global name, and keeps what m tells -/
def Cal (P : Program) (w : World) (K : PySem.W.Frag) (mg : Str → Option Value) (base : Heap) (x : Str) (k : Nat) (ps : List Str) (m : List IV → Sto → Out IV) : Prop :=
  ∃ (f : Addr) (fd : FuncData), mg x = some (.ref f) ∧ PySem.W.keepIn K (.ref f) = true ∧ L2.Binds K fd ps [] ∧ FnG P w K mg base (L2.CX P w) k f fd ps (spM K mg ps.length m)
def Loc (K : PySem.W.Frag) (mg : Str → Option Value) (x : Str) (st : Stmt) (ps : List Str) : Prop := ∃ (f : Addr) (fd : FuncData), mg x = some (.ref f) ∧ Fun K x x st f fd ∧ L2.Binds K fd ps []
theorem cal_def {x : Str} {st : Stmt} {N ps : List Str} {k : Nat} {body : IS} (L : Loc K mg x st ps) (Sc : FnScope N ps (defScope st))
    (hb : ∀ (f : Addr) (cdv : Value) (A : Around) (outer : List Env) (s : Shared) (H : Hp) (E : XK), RmG k (A.deeper (envOfC x (defScope st) s.heap.objs.size f cdv)) →
      Takes (DX P w K mg base N x (defScope st) f cdv A outer s H E) (WEx E) → PassesOwn (model P w) (DX P w K mg base N x (defScope st) f cdv A outer s H E).A (DX P w K mg base N x (defScope st) f cdv A outer s H E).env (DX P w K mg base N x (defScope st) f cdv A outer s H E).xe →
      DSs (DX P w K mg base N x (defScope st) f cdv A outer s H E) ⟨WEx E, none⟩ (defBody st) body) : Cal P w K mg base x (k + 1) ps (mDef N.length body) := by
  obtain ⟨f, fd, h1, h2, h3⟩ := L
  exact ⟨f, fd, h1, h2.kp, h3, ok_def h2 Sc (hb f)⟩
theorem Cal.eq {x : Str} {k : Nat} {ps : List Str} {m m' : List IV → Sto → Out IV} (c : Cal P w K mg base x k ps m) (h : ∀ xs S, xs.length = ps.length → m' xs S ≠ .bad → m xs S = m' xs S) : Cal P w K mg base x k ps m' := by
  obtain ⟨f, fd, h1, h2, h3, h4⟩ := c
  exact ⟨f, fd, h1, h2, h3, ok_eq h4 h⟩
end
section
variable {X : Cx} {W : WX} {pos p : Pos} {k : Nat} {ps : List Str} {mf : List IV → Sto → Out IV} {x : Str} {e : Expr} {es : List Expr} {ma : IA}
theorem de_callC {np : Nat} (c : Cal X.prog X.w X.K X.mg X.base x k ps mf) (tk : Takes X W) (hr : RmG k X.A) (ha : DA X ⟨W, none⟩ (e :: es) ma) (hg : Gl X x := by rfl) (hnp : ps.length = np := by rfl) (hdb : (x == ("__debug__" : Str)) = false := by decide)
    (he : starEach (e :: es) X.env = (false, eval e X.env) :: starEach es X.env := by rfl) (hpl : (backTo pos (starEach es X.env)).any (·.1) = false := by rfl) : DE X ⟨W, none⟩ (.Call (.Name x p) (e :: es) [] pos) (iCall np mf ma) := by
  obtain ⟨f, fd, h1, h2, h3, h4⟩ := c
  rw [← hnp]
  exact de_call h4 tk hr h1 h2 h3 ha hg hdb he hpl
theorem de_callC0 (c : Cal X.prog X.w X.K X.mg X.base x k [] mf) (tk : Takes X W) (hr : RmG k X.A) (hg : Gl X x := by rfl) (hdb : (x == ("__debug__" : Str)) = false := by decide) : DE X ⟨W, none⟩ (.Call (.Name x p) [] [] pos) (iCall0 mf) := by
  obtain ⟨f, fd, h1, h2, h3, h4⟩ := c
  exact de_call0 h4 tk hr h1 h2 h3 hg hdb
theorem takesW0 {X : Cx} : Takes X W0 := fun _ _ x => by
  obtain ⟨_, _, _, _, _, _, _, _, _, _, _, _, _, _, _, _, z⟩ := x
  exact z.elim
/-- a static method's promise -/
def SCal (P : Program) (w : World) (K : PySem.W.Frag) (mg : Str → Option Value) (base : Heap) (x m : Str) (k : Nat) (ps : List Str) (mf : List IV → Sto → Out IV) : Prop :=
  ∃ (C p f : Addr) (fd : FuncData), mg x = some (.ref C) ∧ SMet K C m p f ∧ PySem.W.keepIn K (.ref f) = true ∧ L2.Binds K fd ps [] ∧ FnG P w K mg base (L2.CX P w) k f fd ps (spM K mg ps.length mf)
theorem de_scal {np : Nat} {m : Str} {p0 apos : Pos} {pl : Sem Bool} (c : SCal X.prog X.w X.K X.mg X.base x m k ps mf) (tk : Takes X W) (hr : RmG k X.A) (ha : DA X ⟨W, none⟩ (e :: es) ma) (hg : Gl X x := by rfl) (hnp : ps.length = np := by rfl) (hdb : (x == ("__debug__" : Str)) = false := by decide)
    (hst : starEach (e :: es) X.env = (false, eval e X.env) :: starEach es X.env := by rfl) (hpl : (backTo pos (starEach es X.env)).any (·.1) = false := by rfl)
    (ht : eval (.Call (.Attribute (.Name x p0) m apos) (e :: es) [] pos) X.env = (do
      let ov ← eval (.Name x p0) X.env
      standAt apos.atName
      let (f, first) ← holding [ov] (getMethod ov m pl)
      callWith pos f first (backTo pos (starEach (e :: es) X.env)) (backToKw pos (keywordEach [] X.env))) := by rfl) :
    DE X ⟨W, none⟩ (.Call (.Attribute (.Name x p0) m apos) (e :: es) [] pos) (iCall np mf ma) := by
  obtain ⟨C, q, f, fd, h1, h2, h3, h4, h5⟩ := c
  rw [← hnp]
  exact de_smeth h2 h5 tk hr h1 h3 h4 ha hg hdb hst hpl ht
end
def SLoc (K : PySem.W.Frag) (mg : Str → Option Value) (x m : Str) (qual : Str) (st : Stmt) (ps : List Str) : Prop := ∃ (C p f : Addr) (fd : FuncData), mg x = some (.ref C) ∧ SMet K C m p f ∧ Fun K m qual st f fd ∧ L2.Binds K fd ps []
section
variable {P : Program} {w : World} {K : PySem.W.Frag} {mg : Str → Option Value} {base : Heap}
theorem scal_def {x m qual : Str} {st : Stmt} {N ps : List Str} {k : Nat} {body : IS} (L : SLoc K mg x m qual st ps) (Sc : FnScope N ps (defScope st))
    (hb : ∀ (f : Addr) (cdv : Value) (A : Around) (outer : List Env) (s : Shared) (H : Hp) (E : XK), RmG k (A.deeper (envOfC qual (defScope st) s.heap.objs.size f cdv)) →
      Takes (DX P w K mg base N qual (defScope st) f cdv A outer s H E) (WEx E) → PassesOwn (model P w) (DX P w K mg base N qual (defScope st) f cdv A outer s H E).A (DX P w K mg base N qual (defScope st) f cdv A outer s H E).env (DX P w K mg base N qual (defScope st) f cdv A outer s H E).xe →
      DSs (DX P w K mg base N qual (defScope st) f cdv A outer s H E) ⟨WEx E, none⟩ (defBody st) body) : SCal P w K mg base x m (k + 1) ps (mDef N.length body) := by
  obtain ⟨C, p, f, fd, h1, h2, h3, h4⟩ := L
  exact ⟨C, p, f, fd, h1, h2, h3.kp, h4, ok_def h3 Sc (hb f)⟩
end
/-- a module's tuple of texts -/
def GTup (K : PySem.W.Frag) (mg : Str → Option Value) (x : Str) (zs : List Str) : Prop :=
  ∃ (a : Addr) (o : Obj) (its : Array Value) (n : Nat), mg x = some (.ref a) ∧ K.lookup a = some o ∧ o.cls = .type "tuple" ∧ o.data = .seq its n ∧ its.size ≤ sizeLine ∧ Vals (zs.map V.str) its.toList
theorem de_gtupC {X : Cx} {W : WZ} {x : Str} {pos : Pos} {zs : List Str} (h : GTup X.K X.mg x zs) (hg : Gl X x := by rfl) (hd : (x == ("__debug__" : Str)) = false := by decide) : DE X W (.Name x pos) (iC (.tup (zs.map IV.str))) := by
  obtain ⟨a, o, its, n, h1, h2, h3, h4, h5, h6⟩ := h
  exact de_gtup h1 h2 h3 h4 h5 h6 hg hd
/-! ### a text, sign by sign -/
section
variable {X : Cx} {W : WZ} {tg e : Expr} {m : IE}
theorem di_str (h : DE X W e m) : DI X W tg e (iSrcS m) := (pi_str h).imp fun σ H Q ⟨w, S, Λ, r0, s0, p⟩ => ⟨w, S, Λ, r0, s0, p.bind.imp fun w1 H1 S1 ix l1 r1 p1 v1 rv1 => by
  obtain ⟨z, rfl, rfl, q⟩ := asS_post p1 rv1
  have hz : ∀ i : Nat, z.cps[i]? = z.cps.toList[i]? := fun i => by simp
  refine ⟨z, rfl, q.now r1 _ ⟨fun w' S' H' i l r' st hi => ?_, fun w' S' H' i l r' st hi => ?_, fun w' S' H' i iv x H2 l r' st hi hy => ?_⟩⟩
  · show i < z.cps.size
    simpa using hi
  · show z.cps.size ≤ i
    simpa using hi
  · obtain ⟨f1, c, f2, f3⟩ := hy
    subst f1 f3
    have hi : (z.cps.toList.map fun c => IV.str ⟨#[c]⟩)[i]? = some iv := hi
    rw [List.getElem?_map, ← hz, f2] at hi
    cases hi
    exact ⟨w', Wd.le.refl _, r', .str _⟩⟩
end
end Sm

/-! evaluation -/
namespace Sm
open PySem PySem.Spec PyProof.Rows L2
variable {Λ L : Slots} {S S' : Sto}
@[simp] theorem iVar_s {i : Nat} {x : IV} (h : Λ[i]? = some (some x)) : iVar i Λ S = .ok x S := by unfold iVar; rw [h]
@[simp] theorem iC_e (x : IV) : iC x Λ S = .ok x S := rfl
@[simp] theorem iBin_e (f : IV → IV → Sto → Out IV) (a b : IE) : iBin f a b Λ S = (a Λ S).bind fun x S1 => (b Λ S1).bind fun y S2 => f x y S2 := rfl
@[simp] theorem iUn_e (f : IV → Sto → Out IV) (a : IE) : iUn f a Λ S = (a Λ S).bind fun x S1 => f x S1 := rfl
@[simp] theorem iNil_e : iNil Λ S = .ok [] S := rfl
@[simp] theorem iCons_e (a : IE) (b : IA) : iCons a b Λ S = (a Λ S).bind fun x S1 => (b Λ S1).bind fun xs S2 => .ok (x :: xs) S2 := rfl
@[simp] theorem iCa_e (f : List IV → Sto → Out IV) (a : IA) : iCa f a Λ S = (a Λ S).bind fun x S1 => f x S1 := rfl
@[simp] theorem asI_i {α : Type} (i : Int) (k : Int → Out α) : asI (.int i) k = k i := rfl
@[simp] theorem asS_s {α : Type} (i : Str) (k : Str → Out α) : asS (.str i) k = k i := rfl
@[simp] theorem asB_b {α : Type} (i : Bool) (k : Bool → Out α) : asB (.bl i) k = k i := rfl
@[simp] theorem a1_1 {α : Type} (x : IV) (k : IV → Out α) : a1 [x] k = k x := rfl
@[simp] theorem a2_2 {α : Type} (x y : IV) (k : IV → IV → Out α) : a2 [x, y] k = k x y := rfl
@[simp] theorem iTest_e (m : IE) : iTest m Λ S = (m Λ S).bind fun x S1 => asB x fun b => .ok b S1 := rfl
@[simp] theorem iTru_e (m : IE) : iTru m Λ S = (m Λ S).bind fun x S1 => orBad (truB S1 x) fun b => .ok b S1 := rfl
@[simp] theorem truB_bl (b : Bool) : truB S (.bl b) = some b := rfl
@[simp] theorem truB_non : truB S .non = some false := rfl
@[simp] theorem iAnd_e (c d : IT) : iAnd c d Λ S = (c Λ S).bind fun b S1 => if b = true then d Λ S1 else .ok false S1 := rfl
@[simp] theorem iOr_e (c d : IT) : iOr c d Λ S = (c Λ S).bind fun b S1 => if b = true then .ok true S1 else d Λ S1 := rfl
@[simp] theorem iNot_e (c : IT) : iNot c Λ S = (c Λ S).bind fun b S1 => .ok (!b) S1 := rfl
@[simp] theorem iAndV_e (c d : IE) : iAndV c d Λ S = (c Λ S).bind fun x S1 => asB x fun b => if b = true then d Λ S1 else .ok (.bl false) S1 := rfl
@[simp] theorem iOrV_e (c d : IE) : iOrV c d Λ S = (c Λ S).bind fun x S1 => asB x fun b => if b = true then .ok (.bl true) S1 else d Λ S1 := rfl
@[simp] theorem iNotV_e (c : IE) : iNotV c Λ S = (c Λ S).bind fun x S1 => asB x fun b => .ok (.bl (!b)) S1 := rfl
@[simp] theorem iIf_e {α : Type} (c : IT) (a b : Slots → Sto → Out α) : iIf c a b Λ S = (c Λ S).bind fun k S1 => if k = true then a Λ S1 else b Λ S1 := rfl
@[simp] theorem iChain_e (f g : IV → IV → Sto → Out IV) (a b c : IE) : iChain f g a b c Λ S = (a Λ S).bind fun x S1 => (b Λ S1).bind fun y S2 => (f x y S2).bind fun z S3 => asB z fun k => if k = true then (c Λ S3).bind fun u S4 => g y u S4 else .ok (.bl false) S3 := rfl
@[simp] theorem iSl_e (cell : Bool) (m : IE) (ml mh : IO) : iSl cell m ml mh Λ S = (m Λ S).bind fun x S1 => (ml Λ S1).bind fun lo S2 => (mh Λ S2).bind fun hi S3 => fSl cell x lo hi S3 := rfl
@[simp] theorem iNoPart_e : iNoPart Λ S = .ok none S := rfl
@[simp] theorem iPart_e (m : IE) : iPart m Λ S = (m Λ S).bind fun x S1 => asI x fun i => .ok (some i) S1 := rfl
@[simp] theorem iLst_e (cell : Bool) (m : IA) : iLst cell m Λ S = (m Λ S).bind fun xs S1 => mkL cell xs S1 := rfl
@[simp] theorem iTup_e (m : IA) : iTup m Λ S = (m Λ S).bind fun xs S1 => mkT xs S1 := rfl
@[simp] theorem mkL_t (xs : List IV) : mkL true xs S = chk (xs.length ≤ sizeLine) (.ok (.adr S.length) (S ++ [.lst xs])) := rfl
@[simp] theorem mkL_f (xs : List IV) : mkL false xs S = chk (xs.length ≤ sizeLine) (.ok (.lst xs) S) := rfl
@[simp] theorem mkT_e (xs : List IV) : mkT xs S = chk (xs.length ≤ sizeLine) (.ok (.tup xs) S) := rfl
@[simp] theorem iNext_e : iNext Λ S = .ok (.nx Λ) S := rfl
@[simp] theorem iSeq_e (a b : IS) : iSeq a b Λ S = (a Λ S).bind fun fl S1 => fSeq b fl S1 := rfl
@[simp] theorem fSeq_nx (b : IS) : fSeq b (.nx L) S = b L S := rfl
@[simp] theorem fSeq_rt (b : IS) (v : IV) : fSeq b (.rt v) S = .ok (.rt v) S := rfl
@[simp] theorem fSeq_bk (b : IS) : fSeq b (.bk L) S = .ok (.bk L) S := rfl
@[simp] theorem fSeq_ct (b : IS) : fSeq b (.ct L) S = .ok (.ct L) S := rfl
@[simp] theorem iDrop_e (m : IE) : iDrop m Λ S = (m Λ S).bind fun _ S1 => .ok (.nx Λ) S1 := rfl
@[simp] theorem iRet_e (m : IE) : iRet m Λ S = (m Λ S).bind fun x S1 => .ok (.rt x) S1 := rfl
@[simp] theorem iRetN_e : iRetN Λ S = .ok (.rt .non) S := rfl
@[simp] theorem iBrk_e : iBrk Λ S = .ok (.bk Λ) S := rfl
@[simp] theorem iCnt_e : iCnt Λ S = .ok (.ct Λ) S := rfl
@[simp] theorem iName_e (i : Nat) (x : IV) : iName i x Λ S = .ok (Λ.set i (some x)) S := rfl
@[simp] theorem iAsg_e (m : IE) (g : IG) : iAsg m g Λ S = (m Λ S).bind fun x S1 => (g x Λ S1).bind fun L S2 => .ok (.nx L) S2 := rfl
@[simp] theorem iSet_e (i : Nat) (m : IE) : iSet i m Λ S = (m Λ S).bind fun x S1 => .ok (.nx (Λ.set i (some x))) S1 := rfl
@[simp] theorem iGSub_e (mo mi : IE) (x : IV) : iGSub mo mi x Λ S = (mo Λ S).bind fun o S1 => (mi Λ S1).bind fun i S2 => asI i fun k => onL S2 o fun n xs => orBad (ixN xs.length k) fun j => .ok Λ (S2.set n (.lst (xs.set j x))) := rfl
theorem onL_s {α : Type} {n : Nat} {xs : List IV} {k : Nat → List IV → Out α} (h : S[n]? = some (.lst xs)) : onL S (.adr n) k = k n xs := by unfold onL; simp only [h]
@[simp] theorem iFor_e (ms : IW) (g : IG) (b : IS) : iFor ms g b Λ S = (ms Λ S).bind fun s S1 => iIter s g b s.items Λ S1 := rfl
@[simp] theorem iSrcR1_e (m : IE) : iSrcR1 m Λ S = (m Λ S).bind fun x S1 => asI x fun j => chk (-(2 ^ 62) ≤ j ∧ j < 2 ^ 62) (.ok ⟨rangeI 0 j.toNat, none⟩ S1) := rfl
@[simp] theorem iSrcS_e (m : IE) : iSrcS m Λ S = (m Λ S).bind fun x S1 => asS x fun z => .ok ⟨z.cps.toList.map fun c => .str ⟨#[c]⟩, none⟩ S1 := rfl
@[simp] theorem iSrcL_e (m : IE) : iSrcL m Λ S = (m Λ S).bind fun x S1 => fSrcL x S1 := rfl
@[simp] theorem fSrcL_l (xs : List IV) : fSrcL (.lst xs) S = .ok ⟨xs, none⟩ S := rfl
@[simp] theorem fSrcL_w (xs : List IV) : fSrcL (.wls xs) S = .ok ⟨xs, none⟩ S := rfl
@[simp] theorem iLc_e (cell : Bool) (ms : IW) (gi : IV → Slots → Option Slots) (tt : IT) (te : IE) (vs : List Nat) : iLc cell ms gi tt te vs Λ S = (ms Λ S).bind fun s S1 => (iLcGo s gi tt te s.items (wipeI Λ vs) S1 []).bind fun acc S2 => mkL cell acc S2 := rfl
@[simp] theorem iYes_e : iYes Λ S = .ok true S := rfl
@[simp] theorem giN_e (j : Nat) (x : IV) : giN j x Λ = some (Λ.set j (some x)) := rfl
@[simp] theorem iCall_e (np : Nat) (mf : List IV → Sto → Out IV) (a : IA) : iCall np mf a Λ S = (a Λ S).bind fun xs S1 => chk (xs.length = np) (relab Λ (mf xs S1)) := rfl
@[simp] theorem relab_ok (v : IV) : relab Λ (.ok v S) = .ok v S := rfl
@[simp] theorem relab_bad : relab Λ .bad = .bad := rfl
theorem iCall0_ok {mf : List IV → Sto → Out IV} {v : IV} (h : mf [] S = .ok v S') : iCall0 mf Λ S = .ok v S' := by unfold iCall0; rw [h]
@[simp] theorem iBM_e (T : String) (f : IV → List IV → Sto → Out IV) (mo : IE) (ma : IA) : iBM T f mo ma Λ S = (mo Λ S).bind fun o S1 => chk (hasTy T S1 o = true) ((ma Λ S1).bind fun xs S2 => f o xs S2) := rfl
@[simp] theorem fI_i (C : Int → Int → Prop) [∀ i j, Decidable (C i j)] (g : Int → Int → Int) (i j : Int) : fI C g (.int i) (.int j) S = chk (C i j) (.ok (.int (g i j)) S) := rfl
@[simp] theorem fB_i (g : Int → Int → Bool) (i j : Int) : fB g (.int i) (.int j) S = .ok (.bl (g i j)) S := rfl
@[simp] theorem fAdd_i (i j : Int) : fAdd (.int i) (.int j) S = .ok (.int (i + j)) S := rfl
@[simp] theorem fAdd_s (a b : Str) : fAdd (.str a) (.str b) S = chk (a.length + b.length ≤ sizeLine) (.ok (.str (a ++ b)) S) := rfl
@[simp] theorem fAdd_l (a b : List IV) : fAdd (.lst a) (.lst b) S = mkF (a ++ b) S := rfl
@[simp] theorem mkF_e (a : List IV) : mkF a S = chk (a.length ≤ sizeLine) (.ok (.lst a) S) := rfl
@[simp] theorem fIx_l (xs : List IV) (i : Int) : fIx (.lst xs) (.int i) S = orBad (atI xs i) fun v => .ok v S := rfl
@[simp] theorem fIx_w (xs : List IV) (i : Int) : fIx (.wls xs) (.int i) S = orBad (atI xs i) fun v => .ok v S := rfl
@[simp] theorem fIx_t (xs : List IV) (i : Int) : fIx (.tup xs) (.int i) S = orBad (atI xs i) fun v => .ok v S := rfl
@[simp] theorem fIx_s (z : Str) (i : Int) : fIx (.str z) (.int i) S = chk (z.length ≤ sizeLine) (orBad (atI z.cps.toList i) fun c => .ok (.str ⟨#[c]⟩) S) := rfl
theorem fIx_a {n : Nat} {xs : List IV} {i : Int} (h : S[n]? = some (.lst xs)) : fIx (.adr n) (.int i) S = orBad (atI xs i) fun v => .ok v S := by
  show orBad (lstOf S (.adr n)) _ = _
  unfold lstOf
  simp only [h]
  rfl
@[simp] theorem fInt_i (i : Int) : fInt [.int i] S = .ok (.int i) S := rfl
@[simp] theorem fInt_b (i : Bool) : fInt [.bl i] S = .ok (.int (if i then 1 else 0)) S := rfl
@[simp] theorem fAbs_i (i : Int) : fAbs [.int i] S = .ok (.int (if i < 0 then -i else i)) S := rfl
@[simp] theorem fLen_e (x : IV) : fLen [x] S = orBad (lenN S x) fun n => .ok (.int n) S := rfl
@[simp] theorem lenN_s (s : Str) : lenN S (.str s) = if s.length ≤ sizeLine then some s.length else none := rfl
@[simp] theorem lenN_l (s : List IV) : lenN S (.lst s) = some s.length := rfl
@[simp] theorem lenN_w (s : List IV) : lenN S (.wls s) = some s.length := rfl
@[simp] theorem lenN_t (s : List IV) : lenN S (.tup s) = some s.length := rfl
@[simp] theorem fMax2_i (i j : Int) : fMax2 [.int i, .int j] S = .ok (.int (if j > i then j else i)) S := rfl
@[simp] theorem fMin2_i (i j : Int) : fMin2 [.int i, .int j] S = .ok (.int (if j < i then j else i)) S := rfl
@[simp] theorem fIsi_e (x : IV) (n : String) : fIsi [x, .ty n] S = orBad (tyN S x) fun t => orBad (kitN t n) fun b => .ok (.bl b) S := rfl
@[simp] theorem tyN_non : tyN S .non = some "NoneType" := rfl
@[simp] theorem tyN_bl (b : Bool) : tyN S (.bl b) = some "bool" := rfl
@[simp] theorem tyN_int (b : Int) : tyN S (.int b) = some "int" := rfl
@[simp] theorem tyN_str (b : Str) : tyN S (.str b) = some "str" := rfl
@[simp] theorem tyN_lst (b : List IV) : tyN S (.lst b) = some "list" := rfl
@[simp] theorem tyN_tup (b : List IV) : tyN S (.tup b) = some "tuple" := rfl
@[simp] theorem fIn_e (x y : IV) : fIn x y S = orBad (inB S x y) fun b => .ok (.bl b) S := rfl
@[simp] theorem fNotIn_e (x y : IV) : fNotIn x y S = orBad (inB S x y) fun b => .ok (.bl (!b)) S := rfl
@[simp] theorem fEq_e (x y : IV) : fEq x y S = orBad (eqB S x y) fun b => .ok (.bl b) S := rfl
@[simp] theorem fNe_e (x y : IV) : fNe x y S = orBad (eqB S x y) fun b => .ok (.bl (!b)) S := rfl
@[simp] theorem eqB_i (i j : Int) : eqB S (.int i) (.int j) = some (decide (i = j)) := rfl
@[simp] theorem eqB_s (i j : Str) : eqB S (.str i) (.str j) = some (decide (i = j)) := rfl
@[simp] theorem eqB_b (i j : Bool) : eqB S (.bl i) (.bl j) = some (decide (i = j)) := rfl
@[simp] theorem gIsN_e (x : IV) : gIsN x .non S = .ok (.bl (isN x)) S := rfl
@[simp] theorem gNotN_e (x : IV) : gNotN x .non S = .ok (.bl (!isN x)) S := rfl
@[simp] theorem fSl_s (cell : Bool) (z : Str) (lo hi : Option Int) : fSl cell (.str z) lo hi S = chk (z.length ≤ sizeLine) (.ok (.str (cutS z lo hi)) S) := rfl
@[simp] theorem fSl_l (cell : Bool) (z : List IV) (lo hi : Option Int) : fSl cell (.lst z) lo hi S = mkL cell (cutI z lo hi) S := rfl
theorem mDef_e (n : Nat) (b : IS) (xs : List IV) : mDef n b xs S = match b (xs.map some ++ List.replicate (n - xs.length) none) S with
  | .ok (.rt iv) S' => .ok iv S'
  | .ok (.nx _) S' => .ok .non S'
  | .ok _ _ => .bad
  | .exc C k _ S' => .exc C k [] S'
  | .bad => .bad := rfl
theorem mDef_rt {n : Nat} {b : IS} {xs : List IV} {v : IV} (h : b (xs.map some ++ List.replicate (n - xs.length) none) S = .ok (.rt v) S') : mDef n b xs S = .ok v S' := by unfold mDef; simp only [h]
theorem atI_n {α : Type} {xs : List α} {i : Nat} {v : α} (h : xs[i]? = some v) : atI xs (i : Int) = some v := atI_nat h
@[simp] theorem atI_0 {α : Type} (x : α) (xs : List α) : atI (x :: xs) 0 = some x := atI_nat (xs := x :: xs) (j := 0) rfl
@[simp] theorem atI_1 {α : Type} (x y : α) (xs : List α) : atI (x :: y :: xs) 1 = some y := atI_nat (xs := x :: y :: xs) (j := 1) rfl
@[simp] theorem atI_2 {α : Type} (x y z : α) (xs : List α) : atI (x :: y :: z :: xs) 2 = some z := atI_nat (xs := x :: y :: z :: xs) (j := 2) rfl
theorem atI_lt {α : Type} {xs : List α} {i : Int} (h0 : 0 ≤ i) (h : i < xs.length) : ∃ v, atI xs i = some v ∧ v ∈ xs := by
  obtain ⟨n, rfl⟩ := Int.eq_ofNat_of_zero_le h0
  have hn : n < xs.length := by exact_mod_cast h
  exact ⟨xs[n], atI_nat (List.getElem?_eq_getElem hn), List.getElem_mem hn⟩
@[simp] theorem ixN_0 (n : Nat) : ixN (n + 1) 0 = some 0 := by unfold ixN; rw [if_pos (by omega), if_pos (by omega)]; rfl
@[simp] theorem ixN_1 (n : Nat) : ixN (n + 2) 1 = some 1 := by unfold ixN; rw [if_pos (by omega), if_pos (by omega)]; rfl
@[simp] theorem ixN_2 (n : Nat) : ixN (n + 3) 2 = some 2 := by unfold ixN; rw [if_pos (by omega), if_pos (by omega)]; rfl
end Sm

/-! texts as lists of signs; == of lists of texts -/
namespace Sm
open PySem PySem.Spec PyProof.Rows L2
/-- the signs of a text -/
abbrev sg (s : Str) : List Nat := s.cps.toList
theorem sg_inj {a b : Str} (h : sg a = sg b) : a = b := by
  cases a; cases b
  exact congrArg Str.mk (Array.toList_inj.mp h)
theorem sg_len (s : Str) : (sg s).length = s.length := by simp [sg, Str.length]
theorem sg_app (a b : Str) : sg (a ++ b) = sg a ++ sg b := by
  show (a.cps ++ b.cps).toList = _
  simp [sg]
theorem len_app (a b : Str) : (a ++ b).length = a.length + b.length := by rw [← sg_len, sg_app, List.length_append, sg_len, sg_len]
theorem sg_one (c : Nat) : sg ⟨#[c]⟩ = [c] := rfl
theorem sg_mk (l : List Nat) : sg ⟨l.toArray⟩ = l := by simp [sg]
theorem sg_cut (z : Str) (lo hi : Option Int) : sg (cutS z lo hi) = ((sg z).drop (HT.sIx z.length 0 lo)).take (HT.sIx z.length z.length hi - HT.sIx z.length 0 lo) := by
  unfold cutS
  rw [sg_mk]
theorem mem_cut {z : Str} {lo hi : Option Int} {c : Nat} (h : c ∈ sg (cutS z lo hi)) : c ∈ sg z := by
  rw [sg_cut] at h
  exact List.mem_of_mem_drop (List.mem_of_mem_take h)
theorem len_cut (z : Str) (lo hi : Option Int) : (cutS z lo hi).length ≤ z.length := cutS_length z lo hi
theorem fold_glue : ∀ (zs : List Str) (acc : Array Nat), (zs.foldl (fun acc p => acc ++ (Str.mk #[]).cps ++ p.cps) acc).toList = acc.toList ++ (zs.map sg).flatten
  | [], acc => by simp
  | z :: zs, acc => by
    rw [List.foldl_cons, fold_glue zs, List.map_cons, List.flatten_cons]
    simp [sg]
theorem sg_join0 (zs : List Str) : sg (PySem.Txt.join ⟨#[]⟩ zs) = (zs.map sg).flatten := by
  show ((zs.drop 1).foldl _ (zs.headD Str.empty).cps).toList = _
  cases zs with
  | nil => rfl
  | cons z zs =>
    show (zs.foldl (fun acc p => acc ++ (Str.mk #[]).cps ++ p.cps) z.cps).toList = _
    rw [fold_glue]
    rfl
theorem empty_eq : ("" : Str) = ⟨#[]⟩ := by decide +kernel
/-- all signs are known ones -/
def okS (s : Str) : Prop := ∀ c ∈ sg s, c < 1114112
theorem okS_b {s : Str} (h : okS s) : PyData.strOk s = true := by
  unfold PyData.strOk
  rw [← Array.all_toList]
  exact List.all_eq_true.mpr fun c hc => decide_eq_true (h c hc)
theorem okS_app {a b : Str} (ha : okS a) (hb : okS b) : okS (a ++ b) := fun c hc => by
  rw [sg_app] at hc
  exact (List.mem_append.mp hc).elim (ha c) (hb c)
theorem okS_cut {z : Str} {lo hi : Option Int} (h : okS z) : okS (cutS z lo hi) := fun c hc => h c (mem_cut hc)
theorem okS_join0 {zs : List Str} (h : ∀ z ∈ zs, okS z) : okS (PySem.Txt.join ⟨#[]⟩ zs) := fun c hc => by
  rw [sg_join0] at hc
  obtain ⟨l, hl, hc⟩ := List.mem_flatten.mp hc
  obtain ⟨z, hz, e⟩ := List.mem_map.mp hl
  subst e
  exact h z hz c hc
/-! ### lists of texts as data -/
theorem viewL_strs {f : IV → Option PyData} (hf : ∀ s, f (.str s) = some (.str s)) : ∀ zs : List Str, viewL f (zs.map IV.str) = some (zs.map PyData.str)
  | [] => rfl
  | z :: zs => by
    show viewL f (.str z :: zs.map IV.str) = _
    unfold viewL
    rw [hf, viewL_strs hf zs]
    rfl
theorem canLay_strs : ∀ {zs : List Str}, (∀ z ∈ zs, okS z) → PyData.canLayAll0 (zs.map PyData.str) = true
  | [], _ => by simp [PyData.canLayAll0]
  | z :: zs, h => by
    show PyData.canLayAll0 (.str z :: zs.map PyData.str) = true
    rw [PyData.canLayAll0, PyData.canLay0, okS_b (h z List.mem_cons_self), canLay_strs fun y hy => h y (List.mem_cons_of_mem _ hy)]
    rfl
theorem depth_strs : ∀ zs : List Str, PyData.depthAll (zs.map PyData.str) = 0
  | [] => by simp [PyData.depthAll]
  | z :: zs => by
    show PyData.depthAll (.str z :: zs.map PyData.str) = 0
    rw [PyData.depthAll, PyData.depth, depth_strs zs]
    rfl
theorem eqv_strs : ∀ zs ys : List Str, PyData.eqvAll (zs.map PyData.str) (ys.map PyData.str) = decide (zs = ys)
  | [], [] => by simp [PyData.eqvAll]
  | [], y :: ys => by simp [PyData.eqvAll]
  | z :: zs, [] => by simp [PyData.eqvAll]
  | z :: zs, y :: ys => by
    show PyData.eqvAll (.str z :: zs.map PyData.str) (.str y :: ys.map PyData.str) = _
    rw [PyData.eqvAll, PyData.eqv, eqv_strs zs ys]
    by_cases h1 : z = y
    · subst h1
      by_cases h2 : zs = ys
      · subst h2; simp
      · simp [h2]
    · simp [h1]
theorem shaped_strs {zs : List Str} (h : ∀ z ∈ zs, okS z) : SeqAt.shaped (.list (zs.map PyData.str)) = true := by
  unfold SeqAt.shaped
  rw [PyData.canLay0, PyData.depth, canLay_strs h, depth_strs]
  rfl
theorem eqB_lst {S : Sto} {x y : List IV} {d e : PyData} (h1 : view 8 S (.lst x) = some d) (h2 : view 8 S (.lst y) = some e) (s1 : SeqAt.shaped d = true) (s2 : SeqAt.shaped e = true) : eqB S (.lst x) (.lst y) = some (PyData.eqv d e) := by
  show (match view 8 S (.lst x), view 8 S (.lst y) with
    | some d, some e => if SeqAt.shaped d = true ∧ SeqAt.shaped e = true then some (PyData.eqv d e) else none
    | _, _ => none) = _
  rw [h1, h2]
  show (if SeqAt.shaped d = true ∧ SeqAt.shaped e = true then some (PyData.eqv d e) else none) = _
  rw [if_pos ⟨s1, s2⟩]
theorem view_strs {S : Sto} (n : Nat) (zs : List Str) : view (n + 2) S (.lst (zs.map IV.str)) = some (.list (zs.map PyData.str)) := by
  show (viewL (view (n + 1) S) (zs.map IV.str)).map PyData.list = _
  rw [viewL_strs fun s => rfl]
  rfl
theorem eqB_strs {S : Sto} {zs ys : List Str} (hz : ∀ z ∈ zs, okS z) (hy : ∀ z ∈ ys, okS z) : eqB S (.lst (zs.map IV.str)) (.lst (ys.map IV.str)) = some (decide (zs = ys)) := by
  rw [eqB_lst (view_strs 6 zs) (view_strs 6 ys) (shaped_strs hz) (shaped_strs hy), PyData.eqv, eqv_strs]
/-! ### in a list of texts -/
theorem scVs_strs : ∀ zs : List Str, scVs (zs.map IV.str) = some (zs.map V.str)
  | [] => rfl
  | z :: zs => by
    show scVs (.str z :: zs.map IV.str) = _
    unfold scVs
    rw [scVs_strs zs]
    rfl
theorem inV_strs (s : Str) (zs : List Str) : inV (.str s) (zs.map V.str) = decide (s ∈ zs) := by
  unfold inV
  induction zs with
  | nil => rfl
  | cons z zs ih =>
    rw [List.map_cons, List.any_cons, ih]
    by_cases h : s = z
    · subst h; simp [eqV]
    · have : (z == s) = false := by simpa using fun e => h e.symm
      simp [eqV, this, h]
theorem inB_lst {S : Sto} (s : Str) (zs : List Str) : inB S (.str s) (.lst (zs.map IV.str)) = some (decide (s ∈ zs)) := by
  show ((scVs (zs.map IV.str)).map fun us => inV (.str s) us) = _
  rw [scVs_strs]
  show some (inV (.str s) (zs.map V.str)) = _
  rw [inV_strs]
theorem inB_tup {S : Sto} (s : Str) (zs : List Str) : inB S (.str s) (.tup (zs.map IV.str)) = some (decide (s ∈ zs)) := by
  show ((scVs (zs.map IV.str)).map fun us => inV (.str s) us) = _
  rw [scVs_strs]
  show some (inV (.str s) (zs.map V.str)) = _
  rw [inV_strs]
theorem inB_sg {S : Sto} (c : Nat) (z : Str) : inB S (.str ⟨#[c]⟩) (.str z) = some (decide (c ∈ sg z)) := rfl
/-! ### rangeI -/
theorem rangeI_len (lo : Int) (n : Nat) : (rangeI lo n).length = n := by simp [rangeI]
theorem chkP_true {α : Type} {p : Prop} {o : Out α} (h : p) : chkP p o = o := chkP_pos h
theorem stay_none (xs : List IV) (S : Sto) : (Src.mk xs none).stay S := trivial
end Sm

/-! the end of a law's proof -/
namespace Sm
open PySem PySem.Spec PyProof.Rows L2
section
variable {K : PySem.W.Frag} {mg : Str → Option Value} {h : Heap}
theorem loc_mk {x : Str} {st : Stmt} {ps : List Str} {f : Addr} {od an : Option Addr} {sl : Array (Option Value)} {oc kV dc pm cd ct : Value} (X : K.In h) (G : h.Ns mainGlobals mg)
    (a : PySem.W.nsIn K mainGlobals x = some (some (.ref f))) (l : K.lookup f = some ⟨oc, od, .func (PySem.W.fnOf x x (defArgs st) (defBody st) (defScope st) .none kV dc pm an cd ct), sl⟩) (c : PySem.W.codeIn K cd x = true) (k : PySem.W.keepIn K (.ref f) = true)
    (hb : ∀ (kV doc pm : Value) (an : Option Addr) (cdv ct : Value) (us : List Value), us.length = ps.length → bindArgs (PySem.W.fnOf x x (defArgs st) (defBody st) (defScope st) .none kV doc pm an cdv ct) ⟨us, []⟩ = pure (ps.zip us)) : Loc K mg x st ps :=
  have F := fun_mk (st := st) l c k
  ⟨f, _, PySem.W.mg_of X G a, F, F.binds hb⟩
theorem sloc_mk {x m qual : Str} {st : Stmt} {ps : List Str} {C p f : Addr} {od an : Option Addr} {sl : Array (Option Value)} {oc kV dc pm cd ct : Value} {rest : List Value} (X : K.In h) (G : h.Ns mainGlobals mg)
    (a : PySem.W.nsIn K mainGlobals x = some (some (.ref C))) (l : K.lookup f = some ⟨oc, od, .func (PySem.W.fnOf m qual (defArgs st) (defBody st) (defScope st) .none kV dc pm an cd ct), sl⟩) (c : PySem.W.codeIn K cd qual = true) (k : PySem.W.keepIn K (.ref f) = true)
    (ga : PySem.W.specialIn K (.ref C) "__getattribute__" = some (some (.builtin "type.__getattribute__"))) (ty : PySem.W.typeIn K (.ref C) = some (.type "type")) (rd : PySem.W.readsIn K C (.type "type") = true)
    (at_ : PySem.W.findCls K (.ref C) (.type "type") m = some (.get (.builtin "staticmethod.__get__") (.ref p) .none (.ref C))) (rc : PySem.W.recIn K p "staticmethod" = some (.ref f :: rest))
    (hb : ∀ (kV doc pm : Value) (an : Option Addr) (cdv ct : Value) (us : List Value), us.length = ps.length → bindArgs (PySem.W.fnOf m qual (defArgs st) (defBody st) (defScope st) .none kV doc pm an cdv ct) ⟨us, []⟩ = pure (ps.zip us)) : SLoc K mg x m qual st ps :=
  have F := fun_mk (st := st) l c k
  ⟨C, p, f, _, PySem.W.mg_of X G a, ⟨ga, ty, rd, at_, _, rc⟩, F, F.binds hb⟩
theorem gtup_mk {x : Str} {zs : List Str} {a : Addr} {od : Option Addr} {its : Array Value} {n : Nat} {sl : Array (Option Value)} (X : K.In h) (G : h.Ns mainGlobals mg) (ha : PySem.W.nsIn K mainGlobals x = some (some (.ref a)))
    (l : K.lookup a = some ⟨.type "tuple", od, .seq its n, sl⟩) (hz : its.size ≤ sizeLine) (v : Vals (zs.map V.str) its.toList) : GTup K mg x zs :=
  ⟨a, _, its, n, PySem.W.mg_of X G ha, l, rfl, rfl, hz, v⟩
end
def goodStrs : List Str → List Value → Bool
  | [], [] => true
  | z :: zs, .str x _ :: its => decide (z = x) && goodStrs zs its
  | _, _ => false
theorem vals_of_b : ∀ {zs : List Str} {its : List Value}, goodStrs zs its = true → Vals (zs.map V.str) its
  | [], [], _ => .nil
  | z :: zs, .str x t :: its, h => by
    obtain ⟨h1, h2⟩ := Bool.and_eq_true_iff.mp (show (decide (z = x) && goodStrs zs its) = true from h)
    have := of_decide_eq_true h1
    subst this
    exact .cons ⟨t, rfl⟩ (vals_of_b h2)
/-- a law's promise, from what its mirror tells of every script -/
theorem sp_law {K : PySem.W.Frag} {mg : Str → Option Value} {m : List IV → Sto → Out IV} {n : Nat} (hm : ∀ ns : List Int, ns.length ≤ n → ∃ S', m [.wls (ns.map IV.int)] [] = .ok (.bl true) S') {H : Hp} {a : Addr} {ns : List Int} {Q : VK} {E : XK} (hl : ns.length ≤ n) (hS : SqL K H a (ns.map V.int)) (hq : ∀ H', Q (.bl true) H') :
    spM K mg 1 m [.ref a] H Q E := by
  obtain ⟨S', e⟩ := hm ns hl
  have rl : ∀ {w : Wd} (l : List Int), RelL ⟨K, mg, none⟩ w (l.map V.int) (l.map IV.int) := fun {w} l => by
    induction l with
    | nil => exact .nil
    | cons x l ih => exact .cons (.int x) ih
  refine ⟨rfl, ⟨[], H, fun _ => none⟩, [], [.wls (ns.map IV.int)], ?_, .one (.wls hS (rl ns)), ?_⟩
  · refine ⟨rfl, List.nodup_nil, fun n c a h => ?_, fun n a h => ?_, Same.refl _, fun b o h => ?_, fun b o h => ?_⟩
    · simp at h
    · simp at h
    · have h : (none : Option HO) = some o := h
      cases h
    · have h : (none : Option HO) = some o := h
      cases h
  · rw [e]
    intro w' H' l r v rv
    cases rv
    exact hq H'
/-- what a law keeps: it answers True to every script of at most n numbers -/
def lawSp (K : PySem.W.Frag) (n : Nat) : Sp := fun vs H Q _ => ∃ (a : Addr) (ns : List Int), vs = [.ref a] ∧ ns.length ≤ n ∧ SqL K H a (ns.map V.int) ∧ ∀ H', Q (.bl true) H'
section
variable {K : PySem.W.Frag} {h : Heap} {mg : Str → Option Value}
/-- a def whose function is known -/
theorem law_mk {x y : Str} {st : Stmt} {f fa : Addr} {od an : Option Addr} {sl : Array (Option Value)} {oc kV dc pm cd ct : Value} (X : K.In h) (G : h.Ns mainGlobals mg) (hfa : mg x = some (.ref fa))
    (a : PySem.W.nsIn K mainGlobals x = some (some (.ref f))) (l : K.lookup f = some ⟨oc, od, .func (PySem.W.fnOf x x (defArgs st) (defBody st) (defScope st) .none kV dc pm an cd ct), sl⟩) (c : PySem.W.codeIn K cd x = true) (k : PySem.W.keepIn K (.ref f) = true)
    (hb : ∀ (kV doc pm : Value) (an : Option Addr) (cdv ct u : Value), bindArgs (PySem.W.fnOf x x (defArgs st) (defBody st) (defScope st) .none kV doc pm an cdv ct) ⟨[u], []⟩ = pure [(y, u)])
    {P : Program} {w : World} {n : Nat} {m : List IV → Sto → Out IV} (hm : ∀ ns : List Int, ns.length ≤ 63 → ∃ S', m [.wls (ns.map IV.int)] [] = .ok (.bl true) S') (H : ∀ (fd : FuncData), Fun K x x st fa fd → ∀ base : Heap, K.In base → base.Ns mainGlobals mg → FnG P w K mg base (L2.CX P w) n fa fd [y] (spM K mg 1 m)) :
    ∃ fd : FuncData, (∀ (s : Shared) (v : Value), BindsTo s fd ⟨[v], []⟩ [(y, v)]) ∧ ∀ base : Heap, K.In base → base.Ns mainGlobals mg → FnG P w K mg base (L2.CX P w) n fa fd [y] (lawSp K 63) := by
  have e := hfa.symm.trans (PySem.W.mg_of X G a)
  cases e
  have F := fun_mk (st := st) l c k
  exact ⟨_, fun s v => .of_eq (hb _ _ _ _ _ _ v), fun base kin ns => (H _ F base kin ns).imp fun vs H Q E ⟨a, xs, e, hl, hS, hq⟩ => by
    subst e
    exact sp_law hm hl hS hq⟩
end
end Sm

/-! own exceptions: made and raised, caught, their fields read -/
namespace Sm
open PySem PySem.Spec PyProof.Rows L2

/-- B.__init__(self, ..) of an own exception's own base that takes ValueError's -/
structure BaseC (K : PySem.W.Frag) (mg : Str → Option Value) (x : Str) : Prop where
  ex : ∃ C : Addr, mg x = some (.ref C) ∧ PySem.W.specialIn K (.ref C) "__getattribute__" = some (some (.builtin "type.__getattribute__")) ∧ PySem.W.typeIn K (.ref C) = some (.type "type") ∧
    PySem.W.readsIn K C (.type "type") = true ∧ PySem.W.findCls K (.ref C) (.type "type") "__init__" = some (.val (.builtin "ValueError.__init__"))
section
variable {X : Cx} {e : Expr} {es : List Expr} {ta : TA} {x : Str} {p1 p2 pos : Pos}
theorem pe_clsinit {pl : Sem Bool} (hg : Gl X x) (B : BaseC X.K X.mg x) (hdb : (x == ("__debug__" : Str)) = false) (ha : PA X (e :: es) ta)
    (hc : eval (.Call (.Attribute (.Name x p1) "__init__" p2) (e :: es) [] pos) X.env = (do
      let ov ← eval (.Name x p1) X.env
      standAt p2.atName
      let (f, first) ← holding [ov] (getMethod ov "__init__" pl)
      callWith pos f first (backTo pos (starEach (e :: es) X.env)) (backToKw pos (keywordEach [] X.env))) := by rfl)
    (he : starEach (e :: es) X.env = (false, eval e X.env) :: starEach es X.env := by rfl) (hpl : (backTo pos (starEach es X.env)).any (·.1) = false := by rfl) :
    PE X (.Call (.Attribute (.Name x p1) "__init__" p2) (e :: es) [] pos) (tVeI X.K ta) := by
  obtain ⟨C, hm, ga, ty, rd, fc⟩ := B.ex
  refine ⟨fun pins s σ H Q I h => ?_⟩
  refine PySem.W.methodCall_KW (ld_glob I hg hm ?_ hdb) hc
  obtain ⟨m, fr⟩ := I.fr
  refine PySem.W.method_of_cls fr I.ok.mod.kin ga (PySem.W.cls_val fr I.ok.mod.kin ty rd fc (by decide +kernel) ?_)
  show wpAny _ _ (callWith pos (Value.builtin "ValueError.__init__") [] (backTo pos (starEach (e :: es) X.env)) []) _ _ _
  refine PyProof.Rows.callWith_method1 (thn (ha.run pos pins _ σ H _ (I.tok _) h) fun us s1 ⟨vs, H1, I1, r1, a, C, ws, ev, hl, T, ea, q⟩ => ?_) he hpl
  subst ev
  cases r1 with
  | @cons _ u0 _ ur ra rw' =>
    obtain rfl : u0 = Value.ref a := ra
    have hlen : ur.length ≤ sizeLine := by
      rw [← Paired.length rw', sizeLine_eq]
      omega
    exact oinit_ok T I1 ea hlen fun s' J => ⟨.non, H1, J, rfl, q⟩
end
/-- what an exception's own __init__(self, v) keeps: its one field -/
def exSp (K : PySem.W.Frag) (f : Str) : Sp := fun vs H Q _ => ∃ (a C : Addr) (v : V), vs = [.ref a, v] ∧ OexC K C ∧ PySem.W.findIn K (.ref C) f = some none ∧ H a = some (exo a C none) ∧
  ∀ dx, H dx = none → dx ≠ a → Q .non (upd (upd H dx (exd dx [(f, v)])) a (exo a C (some dx)))
/-- an exception class of the module -/
structure EClsAt (K : PySem.W.Frag) (mg : Str → Option Value) (x : Str) (f : Str) (C : Addr) : Prop where
  m : mg x = some (.ref C)
  o : OexC K C
  nf : PySem.W.findIn K (.ref C) f = some none
structure ECal (P : Program) (w : World) (K : PySem.W.Frag) (mg : Str → Option Value) (base : Heap) (x f : Str) : Prop where
  ex : ∃ (C fI : Addr) (fd : FuncData) (a b : Str), EClsAt K mg x f C ∧ PySem.W.findIn K (.ref C) "__init__" = some (some (.ref fI)) ∧ PySem.W.typeIn K (.ref fI) = some (.type "function") ∧
    L2.Binds K fd [a, b] [] ∧ FnOk P w K mg base (L2.CX P w) 1 fI fd [a, b] (exSp K f)
section
variable {P : Program} {w : World} {K : PySem.W.Frag} {mg : Str → Option Value} {base : Heap}
def tInit (K : PySem.W.Frag) (f z : Str) : TS := tSeq (tDrop (tVeI K (tCons (tVar 0) (tCons (tC (.str z)) tNil)))) (tOst K f (tVar 0) (tVar 1))
theorem einit_ok {qual : Str} {st : Stmt} {fI : Addr} {fd : FuncData} {f a b z : Str} (F : Fun K "__init__" qual st fI fd) (Sc : FnScope [a, b] [a, b] (defScope st))
    (hb : ∀ (cdv : Value) (A : Around) (outer : List Env) (s : Shared) (H : Hp) (E : XK), PSs (DX P w K mg base [a, b] qual (defScope st) fI cdv A outer s H E) (defBody st) (tInit K f z)) : FnOk P w K mg base (L2.CX P w) 1 fI fd [a, b] (exSp K f) := by
  refine F.okX Sc (fun vs H Q E h => by obtain ⟨_, _, _, rfl, _⟩ := h; rfl) fun cdv A outer s H vs Q E hr h => ?_
  obtain ⟨e, C, v, rfl, T, nf, ha, q⟩ := h
  exact ⟨_, hb cdv A outer s H E, .ref e, rfl, e, C, [.str z], rfl, by simp, T, ha, v, rfl, .ref e, rfl, e, C, rfl, T, nf, .inl ⟨ha, fun dx hn hne => q dx hn hne⟩⟩
end
section
variable {X : Cx} {W : WZ} {e : Expr} {es : List Expr} {ma : IA} {x f : Str} {p pos rpos : Pos}
theorem exc_hp {H1 : Hp} {a dx : Addr} {o o' o'' o3 : HO} (ha : H1 a = none) (hne : dx ≠ a) : upd (del (upd (upd (upd H1 a o) dx o') a o'') a) dx o3 = upd H1 dx o3 := by
  funext b
  by_cases hb : b = dx
  · rw [hb, upd_same, upd_same]
  · rw [upd_ne hb, upd_ne hb]
    by_cases hc : b = a
    · rw [hc, del_same, ha]
    · rw [del_ne hc, upd_ne hc, upd_ne hb, upd_ne hc]
theorem pmk_e (c : ECal X.prog X.w X.K X.mg X.base x f) (tk : Takes X W.x) (hr : RmG 2 X.A) (hg : Gl X x) (ha : DA X W (e :: es) ma) (hdb : (x == ("__debug__" : Str)) = false)
    (he : starEach (e :: es) X.env = (false, eval e X.env) :: starEach es X.env) (hpl : (backTo pos (starEach es X.env)).any (·.1) = false) :
    PMk X (.Call (.Name x p) (e :: es) [] pos) (fun σ H Q => aM (kx X W) W.x ma σ H fun vs H' => ∃ v, vs = [v] ∧ ∀ d, H' d = none → Q (clsV X.mg x) (some d) (upd H' d (.xd [(f, v)]))) := by
  obtain ⟨C, fI, fd, a, b, ec, iC, tI, bi, F⟩ := c.ex
  have hcl : clsV X.mg x = .ref C := by unfold clsV; rw [ec.m]; rfl
  intro pins s σ H Q I h
  refine pmk_oex (ds := []) (dvs := []) ec.o iC tI F hr.toRoom bi .nil (passes_call tk fun _ _ _ _ z => z.elim) hg ec.m ha hdb he hpl pins s σ H Q I ?_
  obtain ⟨w, S, Λ, r0, s0, p⟩ := h
  refine ⟨w, S, Λ, r0, s0, p.imp fun w1 H1 S1 ivs l1 r1 p1 vs rv => ?_⟩
  obtain ⟨v, rfl, q⟩ := p1 vs rv
  refine ⟨by simp, fun e he => ⟨e, C, v, rfl, ec.o, ec.nf, upd_same, fun dx hdx hne => ⟨rfl, dx, [(f, v)], upd_same, by rw [upd_ne hne, upd_same], by rwa [upd_ne hne] at hdx, ?_⟩⟩⟩
  rw [exc_hp he hne, ← hcl]
  exact q dx (by rwa [upd_ne hne] at hdx)
/-- raise C(v), C with the one field f -/
def iRaise (x f : Str) (ma : IA) : IS := fun Λ S => (ma Λ S).bind fun xs S1 => a1 xs fun v => .exc x S1.length Λ (S1 ++ [.xd [(f, v)]])
theorem ds_raise (hc : X.calm = true) (tk : Takes X W.x) (hr : RmG 2 X.A) (c : ECal X.prog X.w X.K X.mg X.base x f) (ha : DA X W (e :: es) ma) (hg : Gl X x := by rfl) (hdb : (x == ("__debug__" : Str)) = false := by decide)
    (he : starEach (e :: es) X.env = (false, eval e X.env) :: starEach es X.env := by rfl) (hpl : (backTo pos (starEach es X.env)).any (·.1) = false := by rfl) (hx : W.ex = none := by rfl) :
    DS X W (.Raise (some (.Call (.Name x p) (e :: es) [] pos)) none rpos) (iRaise x f ma) :=
  (ps_raise hc tk (pmk_e c tk hr hg ha hdb he hpl)).imp fun D σ H ⟨w, S, Λ, r0, s0, p⟩ => ⟨w, S, Λ, r0, s0, p.bind.imp fun w1 H1 S1 xs l1 r1 p1 vs rv => by
    obtain ⟨v, y, rfl, rfl, rv, p1⟩ := a1_post p1 rv
    refine ⟨v, rfl, fun d hd => ?_⟩
    obtain ⟨l2, r2⟩ := r1.alloc (p := d) (o := .xd [(f, v)]) (c := .xd [(f, y)]) hd fun w' l' => ⟨_, upd_same, .cons ⟨rfl, rv.up l'⟩ .nil⟩
    exact p1 _ _ d σ l2 r2 ((s0.up l1).up l2) (by
      show (w1.rho ++ [d])[S1.length]? = some d
      rw [← r1.len]
      simp)⟩
end
/-- the slot i is let go -/
def Fl.gone (i : Nat) : Fl → Fl
  | .nx L => .nx (L.set i none)
  | .bk L => .bk (L.set i none)
  | .ct L => .ct (L.set i none)
  | .rt v => .rt v
/-- try: mb / except c as (slot i): ms; tab tells of each class that may come whether c takes it -/
def iTryAs (tab : List (Str × Bool)) (i : Nat) (mb : IS) (ms : Str → Nat → IS) : IS := fun Λ S => match mb Λ S with
  | .exc C n L S' => (match tab.lookup C with
    | some true => (noX (ms C n (L.set i none) S')).bind fun fl S2 => .ok (fl.gone i) S2
    | some false => .exc C n L S'
    | none => .bad)
  | o => o
section
variable {X : Cx} {W : WX} {x n : Str} {c : Value} {i : Nat} {body suite : List Stmt} {b₀ : Stmt} {np pos pos' : Pos} {mb : IS} {ms : Str → Nat → IS} {tab : List (Str × Bool)}
theorem sr_out {K K' : KX} {w : Wd} {σ : L2.St} {L : Slots} (i : Nat) (hk : K'.k = K.k) (hx : K.ex = none) (s : SR K' w σ L) : SR K w (σ.set i none) (L.set i none) := by
  refine ⟨by rw [List.length_set, List.length_set]; exact s.len, fun j jv e => ?_, fun j n a d e _ => by rw [hx] at e; cases e⟩
  by_cases hj : j = i
  · subst hj
    have hlt : j < L.length := by have := (List.getElem?_eq_some_iff.mp e).1; rwa [List.length_set] at this
    rw [List.getElem?_set_self hlt] at e
    cases e
  · rw [List.getElem?_set_ne (Ne.symm hj)] at e
    rw [List.getElem?_set_ne (Ne.symm hj)]
    obtain ⟨v, h1, h2⟩ := s.get j jv e
    exact ⟨v, h1, Rel.cx hk _ _ h2⟩
theorem sr_in {K : KX} {w : Wd} {σ : L2.St} {L : Slots} {i n : Nat} {a d : Addr} (hd : w.rho[n]? = some d) (s : SR K w σ L) : SR ⟨K.k, K.mg, some (i, n, a, d)⟩ w (σ.set i (some (.ref a))) (L.set i none) := by
  refine ⟨by rw [List.length_set, List.length_set]; exact s.len, fun j jv e => ?_, fun j n' a' d' e1 e2 => ?_⟩
  · by_cases hj : j = i
    · subst hj
      have hlt : j < L.length := by have := (List.getElem?_eq_some_iff.mp e).1; rwa [List.length_set] at this
      rw [List.getElem?_set_self hlt] at e
      cases e
    · rw [List.getElem?_set_ne (Ne.symm hj)] at e
      rw [List.getElem?_set_ne (Ne.symm hj)]
      obtain ⟨v, h1, h2⟩ := s.get j jv e
      exact ⟨v, h1, Rel.cx (K := K) (K' := ⟨K.k, K.mg, some (i, n, a, d)⟩) rfl _ _ h2⟩
  · have e1 : some (i, n, a, d) = some (j, n', a', d') := e1
    cases e1
    have hlt : i < L.length := by have := (List.getElem?_eq_some_iff.mp e2).1; rwa [List.length_set] at this
    exact ⟨by rw [List.getElem?_set_self (by rw [s.len]; exact hlt)], hd⟩
theorem ds_try (hs : X.stack = X.env :: X.outer) (hf : X.env.frame = some X.env.locals) (hN : X.N.Nodup) (i : Nat) (hi : X.N[i]? = some n) (hln : X.env.kindOf n = some .local) (hc : Names X x c) (tk : Takes X W)
    (hT : ∀ C b, tab.lookup C = some b → PySem.W.exmOne X.K (clsV X.mg C) c = some b)
    (hb : ∀ (W' : WX) (pn : List (Addr × Obj)) (xe : Value → Shared → Prop), Takes (X.tr pn xe) W' → PassesOwn (model X.prog X.w) X.A X.env xe → DSs (X.tr pn xe) ⟨W', none⟩ body mb)
    (hsu : ∀ (C : Str) (m : Nat) (a d : Addr) (oe : Obj) (pn : List (Addr × Obj)), tab.lookup C = some true → Zc (clsV X.mg C) (some d) oe → (∃ vs, oe.data = .fields vs) → DSs (X.suite a ((a, oe) :: pn)) ⟨W0, some (i, m, a, d)⟩ (b₀ :: suite) (ms C m)) :
    DS X ⟨W, none⟩ (.Try body [.ExceptHandler (some (.Name x np)) (some n) (b₀ :: suite) pos'] [] [] pos) (iTryAs tab i mb ms) := by
  have h1 := ps_try_as (X := X) (x := x) (n := n) (c := c) (i := i) (body := body) (suite := suite) (b₀ := b₀) (np := np) (pos := pos) (pos' := pos') (tb := fun W' => sM (kx X ⟨W', none⟩) W' mb)
    (ts := fun a cls d D σ H => ∃ C m dd, d = some dd ∧ cls = clsV X.mg C ∧ tab.lookup C = some true ∧ sM ⟨X.K, X.mg, some (i, m, a, dd)⟩ W0 (ms C m) D σ H) (Wout := W) hs hf hN hi hln hc tk
    (fun W' pn xe t po => hb W' pn xe t po) (fun a oe cls d pn hz hd => ⟨fun pins s σ H D I h => by
      obtain ⟨C, m, dd, rfl, rfl, ht, q⟩ := h
      exact (hsu C m a dd oe pn ht hz hd).run pins s σ H D I q⟩)
  refine h1.imp fun D σ H ⟨w, S, Λ, r0, s0, p⟩ => ⟨w, S, Λ, r0, s0, ?_⟩
  unfold iTryAs at p
  cases e : mb Λ S with
  | ok fl S' => rw [e] at p; exact p
  | bad => rw [e] at p; exact p
  | exc C m L S' =>
    rw [e] at p
    have p : Post (kx X ⟨W, none⟩) W w (match tab.lookup C with
      | some true => (noX (ms C m (L.set i none) S')).bind fun fl S2 => .ok (fl.gone i) S2
      | some false => .exc C m L S'
      | none => .bad) _ := p
    intro w' H' a' σ' l r s hr
    cases ht : tab.lookup C with
    | none => rw [ht] at p; exact p.elim
    | some b =>
      refine ⟨b, hT C b ht, fun hb => ?_, fun hb => ?_⟩
      · subst hb
        rw [ht] at p
        intro a ha
        refine ⟨C, m, a', rfl, rfl, ht, w', S', L.set i none, r.cx rfl rfl, sr_in hr s, ?_⟩
        have p : Post (kx X ⟨W, none⟩) W w ((noX (ms C m (L.set i none) S')).bind fun fl S2 => .ok (fl.gone i) S2) _ := p
        cases em : ms C m (L.set i none) S' with
        | ok fl S2 =>
          rw [em] at p
          intro w2 H2 l2 r2
          have p2 := p w2 H2 (l.trans l2) (r2.cx rfl rfl)
          cases fl with
          | nx L2 => exact fun σ2 s2 => p2 _ (sr_out (K := kx X ⟨W, none⟩) (K' := ⟨X.K, X.mg, some (i, m, a, a')⟩) i rfl rfl s2)
          | bk L2 => exact fun σ2 s2 => p2 _ (sr_out (K := kx X ⟨W, none⟩) (K' := ⟨X.K, X.mg, some (i, m, a, a')⟩) i rfl rfl s2)
          | ct L2 => exact fun σ2 s2 => p2 _ (sr_out (K := kx X ⟨W, none⟩) (K' := ⟨X.K, X.mg, some (i, m, a, a')⟩) i rfl rfl s2)
          | rt v => exact fun v' rv => p2 v' (Rel.cx (K := ⟨X.K, X.mg, some (i, m, a, a')⟩) (K' := kx X ⟨W, none⟩) rfl _ _ rv)
        | exc C2 m2 L2 S2 => rw [em] at p; exact p.elim
        | bad => rw [em] at p; exact p.elim
      · subst hb
        rw [ht] at p
        exact p w' H' a' σ' l r s hr
end
/-- e.f of the exception that is being handled -/
def iXf (i m : Nat) (f : Str) : IE := fun Λ S => match Λ[i]?, S[m]? with
  | some none, some (.xd fs) => (match fs.lookup f with
    | some v => .ok v S
    | none => .bad)
  | _, _ => .bad
theorem relKV_lookup {K : KX} {w : Wd} {f : Str} : ∀ {ps : List (Str × V)} {fs : List (Str × IV)} {iv : IV}, RelKV K w ps fs → fs.lookup f = some iv → ∃ v, ps.lookup f = some v ∧ Rel K w v iv
  | _, _, _, .nil, e => by cases e
  | (k, v) :: ps, (k', u) :: fs, iv, .cons ⟨h1, h2⟩ t, e => by
    have h1 : k = k' := h1
    subst h1
    unfold List.lookup at e ⊢
    cases hk : f == k with
    | true =>
      rw [hk] at e
      cases e
      exact ⟨v, rfl, h2⟩
    | false =>
      rw [hk] at e
      exact relKV_lookup t e
section
variable {X : Cx} {i m : Nat} {a d : Addr} {oe : Obj} {pn : List (Addr × Obj)} {n f C : Str} {p pos : Pos}
theorem de_xf (hz : Zc (clsV X.mg C) (some d) oe) (hf : ∃ vs, oe.data = .fields vs) (hC : ∃ Ca, X.mg C = some (.ref Ca) ∧ XfC X.K Ca ∧ PySem.W.findIn X.K (.ref Ca) f = some none)
    (hN : X.N[i]? = some n := by rfl) (hv : Vis X.env.scope n := by first | exact Or.inl rfl | exact Or.inr (Or.inl rfl) | exact Or.inr (Or.inr rfl)) (hd : (n == ("__debug__" : Str)) = false := by decide)
    (hcd : (n == ("__classdict__" : Str)) = false := by decide) (hb : attributeBase (.Name n p) f X.env (eval (.Name n p) X.env) = eval (.Name n p) X.env := by rfl) :
    DE (X.suite a ((a, oe) :: pn)) ⟨W0, some (i, m, a, d)⟩ (.Attribute (.Name n p) f pos) (iXf i m f) := by
  obtain ⟨Ca, hm, hxf, hno⟩ := hC
  have hcl : clsV X.mg C = .ref Ca := by unfold clsV; rw [hm]; rfl
  refine (pe_xf (X := X) (cls := clsV X.mg C) (d := some d) hxf hno hz hf (pe_var (X := X.suite a ((a, oe) :: pn)) hN hv hd hcd) hb).imp fun σ H Q ⟨w, S, Λ, r0, s0, p⟩ => ?_
  unfold iXf at p
  split at p
  · rename_i fs h1 h2
    obtain ⟨g1, g2⟩ := s0.ex i m a d rfl h1
    obtain ⟨ps, h3, h4⟩ := r0.cell m _ d h2 g2
    split at p
    · rename_i iv h5
      obtain ⟨v, h6, h7⟩ := relKV_lookup h4 h5
      exact ⟨.ref a, g1, rfl, hcl, d, ps, v, rfl, h3, h6, p.now r0 v h7⟩
    · exact p.elim
  · exact p.elim
end
end Sm

/-! instances of own classes: fields, methods, making -/
namespace Sm
open PySem PySem.Spec PyProof.Rows L2

/-- an instance of the class C in the store -/
def onI {α : Type} (S : Sto) (C : Str) (x : IV) (k : Nat → List (Str × IV) → Out α) : Out α := match x with
  | .adr n => (match S[n]? with
    | some (.ins D fs) => if D = C then k n fs else .bad
    | _ => .bad)
  | _ => .bad
theorem onI_s {α : Type} {S : Sto} {C : Str} {n : Nat} {fs : List (Str × IV)} {k : Nat → List (Str × IV) → Out α} (h : S[n]? = some (.ins C fs)) : onI S C (.adr n) k = k n fs := by
  unfold onI; simp only [h, if_pos]
theorem onI_post {α : Type} {K : KX} {W : WX} {w : Wd} {S : Sto} {H : Hp} {v : V} {x : IV} {C : Str} {k : Nat → List (Str × IV) → Out α} {P : Wd → Hp → Sto → α → Prop} (h : Post K W w (onI S C x k) P) (r : R K w S H) (rx : Rel K w v x) :
    ∃ n fs a Ca dx ps, S[n]? = some (.ins C fs) ∧ w.rho[n]? = some a ∧ v = .ref a ∧ K.mg C = some (.ref Ca) ∧ H a = some (.ins Ca dx ps) ∧ RelKV K w ps fs ∧ Post K W w (k n fs) P := by
  unfold onI at h
  split at h
  · cases rx with
    | adr hrho =>
      split at h
      · rename_i q
        split at h
        · rename_i hD
          subst hD
          obtain ⟨Ca, dx, ps, h0, h1, h2⟩ := r.cell _ _ _ q hrho
          exact ⟨_, _, _, Ca, dx, ps, q, hrho, rfl, h0, h1, h2, h⟩
        · exact h.elim
      · exact h.elim
  · exact h.elim
/-- what the text says of a class's field -/
def FC (K : PySem.W.Frag) (mg : Str → Option Value) (C f : Str) : Prop := ∃ Ca : Addr, mg C = some (.ref Ca) ∧ Cls K Ca ∧ NoAttr K Ca f
def putI (f : Str) (v : IV) : List (Str × IV) → List (Str × IV)
  | [] => [(f, v)]
  | (g, x) :: r => if g = f then (g, v) :: r else (g, x) :: putI f v r
theorem relKV_put {K : KX} {w : Wd} {f : Str} {y : V} {iv : IV} (ry : Rel K w y iv) : ∀ {ps : List (Str × V)} {fs : List (Str × IV)}, RelKV K w ps fs → RelKV K w (putF f y ps) (putI f iv fs)
  | _, _, .nil => .cons ⟨rfl, ry⟩ .nil
  | (g, v) :: ps, (g', u) :: fs, .cons ⟨h1, h2⟩ t => by
    have h1 : g = g' := h1
    subst h1
    unfold putF putI
    by_cases h : g = f
    · rw [if_pos h, if_pos h]; exact .cons ⟨rfl, ry⟩ t
    · rw [if_neg h, if_neg h]; exact .cons ⟨rfl, h2⟩ (relKV_put ry t)
theorem relKV_length {κ : Type} {K : KX} {w : Wd} : ∀ {ps : List (κ × V)} {fs : List (κ × IV)}, RelKV K w ps fs → ps.length = fs.length
  | _, _, .nil => rfl
  | _ :: _, _ :: _, .cons _ t => congrArg (· + 1) (relKV_length t)
theorem relKV_lookN {K : KX} {w : Wd} {f : Str} : ∀ {ps : List (Str × V)} {fs : List (Str × IV)}, RelKV K w ps fs → fs.lookup f = none → ps.lookup f = none
  | _, _, .nil, _ => rfl
  | (k, v) :: ps, (k', u) :: fs, .cons ⟨h1, h2⟩ t, e => by
    have h1 : k = k' := h1
    subst h1
    unfold List.lookup at e ⊢
    cases hk : f == k with
    | true => rw [hk] at e; cases e
    | false => rw [hk] at e; exact relKV_lookN t e
theorem RelKV.up {κ : Type} {K : KX} {w w' : Wd} {a : List (κ × V)} {b : List (κ × IV)} (h : RelKV K w a b) (l : w.le w') : RelKV K w' a b := h.mono l.1

/-! ### fields -/
def fFld (C f : Str) (x : IV) (S : Sto) : Out IV := onI S C x fun _ fs => orBad (fs.lookup f) fun v => .ok v S
def iSetF (C f : Str) (mo mv : IE) : IS := fun Λ S => (mv Λ S).bind fun y S1 => (mo Λ S1).bind fun x S2 => onI S2 C x fun n fs => chk (fs.length < 1000) (.ok (.nx Λ) (S2.set n (.ins C (putI f y fs))))
def iAugF (C f : Str) (mo mv : IE) : IS := fun Λ S => (mo Λ S).bind fun x S1 => onI S1 C x fun n fs => orBad (fs.lookup f) fun v => (mv Λ S1).bind fun y S2 => asI v fun i => asI y fun j => onI S2 C x fun m gs => chk (gs.length < 1000) (.ok (.nx Λ) (S2.set m (.ins C (putI f (.int (i + j)) gs))))
section
variable {X : Cx} {W : WZ} {e o value : Expr} {C f : Str} {pos pos' tpos : Pos} {m mo mv : IE}
theorem de_fld (c : FC X.K X.mg C f) (he : DE X W e m) (hb : attributeBase e f X.env (eval e X.env) = eval e X.env := by rfl) : DE X W (.Attribute e f pos) (iUn (fFld C f) m) := by
  obtain ⟨Ca, hm, hc, hn⟩ := c
  refine (pe_fld he hb).imp fun σ H Q ⟨w, S, Λ, r0, s0, p⟩ => ⟨w, S, Λ, r0, s0, p.bind.imp fun w1 H1 S1 ix l1 r1 p1 v1 rv1 => ?_⟩
  obtain ⟨n, fs, a, Cb, dx, ps, h1, h2, h3, h4, h5, h6, q⟩ := onI_post p1 r1 rv1
  obtain ⟨iv, h7, q⟩ := orBad_post q
  obtain ⟨v, h8, h9⟩ := relKV_lookup h6 h7
  have e4 := hm.symm.trans h4
  cases e4
  exact ⟨a, Ca, dx, ps, v, h3, h5, hc, hn, h8, q.now r1 v h9⟩
theorem ds_fld (c : FC X.K X.mg C f) (ho : DE X W o mo) (hv : DE X W value mv) (hs : swapsWith value (some (.Attribute o f pos')) pos.line X.env = pure false := by rfl) : DS X W (.Assign [.Attribute o f pos'] value pos) (iSetF C f mo mv) := by
  obtain ⟨Ca, hm, hc, hn⟩ := c
  refine (ps_fld ho hv hs).imp fun D σ H ⟨w, S, Λ, r0, s0, p⟩ => ⟨w, S, Λ, r0, s0, p.bind.imp fun w1 H1 S1 iy l1 r1 p1 y ry => ⟨w1, S1, Λ, r1, s0.up l1, p1.bind.imp fun w2 H2 S2 ix l2 r2 p2 v rv => ?_⟩⟩
  obtain ⟨n, fs, a, Cb, dx, ps, h1, h2, h3, h4, h5, h6, q⟩ := onI_post p2 r2 rv
  obtain ⟨hl, q⟩ := chk_post q
  have e4 := hm.symm.trans h4
  cases e4
  exact ⟨a, Ca, dx, ps, h3, h5, hc, hn, by rw [relKV_length h6]; exact hl, q.now (r2.write h2 ⟨Ca, dx, _, hm, upd_same, relKV_put (ry.up l2) h6⟩ (fun _ e => by rw [h1] at e; cases e)) σ ((s0.up l1).up l2)⟩
theorem ds_augf (c : FC X.K X.mg C f) (ho : DE X W o mo) (hv : DE X W value mv) : DS X W (.AugAssign (.Attribute o f tpos) .Add value pos) (iAugF C f mo mv) := by
  obtain ⟨Ca, hm, hc, hn⟩ := c
  refine (ps_fldaug ho hv in_add).imp fun D σ H ⟨w, S, Λ, r0, s0, p⟩ => ⟨w, S, Λ, r0, s0, p.bind.imp fun w1 H1 S1 ix l1 r1 p1 v rv => ?_⟩
  obtain ⟨n, fs, a, Cb, dx, ps, h1, h2, h3, h4, h5, h6, q⟩ := onI_post p1 r1 rv
  obtain ⟨iv, h7, q⟩ := orBad_post q
  obtain ⟨u, h8, h9⟩ := relKV_lookup h6 h7
  have e4 := hm.symm.trans h4
  cases e4
  refine ⟨a, Ca, dx, ps, u, h3, h5, hc, hn, h8, w1, S1, Λ, r1, s0.up l1, q.bind.imp fun w2 H2 S2 iy l2 r2 p2 y ry => ?_⟩
  obtain ⟨i, hi1, hi2, p2⟩ := asI_post p2 (h9.up l2)
  obtain ⟨j, hj1, hj2, p2⟩ := asI_post p2 ry
  refine ⟨i, j, hi2, hj2, ?_⟩
  obtain ⟨n', fs', a', Cb', dx', ps', g1, g2, g3, g4, g5, g6, q⟩ := onI_post p2 r2 (rv.up l2)
  obtain ⟨hl, q⟩ := chk_post q
  have e5 := hm.symm.trans g4
  cases e5
  rw [h3] at g3
  cases g3
  exact ⟨dx', ps', g5, by rw [relKV_length g6]; exact hl, q.now (r2.write g2 ⟨Ca, dx', _, hm, upd_same, relKV_put (.int (i + j)) g6⟩ (fun _ e => by rw [g1] at e; cases e)) σ ((s0.up l1).up l2)⟩
end

/-! ### methods -/
def MCal (P : Program) (w : World) (K : PySem.W.Frag) (mg : Str → Option Value) (base : Heap) (C m : Str) (k : Nat) (ps : List Str) (mf : List IV → Sto → Out IV) : Prop :=
  ∃ (Ca f : Addr) (fd : FuncData), mg C = some (.ref Ca) ∧ Cls K Ca ∧ Meth K Ca m f ∧ L2.Binds K fd ps [] ∧ FnG P w K mg base (L2.CX P w) k f fd ps (spM K mg ps.length mf)
def MLoc (K : PySem.W.Frag) (mg : Str → Option Value) (C m : Str) (qual : Str) (st : Stmt) (ps : List Str) : Prop := ∃ (Ca f : Addr) (fd : FuncData), mg C = some (.ref Ca) ∧ Cls K Ca ∧ Meth K Ca m f ∧ Fun K m qual st f fd ∧ L2.Binds K fd ps []
section
variable {P : Program} {w : World} {K : PySem.W.Frag} {mg : Str → Option Value} {base : Heap}
theorem mcal_def {C m qual : Str} {st : Stmt} {N ps : List Str} {k : Nat} {body : IS} (L : MLoc K mg C m qual st ps) (Sc : FnScope N ps (defScope st))
    (hb : ∀ (f : Addr) (cdv : Value) (A : Around) (outer : List Env) (s : Shared) (H : Hp) (E : XK), RmG k (A.deeper (envOfC qual (defScope st) s.heap.objs.size f cdv)) →
      Takes (DX P w K mg base N qual (defScope st) f cdv A outer s H E) (WEx E) → PassesOwn (model P w) (DX P w K mg base N qual (defScope st) f cdv A outer s H E).A (DX P w K mg base N qual (defScope st) f cdv A outer s H E).env (DX P w K mg base N qual (defScope st) f cdv A outer s H E).xe →
      DSs (DX P w K mg base N qual (defScope st) f cdv A outer s H E) ⟨WEx E, none⟩ (defBody st) body) : MCal P w K mg base C m (k + 1) ps (mDef N.length body) := by
  obtain ⟨Ca, f, fd, h1, h2, h3, h4, h5⟩ := L
  exact ⟨Ca, f, fd, h1, h2, h3, h5, ok_def h4 Sc (hb f)⟩
theorem MCal.eq {C x : Str} {k : Nat} {ps : List Str} {m m' : List IV → Sto → Out IV} (c : MCal P w K mg base C x k ps m) (h : ∀ xs S, xs.length = ps.length → m' xs S ≠ .bad → m xs S = m' xs S) : MCal P w K mg base C x k ps m' := by
  obtain ⟨Ca, f, fd, h1, h2, h3, h4, h5⟩ := c
  exact ⟨Ca, f, fd, h1, h2, h3, h4, ok_eq h5 h⟩
end
/-- o.m(..), o of class C -/
def iMeth (C m : Str) (np : Nat) (mf : List IV → Sto → Out IV) (mo : IE) (ma : IA) : IE := fun Λ S => (mo Λ S).bind fun x S1 => onI S1 C x fun _ fs => chk (fs.lookup m = none) ((ma Λ S1).bind fun xs S2 => chk (xs.length + 1 = np) (relab Λ (mf (x :: xs) S2)))
section
variable {X : Cx} {W : WX} {pos apos : Pos} {k : Nat} {ps : List Str} {mf : List IV → Sto → Out IV} {C m : Str} {o e : Expr} {es : List Expr} {mo : IE} {ma : IA}
theorem de_meth {np : Nat} {pl : Sem Bool} (c : MCal X.prog X.w X.K X.mg X.base C m k ps mf) (tk : Takes X W) (hr : RmG k X.A) (ho : DE X ⟨W, none⟩ o mo) (ha : DA X ⟨W, none⟩ (e :: es) ma) (hnp : ps.length = np := by rfl)
    (hst : starEach (e :: es) X.env = (false, eval e X.env) :: starEach es X.env := by rfl) (hpl : (backTo pos (starEach es X.env)).any (·.1) = false := by rfl)
    (ht : eval (.Call (.Attribute o m apos) (e :: es) [] pos) X.env = (do
      let ov ← eval o X.env
      standAt apos.atName
      let (f, first) ← holding [ov] (getMethod ov m pl)
      callWith pos f first (backTo pos (starEach (e :: es) X.env)) (backToKw pos (keywordEach [] X.env))) := by rfl) :
    DE X ⟨W, none⟩ (.Call (.Attribute o m apos) (e :: es) [] pos) (iMeth C m np mf mo ma) := by
  obtain ⟨Ca, f, fd, hm, hc, hM, hb, F⟩ := c
  subst hnp
  refine ⟨fun pins s σ H Q I h => ?_⟩
  obtain ⟨w, S, Λ, r0, s0, p0⟩ := h
  refine PySem.W.methodCall_KW (pl := pl) (thn (ho.run pins s σ H (fun v H1 => ∃ a dx fs, v = .ref a ∧ H1 a = some (.ins Ca dx fs) ∧ fs.lookup m = none ∧ aM (kx X ⟨W, none⟩) W ma σ H1 fun vs H2 => spM X.K X.mg ps.length mf (v :: vs) H2 Q (WE W σ)) I
    ⟨w, S, Λ, r0, s0, p0.bind.imp fun w1 H1 S1 ix l1 r1 p1 v rv => ?_⟩) fun u s1 ⟨x, H1, I1, rx, a, dx, fs, ex, ea, l, q⟩ => ?_) ht
  · obtain ⟨n, fs, a, Cb, dx, psf, h1, h2, h3, h4, h5, h6, q⟩ := onI_post p1 r1 rv
    obtain ⟨hl, q⟩ := chk_post q
    have e4 := hm.symm.trans h4
    cases e4
    refine ⟨a, dx, psf, h3, h5, relKV_lookN h6 hl, w1, S1, Λ, r1, s0.up l1, q.bind.imp fun w2 H2 S2 ivs l2 r2 p2 vs rvs => ?_⟩
    obtain ⟨hlen, q2⟩ := chk_post p2
    exact ⟨by rw [List.length_cons, rvs.length]; exact hlen, w2, S2, ix :: ivs, r2, .cons (rv.up l2) rvs, relab_post q2 ((s0.up l1).up l2)⟩
  · subst ex
    obtain rfl : u = Value.ref a := rx
    refine getmeth_ok I1 ea hc hM l ?_
    refine PySem.W.callWith_K (first := [.ref a]) (h₀ := X.base) I.ok.mod.kin hM.kp (thn (ha.run pos pins s1 σ H1 _ I1 q) fun us s2 ⟨vs, H2, I2, r, q2⟩ => ⟨I2.kIn, ?_⟩) hst hpl
    exact run_fnG (us := .ref a :: us) (vs := .ref a :: vs) F hr hb (passAt tk σ) I2 (.cons rfl r) q2
theorem de_meth0 {np : Nat} {pl : Sem Bool} (c : MCal X.prog X.w X.K X.mg X.base C m k ps mf) (tk : Takes X W) (hr : RmG k X.A) (ho : DE X ⟨W, none⟩ o mo) (hnp : ps.length = np := by rfl)
    (ht : eval (.Call (.Attribute o m apos) [] [] pos) X.env = (do
      let ov ← eval o X.env
      standAt apos.atName
      let (f, first) ← holding [ov] (getMethod ov m pl)
      callWith pos f first (backTo pos (starEach [] X.env)) (backToKw pos (keywordEach [] X.env))) := by rfl) :
    DE X ⟨W, none⟩ (.Call (.Attribute o m apos) [] [] pos) (iMeth C m np mf mo iNil) := by
  obtain ⟨Ca, f, fd, hm, hc, hM, hb, F⟩ := c
  subst hnp
  refine ⟨fun pins s σ H Q I h => ?_⟩
  obtain ⟨w, S, Λ, r0, s0, p0⟩ := h
  refine PySem.W.methodCall_KW (pl := pl) (thn (ho.run pins s σ H (fun v H1 => ∃ a dx fs, v = .ref a ∧ H1 a = some (.ins Ca dx fs) ∧ fs.lookup m = none ∧ spM X.K X.mg ps.length mf [v] H1 Q (WE W σ)) I
    ⟨w, S, Λ, r0, s0, p0.bind.imp fun w1 H1 S1 ix l1 r1 p1 v rv => ?_⟩) fun u s1 ⟨x, H1, I1, rx, a, dx, fs, ex, ea, l, q⟩ => ?_) ht
  · obtain ⟨n, fs, a, Cb, dx, psf, h1, h2, h3, h4, h5, h6, q⟩ := onI_post p1 r1 rv
    obtain ⟨hl, q⟩ := chk_post q
    have e4 := hm.symm.trans h4
    cases e4
    refine ⟨a, dx, psf, h3, h5, relKV_lookN h6 hl, ?_⟩
    have q : Post (kx X ⟨W, none⟩) W w1 (chk (([] : List IV).length + 1 = ps.length) (relab Λ (mf (ix :: []) S1))) _ := q
    obtain ⟨hlen, q2⟩ := chk_post q
    exact ⟨hlen, w1, S1, [ix], r1, .cons rv .nil, relab_post q2 (s0.up l1)⟩
  · subst ex
    obtain rfl : u = Value.ref a := rx
    refine getmeth_ok I1 ea hc hM l ?_
    exact PySem.W.callWith_K0 (first := [.ref a]) I1.kIn hM.kp (run_fnG (us := [.ref a]) (vs := [.ref a]) F hr hb (passAt tk σ) I1 (.cons rfl .nil) q)
end

/-! ### making -/
def KCal (P : Program) (w : World) (K : PySem.W.Frag) (mg : Str → Option Value) (base : Heap) (C : Str) (k : Nat) (ps : List Str) (mf : List IV → Sto → Out IV) : Prop :=
  ∃ (Ca f : Addr) (fd : FuncData), mg C = some (.ref Ca) ∧ Mk K Ca f ∧ L2.Binds K fd ps [] ∧ FnG P w K mg base (L2.CX P w) k f fd ps (spM K mg ps.length mf)
def KLoc (K : PySem.W.Frag) (mg : Str → Option Value) (C : Str) (qual : Str) (st : Stmt) (ps : List Str) : Prop := ∃ (Ca f : Addr) (fd : FuncData), mg C = some (.ref Ca) ∧ Mk K Ca f ∧ Fun K "__init__" qual st f fd ∧ L2.Binds K fd ps []
section
variable {P : Program} {w : World} {K : PySem.W.Frag} {mg : Str → Option Value} {base : Heap}
theorem kcal_def {C qual : Str} {st : Stmt} {N ps : List Str} {k : Nat} {body : IS} (L : KLoc K mg C qual st ps) (Sc : FnScope N ps (defScope st))
    (hb : ∀ (f : Addr) (cdv : Value) (A : Around) (outer : List Env) (s : Shared) (H : Hp) (E : XK), RmG k (A.deeper (envOfC qual (defScope st) s.heap.objs.size f cdv)) →
      Takes (DX P w K mg base N qual (defScope st) f cdv A outer s H E) (WEx E) → PassesOwn (model P w) (DX P w K mg base N qual (defScope st) f cdv A outer s H E).A (DX P w K mg base N qual (defScope st) f cdv A outer s H E).env (DX P w K mg base N qual (defScope st) f cdv A outer s H E).xe →
      DSs (DX P w K mg base N qual (defScope st) f cdv A outer s H E) ⟨WEx E, none⟩ (defBody st) body) : KCal P w K mg base C (k + 1) ps (mDef N.length body) := by
  obtain ⟨Ca, f, fd, h1, h2, h3, h4⟩ := L
  exact ⟨Ca, f, fd, h1, h2, h4, ok_def h3 Sc (hb f)⟩
theorem KCal.eq {C : Str} {k : Nat} {ps : List Str} {m m' : List IV → Sto → Out IV} (c : KCal P w K mg base C k ps m) (h : ∀ xs S, xs.length = ps.length → m' xs S ≠ .bad → m xs S = m' xs S) : KCal P w K mg base C k ps m' := by
  obtain ⟨Ca, f, fd, h1, h2, h3, h4⟩ := c
  exact ⟨Ca, f, fd, h1, h2, h3, ok_eq h4 h⟩
end
/-- C(..) -/
def iMake (C : Str) (np : Nat) (mf : List IV → Sto → Out IV) (ma : IA) : IE := fun Λ S => (ma Λ S).bind fun xs S1 => chk (xs.length + 1 = np) ((relab Λ (mf (.adr S1.length :: xs) (S1 ++ [.ins C []]))).bind fun v S2 => chk (isN v = true) (.ok (.adr S1.length) S2))
section
variable {X : Cx} {W : WX} {pos p : Pos} {k : Nat} {ps : List Str} {mf : List IV → Sto → Out IV} {C : Str} {e : Expr} {es : List Expr} {ma : IA}
theorem de_make {np : Nat} (c : KCal X.prog X.w X.K X.mg X.base C k ps mf) (tk : Takes X W) (hr : RmG (k + 1) X.A) (ha : DA X ⟨W, none⟩ (e :: es) ma) (hg : Gl X C := by rfl) (hnp : ps.length = np := by rfl) (hdb : (C == ("__debug__" : Str)) = false := by decide)
    (he : starEach (e :: es) X.env = (false, eval e X.env) :: starEach es X.env := by rfl) (hpl : (backTo pos (starEach es X.env)).any (·.1) = false := by rfl) :
    DE X ⟨W, none⟩ (.Call (.Name C p) (e :: es) [] pos) (iMake C np mf ma) := by
  obtain ⟨Ca, f, fd, hm, M, hb, F⟩ := c
  subst hnp
  refine ⟨fun pins s σ H Q I h => ?_⟩
  obtain ⟨w, S, Λ, r0, s0, p0⟩ := h
  refine wpAny_Call_Name_kw (ld_glob I hg hm ?_ hdb)
  have q0 := ha.run pos pins s σ H (fun vs H1 => ∀ x dx, H1 x = none → H1 dx = none → dx ≠ x → spM X.K X.mg ps.length mf (.ref x :: vs) (upd (upd H1 dx (.own x)) x (.ins Ca dx [])) (fun v H2 => v = .non ∧ Q (.ref x) H2) (WE W σ)) I
    ⟨w, S, Λ, r0, s0, p0.bind.imp fun w1 H1 S1 ivs l1 r1 p1 vs rvs => by
      intro x dx hx hdx hne
      obtain ⟨hlen, q⟩ := chk_post p1
      obtain ⟨l2, r2⟩ := r1.frz (o := .own x) hdx
      have hx2 : upd H1 dx (.own x) x = none := by rw [upd_ne (Ne.symm hne)]; exact hx
      obtain ⟨l3, r3⟩ := r2.alloc (p := x) (o := .ins Ca dx []) (c := .ins C []) hx2 fun w' l' => ⟨Ca, dx, [], hm, upd_same, .nil⟩
      have l13 := l2.trans l3
      have hrho : (w1.rho ++ [x])[S1.length]? = some x := by rw [← r1.len]; simp
      refine ⟨by rw [List.length_cons, rvs.length]; exact hlen, _, _, .adr S1.length :: ivs, r3, .cons (.adr hrho) (rvs.up l13), relab_post (?_ : Post (kx X ⟨W, none⟩) W _ (relab Λ (mf (.adr S1.length :: ivs) (S1 ++ [.ins C []]))) _) ((s0.up l1).up l13)⟩
      refine (q.up l13).bind.imp fun w4 H4 S4 iv l4 r4 p4 v rv => ?_
      obtain ⟨hn, p5⟩ := chk_post p4
      have hv : v = .non := by
        cases iv with
        | non => cases rv; rfl
        | _ => cases hn
      exact ⟨hv, p5.now r4 _ (.adr (l4.1.get hrho))⟩⟩
  refine PySem.W.callWith_K (h₀ := X.base) I.ok.mod.kin M.kp (thn q0 fun us s1 ⟨vs, H1, I1, r, q⟩ => ⟨I1.kIn, ?_⟩) he hpl
  -- the making
  have hq := q (s1.heap.objs.size + 1) s1.heap.objs.size (I1.hok.fresh (Nat.le_succ _)) (I1.hok.fresh (Nat.le_refl _)) (Nat.ne_of_lt (Nat.lt_succ_self _))
  have I2 := Inv.made (C := Ca) I1
  have r2 : Vals (V.ref (s1.heap.objs.size + 1) :: vs) (Value.ref (s1.heap.objs.size + 1) :: us) := .cons rfl r
  have hl : (Value.ref (s1.heap.objs.size + 1) :: us).length = ps.length := by
    have e := r2.length
    rw [F.len _ _ _ _ hq] at e
    exact e.symm
  have b := hb _ (Value.ref (s1.heap.objs.size + 1) :: us) I2.kIn (by rw [List.append_nil]; exact hl)
  rw [List.append_nil] at b
  refine wpAny_call (make_map (f := f) I1.kIn M.makes M.init (beq_iff_eq.mp M.fn) (codeAny_mono (F.run _ X.stack _ _ ⟨Value.ref (s1.heap.objs.size + 1) :: us, []⟩ (Value.ref (s1.heap.objs.size + 1) :: us) _ _ (WE W σ) (hr.make Ca us [])
    (I2.env0.make Ca us []) b r2 hq) fun r s' hq' => ?_))
  cases r with
  | error er => exact passAt tk σ pins _ _ er s' I2 hq'
  | ok fl =>
    cases fl with
    | ret u =>
      obtain ⟨v, H', I3, rv, ev, q3⟩ := I2.after hq'
      subst ev
      exact ⟨rv, ⟨V.ref (s1.heap.objs.size + 1), H', I3, rfl, q3⟩⟩
    | next => exact False.elim hq'
    | brk => exact False.elim hq'
    | cont => exact False.elim hq'
end
end Sm

/-! dicts, texts cut, f-strings, further statements -/
namespace Sm
open PySem PySem.Spec PyProof.Rows L2

/-! ### what is not told -/
def iBad {α : Type} : Slots → Sto → Out α := fun _ _ => .bad
section
variable {X : Cx} {W : WZ}
theorem de_bad {e : Expr} : DE X W e iBad := ⟨fun _ _ _ _ _ _ ⟨_, _, _, _, _, p⟩ => p.elim⟩
theorem ds_bad {e : Stmt} : DS X W e iBad := ⟨fun _ _ _ _ _ _ ⟨_, _, _, _, _, p⟩ => p.elim⟩
theorem dss_bad {e : List Stmt} : DSs X W e iBad := ⟨fun _ _ _ _ _ _ ⟨_, _, _, _, _, p⟩ => p.elim⟩
theorem dt_bad {e : Expr} : DT X W e iBad := ⟨fun _ _ _ _ _ _ ⟨_, _, _, _, _, p⟩ => p.elim⟩
end

/-! ### dicts -/
def keyI : IV → Option Key
  | .str s => some (.inr s)
  | .int i => some (.inl i)
  | _ => none
theorem keyI_rel {K : KX} {w : Wd} {v : V} {x : IV} {k : Key} (e : keyI x = some k) (r : Rel K w v x) : v = kV k := by
  cases x with
  | str s => cases e; cases r; rfl
  | int s => cases e; cases r; rfl
  | _ => cases e
def keyV : Key → IV
  | .inl i => .int i
  | .inr s => .str s
theorem keyV_rel {K : KX} {w : Wd} (k : Key) : Rel K w (kV k) (keyV k) := by
  cases k with
  | inl i => exact .int i
  | inr s => exact .str s
def valI (kvs : List (Key × IV)) (k : Key) : Option IV := (kvs.find? fun kv => decide (kv.1 = k)).map (·.2)
def putK' (kvs : List (Key × IV)) (k : Key) (v : IV) : List (Key × IV) :=
  if (kvs.any fun kv => decide (kv.1 = k)) = true then kvs.map (fun kv => if kv.1 = k then (kv.1, v) else kv) else kvs ++ [(k, v)]
theorem relKV_val {K : KX} {w : Wd} {k : Key} : ∀ {ps : List (Key × V)} {kvs : List (Key × IV)}, RelKV K w ps kvs → (valI kvs k = none ∧ valV ps k = none) ∨ ∃ iv v, valI kvs k = some iv ∧ valV ps k = some v ∧ Rel K w v iv
  | _, _, .nil => .inl ⟨rfl, rfl⟩
  | (a, v) :: ps, (a', u) :: kvs, .cons ⟨h1, h2⟩ t => by
    have h1 : a = a' := h1
    subst h1
    by_cases h : a = k
    · right
      refine ⟨u, v, ?_, ?_, h2⟩
      · simp [valI, List.find?_cons, h]
      · exact valV_pos h
    · have e1 : valI ((a, u) :: kvs) k = valI kvs k := by simp [valI, List.find?_cons, h]
      have e2 : valV ((a, v) :: ps) k = valV ps k := valV_neg h
      rw [e1, e2]
      exact relKV_val t
theorem relKV_any {K : KX} {w : Wd} {k : Key} : ∀ {ps : List (Key × V)} {kvs : List (Key × IV)}, RelKV K w ps kvs → (ps.any fun kv => decide (kv.1 = k)) = (kvs.any fun kv => decide (kv.1 = k))
  | _, _, .nil => rfl
  | (a, v) :: ps, (a', u) :: kvs, .cons ⟨h1, h2⟩ t => by
    have h1 : a = a' := h1
    subst h1
    rw [List.any_cons, List.any_cons, relKV_any t]
theorem relKV_map {K : KX} {w : Wd} {k : Key} {y : V} {iv : IV} (ry : Rel K w y iv) : ∀ {ps : List (Key × V)} {kvs : List (Key × IV)}, RelKV K w ps kvs → RelKV K w (ps.map fun kv => if kv.1 = k then (kv.1, y) else kv) (kvs.map fun kv => if kv.1 = k then (kv.1, iv) else kv)
  | _, _, .nil => .nil
  | (a, v) :: ps, (a', u) :: kvs, .cons ⟨h1, h2⟩ t => by
    have h1 : a = a' := h1
    subst h1
    refine .cons ?_ (relKV_map ry t)
    by_cases h : a = k
    · simp only [if_pos h]; exact ⟨trivial, ry⟩
    · simp only [if_neg h]; exact ⟨trivial, h2⟩
theorem relKV_append {κ : Type} {K : KX} {w : Wd} : ∀ {ps qs : List (κ × V)} {kvs ls : List (κ × IV)}, RelKV K w ps kvs → RelKV K w qs ls → RelKV K w (ps ++ qs) (kvs ++ ls)
  | _, _, _, _, .nil, s => s
  | _, _, _, _, .cons h t, s => .cons h (relKV_append t s)
theorem relKV_putK {K : KX} {w : Wd} {k : Key} {y : V} {iv : IV} (ry : Rel K w y iv) {ps : List (Key × V)} {kvs : List (Key × IV)} (r : RelKV K w ps kvs) : RelKV K w (putK ps k y) (putK' kvs k iv) := by
  unfold putK putK'
  rw [relKV_any r]
  split
  · exact relKV_map ry r
  · exact relKV_append r (.cons ⟨rfl, ry⟩ .nil)
/-- a dict in the store, to be read -/
def onD {α : Type} (S : Sto) (x : IV) (k : Nat → List (Key × IV) → Out α) : Out α := match x with
  | .adr n => (match S[n]? with
    | some (.dic kvs) => k n kvs
    | some (.dicL kvs) => k n kvs
    | _ => .bad)
  | _ => .bad
theorem onD_s {α : Type} {S : Sto} {n : Nat} {kvs : List (Key × IV)} {k : Nat → List (Key × IV) → Out α} (h : S[n]? = some (.dic kvs)) : onD S (.adr n) k = k n kvs := by
  unfold onD; simp only [h]
theorem onD_l {α : Type} {S : Sto} {n : Nat} {kvs : List (Key × IV)} {k : Nat → List (Key × IV) → Out α} (h : S[n]? = some (.dicL kvs)) : onD S (.adr n) k = k n kvs := by
  unfold onD; simp only [h]
theorem onD_post {α : Type} {K : KX} {W : WX} {w : Wd} {S : Sto} {H : Hp} {v : V} {x : IV} {k : Nat → List (Key × IV) → Out α} {P : Wd → Hp → Sto → α → Prop} (h : Post K W w (onD S x k) P) (r : R K w S H) (rx : Rel K w v x) :
    ∃ n kvs a ps, v = .ref a ∧ Rd H a (.dK ps) ∧ RelKV K w ps kvs ∧ Post K W w (k n kvs) P := by
  unfold onD at h
  split at h
  · cases rx with
    | adr hrho =>
      split at h
      · rename_i q
        obtain ⟨ps, h1, h2⟩ := r.cell _ _ _ q hrho
        exact ⟨_, _, _, ps, rfl, .inl h1, h2, h⟩
      · rename_i q
        obtain ⟨o, ps, h0, h1, h2⟩ := r.cell _ _ _ q hrho
        exact ⟨_, _, _, ps, rfl, .inr ⟨o, h1⟩, h2, h⟩
      · exact h.elim
  · exact h.elim
/-- .., to be written -/
def onDw {α : Type} (S : Sto) (x : IV) (k : Nat → List (Key × IV) → Out α) : Out α := match x with
  | .adr n => (match S[n]? with
    | some (.dic kvs) => k n kvs
    | _ => .bad)
  | _ => .bad
theorem onDw_s {α : Type} {S : Sto} {n : Nat} {kvs : List (Key × IV)} {k : Nat → List (Key × IV) → Out α} (h : S[n]? = some (.dic kvs)) : onDw S (.adr n) k = k n kvs := by
  unfold onDw; simp only [h]
theorem onDw_post {α : Type} {K : KX} {W : WX} {w : Wd} {S : Sto} {H : Hp} {v : V} {x : IV} {k : Nat → List (Key × IV) → Out α} {P : Wd → Hp → Sto → α → Prop} (h : Post K W w (onDw S x k) P) (r : R K w S H) (rx : Rel K w v x) :
    ∃ n kvs a ps, S[n]? = some (.dic kvs) ∧ w.rho[n]? = some a ∧ v = .ref a ∧ H a = some (.dK ps) ∧ RelKV K w ps kvs ∧ Post K W w (k n kvs) P := by
  unfold onDw at h
  split at h
  · cases rx with
    | adr hrho =>
      split at h
      · rename_i q
        obtain ⟨ps, h1, h2⟩ := r.cell _ _ _ q hrho
        exact ⟨_, _, _, ps, q, hrho, rfl, h1, h2, h⟩
      · exact h.elim
  · exact h.elim
def fDGet (x y : IV) (S : Sto) : Out IV := onD S x fun _ kvs => orBad (keyI y) fun k => orBad (valI kvs k) fun v => .ok v S
def fDIn (y x : IV) (S : Sto) : Out IV := onD S x fun _ kvs => orBad (keyI y) fun k => .ok (.bl (valI kvs k).isSome) S
def fDNotIn (y x : IV) (S : Sto) : Out IV := onD S x fun _ kvs => orBad (keyI y) fun k => .ok (.bl (!(valI kvs k).isSome)) S
def iDNew : IE := fun _ S => .ok (.adr S.length) (S ++ [.dic []])
def iDPut (md my mv : IE) : IS := fun Λ S => (mv Λ S).bind fun v S1 => (md Λ S1).bind fun x S2 => (my Λ S2).bind fun y S3 => onDw S3 x fun n kvs => orBad (keyI y) fun k => chk (kvs.length < sizeLine) (.ok (.nx Λ) (S3.set n (.dic (putK' kvs k v))))
section
variable {X : Cx} {W : WZ} {o i e value : Expr} {pos pos' : Pos} {mo mi me mv : IE}
theorem de_dget (hu : X.A.units + 1 < cLine) (ho : DE X W o mo) (hi : DE X W i mi) (hs : NoSl i := by exact fun _ _ => rfl) : DE X W (.Subscript o i pos) (iBin fDGet mo mi) :=
  (pe_dget hu ho hi hs).imp fun σ H Q ⟨w, S, Λ, r0, s0, p⟩ => ⟨w, S, Λ, r0, s0, p.bind.imp fun w1 H1 S1 ix l1 r1 p1 v1 rv1 => ⟨w1, S1, Λ, r1, s0.up l1, p1.bind.imp fun w2 H2 S2 iy l2 r2 p2 v2 rv2 => by
    obtain ⟨n, kvs, a, ps, e1, h1, h2, q⟩ := onD_post p2 r2 (rv1.up l2)
    obtain ⟨k, hk, q⟩ := orBad_post q
    obtain ⟨iv, hv, q⟩ := orBad_post q
    rcases relKV_val (k := k) h2 with ⟨z, _⟩ | ⟨iv', v, z1, z2, z3⟩
    · rw [z] at hv; cases hv
    · rw [z1] at hv
      cases hv
      exact ⟨a, v, e1, .inl ⟨ps, k, h1, keyI_rel hk rv2, z2.symm⟩, q.now r2 v z3⟩⟩⟩
theorem de_din (hu : X.A.units + 1 < cLine) (hi : DE X W i mi) (ho : DE X W o mo) (hb : behindInMarks .In o = false := by rfl) : DE X W (.Compare i [.In] [o] pos) (iBin fDIn mi mo) :=
  (pe_cmp (pc_din hu hi ho) hb).imp fun σ H Q ⟨w, S, Λ, r0, s0, p⟩ => ⟨w, S, Λ, r0, s0, p.bind.imp fun w1 H1 S1 iy l1 r1 p1 v1 rv1 => ⟨w1, S1, Λ, r1, s0.up l1, p1.bind.imp fun w2 H2 S2 ix l2 r2 p2 v2 rv2 => by
    obtain ⟨n, kvs, a, ps, e1, h1, h2, q⟩ := onD_post p2 r2 rv2
    obtain ⟨k, hk, q⟩ := orBad_post q
    rcases relKV_val (k := k) h2 with ⟨z, z'⟩ | ⟨iv', v, z1, z2, z3⟩
    · rw [z] at q
      exact ⟨a, none, e1, .inl ⟨ps, k, h1, keyI_rel hk (rv1.up l2), z'.symm⟩, q.now r2 _ (.bl _)⟩
    · rw [z1] at q
      exact ⟨a, some v, e1, .inl ⟨ps, k, h1, keyI_rel hk (rv1.up l2), z2.symm⟩, q.now r2 _ (.bl _)⟩⟩⟩
theorem de_dnotin (hu : X.A.units + 1 < cLine) (hi : DE X W i mi) (ho : DE X W o mo) (hb : behindInMarks .NotIn o = false := by rfl) : DE X W (.Compare i [.NotIn] [o] pos) (iBin fDNotIn mi mo) :=
  (pe_cmp (pc_dnotin hu hi ho) hb).imp fun σ H Q ⟨w, S, Λ, r0, s0, p⟩ => ⟨w, S, Λ, r0, s0, p.bind.imp fun w1 H1 S1 iy l1 r1 p1 v1 rv1 => ⟨w1, S1, Λ, r1, s0.up l1, p1.bind.imp fun w2 H2 S2 ix l2 r2 p2 v2 rv2 => by
    obtain ⟨n, kvs, a, ps, e1, h1, h2, q⟩ := onD_post p2 r2 rv2
    obtain ⟨k, hk, q⟩ := orBad_post q
    rcases relKV_val (k := k) h2 with ⟨z, z'⟩ | ⟨iv', v, z1, z2, z3⟩
    · rw [z] at q
      exact ⟨a, none, e1, .inl ⟨ps, k, h1, keyI_rel hk (rv1.up l2), z'.symm⟩, q.now r2 _ (.bl _)⟩
    · rw [z1] at q
      exact ⟨a, some v, e1, .inl ⟨ps, k, h1, keyI_rel hk (rv1.up l2), z2.symm⟩, q.now r2 _ (.bl _)⟩⟩⟩
theorem dt_of (m : IE) (h : DE X W e m) (hq : ∀ whole, isTrue e X.env whole = (do let v ← whole; standAt e.pos; holding [v] (truthy v)) := by intro _; rfl) : DT X W e (iTru m) := dt_tru h hq
theorem de_dnew : DE X W (.Dict [] [] pos) iDNew := pe_dnewK.imp fun σ H Q ⟨w, S, Λ, r0, s0, p⟩ => fun d hd => by
  obtain ⟨l, r'⟩ := r0.alloc (c := .dic []) (o := .dK []) hd fun w' l => ⟨[], upd_same, .nil⟩
  refine Post.ok (a := IV.adr S.length) (S := S ++ [Cell.dic []]) p l r' _ (.adr ?_)
  show (w.rho ++ [d])[S.length]? = some d
  rw [← r0.len, List.getElem?_append_right (Nat.le_refl _), Nat.sub_self]
  rfl
theorem ds_dput (hu : X.A.units + 1 < cLine) (ho : DE X W o mo) (hi : DE X W i mi) (hv : DE X W value mv) (hs : swapsWith value (some (.Subscript o i pos')) pos.line X.env = pure false := by rfl) : DS X W (.Assign [.Subscript o i pos'] value pos) (iDPut mo mi mv) :=
  (ps_dput hu ho hi hv hs).imp fun D σ H ⟨w, S, Λ, r0, s0, p⟩ => ⟨w, S, Λ, r0, s0, p.bind.imp fun w1 H1 S1 iy l1 r1 p1 y ry => ⟨w1, S1, Λ, r1, s0.up l1, p1.bind.imp fun w2 H2 S2 ix l2 r2 p2 x rx => ⟨w2, S2, Λ, r2, (s0.up l1).up l2, p2.bind.imp fun w3 H3 S3 ik l3 r3 p3 kk rk => by
    obtain ⟨n, kvs, a, ps, h1, h2, e1, h3, h4, q⟩ := onDw_post p3 r3 (rx.up l3)
    obtain ⟨k, hk, q⟩ := orBad_post q
    obtain ⟨hl, q⟩ := chk_post q
    exact ⟨a, _, e1, .inl ⟨ps, k, h3, keyI_rel hk rk, by rw [relKV_length h4]; exact hl, rfl⟩, q.now (r3.write h2 ⟨_, upd_same, relKV_putK (ry.up (l2.trans l3)) h4⟩ (fun _ e => by rw [h1] at e; cases e)) σ (((s0.up l1).up l2).up l3)⟩⟩⟩⟩
end

/-! ### for k in d -/
def unlD (n : Nat) (kvs : List (Key × IV)) : Out Fl → Out Fl
  | .ok fl S => (match S[n]? with
    | some (.dicL _) => .ok fl (S.set n (.dic kvs))
    | _ => .bad)
  | _ => .bad
noncomputable def iForD (md : IE) (g : IG) (b : IS) : IS := fun Λ S => match md Λ S with
  | .ok (.adr n) _ => (match S[n]? with
    | some (.dic kvs) => (match md Λ (S.set n (.dicL kvs)) with
      | .ok (.adr m) S1 => if m = n then unlD n kvs (iIter ⟨kvs.map fun kv => keyV kv.1, none⟩ g b (kvs.map fun kv => keyV kv.1) Λ S1) else .bad
      | _ => .bad)
    | _ => .bad)
  | _ => .bad
theorem relKV_get {κ : Type} {K : KX} {w : Wd} : ∀ {ps : List (κ × V)} {kvs : List (κ × IV)} {i : Nat}, RelKV K w ps kvs → (kvs[i]?).map (·.1) = (ps[i]?).map (·.1)
  | _, _, _, .nil => rfl
  | (a, v) :: ps, (a', u) :: kvs, 0, .cons ⟨h1, h2⟩ t => by
    have h1 : a = a' := h1
    subst h1
    rfl
  | (a, v) :: ps, (a', u) :: kvs, i + 1, .cons _ t => relKV_get (i := i) t
section
variable {X : Cx} {W : WZ} {pos : Pos} {tg iter : Expr} {body : List Stmt} {md : IE} {g : IG} {b : IS}
theorem ds_forD (hp : PassesOwn (model X.prog X.w) X.A X.env X.xe) (hc : X.calm = true) (hi : DE X W iter md) (hg : DG X W tg g) (hb : DSs X W body b) (hs : ∀ x, foldedSetIterable iter X.env x = pure x := by intro _; rfl) : DS X W (.For tg iter body [] pos) (iForD md g b) := by
  refine (ps_lock (ps_for hp hc (pi_keys hi) hg hb hs)).imp fun D σ H ⟨w, S, Λ, r0, s0, p⟩ => ?_
  unfold iForD at p
  cases e0 : md Λ S with
  | exc C k L S' => rw [e0] at p; exact p.elim
  | bad => rw [e0] at p; exact p.elim
  | ok x S' =>
    rw [e0] at p
    cases x with
    | adr n =>
      cases e1 : S[n]? with
      | none => simp only [e1] at p; exact p.elim
      | some c =>
        cases c with
        | dic kvs =>
          simp only [e1] at p
          obtain ⟨a, ha⟩ := r0.addr e1
          obtain ⟨ps, h1, h2⟩ := r0.cell _ _ _ e1 ha
          refine ⟨a, _, h1, True.intro, fun od => ?_⟩
          have rL := r0.lock (o := od) ha e1 h1 h2
          have l0 : Wd.lr w ⟨w.rho, w.F, upd w.G a (.frz od (.dK ps))⟩ := ⟨⟨[], by simp⟩, Same.refl _⟩
          have hG : w.G a = none := by
            rcases (r0.own n a ha).2 with z | ⟨k, z⟩
            · exact z
            · rw [e1] at z; cases z
          refine ⟨⟨w.rho, w.F, upd w.G a (.frz od (.dK ps))⟩, _, Λ, rL, s0.mono l0, ?_⟩
          cases e2 : md Λ (S.set n (.dicL kvs)) with
          | exc C k L S' => rw [e2] at p; exact p.elim
          | bad => rw [e2] at p; exact p.elim
          | ok x S1 =>
            rw [e2] at p
            cases x with
            | adr m =>
              by_cases hm : m = n
              · subst hm
                have p : Post (kx X W) W.x w (if m = m then unlD m kvs (iIter ⟨kvs.map fun kv => keyV kv.1, none⟩ g b (kvs.map fun kv => keyV kv.1) Λ S1) else .bad) _ := p
                rw [if_pos rfl] at p
                intro w1 H1 l1 r1 v rv
                have ha1 : w1.rho[m]? = some a := l1.1.get (w := ⟨w.rho, w.F, upd w.G a (.frz od (.dK ps))⟩) ha
                have hv : v = .ref a := by
                  cases rv with
                  | adr h => rw [ha1] at h; cases h; rfl
                have hG1 : w1.G = upd w.G a (.frz od (.dK ps)) := l1.G
                have gz : ∀ (w' : Wd) (S' : Sto) (H' : Hp), w1.lz w' → R (kx X W) w' S' H' → H' a = some (.frz od (.dK ps)) := fun w' S' H' l' r' => r'.G _ _ (l'.fz _ _ _ (by rw [hG1]; exact upd_same))
                refine ⟨a, od, hv, .inl ⟨ps, gz w1 S1 H1 (Wd.le.refl w1).lz r1, ?_⟩⟩
                have hJ : ItR (kx X W) w1 (Itk a od ps) ⟨kvs.map fun kv => keyV kv.1, none⟩ := by
                  have hlen := relKV_length h2
                  refine ⟨fun w' S' H' i l r' st hi => ⟨gz w' S' H' l r', ?_⟩, fun w' S' H' i l r' st hi => ⟨gz w' S' H' l r', ?_⟩, fun w' S' H' i iv x H2 l r' st hi hy => ?_⟩
                  · have hi : i < (kvs.map fun kv => keyV kv.1).length := hi
                    rw [List.length_map] at hi
                    omega
                  · have hi : (kvs.map fun kv => keyV kv.1).length ≤ i := hi
                    rw [List.length_map] at hi
                    omega
                  · obtain ⟨f1, k, u, f2, f3⟩ := hy
                    subst f1 f3
                    have hi : (kvs.map fun kv => keyV kv.1)[i]? = some iv := hi
                    rw [List.getElem?_map] at hi
                    have := relKV_get (i := i) h2
                    rw [f2] at this
                    cases hk : kvs[i]? with
                    | none => rw [hk] at this; cases this
                    | some q =>
                      rw [hk] at this hi
                      have : q.1 = k := Option.some.inj this
                      have hi : keyV q.1 = iv := Option.some.inj hi
                      rw [← hi, this]
                      exact ⟨w', Wd.le.refl _, r', keyV_rel k⟩
                have sw : SR (kx X W) w1 σ Λ := (s0.mono l0).up l1
                refine for_loop (D := ⟨fun σ' H' => H' a = some (.frz od (.dK ps)) ∧ D.nx σ' (upd H' a (.dK ps)), fun v H' => H' a = some (.frz od (.dK ps)) ∧ D.rt v (upd H' a (.dK ps)), fun σ' H' => H' a = some (.frz od (.dK ps)) ∧ D.bk σ' (upd H' a (.dK ps)), fun σ' H' => H' a = some (.frz od (.dK ps)) ∧ D.ct σ' (upd H' a (.dK ps))⟩) hJ r1 sw ?_
                show Post (kx X W) W.x w1 (iIter _ g b (kvs.map fun kv => keyV kv.1) Λ S1) _
                cases e3 : iIter ⟨kvs.map fun kv => keyV kv.1, none⟩ g b (kvs.map fun kv => keyV kv.1) Λ S1 with
                | exc C k L S' => rw [e3] at p; exact p.elim
                | bad => rw [e3] at p; exact p.elim
                | ok fl S2 =>
                  rw [e3] at p
                  have p : Post (kx X W) W.x w (match S2[m]? with
                    | some (.dicL _) => .ok fl (S2.set m (.dic kvs))
                    | _ => .bad) _ := p
                  cases e4 : S2[m]? with
                  | none => rw [e4] at p; exact p.elim
                  | some c2 =>
                    rw [e4] at p
                    cases c2 with
                    | dicL kvs2 =>
                      intro w2 H2 l2 r2
                      have p : Post (kx X W) W.x w (.ok fl (S2.set m (.dic kvs))) _ := p
                      obtain ⟨rho2, F2, G2⟩ := w2
                      have hG2 : G2 = upd w.G a (.frz od (.dK ps)) := l2.G.trans hG1
                      subst hG2
                      have ha2 : rho2[m]? = some a := l2.1.get ha1
                      have l02 : w.le ⟨rho2, F2, w.G⟩ := ⟨⟨(l0.trans (l1.1.trans l2.1)).rho, (l0.trans (l1.1.trans l2.1)).F⟩, rfl⟩
                      obtain ⟨g1, g2⟩ := r2.unlockK (kvs := kvs) ha2 e4 hG (h2.up l02)
                      have q := p _ _ l02 g2
                      have cv : Wd.lr ⟨rho2, F2, upd w.G a (.frz od (.dK ps))⟩ ⟨rho2, F2, w.G⟩ := ⟨⟨[], by simp⟩, Same.refl _⟩
                      cases fl with
                      | nx L => exact fun σ2 s2 => ⟨g1, q σ2 (s2.mono cv)⟩
                      | bk L => exact fun σ2 s2 => ⟨g1, q σ2 (s2.mono cv)⟩
                      | ct L => exact fun σ2 s2 => ⟨g1, q σ2 (s2.mono cv)⟩
                      | rt v => exact fun v' rv' => ⟨g1, q v' (Rel.mono cv _ _ rv')⟩
                    | _ => exact p.elim
              · have p : Post (kx X W) W.x w (if m = n then unlD n kvs (iIter ⟨kvs.map fun kv => keyV kv.1, none⟩ g b (kvs.map fun kv => keyV kv.1) Λ S1) else .bad) _ := p
                rw [if_neg hm] at p; exact p.elim
            | _ => exact p.elim
        | _ => simp only [e1] at p; exact p.elim
    | _ => exact p.elim
end
end Sm

/-! texts cut, lists shortened, f-strings, two targets, class constants, isinstance of what is handled -/
namespace Sm
open PySem PySem.Spec PyProof.Rows L2

/-! ### tuple(x) -/
def fTuple (xs : List IV) (S : Sto) : Out IV := a1 xs fun x => match x with
  | .tup ys => .ok (.tup ys) S
  | x => orBad (lstX S x) fun ys => mkT ys S
theorem cs_tuple {K : KX} {W : WX} : CaS K W (fun xs H Q => ∃ p ys, xs = [.ref p] ∧ ((SqL K.k H p ys ∧ ∀ l, H l = none → Q (.ref l) (upd H l (.tup ys))) ∨ (SqT K.k H p ys ∧ Q (.ref p) H))) fTuple := fun w S H xs ix Q r rx p => by
  obtain ⟨v, x, rfl, rfl, rv, p⟩ := a1_post p rx
  split at p
  · cases rv with
    | tup h1 h2 => exact ⟨_, _, rfl, .inr ⟨same_t r.F h1, p.now r _ (.tup h1 h2)⟩⟩
  · obtain ⟨ys, e, p⟩ := orBad_post p
    obtain ⟨a, vs, rfl, h1, h2⟩ := lstX_sq e r rv
    exact ⟨a, vs, rfl, .inl ⟨.of h1, (mkT_post p r h2).2⟩⟩
/-! ### texts -/
def fPart (o : IV) (xs : List IV) (S : Sto) : Out IV := asS o fun a => a1 xs fun y => asS y fun b => chk ((b.length == 0) = false ∧ a.length ≤ sizeLine) (.ok (.tup [.str (PySem.Txt.partition a b).1, .str (PySem.Txt.partition a b).2.1, .str (PySem.Txt.partition a b).2.2]) S)
theorem ms_part {K : KX} {W : WX} : MtS K W (fun x xs H Q => ∃ a b, x = .str a ∧ xs = [.str b] ∧ (b.length == 0) = false ∧ a.length ≤ sizeLine ∧
    ∀ p, H p = none → Q (.ref p) (upd H p (.tup [.str (Txt.partition a b).1, .str (Txt.partition a b).2.1, .str (Txt.partition a b).2.2]))) fPart := fun w S H x xs io ix Q r ro rx p => by
  obtain ⟨a, rfl, rfl, p⟩ := asS_post p ro
  obtain ⟨v, y, rfl, rfl, rv, p⟩ := a1_post p rx
  obtain ⟨b, rfl, rfl, p⟩ := asS_post p rv
  obtain ⟨c, p⟩ := chk_post p
  refine ⟨a, b, rfl, rfl, c.1, c.2, fun q hq => ?_⟩
  obtain ⟨l, r'⟩ := r.frz (o := .tup [.str (Txt.partition a b).1, .str (Txt.partition a b).2.1, .str (Txt.partition a b).2.2]) hq
  exact p.ok l r' _ (.tup (.of upd_same) (.cons (.str _) (.cons (.str _) (.cons (.str _) .nil))))
def fStarts (o : IV) (xs : List IV) (S : Sto) : Out IV := asS o fun a => a1 xs fun y => asS y fun b => .ok (.bl (Txt.startswith a b)) S
theorem ms_startsw {K : KX} {W : WX} : MtS K W (fun x xs H Q => ∃ a b, x = .str a ∧ xs = [.str b] ∧ Q (.bl (Txt.startswith a b)) H) fStarts := fun w S H x xs io ix Q r ro rx p => by
  obtain ⟨a, rfl, rfl, p⟩ := asS_post p ro
  obtain ⟨v, y, rfl, rfl, rv, p⟩ := a1_post p rx
  obtain ⟨b, rfl, rfl, p⟩ := asS_post p rv
  exact ⟨a, b, rfl, rfl, p.now r _ (.bl _)⟩
def fEnds (o : IV) (xs : List IV) (S : Sto) : Out IV := asS o fun a => a1 xs fun y => asS y fun b => .ok (.bl (Txt.endswith a b)) S
theorem ms_endsw {K : KX} {W : WX} : MtS K W (fun x xs H Q => ∃ a b, x = .str a ∧ xs = [.str b] ∧ Q (.bl (Txt.endswith a b)) H) fEnds := fun w S H x xs io ix Q r ro rx p => by
  obtain ⟨a, rfl, rfl, p⟩ := asS_post p ro
  obtain ⟨v, y, rfl, rfl, rv, p⟩ := a1_post p rx
  obtain ⟨b, rfl, rfl, p⟩ := asS_post p rv
  exact ⟨a, b, rfl, rfl, p.now r _ (.bl _)⟩
theorem relL_strs {K : KX} {w : Wd} : ∀ zs : List Str, RelL K w (zs.map V.str) (zs.map IV.str)
  | [] => .nil
  | z :: zs => .cons (.str z) (relL_strs zs)
def fSplit (cell : Bool) (o : IV) (xs : List IV) (S : Sto) : Out IV := asS o fun a => a1 xs fun y => asS y fun b => chk ((b.length == 0) = false ∧ a.length + 2 ≤ sizeLine) (mkL cell ((Txt.split a b).map IV.str) S)
theorem ms_split {K : KX} {W : WX} (cell : Bool) : MtS K W (fun x xs H Q => ∃ a b, x = .str a ∧ xs = [.str b] ∧ (b.length == 0) = false ∧ a.length + 2 ≤ sizeLine ∧ rNewStrs (Txt.split a b) H Q) (fSplit cell) := fun w S H x xs io ix Q r ro rx p => by
  obtain ⟨a, rfl, rfl, p⟩ := asS_post p ro
  obtain ⟨v, y, rfl, rfl, rv, p⟩ := a1_post p rx
  obtain ⟨b, rfl, rfl, p⟩ := asS_post p rv
  obtain ⟨c, p⟩ := chk_post p
  exact ⟨a, b, rfl, rfl, c.1, c.2, (mkL_post p r (relL_strs _)).2⟩
/-! ### xs.pop(), xs.pop(i) -/
def fPop (o : IV) (xs : List IV) (S : Sto) : Out IV := match xs with
  | [] => onL S o fun n ys => orBad (ys[ys.length - 1]?) fun y => .ok y (S.set n (.lst ys.dropLast))
  | _ => .bad
theorem relL_dropLast {K : KX} {w : Wd} {xs : List V} {us : List IV} (r : RelL K w xs us) : RelL K w xs.dropLast us.dropLast := by
  rw [List.dropLast_eq_take, List.dropLast_eq_take, r.length]
  exact r.take _
theorem ms_pop {K : KX} {W : WX} : MtS K W rPop fPop := fun w S H x xs io ix Q r ro rx p => by
  unfold fPop at p
  cases rx with
  | nil =>
    obtain ⟨n, ys, a, vs, h1, h2, rfl, h3, h4, p⟩ := onL_post p r ro
    obtain ⟨y, e, p⟩ := orBad_post p
    obtain ⟨v, h5, h6⟩ := h4.get e
    exact ⟨a, vs, v, rfl, rfl, h3, by rw [h4.length]; exact h5, p.now (r.write h2 ⟨_, upd_same, relL_dropLast h4⟩ (fun _ e => by rw [h1] at e; cases e)) v h6⟩
  | cons a b => exact p.elim
def fPopAt (o : IV) (xs : List IV) (S : Sto) : Out IV := a1 xs fun y => asI y fun i => onL S o fun n ys => chk (ys.length < 2 ^ 62) (orBad (ixN ys.length i) fun j => orBad (ys[j]?) fun v => .ok v (S.set n (.lst (ys.eraseIdx j))))
theorem ms_popAt {K : KX} {W : WX} : MtS K W rPopAt fPopAt := fun w S H x xs io ix Q r ro rx p => by
  obtain ⟨v, y, rfl, rfl, rv, p⟩ := a1_post p rx
  obtain ⟨i, rfl, rfl, p⟩ := asI_post p rv
  obtain ⟨n, ys, a, vs, h1, h2, rfl, h3, h4, p⟩ := onL_post p r ro
  obtain ⟨hz, p⟩ := chk_post p
  obtain ⟨j, ej, p⟩ := orBad_post p
  obtain ⟨v, ev, p⟩ := orBad_post p
  obtain ⟨u, h5, h6⟩ := h4.get ev
  obtain ⟨g1, g2, g3, g4⟩ := ixN_seq ej
  exact ⟨a, vs, i, j, u, rfl, rfl, h3, by omega, by omega, by rw [h4.length]; exact g1, h5, p.now (r.write h2 ⟨_, upd_same, h4.erase j⟩ (fun _ e => by rw [h1] at e; cases e)) u h6⟩
/-! ### xs * n -/
def fRep (cell : Bool) (x y : IV) (S : Sto) : Out IV := orBad (lstX S x) fun xs => asI y fun k => chk (-(2 ^ 63) ≤ k ∧ k < 2 ^ 63 ∧ xs.length * k.toNat ≤ sizeLine) (mkL cell (List.replicate k.toNat xs).flatten S)
theorem relL_flat {K : KX} {w : Wd} {xs : List V} {us : List IV} (r : RelL K w xs us) : ∀ n : Nat, RelL K w (List.replicate n xs).flatten (List.replicate n us).flatten
  | 0 => .nil
  | n + 1 => by
    rw [List.replicate_succ, List.replicate_succ, List.flatten_cons, List.flatten_cons]
    exact r.append (relL_flat r n)
/-! ### max of a list of ints -/
def intsOf : List IV → Option (List Int)
  | [] => some []
  | .int s :: xs => (intsOf xs).map (s :: ·)
  | _ => none
theorem intsOf_rel {K : KX} {w : Wd} : ∀ {xs : List IV} {vs : List V} {ss : List Int}, intsOf xs = some ss → RelL K w vs xs → vs = ss.map V.int
  | [], _, _, e, r => by cases e; cases r; rfl
  | x :: xs, _, ss, e, r => by
    cases r with
    | cons a b =>
      cases x with
      | int s =>
        obtain ⟨ts, h1, h2⟩ := Option.map_eq_some_iff.mp (show (intsOf xs).map (s :: ·) = some ss from e)
        subst h2
        cases a
        rw [intsOf_rel h1 b]
        rfl
      | _ => cases e
def maxL (ns : List Int) : Int := ns.foldl (fun a b => if b > a then b else a) (ns.headD 0)
theorem maxL_fold (ns : List Int) : ∀ m0 m : Int, m ∈ (m0 :: ns) → (∀ y, y ∈ (m0 :: ns) → y ≤ m) → ns.foldl (fun a b => if b > a then b else a) m0 = m := by
  induction ns with
  | nil => intro m0 m h _; exact (List.mem_singleton.mp h).symm
  | cons n ns ih =>
    intro m0 m h1 h2
    rw [List.foldl_cons]
    refine ih _ m ?_ fun y hy => ?_
    · rcases List.mem_cons.mp h1 with h | h
      · subst h
        rw [if_neg (by have := h2 n (by simp); omega)]
        exact List.mem_cons_self
      · rcases List.mem_cons.mp h with h | h
        · subst h
          by_cases q : m > m0
          · rw [if_pos q]; exact List.mem_cons_self
          · rw [if_neg q]
            have := h2 m0 List.mem_cons_self
            have : m = m0 := by omega
            rw [this]; exact List.mem_cons_self
        · exact List.mem_cons_of_mem _ h
    · rcases List.mem_cons.mp hy with h | h
      · subst h
        split
        · exact h2 n (by simp)
        · exact h2 m0 List.mem_cons_self
      · exact h2 y (by simp [h])
def fMaxL (xs : List IV) (S : Sto) : Out IV := a1 xs fun x => orBad (lstX S x) fun ys => orBad (intsOf ys) fun ns => chk (0 < ns.length) (.ok (.int (maxL ns)) S)
theorem cs_maxL {K : KX} {W : WX} : CaS K W (rMax K.k) fMaxL := fun w S H xs ix Q r rx p => by
  obtain ⟨v, x, rfl, rfl, rv, p⟩ := a1_post p rx
  obtain ⟨ys, e, p⟩ := orBad_post p
  obtain ⟨ns, e2, p⟩ := orBad_post p
  obtain ⟨hl, p⟩ := chk_post p
  obtain ⟨a, vs, rfl, h1, h2⟩ := lstX_sq e r rv
  have := intsOf_rel e2 h2
  subst this
  refine ⟨a, ns, rfl, .of h1, hl, fun m hm hy => ?_⟩
  have : maxL ns = m := by
    cases ns with
    | nil => cases hl
    | cons n ns =>
      show (n :: ns).foldl (fun a b => if b > a then b else a) n = m
      exact maxL_fold (n :: ns) n m (by simpa using hm) fun y h => hy y (by simpa using h)
  rw [← this]
  exact p.now r _ (.int _)
/-! ### any -/
def blsOf : List IV → Option (List Bool)
  | [] => some []
  | .bl s :: xs => (blsOf xs).map (s :: ·)
  | _ => none
theorem blsOf_rel {K : KX} {w : Wd} : ∀ {xs : List IV} {vs : List V} {ss : List Bool}, blsOf xs = some ss → RelL K w vs xs → vs = ss.map V.bl
  | [], _, _, e, r => by cases e; cases r; rfl
  | x :: xs, _, ss, e, r => by
    cases r with
    | cons a b =>
      cases x with
      | bl s =>
        obtain ⟨ts, h1, h2⟩ := Option.map_eq_some_iff.mp (show (blsOf xs).map (s :: ·) = some ss from e)
        subst h2
        cases a
        rw [blsOf_rel h1 b]
        rfl
      | _ => cases e
def fAny (xs : List IV) (S : Sto) : Out IV := a1 xs fun x => orBad (lstX S x) fun ys => orBad (blsOf ys) fun bs => .ok (.bl (bs.any id)) S
def fAll (xs : List IV) (S : Sto) : Out IV := a1 xs fun x => orBad (lstX S x) fun ys => orBad (blsOf ys) fun bs => .ok (.bl (bs.all id)) S
theorem cs_any {K : KX} {W : WX} : CaS K W (rAny K.k) fAny := fun w S H xs ix Q r rx p => by
  obtain ⟨v, x, rfl, rfl, rv, p⟩ := a1_post p rx
  obtain ⟨ys, e, p⟩ := orBad_post p
  obtain ⟨ns, e2, p⟩ := orBad_post p
  obtain ⟨a, vs, rfl, h1, h2⟩ := lstX_sq e r rv
  have := blsOf_rel e2 h2
  subst this
  exact ⟨a, ns, rfl, .of h1, p.now r _ (.bl _)⟩
theorem cs_all {K : KX} {W : WX} : CaS K W (rAll K.k) fAll := fun w S H xs ix Q r rx p => by
  obtain ⟨v, x, rfl, rfl, rv, p⟩ := a1_post p rx
  obtain ⟨ys, e, p⟩ := orBad_post p
  obtain ⟨ns, e2, p⟩ := orBad_post p
  obtain ⟨a, vs, rfl, h1, h2⟩ := lstX_sq e r rv
  have := blsOf_rel e2 h2
  subst this
  exact ⟨a, ns, rfl, .of h1, p.now r _ (.bl _)⟩
/-! ### f-strings of texts -/
def iJs : List IE → Str → Slots → Sto → Out Str
  | [], acc, _, S => .ok acc S
  | m :: ms, acc, Λ, S => (m Λ S).bind fun x S1 => asS x fun y => chk ((acc ++ y).length ≤ sizeLine ∧ y.length ≤ sizeLine) (iJs ms (acc ++ y) Λ S1)
def iJoined (ms : List IE) : IE := fun Λ S => (iJs ms Str.empty Λ S).bind fun s S1 => .ok (.str s) S1
/-- a part: a written text, or a text in braces -/
inductive DJ (X : Cx) (W : WZ) : List Expr → List IE → Prop where
  | nil : DJ X W [] []
  | lit {e : Expr} {m : IE} {es : List Expr} {ms : List IE} (h : DE X W e m) (r : DJ X W es ms) : DJ X W (e :: es) (m :: ms)
  | fmt {e : Expr} {pos : Pos} {m : IE} {es : List Expr} {ms : List IE} (h : DE X W e m) (r : DJ X W es ms) : DJ X W (.FormattedValue e (-1) none pos :: es) (m :: ms)
theorem djs {X : Cx} {W : WZ} {es : List Expr} {ms : List IE} (h : DJ X W es ms) : ∃ ts, PJ X es ts ∧ ∀ (acc : Str) (σ : L2.St) (H : Hp) (Q : Str → Hp → Prop), (∃ w S Λ, R (kx X W) w S H ∧ SR (kx X W) w σ Λ ∧ Post (kx X W) W.x w (iJs ms acc Λ S) fun _ H' _ s => Q s H') → tJs ts acc σ H Q := by
  induction h with
  | nil => exact ⟨[], .nil, fun acc σ H Q ⟨w, S, Λ, r0, s0, p⟩ => Post.now (a := acc) (S := S) p r0⟩
  | @lit e m es ms h r ih =>
    obtain ⟨ts, j, k⟩ := ih
    refine ⟨_ :: ts, .cons h j, fun acc σ H Q ⟨w, S, Λ, r0, s0, p⟩ => ⟨w, S, Λ, r0, s0, ?_⟩⟩
    refine (Post.bind (show Post (kx X W) W.x w ((m Λ S).bind _) _ from p)).imp fun w1 H1 S1 ix l1 r1 p1 v rv => ?_
    obtain ⟨y, rfl, rfl, p1⟩ := asS_post p1 rv
    obtain ⟨c, p1⟩ := chk_post p1
    exact ⟨y, rfl, c.1, k _ _ _ _ ⟨w1, S1, Λ, r1, s0.up l1, p1⟩⟩
  | @fmt e pos m es ms h r ih =>
    obtain ⟨ts, j, k⟩ := ih
    refine ⟨_ :: ts, .cons (pe_fmt h) j, fun acc σ H Q ⟨w, S, Λ, r0, s0, p⟩ => ⟨w, S, Λ, r0, s0, ?_⟩⟩
    refine (Post.bind (show Post (kx X W) W.x w ((m Λ S).bind _) _ from p)).imp fun w1 H1 S1 ix l1 r1 p1 v rv => ?_
    obtain ⟨y, rfl, rfl, p1⟩ := asS_post p1 rv
    obtain ⟨c, p1⟩ := chk_post p1
    exact .inl ⟨y, rfl, c.2, y, rfl, c.1, k _ _ _ _ ⟨w1, S1, Λ, r1, s0.up l1, p1⟩⟩
theorem de_joined {X : Cx} {W : WZ} {v1 v2 : Expr} {rest : List Expr} {ms : List IE} {pos : Pos} (h : DJ X W (v1 :: v2 :: rest) ms) : DE X W (.JoinedStr (v1 :: v2 :: rest) pos) (iJoined ms) := by
  obtain ⟨ts, j, k⟩ := djs h
  refine (pe_joined j).imp fun σ H Q ⟨w, S, Λ, r0, s0, p⟩ => k _ _ _ _ ⟨w, S, Λ, r0, s0, p.bind.imp fun w1 H1 S1 s l1 r1 p1 => p1.now r1 _ (.str s)⟩
/-! ### a = b = e -/
def iSet2 (i j : Nat) (m : IE) : IS := fun Λ S => (m Λ S).bind fun x S1 => .ok (.nx ((Λ.set i (some x)).set j (some x))) S1
theorem ds_set2 {X : Cx} {W : WZ} {e : Expr} {me : IE} {pos p1 p2 : Pos} (i j : Nat) {x y : Str} (hN : X.N.Nodup) (he : DE X W e me) (hi : X.N[i]? = some x := by rfl) (hj : X.N[j]? = some y := by rfl) (hx : L2.Loc X.env.scope x := by first | exact Or.inl rfl | exact Or.inr rfl) (hy : L2.Loc X.env.scope y := by first | exact Or.inl rfl | exact Or.inr rfl)
    (hf : X.fn x = true ∨ X.env.scope.names.lookup x = some .local := by first | exact .inl rfl | exact .inr rfl) (hf' : X.fn y = true ∨ X.env.scope.names.lookup y = some .local := by first | exact .inl rfl | exact .inr rfl)
    (h1 : (assignEach [.Name x p1, .Name y p2] X.env).map (·.2) = [assign (.Name x p1) X.env, assign (.Name y p2) X.env] := by rfl) (hw : swappedStores [.Name x p1, .Name y p2] e X.env = pure none := by rfl)
    (hs : swapsWithSole [.Name x p1, .Name y p2] e pos.line X.env = pure false := by rfl) :
    DS X W (.Assign [.Name x p1, .Name y p2] e pos) (iSet2 i j me) := by
  refine ⟨fun pins s σ H D I ⟨w, S, Λ, r0, s0, p⟩ => ?_⟩
  refine wpAny_Assign_stores (thn (he.run pins s σ H (fun v H1 => D.nx ((σ.set i (some v)).set j (some v)) H1) I ⟨w, S, Λ, r0, s0, p.bind.imp fun w1 H1 S1 ix l1 r1 p1 v rv => p1.now r1 _ (((s0.up l1).set i rv).set j rv)⟩) fun v s1 ⟨x1, H1, I1, rx, q⟩ => ?_) hs hw
  rw [h1]
  refine wpAny_bind (wpAny_holding ?_)
  refine wpAny_assign_Name (store_ok I1 hN hi hx rx (fun s2 I2 => ?_) hf)
  exact wpAny_assign_Name (store_ok I2 hN hj hy rx (fun s3 I3 => ⟨_, H1, I3, q⟩) hf')
/-! ### C.c, an int of the class -/
def CCon (K : PySem.W.Frag) (mg : Str → Option Value) (C f : Str) (i : Int) : Prop := ∃ (Ca : Addr) (t : Tok), mg C = some (.ref Ca) ∧ PySem.W.typeIn K (.ref Ca) = some (.type "type") ∧
  PySem.W.readsIn K Ca (.type "type") = true ∧ PySem.W.findCls K (.ref Ca) (.type "type") f = some (.val (.int i t))
theorem de_ccon {X : Cx} {W : WZ} {C f : Str} {i : Int} {p pos : Pos} (c : CCon X.K X.mg C f i) (hg : Gl X C := by rfl) (hdb : (C == ("__debug__" : Str)) = false := by decide) (hb : attributeBase (.Name C p) f X.env (eval (.Name C p) X.env) = eval (.Name C p) X.env := by rfl) :
    DE X W (.Attribute (.Name C p) f pos) (iC (.int i)) := by
  obtain ⟨Ca, t, hm, ty, rd, fc⟩ := c
  refine ⟨fun pins s σ H Q I ⟨w, S, Λ, r0, s0, p⟩ => ?_⟩
  refine attr_of hb (ld_glob I hg hm ?_ hdb)
  obtain ⟨m, fr⟩ := I.fr
  exact PySem.W.cls_val fr I.ok.mod.kin ty rd fc rfl ⟨.int i, H, I.tok _, ⟨t, rfl⟩, Post.now (a := IV.int i) (S := S) p r0 _ (.int i)⟩
/-! ### isinstance(e, C), e the exception that is being handled -/
def iXIs (i m : Nat) (b : Bool) : IE := fun Λ S => match Λ[i]?, S[m]? with
  | some none, some (.xd _) => .ok (.bl b) S
  | _, _ => .bad
theorem call_isX {X : Cx} {a d Ca : Addr} {oe : Obj} {pn : List (Addr × Obj)} (C : ExcC X.K Ca) (hz : Zc (.ref Ca) (some d) oe) (hf : ∃ vs, oe.data = .fields vs) :
    CallR (X.suite a ((a, oe) :: pn)) (.builtin "isinstance") (fun xs H Q => ∃ (c : V) (cv : Value) (b : Bool), xs = [.ref a, c] ∧ (∀ u, RelV c u → u = cv) ∧ PySem.W.kitOne X.K (.ref Ca) cv = some b ∧ (∃ fs, H d = some (.xd fs)) ∧ Q (.bl b) H) := by
  intro pins s σ H xs us Q I r h
  obtain ⟨c, cv, b, rfl, hcv, e, ⟨fs, hx⟩, q⟩ := h
  cases r with
  | cons rx rr =>
    cases rr with
    | cons rt rr =>
      cases rr
      cases rx
      have ec := hcv _ rt
      subst ec
      obtain ⟨hget, _⟩ := I.pin (a, oe) (List.mem_append.mpr (.inl List.mem_cons_self))
      obtain ⟨vs, hv⟩ := hf
      obtain ⟨mA, hns, hr⟩ := (show ObjOk X.prog X.w H s.heap d (.xd fs) from I.hok d _ hx)
      obtain ⟨od, ho, hl⟩ := lookIn_ns hns
      have J : PySem.W.InstAt s.heap a oe Ca (some od) := ⟨hget, hz.1, by unfold PySem.W.notCls; rw [hv] <;> rfl, by rw [hz.2]; exact ho⟩
      have hcl : (PySem.W.clsIn X.K Ca).isSome = true := by
        obtain ⟨cd, hc, _⟩ := PySem.W.any_some C.hd
        rw [hc]; rfl
      exact PySem.W.kia_one (PySem.W.kitx_exc hcl C.hg C.hk C.hs C.ha C.hn C.ht C.hm) I.kIn J e (fun z => nomatch z) fun tk => ⟨.bl b, H, I.kept (t' := tk) fun _ _ z => z, rfl, q⟩
section
variable {X : Cx} {i m : Nat} {a d : Addr} {oe : Obj} {pn : List (Addr × Obj)} {n C x : Str} {p q r pos : Pos}
/-- what a name of a class stands for -/
def ClsN (mg : Str → Option Value) (x : Str) (cv : Value) : Prop := (mg x = some cv ∧ ∃ A, cv = .ref A) ∨ (mg x = none ∧ bootBuiltins x = some cv ∧ ∃ T, cv = .type T)
theorem de_isX {b : Bool} {cv : Value} (hz : Zc (clsV X.mg C) (some d) oe) (hf : ∃ vs, oe.data = .fields vs) (hC : ∃ Ca, X.mg C = some (.ref Ca) ∧ ExcC X.K Ca ∧ PySem.W.kitOne X.K (.ref Ca) cv = some b) (hx : ClsN X.mg x cv)
    (hm : X.mg "isinstance" = none) (hgx : Gl X x := by rfl) (hg : Gl X "isinstance" := by rfl) (hxn : x ≠ "__name__" := by decide) (hdx : (x == ("__debug__" : Str)) = false := by decide)
    (hN : X.N[i]? = some n := by rfl) (hv : Vis X.env.scope n := by first | exact Or.inl rfl | exact Or.inr (Or.inl rfl) | exact Or.inr (Or.inr rfl)) (hd : (n == ("__debug__" : Str)) = false := by decide)
    (hcd : (n == ("__classdict__" : Str)) = false := by decide) (hst : starEach [.Name n q, .Name x r] X.env = (false, eval (.Name n q) X.env) :: starEach [.Name x r] X.env := by rfl) (hst2 : starEach [.Name x r] X.env = (false, eval (.Name x r) X.env) :: starEach [] X.env := by rfl)
    (hpl : (backTo pos (starEach [.Name x r] X.env)).any (·.1) = false := by rfl) :
    DE (X.suite a ((a, oe) :: pn)) ⟨W0, some (i, m, a, d)⟩ (.Call (.Name "isinstance" p) [.Name n q, .Name x r] [] pos) (iXIs i m b) := by
  obtain ⟨Ca, hmC, hE, hk⟩ := hC
  have hcl : clsV X.mg C = .ref Ca := by unfold clsV; rw [hmC]; rfl
  have key : ∃ c : V, (∀ u, RelV c u → u = cv) ∧ PE (X.suite a ((a, oe) :: pn)) (.Name x r) (tC c) := by
    rcases hx with ⟨h1, A, rfl⟩ | ⟨h1, h2, T, rfl⟩
    · exact ⟨.ref A, fun u ru => ru, pe_glob (X := X.suite a ((a, oe) :: pn)) hgx h1 (v := .ref A) rfl hdx⟩
    · exact ⟨.ty T, fun u ru => ru, pe_bltn (X := X.suite a ((a, oe) :: pn)) hgx h1 h2 (v := .ty T) rfl hxn hdx⟩
  obtain ⟨c, hcv, hpe⟩ := key
  have P1 := pe_callB (X := X.suite a ((a, oe) :: pn)) (x := "isinstance") (p := p) (pos := pos) (call_isX hE (hcl ▸ hz) hf) hg hm rfl
    (pa_cons (X := X.suite a ((a, oe) :: pn)) (pe_var (X := X.suite a ((a, oe) :: pn)) hN hv hd hcd) (pa_cons (X := X.suite a ((a, oe) :: pn)) hpe pa_nil hst2) hst) (by decide) (by decide) hst hpl
  refine P1.imp fun σ H Q ⟨w, S, Λ, r0, s0, p⟩ => ?_
  unfold iXIs at p
  split at p
  · rename_i fs h1 h2
    obtain ⟨g1, g2⟩ := s0.ex i m a d rfl h1
    obtain ⟨ps, h3, h4⟩ := r0.cell m _ d h2 g2
    exact ⟨.ref a, g1, c, cv, b, rfl, hcv, hk, ⟨ps, h3⟩, p.now r0 _ (.bl b)⟩
  · exact p.elim
end
end Sm

/-! the facts a walk asks of the written part, gathered -/
namespace Sm
open PySem PySem.Spec PyProof.Rows L2

/-- except x: tab tells of each class that may come whether x takes it -/
def TryT (K : PySem.W.Frag) (mg : Str → Option Value) (x : Str) (tab : List (Str × Bool)) : Prop := (∃ D : Addr, mg x = some (.ref D)) ∧ ∀ C b, tab.lookup C = some b → PySem.W.exmOne K (clsV mg C) (clsV mg x) = some b
def XfT (K : PySem.W.Frag) (mg : Str → Option Value) (tab : List (Str × Bool)) (f : Str) : Prop := ∀ C, tab.lookup C = some true → ∃ Ca : Addr, mg C = some (.ref Ca) ∧ XfC K Ca ∧ PySem.W.findIn K (.ref Ca) f = some none
def XiT (K : PySem.W.Frag) (mg : Str → Option Value) (tab : List (Str × Bool)) (x : Str) (ist : List (Str × Bool)) : Prop := ∃ cv : Value, ClsN mg x cv ∧ ∀ C, tab.lookup C = some true → ∀ b, ist.lookup C = some b → ∃ Ca : Addr, mg C = some (.ref Ca) ∧ ExcC K Ca ∧ PySem.W.kitOne K (.ref Ca) cv = some b
section
variable {X : Cx} {W : WX} {x n : Str} {body suite : List Stmt} {b₀ : Stmt} {np pos pos' : Pos} {mb : IS} {ms : Str → Nat → IS} {tab : List (Str × Bool)}
theorem ds_tryN (hs : X.stack = X.env :: X.outer) (hf : X.env.frame = some X.env.locals) (hN : X.N.Nodup) (i : Nat) (hT : TryT X.K X.mg x tab) (tk : Takes X W)
    (hb : ∀ (W' : WX) (pn : List (Addr × Obj)) (xe : Value → Shared → Prop), Takes (X.tr pn xe) W' → PassesOwn (model X.prog X.w) X.A X.env xe → DSs (X.tr pn xe) ⟨W', none⟩ body mb)
    (hsu : ∀ (C : Str) (m : Nat) (a d : Addr) (oe : Obj) (pn : List (Addr × Obj)), tab.lookup C = some true → Zc (clsV X.mg C) (some d) oe → (∃ vs, oe.data = .fields vs) → DSs (X.suite a ((a, oe) :: pn)) ⟨W0, some (i, m, a, d)⟩ (b₀ :: suite) (ms C m))
    (hi : X.N[i]? = some n := by rfl) (hln : X.env.kindOf n = some .local := by rfl) (hg : Gl X x := by rfl) (hd : (x == ("__debug__" : Str)) = false := by decide) :
    DS X ⟨W, none⟩ (.Try body [.ExceptHandler (some (.Name x np)) (some n) (b₀ :: suite) pos'] [] [] pos) (iTryAs tab i mb ms) := by
  obtain ⟨⟨D, hD⟩, hT⟩ := hT
  refine ds_try (c := clsV X.mg x) hs hf hN i hi hln ⟨hg, hd, .inl ?_⟩ tk hT hb hsu
  unfold clsV
  rw [hD]
  rfl
end
def iXIsT (i m : Nat) (ist : List (Str × Bool)) (C : Str) : IE := match ist.lookup C with
  | some b => iXIs i m b
  | none => iBad
section
variable {X : Cx} {i m : Nat} {a d : Addr} {oe : Obj} {pn : List (Addr × Obj)} {n C x f : Str} {p q r pos : Pos} {tab ist : List (Str × Bool)}
theorem de_isXT (h : XiT X.K X.mg tab x ist) (hC : tab.lookup C = some true) (hz : Zc (clsV X.mg C) (some d) oe) (hf : ∃ vs, oe.data = .fields vs)
    (hm : X.mg "isinstance" = none) (hgx : Gl X x := by rfl) (hg : Gl X "isinstance" := by rfl) (hxn : x ≠ "__name__" := by decide) (hdx : (x == ("__debug__" : Str)) = false := by decide)
    (hN : X.N[i]? = some n := by rfl) (hv : Vis X.env.scope n := by first | exact Or.inl rfl | exact Or.inr (Or.inl rfl) | exact Or.inr (Or.inr rfl)) (hd : (n == ("__debug__" : Str)) = false := by decide)
    (hcd : (n == ("__classdict__" : Str)) = false := by decide) (hst : starEach [.Name n q, .Name x r] X.env = (false, eval (.Name n q) X.env) :: starEach [.Name x r] X.env := by rfl) (hst2 : starEach [.Name x r] X.env = (false, eval (.Name x r) X.env) :: starEach [] X.env := by rfl)
    (hpl : (backTo pos (starEach [.Name x r] X.env)).any (·.1) = false := by rfl) :
    DE (X.suite a ((a, oe) :: pn)) ⟨W0, some (i, m, a, d)⟩ (.Call (.Name "isinstance" p) [.Name n q, .Name x r] [] pos) (iXIsT i m ist C) := by
  obtain ⟨cv, h1, h2⟩ := h
  unfold iXIsT
  split
  · rename_i b hb
    exact de_isX hz hf (h2 C hC b hb) h1 hm hgx hg hxn hdx hN hv hd hcd hst hst2 hpl
  · exact de_bad
theorem de_xfT (h : XfT X.K X.mg tab f) (hC : tab.lookup C = some true) (hz : Zc (clsV X.mg C) (some d) oe) (hf : ∃ vs, oe.data = .fields vs)
    (hN : X.N[i]? = some n := by rfl) (hv : Vis X.env.scope n := by first | exact Or.inl rfl | exact Or.inr (Or.inl rfl) | exact Or.inr (Or.inr rfl)) (hd : (n == ("__debug__" : Str)) = false := by decide)
    (hcd : (n == ("__classdict__" : Str)) = false := by decide) (hb : attributeBase (.Name n p) f X.env (eval (.Name n p) X.env) = eval (.Name n p) X.env := by rfl) :
    DE (X.suite a ((a, oe) :: pn)) ⟨W0, some (i, m, a, d)⟩ (.Attribute (.Name n p) f pos) (iXf i m f) := de_xf hz hf (h C hC) hN hv hd hcd hb
end

/-! ### from the written part -/
section
variable {K : PySem.W.Frag} {h : Heap} {mg : Str → Option Value}
theorem cls_mk {C : Addr} (pg : PySem.W.plainGet K C Str.empty = true) (hd : PySem.W.hasDictIn K C = true) (po : PySem.W.plainOver K C = true) (sa : PySem.W.findIn K (.ref C) "__setattr__" = some (some (.builtin "object.__setattr__"))) : Cls K C := ⟨pg, hd, po, sa⟩
theorem fc_mk {C f : Str} {Ca : Addr} (X : K.In h) (G : h.Ns mainGlobals mg) (m : PySem.W.nsIn K mainGlobals C = some (some (.ref Ca))) (c : Cls K Ca) (n : PySem.W.findIn K (.ref Ca) f = some none) : FC K mg C f := ⟨Ca, PySem.W.mg_of X G m, c, n⟩
theorem mloc_mk {C m qual : Str} {st : Stmt} {ps : List Str} {Ca f : Addr} {od an : Option Addr} {sl : Array (Option Value)} {oc kV dc pm cd ct : Value} (X : K.In h) (G : h.Ns mainGlobals mg) (hm : PySem.W.nsIn K mainGlobals C = some (some (.ref Ca))) (c : Cls K Ca)
    (at_ : PySem.W.findIn K (.ref Ca) m = some (some (.ref f))) (fn : PySem.W.isFn K (.ref f) = true) (k : PySem.W.keepIn K (.ref f) = true)
    (l : K.lookup f = some ⟨oc, od, .func (PySem.W.fnOf m qual (defArgs st) (defBody st) (defScope st) .none kV dc pm an cd ct), sl⟩) (cc : PySem.W.codeIn K cd qual = true)
    (hb : ∀ (kV doc pm : Value) (an : Option Addr) (cdv ct : Value) (us : List Value), us.length = ps.length → bindArgs (PySem.W.fnOf m qual (defArgs st) (defBody st) (defScope st) .none kV doc pm an cdv ct) ⟨us, []⟩ = pure (ps.zip us)) : MLoc K mg C m qual st ps :=
  have F := fun_mk (st := st) l cc k
  ⟨Ca, f, _, PySem.W.mg_of X G hm, c, ⟨at_, fn, k⟩, F, F.binds hb⟩
theorem kloc_mk {C qual : Str} {st : Stmt} {ps : List Str} {Ca f : Addr} {od an : Option Addr} {sl : Array (Option Value)} {oc kV dc pm cd ct : Value} (X : K.In h) (G : h.Ns mainGlobals mg) (hm : PySem.W.nsIn K mainGlobals C = some (some (.ref Ca)))
    (mk : PySem.W.makesIn K Ca = true) (at_ : PySem.W.findIn K (.ref Ca) "__init__" = some (some (.ref f))) (fn : PySem.W.isFn K (.ref f) = true) (kC : PySem.W.keepIn K (.ref Ca) = true) (k : PySem.W.keepIn K (.ref f) = true)
    (l : K.lookup f = some ⟨oc, od, .func (PySem.W.fnOf "__init__" qual (defArgs st) (defBody st) (defScope st) .none kV dc pm an cd ct), sl⟩) (cc : PySem.W.codeIn K cd qual = true)
    (hb : ∀ (kV doc pm : Value) (an : Option Addr) (cdv ct : Value) (us : List Value), us.length = ps.length → bindArgs (PySem.W.fnOf "__init__" qual (defArgs st) (defBody st) (defScope st) .none kV doc pm an cdv ct) ⟨us, []⟩ = pure (ps.zip us)) : KLoc K mg C qual st ps :=
  have F := fun_mk (st := st) l cc k
  ⟨Ca, f, _, PySem.W.mg_of X G hm, ⟨mk, at_, fn, kC⟩, F, F.binds hb⟩
theorem base_mk {x : Str} {Ca : Addr} (X : K.In h) (G : h.Ns mainGlobals mg) (hm : PySem.W.nsIn K mainGlobals x = some (some (.ref Ca))) (ga : PySem.W.specialIn K (.ref Ca) "__getattribute__" = some (some (.builtin "type.__getattribute__"))) (ty : PySem.W.typeIn K (.ref Ca) = some (.type "type"))
    (rd : PySem.W.readsIn K Ca (.type "type") = true) (fc : PySem.W.findCls K (.ref Ca) (.type "type") "__init__" = some (.val (.builtin "ValueError.__init__"))) : BaseC K mg x := ⟨Ca, PySem.W.mg_of X G hm, ga, ty, rd, fc⟩
def ELoc (K : PySem.W.Frag) (mg : Str → Option Value) (x f a b qual : Str) (st : Stmt) : Prop := ∃ (C fI : Addr) (fd : FuncData), EClsAt K mg x f C ∧ PySem.W.findIn K (.ref C) "__init__" = some (some (.ref fI)) ∧ PySem.W.typeIn K (.ref fI) = some (.type "function") ∧
  L2.Binds K fd [a, b] [] ∧ Fun K "__init__" qual st fI fd
theorem oex_mk {C : Addr} {nm q : Str} {N : Addr} {bs bm : List Value} {sn : List Str} {sub : List Value} {ab : Bool} {col : Option Bool} {dd : Option Addr} {k0 k1 k2 k3 k5 : Option Value} (lk : K.lookup C = some (excClassObj nm q C N bs bm true sn sub ab col dd k0 k1 k2 k3 k5 "ValueError.__new__"))
    (rv : PySem.HandSPX.refsVE bm = true) (sa : PySem.W.findIn K (.ref C) "__setattr__" = some (some (.builtin "object.__setattr__"))) (exC : PySem.W.subIn K (.ref C) (.type "BaseException") = some true) (tyC : PySem.W.typeIn K (.ref C) = some (.type "type")) (kC : PySem.W.keepIn K (.ref C) = true) : OexC K C :=
  ⟨⟨nm, q, N, bs, bm, sn, sub, ab, col, dd, k0, k1, k2, k3, k5, lk, rv⟩, sa, exC, tyC, kC⟩
theorem eloc_mk {x f a b qual : Str} {st : Stmt} {C fI : Addr} {od an : Option Addr} {sl : Array (Option Value)} {oc kV dc pm cd ct : Value} (X : K.In h) (G : h.Ns mainGlobals mg) (hm : PySem.W.nsIn K mainGlobals x = some (some (.ref C))) (o : OexC K C) (nf : PySem.W.findIn K (.ref C) f = some none)
    (iC : PySem.W.findIn K (.ref C) "__init__" = some (some (.ref fI))) (tI : PySem.W.typeIn K (.ref fI) = some (.type "function")) (k : PySem.W.keepIn K (.ref fI) = true)
    (l : K.lookup fI = some ⟨oc, od, .func (PySem.W.fnOf "__init__" qual (defArgs st) (defBody st) (defScope st) .none kV dc pm an cd ct), sl⟩) (cc : PySem.W.codeIn K cd qual = true)
    (hb : ∀ (kV doc pm : Value) (an : Option Addr) (cdv ct : Value) (us : List Value), us.length = [a, b].length → bindArgs (PySem.W.fnOf "__init__" qual (defArgs st) (defBody st) (defScope st) .none kV doc pm an cdv ct) ⟨us, []⟩ = pure ([a, b].zip us)) : ELoc K mg x f a b qual st :=
  have F := fun_mk (st := st) l cc k
  ⟨C, fI, _, ⟨PySem.W.mg_of X G hm, o, nf⟩, iC, tI, F.binds hb, F⟩
theorem ecal_def {P : Program} {w : World} {base : Heap} {x f a b qual z : Str} {st : Stmt} (L : ELoc K mg x f a b qual st) (Sc : FnScope [a, b] [a, b] (defScope st))
    (hb : ∀ (fI : Addr) (cdv : Value) (A : Around) (outer : List Env) (s : Shared) (H : Hp) (E : XK), PSs (DX P w K mg base [a, b] qual (defScope st) fI cdv A outer s H E) (defBody st) (tInit K f z)) : ECal P w K mg base x f := by
  obtain ⟨C, fI, fd, h1, h2, h3, h4, h5⟩ := L
  exact ⟨C, fI, fd, a, b, h1, h2, h3, h4, einit_ok h5 Sc (hb fI)⟩
theorem ccon_mk {C f : Str} {i : Int} {Ca : Addr} {t : Tok} (X : K.In h) (G : h.Ns mainGlobals mg) (hm : PySem.W.nsIn K mainGlobals C = some (some (.ref Ca))) (ty : PySem.W.typeIn K (.ref Ca) = some (.type "type")) (rd : PySem.W.readsIn K Ca (.type "type") = true)
    (fc : PySem.W.findCls K (.ref Ca) (.type "type") f = some (.val (.int i t))) : CCon K mg C f i := ⟨Ca, t, PySem.W.mg_of X G hm, ty, rd, fc⟩
theorem clsV_mk {C : Str} {Ca : Addr} (X : K.In h) (G : h.Ns mainGlobals mg) (hm : PySem.W.nsIn K mainGlobals C = some (some (.ref Ca))) : clsV mg C = .ref Ca := by
  unfold clsV
  rw [PySem.W.mg_of X G hm]
  rfl
/-- tables, class by class -/
def AllT (P : Str → Bool → Prop) : List (Str × Bool) → Prop
  | [] => True
  | (C, b) :: t => P C b ∧ AllT P t
theorem allT_of {P : Str → Bool → Prop} : ∀ {t : List (Str × Bool)}, AllT P t → ∀ C b, t.lookup C = some b → P C b
  | [], _, _, _, e => by cases e
  | (D, c) :: t, h, C, b, e => by
    unfold List.lookup at e
    cases hk : C == D with
    | true =>
      rw [hk] at e
      have := beq_iff_eq.mp hk
      subst this
      cases e
      exact h.1
    | false =>
      rw [hk] at e
      exact allT_of h.2 C b e
end
end Sm
namespace Sm
open PySem PySem.Spec PyProof.Rows L2
section
variable {X : Cx} {W : WZ} {o i : Expr} {pos : Pos} {mo mi : IE}
theorem eM_din {K : KX} {W : WX} {σ : L2.St} {H : Hp} {Q : VK} (h : eM K W (iBin fDIn mi mo) σ H Q) : tDIn (eM K W mi) (eM K W mo) σ H Q := by
  obtain ⟨w, S, Λ, r0, s0, p⟩ := h
  exact ⟨w, S, Λ, r0, s0, p.bind.imp fun w1 H1 S1 iy l1 r1 p1 v1 rv1 => ⟨w1, S1, Λ, r1, s0.up l1, p1.bind.imp fun w2 H2 S2 ix l2 r2 p2 v2 rv2 => by
    obtain ⟨n, kvs, a, ps, e1, h1, h2, q⟩ := onD_post p2 r2 rv2
    obtain ⟨k, hk, q⟩ := orBad_post q
    rcases relKV_val (k := k) h2 with ⟨z, z'⟩ | ⟨iv', v, z1, z2, z3⟩
    · rw [z] at q
      exact ⟨a, none, e1, .inl ⟨ps, k, h1, keyI_rel hk (rv1.up l2), z'.symm⟩, q.now r2 _ (.bl _)⟩
    · rw [z1] at q
      exact ⟨a, some v, e1, .inl ⟨ps, k, h1, keyI_rel hk (rv1.up l2), z2.symm⟩, q.now r2 _ (.bl _)⟩⟩⟩
theorem dt_din (hu : X.A.units + 1 < cLine) (hi : DE X W i mi) (ho : DE X W o mo) (hb : behindInMarks .In o = false := by rfl) : DT X W (.Compare i [.In] [o] pos) (iTest (iBin fDIn mi mo)) :=
  (pt_cmp (pc_din hu hi ho) hb).imp fun σ H Q ⟨w, S, Λ, r0, s0, p⟩ => eM_din ⟨w, S, Λ, r0, s0, p.bind.imp fun w1 H1 S1 ix l1 r1 p1 v1 rv1 => by
    obtain ⟨k, rfl, rfl, q⟩ := asB_post p1 rv1
    exact ⟨k, rfl, q.now r1⟩⟩
theorem eM_dnotin {K : KX} {W : WX} {σ : L2.St} {H : Hp} {Q : VK} (h : eM K W (iBin fDNotIn mi mo) σ H Q) : tDNotIn (eM K W mi) (eM K W mo) σ H Q := by
  obtain ⟨w, S, Λ, r0, s0, p⟩ := h
  exact ⟨w, S, Λ, r0, s0, p.bind.imp fun w1 H1 S1 iy l1 r1 p1 v1 rv1 => ⟨w1, S1, Λ, r1, s0.up l1, p1.bind.imp fun w2 H2 S2 ix l2 r2 p2 v2 rv2 => by
    obtain ⟨n, kvs, a, ps, e1, h1, h2, q⟩ := onD_post p2 r2 rv2
    obtain ⟨k, hk, q⟩ := orBad_post q
    rcases relKV_val (k := k) h2 with ⟨z, z'⟩ | ⟨iv', v, z1, z2, z3⟩
    · rw [z] at q
      exact ⟨a, none, e1, .inl ⟨ps, k, h1, keyI_rel hk (rv1.up l2), z'.symm⟩, q.now r2 _ (.bl _)⟩
    · rw [z1] at q
      exact ⟨a, some v, e1, .inl ⟨ps, k, h1, keyI_rel hk (rv1.up l2), z2.symm⟩, q.now r2 _ (.bl _)⟩⟩⟩
theorem dt_dnotin (hu : X.A.units + 1 < cLine) (hi : DE X W i mi) (ho : DE X W o mo) (hb : behindInMarks .NotIn o = false := by rfl) : DT X W (.Compare i [.NotIn] [o] pos) (iTest (iBin fDNotIn mi mo)) :=
  (pt_cmp (pc_dnotin hu hi ho) hb).imp fun σ H Q ⟨w, S, Λ, r0, s0, p⟩ => eM_dnotin ⟨w, S, Λ, r0, s0, p.bind.imp fun w1 H1 S1 ix l1 r1 p1 v1 rv1 => by
    obtain ⟨k, rfl, rfl, q⟩ := asB_post p1 rv1
    exact ⟨k, rfl, q.now r1⟩⟩
end
def fAddI (x y : IV) (S : Sto) : Out IV := asI x fun i => asI y fun j => .ok (.int (i + j)) S
theorem os_addI {K : KX} {W : WX} : OpS K W (ipI fun i j => i + j) fAddI := fun w S H x y ix iy Q r rx ry p => by
  obtain ⟨i, rfl, rfl, p⟩ := asI_post p rx
  obtain ⟨j, rfl, rfl, p⟩ := asI_post p ry
  exact ⟨i, j, rfl, rfl, p.now r _ (.int _)⟩
theorem iop_addP {X : Cx} : OpR X (inplaceOp .Add) (ipI fun i j => i + j) := ip_add
theorem lstX_lst {K : KX} {w : Wd} {S : Sto} {H : Hp} {v : V} {x : IV} {xs : List IV} (e : lstX S x = some xs) (r : R K w S H) (rx : Rel K w v x) : ∃ a vs, v = .ref a ∧ H a = some (.lst vs) ∧ RelL K w vs xs := lstX_sq e r rx
theorem os_rep {K : KX} {W : WX} (cell : Bool) : OpS K W rRep (fRep cell) := fun w S H x y ix iy Q r rx ry p => by
  obtain ⟨xs, e, p⟩ := orBad_post p
  obtain ⟨k, rfl, rfl, p⟩ := asI_post p ry
  obtain ⟨c, p⟩ := chk_post p
  obtain ⟨a, vs, rfl, h1, h2⟩ := lstX_lst e r rx
  exact ⟨a, k, vs, rfl, rfl, h1, c.1, c.2.1, by rw [h2.length]; exact c.2.2, (mkL_post p r (relL_flat h2 _)).2⟩
end Sm
namespace Sm
open PySem
theorem xi_of {tab ist : List (Str × Bool)} {P : Str → Bool → Prop} (h : ∀ C b, ist.lookup C = some b → tab.lookup C = some true → P C b) (C : Str) (hC : tab.lookup C = some true) (b : Bool) (hb : ist.lookup C = some b) : P C b := h C b hb hC
end Sm

/-! {k: v for x in xs} -/
namespace Sm
open PySem PySem.Spec PyProof.Rows L2
noncomputable def iDcGo (s : Src) (gi : IV → Slots → Option Slots) (tt : IT) (tk tv : IE) : List IV → Slots → Sto → List (Key × IV) → Out (List (Key × IV))
  | [], _, S, acc => chkP (s.stay S) (.ok acc S)
  | x :: xs, Λ, S, acc => chkP (s.stay S) (orBad (gi x Λ) fun L => (noX (tt L S)).bind fun b S1 => if b = true then (noX (tk L S1)).bind fun y S2 => (noX (tv L S2)).bind fun z S3 => orBad (keyI y) fun k => chk (acc.length < sizeLine) (iDcGo s gi tt tk tv xs Λ S3 (putK' acc k z)) else iDcGo s gi tt tk tv xs Λ S1 acc)
noncomputable def iDc (ms : IW) (gi : IV → Slots → Option Slots) (tt : IT) (tk tv : IE) (vs : List Nat) : IE := fun Λ S => (ms Λ S).bind fun s S1 => (iDcGo s gi tt tk tv s.items (wipeI Λ vs) S1 []).bind fun acc S2 => .ok (.adr S2.length) (S2 ++ [.dic acc])
theorem putK_len (kvs : List (Key × V)) (k : Key) (v : V) : (putK kvs k v).length ≤ kvs.length + 1 := by
  unfold putK
  split
  · rw [List.length_map]; omega
  · simp
theorem dc_M {K : KX} {W : WX} {ms : IW} {g : TG} {gi : IV → Slots → Option Slots} {tt : IT} {tk tv : IE} {vs : List Nat} {σ : L2.St} {H : Hp} {Q : VK} (hg : GC K vs g gi) (hx : K.ex = none) (h : eM K W (iDc ms gi tt tk tv vs) σ H Q) :
    tDc (wM K W ms) g (tM K W0 tt) (eM K W0 tk) (eM K W0 tv) vs σ H Q := by
  obtain ⟨w, S, Λ, r0, s0, p⟩ := h
  refine ⟨w, S, Λ, r0, s0, p.bind.imp fun w1 H1 S1 s l1 r1 p1 J hJ => ?_⟩
  intro D hD
  have hG : w1.G D = none := by
    cases q : w1.G D with
    | none => rfl
    | some u => rw [r1.G _ _ q] at hD; cases hD
  have s1 := sr_wipe (s0.up l1) hx vs
  let Z : Nat → Hp → Prop := fun i H => i ≤ s.items.length ∧ ∃ (rho : List Addr) (F : Hp) (S2 : Sto) (xs : List (Key × V)) (acc : List (Key × IV)), w1.le ⟨rho, F, w1.G⟩ ∧ R K ⟨rho, F, upd w1.G D (.dK xs)⟩ S2 H ∧ RelKV K ⟨rho, F, w1.G⟩ xs acc ∧
    Post K W ⟨rho, F, w1.G⟩ ((iDcGo s gi tt tk tv (s.items.drop i) (wipeI Λ vs) S2 acc).bind fun acc S2 => .ok (.adr S2.length) (S2 ++ [.dic acc])) fun w' H' _ iv => ∀ v, Rel K w' v iv → Q v H'
  refine ⟨fun i m H => m = s.items.length - i ∧ Z i H, ⟨s.items.length, by simp, Nat.zero_le _, w1.rho, w1.F, S1, [], [], Wd.le.refl w1, r1.ghost hD, .nil, by rw [List.drop_zero]; exact p1⟩, ?_⟩
  rintro i m H2 ⟨rfl, hi, rho, F, S2, xs, acc, l2, r2, rl, p2⟩
  have l2' : w1.lr ⟨rho, F, upd w1.G D (.dK xs)⟩ := ⟨l2.rho, l2.F⟩
  have l2z : w1.lz ⟨rho, F, upd w1.G D (.dK xs)⟩ := ⟨l2', fun a u v e => by
    show upd w1.G D (.dK xs) a = some (.frz u v)
    rw [upd_ne (ne_of_none e hG)]; exact e⟩
  have st : s.stay S2 := by
    by_cases hs : s.stay S2
    · exact hs
    · cases hd : s.items.drop i with
      | nil => rw [hd] at p2; exact (show Post K W ⟨rho, F, w1.G⟩ ((chkP (s.stay S2) _).bind _) _ from p2) |> fun z => by rw [chkP_neg hs] at z; exact z.elim
      | cons _ _ => rw [hd] at p2; exact (show Post K W ⟨rho, F, w1.G⟩ ((chkP (s.stay S2) _).bind _) _ from p2) |> fun z => by rw [chkP_neg hs] at z; exact z.elim
  by_cases hlt : i < s.items.length
  · rw [List.drop_eq_getElem_cons hlt] at p2
    have p2 : Post K W ⟨rho, F, w1.G⟩ ((orBad (gi s.items[i] (wipeI Λ vs)) fun L => (noX (tt L S2)).bind fun b S1 => if b = true then (noX (tk L S1)).bind fun y S2 => (noX (tv L S2)).bind fun z S3 => orBad (keyI y) fun k => chk (acc.length < sizeLine) (iDcGo s gi tt tk tv (s.items.drop (i + 1)) (wipeI Λ vs) S3 (putK' acc k z)) else iDcGo s gi tt tk tv (s.items.drop (i + 1)) (wipeI Λ vs) S1 acc).bind fun acc S2 => .ok (.adr S2.length) (S2 ++ [.dic acc])) (fun w' H' _ iv => ∀ v, Rel K w' v iv → Q v H') := by
      have z := (show Post K W ⟨rho, F, w1.G⟩ ((chkP (s.stay S2) _).bind _) _ from p2)
      rw [chkP_pos st] at z
      exact z
    refine .inr ⟨hJ.go _ S2 H2 i l2z r2 st hlt, Z (i + 1), fun H' z => ⟨s.items.length - (i + 1), by omega, rfl, z⟩, fun x H' y => ?_⟩
    obtain ⟨⟨rho3, F3, G3⟩, l3, r3, rv⟩ := hJ.yld _ S2 H2 i _ x H' l2z r2 st (List.getElem?_eq_getElem hlt) y
    have hG3 : G3 = upd w1.G D (.dK xs) := l3.G
    subst hG3
    have lp3 : Wd.le ⟨rho, F, w1.G⟩ ⟨rho3, F3, w1.G⟩ := ⟨⟨l3.rho, l3.F⟩, rfl⟩
    cases hgi : gi s.items[i] (wipeI Λ vs) with
    | none => rw [hgi] at p2; exact p2.elim
    | some L =>
      rw [hgi, orBad_some] at p2
      have sw : SR K ⟨rho3, F3, upd w1.G D (.dK xs)⟩ (wipe σ vs) (wipeI Λ vs) := s1.mono (l2'.trans l3.1)
      refine hg.run _ S2 H' _ _ x _ L _ r3 sw rv hgi fun σ' s' hw => ⟨by rw [hw, wipe_wipe fun _ hv => hv], ?_⟩
      refine ⟨_, S2, L, r3, s', noX_post (w' := ⟨rho, F, w1.G⟩) (fun b S3 e3 w4 H4 l4 r4 => ?_) fun hb => ?_⟩
      · rw [e3, Out.bind_ok] at p2
        obtain ⟨rho4, F4, G4⟩ := w4
        have hG4 : G4 = upd w1.G D (.dK xs) := l4.G
        subst hG4
        have lp4 : Wd.le ⟨rho, F, w1.G⟩ ⟨rho4, F4, w1.G⟩ := lp3.trans ⟨⟨l4.rho, l4.F⟩, rfl⟩
        cases b with
        | true =>
          rw [if_pos rfl] at p2 ⊢
          refine ⟨_, S3, L, r4, s'.up l4, noX_post (w' := ⟨rho, F, w1.G⟩) (fun y S5 e5 w5 H5 l5 r5 v5 rv5 => ?_) fun hb => ?_⟩
          · rw [e5, Out.bind_ok] at p2
            obtain ⟨rho5, F5, G5⟩ := w5
            have hG5 : G5 = upd w1.G D (.dK xs) := l5.G
            subst hG5
            have lp5 : Wd.le ⟨rho, F, w1.G⟩ ⟨rho5, F5, w1.G⟩ := lp4.trans ⟨⟨l5.rho, l5.F⟩, rfl⟩
            refine ⟨_, S5, L, r5, (s'.up l4).up l5, noX_post (w' := ⟨rho, F, w1.G⟩) (fun z S6 e6 w6 H6 l6 r6 v6 rv6 => ?_) fun hb => ?_⟩
            · rw [e6, Out.bind_ok] at p2
              obtain ⟨rho6, F6, G6⟩ := w6
              have hG6 : G6 = upd w1.G D (.dK xs) := l6.G
              subst hG6
              have lp6 : Wd.le ⟨rho, F, w1.G⟩ ⟨rho6, F6, w1.G⟩ := lp5.trans ⟨⟨l6.rho, l6.F⟩, rfl⟩
              cases hk : keyI y with
              | none => rw [hk] at p2; exact p2.elim
              | some k =>
                rw [hk, orBad_some] at p2
                have hz : acc.length < sizeLine := by
                  by_cases hz : acc.length < sizeLine
                  · exact hz
                  · rw [chk_neg hz] at p2; exact p2.elim
                rw [chk_pos hz] at p2
                have cv : Wd.lr ⟨rho6, F6, upd w1.G D (.dK xs)⟩ ⟨rho6, F6, w1.G⟩ := ⟨⟨[], by simp⟩, Same.refl _⟩
                exact ⟨xs, k, keyI_rel hk rv5, r6.G D _ upd_same, by rw [relKV_length rl]; exact hz, hlt, rho6, F6, S6, putK xs k v6, putK' acc k z, l2.trans lp6, R.ghostW (fun _ _ z => by cases z) r6, relKV_putK (Rel.mono cv _ _ rv6) (rl.up lp6), p2.up lp6⟩
            · rw [hb] at p2; exact p2.elim
          · rw [hb] at p2; exact p2.elim
        | false =>
          rw [if_neg Bool.false_ne_true] at p2 ⊢
          exact ⟨hlt, rho4, F4, S3, xs, acc, l2.trans lp4, r4, rl.up lp4, p2.up lp4⟩
      · rw [hb] at p2; exact p2.elim
  · have e : i = s.items.length := by omega
    subst e
    rw [List.drop_length] at p2
    have p2 : Post K W ⟨rho, F, w1.G⟩ (.ok (.adr S2.length) (S2 ++ [.dic acc])) (fun w' H' _ iv => ∀ v, Rel K w' v iv → Q v H') := by
      have z := (show Post K W ⟨rho, F, w1.G⟩ ((chkP (s.stay S2) _).bind _) _ from p2)
      rw [chkP_pos st] at z
      exact z
    refine .inl ⟨hJ.stop _ S2 H2 _ l2z r2 st (Nat.le_refl _), ?_⟩
    have r5 := R.ghostC (c := .dic acc) (fun _ _ z => by cases z) r2 hG fun w' l' => ⟨xs, r2.G D _ upd_same, rl.mono (w := ⟨rho, F, w1.G⟩) ⟨l'.rho, l'.F⟩⟩
    refine p2 ⟨rho ++ [D], F, w1.G⟩ H2 ⟨⟨⟨[D], rfl⟩, Same.refl _⟩, rfl⟩ r5 _ (.adr ?_)
    show (rho ++ [D])[S2.length]? = some D
    have hlen : rho.length = S2.length := r2.len
    rw [← hlen, List.getElem?_append_right (Nat.le_refl _), Nat.sub_self]
    rfl
section
variable {X : Cx} {W : WZ} {pos : Pos} {kx' vx tg iter : Expr} {ifs : List Expr} {scope : Scope} {own : List (Str × Nat)} {ms : IW} {g : TG} {gi : IV → Slots → Option Slots} {tt : IT} {tk tv : IE}
theorem de_dc (hc : X.calm = true) (hN : X.N.Nodup) (hi : DI X W tg iter ms) (ok : BlkOk X.N X.env.scope scope own)
    (hg : ∀ (s : Shared) (H : Hp) (C : Addr) (cl : List (Str × Addr)) (fp : List Addr), PG (X.blk s H scope (compEnvC scope cl C X.env) fp) tg g) (hgc : GC (kx X W) (own.map (·.2)) g gi) (ht : ∀ (s : Shared) (H : Hp) (C : Addr) (cl : List (Str × Addr)) (fp : List Addr), DTs (X.blk s H scope (compEnvC scope cl C X.env) fp) ⟨W0, W.ex⟩ ifs tt)
    (hk : ∀ (s : Shared) (H : Hp) (C : Addr) (cl : List (Str × Addr)) (fp : List Addr), DE (X.blk s H scope (compEnvC scope cl C X.env) fp) ⟨W0, W.ex⟩ kx' tk)
    (he : ∀ (s : Shared) (H : Hp) (C : Addr) (cl : List (Str × Addr)) (fp : List Addr), DE (X.blk s H scope (compEnvC scope cl C X.env) fp) ⟨W0, W.ex⟩ vx tv) (hs : ∀ x, foldedSetIterable iter X.env x = pure x := by intro _; rfl) (hx : W.ex = none := by rfl) :
    DE X W (.DictComp kx' vx [⟨tg, iter, ifs, 0⟩] scope pos) (iDc ms gi tt tk tv (own.map (·.2))) :=
  (pe_dc hc hN hi ok hg ht hk he hs).imp fun σ H Q h => dc_M hgc hx h
end
end Sm
namespace Sm
open PySem PySem.Spec PyProof.Rows L2
/-- a, b = x, y -/
def iPar (i j : Nat) (ma : IA) : IS := fun Λ S => (ma Λ S).bind fun xs S1 => a2 xs fun x y => .ok (.nx ((Λ.set i (some x)).set j (some y))) S1
theorem ds_par {X : Cx} {W : WZ} {pos : Pos} {x y : Str} {a b : Expr} {ma : IA} {px py pt : Pos} {kt k2 pt2} (i j : Nat) (hc : X.calm = true) (hN : X.N.Nodup) (ha : DA X W [a, b] ma) (hij : i ≠ j := by decide) (hi : X.N[i]? = some x := by rfl) (hj : X.N[j]? = some y := by rfl)
    (hx : X.env.scope.names.lookup x = some .local := by rfl) (hy : X.env.scope.names.lookup y = some .local := by rfl)
    (hw : swappedStores [.Tuple [.Name x px, .Name y py] kt pt] (.Tuple [a, b] k2 pt2) X.env = pure (some [x, y]) := by rfl)
    (hs : swapsWithSole [.Tuple [.Name x px, .Name y py] kt pt] (.Tuple [a, b] k2 pt2) pos.line X.env = pure false := by rfl) :
    DS X W (.Assign [.Tuple [.Name x px, .Name y py] kt pt] (.Tuple [a, b] k2 pt2) pos) (iPar i j ma) :=
  (ps_par hc hN hi hj hij hx hy ha hw hs).imp fun D σ H ⟨w, S, Λ, r0, s0, p⟩ => ⟨w, S, Λ, r0, s0, p.bind.imp fun w1 H1 S1 ix l1 r1 p1 vs rvs => by
    obtain ⟨v, x, u, y, rfl, rfl, rv, ru, q⟩ := a2_post p1 rvs
    exact ⟨v, u, rfl, q.now r1 _ (((s0.up l1).set i rv).set j ru)⟩⟩
end Sm
namespace Sm
open PySem PySem.Spec PyProof.Rows L2
theorem de_gint {X : Cx} {W : WZ} {x : Str} {z : Int} {pos : Pos} {t : Tok} (hm : X.mg x = some (.int z t)) (hg : Gl X x := by rfl) (hd : (x == ("__debug__" : Str)) = false := by decide) : DE X W (.Name x pos) (iC (.int z)) :=
  de_c (pe_glob hg hm (v := .int z) ⟨t, rfl⟩ hd) fun _ => .int z
end Sm
namespace Sm
open PySem PySem.Spec PyProof.Rows L2
section
variable {K : PySem.W.Frag} {t : Value} {D : Addr} {b : Bool}
theorem em_mk {cls : Value} (ex : PySem.W.subIn K (.ref D) (.type "BaseException") = some true) (hd : PySem.W.hasDictIn K D = true) (ty : PySem.W.typeIn K (.ref D) = some (.type "type")) (su : PySem.W.subIn K cls (.ref D) = some b) : PySem.W.exmOne K cls (.ref D) = some b := PySem.W.exm_ref ex hd ty su
theorem kit_mk (hd : PySem.W.hasDictIn K D = true) (ty : PySem.W.typeIn K (.ref D) = some (.type "type")) (su : PySem.W.subIn K t (.ref D) = some b) : PySem.W.kitCls K t (.ref D) = some b := by
  obtain ⟨cd, hc, _⟩ := PySem.W.any_some hd
  have e2 : ((PySem.W.clsIn K D).isSome && PySem.W.typeIn K (.ref D) == some (.type "type")) = true := by rw [hc, ty] <;> rfl
  show (if ((PySem.W.clsIn K D).isSome && PySem.W.typeIn K (.ref D) == some (.type "type")) = true then PySem.W.subIn K t (.ref D) else none) = some b
  rw [if_pos e2]
  exact su
theorem ko_t (hd : PySem.W.hasDictIn K D = true) (ty : PySem.W.typeIn K (.ref D) = some (.type "type")) (su : PySem.W.subIn K t (.ref D) = some true) : PySem.W.kitOne K t (.ref D) = some true := by
  unfold PySem.W.kitOne
  split
  · rfl
  · exact kit_mk hd ty su
theorem ko_f (hd : PySem.W.hasDictIn K D = true) (ty : PySem.W.typeIn K (.ref D) = some (.type "type")) (su : PySem.W.subIn K t (.ref D) = some false) (ne : (t == .ref D) = false) : PySem.W.kitOne K t (.ref D) = some false := by
  unfold PySem.W.kitOne
  rw [ne, if_neg Bool.false_ne_true]
  exact kit_mk hd ty su
theorem ko_ty {C : Addr} {T : String} (mt : PySem.W.kitMeta T = true) (su : PySem.W.subIn K (.ref C) (.type T) = some b) : PySem.W.kitOne K (.ref C) (.type T) = some b := by
  unfold PySem.W.kitOne
  rw [show ((Value.ref C) == Value.type T) = false from rfl, if_neg Bool.false_ne_true]
  show (if PySem.W.kitMeta T = true then PySem.W.subIn K (.ref C) (.type T) else none) = some b
  rw [if_pos mt]
  exact su
end
end Sm

/-! repr of data -/
namespace Sm
open PySem PySem.Spec PyProof.Rows L2
/-- data that may be shown -/
def okShow (d : PyData) : Bool := d.layable0 && d.intsShort 13 && d.showable
theorem call_reprD {X : Cx} {k : Nat} (hr : RmG k X.A) : CallR X (.builtin "repr") (fun xs H Q => ∃ p d, xs = [.ref p] ∧ Dp X.K H (.ref p) d ∧ okShow d = true ∧ Q (.str d.shown) H) := by
  intro pins s σ H xs us Q I r h
  obtain ⟨p, d, rfl, D, ok, q⟩ := h
  obtain ⟨u, rfl, ru⟩ := vals1 r
  obtain rfl : u = Value.ref p := ru
  obtain ⟨as, rd⟩ := Dp.reads I d _ _ D rfl
  obtain ⟨ok1, ok3⟩ := Bool.and_eq_true_iff.mp ok
  obtain ⟨ok1, ok2⟩ := Bool.and_eq_true_iff.mp ok1
  have hd : d.depth ≤ 64 := by
    have z : (PyData.canLay0 d && decide (PyData.depth d ≤ 64) && decide (PyData.weight d ≤ 2 ^ 20)) = true := ok1
    simp only [Bool.and_eq_true, decide_eq_true_eq] at z
    exact z.1.2
  have hu : X.A.units + (d.depth + 1) < cLine := by
    have := hr.un
    omega
  exact PySem.repr_of_reads' rd ok3 (PyData.noDict_hsm (PyData.hasDict_of_layable ok1)) hr.gd hu (fun _ _ e => e) (fun h' t tk hk => ⟨.str d.shown, H, I.kept hk, ⟨t, rfl⟩, q⟩) (PyData.shown_fits_of_layable0 (B := 13) (by decide) (by decide) ok1 ok2)
def isRf : IV → Bool
  | .lst _ => true
  | .wls _ => true
  | .tup _ => true
  | .adr _ => true
  | _ => false
def fRepr (xs : List IV) (S : Sto) : Out IV := a1 xs fun x => orBad (view 8 S x) fun d => chk (isRf x = true ∧ okShow d = true) (.ok (.str d.shown) S)
theorem cs_repr {K : KX} {W : WX} : CaS K W (fun xs H Q => ∃ p d, xs = [.ref p] ∧ Dp K.k H (.ref p) d ∧ okShow d = true ∧ Q (.str d.shown) H) fRepr := fun w S H xs ix Q r rx p => by
  obtain ⟨v, x, rfl, rfl, rv, p⟩ := a1_post p rx
  obtain ⟨d, e, p⟩ := orBad_post p
  obtain ⟨⟨c1, c2⟩, p⟩ := chk_post p
  have D := view_dp r 8 x d v e rv
  have : ∃ a, v = .ref a := by
    cases rv with
    | adr _ => exact ⟨_, rfl⟩
    | lst _ _ => exact ⟨_, rfl⟩
    | wls _ _ => exact ⟨_, rfl⟩
    | tup _ _ => exact ⟨_, rfl⟩
    | _ => cases c1
  obtain ⟨a, rfl⟩ := this
  exact ⟨a, d, rfl, D, c2, p.now r _ (.str _)⟩
/-- xs[::-1] -/
def fRev (x : IV) (S : Sto) : Out IV := orBad (lstOf S x) fun xs => mkF xs.reverse S
theorem de_rev {X : Cx} {W : WZ} {e : Expr} {m : IE} {k : Nat} {p1 p2 p3 pos : Pos} (he : DE X W e m) : DE X W (.Subscript e (.Slice none none (some (.UnaryOp .USub (.Constant (.int 1) k p1) p2)) p3) pos) (iUn fRev m) :=
  (pe_revL he).imp fun σ H Q ⟨w, S, Λ, r0, s0, p⟩ => ⟨w, S, Λ, r0, s0, p.bind.imp fun w1 H1 S1 ix l1 r1 p1 v1 rv1 => by
    obtain ⟨ys, e, q⟩ := orBad_post p1
    obtain ⟨a, xs, rfl, h1, h2⟩ := lstOf_sq e r1 rv1
    exact ⟨a, xs, rfl, h1, (mkL_post (cell := false) q r1 h2.reverse).2⟩⟩
end Sm

/-! tools for the mathematics: stores that grow, comprehensions, loops -/
namespace Sm
open PySem PySem.Spec PyProof.Rows L2
theorem szL : (sizeLine : Nat) = 16777216 := sizeLine_eq
/-- S' is S with new cells; of the old ones only those of ds may differ -/
def Ext (ds : List Nat) (S S' : Sto) : Prop := S.length ≤ S'.length ∧ ∀ m c, S[m]? = some c → m ∉ ds → S'[m]? = some c
section
variable {ds es : List Nat} {S S1 S2 : Sto} {n : Nat} {c : Cell}
theorem Ext.refl : Ext ds S S := ⟨Nat.le_refl _, fun _ _ h _ => h⟩
theorem Ext.get (h : Ext ds S S1) (e : S[n]? = some c) (hn : n ∉ ds := by simp) : S1[n]? = some c := h.2 n c e hn
theorem lt_some {α : Type} {xs : List α} {i : Nat} {x : α} (h : xs[i]? = some x) : i < xs.length := (List.getElem?_eq_some_iff.mp h).1
theorem Ext.trans' (h : Ext ds S S1) (k : Ext es S1 S2) (he : ∀ e ∈ es, e ∈ ds ∨ S.length ≤ e) : Ext ds S S2 :=
  ⟨Nat.le_trans h.1 k.1, fun m c e hm => k.2 m c (h.2 m c e hm) fun z => (he m z).elim hm fun l => absurd (lt_some e) (by omega)⟩
theorem Ext.trans (h : Ext ds S S1) (k : Ext ds S1 S2) : Ext ds S S2 := h.trans' k fun _ z => .inl z
theorem Ext.up (h : Ext ds S S1) (hs : ∀ e ∈ ds, e ∈ es) : Ext es S S1 := ⟨h.1, fun m c e hm => h.2 m c e fun z => hm (hs m z)⟩
theorem Ext.nil (h : Ext [] S S1) : Ext ds S S1 := h.up fun _ z => by cases z
theorem Ext.app (T : Sto) : Ext ds S (S ++ T) := ⟨by simp, fun m c e _ => by rw [List.getElem?_append_left (lt_some e)]; exact e⟩
theorem Ext.set (hn : n ∈ ds ∨ S.length ≤ n) : Ext ds S (S.set n c) := ⟨by simp, fun m d e hm => by
  have : n ≠ m := fun z => hn.elim (fun q => hm (z ▸ q)) fun q => absurd (lt_some e) (by omega)
  rw [List.getElem?_set_ne this]; exact e⟩
theorem get_new (S : Sto) (c : Cell) : (S ++ [c])[S.length]? = some c := by simp
theorem get_setS (h : S[n]? = some c) (d : Cell) : (S.set n d)[n]? = some d := List.getElem?_set_self (lt_some h)
end
/-! ### statements, one by one -/
section
variable {Λ Λ1 : Slots} {S S1 : Sto} {a b : IS} {m : IE} {v : IV} {i : Nat} {o : Out Fl} {c : IT}
theorem sq_ok (h : a Λ S = .ok (.nx Λ1) S1) : iSeq a b Λ S = b Λ1 S1 := by rw [iSeq_e, h]; rfl
theorem sq_rt (h : a Λ S = .ok (.rt v) S1) : iSeq a b Λ S = .ok (.rt v) S1 := by rw [iSeq_e, h]; rfl
theorem sq_bk (h : a Λ S = .ok (.bk Λ1) S1) : iSeq a b Λ S = .ok (.bk Λ1) S1 := by rw [iSeq_e, h]; rfl
theorem sq_ct (h : a Λ S = .ok (.ct Λ1) S1) : iSeq a b Λ S = .ok (.ct Λ1) S1 := by rw [iSeq_e, h]; rfl
theorem sq_ex {C : Str} {n : Nat} {L : Slots} (h : a Λ S = .exc C n L S1) : iSeq a b Λ S = .exc C n L S1 := by rw [iSeq_e, h]; rfl
theorem st_ok (h : m Λ S = .ok v S1) : iSet i m Λ S = .ok (.nx (Λ.set i (some v))) S1 := by rw [iSet_e, h]; rfl
theorem dr_ok (h : m Λ S = .ok v S1) : iDrop m Λ S = .ok (.nx Λ) S1 := by rw [iDrop_e, h]; rfl
theorem rt_ok (h : m Λ S = .ok v S1) : iRet m Λ S = .ok (.rt v) S1 := by rw [iRet_e, h]; rfl
theorem if_ff {α : Type} {a b : Slots → Sto → Out α} (h : c Λ S = .ok false S1) : iIf c a b Λ S = b Λ S1 := by rw [iIf_e, h]; rfl
theorem if_tt {α : Type} {a b : Slots → Sto → Out α} (h : c Λ S = .ok true S1) : iIf c a b Λ S = a Λ S1 := by rw [iIf_e, h]; rfl
theorem md_rt {n : Nat} {b : IS} {xs : List IV} (h : b (xs.map some ++ List.replicate (n - xs.length) none) S = .ok (.rt v) S1) : mDef n b xs S = .ok v S1 := mDef_rt h
theorem md_nx {n : Nat} {b : IS} {xs : List IV} (h : b (xs.map some ++ List.replicate (n - xs.length) none) S = .ok (.nx Λ1) S1) : mDef n b xs S = .ok .non S1 := by rw [mDef_e, h]
theorem md_ex {n : Nat} {b : IS} {xs : List IV} {C : Str} {k : Nat} {L : Slots} (h : b (xs.map some ++ List.replicate (n - xs.length) none) S = .exc C k L S1) : mDef n b xs S = .exc C k [] S1 := by rw [mDef_e, h]
end
/-! ### comprehensions -/
section
variable {α : Type} {cell : Bool} {ms : IW} {gi : IV → Slots → Option Slots} {tt : IT} {te : IE} {vs : List Nat} {Λ : Slots} {S S1 : Sto} {k : Option Nat}
theorem lcgo_map {s : Src} (e : α → IV) (T : α → Bool) (F : α → IV) (st : s.stay S) : ∀ (as : List α) (acc : List IV), (∀ a ∈ as, ∃ L, gi (e a) Λ = some L ∧ tt L S = .ok (T a) S ∧ (T a = true → te L S = .ok (F a) S)) → acc.length + as.length ≤ sizeLine →
    iLcGo s gi tt te (as.map e) Λ S acc = .ok (acc ++ (as.filter T).map F) S
  | [], acc, _, _ => by show iLcGo s gi tt te [] Λ S acc = _; unfold iLcGo; rw [chkP_pos st]; simp
  | a :: as, acc, h, hl => by
    obtain ⟨L, h1, h2, h3⟩ := h a List.mem_cons_self
    rw [List.length_cons] at hl
    show iLcGo s gi tt te (e a :: as.map e) Λ S acc = _
    unfold iLcGo
    rw [chkP_pos st, h1, orBad_some, h2, noX_ok, Out.bind_ok]
    cases hT : T a with
    | true =>
      rw [if_pos rfl, h3 hT, noX_ok, Out.bind_ok, chk_pos (by omega), lcgo_map e T F st as _ (fun b hb => h b (List.mem_cons_of_mem _ hb)) (by rw [List.length_append, List.length_singleton]; omega), List.filter_cons, hT]
      simp
    | false =>
      rw [if_neg Bool.false_ne_true, lcgo_map e T F st as _ (fun b hb => h b (List.mem_cons_of_mem _ hb)) (by omega), List.filter_cons, hT]
      simp
/-- a comprehension that changes nothing -/
theorem lc_map (as : List α) (e : α → IV) (T : α → Bool) (F : α → IV) (hs : ms Λ S = .ok ⟨as.map e, k⟩ S1) (st : Src.stay ⟨as.map e, k⟩ S1)
    (h : ∀ a ∈ as, ∃ L, gi (e a) (wipeI Λ vs) = some L ∧ tt L S1 = .ok (T a) S1 ∧ (T a = true → te L S1 = .ok (F a) S1)) (hl : as.length ≤ sizeLine) : iLc cell ms gi tt te vs Λ S = mkL cell ((as.filter T).map F) S1 := by
  rw [iLc_e, hs]
  simp only [Out.bind_ok]
  rw [lcgo_map e T F st as [] h (by simpa using hl)]
  rfl
theorem lcgo_inv {s : Src} (hk : s.keep = none) (e : α → IV) (I : Nat → Sto → Prop) (P : IV → Prop) : ∀ (as : List α) (i : Nat) (S : Sto) (acc : List IV), I i S → (∀ j S a, as[j]? = some a → I (i + j) S → ∃ L v S', gi (e a) Λ = some L ∧ te L S = .ok v S' ∧ P v ∧ I (i + j + 1) S') → acc.length + as.length ≤ sizeLine →
    ∃ ys S', iLcGo s gi iYes te (as.map e) Λ S acc = .ok (acc ++ ys) S' ∧ ys.length = as.length ∧ (∀ y ∈ ys, P y) ∧ I (i + as.length) S'
  | [], i, S, acc, h0, _, _ => ⟨[], S, by
      show iLcGo s gi iYes te [] Λ S acc = _
      unfold iLcGo
      rw [chkP_pos (by unfold Src.stay; rw [hk]; trivial)]
      simp, rfl, (fun _ z => by cases z), h0⟩
  | a :: as, i, S, acc, h0, h, hl => by
    obtain ⟨L, v, S1, h1, h2, h3, h4⟩ := h 0 S a rfl h0
    rw [List.length_cons] at hl
    obtain ⟨ys, S', e1, e2, e3, e4⟩ := lcgo_inv hk e I P as (i + 1) S1 (acc ++ [v]) h4 (fun j S b hb hI => by
      have := h (j + 1) S b (by simpa using hb)
      rw [show i + (j + 1) = i + 1 + j by omega] at this
      exact this hI) (by rw [List.length_append, List.length_singleton]; omega)
    refine ⟨v :: ys, S', ?_, by rw [List.length_cons, e2, List.length_cons], fun y hy => ?_, by rw [List.length_cons, show i + (as.length + 1) = i + 1 + as.length by omega]; exact e4⟩
    · show iLcGo s gi iYes te (e a :: as.map e) Λ S acc = _
      unfold iLcGo
      rw [chkP_pos (by unfold Src.stay; rw [hk]; trivial), h1, orBad_some]
      show ((noX (Out.ok true S)).bind _) = _
      rw [noX_ok, Out.bind_ok, if_pos rfl, h2, noX_ok, Out.bind_ok, chk_pos (by omega), e1]
      simp
    · rcases List.mem_cons.mp hy with rfl | hy
      · exact h3
      · exact e3 y hy
/-- a comprehension whose items change the store, kept by I -/
theorem lc_inv (as : List α) (e : α → IV) (I : Nat → Sto → Prop) (P : IV → Prop) (hs : ms Λ S = .ok ⟨as.map e, none⟩ S1) (h0 : I 0 S1)
    (h : ∀ i S a, as[i]? = some a → I i S → ∃ L v S', gi (e a) (wipeI Λ vs) = some L ∧ te L S = .ok v S' ∧ P v ∧ I (i + 1) S') (hl : as.length ≤ sizeLine) :
    ∃ ys S', iLc cell ms gi iYes te vs Λ S = mkL cell ys S' ∧ ys.length = as.length ∧ (∀ y ∈ ys, P y) ∧ I as.length S' := by
  obtain ⟨ys, S', e1, e2, e3, e4⟩ := lcgo_inv (s := ⟨as.map e, none⟩) (gi := gi) (te := te) (Λ := wipeI Λ vs) rfl e I P as 0 S1 [] h0 (fun j S a ha hI => by
    rw [Nat.zero_add] at hI
    have := h j S a ha hI
    rw [Nat.zero_add]
    exact this) (by simpa using hl)
  refine ⟨ys, S', ?_, e2, e3, by rw [Nat.zero_add] at e4; exact e4⟩
  rw [iLc_e, hs]
  simp only [Out.bind_ok]
  rw [e1]
  rfl
end
/-! ### loops -/
/-- a loop is left by its body: a value, an exception -/
inductive Left : Out Fl → Prop
  | rt (v : IV) (S : Sto) : Left (.ok (.rt v) S)
  | ex (C : Str) (n : Nat) (L : Slots) (S : Sto) : Left (.exc C n L S)
section
variable {α : Type} {ms : IW} {g : IG} {b : IS} {c : IT} {Λ : Slots} {S S1 : Sto} {k : Option Nat}
theorem iter_gen {s : Src} (e : α → IV) (I : Nat → Slots → Sto → Prop) (E : Out Fl → Prop) (st : ∀ i Λ S, I i Λ S → s.stay S) : ∀ (as : List α) (i : Nat) (Λ : Slots) (S : Sto), I i Λ S →
    (∀ j Λ S a, as[j]? = some a → I (i + j) Λ S → ∃ Λ1 S1, g (e a) Λ S = .ok Λ1 S1 ∧ ((∃ Λ2 S2, (b Λ1 S1 = .ok (.nx Λ2) S2 ∨ b Λ1 S1 = .ok (.ct Λ2) S2) ∧ I (i + j + 1) Λ2 S2) ∨ (Left (b Λ1 S1) ∧ E (b Λ1 S1)))) →
    (∃ Λ' S', iIter s g b (as.map e) Λ S = .ok (.nx Λ') S' ∧ I (i + as.length) Λ' S') ∨ (Left (iIter s g b (as.map e) Λ S) ∧ E (iIter s g b (as.map e) Λ S))
  | [], i, Λ, S, h0, _ => .inl ⟨Λ, S, by show iIter s g b [] Λ S = _; unfold iIter; rw [chkP_pos (st i Λ S h0)], h0⟩
  | a :: as, i, Λ, S, h0, h => by
    obtain ⟨Λ1, S1, h1, h2⟩ := h 0 Λ S a rfl h0
    have go : iIter s g b ((a :: as).map e) Λ S = (b Λ1 S1).bind fun fl S2 => match fl with
        | .nx L => iIter s g b (as.map e) L S2
        | .ct L => iIter s g b (as.map e) L S2
        | .bk L => .ok (.nx L) S2
        | .rt v => .ok (.rt v) S2 := by
      show iIter s g b (e a :: as.map e) Λ S = _
      rw [iIter, chkP_pos (st i Λ S h0), h1]
      rfl
    rcases h2 with ⟨Λ2, S2, h2, h3⟩ | ⟨h2, h3⟩
    · have go2 : iIter s g b ((a :: as).map e) Λ S = iIter s g b (as.map e) Λ2 S2 := by
        rw [go]
        rcases h2 with h2 | h2 <;> rw [h2] <;> rfl
      rw [go2]
      have := iter_gen e I E st as (i + 1) Λ2 S2 h3 fun j Λ S x hx hI => by
        have z := h (j + 1) Λ S x (by simpa using hx)
        rw [show i + (j + 1) = i + 1 + j by omega] at z
        exact z hI
      rw [show i + 1 + as.length = i + (a :: as).length by rw [List.length_cons]; omega] at this
      exact this
    · right
      have : iIter s g b ((a :: as).map e) Λ S = b Λ1 S1 := by
        rw [go]
        generalize b Λ1 S1 = o at h2
        cases h2 <;> rfl
      rw [this]
      exact ⟨h2, h3⟩
/-- a for with its invariant; E: what is told where the body leaves it -/
theorem for_gen (as : List α) (e : α → IV) (I : Nat → Slots → Sto → Prop) (E : Out Fl → Prop) (hs : ms Λ S = .ok ⟨as.map e, k⟩ S1) (h0 : I 0 Λ S1) (st : ∀ i Λ S, I i Λ S → Src.stay ⟨as.map e, k⟩ S)
    (h : ∀ i Λ S a, as[i]? = some a → I i Λ S → ∃ Λ1 S1, g (e a) Λ S = .ok Λ1 S1 ∧ ((∃ Λ2 S2, (b Λ1 S1 = .ok (.nx Λ2) S2 ∨ b Λ1 S1 = .ok (.ct Λ2) S2) ∧ I (i + 1) Λ2 S2) ∨ (Left (b Λ1 S1) ∧ E (b Λ1 S1)))) :
    (∃ Λ' S', iFor ms g b Λ S = .ok (.nx Λ') S' ∧ I as.length Λ' S') ∨ (Left (iFor ms g b Λ S) ∧ E (iFor ms g b Λ S)) := by
  have := iter_gen (s := ⟨as.map e, k⟩) (g := g) (b := b) e I E st as 0 Λ S1 h0 fun j Λ S a ha hI => by
    rw [Nat.zero_add] at hI ⊢
    exact h j Λ S a ha hI
  rw [iFor_e, hs, Out.bind_ok]
  rw [Nat.zero_add] at this
  exact this
/-- .. that is never left -/
theorem for_inv (as : List α) (e : α → IV) (I : Nat → Slots → Sto → Prop) (hs : ms Λ S = .ok ⟨as.map e, k⟩ S1) (h0 : I 0 Λ S1) (st : ∀ i Λ S, I i Λ S → Src.stay ⟨as.map e, k⟩ S)
    (h : ∀ i Λ S a, as[i]? = some a → I i Λ S → ∃ Λ1 S1 Λ2 S2, g (e a) Λ S = .ok Λ1 S1 ∧ b Λ1 S1 = .ok (.nx Λ2) S2 ∧ I (i + 1) Λ2 S2) :
    ∃ Λ' S', iFor ms g b Λ S = .ok (.nx Λ') S' ∧ I as.length Λ' S' := by
  rcases for_gen as e I (fun _ => False) hs h0 st (fun i Λ S a ha hI => by
    obtain ⟨Λ1, S1, Λ2, S2, h1, h2, h3⟩ := h i Λ S a ha hI
    exact ⟨Λ1, S1, h1, .inl ⟨Λ2, S2, .inl h2, h3⟩⟩) with z | ⟨_, z⟩
  · exact z
  · exact z.elim
theorem wh_ex {o : Out Fl} (h : iWhile c b Λ S = o) (hn : o ≠ .bad) : ∃ n, iWh c b n Λ S = o := by
  unfold iWhile at h
  split at h
  · exact ⟨_, h⟩
  · exact absurd h.symm hn
theorem wh_f (hc : c Λ S = .ok false S1) : iWhile c b Λ S = .ok (.nx Λ) S1 := iWhile_of (n := 1) (by unfold iWh; rw [hc]; rfl) (by simp)
theorem wh_t {L : Slots} {S2 : Sto} {o : Out Fl} (hc : c Λ S = .ok true S1) (hb : b Λ S1 = .ok (.nx L) S2) (h : iWhile c b L S2 = o) (hn : o ≠ .bad) : iWhile c b Λ S = o := by
  obtain ⟨n, e⟩ := wh_ex h hn
  exact iWhile_of (n := n + 1) (by unfold iWh; rw [hc, Out.bind_ok, if_pos rfl, hb]; exact e) hn
theorem wh_l (hc : c Λ S = .ok true S1) (hb : Left (b Λ S1)) : iWhile c b Λ S = b Λ S1 := by
  generalize e : b Λ S1 = o at hb
  cases hb with
  | rt v S2 => exact iWhile_of (n := 1) (by unfold iWh; rw [hc, Out.bind_ok, if_pos rfl, e]; rfl) (by simp)
  | ex C n L S2 => exact iWhile_of (n := 1) (by unfold iWh; rw [hc, Out.bind_ok, if_pos rfl, e]; rfl) (by simp)
/-- a while with its invariant and a number that falls -/
theorem while_gen (I : Nat → Slots → Sto → Prop) (E : Out Fl → Prop) (hE : ¬ E .bad)
    (h : ∀ n Λ S, I n Λ S → (∃ S1, c Λ S = .ok false S1 ∧ E (.ok (.nx Λ) S1)) ∨ ∃ S1, c Λ S = .ok true S1 ∧ ((∃ m Λ2 S2, m < n ∧ b Λ S1 = .ok (.nx Λ2) S2 ∧ I m Λ2 S2) ∨ (Left (b Λ S1) ∧ E (b Λ S1)))) :
    ∀ n Λ S, I n Λ S → E (iWhile c b Λ S) := by
  intro n
  induction n using Nat.strongRecOn with
  | ind n ih =>
    intro Λ S hI
    rcases h n Λ S hI with ⟨S1, h1, h2⟩ | ⟨S1, h1, ⟨m, Λ2, S2, h2, h3, h4⟩ | ⟨h2, h3⟩⟩
    · rw [wh_f h1]; exact h2
    · have z := ih m h2 Λ2 S2 h4
      rw [wh_t h1 h3 rfl (fun q => hE (q ▸ z))]
      exact z
    · rw [wh_l h1 h2]; exact h3
end
theorem rangeI_map (lo : Int) (n : Nat) : rangeI lo n = (List.range n).map fun i : Nat => IV.int (lo + i) := rfl
end Sm

set_option maxHeartbeats 1000000
/-! what the laws have in common: draws, sources, the walk over the script -/
namespace Lw
open PySem PySem.Spec PyProof.Rows L2 Sm
/-- the draws' state: a list of three ints at n; K bounds how often was drawn -/
def Dr (S : Sto) (n : Nat) (K : Nat) : Prop := ∃ a b c : Int, S[n]? = some (.lst [.int a, .int b, .int c]) ∧ 0 ≤ c ∧ c ≤ K
theorem Dr.up {S : Sto} {n K M : Nat} (h : Dr S n K) (l : K ≤ M) : Dr S n M := by
  obtain ⟨a, b, c, e, c0, c1⟩ := h
  exact ⟨a, b, c, e, c0, by omega⟩
theorem Dr.lt {S : Sto} {n K : Nat} (h : Dr S n K) : n < S.length := by
  obtain ⟨a, b, c, e, _⟩ := h
  exact lt_some e
theorem Dr.ext {S S' : Sto} {n K : Nat} {ds : List Nat} (h : Dr S n K) (x : Ext ds S S') (hn : n ∉ ds := by simp) : Dr S' n K := by
  obtain ⟨a, b, c, e, c0, c1⟩ := h
  exact ⟨a, b, c, x.get e hn, c0, c1⟩
def drawB (A B C M Hh N : Int) : IS := (iSeq (iIf (iTest (iBin fGt (iBin fIx (iVar 0) (iC (.int 0))) (iC (.int 0)))) (iSeq (iSet 2 (iBin fMod (iCa fInt (iCons (iBin fIx (iVar 0) (iC (.int 0))) iNil)) (iVar 1))) (iSeq (iAsg (iBin fDiv (iBin fIx (iVar 0) (iC (.int 0))) (iVar 1)) (iGSub (iVar 0) (iC (.int 0)))) (iRet (iVar 2)))) iNext)
  (iSeq (iAsg (iBin fAdd (iBin fIx (iVar 0) (iC (.int 2))) (iC (.int 1))) (iGSub (iVar 0) (iC (.int 2)))) (iSeq (iAsg (iBin fMod (iCa fInt (iCons (iBin fAdd (iBin fAdd (iBin fMul (iBin fIx (iVar 0) (iC (.int 1))) (iC (.int A))) (iBin fMul (iBin fMul (iBin fIx (iVar 0) (iC (.int 2))) (iBin fIx (iVar 0) (iC (.int 2)))) (iC (.int B)))) (iC (.int C))) iNil)) (iC (.int M))) (iGSub (iVar 0) (iC (.int 1))))
  (iSeq (iSet 3 (iBin fDiv (iBin fIx (iVar 0) (iC (.int 1))) (iC (.int Hh)))) (iRet (iBin fMod (iBin fMod (iCa fInt (iCons (iBin fAdd (iBin fMul (iVar 3) (iVar 3)) (iBin fIx (iVar 0) (iC (.int 1)))) iNil)) (iC (.int N))) (iVar 1)))))))
structure DrC (A B M Hh N : Int) : Prop where
  a : -(2 ^ 64) < A ∧ A < 2 ^ 64
  b : -(2 ^ 64) < B ∧ B < 2 ^ 64
  m : 0 < M
  m2 : M ≤ 2147483648
  h : 0 < Hh ∧ Hh < 1073741824
  n : 0 < N
theorem draw_ok {A B C M Hh N : Int} (k : DrC A B M Hh N) {S : Sto} {n K : Nat} {m : Int} (h : Dr S n K) (hN : K ≤ 1000000) (h0 : 0 < m) (h1 : m < 1073741824) :
    ∃ r S', mDef 4 (drawB A B C M Hh N) [.adr n, .int m] S = .ok (.int r) S' ∧ 0 ≤ r ∧ r < m ∧ Dr S' n (K + 1) ∧ Ext [n] S S' := by
  obtain ⟨a, b, c, e, c0, c1⟩ := h
  have hn : n < S.length := lt_some e
  have hd : CDiv a m := ⟨h0, h1⟩
  have ex : ∀ c, Ext [n] S (S.set n c) := fun c => Ext.set (.inl (by simp))
  by_cases ha : 0 < a
  · refine ⟨a % m, S.set n (.lst [.int (a / m), .int b, .int c]), mDef_rt ?_, Int.emod_nonneg _ (by omega), Int.emod_lt_of_pos _ h0, ⟨_, _, _, List.getElem?_set_self hn, c0, by omega⟩, ex _⟩
    unfold drawB
    simp [iVar_s, fIx_a e, ha, chk_pos, h0, hd, onL_s e]
  · have hm := k.m
    have hm2 := k.m2
    obtain ⟨hh0, hh1⟩ := k.h
    have hn0 := k.n
    generalize hy : (b * A + (c + 1) * (c + 1) * B + C) % M = y
    have y1 : y < M := hy ▸ Int.emod_lt_of_pos _ hm
    have y0 : 0 ≤ y := hy ▸ Int.emod_nonneg _ (by omega)
    have k1 : CMul b A := .inr ⟨k.a.1, k.a.2⟩
    have k2 : CMul (c + 1) (c + 1) := .inl ⟨by omega, by omega⟩
    have k3 : CMul ((c + 1) * (c + 1)) B := .inr ⟨k.b.1, k.b.2⟩
    have k4 : CDiv y Hh := ⟨hh0, hh1⟩
    have z0 : 0 ≤ y / Hh := Int.ediv_nonneg y0 (by omega)
    have z1 : y / Hh ≤ y := Int.ediv_le_self _ y0
    have k5 : CMul (y / Hh) (y / Hh) := .inl ⟨by omega, by omega⟩
    refine ⟨(y / Hh * (y / Hh) + y) % N % m, S.set n (.lst [.int a, .int y, .int (c + 1)]), mDef_rt ?_, Int.emod_nonneg _ (by omega), Int.emod_lt_of_pos _ h0, ⟨_, _, _, List.getElem?_set_self hn, by omega, by omega⟩, ex _⟩
    have e1 : (S.set n (.lst [.int a, .int b, .int (c + 1)]))[n]? = some (.lst [.int a, .int b, .int (c + 1)]) := List.getElem?_set_self hn
    have e2 : (S.set n (.lst [.int a, .int y, .int (c + 1)]))[n]? = some (.lst [.int a, .int y, .int (c + 1)]) := List.getElem?_set_self hn
    unfold drawB
    simp [iVar_s, fIx_a e, fIx_a e1, fIx_a e2, ha, chk_pos, h0, onL_s e, onL_s e1, k1, k2, k3, hy, k4, k5, hm, hn0]
/-! ### sources -/
def sourceB (P : Int) (cc : Int) (D : Int) : IS := (iSeq (iSet 2 (iIf (iTest (iBin fLt (iVar 1) (iCa fLen (iCons (iVar 0) iNil)))) (iBin fIx (iVar 0) (iVar 1)) (iC (.int 0)))) (iSeq (iSet 3 (iIf (iTest (iBin fGe (iCa fAbs (iCons (iVar 2) iNil)) (iBin fPow (iC (.int 10)) (iC (.int 18))))) (iCa fAbs (iCons (iVar 2) iNil)) (iC (.int 0))))
  (iRet (iLst true (iCons (iVar 3) (iCons (iBin fAdd (iBin fAdd (iBin fMod (iCa fInt (iCons (iVar 2) iNil)) (iC (.int P))) (iBin fMul (iC (.int cc)) (iVar 1))) (iC (.int D))) (iCons (iC (.int 0)) iNil)))))))
theorem source_ok {P cc D : Int} (hP : 0 < P) (hc : -(2 ^ 64) < cc ∧ cc < 2 ^ 64) {S : Sto} {ns : List Int} {i : Nat} : ∃ S', mDef 4 (sourceB P cc D) [.wls (ns.map IV.int), .int i] S = .ok (.adr S.length) S' ∧ Dr S' S.length 0 ∧ Ext [] S S' ∧ S'.length = S.length + 1 := by
  have z3 : (3 : Nat) ≤ sizeLine := by rw [szL]; decide
  have kp : CPow 10 18 := by decide
  have km : CMul cc (i : Int) := .inl ⟨hc.1, hc.2⟩
  obtain ⟨c, hc⟩ : ∃ c : Int, (iIf (iTest (iBin fLt (iVar 1) (iCa fLen (iCons (iVar 0) iNil)))) (iBin fIx (iVar 0) (iVar 1)) (iC (.int 0)) : IE) [some (.wls (ns.map IV.int)), some (.int i), none, none] S = .ok (.int c) S := by
    by_cases h : i < ns.length
    · refine ⟨ns[i], ?_⟩
      have e : atI (ns.map IV.int) (i : Int) = some (.int ns[i]) := atI_nat (by rw [List.getElem?_map, List.getElem?_eq_getElem h]; rfl)
      simp [iVar_s, h, e]
    · refine ⟨0, ?_⟩
      simp [iVar_s, h]
  let a : Int := if (10 : Int) ^ 18 ≤ (if c < 0 then -c else c) then (if c < 0 then -c else c) else 0
  refine ⟨S ++ [.lst [.int a, .int (c % P + cc * i + D), .int 0]], ?_, ⟨_, _, _, get_new _ _, Int.le_refl 0, Int.le_refl 0⟩, .app _, by simp⟩
  refine mDef_rt ?_
  unfold sourceB
  rw [iSeq_e, iSet_e]
  show ((Out.bind (iIf _ _ _ [some (.wls (ns.map IV.int)), some (.int i), none, none] S) _).bind _) = _
  rw [hc]
  by_cases h : (10 : Int) ^ 18 ≤ (if c < 0 then -c else c)
  · have ha : a = (if c < 0 then -c else c) := if_pos h
    have h' : (1000000000000000000 : Int) ≤ (if c < 0 then -c else c) := h
    simp [iVar_s, kp, chk_pos, km, z3, h', hP, ha]
  · have ha : a = 0 := if_neg h
    have h' : ¬ (1000000000000000000 : Int) ≤ (if c < 0 then -c else c) := h
    simp [iVar_s, kp, chk_pos, km, z3, h', hP, ha]
/-! ### range(max(1, min(t, len(script)))) -/
def turns (t : Int) (ns : List Int) : Nat := (if (if (ns.length : Int) < t then (ns.length : Int) else t) > 1 then (if (ns.length : Int) < t then (ns.length : Int) else t) else 1).toNat
def placesW (t : Int) : IW := iSrcR1 (iCa fMax2 (iCons (iC (.int 1)) (iCons (iCa fMin2 (iCons (iC (.int t)) (iCons (iCa fLen (iCons (iVar 0) iNil)) iNil))) iNil)))
theorem places_src {t : Int} (ht : t ≤ 1000) {ns : List Int} {Λ : Slots} {S : Sto} (h0 : Λ[0]? = some (some (.wls (ns.map IV.int)))) (hl : ns.length ≤ 63) : placesW t Λ S = .ok ⟨(List.range (turns t ns)).map fun i : Nat => IV.int i, none⟩ S := by
  unfold placesW turns
  have q : -(2 ^ 62) ≤ (if (if (ns.length : Int) < t then (ns.length : Int) else t) > 1 then (if (ns.length : Int) < t then (ns.length : Int) else t) else 1) ∧ (if (if (ns.length : Int) < t then (ns.length : Int) else t) > 1 then (if (ns.length : Int) < t then (ns.length : Int) else t) else 1) < 2 ^ 62 := by
    split <;> split <;> omega
  simp only [iSrcR1_e, iCa_e, iCons_e, iC_e, iNil_e, Out.bind_ok]
  rw [iVar_s h0]
  simp only [Out.bind_ok, fLen_e, lenN_w, orBad_some, List.length_map, fMin2_i, fMax2_i, asI_i]
  rw [chk_pos q, rangeI_map]
  simp only [Int.zero_add]
theorem src_range {Λ : Slots} {S S1 : Sto} {m : IE} {j : Int} (h : m Λ S = .ok (.int j) S1) (h0 : 0 ≤ j) (h1 : j < 1000000) : iSrcR1 m Λ S = .ok ⟨(List.range j.toNat).map fun i : Nat => IV.int i, none⟩ S1 := by
  rw [iSrcR1_e, h]
  simp only [Out.bind_ok, asI_i]
  rw [chk_pos (⟨by omega, by omega⟩ : -(2 ^ 62) ≤ j ∧ j < 2 ^ 62), rangeI_map]
  simp only [Int.zero_add]
end Lw

set_option maxHeartbeats 2000000
/-! names drawn by the laws -/
namespace Lw
open PySem PySem.Spec PyProof.Rows L2 Sm
def alpha : Str := "abcdefghijklmnopqrstuvwxyz"
theorem alpha_len : alpha.length = 26 := by decide +kernel
theorem alpha_lt {c : Nat} (h : c ∈ sg alpha) : c < 1114112 := by
  have h2 : (sg alpha).all (fun c => decide (c < 1114112)) = true := by decide +kernel
  exact of_decide_eq_true (List.all_eq_true.mp h2 c h)
/-- all signs are letters -/
def Abc (s : Str) : Prop := ∀ c ∈ sg s, c ∈ sg alpha
theorem Abc.ok {s : Str} (h : Abc s) : okS s := fun c hc => alpha_lt (h c hc)
theorem strsOf_map : ∀ zs : List Str, strsOf (zs.map IV.str) = some zs
  | [] => rfl
  | z :: zs => by
    show (strsOf (zs.map IV.str)).map (z :: ·) = _
    rw [strsOf_map zs]; rfl
theorem sum_ones : ∀ {l : List Str}, (∀ z ∈ l, z.length = 1) → (l.map (·.length)).sum = l.length
  | [], _ => rfl
  | z :: l, h => by
    rw [List.map_cons, List.sum_cons, sum_ones fun y hy => h y (List.mem_cons_of_mem _ hy), h z List.mem_cons_self, List.length_cons]
    omega
theorem join_len (zs : List Str) : (PySem.Txt.join ⟨#[]⟩ zs).length = (zs.map (·.length)).sum := by
  rw [← sg_len, sg_join0, List.length_flatten, List.map_map]
  exact congrArg List.sum (List.map_congr_left fun z _ => sg_len z)
theorem join_e {Λ : Slots} {S S1 : Sto} {ma : IE} {zs : List Str} (h : ma Λ S = .ok (.lst (zs.map IV.str)) S1) (h1 : ∀ z ∈ zs, z.length = 1) (hl : zs.length ≤ 1000000) :
    iBM "str" fJoin (iC (.str "")) (iCons ma iNil) Λ S = .ok (.str (PySem.Txt.join ⟨#[]⟩ zs)) S1 := by
  have q2 : (zs.map (·.length)).sum + zs.length * (Str.mk #[]).length ≤ 16777216 := by
    rw [sum_ones h1]
    show _ + _ * 0 ≤ _
    omega
  rw [iBM_e, iC_e, Out.bind_ok, empty_eq, chk_pos (show hasTy "str" S (.str ⟨#[]⟩) = true from rfl), iCons_e, h]
  simp only [Out.bind_ok, iNil_e]
  unfold fJoin
  have q5 : seqOf S1 (.lst (zs.map IV.str)) = some (zs.map IV.str) := rfl
  simp only [asS_s, a1_1, q5, orBad_some, strsOf_map]
  rw [chk_pos q2]
theorem inB_a {S : Sto} {n : Nat} (s : Str) (zs : List Str) (h : S[n]? = some (.lst (zs.map IV.str))) : inB S (.str s) (.adr n) = some (decide (s ∈ zs)) := by
  have e : seqOf S (.adr n) = seqOf S (.lst (zs.map IV.str)) := by
    unfold seqOf tupOf lstOf
    simp only [h]
  have e2 : inB S (.str s) (.adr n) = inB S (.str s) (.lst (zs.map IV.str)) := by
    unfold inB
    simp only [e]
  rw [e2, inB_lst]
theorem app_e {Λ : Slots} {S S1 S2 : Sto} {mo mv : IE} {n : Nat} {xs : List IV} {v : IV} (ho : mo Λ S = .ok (.adr n) S1) (hv : mv Λ S1 = .ok v S2) (h1 : S1[n]? = some (.lst xs)) (h : S2[n]? = some (.lst xs)) (hl : xs.length < 1000000) :
    iBM "list" fApp mo (iCons mv iNil) Λ S = .ok .non (S2.set n (.lst (xs ++ [v]))) := by
  have ht : hasTy "list" S1 (.adr n) = true := by
    unfold hasTy lstOf
    simp only [h1]
    rfl
  rw [iBM_e, ho, Out.bind_ok, chk_pos ht, iCons_e, hv]
  simp only [Out.bind_ok, iNil_e]
  show (a1 [v] fun y => onL S2 (.adr n) _) = _
  rw [a1_1, onL_s h, chk_pos (by rw [szL]; omega)]
theorem atI_sg {c : Int} {z : Str} (h0 : 0 ≤ c) (h1 : c < z.length) : ∃ d, atI z.cps.toList c = some d ∧ d ∈ sg z := atI_lt h0 (by rw [show z.cps.toList.length = z.length from sg_len z]; exact h1)
/-- the names of a pool -/
structure Pool (ps kept : List Str) : Prop where
  abc : ∀ p ∈ ps, Abc p
  len : ∀ p ∈ ps, 1 ≤ p.length ∧ p.length ≤ 5
  nk : ∀ p ∈ ps, p ∉ kept
  nd : ps.Nodup
def keptA : List Str := ["ahead", "all", "as", "at", "call", "class", "def", "end", "for", "from", "keep", "none", "often"]
def keptB : List Str := ["once", "or", "patch", "set", "stand", "start", "stop", "table", "test", "using", "with"]
def keptL : List Str := keptA ++ keptB
def spareS (k : Nat) : Str := ((⟨#[97 + k]⟩ : Str) ++ (⟨#[122 - k]⟩ : Str)) ++ "x"
def spareL : List Str := (List.range 26).map spareS
theorem spare_all : spareL.all (fun s => decide (s.length = 3) && (sg s).all (fun c => decide (c ∈ sg alpha)) && !decide (s ∈ keptL)) = true := by decide +kernel
theorem spare_nd : spareL.Nodup := by decide +kernel
theorem spare_mem {s : Str} (h : s ∈ spareL) : s.length = 3 ∧ Abc s ∧ s ∉ keptL := by
  have := List.all_eq_true.mp spare_all s h
  simp only [Bool.and_eq_true, decide_eq_true_eq, List.all_eq_true, Bool.not_eq_true', decide_eq_false_iff_not] at this
  exact ⟨this.1.1, this.1.2, this.2⟩
/-- of more names than those some is not among them -/
theorem one_free : ∀ (l xs : List Str), l.Nodup → xs.length < l.length → (l.filter fun s => !decide (s ∈ xs)) ≠ []
  | [], xs, _, h => by simp at h
  | s :: l, xs, hd, h => by
    by_cases hs : s ∈ xs
    · have h2 := one_free l (xs.erase s) (List.nodup_cons.mp hd).2 (by rw [List.length_erase_of_mem hs]; rw [List.length_cons] at h; have := List.length_pos_of_mem hs; omega)
      intro z
      rw [List.filter_cons] at z
      simp only [decide_eq_true hs, Bool.not_true, Bool.false_eq_true, if_false] at z
      apply h2
      rw [List.filter_eq_nil_iff] at z ⊢
      intro y hy
      have := z y hy
      simp only [Bool.not_eq_true', decide_eq_false_iff_not, Decidable.not_not] at this ⊢
      have ne : y ≠ s := fun e => (List.nodup_cons.mp hd).1 (e ▸ hy)
      exact (List.mem_erase_of_ne ne).mpr this
    · intro z
      rw [List.filter_cons] at z
      simp [hs] at z
/-! ### a pool of twelve names -/
/-- elt: a letter is drawn (as a text of one sign) -/
noncomputable def poolB (draw elt : IE) : IS := (iSeq (iSet 1 (iLst false (iCons (iC (.str "ahead")) (iCons (iC (.str "all")) (iCons (iC (.str "as")) (iCons (iC (.str "at")) (iCons (iC (.str "call")) (iCons (iC (.str "class")) (iCons (iC (.str "def")) (iCons (iC (.str "end")) (iCons (iC (.str "for")) (iCons (iC (.str "from")) (iCons (iC (.str "keep")) (iCons (iC (.str "none")) (iCons (iC (.str "often")) iNil)))))))))))))))
  (iSeq (iSet 1 (iBin fAdd (iVar 1) (iLst false (iCons (iC (.str "once")) (iCons (iC (.str "or")) (iCons (iC (.str "patch")) (iCons (iC (.str "set")) (iCons (iC (.str "stand")) (iCons (iC (.str "start")) (iCons (iC (.str "stop")) (iCons (iC (.str "table")) (iCons (iC (.str "test")) (iCons (iC (.str "using")) (iCons (iC (.str "with")) iNil))))))))))))))
  (iSeq (iSet 2 (iC (.str "abcdefghijklmnopqrstuvwxyz"))) (iSeq (iSet 3 (iLst true iNil)) (iSeq (iFor (iSrcR1 (iC (.int 12))) (iName 4) (iSeq (iSet 5 (iBin fAdd (iC (.int 1)) draw)) (iSeq (iSet 6 (iBM "str" fJoin (iC (.str "")) (iCons (iLc false (iSrcR1 (iVar 5)) (giN 8) iYes elt [8]) iNil)))
  (iSeq (iIf (iOr (iTest (iBin fIn (iVar 6) (iVar 1))) (iTest (iBin fIn (iVar 6) (iVar 3)))) (iSeq (iSet 7 (iLc false (iSrcR1 (iC (.int 26))) (giN 8) iYes (iBin fAdd (iBin fAdd (iBin fIx (iVar 2) (iVar 8)) (iBin fIx (iVar 2) (iBin fSub (iC (.int 25)) (iVar 8)))) (iC (.str "x"))) [8]))
  (iSet 6 (iBin fIx (iLc false (iSrcL (iVar 7)) (giN 9) (iTest (iBin fNotIn (iVar 9) (iVar 3))) (iVar 9) [9]) (iC (.int 0))))) iNext) (iDrop (iBM "list" fApp (iVar 3) (iCons (iVar 6) iNil))))))) (iRet (iVar 3)))))))
/-- what is asked of a drawing expression: an int below m -/
def DrawsI (m : Int) (n : Nat) (e : IE) : Prop := ∀ (Λ : Slots) (S : Sto) (K : Nat), Λ[0]? = some (some (.adr n)) → Dr S n K → K ≤ 1000000 → ∃ r S', e Λ S = .ok (.int r) S' ∧ 0 ≤ r ∧ r < m ∧ Dr S' n (K + 1) ∧ Ext [n] S S'
def DrawsL (n : Nat) (e : IE) : Prop := ∀ (Λ : Slots) (S : Sto) (K : Nat), Λ[0]? = some (some (.adr n)) → Λ[2]? = some (some (.str alpha)) → Dr S n K → K ≤ 1000000 → ∃ c S', e Λ S = .ok (.str ⟨#[c]⟩) S' ∧ c ∈ sg alpha ∧ Dr S' n (K + 1) ∧ Ext [n] S S'
theorem spare_e {S : Sto} {Λ : Slots} {k : Nat} (hk : k < 26) (h2 : Λ[2]? = some (some (.str alpha))) (h8 : Λ[8]? = some (some (.int k))) :
    (iBin fAdd (iBin fAdd (iBin fIx (iVar 2) (iVar 8)) (iBin fIx (iVar 2) (iBin fSub (iC (.int 25)) (iVar 8)))) (iC (.str "x")) : IE) Λ S = .ok (.str (spareS k)) S := by
  have z : alpha.length ≤ sizeLine := by rw [alpha_len, szL]; decide
  have e1 : atI (sg alpha) (k : Int) = some (97 + k) := by
    refine atI_nat ?_
    have : (List.range 26).all (fun k => (sg alpha)[k]? == some (97 + k)) = true := by decide +kernel
    exact beq_iff_eq.mp (List.all_eq_true.mp this k (List.mem_range.mpr hk))
  have e2 : atI (sg alpha) (25 - (k : Int)) = some (122 - k) := by
    rw [show (25 : Int) - k = ((25 - k : Nat) : Int) by omega]
    refine atI_nat ?_
    have : (List.range 26).all (fun k => (sg alpha)[25 - k]? == some (122 - k)) = true := by decide +kernel
    exact beq_iff_eq.mp (List.all_eq_true.mp this k (List.mem_range.mpr hk))
  have l1 : (Str.mk #[97 + k]).length + (Str.mk #[122 - k]).length ≤ sizeLine := by rw [szL]; show 1 + 1 ≤ _; decide
  have l2 : ((⟨#[97 + k]⟩ : Str) ++ (⟨#[122 - k]⟩ : Str)).length + ("x" : Str).length ≤ sizeLine := by rw [szL, len_app]; show (1 + 1) + 1 ≤ _; decide
  have c1 : (25 : Int) - k ≤ 2 ^ 62 := by omega
  unfold spareS
  simp [iVar_s h2, iVar_s h8, z, chk_pos, e1, e2, l1, l2]
theorem letters_e {n : Nat} {elt : IE} (he : DrawsL n elt) {Λ : Slots} {S : Sto} {K : Nat} {r : Int} (h0 : Λ[0]? = some (some (.adr n))) (h2 : Λ[2]? = some (some (.str alpha))) (h5 : Λ[5]? = some (some (.int r))) (r0 : 0 ≤ r) (r1 : r ≤ 1000) (hd : Dr S n K) (hK : K ≤ 900000) :
    ∃ w S', iBM "str" fJoin (iC (.str "")) (iCons (iLc false (iSrcR1 (iVar 5)) (giN 8) iYes elt [8]) iNil) Λ S = .ok (.str w) S' ∧ Abc w ∧ (w.length : Int) = r ∧ Dr S' n (K + r.toNat) ∧ Ext [n] S S' := by
  have src : iSrcR1 (iVar 5) Λ S = .ok ⟨(List.range r.toNat).map fun i : Nat => IV.int i, none⟩ S := src_range (iVar_s h5) r0 (by omega)
  obtain ⟨ys, S', e1, e2, e3, e4⟩ := lc_inv (cell := false) (gi := giN 8) (te := elt) (vs := [8]) (Λ := Λ) (List.range r.toNat) (fun i : Nat => IV.int i) (fun j S2 => Dr S2 n (K + j) ∧ Ext [n] S S2) (fun v => ∃ z : Str, v = .str z ∧ z.length = 1 ∧ Abc z) src ⟨hd, .refl⟩
    (fun i S2 a ha ⟨d2, x2⟩ => by
      have hi : i < (List.range r.toNat).length := lt_some ha
      rw [List.length_range] at hi
      have g0 : ((wipeI Λ [8]).set 8 (some (IV.int a)))[0]? = some (some (.adr n)) := by
        show ((Λ.set 8 none).set 8 _)[0]? = _
        rw [List.getElem?_set_ne (by decide), List.getElem?_set_ne (by decide)]; exact h0
      have g2 : ((wipeI Λ [8]).set 8 (some (IV.int a)))[2]? = some (some (.str alpha)) := by
        show ((Λ.set 8 none).set 8 _)[2]? = _
        rw [List.getElem?_set_ne (by decide), List.getElem?_set_ne (by decide)]; exact h2
      obtain ⟨c, S3, f1, f2, f3, f4⟩ := he _ S2 _ g0 g2 d2 (by omega)
      exact ⟨_, _, S3, rfl, f1, ⟨⟨#[c]⟩, rfl, rfl, fun d hd => by
        have : d = c := by simpa [sg] using hd
        subst this; exact f2⟩, f3, x2.trans f4⟩) (by rw [List.length_range, szL]; omega)
  obtain ⟨zs, rfl, hz⟩ : ∃ zs : List Str, ys = zs.map IV.str ∧ ∀ z ∈ zs, z.length = 1 ∧ Abc z := by
    clear e1 e2 e4
    induction ys with
    | nil => exact ⟨[], rfl, fun _ h => by cases h⟩
    | cons y ys ih =>
      obtain ⟨zs, rfl, h2⟩ := ih fun y hy => e3 y (List.mem_cons_of_mem _ hy)
      obtain ⟨z, rfl, h3, h4⟩ := e3 y List.mem_cons_self
      exact ⟨z :: zs, rfl, fun u hu => (List.mem_cons.mp hu).elim (fun e => e ▸ ⟨h3, h4⟩) (h2 u)⟩
  rw [List.length_map, List.length_range] at e2
  rw [List.length_range] at e4
  rw [mkL_f, chk_pos (by rw [List.length_map, szL]; omega)] at e1
  refine ⟨_, S', join_e e1 (fun z h => (hz z h).1) (by omega), fun c hc => ?_, ?_, e4.1, e4.2⟩
  · rw [sg_join0] at hc
    obtain ⟨l, hl, hc⟩ := List.mem_flatten.mp hc
    obtain ⟨z, hz1, rfl⟩ := List.mem_map.mp hl
    exact (hz z hz1).2 c hc
  · rw [join_len, sum_ones fun z h => (hz z h).1, e2]
    omega
theorem kept_e : keptA.map IV.str ++ keptB.map IV.str = keptL.map IV.str := by rw [← List.map_append]; rfl
theorem pool_ok {n : Nat} {draw elt : IE} (hd : DrawsI 5 n draw) (he : DrawsL n elt) {S : Sto} {K : Nat} (h : Dr S n K) (hK : K ≤ 800000) :
    ∃ ps S', mDef 10 (poolB draw elt) [.adr n] S = .ok (.adr S.length) S' ∧ S'[S.length]? = some (.lst (ps.map IV.str)) ∧ ps.length = 12 ∧ Pool ps keptL ∧ Dr S' n (K + 72) ∧ Ext [n] S S' := by
  have z13 : (13 : Nat) ≤ sizeLine := by rw [szL]; decide
  have z11 : (11 : Nat) ≤ sizeLine := by rw [szL]; decide
  have z24 : (24 : Nat) ≤ sizeLine := by rw [szL]; decide
  have hn := h.lt
  let p := S.length
  let Λs : Option IV → Option IV → Option IV → Option IV → Slots := fun a b c d => [some (.adr n), some (.lst (keptL.map IV.str)), some (.str alpha), some (.adr p), a, b, c, d, none, none]
  have src : iSrcR1 (iC (.int 12)) (Λs none none none none) (S ++ [.lst []]) = .ok ⟨(List.range 12).map fun i : Nat => IV.int i, none⟩ (S ++ [.lst []]) := src_range (j := 12) rfl (by decide) (by decide)
  obtain ⟨Λ', S', e1, ⟨a, b, c, d, rfl⟩, ps, g1, g2, g3, g4, g5⟩ := for_inv (Λ := Λs none none none none) (g := iName 4) (b := iSeq (iSet 5 (iBin fAdd (iC (.int 1)) draw)) (iSeq (iSet 6 (iBM "str" fJoin (iC (.str "")) (iCons (iLc false (iSrcR1 (iVar 5)) (giN 8) iYes elt [8]) iNil)))
      (iSeq (iIf (iOr (iTest (iBin fIn (iVar 6) (iVar 1))) (iTest (iBin fIn (iVar 6) (iVar 3)))) (iSeq (iSet 7 (iLc false (iSrcR1 (iC (.int 26))) (giN 8) iYes (iBin fAdd (iBin fAdd (iBin fIx (iVar 2) (iVar 8)) (iBin fIx (iVar 2) (iBin fSub (iC (.int 25)) (iVar 8)))) (iC (.str "x"))) [8]))
        (iSet 6 (iBin fIx (iLc false (iSrcL (iVar 7)) (giN 9) (iTest (iBin fNotIn (iVar 9) (iVar 3))) (iVar 9) [9]) (iC (.int 0))))) iNext) (iDrop (iBM "list" fApp (iVar 3) (iCons (iVar 6) iNil))))))
    (List.range 12) (fun i : Nat => IV.int i) (fun i Λ S1 => (∃ a b c d, Λ = Λs a b c d) ∧ ∃ ps, S1[p]? = some (.lst (ps.map IV.str)) ∧ ps.length = i ∧ Pool ps keptL ∧ Dr S1 n (K + 6 * i) ∧ Ext [n] S S1) src
    ⟨⟨_, _, _, _, rfl⟩, [], get_new _ _, rfl, ⟨fun _ z => (by cases z), fun _ z => (by cases z), fun _ z => (by cases z), List.nodup_nil⟩, h.ext (.app _) (ds := []), .app _⟩ (fun _ _ _ _ => trivial) (by
      rintro i Λ S1 x hx ⟨⟨a, b, c, d, rfl⟩, ps, g1, g2, g3, g4, g5⟩
      have hi : i < 12 := by have := lt_some hx; rwa [List.length_range] at this
      have pl : p < S1.length := lt_some g1
      have np : p ≠ n := by show S.length ≠ n; omega
      obtain ⟨r, S2, f1, r0, r1, d2, x2⟩ := hd (Λs (some (.int x)) b c d) S1 _ rfl g4 (by omega)
      have t5 : iBin fAdd (iC (.int 1)) draw (Λs (some (.int x)) b c d) S1 = .ok (.int (1 + r)) S2 := by simp [f1]
      obtain ⟨w, S3, f3, wa, wl, d3, x3⟩ := letters_e he (Λ := Λs (some (.int x)) (some (.int (1 + r))) c d) rfl rfl rfl (by omega) (by omega) d2 (by omega)
      have x13 := x2.trans x3
      have q3 := x13.get g1 (by simp [np])
      have hin : iOr (iTest (iBin fIn (iVar 6) (iVar 1))) (iTest (iBin fIn (iVar 6) (iVar 3))) (Λs (some (.int x)) (some (.int (1 + r))) (some (.str w)) d) S3 = .ok (decide (w ∈ keptL ∨ w ∈ ps)) S3 := by
        have i1 : iVar 6 (Λs (some (.int x)) (some (.int (1 + r))) (some (.str w)) d) S3 = .ok (.str w) S3 := iVar_s rfl
        have i2 : iVar 1 (Λs (some (.int x)) (some (.int (1 + r))) (some (.str w)) d) S3 = .ok (.lst (keptL.map IV.str)) S3 := iVar_s rfl
        have i3 : iVar 3 (Λs (some (.int x)) (some (.int (1 + r))) (some (.str w)) d) S3 = .ok (.adr p) S3 := iVar_s rfl
        simp only [iOr_e, iTest_e, iBin_e, i1, i2, i3, Out.bind_ok, fIn_e, inB_lst, inB_a w ps q3, orBad_some, asB_b]
        by_cases k1 : w ∈ keptL
        · simp [k1]
        · simp [k1]
      have fin : ∃ v Λ4, (iIf (iOr (iTest (iBin fIn (iVar 6) (iVar 1))) (iTest (iBin fIn (iVar 6) (iVar 3)))) (iSeq (iSet 7 (iLc false (iSrcR1 (iC (.int 26))) (giN 8) iYes (iBin fAdd (iBin fAdd (iBin fIx (iVar 2) (iVar 8)) (iBin fIx (iVar 2) (iBin fSub (iC (.int 25)) (iVar 8)))) (iC (.str "x"))) [8]))
          (iSet 6 (iBin fIx (iLc false (iSrcL (iVar 7)) (giN 9) (iTest (iBin fNotIn (iVar 9) (iVar 3))) (iVar 9) [9]) (iC (.int 0))))) iNext : IS) (Λs (some (.int x)) (some (.int (1 + r))) (some (.str w)) d) S3 = .ok (.nx Λ4) S3 ∧ (∃ d', Λ4 = Λs (some (.int x)) (some (.int (1 + r))) (some (.str v)) d') ∧ Abc v ∧ (1 ≤ v.length ∧ v.length ≤ 5) ∧ v ∉ keptL ∧ v ∉ ps := by
        by_cases hk : w ∈ keptL ∨ w ∈ ps
        · rw [decide_eq_true hk] at hin
          rw [if_tt hin]
          have m1 : iLc false (iSrcR1 (iC (.int 26))) (giN 8) iYes (iBin fAdd (iBin fAdd (iBin fIx (iVar 2) (iVar 8)) (iBin fIx (iVar 2) (iBin fSub (iC (.int 25)) (iVar 8)))) (iC (.str "x"))) [8] (Λs (some (.int x)) (some (.int (1 + r))) (some (.str w)) d) S3 = .ok (.lst (spareL.map IV.str)) S3 := by
            rw [lc_map (List.range 26) (fun i : Nat => IV.int i) (fun _ => true) (fun k => .str (spareS k)) (src_range (j := 26) rfl (by decide) (by decide)) trivial (fun k hk => ⟨_, rfl, rfl, fun _ => spare_e (List.mem_range.mp hk) rfl rfl⟩) (by rw [List.length_range, szL]; decide)]
            rw [mkL_f, chk_pos (by rw [List.length_map, szL]; decide)]
            congr 2
          have m2 : iLc false (iSrcL (iVar 7)) (giN 9) (iTest (iBin fNotIn (iVar 9) (iVar 3))) (iVar 9) [9] (Λs (some (.int x)) (some (.int (1 + r))) (some (.str w)) (some (.lst (spareL.map IV.str)))) S3 = .ok (.lst ((spareL.filter fun s => !decide (s ∈ ps)).map IV.str)) S3 := by
            rw [lc_map spareL IV.str (fun s => !decide (s ∈ ps)) IV.str (k := none) (S1 := S3) (by rw [iSrcL_e, iVar_s (x := .lst (spareL.map IV.str)) rfl]; rfl) trivial (fun s hs => ⟨_, rfl, by
              have i1 : iVar 9 ((wipeI (Λs (some (.int x)) (some (.int (1 + r))) (some (.str w)) (some (.lst (spareL.map IV.str)))) [9]).set 9 (some (.str s))) S3 = .ok (.str s) S3 := iVar_s rfl
              have i3 : iVar 3 ((wipeI (Λs (some (.int x)) (some (.int (1 + r))) (some (.str w)) (some (.lst (spareL.map IV.str)))) [9]).set 9 (some (.str s))) S3 = .ok (.adr p) S3 := iVar_s rfl
              simp only [iTest_e, iBin_e, i1, i3, Out.bind_ok, fNotIn_e, inB_a s ps q3, orBad_some, asB_b], fun _ => iVar_s rfl⟩) (by rw [szL]; decide)]
            rw [mkL_f, chk_pos (by rw [List.length_map, szL]; have := List.length_filter_le (fun s => !decide (s ∈ ps)) spareL; have : spareL.length = 26 := rfl; omega)]
          have ne := one_free spareL ps spare_nd (by rw [g2]; show i < 26; omega)
          cases hf : spareL.filter fun s => !decide (s ∈ ps) with
          | nil => exact absurd hf ne
          | cons v vs =>
            have hv : v ∈ spareL.filter fun s => !decide (s ∈ ps) := by rw [hf]; exact List.mem_cons_self
            obtain ⟨v1, v2⟩ := List.mem_filter.mp hv
            obtain ⟨s1, s2, s3⟩ := spare_mem v1
            refine ⟨v, Λs (some (.int x)) (some (.int (1 + r))) (some (.str v)) (some (.lst (spareL.map IV.str))), ?_, ⟨_, rfl⟩, s2, by omega, s3, by simpa using v2⟩
            rw [sq_ok (st_ok m1)]
            refine (st_ok (v := .str v) (S1 := S3) ?_).trans rfl
            rw [hf] at m2
            rw [iBin_e]
            show Out.bind (iLc false (iSrcL (iVar 7)) (giN 9) (iTest (iBin fNotIn (iVar 9) (iVar 3))) (iVar 9) [9] (Λs (some (.int x)) (some (.int (1 + r))) (some (.str w)) (some (.lst (spareL.map IV.str)))) S3) _ = _
            rw [m2]
            simp
        · rw [decide_eq_false hk] at hin
          rw [if_ff hin]
          exact ⟨w, _, rfl, ⟨d, rfl⟩, wa, by omega, fun z => hk (.inl z), fun z => hk (.inr z)⟩
      obtain ⟨v, Λ4, u1, ⟨d', rfl⟩, u3, u4, u5, u6⟩ := fin
      have i6 : iVar 6 (Λs (some (.int x)) (some (.int (1 + r))) (some (.str v)) d') S3 = .ok (.str v) S3 := iVar_s rfl
      have i3 : iVar 3 (Λs (some (.int x)) (some (.int (1 + r))) (some (.str v)) d') S3 = .ok (.adr p) S3 := iVar_s rfl
      have t8 := app_e i3 i6 q3 q3 (by rw [List.length_map]; omega)
      have x4 : Ext [n] S (S3.set p (.lst (ps.map IV.str ++ [.str v]))) := (g5.trans x13).trans' (.set (ds := [p]) (.inl (by simp))) fun e he => .inr (Nat.le_of_eq (List.mem_singleton.mp he).symm)
      refine ⟨_, S1, _, _, rfl, ((sq_ok (st_ok t5)).trans ((sq_ok (st_ok f3)).trans ((sq_ok u1).trans (dr_ok t8)))), ⟨_, _, _, _, rfl⟩, ps ++ [v], ?_, ?_, ⟨fun y hy => ?_, fun y hy => ?_, fun y hy => ?_, ?_⟩, ?_, x4⟩
      · rw [List.map_append]; exact get_setS q3 _
      · rw [List.length_append, g2, List.length_singleton]
      · exact (List.mem_append.mp hy).elim (g3.abc y) fun e => (List.mem_singleton.mp e) ▸ u3
      · exact (List.mem_append.mp hy).elim (g3.len y) fun e => (List.mem_singleton.mp e) ▸ u4
      · exact (List.mem_append.mp hy).elim (g3.nk y) fun e => (List.mem_singleton.mp e) ▸ u5
      · rw [List.nodup_append]
        exact ⟨g3.nd, by simp, fun a ha b hb => by rw [List.mem_singleton.mp hb]; exact fun e => u6 (e ▸ ha)⟩
      · exact (d3.up (by omega)).ext (.set (ds := [p]) (.inl (by simp))) (by simp [Ne.symm np]))
  rw [List.length_range] at g2 g4
  refine ⟨ps, S', ?_, g1, g2, g3, g4, g5⟩
  refine mDef_rt ?_
  have s1 : iLst false (iCons (iC (.str "ahead")) (iCons (iC (.str "all")) (iCons (iC (.str "as")) (iCons (iC (.str "at")) (iCons (iC (.str "call")) (iCons (iC (.str "class")) (iCons (iC (.str "def")) (iCons (iC (.str "end")) (iCons (iC (.str "for")) (iCons (iC (.str "from")) (iCons (iC (.str "keep")) (iCons (iC (.str "none")) (iCons (iC (.str "often")) iNil))))))))))))) [some (.adr n), none, none, none, none, none, none, none, none, none] S = .ok (.lst (keptA.map IV.str)) S := by
    simp only [iLst_e, iCons_e, iC_e, iNil_e, Out.bind_ok, mkL_f]
    rw [chk_pos (by exact z13)]
    rfl
  have s2 : iBin fAdd (iVar 1) (iLst false (iCons (iC (.str "once")) (iCons (iC (.str "or")) (iCons (iC (.str "patch")) (iCons (iC (.str "set")) (iCons (iC (.str "stand")) (iCons (iC (.str "start")) (iCons (iC (.str "stop")) (iCons (iC (.str "table")) (iCons (iC (.str "test")) (iCons (iC (.str "using")) (iCons (iC (.str "with")) iNil)))))))))))) [some (.adr n), some (.lst (keptA.map IV.str)), none, none, none, none, none, none, none, none] S = .ok (.lst (keptL.map IV.str)) S := by
    have i1 : iVar 1 [some (.adr n), some (.lst (keptA.map IV.str)), none, none, none, none, none, none, none, none] S = .ok (.lst (keptA.map IV.str)) S := iVar_s rfl
    simp only [iBin_e, i1, iLst_e, iCons_e, iC_e, iNil_e, Out.bind_ok, mkL_f]
    rw [chk_pos (by exact z11)]
    show mkF (keptA.map IV.str ++ keptB.map IV.str) S = _
    rw [kept_e, mkF_e, chk_pos (by exact z24)]
  show poolB draw elt [some (.adr n), none, none, none, none, none, none, none, none, none] S = _
  unfold poolB
  refine (sq_ok (st_ok s1)).trans ((sq_ok (st_ok s2)).trans ((sq_ok (st_ok (v := .str alpha) rfl)).trans ((sq_ok (Λ1 := Λs none none none none) (S1 := S ++ [.lst []]) (st_ok (v := .adr p) ?_)).trans ((sq_ok e1).trans (rt_ok (iVar_s rfl))))))
  simp only [iLst_e, iNil_e, Out.bind_ok, mkL_t]
  rw [chk_pos (by exact Nat.zero_le _)]
end Lw

set_option maxHeartbeats 4000000
namespace RD
open PySem PySem.Spec PyProof.Rows L2 Sm
def c_LETTERS : Str := "abcdefghijklmnopqrstuvwxyz"
def c_KEYWORDS : List Str := ["ahead", "all", "as", "at", "call", "class", "def", "either", "end", "for", "from", "\x69mport", "keep", "module", "none", "often", "once", "or", "outside", "patch", "set", "stand", "start", "stop", "table", "test", "using", "with"]
noncomputable def b_is_word : IS := (iSeq (iIf (iOr (iNot (iTru (iCa fIsi (iCons (iVar 0) (iCons (iC (.ty "str")) iNil))))) (iNot (iTest (iChain fLe fLe (iC (.int 1)) (iCa fLen (iCons (iVar 0) iNil)) (iC (.int 8)))))) (iRet (iC (.bl false))) iNext) (iSeq (iFor (iSrcS (iVar 0)) (iName 1) (iIf (iTest (iBin fNotIn (iVar 1) (iC (.str c_LETTERS)))) (iRet (iC (.bl false))) iNext)) (iRet (iC (.bl true)))))
noncomputable def m_is_word : List IV → Sto → Out IV := mDef 2 b_is_word
noncomputable def b_name_fits : IS := (iRet (iAndV (iCall 1 m_is_word (iCons (iVar 0) iNil)) (iBin fNotIn (iVar 0) (iC (.tup (c_KEYWORDS.map IV.str))))))
noncomputable def m_name_fits : List IV → Sto → Out IV := mDef 1 b_name_fits
noncomputable def b_read_step : IS := (iSeq (iIf (iTest (iBin fEq (iBin fIx (iVar 0) (iC (.int 0))) (iC (.str "[")))) (iSeq (iAsg (iBM "str" fPart (iSl false (iVar 0) (iPart (iC (.int 1))) iNoPart) (iCons (iC (.str "]")) iNil)) (iGTup 3 (iGCons (iName 1) (iGCons (iName 2) (iGCons (iName 3) iGNil))))) (iSeq (iIf (iOr (iTest (iBin fEq (iVar 2) (iC (.str "")))) (iNot (iTru (iCall 1 m_name_fits (iCons (iVar 1) iNil))))) (iRet (iC .non)) iNext) (iRet (iTup (iCons (iC (.str "[")) (iCons (iVar 1) (iCons (iVar 3) iNil))))))) iNext) (iSeq (iIf (iTest (iBin fNe (iBin fIx (iVar 0) (iC (.int 0))) (iC (.str ".")))) (iRet (iC .non)) iNext) (iSeq (iSet 4 (iC (.int 1))) (iSeq (iWhile (iAnd (iTest (iBin fLt (iVar 4) (iCa fLen (iCons (iVar 0) iNil)))) (iTest (iBin fIn (iBin fIx (iVar 0) (iVar 4)) (iC (.str c_LETTERS))))) (iAug 4 fAddI (iC (.int 1)))) (iSeq (iIf (iNot (iTru (iCall 1 m_name_fits (iCons (iSl false (iVar 0) (iPart (iC (.int 1))) (iPart (iVar 4))) iNil)))) (iRet (iC .non)) iNext) (iRet (iTup (iCons (iC (.str ".")) (iCons (iSl false (iVar 0) (iPart (iC (.int 1))) (iPart (iVar 4))) (iCons (iSl false (iVar 0) (iPart (iVar 4)) iNoPart) iNil))))))))))
noncomputable def m_read_step : List IV → Sto → Out IV := mDef 5 b_read_step
noncomputable def b_read_path : IS := (iSeq (iIf (iNot (iTru (iCa fIsi (iCons (iVar 0) (iCons (iC (.ty "str")) iNil))))) (iRet (iC .non)) iNext) (iSeq (iSet 1 (iC (.int 0))) (iSeq (iWhile (iAnd (iTest (iBin fLt (iVar 1) (iCa fLen (iCons (iVar 0) iNil)))) (iTest (iBin fIn (iBin fIx (iVar 0) (iVar 1)) (iC (.str c_LETTERS))))) (iAug 1 fAddI (iC (.int 1)))) (iSeq (iSet 2 (iSl false (iVar 0) iNoPart (iPart (iVar 1)))) (iSeq (iIf (iNot (iTru (iCall 1 m_name_fits (iCons (iVar 2) iNil)))) (iRet (iC .non)) iNext) (iSeq (iSet 3 (iLst true iNil)) (iSeq (iSet 4 (iSl false (iVar 0) (iPart (iVar 1)) iNoPart)) (iSeq (iWhile (iTest (iBin fNe (iVar 4) (iC (.str "")))) (iSeq (iSet 5 (iCall 1 m_read_step (iCons (iVar 4) iNil))) (iSeq (iIf (iOr (iTest (iBin gIsN (iVar 5) (iC .non))) (iTest (iBin fEq (iCa fLen (iCons (iVar 3) iNil)) (iC (.int 3))))) (iRet (iC .non)) iNext) (iSeq (iDrop (iBM "list" fApp (iVar 3) (iCons (iTup (iCons (iBin fIx (iVar 5) (iC (.int 0))) (iCons (iBin fIx (iVar 5) (iC (.int 1))) iNil))) iNil))) (iSet 4 (iBin fIx (iVar 5) (iC (.int 2)))))))) (iRet (iTup (iCons (iVar 0) (iCons (iVar 2) (iCons (iCa fTuple (iCons (iVar 3) iNil)) iNil)))))))))))))
noncomputable def m_read_path : List IV → Sto → Out IV := mDef 6 b_read_path
noncomputable def b_lines_of : IS := (iSeq (iIf (iTest (iBin fEq (iVar 0) (iC (.str "")))) (iRet (iLst false iNil)) iNext) (iRet (iBM "str" (fSplit false) (iVar 0) (iCons (iC (.str "\n")) iNil))))
noncomputable def m_lines_of : List IV → Sto → Out IV := mDef 1 b_lines_of
noncomputable def b_words_of : IS := (iRet (iBM "str" (fSplit false) (iVar 0) (iCons (iC (.str " ")) iNil)))
noncomputable def m_words_of : List IV → Sto → Out IV := mDef 1 b_words_of
noncomputable def b_Reader___init__ : IS := (iSeq (iSetF "Reader" "lines" (iVar 0) (iCa (fList false) (iCons (iVar 1) iNil))) (iSeq (iSetF "Reader" "at" (iVar 0) (iC (.int 0))) (iSeq (iSetF "Reader" "modules" (iVar 0) (iLst true iNil)) (iSeq (iSetF "Reader" "rows" (iVar 0) iDNew) (iSeq (iSetF "Reader" "declared" (iVar 0) iDNew) (iSeq (iSetF "Reader" "places" (iVar 0) iDNew) (iSeq (iSetF "Reader" "defs" (iVar 0) iDNew) (iSetF "Reader" "kept" (iVar 0) (iC .non)))))))))
noncomputable def m_Reader___init__ : List IV → Sto → Out IV := mDef 2 b_Reader___init__
noncomputable def b_Reader_need : IS := (iIf (iNot (iTru (iVar 1))) (iRaise "BadLine" "at" (iCons (iUn (fFld "Reader" "at") (iVar 0)) iNil)) iNext)
noncomputable def m_Reader_need : List IV → Sto → Out IV := mDef 2 b_Reader_need
noncomputable def b_Reader_module : IS := (iRet (iBin fIx (iUn (fFld "Reader" "modules") (iVar 0)) (iUn fNeg (iC (.int 1)))))
noncomputable def m_Reader_module : List IV → Sto → Out IV := mDef 1 b_Reader_module
noncomputable def b_Reader_is_above : IS := (iRet (iBin fIn (iVar 1) (iSl false (iUn (fFld "Reader" "modules") (iVar 0)) iNoPart (iPart (iUn fNeg (iC (.int 1)))))))
noncomputable def m_Reader_is_above : List IV → Sto → Out IV := mDef 2 b_Reader_is_above
noncomputable def b_Reader_words : IS := (iSeq (iIf (iTest (iBin fGe (iUn (fFld "Reader" "at") (iVar 0)) (iCa fLen (iCons (iUn (fFld "Reader" "lines") (iVar 0)) iNil)))) (iRaise "BadLine" "at" (iCons (iCa fLen (iCons (iUn (fFld "Reader" "lines") (iVar 0)) iNil)) iNil)) iNext) (iRet (iCall 1 m_words_of (iCons (iBin fIx (iUn (fFld "Reader" "lines") (iVar 0)) (iUn (fFld "Reader" "at") (iVar 0))) iNil))))
noncomputable def m_Reader_words : List IV → Sto → Out IV := mDef 1 b_Reader_words
noncomputable def b_Reader_path_above : IS := (iSeq (iSet 3 (iCall 1 m_read_path (iCons (iVar 1) iNil))) (iSeq (iDrop (iMeth "Reader" "need" 2 m_Reader_need (iVar 0) (iCons (iBin gNotN (iVar 3) (iC .non)) iNil))) (iSeq (iSet 4 (iBin fDGet (iUn (fFld "Reader" "declared") (iVar 0)) (iMeth "Reader" "module" 1 m_Reader_module (iVar 0) iNil))) (iSeq (iDrop (iMeth "Reader" "need" 2 m_Reader_need (iVar 0) (iCons (iAndV (iBin fDIn (iBin fIx (iVar 3) (iC (.int 1))) (iVar 4)) (iBin fLt (iBin fDGet (iVar 4) (iBin fIx (iVar 3) (iC (.int 1)))) (iVar 2))) iNil))) (iRet (iVar 3))))))
noncomputable def m_Reader_path_above : List IV → Sto → Out IV := mDef 5 b_Reader_path_above
noncomputable def b_Reader_worth : IS := (iSeq (iIf (iTest (iBin fEq (iVar 1) (iC (.str "none")))) (iRet (iC .non)) iNext) (iRet (iMeth "Reader" "path_above" 3 m_Reader_path_above (iVar 0) (iCons (iVar 1) (iCons (iVar 2) iNil)))))
noncomputable def m_Reader_worth : List IV → Sto → Out IV := mDef 3 b_Reader_worth
noncomputable def b_Reader_declare : IS := (iSeq (iSet 2 (iBin fDGet (iUn (fFld "Reader" "declared") (iVar 0)) (iMeth "Reader" "module" 1 m_Reader_module (iVar 0) iNil))) (iSeq (iDrop (iMeth "Reader" "need" 2 m_Reader_need (iVar 0) (iCons (iAndV (iCall 1 m_name_fits (iCons (iVar 1) iNil)) (iBin fDNotIn (iVar 1) (iVar 2))) iNil))) (iSeq (iDPut (iVar 2) (iVar 1) (iUn (fFld "Reader" "at") (iVar 0))) (iDPut (iUn (fFld "Reader" "places") (iVar 0)) (iJoined [(iMeth "Reader" "module" 1 m_Reader_module (iVar 0) iNil), (iC (.str ".")), (iVar 1)]) (iUn (fFld "Reader" "at") (iVar 0))))))
noncomputable def m_Reader_declare : List IV → Sto → Out IV := mDef 3 b_Reader_declare
noncomputable def b_Reader_keep_row : IS := (iDrop (iBM "list" fApp (iBin fDGet (iUn (fFld "Reader" "rows") (iVar 0)) (iMeth "Reader" "module" 1 m_Reader_module (iVar 0) iNil)) (iCons (iVar 1) iNil)))
noncomputable def m_Reader_keep_row : List IV → Sto → Out IV := mDef 2 b_Reader_keep_row
noncomputable def b_Reader_read_import : IS := (iSeq (iDrop (iMeth "Reader" "need" 2 m_Reader_need (iVar 0) (iCons (iOrV (iBin fEq (iCa fLen (iCons (iVar 1) iNil)) (iC (.int 2))) (iAndV (iBin fEq (iCa fLen (iCons (iVar 1) iNil)) (iC (.int 4))) (iBin fEq (iBin fIx (iVar 1) (iC (.int 2))) (iC (.str "as"))))) iNil))) (iSeq (iDrop (iMeth "Reader" "need" 2 m_Reader_need (iVar 0) (iCons (iMeth "Reader" "is_above" 2 m_Reader_is_above (iVar 0) (iCons (iBin fIx (iVar 1) (iC (.int 1))) iNil)) iNil))) (iSeq (iDrop (iMeth "Reader" "declare" 2 m_Reader_declare (iVar 0) (iCons (iBin fIx (iVar 1) (iUn fNeg (iC (.int 1)))) iNil))) (iSeq (iDrop (iMeth "Reader" "keep_row" 2 m_Reader_keep_row (iVar 0) (iCons (iTup (iCons (iC (.str "\x69mport")) (iCons (iBin fIx (iVar 1) (iUn fNeg (iC (.int 1)))) (iCons (iUn (fFld "Reader" "at") (iVar 0)) (iCons (iBin fIx (iVar 1) (iC (.int 1))) iNil))))) iNil))) (iAugF "Reader" "at" (iVar 0) (iC (.int 1)))))))
noncomputable def m_Reader_read_import : List IV → Sto → Out IV := mDef 2 b_Reader_read_import
noncomputable def b_Reader_read_from : IS := (iSeq (iDrop (iMeth "Reader" "need" 2 m_Reader_need (iVar 0) (iCons (iOrV (iBin fEq (iCa fLen (iCons (iVar 1) iNil)) (iC (.int 4))) (iAndV (iBin fEq (iCa fLen (iCons (iVar 1) iNil)) (iC (.int 6))) (iBin fEq (iBin fIx (iVar 1) (iC (.int 4))) (iC (.str "as"))))) iNil))) (iSeq (iDrop (iMeth "Reader" "need" 2 m_Reader_need (iVar 0) (iCons (iAndV (iBin fEq (iBin fIx (iVar 1) (iC (.int 2))) (iC (.str "\x69mport"))) (iMeth "Reader" "is_above" 2 m_Reader_is_above (iVar 0) (iCons (iBin fIx (iVar 1) (iC (.int 1))) iNil))) iNil))) (iSeq (iDrop (iMeth "Reader" "need" 2 m_Reader_need (iVar 0) (iCons (iBin fDIn (iBin fIx (iVar 1) (iC (.int 3))) (iBin fDGet (iUn (fFld "Reader" "declared") (iVar 0)) (iBin fIx (iVar 1) (iC (.int 1))))) iNil))) (iSeq (iDrop (iMeth "Reader" "declare" 2 m_Reader_declare (iVar 0) (iCons (iBin fIx (iVar 1) (iUn fNeg (iC (.int 1)))) iNil))) (iSeq (iDrop (iMeth "Reader" "keep_row" 2 m_Reader_keep_row (iVar 0) (iCons (iTup (iCons (iC (.str "from")) (iCons (iBin fIx (iVar 1) (iUn fNeg (iC (.int 1)))) (iCons (iUn (fFld "Reader" "at") (iVar 0)) (iCons (iBin fIx (iVar 1) (iC (.int 1))) (iCons (iBin fIx (iVar 1) (iC (.int 3))) iNil)))))) iNil))) (iAugF "Reader" "at" (iVar 0) (iC (.int 1))))))))
noncomputable def m_Reader_read_from : List IV → Sto → Out IV := mDef 2 b_Reader_read_from
noncomputable def b_Reader_read_name : IS := (iSeq (iDrop (iMeth "Reader" "need" 2 m_Reader_need (iVar 0) (iCons (iAndV (iBin fEq (iCa fLen (iCons (iVar 1) iNil)) (iC (.int 3))) (iBin fEq (iBin fIx (iVar 1) (iC (.int 1))) (iC (.str "=")))) iNil))) (iSeq (iSet 2 (iMeth "Reader" "worth" 3 m_Reader_worth (iVar 0) (iCons (iBin fIx (iVar 1) (iC (.int 2))) (iCons (iUn (fFld "Reader" "at") (iVar 0)) iNil)))) (iSeq (iDrop (iMeth "Reader" "declare" 2 m_Reader_declare (iVar 0) (iCons (iBin fIx (iVar 1) (iC (.int 0))) iNil))) (iSeq (iDrop (iMeth "Reader" "keep_row" 2 m_Reader_keep_row (iVar 0) (iCons (iTup (iCons (iC (.str "bind")) (iCons (iBin fIx (iVar 1) (iC (.int 0))) (iCons (iUn (fFld "Reader" "at") (iVar 0)) (iCons (iVar 2) iNil))))) iNil))) (iAugF "Reader" "at" (iVar 0) (iC (.int 1)))))))
noncomputable def m_Reader_read_name : List IV → Sto → Out IV := mDef 3 b_Reader_read_name
noncomputable def b_Reader_read_entries : IS := (iSeq (iSet 4 (iLst true iNil)) (iSeq (iAugF "Reader" "at" (iVar 0) (iC (.int 1))) (iSeq (iSet 5 (iMeth "Reader" "words" 1 m_Reader_words (iVar 0) iNil)) (iSeq (iWhile (iTest (iBin fNe (iVar 5) (iLst false (iCons (iC (.str "end")) iNil)))) (iSeq (iDrop (iMeth "Reader" "need" 2 m_Reader_need (iVar 0) (iCons (iAndV (iBin fEq (iCa fLen (iCons (iVar 5) iNil)) (iC (.int 3))) (iAndV (iBin fEq (iBin fIx (iVar 5) (iC (.int 1))) (iC (.str "="))) (iCall 1 m_name_fits (iCons (iBin fIx (iVar 5) (iC (.int 0))) iNil)))) iNil))) (iSeq (iSet 6 (iJoined [(iVar 1), (iBin fIx (iVar 2) (iC (.int 0))), (iBin fIx (iVar 5) (iC (.int 0))), (iBin fIx (iVar 2) (iC (.int 1)))])) (iSeq (iDrop (iMeth "Reader" "need" 2 m_Reader_need (iVar 0) (iCons (iBin fDNotIn (iVar 6) (iUn (fFld "Reader" "places") (iVar 0))) iNil))) (iSeq (iDrop (iBM "list" fApp (iVar 4) (iCons (iTup (iCons (iBin fIx (iVar 5) (iC (.int 0))) (iCons (iMeth "Reader" "worth" 3 m_Reader_worth (iVar 0) (iCons (iBin fIx (iVar 5) (iC (.int 2))) (iCons (iVar 3) iNil))) (iCons (iUn (fFld "Reader" "at") (iVar 0)) iNil)))) iNil))) (iSeq (iDPut (iUn (fFld "Reader" "places") (iVar 0)) (iVar 6) (iUn (fFld "Reader" "at") (iVar 0))) (iSeq (iAugF "Reader" "at" (iVar 0) (iC (.int 1))) (iSet 5 (iMeth "Reader" "words" 1 m_Reader_words (iVar 0) iNil))))))))) (iSeq (iAugF "Reader" "at" (iVar 0) (iC (.int 1))) (iRet (iCa fTuple (iCons (iVar 4) iNil))))))))
noncomputable def m_Reader_read_entries : List IV → Sto → Out IV := mDef 7 b_Reader_read_entries
noncomputable def b_Reader_read_table : IS := (iSeq (iSet 2 (iUn (fFld "Reader" "at") (iVar 0))) (iSeq (iDrop (iMeth "Reader" "need" 2 m_Reader_need (iVar 0) (iCons (iBin fEq (iCa fLen (iCons (iVar 1) iNil)) (iC (.int 2))) iNil))) (iSeq (iDrop (iMeth "Reader" "declare" 2 m_Reader_declare (iVar 0) (iCons (iBin fIx (iVar 1) (iC (.int 1))) iNil))) (iSeq (iSet 3 (iMeth "Reader" "read_entries" 4 m_Reader_read_entries (iVar 0) (iCons (iJoined [(iMeth "Reader" "module" 1 m_Reader_module (iVar 0) iNil), (iC (.str ".")), (iBin fIx (iVar 1) (iC (.int 1)))]) (iCons (iTup (iCons (iC (.str "[")) (iCons (iC (.str "]")) iNil))) (iCons (iVar 2) iNil))))) (iDrop (iMeth "Reader" "keep_row" 2 m_Reader_keep_row (iVar 0) (iCons (iTup (iCons (iC (.str "table")) (iCons (iBin fIx (iVar 1) (iC (.int 1))) (iCons (iVar 2) (iCons (iVar 3) iNil))))) iNil)))))))
noncomputable def m_Reader_read_table : List IV → Sto → Out IV := mDef 4 b_Reader_read_table
noncomputable def b_Reader_read_class : IS := (iSeq (iSet 2 (iUn (fFld "Reader" "at") (iVar 0))) (iSeq (iDrop (iMeth "Reader" "need" 2 m_Reader_need (iVar 0) (iCons (iOrV (iBin fEq (iCa fLen (iCons (iVar 1) iNil)) (iC (.int 2))) (iAndV (iChain fLe fLe (iC (.int 4)) (iCa fLen (iCons (iVar 1) iNil)) (iC (.int 6))) (iBin fEq (iBin fIx (iVar 1) (iC (.int 2))) (iC (.str "from"))))) iNil))) (iSeq (iSet 3 (iLc false (iSrcL (iSl false (iVar 1) (iPart (iC (.int 3))) iNoPart)) (giN 5) iYes (iMeth "Reader" "path_above" 3 m_Reader_path_above (iVar 0) (iCons (iVar 5) (iCons (iVar 2) iNil))) [5])) (iSeq (iDrop (iMeth "Reader" "declare" 2 m_Reader_declare (iVar 0) (iCons (iBin fIx (iVar 1) (iC (.int 1))) iNil))) (iSeq (iSet 4 (iMeth "Reader" "read_entries" 4 m_Reader_read_entries (iVar 0) (iCons (iJoined [(iMeth "Reader" "module" 1 m_Reader_module (iVar 0) iNil), (iC (.str ".")), (iBin fIx (iVar 1) (iC (.int 1)))]) (iCons (iTup (iCons (iC (.str ".")) (iCons (iC (.str "")) iNil))) (iCons (iVar 2) iNil))))) (iDrop (iMeth "Reader" "keep_row" 2 m_Reader_keep_row (iVar 0) (iCons (iTup (iCons (iC (.str "class")) (iCons (iBin fIx (iVar 1) (iC (.int 1))) (iCons (iVar 2) (iCons (iCa fTuple (iCons (iVar 3) iNil)) (iCons (iVar 4) iNil)))))) iNil))))))))
noncomputable def m_Reader_read_class : List IV → Sto → Out IV := mDef 6 b_Reader_read_class
noncomputable def b_BodyReader___init__ : IS := (iSeq (iSetF "BodyReader" "reader" (iVar 0) (iVar 1)) (iSeq (iSetF "BodyReader" "hidden" (iVar 0) (iVar 2)) (iSeq (iSetF "BodyReader" "line" (iVar 0) (iVar 3)) (iSeq (iSetF "BodyReader" "body" (iVar 0) (iLst true iNil)) (iSetF "BodyReader" "blocks" (iVar 0) (iLst true iNil))))))
noncomputable def m_BodyReader___init__ : List IV → Sto → Out IV := mDef 4 b_BodyReader___init__
noncomputable def b_BodyReader_read_head : IS := (iSeq (iSet 5 (iUn (fFld "BodyReader" "reader") (iVar 0))) (iSeq (iSet 6 (iCall 1 m_read_path (iCons (iVar 1) iNil))) (iSeq (iDrop (iMeth "Reader" "need" 2 m_Reader_need (iVar 5) (iCons (iBin gNotN (iVar 6) (iC .non)) iNil))) (iSeq (iIf (iTest (iBin gNotN (iVar 2) (iC .non))) (iSeq (iDrop (iMeth "Reader" "need" 2 m_Reader_need (iVar 5) (iCons (iBin fDIn (iBin fIx (iVar 6) (iC (.int 1))) (iBin fDGet (iUn (fFld "Reader" "declared") (iVar 5)) (iVar 2))) iNil))) (iRet (iVar 6))) iNext) (iSeq (iIf (iTest (iBin fEq (iBin fIx (iVar 6) (iC (.int 1))) (iUn (fFld "BodyReader" "hidden") (iVar 0)))) (iSeq (iDrop (iMeth "Reader" "need" 2 m_Reader_need (iVar 5) (iCons (iVar 4) iNil))) (iRet (iVar 6))) iNext) (iRet (iMeth "Reader" "path_above" 3 m_Reader_path_above (iVar 5) (iCons (iVar 1) (iCons (iVar 3) iNil)))))))))
noncomputable def m_BodyReader_read_head : List IV → Sto → Out IV := mDef 7 b_BodyReader_read_head
noncomputable def b_BodyReader_read_act : IS := (iSeq (iSet 3 (iUn (fFld "BodyReader" "reader") (iVar 0))) (iSeq (iIf (iTest (iBin fEq (iBin fIx (iVar 1) (iC (.int 0))) (iC (.str "call")))) (iSeq (iDrop (iMeth "Reader" "need" 2 m_Reader_need (iVar 3) (iCons (iBin fEq (iCa fLen (iCons (iVar 1) iNil)) (iC (.int 2))) iNil))) (iSeq (iDrop (iBM "list" fApp (iUn (fFld "BodyReader" "body") (iVar 0)) (iCons (iTup (iCons (iC (.str "call")) (iCons (iVar 2) (iCons (iMeth "BodyReader" "read_head" 5 m_BodyReader_read_head (iVar 0) (iCons (iBin fIx (iVar 1) (iC (.int 1))) (iCons (iVar 2) (iCons (iUn (fFld "BodyReader" "line") (iVar 0)) (iCons (iC (.bl true)) iNil))))) iNil)))) iNil))) iRetN)) iNext) (iSeq (iDrop (iMeth "Reader" "need" 2 m_Reader_need (iVar 3) (iCons (iAndV (iBin fEq (iCa fLen (iCons (iVar 1) iNil)) (iC (.int 4))) (iAndV (iOrV (iBin fEq (iBin fIx (iVar 1) (iC (.int 0))) (iC (.str "keep"))) (iBin fEq (iBin fIx (iVar 1) (iC (.int 0))) (iC (.str "once")))) (iBin fEq (iBin fIx (iVar 1) (iC (.int 2))) (iC (.str "="))))) iNil))) (iSeq (iSet 4 (iBin fDGet (iUn (fFld "Reader" "declared") (iVar 3)) (iMeth "Reader" "module" 1 m_Reader_module (iVar 3) iNil))) (iSeq (iSet 5 (iUn (fFld "BodyReader" "line") (iVar 0))) (iSeq (iIf (iTest (iBin fNe (iBin fIx (iVar 1) (iC (.int 1))) (iUn (fFld "BodyReader" "hidden") (iVar 0)))) (iSeq (iDrop (iMeth "Reader" "need" 2 m_Reader_need (iVar 3) (iCons (iAndV (iBin fDIn (iBin fIx (iVar 1) (iC (.int 1))) (iVar 4)) (iBin fLt (iBin fDGet (iVar 4) (iBin fIx (iVar 1) (iC (.int 1)))) (iVar 5))) iNil))) (iSet 5 (iBin fDGet (iVar 4) (iBin fIx (iVar 1) (iC (.int 1)))))) iNext) (iSeq (iSet 6 (iMeth "BodyReader" "read_head" 5 m_BodyReader_read_head (iVar 0) (iCons (iBin fIx (iVar 1) (iC (.int 3))) (iCons (iVar 2) (iCons (iVar 5) (iCons (iC (.bl false)) iNil)))))) (iSeq (iDrop (iBM "list" fApp (iUn (fFld "BodyReader" "body") (iVar 0)) (iCons (iTup (iCons (iBin fIx (iVar 1) (iC (.int 0))) (iCons (iVar 2) (iCons (iBin fIx (iVar 1) (iC (.int 1))) (iCons (iVar 6) iNil))))) iNil))) (iIf (iTest (iBin gIsN (iUn (fFld "Reader" "kept") (iVar 3)) (iC .non))) (iSetF "Reader" "kept" (iVar 3) (iUn (fFld "Reader" "at") (iVar 3))) iNext)))))))))
noncomputable def m_BodyReader_read_act : List IV → Sto → Out IV := mDef 7 b_BodyReader_read_act
noncomputable def b_BodyReader_read_end : IS := (iSeq (iAsg (iBM "list" fPop (iUn (fFld "BodyReader" "blocks") (iVar 0)) iNil) (iGTup 3 (iGCons (iName 1) (iGCons (iName 2) (iGCons (iName 3) iGNil))))) (iSeq (iSet 4 (iCa fLen (iCons (iUn (fFld "BodyReader" "body") (iVar 0)) iNil))) (iSeq (iIf (iTest (iBin fEq (iVar 1) (iC (.str "often")))) (iSeq (iAsg (iTup (iCons (iC (.str "often")) (iCons (iVar 4) iNil))) (iGSub (iUn (fFld "BodyReader" "body") (iVar 0)) (iVar 2))) (iSeq (iDrop (iBM "list" fApp (iUn (fFld "BodyReader" "body") (iVar 0)) (iCons (iTup (iCons (iC (.str "end")) (iCons (iVar 2) iNil))) iNil))) iRetN)) iNext) (iSeq (iDrop (iMeth "Reader" "need" 2 m_Reader_need (iUn (fFld "BodyReader" "reader") (iVar 0)) (iCons (iBin fGt (iCa fLen (iCons (iVar 3) iNil)) (iC (.int 1))) iNil))) (iSeq (iAsg (iTup (iCons (iC (.str "either")) (iCons (iCa fTuple (iCons (iVar 3) iNil)) (iCons (iVar 4) iNil)))) (iGSub (iUn (fFld "BodyReader" "body") (iVar 0)) (iVar 2))) (iSeq (iFor (iSrcL (iSl false (iVar 3) (iPart (iC (.int 1))) iNoPart)) (iName 5) (iAsg (iTup (iCons (iC (.str "or")) (iCons (iVar 4) iNil))) (iGSub (iUn (fFld "BodyReader" "body") (iVar 0)) (iBin fSub (iVar 5) (iC (.int 1)))))) (iDrop (iBM "list" fApp (iUn (fFld "BodyReader" "body") (iVar 0)) (iCons (iTup (iCons (iC (.str "end")) (iCons (iUn fNeg (iC (.int 1))) iNil))) iNil)))))))))
noncomputable def m_BodyReader_read_end : List IV → Sto → Out IV := mDef 6 b_BodyReader_read_end
noncomputable def b_BodyReader_read_row : IS := (iSeq (iSet 2 (iUn (fFld "BodyReader" "reader") (iVar 0))) (iIf (iOr (iTest (iBin fEq (iVar 1) (iLst false (iCons (iC (.str "either")) iNil)))) (iTest (iBin fEq (iVar 1) (iLst false (iCons (iC (.str "often")) iNil))))) (iSeq (iDrop (iMeth "Reader" "need" 2 m_Reader_need (iVar 2) (iCons (iBin fLt (iCa fLen (iCons (iUn (fFld "BodyReader" "blocks") (iVar 0)) iNil)) (iC (.int 4))) iNil))) (iSeq (iDrop (iBM "list" fApp (iUn (fFld "BodyReader" "blocks") (iVar 0)) (iCons (iTup (iCons (iBin fIx (iVar 1) (iC (.int 0))) (iCons (iCa fLen (iCons (iUn (fFld "BodyReader" "body") (iVar 0)) iNil)) (iCons (iLst true (iCons (iBin fAdd (iCa fLen (iCons (iUn (fFld "BodyReader" "body") (iVar 0)) iNil)) (iC (.int 1))) iNil)) iNil)))) iNil))) (iDrop (iBM "list" fApp (iUn (fFld "BodyReader" "body") (iVar 0)) (iCons (iTup (iCons (iBin fIx (iVar 1) (iC (.int 0))) iNil)) iNil))))) (iIf (iTest (iBin fEq (iVar 1) (iLst false (iCons (iC (.str "or")) iNil)))) (iSeq (iDrop (iMeth "Reader" "need" 2 m_Reader_need (iVar 2) (iCons (iAndV (iBin fGt (iCa fLen (iCons (iUn (fFld "BodyReader" "blocks") (iVar 0)) iNil)) (iC (.int 0))) (iBin fEq (iBin fIx (iBin fIx (iUn (fFld "BodyReader" "blocks") (iVar 0)) (iUn fNeg (iC (.int 1)))) (iC (.int 0))) (iC (.str "either")))) iNil))) (iSeq (iDrop (iMeth "Reader" "need" 2 m_Reader_need (iVar 2) (iCons (iBin fLt (iCa fLen (iCons (iBin fIx (iBin fIx (iUn (fFld "BodyReader" "blocks") (iVar 0)) (iUn fNeg (iC (.int 1)))) (iC (.int 2))) iNil)) (iC (.int 5))) iNil))) (iSeq (iDrop (iBM "list" fApp (iBin fIx (iBin fIx (iUn (fFld "BodyReader" "blocks") (iVar 0)) (iUn fNeg (iC (.int 1)))) (iC (.int 2))) (iCons (iBin fAdd (iCa fLen (iCons (iUn (fFld "BodyReader" "body") (iVar 0)) iNil)) (iC (.int 1))) iNil))) (iDrop (iBM "list" fApp (iUn (fFld "BodyReader" "body") (iVar 0)) (iCons (iTup (iCons (iC (.str "or")) iNil)) iNil)))))) (iIf (iTest (iBin fEq (iVar 1) (iLst false (iCons (iC (.str "end")) iNil)))) (iDrop (iMeth "BodyReader" "read_end" 1 m_BodyReader_read_end (iVar 0) iNil)) (iIf (iTest (iBin fEq (iBin fIx (iVar 1) (iC (.int 0))) (iC (.str "\x69mport")))) (iSeq (iDrop (iMeth "Reader" "need" 2 m_Reader_need (iVar 2) (iCons (iAndV (iBin fEq (iCa fLen (iCons (iVar 1) iNil)) (iC (.int 2))) (iMeth "Reader" "is_above" 2 m_Reader_is_above (iVar 2) (iCons (iBin fIx (iVar 1) (iC (.int 1))) iNil))) iNil))) (iDrop (iBM "list" fApp (iUn (fFld "BodyReader" "body") (iVar 0)) (iCons (iTup (iCons (iC (.str "\x69mport")) (iCons (iBin fIx (iVar 1) (iC (.int 1))) iNil))) iNil)))) (iIf (iTest (iBin fEq (iBin fIx (iVar 1) (iC (.int 0))) (iC (.str "from")))) (iSeq (iDrop (iMeth "Reader" "need" 2 m_Reader_need (iVar 2) (iCons (iAndV (iBin fGt (iCa fLen (iCons (iVar 1) iNil)) (iC (.int 2))) (iMeth "Reader" "is_above" 2 m_Reader_is_above (iVar 2) (iCons (iBin fIx (iVar 1) (iC (.int 1))) iNil))) iNil))) (iDrop (iMeth "BodyReader" "read_act" 3 m_BodyReader_read_act (iVar 0) (iCons (iSl false (iVar 1) (iPart (iC (.int 2))) iNoPart) (iCons (iBin fIx (iVar 1) (iC (.int 1))) iNil))))) (iDrop (iMeth "BodyReader" "read_act" 3 m_BodyReader_read_act (iVar 0) (iCons (iVar 1) (iCons (iC .non) iNil))))))))))
noncomputable def m_BodyReader_read_row : List IV → Sto → Out IV := mDef 3 b_BodyReader_read_row
noncomputable def b_BodyReader_read : IS := (iSeq (iSet 1 (iUn (fFld "BodyReader" "reader") (iVar 0))) (iSeq (iSet 2 (iMeth "Reader" "words" 1 m_Reader_words (iVar 1) iNil)) (iSeq (iWhile (iOr (iTest (iBin fNe (iVar 2) (iLst false (iCons (iC (.str "end")) iNil)))) (iTru (iUn (fFld "BodyReader" "blocks") (iVar 0)))) (iSeq (iDrop (iMeth "BodyReader" "read_row" 2 m_BodyReader_read_row (iVar 0) (iCons (iVar 2) iNil))) (iSeq (iAugF "Reader" "at" (iVar 1) (iC (.int 1))) (iSet 2 (iMeth "Reader" "words" 1 m_Reader_words (iVar 1) iNil))))) (iSeq (iAugF "Reader" "at" (iVar 1) (iC (.int 1))) (iRet (iCa fTuple (iCons (iUn (fFld "BodyReader" "body") (iVar 0)) iNil)))))))
noncomputable def m_BodyReader_read : List IV → Sto → Out IV := mDef 3 b_BodyReader_read
noncomputable def b_Reader_read_def : IS := (iSeq (iSet 2 (iUn (fFld "Reader" "at") (iVar 0))) (iSeq (iSet2 3 4 (iC .non)) (iSeq (iDrop (iMeth "Reader" "need" 2 m_Reader_need (iVar 0) (iCons (iOrV (iBin fEq (iCa fLen (iCons (iVar 1) iNil)) (iC (.int 2))) (iBin fEq (iCa fLen (iCons (iVar 1) iNil)) (iC (.int 6)))) iNil))) (iSeq (iIf (iTest (iBin fEq (iCa fLen (iCons (iVar 1) iNil)) (iC (.int 6)))) (iSeq (iDrop (iMeth "Reader" "need" 2 m_Reader_need (iVar 0) (iCons (iAndV (iBin fEq (iBin fIx (iVar 1) (iC (.int 2))) (iC (.str "using"))) (iAndV (iCall 1 m_name_fits (iCons (iBin fIx (iVar 1) (iC (.int 3))) iNil)) (iBin fEq (iBin fIx (iVar 1) (iC (.int 4))) (iC (.str "="))))) iNil))) (iSeq (iSet 3 (iBin fIx (iVar 1) (iC (.int 3)))) (iSet 4 (iMeth "Reader" "path_above" 3 m_Reader_path_above (iVar 0) (iCons (iBin fIx (iVar 1) (iC (.int 5))) (iCons (iVar 2) iNil)))))) iNext) (iSeq (iDrop (iMeth "Reader" "declare" 2 m_Reader_declare (iVar 0) (iCons (iBin fIx (iVar 1) (iC (.int 1))) iNil))) (iSeq (iSet 5 (iJoined [(iMeth "Reader" "module" 1 m_Reader_module (iVar 0) iNil), (iC (.str ".")), (iBin fIx (iVar 1) (iC (.int 1)))])) (iSeq (iIf (iTest (iBin gNotN (iVar 3) (iC .non))) (iDPut (iUn (fFld "Reader" "places") (iVar 0)) (iJoined [(iVar 5), (iC (.str "(")), (iVar 3), (iC (.str ")"))]) (iVar 2)) iNext) (iSeq (iAugF "Reader" "at" (iVar 0) (iC (.int 1))) (iSeq (iSet 6 (iMeth "BodyReader" "read" 1 m_BodyReader_read (iMake "BodyReader" 4 m_BodyReader___init__ (iCons (iVar 0) (iCons (iVar 3) (iCons (iVar 2) iNil)))) iNil)) (iSeq (iSet 7 (iTup (iCons (iC (.str "def")) (iCons (iBin fIx (iVar 1) (iC (.int 1))) (iCons (iVar 2) (iCons (iVar 3) (iCons (iVar 4) (iCons (iVar 6) iNil)))))))) (iSeq (iDrop (iMeth "Reader" "keep_row" 2 m_Reader_keep_row (iVar 0) (iCons (iVar 7) iNil))) (iDPut (iUn (fFld "Reader" "defs") (iVar 0)) (iVar 5) (iTup (iCons (iMeth "Reader" "module" 1 m_Reader_module (iVar 0) iNil) (iCons (iVar 7) iNil)))))))))))))))
noncomputable def m_Reader_read_def : List IV → Sto → Out IV := mDef 8 b_Reader_read_def
noncomputable def b_Reader_read_row : IS := (iSeq (iSet 1 (iMeth "Reader" "words" 1 m_Reader_words (iVar 0) iNil)) (iSeq (iIf (iTest (iBin fEq (iBin fIx (iVar 1) (iC (.int 0))) (iC (.str "module")))) (iSeq (iDrop (iMeth "Reader" "need" 2 m_Reader_need (iVar 0) (iCons (iAndV (iBin fEq (iCa fLen (iCons (iVar 1) iNil)) (iC (.int 2))) (iAndV (iCall 1 m_name_fits (iCons (iBin fIx (iVar 1) (iC (.int 1))) iNil)) (iBin fNotIn (iBin fIx (iVar 1) (iC (.int 1))) (iUn (fFld "Reader" "modules") (iVar 0))))) iNil))) (iSeq (iDrop (iBM "list" fApp (iUn (fFld "Reader" "modules") (iVar 0)) (iCons (iBin fIx (iVar 1) (iC (.int 1))) iNil))) (iSeq (iDPut (iUn (fFld "Reader" "rows") (iVar 0)) (iBin fIx (iVar 1) (iC (.int 1))) (iLst true iNil)) (iSeq (iDPut (iUn (fFld "Reader" "declared") (iVar 0)) (iBin fIx (iVar 1) (iC (.int 1))) iDNew) (iSeq (iDPut (iUn (fFld "Reader" "places") (iVar 0)) (iBin fIx (iVar 1) (iC (.int 1))) (iUn (fFld "Reader" "at") (iVar 0))) (iSeq (iAugF "Reader" "at" (iVar 0) (iC (.int 1))) iRetN)))))) iNext) (iSeq (iDrop (iMeth "Reader" "need" 2 m_Reader_need (iVar 0) (iCons (iBin fGt (iCa fLen (iCons (iUn (fFld "Reader" "modules") (iVar 0)) iNil)) (iC (.int 0))) iNil))) (iIf (iTest (iBin fEq (iBin fIx (iVar 1) (iC (.int 0))) (iC (.str "outside")))) (iSeq (iDrop (iMeth "Reader" "need" 2 m_Reader_need (iVar 0) (iCons (iBin fEq (iCa fLen (iCons (iVar 1) iNil)) (iC (.int 2))) iNil))) (iSeq (iDrop (iMeth "Reader" "declare" 2 m_Reader_declare (iVar 0) (iCons (iBin fIx (iVar 1) (iC (.int 1))) iNil))) (iSeq (iDrop (iMeth "Reader" "keep_row" 2 m_Reader_keep_row (iVar 0) (iCons (iTup (iCons (iC (.str "outside")) (iCons (iBin fIx (iVar 1) (iC (.int 1))) (iCons (iUn (fFld "Reader" "at") (iVar 0)) iNil)))) iNil))) (iAugF "Reader" "at" (iVar 0) (iC (.int 1)))))) (iIf (iTest (iBin fEq (iBin fIx (iVar 1) (iC (.int 0))) (iC (.str "\x69mport")))) (iDrop (iMeth "Reader" "read_import" 2 m_Reader_read_import (iVar 0) (iCons (iVar 1) iNil))) (iIf (iTest (iBin fEq (iBin fIx (iVar 1) (iC (.int 0))) (iC (.str "from")))) (iDrop (iMeth "Reader" "read_from" 2 m_Reader_read_from (iVar 0) (iCons (iVar 1) iNil))) (iIf (iTest (iBin fEq (iBin fIx (iVar 1) (iC (.int 0))) (iC (.str "table")))) (iDrop (iMeth "Reader" "read_table" 2 m_Reader_read_table (iVar 0) (iCons (iVar 1) iNil))) (iIf (iTest (iBin fEq (iBin fIx (iVar 1) (iC (.int 0))) (iC (.str "class")))) (iDrop (iMeth "Reader" "read_class" 2 m_Reader_read_class (iVar 0) (iCons (iVar 1) iNil))) (iIf (iTest (iBin fEq (iBin fIx (iVar 1) (iC (.int 0))) (iC (.str "def")))) (iDrop (iMeth "Reader" "read_def" 2 m_Reader_read_def (iVar 0) (iCons (iVar 1) iNil))) (iDrop (iMeth "Reader" "read_name" 2 m_Reader_read_name (iVar 0) (iCons (iVar 1) iNil))))))))))))
noncomputable def m_Reader_read_row : List IV → Sto → Out IV := mDef 2 b_Reader_read_row
noncomputable def b_Reader_read : IS := (iSeq (iWhile (iTest (iBin fLt (iUn (fFld "Reader" "at") (iVar 0)) (iCa fLen (iCons (iUn (fFld "Reader" "lines") (iVar 0)) iNil)))) (iDrop (iMeth "Reader" "read_row" 1 m_Reader_read_row (iVar 0) iNil))) (iIf (iNot (iTru (iUn (fFld "Reader" "modules") (iVar 0)))) (iRaise "BadLine" "at" (iCons (iCa fLen (iCons (iUn (fFld "Reader" "lines") (iVar 0)) iNil)) iNil)) iNext))
noncomputable def m_Reader_read : List IV → Sto → Out IV := mDef 1 b_Reader_read
noncomputable def b_call_rows : IS := (iRet (iCa fLen (iCons (iLc false (iSrcT (iVar 0)) (giN 1) (iTest (iBin fEq (iBin fIx (iVar 1) (iC (.int 0))) (iC (.str "call")))) (iVar 1) [1]) iNil)))
noncomputable def m_call_rows : List IV → Sto → Out IV := mDef 2 b_call_rows
noncomputable def b_greatest_weight : IS := (iSeq (iSet 1 (iC (.int 0))) (iSeq (iForD (iVar 0) (iName 2) (iSeq (iSet 3 (iBin fIx (iBin fIx (iBin fDGet (iVar 0) (iVar 2)) (iC (.int 1))) (iC (.int 5)))) (iSet 1 (iCa fMax2 (iCons (iVar 1) (iCons (iBin fAdd (iC (.int 1)) (iBin fMul (iCall 1 m_call_rows (iCons (iVar 3) iNil)) (iCa fMax2 (iCons (iC (.int 1)) (iCons (iVar 1) iNil))))) iNil)))))) (iRet (iVar 1))))
noncomputable def m_greatest_weight : List IV → Sto → Out IV := mDef 4 b_greatest_weight
noncomputable def b_Project___init__ : IS := (iSeq (iIf (iNot (iTru (iCa fIsi (iCons (iVar 1) (iCons (iC (.ty "str")) iNil))))) (iRaise "BadLine" "at" (iCons (iUn fNeg (iC (.int 1))) iNil)) iNext) (iSeq (iSet 2 (iCall 1 m_lines_of (iCons (iVar 1) iNil))) (iSeq (iSet 3 (iMake "Reader" 2 m_Reader___init__ (iCons (iVar 2) iNil))) (iSeq (iDrop (iMeth "Reader" "read" 1 m_Reader_read (iVar 3) iNil)) (iSeq (iIf (iTest (iBin fGt (iCa fLen (iCons (iVar 2) iNil)) (iC (.int 150)))) (iRaise "TooMany" "what" (iCons (iC (.str "lines")) iNil)) iNext) (iSeq (iIf (iTest (iBin fGt (iCa fLen (iCons (iUn (fFld "Reader" "modules") (iVar 3)) iNil)) (iC (.int 6)))) (iRaise "TooMany" "what" (iCons (iC (.str "modules")) iNil)) iNext) (iSeq (iSetF "Project" "weight" (iVar 0) (iCall 1 m_greatest_weight (iCons (iUn (fFld "Reader" "defs") (iVar 3)) iNil))) (iSeq (iIf (iTest (iBin fGt (iUn (fFld "Project" "weight") (iVar 0)) (iC (.int 100)))) (iRaise "TooMany" "what" (iCons (iC (.str "weight")) iNil)) iNext) (iSeq (iSetF "Project" "text" (iVar 0) (iVar 1)) (iSeq (iSetF "Project" "modules" (iVar 0) (iCa fTuple (iCons (iUn (fFld "Reader" "modules") (iVar 3)) iNil))) (iSeq (iSetF "Project" "rows" (iVar 0) (iDc (iSrcL (iUn (fFld "Reader" "modules") (iVar 3))) (giN 4) iYes (iVar 4) (iCa fTuple (iCons (iBin fDGet (iUn (fFld "Reader" "rows") (iVar 3)) (iVar 4)) iNil)) [4])) (iSeq (iSetF "Project" "declared" (iVar 0) (iUn (fFld "Reader" "declared") (iVar 3))) (iSeq (iSetF "Project" "defs" (iVar 0) (iUn (fFld "Reader" "defs") (iVar 3))) (iSeq (iSetF "Project" "lines" (iVar 0) (iUn (fFld "Reader" "places") (iVar 3))) (iSetF "Project" "kept" (iVar 0) (iUn (fFld "Reader" "kept") (iVar 3)))))))))))))))))
noncomputable def m_Project___init__ : List IV → Sto → Out IV := mDef 5 b_Project___init__
end RD

set_option maxHeartbeats 2000000
/-! the project's reader: words and paths -/
namespace RD
open PySem PySem.Spec PyProof.Rows L2 Sm
theorem szl : (sizeLine : Nat) = 16777216 := sizeLine_eq
def alpha : Str := "abcdefghijklmnopqrstuvwxyz"
theorem alpha_len : alpha.length = 26 := by decide +kernel
theorem alpha_ok : okS alpha := by
  have h : (sg alpha).all (fun c => decide (c < 1114112)) = true := by decide +kernel
  intro c hc
  exact of_decide_eq_true (List.all_eq_true.mp h c hc)
/-- all signs are letters -/
def abc (s : Str) : Bool := (sg s).all (fun c => decide (c ∈ sg alpha))
def nameB (s : Str) : Bool := decide (1 ≤ s.length ∧ s.length ≤ 8) && abc s && !decide (s ∈ c_KEYWORDS)
def wordB : IS := iIf (iTest (iBin fNotIn (iVar 1) (iC (.str c_LETTERS)))) (iRet (iC (.bl false))) iNext
theorem word_step {S : Sto} {x : IV} {c : Nat} : wordB [some x, some (.str ⟨#[c]⟩)] S = if c ∈ sg alpha then .ok (.nx [some x, some (.str ⟨#[c]⟩)]) S else .ok (.rt (.bl false)) S := by
  have hi : inB S (.str ⟨#[c]⟩) (.str c_LETTERS) = some (decide (c ∈ sg alpha)) := rfl
  unfold wordB
  by_cases h : c ∈ sg alpha
  · rw [if_pos h]; simp [iVar_s, hi, h]
  · rw [if_neg h]; simp [iVar_s, hi, h]
theorem word_t {S : Sto} {all : List IV} {x : IV} : ∀ (cs : List Nat) (u : Option IV), (∀ c ∈ cs, c ∈ sg alpha) → ∃ u', iIter ⟨all, none⟩ (iName 1) wordB (cs.map fun c => .str ⟨#[c]⟩) [some x, u] S = .ok (.nx [some x, u']) S
  | [], u, _ => ⟨u, by unfold iIter; exact chkP_pos (stay_none _ _)⟩
  | c :: cs, u, h => by
    obtain ⟨u', e⟩ := word_t cs (some (.str ⟨#[c]⟩)) fun d hd => h d (List.mem_cons_of_mem _ hd)
    refine ⟨u', ?_⟩
    rw [List.map_cons]
    unfold iIter
    rw [chkP_pos (stay_none _ _)]
    simp only [iName_e, Out.bind_ok, List.set_cons_succ, List.set_cons_zero]
    rw [word_step, if_pos (h c List.mem_cons_self)]
    exact e
theorem word_f {S : Sto} {all : List IV} {x : IV} : ∀ (cs : List Nat) (u : Option IV), ¬ (∀ c ∈ cs, c ∈ sg alpha) → iIter ⟨all, none⟩ (iName 1) wordB (cs.map fun c => .str ⟨#[c]⟩) [some x, u] S = .ok (.rt (.bl false)) S
  | [], u, h => absurd (fun _ z => by cases z) h
  | c :: cs, u, h => by
    rw [List.map_cons]
    unfold iIter
    rw [chkP_pos (stay_none _ _)]
    simp only [iName_e, Out.bind_ok, List.set_cons_succ, List.set_cons_zero]
    rw [word_step]
    by_cases hc : c ∈ sg alpha
    · rw [if_pos hc]
      exact word_f cs (some (.str ⟨#[c]⟩)) fun q => h fun d hd => (List.mem_cons.mp hd).elim (fun e => e ▸ hc) (q d)
    · rw [if_neg hc]
      rfl
theorem abc_iff {s : Str} : abc s = true ↔ ∀ c ∈ sg s, c ∈ sg alpha := by
  unfold abc
  rw [List.all_eq_true]
  exact ⟨fun h c hc => of_decide_eq_true (h c hc), fun h c hc => decide_eq_true (h c hc)⟩
theorem is_word_ok {S : Sto} {s : Str} (hs : s.length ≤ 1000000) : m_is_word [.str s] S = .ok (.bl (decide (1 ≤ s.length ∧ s.length ≤ 8) && abc s)) S := by
  unfold m_is_word
  refine mDef_rt ?_
  have q0 : s.length ≤ sizeLine := by rw [szl]; omega
  have k1 : kitN "str" "str" = some true := by decide +kernel
  show (iSeq _ (iSeq (iFor (iSrcS (iVar 0)) (iName 1) wordB) (iRet (iC (.bl true)))) : IS) _ _ = _
  by_cases h1 : 1 ≤ s.length
  · have g1 : (1 : Int) ≤ s.length := by omega
    by_cases h2 : s.length ≤ 8
    · have g2 : (s.length : Int) ≤ 8 := by omega
      by_cases h3 : abc s = true
      · obtain ⟨u', e⟩ := word_t (S := S) (all := (sg s).map fun c => .str ⟨#[c]⟩) (x := .str s) (sg s) none (abc_iff.mp h3)
        simp [iVar_s, q0, k1, g1, g2, h1, h2, h3, e]
      · have e := word_f (S := S) (all := (sg s).map fun c => .str ⟨#[c]⟩) (x := .str s) (sg s) none (fun z => h3 (abc_iff.mpr z))
        simp [iVar_s, q0, k1, g1, g2, h1, h2, h3, e]
    · have g2 : ¬ (s.length : Int) ≤ 8 := by omega
      simp [iVar_s, q0, k1, g1, g2, h1, h2]
  · have g1 : ¬ (1 : Int) ≤ s.length := by omega
    simp [iVar_s, q0, k1, g1, h1]
theorem fits_ok {S : Sto} {s : Str} (hs : s.length ≤ 1000000) : m_name_fits [.str s] S = .ok (.bl (nameB s)) S := by
  unfold m_name_fits
  refine mDef_rt ?_
  unfold b_name_fits
  simp [iVar_s, is_word_ok hs, chk_pos, inB_tup, nameB]
  by_cases q : (1 ≤ s.length ∧ s.length ≤ 8) ∧ abc s = true
  · simp [q.1, q.2]
  · simp [q]
/-! ### lines and words -/
def wordsOf (s : Str) : List Str := Txt.split s " "
/-- a line that can be read -/
structure LnOk (s : Str) : Prop where
  len : s.length ≤ 1000000
  cnt : (wordsOf s).length ≤ 1000000
  ok : ∀ w ∈ wordsOf s, w.length ≤ 1000000 ∧ okS w
theorem words_of_ok {S : Sto} {s : Str} (h : LnOk s) : m_words_of [.str s] S = .ok (.lst ((wordsOf s).map .str)) S := by
  unfold m_words_of
  refine mDef_rt ?_
  unfold b_words_of
  have h1 : ((" " : Str).length == 0) = false ∧ s.length + 2 ≤ sizeLine := ⟨by decide +kernel, by have := h.len; rw [szl]; omega⟩
  have h2 : (wordsOf s).length ≤ sizeLine := by have := h.cnt; rw [szl]; omega
  have e : fSplit false (.str s) [.str " "] S = .ok (.lst ((wordsOf s).map .str)) S := by
    show chk _ (mkL false ((Txt.split s " ").map IV.str) S) = _
    rw [chk_pos h1, mkL_f, chk_pos (by rw [List.length_map]; exact h2)]
    rfl
  simp [iVar_s, hasTy, chk_pos, e]
/-! ### the reader's store -/
/-- a module: its name, the cells of its rows and of its names, and what they hold -/
structure Mod where
  name : Str
  a : Nat
  d : Nat
  rows : List IV
  decl : List (Str × Nat)
def declV (l : List (Str × Nat)) : List (Key × IV) := l.map fun p => (.inr p.1, .int p.2)
structure RQ where
  pos : Nat
  ms : List Mod
  places : List (Key × IV)
  defs : List (Key × IV)
  kept : IV
def rFs (r : Nat) (L : List Str) (pos : Nat) (kept : IV) : List (Str × IV) :=
  [("lines", .lst (L.map .str)), ("at", .int pos), ("modules", .adr (r + 1)), ("rows", .adr (r + 2)), ("declared", .adr (r + 3)), ("places", .adr (r + 4)), ("defs", .adr (r + 5)), ("kept", kept)]
structure MR (S : Sto) (r : Nat) (m : Mod) : Prop where
  a : S[m.a]? = some (.lst m.rows)
  d : S[m.d]? = some (.dic (declV m.decl))
  la : r + 5 < m.a
  ld : r + 5 < m.d
  nm : nameB m.name = true
  db : ∀ p ∈ m.decl, p.2 < 1000000
structure Rep (B : Sto) (r : Nat) (L : List Str) (S : Sto) (q : RQ) : Prop where
  base : Ext [] B S
  bl : B.length ≤ r
  self : S[r]? = some (.ins "Reader" (rFs r L q.pos q.kept))
  mods : S[r + 1]? = some (.lst (q.ms.map fun m => .str m.name))
  rows : S[r + 2]? = some (.dic (q.ms.map fun m => (.inr m.name, .adr m.a)))
  decl : S[r + 3]? = some (.dic (q.ms.map fun m => (.inr m.name, .adr m.d)))
  places : S[r + 4]? = some (.dic q.places)
  defs : S[r + 5]? = some (.dic q.defs)
  ms : ∀ m ∈ q.ms, MR S r m
  na : (q.ms.map (·.a)).Nodup
  nd : (q.ms.map (·.d)).Nodup
  nn : (q.ms.map (·.name)).Nodup
theorem bs {B S : Sto} {n : Nat} {c : Cell} (h : Ext [] B S) (hn : B.length ≤ n) : Ext [] B (S.set n c) := h.trans' (.set (ds := [n]) (.inl (by simp))) fun e he => .inr (by rw [List.mem_singleton.mp he]; exact hn)
theorem ba {B S T : Sto} (h : Ext [] B S) : Ext [] B (S ++ T) := h.trans (.app T)
/-- a line is wrong -/
def Err {α : Type} (B : Sto) (o : Out α) (k : Int) : Prop := ∃ n Λ S', o = .exc "BadLine" n Λ S' ∧ S'[n]? = some (.xd [("at", .int k)]) ∧ Ext [] B S'
theorem Err.bind {B : Sto} {α β : Type} {o : Out α} {k : Int} (h : Err B o k) (f : α → Sto → Out β) : Err B (o.bind f) k := by
  obtain ⟨n, Λ, S', e, h⟩ := h
  exact ⟨n, Λ, S', by rw [e]; rfl, h⟩
theorem Err.relab {B : Sto} {o : Out IV} {k : Int} (h : Err B o k) (Λ : Slots) : Err B (relab Λ o) k := by
  obtain ⟨n, Λ', S', e, h⟩ := h
  exact ⟨n, Λ, S', by rw [e]; rfl, h⟩
theorem Err.mdef {B : Sto} {n : Nat} {b : IS} {xs : List IV} {S : Sto} {k : Int} (h : Err B (b (xs.map some ++ List.replicate (n - xs.length) none) S) k) : Err B (mDef n b xs S) k := by
  obtain ⟨n', Λ', S', e, h⟩ := h
  exact ⟨n', [], S', by rw [mDef_e, e], h⟩
section
variable {B : Sto} {r : Nat} {L : List Str} {S : Sto} {q : RQ}
theorem Rep.at_ (h : Rep B r L S q) : S[r]? = some (.ins "Reader" (rFs r L q.pos q.kept)) := h.self
@[simp] theorem iUn_fld {C f : Str} {m : IE} {Λ : Slots} : iUn (fFld C f) m Λ S = (m Λ S).bind fun x S1 => fFld C f x S1 := rfl
theorem fFld_s {C f : Str} {n : Nat} {fs : List (Str × IV)} {v : IV} (h : S[n]? = some (.ins C fs)) (hl : fs.lookup f = some v) : fFld C f (.adr n) S = .ok v S := by
  unfold fFld
  rw [onI_s h, hl]
  rfl
theorem fld_at (h : Rep B r L S q) : fFld "Reader" "at" (.adr r) S = .ok (.int q.pos) S := fFld_s h.self rfl
theorem fld_lines (h : Rep B r L S q) : fFld "Reader" "lines" (.adr r) S = .ok (.lst (L.map .str)) S := fFld_s h.self rfl
theorem fld_modules (h : Rep B r L S q) : fFld "Reader" "modules" (.adr r) S = .ok (.adr (r + 1)) S := fFld_s h.self rfl
theorem fld_rows (h : Rep B r L S q) : fFld "Reader" "rows" (.adr r) S = .ok (.adr (r + 2)) S := fFld_s h.self rfl
theorem fld_declared (h : Rep B r L S q) : fFld "Reader" "declared" (.adr r) S = .ok (.adr (r + 3)) S := fFld_s h.self rfl
theorem fld_places (h : Rep B r L S q) : fFld "Reader" "places" (.adr r) S = .ok (.adr (r + 4)) S := fFld_s h.self rfl
theorem fld_defs (h : Rep B r L S q) : fFld "Reader" "defs" (.adr r) S = .ok (.adr (r + 5)) S := fFld_s h.self rfl
theorem fld_kept (h : Rep B r L S q) : fFld "Reader" "kept" (.adr r) S = .ok q.kept S := fFld_s h.self rfl
/-- o.m(..) of the reader -/
theorem meth_s {m : Str} {np : Nat} {mf : List IV → Sto → Out IV} {ma : IA} {C : Str} {n : Nat} {fs : List (Str × IV)} {mo : IE} {Λ : Slots} {S1 : Sto} (ho : mo Λ S = .ok (.adr n) S1) (h : S1[n]? = some (.ins C fs)) (hl : fs.lookup m = none) :
    iMeth C m np mf mo ma Λ S = (ma Λ S1).bind fun xs S2 => chk (xs.length + 1 = np) (relab Λ (mf (.adr n :: xs) S2)) := by
  unfold iMeth
  rw [ho, Out.bind_ok, onI_s h, chk_pos hl]
theorem need_t {b : Bool} (hb : b = true) (x : IV) : m_Reader_need [x, .bl b] S = .ok .non S := by
  subst hb
  unfold m_Reader_need b_Reader_need
  rw [mDef_e]
  simp [iVar_s]
theorem need_f {b : Bool} (hb : b = false) (h : Rep B r L S q) : Err B (m_Reader_need [.adr r, .bl b] S) q.pos := by
  subst hb
  unfold m_Reader_need b_Reader_need
  refine Err.mdef ⟨S.length, [some (.adr r), some (.bl false)], S ++ [.xd [("at", .int q.pos)]], ?_, by simp, ba h.base⟩
  simp [iVar_s, iRaise, fld_at h]
theorem words_t (h : Rep B r L S q) {s : Str} (hs : L[q.pos]? = some s) (ok : LnOk s) (hL : L.length ≤ 1000000) : m_Reader_words [.adr r] S = .ok (.lst ((wordsOf s).map .str)) S := by
  unfold m_Reader_words b_Reader_words
  have hlt : q.pos < L.length := (List.getElem?_eq_some_iff.mp hs).1
  refine mDef_rt ?_
  have e1 : ¬ ((L.length : Int) ≤ (q.pos : Int)) := by omega
  have e2 : atI (L.map IV.str) (q.pos : Int) = some (.str s) := atI_n (by rw [List.getElem?_map, hs]; rfl)
  simp [iVar_s, fld_at h, fld_lines h, e1, e2, words_of_ok ok, chk_pos]
theorem words_f (h : Rep B r L S q) (hs : L.length ≤ q.pos) : Err B (m_Reader_words [.adr r] S) L.length := by
  unfold m_Reader_words b_Reader_words
  refine Err.mdef ⟨S.length, [some (.adr r)], S ++ [.xd [("at", .int L.length)]], ?_, by simp, ba h.base⟩
  have e1 : (L.length : Int) ≤ (q.pos : Int) := by omega
  simp [iVar_s, fld_at h, fld_lines h, e1, iRaise]
end
end RD

set_option maxHeartbeats 2000000
/-! the reader's store, changed -/
namespace RD
open PySem PySem.Spec PyProof.Rows L2 Sm
theorem get_app {S T : Sto} {n : Nat} {c : Cell} (h : S[n]? = some c) : (S ++ T)[n]? = some c := by
  rw [List.getElem?_append_left (List.getElem?_eq_some_iff.mp h).1]; exact h
theorem get_set {S : Sto} {n m : Nat} {c c' : Cell} (h : S[n]? = some c) (hn : m ≠ n) : (S.set m c')[n]? = some c := by
  rw [List.getElem?_set_ne hn]; exact h
theorem get_self {S : Sto} {n : Nat} {c c' : Cell} (h : S[n]? = some c) : (S.set n c')[n]? = some c' := List.getElem?_set_self (List.getElem?_eq_some_iff.mp h).1
theorem lt_of {S : Sto} {n : Nat} {c : Cell} (h : S[n]? = some c) : n < S.length := (List.getElem?_eq_some_iff.mp h).1
section
variable {B : Sto} {r : Nat} {L : List Str} {S : Sto} {q : RQ}
theorem MR.app {m : Mod} (h : MR S r m) (T : Sto) : MR (S ++ T) r m := ⟨get_app h.a, get_app h.d, h.la, h.ld, h.nm, h.db⟩
theorem MR.set {m : Mod} (h : MR S r m) {n : Nat} {c : Cell} (ha : n ≠ m.a) (hd : n ≠ m.d) : MR (S.set n c) r m := ⟨get_set h.a ha, get_set h.d hd, h.la, h.ld, h.nm, h.db⟩
theorem Rep.bset (h : Rep B r L S q) {n : Nat} {c : Cell} (hn : r ≤ n) : Ext [] B (S.set n c) := h.base.trans' (.set (ds := [n]) (.inl (by simp))) fun e he => .inr (by have := h.bl; rw [List.mem_singleton.mp he]; omega)
theorem Rep.app (h : Rep B r L S q) (T : Sto) : Rep B r L (S ++ T) q :=
  ⟨h.base.trans (.app T), h.bl, get_app h.self, get_app h.mods, get_app h.rows, get_app h.decl, get_app h.places, get_app h.defs, fun m hm => (h.ms m hm).app T, h.na, h.nd, h.nn⟩
theorem Rep.other (h : Rep B r L S q) {n : Nat} {c : Cell} (hr : r + 5 < n) (hm : ∀ m ∈ q.ms, n ≠ m.a ∧ n ≠ m.d) : Rep B r L (S.set n c) q :=
  ⟨h.bset (by omega), h.bl, get_set h.self (by omega), get_set h.mods (by omega), get_set h.rows (by omega), get_set h.decl (by omega), get_set h.places (by omega), get_set h.defs (by omega),
    fun m hm' => (h.ms m hm').set (hm m hm').1 (hm m hm').2, h.na, h.nd, h.nn⟩
theorem Rep.low (h : Rep B r L S q) {n : Nat} {c : Cell} (hr : n ≤ r + 5) : ∀ m ∈ q.ms, MR (S.set n c) r m := fun m hm => (h.ms m hm).set (by have := (h.ms m hm).la; omega) (by have := (h.ms m hm).ld; omega)
theorem Rep.self' (h : Rep B r L S q) {pos : Nat} {kept : IV} : Rep B r L (S.set r (.ins "Reader" (rFs r L pos kept))) { q with pos := pos, kept := kept } :=
  ⟨h.bset (by omega), h.bl, get_self h.self, get_set h.mods (by omega), get_set h.rows (by omega), get_set h.decl (by omega), get_set h.places (by omega), get_set h.defs (by omega), h.low (by omega), h.na, h.nd, h.nn⟩
theorem Rep.places' (h : Rep B r L S q) {ps : List (Key × IV)} : Rep B r L (S.set (r + 4) (.dic ps)) { q with places := ps } :=
  ⟨h.bset (by omega), h.bl, get_set h.self (by omega), get_set h.mods (by omega), get_set h.rows (by omega), get_set h.decl (by omega), get_self h.places, get_set h.defs (by omega), h.low (by omega), h.na, h.nd, h.nn⟩
theorem Rep.defs' (h : Rep B r L S q) {ps : List (Key × IV)} : Rep B r L (S.set (r + 5) (.dic ps)) { q with defs := ps } :=
  ⟨h.bset (by omega), h.bl, get_set h.self (by omega), get_set h.mods (by omega), get_set h.rows (by omega), get_set h.decl (by omega), get_set h.places (by omega), get_self h.defs, h.low (by omega), h.na, h.nd, h.nn⟩
theorem kind_ne {n m : Nat} {xs : List IV} {kvs : List (Key × IV)} (h : S[n]? = some (.lst xs)) (k : S[m]? = some (.dic kvs)) : n ≠ m := fun e => by
  subst e
  rw [h] at k
  cases k
/-- the last module's rows -/
theorem Rep.rows' (h : Rep B r L S q) {init : List Mod} {m : Mod} (hq : q.ms = init ++ [m]) {rows : List IV} : Rep B r L (S.set m.a (.lst rows)) { q with ms := init ++ [{ m with rows := rows }] } := by
  have hm := h.ms m (by rw [hq]; simp)
  have la := hm.la
  have na := h.na
  rw [hq, List.map_append, List.nodup_append] at na
  refine ⟨h.bset (by omega), h.bl, get_set h.self (by omega), ?_, ?_, ?_, get_set h.places (by omega), get_set h.defs (by omega), fun x hx => ?_, ?_, ?_, ?_⟩
  · have := get_set (m := m.a) (c' := .lst rows) h.mods (by omega)
    rw [hq] at this
    simpa using this
  · have := get_set (m := m.a) (c' := .lst rows) h.rows (by omega)
    rw [hq] at this
    simpa using this
  · have := get_set (m := m.a) (c' := .lst rows) h.decl (by omega)
    rw [hq] at this
    simpa using this
  · rcases List.mem_append.mp hx with hx | hx
    · have hx' := h.ms x (by rw [hq]; exact List.mem_append.mpr (.inl hx))
      refine hx'.set (fun e => ?_) (kind_ne hm.a hx'.d)
      exact na.2.2 x.a (List.mem_map.mpr ⟨x, hx, rfl⟩) m.a (by simp) e.symm
    · have : x = { m with rows := rows } := by simpa using hx
      subst this
      exact ⟨get_self hm.a, get_set hm.d (kind_ne hm.a hm.d), hm.la, hm.ld, hm.nm, hm.db⟩
  · have := h.na; rw [hq] at this; simpa using this
  · have := h.nd; rw [hq] at this; simpa using this
  · have := h.nn; rw [hq] at this; simpa using this
/-- .. its names -/
theorem Rep.decl' (h : Rep B r L S q) {init : List Mod} {m : Mod} (hq : q.ms = init ++ [m]) {decl : List (Str × Nat)} (hb : ∀ p ∈ decl, p.2 < 1000000) : Rep B r L (S.set m.d (.dic (declV decl))) { q with ms := init ++ [{ m with decl := decl }] } := by
  have hm := h.ms m (by rw [hq]; simp)
  have ld := hm.ld
  have nd := h.nd
  rw [hq, List.map_append, List.nodup_append] at nd
  refine ⟨h.bset (by omega), h.bl, get_set h.self (by omega), ?_, ?_, ?_, get_set h.places (by omega), get_set h.defs (by omega), fun x hx => ?_, ?_, ?_, ?_⟩
  · have := get_set (m := m.d) (c' := .dic (declV decl)) h.mods (by omega)
    rw [hq] at this
    simpa using this
  · have := get_set (m := m.d) (c' := .dic (declV decl)) h.rows (by omega)
    rw [hq] at this
    simpa using this
  · have := get_set (m := m.d) (c' := .dic (declV decl)) h.decl (by omega)
    rw [hq] at this
    simpa using this
  · rcases List.mem_append.mp hx with hx | hx
    · have hx' := h.ms x (by rw [hq]; exact List.mem_append.mpr (.inl hx))
      refine hx'.set (fun e => (kind_ne hx'.a hm.d) e.symm) (fun e => ?_)
      exact nd.2.2 x.d (List.mem_map.mpr ⟨x, hx, rfl⟩) m.d (by simp) e.symm
    · have : x = { m with decl := decl } := by simpa using hx
      subst this
      exact ⟨get_set hm.a (fun e => (kind_ne hm.a hm.d) e.symm), get_self hm.d, hm.la, hm.ld, hm.nm, hb⟩
  · have := h.na; rw [hq] at this; simpa using this
  · have := h.nd; rw [hq] at this; simpa using this
  · have := h.nn; rw [hq] at this; simpa using this
/-! ### module, is_above, keep_row, declare -/
theorem atI_neg1 {α : Type} (xs : List α) (x : α) : atI (xs ++ [x]) (-1) = some x := by
  unfold atI ixN
  rw [if_neg (by omega), if_pos (by simp; omega)]
  have e : (-1 + ((xs ++ [x]).length : Int)).toNat = xs.length := by simp; omega
  rw [e]
  simp
@[simp] theorem fNeg_i (i : Int) : fNeg (.int i) S = .ok (.int (-i)) S := rfl
theorem module_ok (h : Rep B r L S q) {init : List Mod} {m : Mod} (hq : q.ms = init ++ [m]) : m_Reader_module [.adr r] S = .ok (.str m.name) S := by
  unfold m_Reader_module b_Reader_module
  refine mDef_rt ?_
  have e := h.mods
  rw [hq, List.map_append] at e
  have e2 : fIx (.adr (r + 1)) (.int (-1)) S = .ok (.str m.name) S := by
    rw [fIx_a e]
    show orBad (atI (_ ++ [IV.str m.name]) (-1)) _ = _
    rw [atI_neg1]
    rfl
  simp [iVar_s, fld_modules h, e2]
theorem find_map {β : Type} (f : Mod → β) {ms : List Mod} {m : Mod} (hm : m ∈ ms) (nn : (ms.map (·.name)).Nodup) : ((ms.map fun m => ((.inr m.name, f m) : Key × β)).find? fun kv => decide (kv.1 = .inr m.name)).map (·.2) = some (f m) := by
  induction ms with
  | nil => cases hm
  | cons x ms ih =>
    rw [List.map_cons, List.find?_cons]
    rcases List.mem_cons.mp hm with rfl | hm'
    · simp
    · have hne : x.name ≠ m.name := fun e => by
        rw [List.map_cons, List.nodup_cons] at nn
        exact nn.1 (List.mem_map.mpr ⟨m, hm', e.symm⟩)
      have : decide ((Sum.inr x.name : Key) = .inr m.name) = false := decide_eq_false fun e => hne (Sum.inr.inj e)
      simp only [this]
      exact ih hm' (List.nodup_cons.mp nn).2
theorem get_rows (h : Rep B r L S q) {m : Mod} (hm : m ∈ q.ms) : fDGet (.adr (r + 2)) (.str m.name) S = .ok (.adr m.a) S := by
  unfold fDGet
  rw [onD_s h.rows]
  show orBad (valI _ (.inr m.name)) _ = _
  have : valI (q.ms.map fun m => (.inr m.name, .adr m.a)) (.inr m.name) = some (.adr m.a) := find_map (fun m => IV.adr m.a) hm h.nn
  rw [this]
  rfl
theorem get_decl (h : Rep B r L S q) {m : Mod} (hm : m ∈ q.ms) : fDGet (.adr (r + 3)) (.str m.name) S = .ok (.adr m.d) S := by
  unfold fDGet
  rw [onD_s h.decl]
  show orBad (valI _ (.inr m.name)) _ = _
  have : valI (q.ms.map fun m => (.inr m.name, .adr m.d)) (.inr m.name) = some (.adr m.d) := find_map (fun m => IV.adr m.d) hm h.nn
  rw [this]
  rfl
theorem hasTy_a {n : Nat} {xs : List IV} (h : S[n]? = some (.lst xs)) : hasTy "list" S (.adr n) = true := by
  unfold hasTy lstOf
  simp only [h]
  rfl
theorem app_s {n : Nat} {xs : List IV} {v : IV} (h : S[n]? = some (.lst xs)) (hl : xs.length < sizeLine) : fApp (.adr n) [v] S = .ok .non (S.set n (.lst (xs ++ [v]))) := by
  unfold fApp
  rw [a1_1, onL_s h, chk_pos hl]
theorem mMod {mo : IE} {Λ : Slots} {S0 : Sto} (ho : mo Λ S0 = .ok (.adr r) S) (h : Rep B r L S q) {init : List Mod} {m : Mod} (hq : q.ms = init ++ [m]) : iMeth "Reader" "module" 1 m_Reader_module mo iNil Λ S0 = .ok (.str m.name) S := by
  rw [meth_s ho h.self rfl]
  simp [module_ok h hq, chk_pos]
theorem keep_row_ok (h : Rep B r L S q) {init : List Mod} {m : Mod} (hq : q.ms = init ++ [m]) (hl : m.rows.length < 1000000) (row : IV) : m_Reader_keep_row [.adr r, row] S = .ok .non (S.set m.a (.lst (m.rows ++ [row]))) := by
  have hm : m ∈ q.ms := by rw [hq]; simp
  unfold m_Reader_keep_row b_Reader_keep_row
  rw [mDef_e]
  have e0 := mMod (mo := iVar 0) (Λ := [some (.adr r), some row]) (S0 := S) (iVar_s rfl) h hq
  have e1 := hasTy_a (h.ms m hm).a
  simp [iVar_s, fld_rows h, e0, get_rows h hm, e1, chk_pos, app_s (h.ms m hm).a (by rw [szl]; omega)]
theorem mNeed {mo : IE} {Λ : Slots} {S0 : Sto} (ho : mo Λ S0 = .ok (.adr r) S) (h : Rep B r L S q) {me : IE} {b : Bool} {S1 : Sto} (e : me Λ S = .ok (.bl b) S1) (hb : b = true) : iMeth "Reader" "need" 2 m_Reader_need mo (iCons me iNil) Λ S0 = .ok .non S1 := by
  rw [meth_s ho h.self rfl]
  simp [e, chk_pos, need_t hb]
theorem mNeedF {mo : IE} {Λ : Slots} {S0 : Sto} (ho : mo Λ S0 = .ok (.adr r) S) (h : Rep B r L S q) {me : IE} {b : Bool} {S1 : Sto} {q1 : RQ} (e : me Λ S = .ok (.bl b) S1) (h1 : Rep B r L S1 q1) (hb : b = false) : Err B (iMeth "Reader" "need" 2 m_Reader_need mo (iCons me iNil) Λ S0) q1.pos := by
  rw [meth_s ho h.self rfl]
  simp only [iCons_e, iNil_e, e, Out.bind_ok]
  rw [chk_pos (show [IV.bl b].length + 1 = 2 from rfl)]
  exact (need_f hb h1).relab _
end
end RD

set_option maxHeartbeats 2000000
/-! while, turn by turn; paths -/
namespace RD
open PySem PySem.Spec PyProof.Rows L2 Sm
section
variable {B : Sto} {c : IT} {b : IS} {Λ L : Slots} {S S1 S2 : Sto} {o : Out Fl}
theorem iWhile_ex (h : iWhile c b Λ S = o) (hn : o ≠ .bad) : ∃ n, iWh c b n Λ S = o := by
  unfold iWhile at h
  split at h
  · exact ⟨_, h⟩
  · exact absurd h.symm hn
theorem iWhile_f (hc : c Λ S = .ok false S1) : iWhile c b Λ S = .ok (.nx Λ) S1 := iWhile_of (n := 1) (by unfold iWh; rw [hc]; rfl) (by simp)
theorem iWhile_t (hc : c Λ S = .ok true S1) (hb : b Λ S1 = .ok (.nx L) S2) (h : iWhile c b L S2 = o) (hn : o ≠ .bad) : iWhile c b Λ S = o := by
  obtain ⟨n, e⟩ := iWhile_ex h hn
  refine iWhile_of (n := n + 1) ?_ hn
  unfold iWh
  rw [hc, Out.bind_ok, if_pos rfl, hb, Out.bind_ok]
  exact e
theorem iWhile_r {v : IV} (hc : c Λ S = .ok true S1) (hb : b Λ S1 = .ok (.rt v) S2) : iWhile c b Λ S = .ok (.rt v) S2 := iWhile_of (n := 1) (by unfold iWh; rw [hc, Out.bind_ok, if_pos rfl, hb]; rfl) (by simp)
theorem iWhile_e {k : Int} (hc : c Λ S = .ok true S1) (hb : Err B (b Λ S1) k) : Err B (iWhile c b Λ S) k := by
  obtain ⟨n, Λ', S', e, h⟩ := hb
  exact ⟨n, Λ', S', iWhile_of (n := 1) (by unfold iWh; rw [hc, Out.bind_ok, if_pos rfl, e]; rfl) (by simp), h⟩
theorem iWhile_te {k : Int} (hc : c Λ S = .ok true S1) (hb : b Λ S1 = .ok (.nx L) S2) (h : Err B (iWhile c b L S2) k) : Err B (iWhile c b Λ S) k := by
  obtain ⟨n, Λ', S', e, h⟩ := h
  exact ⟨n, Λ', S', iWhile_t hc hb e (by simp), h⟩
theorem Err.nb {B : Sto} {α : Type} {o : Out α} {k : Int} (h : Err B o k) : o ≠ .bad := by
  obtain ⟨n, Λ', S', e, h⟩ := h
  rw [e]; simp
end
/-! ### the letters that follow -/
def isL (c : Nat) : Bool := decide (c ∈ sg alpha)
def lets (cs : List Nat) : Nat := (cs.takeWhile isL).length
theorem lets_le (cs : List Nat) : lets cs ≤ cs.length := (List.takeWhile_sublist _).length_le
def letT (j : Nat) : IT := iAnd (iTest (iBin fLt (iVar j) (iCa fLen (iCons (iVar 0) iNil)))) (iTest (iBin fIn (iBin fIx (iVar 0) (iVar j)) (iC (.str c_LETTERS))))
def letB (j : Nat) : IS := iAug j fAddI (iC (.int 1))
theorem lt_get {xs : Slots} {i : Nat} {x : Option IV} (h : xs[i]? = some x) : i < xs.length := (List.getElem?_eq_some_iff.mp h).1
theorem letters_while {s : Str} {j : Nat} (hj : j ≠ 0) (hs : s.length ≤ 1000000) {S : Sto} : ∀ (cs : List Nat) (k : Nat) (Λ : Slots), (sg s).drop k = cs → Λ[0]? = some (some (.str s)) → Λ[j]? = some (some (.int k)) →
    iWhile (letT j) (letB j) Λ S = .ok (.nx (Λ.set j (some (.int ((k + lets cs : Nat) : Int))))) S
  | [], k, Λ, hd, h0, hj' => by
    have hk : s.length ≤ k := by
      have := congrArg List.length hd
      rw [List.length_drop, sg_len] at this
      simp at this
      omega
    have q0 : s.length ≤ sizeLine := by rw [szl]; omega
    have e1 : ¬ ((k : Int) < (s.length : Int)) := by omega
    have e : letT j Λ S = .ok false S := by
      unfold letT
      simp [iVar_s h0, iVar_s hj', q0, e1]
    rw [iWhile_f e]
    have : Λ.set j (some (.int ((k + lets [] : Nat) : Int))) = Λ := by
      refine List.ext_getElem? fun i => ?_
      by_cases hi : i = j
      · subst hi
        rw [List.getElem?_set_self (lt_get hj'), hj']
        rfl
      · rw [List.getElem?_set_ne (Ne.symm hi)]
    rw [this]
  | c :: cs, k, Λ, hd, h0, hj' => by
    have hk : k < s.length := by
      have := congrArg List.length hd
      rw [List.length_drop, sg_len] at this
      simp at this
      omega
    have q0 : s.length ≤ sizeLine := by rw [szl]; omega
    have hc : (sg s)[k]? = some c := by
      have := congrArg (fun l => l[0]?) hd
      simpa using this
    have e1 : (k : Int) < (s.length : Int) := by omega
    have e2 : atI (sg s) (k : Int) = some c := atI_n hc
    have e2' : atI s.cps.toList (k : Int) = some c := e2
    have hi : inB S (.str ⟨#[c]⟩) (.str c_LETTERS) = some (isL c) := rfl
    have e : letT j Λ S = .ok (isL c) S := by
      unfold letT
      simp [iVar_s h0, iVar_s hj', q0, e1, e2', chk_pos, hi]
    cases hl : isL c with
    | false =>
      rw [hl] at e
      rw [iWhile_f e]
      have hz : lets (c :: cs) = 0 := by unfold lets; rw [List.takeWhile_cons, hl]; rfl
      have : Λ.set j (some (.int ((k + lets (c :: cs) : Nat) : Int))) = Λ := by
        rw [hz]
        refine List.ext_getElem? fun i => ?_
        by_cases hi : i = j
        · subst hi
          rw [List.getElem?_set_self (lt_get hj'), hj']
          rfl
        · rw [List.getElem?_set_ne (Ne.symm hi)]
      rw [this]
    | true =>
      rw [hl] at e
      have hz : lets (c :: cs) = lets cs + 1 := by unfold lets; rw [List.takeWhile_cons, hl]; simp
      have hb : letB j Λ S = .ok (.nx (Λ.set j (some (.int ((k + 1 : Nat) : Int))))) S := by
        unfold letB iAug
        rw [iVar_s hj']
        simp [fAddI]
      have ih := letters_while hj hs (S := S) cs (k + 1) (Λ.set j (some (.int ((k + 1 : Nat) : Int)))) (by
        have : (sg s).drop (k + 1) = ((sg s).drop k).drop 1 := by rw [List.drop_drop]
        rw [this, hd]; rfl) (by rw [List.getElem?_set_ne hj]; exact h0) (List.getElem?_set_self (lt_get hj'))
      rw [List.set_set] at ih
      rw [iWhile_t e hb ih (by simp), hz]
      rw [show k + 1 + lets cs = k + (lets cs + 1) by omega]
/-! ### a step -/
def stepP (s : Str) : Option (Str × Str × Str) := match sg s with
  | [] => none
  | c :: cs => if c = 91 then (if (Txt.partition (cutS s (some 1) none) "]").2.1 = "" ∨ nameB (Txt.partition (cutS s (some 1) none) "]").1 = false then none else some ("[", (Txt.partition (cutS s (some 1) none) "]").1, (Txt.partition (cutS s (some 1) none) "]").2.2))
    else if c = 46 then (if nameB (cutS s (some 1) (some ((1 + lets cs : Nat) : Int))) = true then some (".", cutS s (some 1) (some ((1 + lets cs : Nat) : Int)), cutS s (some ((1 + lets cs : Nat) : Int)) none) else none)
    else none
def ivStep (o : Option (Str × Str × Str)) : IV := match o with
  | none => .non
  | some (a, b, c) => .tup [.str a, .str b, .str c]
theorem one_inj {c d : Nat} (h : (⟨#[c]⟩ : Str) = ⟨#[d]⟩) : c = d := by
  have := congrArg sg h
  simpa [sg] using this
theorem part_len (s y : Str) : (Txt.partition s y).1.length ≤ s.length ∧ (Txt.partition s y).2.2.length ≤ s.length := by
  unfold Txt.partition
  split
  · exact ⟨le_strSub _ _ _, le_strSub _ _ _⟩
  · exact ⟨Nat.le_refl _, Nat.zero_le _⟩
theorem one_eq (c d : Nat) (y : Str) (h : y = ⟨#[d]⟩) : ((⟨#[c]⟩ : Str) = y) = (c = d) := by
  subst h
  exact propext ⟨one_inj, fun e => by rw [e]⟩
@[simp] theorem tupOf_t (xs : List IV) : tupOf (.tup xs) = some xs := rfl
@[simp] theorem iGTup_e (n : Nat) (g : IGs) (v : IV) (Λ : Slots) (S : Sto) : iGTup n g v Λ S = orBad (tupOf v) fun xs => chk (xs.length = n) (g xs Λ S) := rfl
@[simp] theorem iGCons_e (g : IG) (r : IGs) (x : IV) (xs : List IV) (Λ : Slots) (S : Sto) : iGCons g r (x :: xs) Λ S = (g x Λ S).bind fun L S1 => r xs L S1 := rfl
@[simp] theorem iGNil_e (Λ : Slots) (S : Sto) : iGNil [] Λ S = .ok Λ S := rfl
theorem read_step_ok {S : Sto} {s : Str} (hs : s.length ≤ 1000000) (h0 : 0 < s.length) : m_read_step [.str s] S = .ok (ivStep (stepP s)) S := by
  unfold m_read_step
  refine mDef_rt ?_
  have q0 : s.length ≤ sizeLine := by rw [szl]; omega
  cases hc : sg s with
  | nil => have := sg_len s; rw [hc] at this; simp at this; omega
  | cons c cs =>
    have e0 : fIx (.str s) (.int 0) S = .ok (.str ⟨#[c]⟩) S := by
      have : s.cps.toList = c :: cs := hc
      rw [fIx_s, chk_pos q0, this]; simp
    have oL := one_eq c 91 "[" (by decide +kernel)
    have oD := one_eq c 46 "." (by decide +kernel)
    have eR : ((("]" : Str).length == 0) = false) := by decide +kernel
    have q1 : (cutS s (some 1) none).length ≤ 1000000 := Nat.le_trans (len_cut _ _ _) hs
    have q2 : (cutS s (some 1) none).length ≤ sizeLine := by rw [szl]; omega
    have q3 := part_len (cutS s (some 1) none) "]"
    have three : (3 : Nat) ≤ sizeLine := by rw [szl]; omega
    have eP : fPart (.str (cutS s (some 1) none)) [.str "]"] S = .ok (.tup [.str (Txt.partition (cutS s (some 1) none) "]").1, .str (Txt.partition (cutS s (some 1) none) "]").2.1, .str (Txt.partition (cutS s (some 1) none) "]").2.2]) S := by
      show chk _ _ = _
      rw [chk_pos ⟨eR, q2⟩]
    have eT : hasTy "str" S (.str (cutS s (some 1) none)) = true := rfl
    unfold stepP
    rw [hc]
    simp only []
    by_cases h1 : c = 91
    · have dL : (⟨#[c]⟩ : Str) = "[" := by rw [oL]; exact h1
      rw [dL] at e0
      have eF := fits_ok (S := S) (s := (Txt.partition (cutS s (some 1) none) "]").1) (by omega)
      rw [if_pos h1]
      by_cases h2 : (Txt.partition (cutS s (some 1) none) "]").2.1 = ""
      · rw [if_pos (.inl h2)]
        unfold b_read_step
        simp [iVar_s, q0, e0, chk_pos, eT, eP, h2, ivStep]
      · cases h3 : nameB (Txt.partition (cutS s (some 1) none) "]").1 with
        | false =>
          rw [if_pos (.inr rfl)]
          unfold b_read_step
          simp [iVar_s, q0, e0, chk_pos, eT, eP, h2, ivStep, eF, h3]
        | true =>
          rw [if_neg (by simp [h2])]
          unfold b_read_step
          simp [iVar_s, q0, e0, chk_pos, eT, eP, h2, ivStep, eF, h3, three]
    · have dL : ¬ (⟨#[c]⟩ : Str) = "[" := by rw [oL]; exact h1
      rw [if_neg h1]
      by_cases h2 : c = 46
      · have dD : (⟨#[c]⟩ : Str) = "." := by rw [oD]; exact h2
        have dLD : ¬ ("." : Str) = "[" := by decide +kernel
        rw [dD] at e0
        rw [if_pos h2]
        have eW := letters_while (s := s) (j := 4) (by decide) hs (S := S) cs 1 [some (.str s), none, none, none, some (.int 1)] (by rw [hc]; rfl) rfl rfl
        have eW' : iWhile (iAnd (iTest (iBin fLt (iVar 4) (iCa fLen (iCons (iVar 0) iNil)))) (iTest (iBin fIn (iBin fIx (iVar 0) (iVar 4)) (iC (.str c_LETTERS))))) (iAug 4 fAddI (iC (.int 1))) [some (.str s), none, none, none, some (.int 1)] S = .ok (.nx [some (.str s), none, none, none, some (.int ((1 + lets cs : Nat) : Int))]) S := eW
        have eF := fits_ok (S := S) (s := cutS s (some 1) (some ((1 + lets cs : Nat) : Int))) (Nat.le_trans (len_cut _ _ _) hs)
        generalize ((1 + lets cs : Nat) : Int) = k at *
        cases h3 : nameB (cutS s (some 1) (some k)) with
        | false =>
          rw [if_neg Bool.false_ne_true]
          unfold b_read_step
          simp [iVar_s, q0, e0, chk_pos, dLD, ivStep, eW', eF, h3]
        | true =>
          rw [if_pos rfl]
          unfold b_read_step
          simp [iVar_s, q0, e0, chk_pos, dLD, ivStep, eW', eF, h3, three]
      · have dD : ¬ (⟨#[c]⟩ : Str) = "." := by rw [oD]; exact h2
        rw [if_neg h2]
        unfold b_read_step
        simp [iVar_s, q0, e0, chk_pos, dL, dD, ivStep]
end RD

set_option maxHeartbeats 2000000
namespace RD
open PySem PySem.Spec PyProof.Rows L2 Sm
theorem eq_empty {s : Str} (h : s.length = 0) : s = "" := by
  rw [empty_eq]
  refine sg_inj ?_
  have := sg_len s
  rw [h] at this
  rw [List.length_eq_zero_iff.mp this]
  try rfl
theorem len_pos {s : Str} (h : s ≠ "") : 0 < s.length := Nat.pos_of_ne_zero fun e => h (eq_empty e)
theorem stepP_len {s a b r : Str} (h : stepP s = some (a, b, r)) : r.length ≤ s.length := by
  unfold stepP at h
  split at h
  · cases h
  · split at h
    · split at h
      · cases h
      · cases h
        exact Nat.le_trans (part_len _ _).2 (len_cut _ _ _)
    · split at h
      · split at h
        · cases h
          exact len_cut _ _ _
        · cases h
      · cases h
def stepsP : Nat → Str → List (Str × Str) → Option (List (Str × Str))
  | 0, _, _ => none
  | n + 1, rest, acc => if rest = "" then some acc else match stepP rest with
    | none => none
    | some (a, b, r) => if acc.length = 3 then none else stepsP n r (acc ++ [(a, b)])
def pathP (s : Str) : Option (Str × List (Str × Str)) :=
  if nameB (cutS s none (some (lets (sg s) : Int))) = true then (stepsP 5 (cutS s (some (lets (sg s) : Int)) none) []).map fun st => (cutS s none (some (lets (sg s) : Int)), st) else none
def ivSt (p : Str × Str) : IV := .tup [.str p.1, .str p.2]
def ivPath (s : Str) : Option (Str × List (Str × Str)) → IV
  | none => .non
  | some (hd, st) => .tup [.str s, .str hd, .tup (st.map ivSt)]
noncomputable def pathT : IT := iTest (iBin fNe (iVar 4) (iC (.str "")))
noncomputable def pathB : IS := iSeq (iSet 5 (iCall 1 m_read_step (iCons (iVar 4) iNil))) (iSeq (iIf (iOr (iTest (iBin gIsN (iVar 5) (iC .non))) (iTest (iBin fEq (iCa fLen (iCons (iVar 3) iNil)) (iC (.int 3))))) (iRet (iC .non)) iNext) (iSeq (iDrop (iBM "list" fApp (iVar 3) (iCons (iTup (iCons (iBin fIx (iVar 5) (iC (.int 0))) (iCons (iBin fIx (iVar 5) (iC (.int 1))) iNil))) iNil))) (iSet 4 (iBin fIx (iVar 5) (iC (.int 2))))))
theorem lenN_a {S : Sto} {n : Nat} {xs : List IV} (h : S[n]? = some (.lst xs)) : lenN S (.adr n) = some xs.length := by
  unfold lenN seqOf tupOf lstOf
  simp only [h]
  rfl
theorem steps_while {S0 : Sto} {s hd : IV} {k : IV} : ∀ (n : Nat) (rest : Str) (acc : List (Str × Str)) (x : Option IV), acc.length ≤ 3 → 5 ≤ n + acc.length → rest.length ≤ 1000000 →
    (∀ st, stepsP n rest acc = some st → ∃ x', iWhile pathT pathB [some s, some k, some hd, some (.adr S0.length), some (.str rest), x] (S0 ++ [.lst (acc.map ivSt)]) = .ok (.nx [some s, some k, some hd, some (.adr S0.length), some (.str ""), x']) (S0 ++ [.lst (st.map ivSt)])) ∧
    (stepsP n rest acc = none → ∃ T, iWhile pathT pathB [some s, some k, some hd, some (.adr S0.length), some (.str rest), x] (S0 ++ [.lst (acc.map ivSt)]) = .ok (.rt .non) (S0 ++ T))
  | 0, rest, acc, x, h1, h2, h3 => by omega
  | n + 1, rest, acc, x, h1, h2, h3 => by
    by_cases hr : rest = ""
    · have e : pathT [some s, some k, some hd, some (.adr S0.length), some (.str rest), x] (S0 ++ [.lst (acc.map ivSt)]) = .ok false (S0 ++ [.lst (acc.map ivSt)]) := by
        unfold pathT
        simp [iVar_s, hr]
      refine ⟨fun st he => ⟨x, ?_⟩, fun he => ?_⟩
      · rw [iWhile_f e, hr]
        unfold stepsP at he
        rw [if_pos hr] at he
        cases he
        rfl
      · unfold stepsP at he
        rw [if_pos hr] at he
        cases he
    · have e : pathT [some s, some k, some hd, some (.adr S0.length), some (.str rest), x] (S0 ++ [.lst (acc.map ivSt)]) = .ok true (S0 ++ [.lst (acc.map ivSt)]) := by
        unfold pathT
        simp [iVar_s, hr]
      have ec : (S0 ++ [Cell.lst (acc.map ivSt)])[S0.length]? = some (.lst (acc.map ivSt)) := by simp
      have es := read_step_ok (S := S0 ++ [.lst (acc.map ivSt)]) h3 (len_pos hr)
      have two : (2 : Nat) ≤ sizeLine := by rw [szl]; omega
      have hty := hasTy_a ec
      cases hp : stepP rest with
      | none =>
        have eb : pathB [some s, some k, some hd, some (.adr S0.length), some (.str rest), x] (S0 ++ [.lst (acc.map ivSt)]) = .ok (.rt .non) (S0 ++ [.lst (acc.map ivSt)]) := by
          unfold pathB
          rw [hp] at es
          simp [iVar_s, es, chk_pos, ivStep, isN]
        refine ⟨fun st he => ?_, fun _ => ⟨_, iWhile_r e eb⟩⟩
        unfold stepsP at he
        rw [if_neg hr, hp] at he
        cases he
      | some t =>
        obtain ⟨a, b, r⟩ := t
        have hlen := stepP_len hp
        by_cases h4 : acc.length = 3
        · have eb : pathB [some s, some k, some hd, some (.adr S0.length), some (.str rest), x] (S0 ++ [.lst (acc.map ivSt)]) = .ok (.rt .non) (S0 ++ [.lst (acc.map ivSt)]) := by
            unfold pathB
            rw [hp] at es
            simp [iVar_s, es, chk_pos, ivStep, isN, lenN_a ec, h4]
          refine ⟨fun st he => ?_, fun _ => ⟨_, iWhile_r e eb⟩⟩
          unfold stepsP at he
          rw [if_neg hr, hp] at he
          simp only [if_pos h4] at he
          cases he
        · have h5 : ¬ ((acc.length : Int) = 3) := by omega
          have h6 : (acc.map ivSt).length < sizeLine := by rw [List.length_map, szl]; omega
          have eb : pathB [some s, some k, some hd, some (.adr S0.length), some (.str rest), x] (S0 ++ [.lst (acc.map ivSt)]) = .ok (.nx [some s, some k, some hd, some (.adr S0.length), some (.str r), some (ivStep (some (a, b, r)))]) (S0 ++ [.lst ((acc ++ [(a, b)]).map ivSt)]) := by
            unfold pathB
            rw [hp] at es
            simp [iVar_s, es, chk_pos, ivStep, isN, lenN_a ec, h5, two, hty, app_s ec h6, ivSt]
          have ih := steps_while (S0 := S0) (s := s) (hd := hd) (k := k) n r (acc ++ [(a, b)]) (some (ivStep (some (a, b, r)))) (by simp; omega) (by simp; omega) (by omega)
          have hs : stepsP (n + 1) rest acc = stepsP n r (acc ++ [(a, b)]) := by
            show (if rest = "" then some acc else match stepP rest with
              | none => none
              | some (a, b, r) => if acc.length = 3 then none else stepsP n r (acc ++ [(a, b)])) = _
            rw [if_neg hr, hp]
            exact if_neg h4
          rw [hs]
          refine ⟨fun st he => ?_, fun he => ?_⟩
          · obtain ⟨x', e'⟩ := ih.1 st he
            exact ⟨x', iWhile_t e eb e' (by simp)⟩
          · obtain ⟨T, e'⟩ := ih.2 he
            exact ⟨T, iWhile_t e eb e' (by simp)⟩
theorem stepsP_len : ∀ (n : Nat) (rest : Str) (acc st : List (Str × Str)), acc.length ≤ 3 → stepsP n rest acc = some st → st.length ≤ 3
  | 0, _, _, _, _, h => by cases h
  | n + 1, rest, acc, st, h1, h => by
    unfold stepsP at h
    split at h
    · cases h; exact h1
    · split at h
      · cases h
      · split at h
        · cases h
        · exact stepsP_len n _ _ st (by simp; omega) h
theorem read_path_ok {S : Sto} {s : Str} (hs : s.length ≤ 1000000) : ∃ T, m_read_path [.str s] S = .ok (ivPath s (pathP s)) (S ++ T) := by
  unfold m_read_path
  have q0 : s.length ≤ sizeLine := by rw [szl]; omega
  have k1 : kitN "str" "str" = some true := by decide +kernel
  have three : (3 : Nat) ≤ sizeLine := by rw [szl]; omega
  have zero : (0 : Nat) ≤ sizeLine := Nat.zero_le _
  have eW := letters_while (s := s) (j := 1) (by decide) hs (S := S) (sg s) 0 [some (.str s), some (.int 0), none, none, none, none] rfl rfl rfl
  have eW' : iWhile (iAnd (iTest (iBin fLt (iVar 1) (iCa fLen (iCons (iVar 0) iNil)))) (iTest (iBin fIn (iBin fIx (iVar 0) (iVar 1)) (iC (.str c_LETTERS))))) (iAug 1 fAddI (iC (.int 1))) [some (.str s), some (.int 0), none, none, none, none] S = .ok (.nx [some (.str s), some (.int (lets (sg s) : Int)), none, none, none, none]) S := by
    have := eW
    rw [Nat.zero_add] at this
    exact this
  unfold pathP
  generalize (lets (sg s) : Int) = k at *
  have eF := fits_ok (S := S) (s := cutS s none (some k)) (Nat.le_trans (len_cut _ _ _) hs)
  have lr : (cutS s (some k) none).length ≤ 1000000 := Nat.le_trans (len_cut _ _ _) hs
  cases h3 : nameB (cutS s none (some k)) with
  | false =>
    rw [if_neg Bool.false_ne_true]
    refine ⟨[], mDef_rt ?_⟩
    unfold b_read_path
    simp [iVar_s, q0, chk_pos, k1, eW', eF, h3, ivPath]
  | true =>
    rw [if_pos rfl]
    obtain ⟨g1, g2⟩ := steps_while (S0 := S) (s := .str s) (hd := .str (cutS s none (some k))) (k := .int k) 5 (cutS s (some k) none) [] none (by simp) (by simp) lr
    cases h4 : stepsP 5 (cutS s (some k) none) [] with
    | none =>
      obtain ⟨T, e⟩ := g2 h4
      refine ⟨T, mDef_rt ?_⟩
      unfold pathT pathB at e
      unfold b_read_path
      simp [iVar_s, q0, chk_pos, k1, eW', eF, h3, ivPath]
      simp only [List.map_nil] at e
      rw [e]
      simp
    | some st =>
      obtain ⟨x', e⟩ := g1 st h4
      have hl := stepsP_len 5 _ _ st (by simp) h4
      refine ⟨[.lst (st.map ivSt)], mDef_rt ?_⟩
      have ec : (S ++ [Cell.lst (st.map ivSt)])[S.length]? = some (.lst (st.map ivSt)) := by simp
      have et : fTuple [.adr S.length] (S ++ [Cell.lst (st.map ivSt)]) = .ok (.tup (st.map ivSt)) (S ++ [Cell.lst (st.map ivSt)]) := by
        unfold fTuple lstX
        simp only [a1_1, ec]
        show mkT _ _ = _
        rw [mkT_e, chk_pos (by rw [List.length_map, szl]; omega)]
      unfold pathT pathB at e
      unfold b_read_path
      simp [iVar_s, q0, chk_pos, k1, eW', eF, h3, ivPath]
      simp only [List.map_nil] at e
      rw [e]
      simp [iVar_s, et, three, chk_pos]
end RD

set_option maxHeartbeats 2000000
/-! heads above, declarations -/
namespace RD
open PySem PySem.Spec PyProof.Rows L2 Sm
theorem valI_declV (x : Str) : ∀ l : List (Str × Nat), valI (declV l) (.inr x) = (l.lookup x).map fun k => .int k
  | [] => rfl
  | (n, k) :: l => by
    by_cases h : n = x
    · subst h
      simp [valI, declV, List.find?_cons, List.lookup]
    · have h' : (x == n) = false := by
        rw [beq_eq_false_iff_ne]; exact fun e => h e.symm
      have e1 : valI (declV ((n, k) :: l)) (.inr x) = valI (declV l) (.inr x) := by simp [valI, declV, List.find?_cons, h]
      rw [e1, valI_declV x l]
      simp [List.lookup, h']
theorem putK_new' (l : List (Str × Nat)) (x : Str) (k : Nat) (h : l.lookup x = none) : putK' (declV l) (.inr x) (.int k) = declV (l ++ [(x, k)]) := by
  have hv := valI_declV x l
  rw [h] at hv
  have : (declV l).any (fun kv => decide (kv.1 = .inr x)) = false := by
    rw [List.any_eq_false]
    intro p hp e
    have hp' : (declV l).find? (fun kv => decide (kv.1 = .inr x)) = none := by
      unfold valI at hv
      cases hf : (declV l).find? (fun kv => decide (kv.1 = .inr x)) with
      | none => rfl
      | some q => rw [hf] at hv; cases hv
    exact absurd e (by simpa using List.find?_eq_none.mp hp' p hp)
  unfold putK'
  rw [this, if_neg Bool.false_ne_true]
  simp [declV]
theorem lookup_mem {l : List (Str × Nat)} {x : Str} {k : Nat} (h : l.lookup x = some k) : (x, k) ∈ l := by
  induction l with
  | nil => cases h
  | cons p l ih =>
    obtain ⟨a, b⟩ := p
    unfold List.lookup at h
    cases hk : x == a with
    | true =>
      rw [hk] at h
      cases h
      rw [beq_iff_eq.mp hk]
      exact List.mem_cons_self
    | false =>
      rw [hk] at h
      exact List.mem_cons_of_mem _ (ih h)
theorem name_len {s : Str} (h : nameB s = true) : 1 ≤ s.length ∧ s.length ≤ 8 := by
  unfold nameB at h
  obtain ⟨h1, _⟩ := Bool.and_eq_true_iff.mp h
  obtain ⟨h2, _⟩ := Bool.and_eq_true_iff.mp h1
  exact of_decide_eq_true h2
section
variable {B : Sto} {r : Nat} {L : List Str} {S : Sto} {q : RQ}
theorem isN_path (s : Str) (o : Option (Str × List (Str × Str))) : isN (ivPath s o) = o.isNone := by
  cases o with
  | none => rfl
  | some p => rfl
theorem dget_s {n : Nat} {kvs : List (Key × IV)} {x : Str} {v : IV} (h : S[n]? = some (.dic kvs)) (e : valI kvs (.inr x) = some v) : fDGet (.adr n) (.str x) S = .ok v S := by
  unfold fDGet
  rw [onD_s h]
  show orBad (valI kvs (.inr x)) _ = _
  rw [e]
  rfl
theorem din_s {n : Nat} {kvs : List (Key × IV)} {x : Str} (h : S[n]? = some (.dic kvs)) : fDIn (.str x) (.adr n) S = .ok (.bl (valI kvs (.inr x)).isSome) S := by
  unfold fDIn
  rw [onD_s h]
  rfl
theorem dnotin_s {n : Nat} {kvs : List (Key × IV)} {x : Str} (h : S[n]? = some (.dic kvs)) : fDNotIn (.str x) (.adr n) S = .ok (.bl (!(valI kvs (.inr x)).isSome)) S := by
  unfold fDNotIn
  rw [onD_s h]
  rfl
/-- a head above the line -/
def aboveP (m : Mod) (s : Str) (line : Nat) : Option (Str × List (Str × Str)) := match pathP s with
  | some p => (match m.decl.lookup p.1 with
    | some k => if k < line then some p else none
    | none => none)
  | none => none
theorem path_above_ok (h : Rep B r L S q) {init : List Mod} {m : Mod} (hq : q.ms = init ++ [m]) {s : Str} {line : Nat} (hs : s.length ≤ 1000000) :
    (∀ p, aboveP m s line = some p → ∃ T, m_Reader_path_above [.adr r, .str s, .int line] S = .ok (ivPath s (some p)) (S ++ T)) ∧
    (aboveP m s line = none → Err B (m_Reader_path_above [.adr r, .str s, .int line] S) q.pos) := by
  have hm : m ∈ q.ms := by rw [hq]; simp
  obtain ⟨T, e1⟩ := read_path_ok (S := S) hs
  have h1 := h.app T
  unfold m_Reader_path_above b_Reader_path_above
  cases hp : pathP s with
  | none =>
    have ha : aboveP m s line = none := by unfold aboveP; rw [hp]
    refine ⟨fun p hp' => (by rw [ha] at hp'; cases hp'), fun _ => Err.mdef ?_⟩
    rw [hp] at e1
    have eN := mNeedF (mo := iVar 0) (me := iBin gNotN (iVar 3) (iC .non)) (Λ := [some (.adr r), some (.str s), some (.int line), some .non, none]) (S0 := S ++ T) (b := false) (S1 := S ++ T) (iVar_s rfl) h1 (by simp [iVar_s, isN]) h1 rfl
    simp [iVar_s, e1, chk_pos, ivPath]
    exact (eN.bind _).bind _
  | some p =>
    obtain ⟨hd, st⟩ := p
    rw [hp] at e1
    have eN := mNeed (mo := iVar 0) (me := iBin gNotN (iVar 3) (iC .non)) (Λ := [some (.adr r), some (.str s), some (.int line), some (ivPath s (some (hd, st))), none]) (S0 := S ++ T) (b := true) (S1 := S ++ T) (iVar_s rfl) h1 (by simp [iVar_s, isN_path]) rfl
    have eM := mMod (mo := iVar 0) (Λ := [some (.adr r), some (.str s), some (.int line), some (ivPath s (some (hd, st))), none]) (S0 := S ++ T) (iVar_s rfl) h1 hq
    have eD := get_decl h1 hm
    have hd' := (h1.ms m hm).d
    have ix1 : ∀ S', fIx (ivPath s (some (hd, st))) (.int 1) S' = .ok (.str hd) S' := fun S' => by simp [ivPath]
    cases hl : m.decl.lookup hd with
    | none =>
      have ha : aboveP m s line = none := by unfold aboveP; rw [hp]; simp only [hl]
      refine ⟨fun p hp' => (by rw [ha] at hp'; cases hp'), fun _ => Err.mdef ?_⟩
      have eI : fDIn (.str hd) (.adr m.d) (S ++ T) = .ok (.bl false) (S ++ T) := by rw [din_s hd', valI_declV, hl]; rfl
      have eN2 := mNeedF (mo := iVar 0) (me := iAndV (iBin fDIn (iBin fIx (iVar 3) (iC (.int 1))) (iVar 4)) (iBin fLt (iBin fDGet (iVar 4) (iBin fIx (iVar 3) (iC (.int 1)))) (iVar 2))) (Λ := [some (.adr r), some (.str s), some (.int line), some (ivPath s (some (hd, st))), some (.adr m.d)]) (S0 := S ++ T) (b := false) (S1 := S ++ T) (iVar_s rfl) h1 (by simp [iVar_s, ix1, eI]) h1 rfl
      simp only [List.map_cons, List.map_nil, List.length_cons, List.length_nil, List.replicate, List.cons_append, List.nil_append]
      simp [iVar_s, e1, chk_pos, eN, fld_declared h1, eM, eD]
      exact (eN2.bind _).bind _
    | some k =>
      have eI : fDIn (.str hd) (.adr m.d) (S ++ T) = .ok (.bl true) (S ++ T) := by rw [din_s hd', valI_declV, hl]; rfl
      have eG : fDGet (.adr m.d) (.str hd) (S ++ T) = .ok (.int k) (S ++ T) := dget_s hd' (by rw [valI_declV, hl]; rfl)
      by_cases hk : k < line
      · have ha : aboveP m s line = some (hd, st) := by unfold aboveP; rw [hp]; simp only [hl, if_pos hk]
        refine ⟨fun p hp' => ?_, fun hn => by rw [ha] at hn; cases hn⟩
        rw [ha] at hp'
        cases hp'
        refine ⟨T, mDef_rt ?_⟩
        have hk' : (k : Int) < (line : Int) := by omega
        have eN2 := mNeed (mo := iVar 0) (me := iAndV (iBin fDIn (iBin fIx (iVar 3) (iC (.int 1))) (iVar 4)) (iBin fLt (iBin fDGet (iVar 4) (iBin fIx (iVar 3) (iC (.int 1)))) (iVar 2))) (Λ := [some (.adr r), some (.str s), some (.int line), some (ivPath s (some (hd, st))), some (.adr m.d)]) (S0 := S ++ T) (b := true) (S1 := S ++ T) (iVar_s rfl) h1 (by simp [iVar_s, ix1, eI, eG, hk']) rfl
        simp [iVar_s, e1, chk_pos, eN, fld_declared h1, eM, eD, eN2]
      · have ha : aboveP m s line = none := by unfold aboveP; rw [hp]; simp only [hl, if_neg hk]
        refine ⟨fun p hp' => (by rw [ha] at hp'; cases hp'), fun _ => Err.mdef ?_⟩
        have hk' : ¬ (k : Int) < (line : Int) := by omega
        have eN2 := mNeedF (mo := iVar 0) (me := iAndV (iBin fDIn (iBin fIx (iVar 3) (iC (.int 1))) (iVar 4)) (iBin fLt (iBin fDGet (iVar 4) (iBin fIx (iVar 3) (iC (.int 1)))) (iVar 2))) (Λ := [some (.adr r), some (.str s), some (.int line), some (ivPath s (some (hd, st))), some (.adr m.d)]) (S0 := S ++ T) (b := false) (S1 := S ++ T) (iVar_s rfl) h1 (by simp [iVar_s, ix1, eI, eG, hk']) h1 rfl
        simp only [List.map_cons, List.map_nil, List.length_cons, List.length_nil, List.replicate, List.cons_append, List.nil_append]
        simp [iVar_s, e1, chk_pos, eN, fld_declared h1, eM, eD]
        exact (eN2.bind _).bind _
end
end RD

set_option maxHeartbeats 2000000
/-! declarations, rows -/
namespace RD
open PySem PySem.Spec PyProof.Rows L2 Sm
def lab (a b : Str) : Str := ((Str.empty ++ a) ++ ".") ++ b
def declQ (q : RQ) (init : List Mod) (m : Mod) (name : Str) : RQ := { q with ms := init ++ [{ m with decl := m.decl ++ [(name, q.pos)] }], places := putK' q.places (.inr (lab m.name name)) (.int q.pos) }
section
variable {B : Sto} {r : Nat} {L : List Str} {S : Sto} {q : RQ}
theorem dput_s {Λ : Slots} {md my mv : IE} {v : IV} {S1 S2 S3 : Sto} {n : Nat} {x : Str} {kvs : List (Key × IV)} (hv : mv Λ S = .ok v S1) (hd : md Λ S1 = .ok (.adr n) S2) (hy : my Λ S2 = .ok (.str x) S3) (h : S3[n]? = some (.dic kvs)) (hl : kvs.length < 1000000) :
    iDPut md my mv Λ S = .ok (.nx Λ) (S3.set n (.dic (putK' kvs (.inr x) v))) := by
  unfold iDPut
  rw [hv, Out.bind_ok, hd, Out.bind_ok, hy, Out.bind_ok, onDw_s h]
  show chk _ _ = _
  rw [chk_pos (by rw [szl]; omega)]
theorem joined3 {Λ : Slots} {m1 m2 m3 : IE} {a b c : Str} {S1 S2 S3 : Sto} (h1 : m1 Λ S = .ok (.str a) S1) (h2 : m2 Λ S1 = .ok (.str b) S2) (h3 : m3 Λ S2 = .ok (.str c) S3) (ha : a.length ≤ 1000000) (hb : b.length ≤ 1000000) (hc : c.length ≤ 1000000) :
    iJoined [m1, m2, m3] Λ S = .ok (.str (((Str.empty ++ a) ++ b) ++ c)) S3 := by
  have z : Str.empty.length = 0 := rfl
  unfold iJoined iJs
  rw [h1, Out.bind_ok, asS_s, chk_pos ⟨by rw [len_app, szl]; omega, by rw [szl]; omega⟩]
  unfold iJs
  rw [h2, Out.bind_ok, asS_s, chk_pos ⟨by rw [len_app, len_app, szl]; omega, by rw [szl]; omega⟩]
  unfold iJs
  rw [h3, Out.bind_ok, asS_s, chk_pos ⟨by rw [len_app, len_app, len_app, szl]; omega, by rw [szl]; omega⟩]
  rfl
theorem declare_ok (h : Rep B r L S q) {init : List Mod} {m : Mod} (hq : q.ms = init ++ [m]) {name : Str} (hs : name.length ≤ 1000000) (hp : q.pos < 1000000) (hl : m.decl.length < 1000000) (hl2 : q.places.length < 1000000) :
    (nameB name = true ∧ m.decl.lookup name = none → ∃ S', m_Reader_declare [.adr r, .str name] S = .ok .non S' ∧ Rep B r L S' (declQ q init m name) ∧ S'.length = S.length ∧ (∀ n c, S[n]? = some c → n ≠ m.d → n ≠ r + 4 → S'[n]? = some c)) ∧
    (¬ (nameB name = true ∧ m.decl.lookup name = none) → Err B (m_Reader_declare [.adr r, .str name] S) q.pos) := by
  have hm : m ∈ q.ms := by rw [hq]; simp
  have mr := h.ms m hm
  have eM := mMod (mo := iVar 0) (Λ := [some (.adr r), some (.str name), none]) (S0 := S) (iVar_s rfl) h hq
  have eD := get_decl h hm
  have eF := fits_ok (S := S) hs
  have eI : fDNotIn (.str name) (.adr m.d) S = .ok (.bl (m.decl.lookup name).isNone) S := by
    rw [dnotin_s mr.d, valI_declV]
    cases m.decl.lookup name <;> rfl
  have eC : iAndV (iCall 1 m_name_fits (iCons (iVar 1) iNil)) (iBin fDNotIn (iVar 1) (iVar 2)) [some (.adr r), some (.str name), some (.adr m.d)] S = .ok (.bl (decide (nameB name = true ∧ m.decl.lookup name = none))) S := by
    cases h1 : nameB name <;> cases h2 : m.decl.lookup name <;> simp [iVar_s, eF, chk_pos, h1, eI, h2]
  unfold m_Reader_declare b_Reader_declare
  refine ⟨fun hok => ?_, fun hno => Err.mdef ?_⟩
  · have eN := mNeed (mo := iVar 0) (Λ := [some (.adr r), some (.str name), some (.adr m.d)]) (S0 := S) (iVar_s rfl) h eC (decide_eq_true hok)
    have h1 : Rep B r L (S.set m.d (.dic (declV (m.decl ++ [(name, q.pos)])))) { q with ms := init ++ [{ m with decl := m.decl ++ [(name, q.pos)] }] } := h.decl' hq (by
      intro p hp'
      rcases List.mem_append.mp hp' with z | z
      · exact mr.db p z
      · have : p = (name, q.pos) := by simpa using z
        subst this
        exact hp)
    have e1 := dput_s (S := S) (S1 := S) (md := iVar 2) (my := iVar 1) (mv := iUn (fFld "Reader" "at") (iVar 0)) (Λ := [some (.adr r), some (.str name), some (.adr m.d)]) (v := .int q.pos) (by simp [iVar_s, fld_at h]) (iVar_s rfl) (iVar_s rfl) mr.d (by unfold declV; rw [List.length_map]; exact hl)
    rw [putK_new' _ _ _ hok.2] at e1
    have nl := name_len mr.nm
    have nl2 := name_len hok.1
    have eM1 : iMeth "Reader" "module" 1 m_Reader_module (iVar 0) iNil [some (.adr r), some (.str name), some (.adr m.d)] (S.set m.d (.dic (declV (m.decl ++ [(name, q.pos)])))) = .ok (.str m.name) (S.set m.d (.dic (declV (m.decl ++ [(name, q.pos)])))) :=
      mMod (mo := iVar 0) (Λ := [some (.adr r), some (.str name), some (.adr m.d)]) (S0 := S.set m.d (.dic (declV (m.decl ++ [(name, q.pos)])))) (iVar_s rfl) h1 (init := init) (m := { m with decl := m.decl ++ [(name, q.pos)] }) rfl
    have eJ := joined3 (m2 := iC (.str ".")) (m3 := iVar 1) (b := ".") (c := name) eM1 rfl (iVar_s rfl) (by omega) (by decide +kernel) (by omega)
    have e2 := dput_s (S := S.set m.d (.dic (declV (m.decl ++ [(name, q.pos)])))) (S1 := S.set m.d (.dic (declV (m.decl ++ [(name, q.pos)])))) (S2 := S.set m.d (.dic (declV (m.decl ++ [(name, q.pos)])))) (n := r + 4) (md := iUn (fFld "Reader" "places") (iVar 0)) (mv := iUn (fFld "Reader" "at") (iVar 0)) (v := .int q.pos) (by simp [iVar_s, fld_at h1]) (by simp [iVar_s, fld_places h1]) eJ h1.places hl2
    refine ⟨_, ?_, h1.places', by simp, fun n c hn n1 n2 => get_set (get_set hn (Ne.symm n1)) (Ne.symm n2)⟩
    rw [mDef_e]
    simp [iVar_s, fld_declared h, eM, eD]
    rw [eN]
    simp [e1]
    rw [e2]
    rfl
  · have eN := mNeedF (mo := iVar 0) (Λ := [some (.adr r), some (.str name), some (.adr m.d)]) (S0 := S) (iVar_s rfl) h eC h (decide_eq_false hno)
    simp [iVar_s, fld_declared h, eM, eD]
    exact (eN.bind _).bind _
/-- self.at += 1 -/
theorem aug_at (h : Rep B r L S q) {mo : IE} {Λ : Slots} {S0 : Sto} (ho : mo Λ S0 = .ok (.adr r) S) : iAugF "Reader" "at" mo (iC (.int 1)) Λ S0 = .ok (.nx Λ) (S.set r (.ins "Reader" (rFs r L (q.pos + 1) q.kept))) := by
  unfold iAugF
  rw [ho, Out.bind_ok, onI_s h.self]
  show orBad (some (IV.int q.pos)) _ = _
  rw [orBad_some, iC_e, Out.bind_ok, asI_i, asI_i, onI_s h.self, chk_pos (by simp [rFs])]
  rfl
end
end RD

set_option maxHeartbeats 4000000
/-! rows: module, outside -/
namespace RD
open PySem PySem.Spec PyProof.Rows L2 Sm
theorem inB_adr {S : Sto} {n : Nat} (s : Str) (zs : List Str) (h : S[n]? = some (.lst (zs.map IV.str))) : inB S (.str s) (.adr n) = some (decide (s ∈ zs)) := by
  unfold inB seqOf lstOf tupOf
  simp only [h]
  show ((scVs (zs.map IV.str)).map fun us => inV (.str s) us) = _
  rw [scVs_strs]
  show some (inV (.str s) (zs.map V.str)) = _
  rw [inV_strs]
theorem names_map (ms : List Mod) : (ms.map fun m => IV.str m.name) = (ms.map (·.name)).map IV.str := by rw [List.map_map]; rfl
section
variable {B : Sto} {r : Nat} {L : List Str} {S : Sto} {q : RQ}
def modQ (q : RQ) (n : Str) (a d : Nat) : RQ := { q with pos := q.pos + 1, ms := q.ms ++ [⟨n, a, d, [], []⟩], places := putK' q.places (.inr n) (.int q.pos) }
theorem putK_new2 (f : Mod → IV) (ms : List Mod) (n : Str) (v : IV) (h : n ∉ ms.map (·.name)) : putK' (ms.map fun m => ((.inr m.name, f m) : Key × IV)) (.inr n) v = (ms.map fun m => ((.inr m.name, f m) : Key × IV)) ++ [(.inr n, v)] := by
  have : ((ms.map fun m => ((.inr m.name, f m) : Key × IV)).any fun kv => decide (kv.1 = .inr n)) = false := by
    rw [List.any_eq_false]
    intro p hp e
    obtain ⟨m, hm, rfl⟩ := List.mem_map.mp hp
    exact h (List.mem_map.mpr ⟨m, hm, Sum.inr.inj (of_decide_eq_true e)⟩)
  unfold putK'
  rw [this, if_neg Bool.false_ne_true]
theorem mWords (h : Rep B r L S q) {mo : IE} {Λ : Slots} {S0 : Sto} (ho : mo Λ S0 = .ok (.adr r) S) {s : Str} (hs : L[q.pos]? = some s) (ok : LnOk s) (hL : L.length ≤ 1000000) : iMeth "Reader" "words" 1 m_Reader_words mo iNil Λ S0 = .ok (.lst ((wordsOf s).map .str)) S := by
  rw [meth_s ho h.self rfl]
  simp [words_t h hs ok hL, chk_pos]
theorem row_module (h : Rep B r L S q) {s n : Str} (hs : L[q.pos]? = some s) (ok : LnOk s) (hL : L.length ≤ 1000000) (hw : wordsOf s = [("module" : Str), n]) (hm : q.ms.length < 100000) (hp : q.places.length < 1000000) :
    (nameB n = true ∧ n ∉ q.ms.map (·.name) → ∃ S', m_Reader_read_row [.adr r] S = .ok .non S' ∧ Rep B r L S' (modQ q n S.length (S.length + 1)) ∧ S.length < S'.length) ∧
    (¬ (nameB n = true ∧ n ∉ q.ms.map (·.name)) → Err B (m_Reader_read_row [.adr r] S) q.pos) := by
  have eW := mWords (mo := iVar 0) (Λ := [some (.adr r), none]) (S0 := S) h (iVar_s rfl) hs ok hL
  rw [hw] at eW
  have nl : n.length ≤ 1000000 := (ok.ok n (by rw [hw]; simp)).1
  have eF := fits_ok (S := S) nl
  have hmods := h.mods
  rw [names_map] at hmods
  have eI := inB_adr n _ hmods
  have eC : iAndV (iBin fEq (iCa fLen (iCons (iVar 1) iNil)) (iC (.int 2))) (iAndV (iCall 1 m_name_fits (iCons (iBin fIx (iVar 1) (iC (.int 1))) iNil)) (iBin fNotIn (iBin fIx (iVar 1) (iC (.int 1))) (iUn (fFld "Reader" "modules") (iVar 0)))) [some (.adr r), some (.lst [.str "module", .str n])] S = .ok (.bl (decide (nameB n = true ∧ n ∉ q.ms.map (·.name)))) S := by
    cases h1 : nameB n <;> by_cases h2 : n ∈ q.ms.map (·.name) <;> simp [iVar_s, eF, chk_pos, h1, fld_modules h, eI, h2, -List.mem_map]
  unfold m_Reader_read_row
  refine ⟨fun hok => ?_, fun hno => Err.mdef ?_⟩
  · have eN := mNeed (mo := iVar 0) (Λ := [some (.adr r), some (.lst [.str "module", .str n])]) (S0 := S) (iVar_s rfl) h eC (decide_eq_true hok)
    have t0 := hasTy_a h.mods
    have e1 := app_s (v := .str n) h.mods (by rw [List.length_map, szl]; omega)
    -- the store, step by step
    generalize hS1 : S.set (r + 1) (.lst ((q.ms.map fun m => .str m.name) ++ [.str n])) = S1 at e1
    have lr := lt_of h.self
    have ll : S1.length = S.length := by rw [← hS1, List.length_set]
    have f1 : S1[r]? = some (.ins "Reader" (rFs r L q.pos q.kept)) := by rw [← hS1]; exact get_set h.self (by omega)
    have g1 : S1[r + 2]? = some (.dic (q.ms.map fun m => (.inr m.name, .adr m.a))) := by rw [← hS1]; exact get_set h.rows (by omega)
    have fl : ∀ {f : Str} {v : IV} {T : Sto}, T[r]? = some (.ins "Reader" (rFs r L q.pos q.kept)) → (rFs r L q.pos q.kept).lookup f = some v → fFld "Reader" f (.adr r) T = .ok v T := fun a b => fFld_s a b
    have lms : ∀ f : Mod → IV, (q.ms.map fun m => ((.inr m.name, f m) : Key × IV)).length < 1000000 := fun f => by rw [List.length_map]; omega
    have e2 := dput_s (S := S1) (S1 := S1 ++ [.lst []]) (S2 := S1 ++ [.lst []]) (S3 := S1 ++ [.lst []]) (n := r + 2) (x := n) (md := iUn (fFld "Reader" "rows") (iVar 0)) (my := iBin fIx (iVar 1) (iC (.int 1))) (mv := iLst true iNil) (v := .adr S1.length) (Λ := [some (.adr r), some (.lst [.str "module", .str n])]) (by simp [chk_pos]) (by simp [iVar_s, fl (get_app (T := [.lst []]) f1) (f := "rows") rfl]) (by simp [iVar_s]) (get_app g1) (lms _)
    rw [putK_new2 _ _ _ _ hok.2] at e2
    generalize hS2 : (S1 ++ [Cell.lst []]).set (r + 2) (.dic ((q.ms.map fun m => (.inr m.name, .adr m.a)) ++ [(.inr n, .adr S1.length)])) = S2 at e2
    have l2 : S2.length = S.length + 1 := by rw [← hS2, List.length_set, List.length_append, ll]; rfl
    have f2 : S2[r]? = some (.ins "Reader" (rFs r L q.pos q.kept)) := by rw [← hS2]; exact get_set (get_app f1) (by omega)
    have g2 : S2[r + 3]? = some (.dic (q.ms.map fun m => (.inr m.name, .adr m.d))) := by rw [← hS2, ← hS1]; exact get_set (get_app (get_set h.decl (by omega))) (by omega)
    have e3 := dput_s (S := S2) (S1 := S2 ++ [.dic []]) (S2 := S2 ++ [.dic []]) (S3 := S2 ++ [.dic []]) (n := r + 3) (x := n) (md := iUn (fFld "Reader" "declared") (iVar 0)) (my := iBin fIx (iVar 1) (iC (.int 1))) (mv := iDNew) (v := .adr S2.length) (Λ := [some (.adr r), some (.lst [.str "module", .str n])]) rfl (by simp [iVar_s, fl (get_app (T := [.dic []]) f2) (f := "declared") rfl]) (by simp [iVar_s]) (get_app g2) (lms _)
    rw [putK_new2 _ _ _ _ hok.2] at e3
    generalize hS3 : (S2 ++ [Cell.dic []]).set (r + 3) (.dic ((q.ms.map fun m => (.inr m.name, .adr m.d)) ++ [(.inr n, .adr S2.length)])) = S3 at e3
    have l3 : S3.length = S.length + 2 := by rw [← hS3, List.length_set, List.length_append, l2]; rfl
    have f3 : S3[r]? = some (.ins "Reader" (rFs r L q.pos q.kept)) := by rw [← hS3]; exact get_set (get_app f2) (by omega)
    have g3 : S3[r + 4]? = some (.dic q.places) := by rw [← hS3, ← hS2, ← hS1]; exact get_set (get_app (get_set (get_app (get_set h.places (by omega))) (by omega))) (by omega)
    have e4 := dput_s (S := S3) (S1 := S3) (S2 := S3) (S3 := S3) (n := r + 4) (x := n) (md := iUn (fFld "Reader" "places") (iVar 0)) (my := iBin fIx (iVar 1) (iC (.int 1))) (mv := iUn (fFld "Reader" "at") (iVar 0)) (v := .int q.pos) (Λ := [some (.adr r), some (.lst [.str "module", .str n])]) (by simp [iVar_s, fl f3 (f := "at") rfl]) (by simp [iVar_s, fl f3 (f := "places") rfl]) (by simp [iVar_s]) g3 hp
    -- what it represents
    have R4 : Rep B r L (S3.set (r + 4) (.dic (putK' q.places (.inr n) (.int q.pos)))) { q with ms := q.ms ++ [⟨n, S.length, S.length + 1, [], []⟩], places := putK' q.places (.inr n) (.int q.pos) } := by
      have low : ∀ m ∈ q.ms, m.a < S.length ∧ m.d < S.length := fun m hm => ⟨lt_of (h.ms m hm).a, lt_of (h.ms m hm).d⟩
      have hr5 := lt_of h.defs
      have hbl := h.bl
      refine ⟨by rw [← hS3, ← hS2, ← hS1]; exact bs (bs (ba (bs (ba (bs h.base (by omega))) (by omega))) (by omega)) (by omega), h.bl, get_set f3 (by omega), ?_, ?_, ?_, get_self g3, ?_, ?_, ?_, ?_, ?_⟩
      · refine get_set ?_ (by omega)
        rw [← hS3, ← hS2, ← hS1, List.map_append]
        exact get_set (get_app (get_set (get_app (get_self h.mods)) (by omega))) (by omega)
      · refine get_set ?_ (by omega)
        rw [← hS3, ← hS2, List.map_append, ll]
        exact get_set (get_app (get_self (get_app g1))) (by omega)
      · refine get_set ?_ (by omega)
        rw [← hS3, List.map_append, l2]
        exact get_self (get_app g2)
      · refine get_set ?_ (by omega)
        rw [← hS3, ← hS2, ← hS1]
        exact get_set (get_app (get_set (get_app (get_set h.defs (by omega))) (by omega))) (by omega)
      · intro m hm
        rcases List.mem_append.mp hm with hm | hm
        · have mr := h.ms m hm
          have la := mr.la
          have ld := mr.ld
          refine ⟨get_set ?_ (by omega), get_set ?_ (by omega), la, ld, mr.nm, mr.db⟩
          · rw [← hS3, ← hS2, ← hS1]
            exact get_set (get_app (get_set (get_app (get_set mr.a (by omega))) (by omega))) (by omega)
          · rw [← hS3, ← hS2, ← hS1]
            exact get_set (get_app (get_set (get_app (get_set mr.d (by omega))) (by omega))) (by omega)
        · have : m = ⟨n, S.length, S.length + 1, [], []⟩ := by simpa using hm
          subst this
          refine ⟨get_set ?_ (by show r + 4 ≠ S.length; omega), get_set ?_ (by show r + 4 ≠ S.length + 1; omega), hr5, by show r + 5 < S.length + 1; omega, hok.1, fun p hp => by cases hp⟩
          · rw [← hS3, ← hS2]
            refine get_set (get_app (get_set ?_ (by show r + 2 ≠ S.length; omega))) (by show r + 3 ≠ S.length; omega)
            show (S1 ++ [Cell.lst []])[S.length]? = some (.lst [])
            rw [← ll]; simp
          · rw [← hS3]
            refine get_set ?_ (by show r + 3 ≠ S.length + 1; omega)
            show (S2 ++ [Cell.dic []])[S.length + 1]? = some (.dic (declV []))
            rw [← l2]; simp [declV]
      · rw [List.map_append, List.nodup_append]
        refine ⟨h.na, by simp, fun a ha b hb => ?_⟩
        obtain ⟨m, hm, rfl⟩ := List.mem_map.mp ha
        have : b = S.length := by simpa using hb
        have := (low m hm).1
        omega
      · rw [List.map_append, List.nodup_append]
        refine ⟨h.nd, by simp, fun a ha b hb => ?_⟩
        obtain ⟨m, hm, rfl⟩ := List.mem_map.mp ha
        have : b = S.length + 1 := by simpa using hb
        have := (low m hm).2
        omega
      · rw [List.map_append, List.nodup_append]
        refine ⟨h.nn, by simp, fun a ha b hb => ?_⟩
        have : b = n := by simpa using hb
        subst this
        exact fun e => hok.2 (e ▸ ha)
    have e5 := aug_at (mo := iVar 0) (Λ := [some (.adr r), some (.lst [.str "module", .str n])]) R4 (iVar_s rfl)
    refine ⟨_, ?_, R4.self', by rw [List.length_set, List.length_set, l3]; omega⟩
    rw [mDef_e]
    unfold b_Reader_read_row
    simp [iVar_s, eW]
    rw [eN]
    simp [iVar_s, fl h.self (f := "modules") rfl, t0, chk_pos, e1, e2, e3, e4, e5]
  · have eN := mNeedF (mo := iVar 0) (Λ := [some (.adr r), some (.lst [.str "module", .str n])]) (S0 := S) (iVar_s rfl) h eC h (decide_eq_false hno)
    unfold b_Reader_read_row
    simp [iVar_s, eW]
    exact (((eN.bind _).bind _).bind _)
end
end RD

set_option maxHeartbeats 4000000
/-! rows: outside; the loop over the rows -/
namespace RD
open PySem PySem.Spec PyProof.Rows L2 Sm
theorem s_om : ¬ ("outside" : Str) = "module" := by decide +kernel
theorem s_dm : ¬ ("def" : Str) = "module" := by decide +kernel
theorem s_do : ¬ ("def" : Str) = "outside" := by decide +kernel
theorem s_di : ¬ ("def" : Str) = "\x69mport" := by decide +kernel
theorem s_df : ¬ ("def" : Str) = "from" := by decide +kernel
theorem s_dt : ¬ ("def" : Str) = "table" := by decide +kernel
theorem s_dc : ¬ ("def" : Str) = "class" := by decide +kernel
/-- the sizes that a reader's state keeps to -/
structure Small (q : RQ) : Prop where
  pos : q.pos < 1000000
  places : q.places.length < 1000000
  ms : q.ms.length < 100000
  rows : ∀ m ∈ q.ms, m.rows.length < 1000000
  decl : ∀ m ∈ q.ms, m.decl.length < 1000000
section
variable {B : Sto} {r : Nat} {L : List Str} {S : Sto} {q : RQ}
def keepQ (q : RQ) (init : List Mod) (m : Mod) (row : IV) : RQ := { q with ms := init ++ [{ m with rows := m.rows ++ [row] }] }
theorem mDeclare {mo : IE} {Λ : Slots} {S0 : Sto} (ho : mo Λ S0 = .ok (.adr r) S) (h : Rep B r L S q) (z : Small q) {init : List Mod} {m : Mod} (hq : q.ms = init ++ [m]) {name : Str} (hs : name.length ≤ 1000000) {me : IE} (e : me Λ S = .ok (.str name) S) :
    (nameB name = true ∧ m.decl.lookup name = none → ∃ S', iMeth "Reader" "declare" 2 m_Reader_declare mo (iCons me iNil) Λ S0 = .ok .non S' ∧ Rep B r L S' (declQ q init m name) ∧ S'.length = S.length ∧ (∀ n c, S[n]? = some c → n ≠ m.d → n ≠ r + 4 → S'[n]? = some c)) ∧
    (¬ (nameB name = true ∧ m.decl.lookup name = none) → Err B (iMeth "Reader" "declare" 2 m_Reader_declare mo (iCons me iNil) Λ S0) q.pos) := by
  have hm : m ∈ q.ms := by rw [hq]; simp
  obtain ⟨g1, g2⟩ := declare_ok h hq hs z.pos (z.decl m hm) z.places
  have e0 : iMeth "Reader" "declare" 2 m_Reader_declare mo (iCons me iNil) Λ S0 = relab Λ (m_Reader_declare [.adr r, .str name] S) := by
    rw [meth_s ho h.self rfl]
    simp [e, chk_pos]
  rw [e0]
  refine ⟨fun hok => ?_, fun hno => (g2 hno).relab _⟩
  obtain ⟨S', e1, e2⟩ := g1 hok
  exact ⟨S', by rw [e1]; rfl, e2⟩
theorem mKeep {mo : IE} {Λ : Slots} {S0 : Sto} (ho : mo Λ S0 = .ok (.adr r) S) (h : Rep B r L S q) {init : List Mod} {m : Mod} (hq : q.ms = init ++ [m]) (hl : m.rows.length < 1000000) {me : IE} {row : IV} (e : me Λ S = .ok row S) :
    iMeth "Reader" "keep_row" 2 m_Reader_keep_row mo (iCons me iNil) Λ S0 = .ok .non (S.set m.a (.lst (m.rows ++ [row]))) := by
  rw [meth_s ho h.self rfl]
  simp [e, chk_pos, keep_row_ok h hq hl row]
theorem need_ms {Λ : Slots} (h : Rep B r L S q) (h0 : Λ[0]? = some (some (.adr r))) : iBin fGt (iCa fLen (iCons (iUn (fFld "Reader" "modules") (iVar 0)) iNil)) (iC (.int 0)) Λ S = .ok (.bl (decide (0 < q.ms.length))) S := by
  simp [iVar_s h0, fld_modules h, lenN_a h.mods]
def outQ (q : RQ) (init : List Mod) (m : Mod) (n : Str) : RQ :=
  { q with pos := q.pos + 1, ms := init ++ [{ m with decl := m.decl ++ [(n, q.pos)], rows := m.rows ++ [.tup [.str "outside", .str n, .int q.pos]] }], places := putK' q.places (.inr (lab m.name n)) (.int q.pos) }
theorem row_outside (h : Rep B r L S q) (z : Small q) {s : Str} {ws : List Str} (hs : L[q.pos]? = some s) (ok : LnOk s) (hL : L.length ≤ 1000000) (hw : wordsOf s = ("outside" : Str) :: ws) {init : List Mod} {m : Mod} (hq : q.ms = init ++ [m]) :
    (∀ n, ws = [n] → nameB n = true ∧ m.decl.lookup n = none → ∃ S', m_Reader_read_row [.adr r] S = .ok .non S' ∧ Rep B r L S' (outQ q init m n) ∧ S'.length = S.length) ∧
    ((∀ n, ws = [n] → ¬ (nameB n = true ∧ m.decl.lookup n = none)) → Err B (m_Reader_read_row [.adr r] S) q.pos) := by
  have hm : m ∈ q.ms := by rw [hq]; simp
  have eW := mWords (mo := iVar 0) (Λ := [some (.adr r), none]) (S0 := S) h (iVar_s rfl) hs ok hL
  rw [hw] at eW
  have eN := mNeed (mo := iVar 0) (Λ := [some (.adr r), some (.lst (List.map IV.str (("outside" : Str) :: ws)))]) (S0 := S) (iVar_s rfl) h (need_ms h rfl) (decide_eq_true (by rw [hq]; simp))
  have eC : iBin fEq (iCa fLen (iCons (iVar 1) iNil)) (iC (.int 2)) [some (.adr r), some (.lst (List.map IV.str (("outside" : Str) :: ws)))] S = .ok (.bl (decide (ws.length = 1))) S := by
    simp [iVar_s]
    omega
  unfold m_Reader_read_row
  refine ⟨fun n hn hok => ?_, fun hno => Err.mdef ?_⟩
  · subst hn
    have nl : n.length ≤ 1000000 := (ok.ok n (by rw [hw]; simp)).1
    have eN2 := mNeed (mo := iVar 0) (Λ := [some (.adr r), some (.lst (List.map IV.str (("outside" : Str) :: [n])))]) (S0 := S) (iVar_s rfl) h eC (by simp)
    obtain ⟨S1, e1, R1, l1, _⟩ := (mDeclare (mo := iVar 0) (me := iBin fIx (iVar 1) (iC (.int 1))) (Λ := [some (.adr r), some (.lst (List.map IV.str (("outside" : Str) :: [n])))]) (S0 := S) (iVar_s rfl) h z hq nl (by simp [iVar_s])).1 hok
    have three : (3 : Nat) ≤ sizeLine := by rw [szl]; omega
    have e2 := mKeep (mo := iVar 0) (me := iTup (iCons (iC (.str "outside")) (iCons (iBin fIx (iVar 1) (iC (.int 1))) (iCons (iUn (fFld "Reader" "at") (iVar 0)) iNil)))) (Λ := [some (.adr r), some (.lst (List.map IV.str (("outside" : Str) :: [n])))]) (S0 := S1) (row := .tup [.str "outside", .str n, .int q.pos]) (iVar_s rfl) R1 (init := init) (m := { m with decl := m.decl ++ [(n, q.pos)] }) rfl (z.rows m hm)
      (by have := fld_at R1; simp [iVar_s, this, three, chk_pos, declQ])
    have R2 := R1.rows' (init := init) (m := { m with decl := m.decl ++ [(n, q.pos)] }) rfl (rows := m.rows ++ [.tup [.str "outside", .str n, .int q.pos]])
    have e3 := aug_at (mo := iVar 0) (Λ := [some (.adr r), some (.lst (List.map IV.str (("outside" : Str) :: [n])))]) R2 (iVar_s rfl)
    refine ⟨_, ?_, R2.self', by rw [List.length_set, List.length_set, l1]⟩
    rw [mDef_e]
    unfold b_Reader_read_row
    simp only [List.map_cons, List.map_nil] at eW eN eN2 e1 e2 e3
    simp [iVar_s, eW, s_om, eN, eN2, e1]
    rw [e2]
    simp only [Out.bind_ok, fSeq_nx]
    rw [e3]
    rfl
  · unfold b_Reader_read_row
    simp only [List.map_cons] at eW eN eC
    by_cases h1 : ws.length = 1
    · obtain ⟨n, rfl⟩ := List.length_eq_one_iff.mp h1
      have nl : n.length ≤ 1000000 := (ok.ok n (by rw [hw]; simp)).1
      have eN2 := mNeed (mo := iVar 0) (Λ := [some (.adr r), some (.lst (.str "outside" :: List.map IV.str [n]))]) (S0 := S) (iVar_s rfl) h eC (by simp)
      have e1 := (mDeclare (mo := iVar 0) (me := iBin fIx (iVar 1) (iC (.int 1))) (Λ := [some (.adr r), some (.lst (.str "outside" :: List.map IV.str [n]))]) (S0 := S) (iVar_s rfl) h z hq nl (by simp [iVar_s])).2 (hno n rfl)
      simp only [List.map_cons, List.map_nil] at eW eN eN2 e1
      simp [iVar_s, eW, s_om, eN, eN2]
      exact e1.bind _ |>.bind _
    · have eN2 := mNeedF (mo := iVar 0) (Λ := [some (.adr r), some (.lst (.str "outside" :: List.map IV.str ws))]) (S0 := S) (iVar_s rfl) h eC h (decide_eq_false h1)
      simp [iVar_s, eW, s_om, eN]
      exact eN2.bind _ |>.bind _
/-- a row ahead of every module -/
theorem row_none (h : Rep B r L S q) {s w : Str} {ws : List Str} (hs : L[q.pos]? = some s) (ok : LnOk s) (hL : L.length ≤ 1000000) (hw : wordsOf s = w :: ws) (hne : ¬ w = "module") (hq : q.ms = []) : Err B (m_Reader_read_row [.adr r] S) q.pos := by
  have eW := mWords (mo := iVar 0) (Λ := [some (.adr r), none]) (S0 := S) h (iVar_s rfl) hs ok hL
  rw [hw] at eW
  have eN := mNeedF (mo := iVar 0) (Λ := [some (.adr r), some (.lst (List.map IV.str (w :: ws)))]) (S0 := S) (iVar_s rfl) h (need_ms h rfl) h (by rw [hq]; rfl)
  unfold m_Reader_read_row
  refine Err.mdef ?_
  unfold b_Reader_read_row
  simp only [List.map_cons] at eW eN
  simp [iVar_s, eW, hne]
  exact eN.bind _ |>.bind _
/-! ### the rows, one after another -/
def loopT : IT := iTest (iBin fLt (iUn (fFld "Reader" "at") (iVar 0)) (iCa fLen (iCons (iUn (fFld "Reader" "lines") (iVar 0)) iNil)))
noncomputable def loopB : IS := iDrop (iMeth "Reader" "read_row" 1 m_Reader_read_row (iVar 0) iNil)
theorem loopT_e (h : Rep B r L S q) : loopT [some (.adr r)] S = .ok (decide (q.pos < L.length)) S := by
  unfold loopT
  simp [iVar_s, fld_at h, fld_lines h]
theorem loop_end (h : Rep B r L S q) (hp : L.length ≤ q.pos) : iWhile loopT loopB [some (.adr r)] S = .ok (.nx [some (.adr r)]) S :=
  iWhile_f (by rw [loopT_e h, decide_eq_false (by omega)])
theorem loop_row (h : Rep B r L S q) (hp : q.pos < L.length) {S' : Sto} (e : m_Reader_read_row [.adr r] S = .ok .non S') {o : Out Fl} (hl : iWhile loopT loopB [some (.adr r)] S' = o) (hn : o ≠ .bad) : iWhile loopT loopB [some (.adr r)] S = o := by
  refine iWhile_t (S1 := S) (by rw [loopT_e h, decide_eq_true hp]) ?_ hl hn
  unfold loopB
  rw [iDrop_e, meth_s (iVar_s rfl) h.self rfl]
  simp [e, chk_pos]
theorem loop_err (h : Rep B r L S q) (hp : q.pos < L.length) {k : Int} (e : Err B (m_Reader_read_row [.adr r] S) k) : Err B (iWhile loopT loopB [some (.adr r)] S) k := by
  refine iWhile_e (S1 := S) (by rw [loopT_e h, decide_eq_true hp]) ?_
  unfold loopB
  rw [iDrop_e, meth_s (iVar_s rfl) h.self rfl]
  simp only [iNil_e, Out.bind_ok]
  rw [chk_pos (by rfl)]
  exact (e.relab _).bind _
end
end RD

set_option maxHeartbeats 4000000
/-! bodies -/
namespace RD
open PySem PySem.Spec PyProof.Rows L2 Sm
structure Blk where
  kind : Str
  start : Nat
  a : Nat
  starts : List Nat
def ivBlk (k : Blk) : IV := .tup [.str k.kind, .int k.start, .adr k.a]
structure BQ where
  hid : Option Str
  line : Nat
  body : List IV
  blocks : List Blk
def ivHid : Option Str → IV
  | none => .non
  | some s => .str s
def bFs (b r : Nat) (p : BQ) : List (Str × IV) := [("reader", .adr r), ("hidden", ivHid p.hid), ("line", .int p.line), ("body", .adr (b + 1)), ("blocks", .adr (b + 2))]
structure RepB (b r : Nat) (S : Sto) (q : RQ) (p : BQ) : Prop where
  self : S[b]? = some (.ins "BodyReader" (bFs b r p))
  body : S[b + 1]? = some (.lst p.body)
  blocks : S[b + 2]? = some (.lst (p.blocks.map ivBlk))
  lo : r + 5 < b
  ms : ∀ m ∈ q.ms, m.a < b ∧ m.d < b
  st : ∀ k ∈ p.blocks, S[k.a]? = some (.lst (k.starts.map fun i => .int (i : Nat))) ∧ b + 2 < k.a
  nd : (p.blocks.map (·.a)).Nodup
section
variable {B : Sto} {b r : Nat} {L : List Str} {S : Sto} {q : RQ} {p : BQ}
theorem RepB.app (h : RepB b r S q p) (T : Sto) : RepB b r (S ++ T) q p := ⟨get_app h.self, get_app h.body, get_app h.blocks, h.lo, h.ms, fun k hk => ⟨get_app (h.st k hk).1, (h.st k hk).2⟩, h.nd⟩
/-- the reader's own cells are changed -/
theorem RepB.low (h : RepB b r S q p) {n : Nat} {c : Cell} (hn : n < b) : RepB b r (S.set n c) q p :=
  ⟨get_set h.self (by omega), get_set h.body (by omega), get_set h.blocks (by omega), h.lo, h.ms, fun k hk => ⟨get_set (h.st k hk).1 (by have := (h.st k hk).2; omega), (h.st k hk).2⟩, h.nd⟩
theorem RepB.q' (h : RepB b r S q p) {q2 : RQ} (e : q2.ms = q.ms) : RepB b r S q2 p := ⟨h.self, h.body, h.blocks, h.lo, e ▸ h.ms, h.st, h.nd⟩
theorem RepB.hi (h : RepB b r S q p) (hr : Rep B r L S q) {n : Nat} {c : Cell} (hn : b ≤ n) : Rep B r L (S.set n c) q := hr.other (by have := h.lo; omega) fun m hm => by have := h.ms m hm; omega
theorem RepB.body' (h : RepB b r S q p) {body : List IV} : RepB b r (S.set (b + 1) (.lst body)) q { p with body := body } :=
  ⟨get_set h.self (by omega), get_self h.body, get_set h.blocks (by omega), h.lo, h.ms, fun k hk => ⟨get_set (h.st k hk).1 (by have := (h.st k hk).2; omega), (h.st k hk).2⟩, h.nd⟩
theorem bfl_reader (h : RepB b r S q p) : fFld "BodyReader" "reader" (.adr b) S = .ok (.adr r) S := fFld_s h.self rfl
theorem bfl_hidden (h : RepB b r S q p) : fFld "BodyReader" "hidden" (.adr b) S = .ok (ivHid p.hid) S := fFld_s h.self rfl
theorem bfl_line (h : RepB b r S q p) : fFld "BodyReader" "line" (.adr b) S = .ok (.int p.line) S := fFld_s h.self rfl
theorem bfl_body (h : RepB b r S q p) : fFld "BodyReader" "body" (.adr b) S = .ok (.adr (b + 1)) S := fFld_s h.self rfl
theorem bfl_blocks (h : RepB b r S q p) : fFld "BodyReader" "blocks" (.adr b) S = .ok (.adr (b + 2)) S := fFld_s h.self rfl
/-- a head in a body, no module named -/
def headP (m : Mod) (hid : Option Str) (s : Str) (line : Nat) (may : Bool) : Option (Str × List (Str × Str)) := match pathP s with
  | none => none
  | some pt => if some pt.1 = hid then (if may = true then some pt else none) else aboveP m s line
theorem shaped_s {x : Str} (h : okS x) : SeqAt.shaped (.str x) = true := by
  unfold SeqAt.shaped
  rw [PyData.canLay0, PyData.depth, okS_b h]
  rfl
theorem shaped_n : SeqAt.shaped .none = true := by
  unfold SeqAt.shaped
  rw [PyData.canLay0, PyData.depth]
  rfl
theorem eqB_sn (S : Sto) {x : Str} (h : okS x) : eqB S (.str x) .non = some false := by
  show (match view 8 S (.str x), view 8 S .non with
    | some d, some e => if SeqAt.shaped d = true ∧ SeqAt.shaped e = true then some (PyData.eqv d e) else none
    | _, _ => none) = _
  rw [show view 8 S (.str x) = some (.str x) from rfl, show view 8 S .non = some .none from rfl]
  show (if SeqAt.shaped (.str x) = true ∧ SeqAt.shaped .none = true then some (PyData.eqv (.str x) .none) else none) = _
  rw [if_pos ⟨shaped_s h, shaped_n⟩, PyData.eqv]
theorem okS_name {s : Str} (h : nameB s = true) : okS s := fun c hc => by
  unfold nameB at h
  obtain ⟨h1, _⟩ := Bool.and_eq_true_iff.mp h
  obtain ⟨_, h2⟩ := Bool.and_eq_true_iff.mp h1
  exact alpha_ok c (abc_iff.mp h2 c hc)
theorem pathP_name {s hd : Str} {st : List (Str × Str)} (h : pathP s = some (hd, st)) : nameB hd = true := by
  unfold pathP at h
  split at h
  · rename_i hn
    obtain ⟨st', _, e⟩ := Option.map_eq_some_iff.mp h
    cases e
    exact hn
  · cases h
theorem eqB_hid (S : Sto) {x : Str} (hx : okS x) (hid : Option Str) : eqB S (.str x) (ivHid hid) = some (decide (some x = hid)) := by
  cases hid with
  | none =>
    rw [ivHid, eqB_sn S hx]
    rfl
  | some y =>
    rw [ivHid, eqB_s]
    by_cases h : x = y <;> simp [h]
theorem mPath {mo : IE} {Λ : Slots} {S0 : Sto} (ho : mo Λ S0 = .ok (.adr r) S) (h : Rep B r L S q) {init : List Mod} {m : Mod} (hq : q.ms = init ++ [m]) {s : Str} {line : Nat} (hs : s.length ≤ 1000000) {m1 m2 : IE} (e1 : m1 Λ S = .ok (.str s) S) (e2 : m2 Λ S = .ok (.int line) S) :
    (∀ p, aboveP m s line = some p → ∃ T, iMeth "Reader" "path_above" 3 m_Reader_path_above mo (iCons m1 (iCons m2 iNil)) Λ S0 = .ok (ivPath s (some p)) (S ++ T)) ∧
    (aboveP m s line = none → Err B (iMeth "Reader" "path_above" 3 m_Reader_path_above mo (iCons m1 (iCons m2 iNil)) Λ S0) q.pos) := by
  obtain ⟨g1, g2⟩ := path_above_ok h hq (line := line) hs
  have e0 : iMeth "Reader" "path_above" 3 m_Reader_path_above mo (iCons m1 (iCons m2 iNil)) Λ S0 = relab Λ (m_Reader_path_above [.adr r, .str s, .int line] S) := by
    rw [meth_s ho h.self rfl]
    simp [e1, e2, chk_pos]
  rw [e0]
  refine ⟨fun p hp => ?_, fun hn => (g2 hn).relab _⟩
  obtain ⟨T, e⟩ := g1 p hp
  exact ⟨T, by rw [e]; rfl⟩
theorem read_head_ok (hB : RepB b r S q p) (h : Rep B r L S q) {init : List Mod} {m : Mod} (hq : q.ms = init ++ [m]) {s : Str} {line : Nat} {may : Bool} (hs : s.length ≤ 1000000) :
    (∀ pt, headP m p.hid s line may = some pt → ∃ T, m_BodyReader_read_head [.adr b, .str s, .non, .int line, .bl may] S = .ok (ivPath s (some pt)) (S ++ T)) ∧
    (headP m p.hid s line may = none → Err B (m_BodyReader_read_head [.adr b, .str s, .non, .int line, .bl may] S) q.pos) := by
  obtain ⟨T, e1⟩ := read_path_ok (S := S) hs
  have h1 := h.app T
  have hB1 := hB.app T
  unfold m_BodyReader_read_head
  cases hp : pathP s with
  | none =>
    have ha : headP m p.hid s line may = none := by unfold headP; rw [hp]
    refine ⟨fun pt hp' => (by rw [ha] at hp'; cases hp'), fun _ => Err.mdef ?_⟩
    rw [hp] at e1
    have eN := mNeedF (mo := iVar 5) (me := iBin gNotN (iVar 6) (iC .non)) (Λ := [some (.adr b), some (.str s), some .non, some (.int line), some (.bl may), some (.adr r), some .non]) (S0 := S ++ T) (b := false) (S1 := S ++ T) (iVar_s rfl) h1 (by simp [iVar_s, isN]) h1 rfl
    unfold b_BodyReader_read_head
    simp [iVar_s, bfl_reader hB, e1, chk_pos, ivPath]
    exact (eN.bind _).bind _
  | some pt =>
    obtain ⟨hd, st⟩ := pt
    rw [hp] at e1
    have eN := mNeed (mo := iVar 5) (me := iBin gNotN (iVar 6) (iC .non)) (Λ := [some (.adr b), some (.str s), some .non, some (.int line), some (.bl may), some (.adr r), some (ivPath s (some (hd, st)))]) (S0 := S ++ T) (b := true) (S1 := S ++ T) (iVar_s rfl) h1 (by simp [iVar_s, isN_path]) rfl
    have ix1 : ∀ S', fIx (ivPath s (some (hd, st))) (.int 1) S' = .ok (.str hd) S' := fun S' => by simp [ivPath]
    by_cases hh : some hd = p.hid
    · have eQ : eqB (S ++ T) (.str hd) (ivHid p.hid) = some true := by rw [eqB_hid _ (okS_name (pathP_name hp)), decide_eq_true hh]
      cases may with
      | true =>
        have ha : headP m p.hid s line true = some (hd, st) := by unfold headP; rw [hp]; simp [hh]
        refine ⟨fun pt hp' => ?_, fun hn => (by rw [ha] at hn; cases hn)⟩
        rw [ha] at hp'
        cases hp'
        have eN2 := mNeed (mo := iVar 5) (me := iVar 4) (Λ := [some (.adr b), some (.str s), some .non, some (.int line), some (.bl true), some (.adr r), some (ivPath s (some (hd, st)))]) (S0 := S ++ T) (b := true) (S1 := S ++ T) (iVar_s rfl) h1 (iVar_s rfl) rfl
        refine ⟨T, mDef_rt ?_⟩
        unfold b_BodyReader_read_head
        simp [iVar_s, bfl_reader hB, bfl_hidden hB1, e1, chk_pos, eN, isN, ix1, eQ, eN2]
      | false =>
        have ha : headP m p.hid s line false = none := by unfold headP; rw [hp]; simp [hh]
        refine ⟨fun pt hp' => (by rw [ha] at hp'; cases hp'), fun _ => Err.mdef ?_⟩
        have eN2 := mNeedF (mo := iVar 5) (me := iVar 4) (Λ := [some (.adr b), some (.str s), some .non, some (.int line), some (.bl false), some (.adr r), some (ivPath s (some (hd, st)))]) (S0 := S ++ T) (b := false) (S1 := S ++ T) (iVar_s rfl) h1 (iVar_s rfl) h1 rfl
        unfold b_BodyReader_read_head
        simp [iVar_s, bfl_reader hB, bfl_hidden hB1, e1, chk_pos, eN, isN, ix1, eQ]
        exact ((eN2.bind _).bind _).bind _
    · have eQ : eqB (S ++ T) (.str hd) (ivHid p.hid) = some false := by rw [eqB_hid _ (okS_name (pathP_name hp)), decide_eq_false hh]
      have ha : headP m p.hid s line may = aboveP m s line := by unfold headP; rw [hp]; simp [hh]
      rw [ha]
      obtain ⟨g1, g2⟩ := mPath (mo := iVar 5) (m1 := iVar 1) (m2 := iVar 3) (Λ := [some (.adr b), some (.str s), some .non, some (.int line), some (.bl may), some (.adr r), some (ivPath s (some (hd, st)))]) (S0 := S ++ T) (iVar_s rfl) h1 hq hs (line := line) (iVar_s rfl) (iVar_s rfl)
      refine ⟨fun pt hp' => ?_, fun hn => Err.mdef ?_⟩
      · obtain ⟨T2, e2⟩ := g1 pt hp'
        refine ⟨T ++ T2, mDef_rt ?_⟩
        unfold b_BodyReader_read_head
        simp [iVar_s, bfl_reader hB, bfl_hidden hB1, e1, chk_pos, eN, isN, ix1, eQ, e2]
      · have e2 := g2 hn
        unfold b_BodyReader_read_head
        simp [iVar_s, bfl_reader hB, bfl_hidden hB1, e1, chk_pos, eN, isN, ix1, eQ]
        exact (e2.bind _)
end
end RD

set_option maxHeartbeats 4000000
/-! bodies: call rows, the walk over a body -/
namespace RD
open PySem PySem.Spec PyProof.Rows L2 Sm
def okWs (ws : List Str) : Prop := (∀ w ∈ ws, w.length ≤ 1000000 ∧ okS w) ∧ ws.length ≤ 1000000
theorem okWs_of {s : Str} (h : LnOk s) : okWs (wordsOf s) := ⟨h.ok, h.cnt⟩
theorem ok_end : ∀ z ∈ [("end" : Str)], okS z := by
  intro z hz
  have : z = "end" := by simpa using hz
  subst this
  have h : (sg ("end" : Str)).all (fun c => decide (c < 1114112)) = true := by decide +kernel
  intro c hc
  exact of_decide_eq_true (List.all_eq_true.mp h c hc)
section
variable {B : Sto} {b r : Nat} {L : List Str} {S : Sto} {q : RQ} {p : BQ}
def callRow (x : Str) (pt : Str × List (Str × Str)) : IV := .tup [.str "call", .non, ivPath x (some pt)]
theorem act_call (hB : RepB b r S q p) (h : Rep B r L S q) {init : List Mod} {m : Mod} (hq : q.ms = init ++ [m]) (hl : p.body.length < 1000000) {ws : List Str} (hw : okWs (("call" : Str) :: ws)) :
    (∀ x pt, ws = [x] → headP m p.hid x p.line true = some pt → ∃ S', m_BodyReader_read_act [.adr b, .lst ((("call" : Str) :: ws).map .str), .non] S = .ok .non S' ∧ Rep B r L S' q ∧ RepB b r S' q { p with body := p.body ++ [callRow x pt] }) ∧
    ((∀ x, ws = [x] → headP m p.hid x p.line true = none) → Err B (m_BodyReader_read_act [.adr b, .lst ((("call" : Str) :: ws).map .str), .non] S) q.pos) := by
  have eC : ∀ Λ : Slots, Λ[1]? = some (some (.lst ((("call" : Str) :: ws).map .str))) → iBin fEq (iCa fLen (iCons (iVar 1) iNil)) (iC (.int 2)) Λ S = .ok (.bl (decide (ws.length = 1))) S := fun Λ hΛ => by
    simp [iVar_s hΛ]
    omega
  have tB := hasTy_a hB.body
  unfold m_BodyReader_read_act
  by_cases h1 : ws.length = 1
  · obtain ⟨x, rfl⟩ := List.length_eq_one_iff.mp h1
    have xl : x.length ≤ 1000000 := (hw.1 x (by simp)).1
    have eN := mNeed (mo := iVar 3) (Λ := [some (.adr b), some (.lst ((("call" : Str) :: [x]).map .str)), some .non, some (.adr r), none, none, none]) (S0 := S) (iVar_s rfl) h (eC _ rfl) (decide_eq_true h1)
    obtain ⟨g1, g2⟩ := read_head_ok hB h hq (line := p.line) (may := true) xl
    have e0 : iMeth "BodyReader" "read_head" 5 m_BodyReader_read_head (iVar 0) (iCons (iBin fIx (iVar 1) (iC (.int 1))) (iCons (iVar 2) (iCons (iUn (fFld "BodyReader" "line") (iVar 0)) (iCons (iC (.bl true)) iNil)))) [some (.adr b), some (.lst ((("call" : Str) :: [x]).map .str)), some .non, some (.adr r), none, none, none] S =
        relab [some (.adr b), some (.lst ((("call" : Str) :: [x]).map .str)), some .non, some (.adr r), none, none, none] (m_BodyReader_read_head [.adr b, .str x, .non, .int p.line, .bl true] S) := by
      rw [meth_s (iVar_s rfl) hB.self rfl]
      simp [iVar_s, bfl_line hB, chk_pos]
    simp only [List.map_cons, List.map_nil] at eN e0
    refine ⟨fun x' pt hx hp => ?_, fun hno => Err.mdef ?_⟩
    · cases hx
      obtain ⟨T, e1⟩ := g1 pt hp
      rw [e1] at e0
      have three : (3 : Nat) ≤ sizeLine := by rw [szl]; omega
      have e2 := app_s (v := callRow x pt) (hB.app T).body (by rw [szl]; omega)
      refine ⟨_, ?_, ?_, (hB.app T).body' (body := p.body ++ [callRow x pt])⟩
      · refine mDef_rt ?_
        unfold b_BodyReader_read_act
        simp [iVar_s, bfl_reader hB, bfl_body hB, eN, tB, chk_pos, e0, three]
        have e3 := e2
        unfold callRow at e3
        rw [e3]
        rfl
      · exact (hB.app T).hi (h.app T) (by omega)
    · have e1 := g2 (hno x rfl)
      have e1' := e1.relab [some (.adr b), some (.lst ((("call" : Str) :: [x]).map .str)), some .non, some (.adr r), none, none, none]
      simp only [List.map_cons, List.map_nil] at e1'
      rw [← e0] at e1'
      unfold b_BodyReader_read_act
      simp [iVar_s, bfl_reader hB, bfl_body hB, eN, tB, chk_pos]
      repeat (first | exact e1' | refine Err.bind ?_ _)
  · have eN := mNeedF (mo := iVar 3) (Λ := [some (.adr b), some (.lst ((("call" : Str) :: ws).map .str)), some .non, some (.adr r), none, none, none]) (S0 := S) (iVar_s rfl) h (eC _ rfl) h (decide_eq_false h1)
    simp only [List.map_cons, List.map_nil] at eN
    refine ⟨fun x' pt hx hp => absurd (by rw [hx]; rfl) h1, fun hno => Err.mdef ?_⟩
    unfold b_BodyReader_read_act
    simp [iVar_s, bfl_reader hB]
    repeat (first | exact eN | refine Err.bind ?_ _)
theorem s_ci : ¬ ("call" : Str) = "\x69mport" := by decide +kernel
theorem s_cf : ¬ ("call" : Str) = "from" := by decide +kernel
theorem s_ce : ¬ ("call" : Str) = "either" := by decide +kernel
theorem s_co : ¬ ("call" : Str) = "often" := by decide +kernel
theorem s_cr : ¬ ("call" : Str) = "or" := by decide +kernel
theorem s_cn : ¬ ("call" : Str) = "end" := by decide +kernel
theorem okS_lit (x : Str) (h : (sg x).all (fun c => decide (c < 1114112)) = true) : ∀ z ∈ [x], okS z := by
  intro z hz
  have : z = x := by simpa using hz
  subst this
  intro c hc
  exact of_decide_eq_true (List.all_eq_true.mp h c hc)
theorem ne_lit {ws : List Str} (hw : okWs ws) (x : Str) (h : (sg x).all (fun c => decide (c < 1114112)) = true) (S : Sto) : eqB S (.lst (ws.map .str)) (.lst [.str x]) = some (decide (ws = [x])) :=
  eqB_strs (ys := [x]) (fun z hz => (hw.1 z hz).2) (okS_lit x h)
theorem brow_call (hB : RepB b r S q p) (h : Rep B r L S q) {init : List Mod} {m : Mod} (hq : q.ms = init ++ [m]) (hl : p.body.length < 1000000) {ws : List Str} (hw : okWs (("call" : Str) :: ws)) :
    (∀ x pt, ws = [x] → headP m p.hid x p.line true = some pt → ∃ S', m_BodyReader_read_row [.adr b, .lst ((("call" : Str) :: ws).map .str)] S = .ok .non S' ∧ Rep B r L S' q ∧ RepB b r S' q { p with body := p.body ++ [callRow x pt] }) ∧
    ((∀ x, ws = [x] → headP m p.hid x p.line true = none) → Err B (m_BodyReader_read_row [.adr b, .lst ((("call" : Str) :: ws).map .str)] S) q.pos) := by
  obtain ⟨g1, g2⟩ := act_call hB h hq hl hw
  have one : (1 : Nat) ≤ sizeLine := by rw [szl]; omega
  have n1 := ne_lit hw "either" (by decide +kernel) S
  have n2 := ne_lit hw "often" (by decide +kernel) S
  have n3 := ne_lit hw "or" (by decide +kernel) S
  have n4 := ne_lit hw "end" (by decide +kernel) S
  have e0 : iMeth "BodyReader" "read_act" 3 m_BodyReader_read_act (iVar 0) (iCons (iVar 1) (iCons (iC .non) iNil)) [some (.adr b), some (.lst ((("call" : Str) :: ws).map .str)), some (.adr r)] S =
      relab [some (.adr b), some (.lst ((("call" : Str) :: ws).map .str)), some (.adr r)] (m_BodyReader_read_act [.adr b, .lst ((("call" : Str) :: ws).map .str), .non] S) := by
    rw [meth_s (iVar_s rfl) hB.self rfl]
    simp [iVar_s, chk_pos]
  simp only [List.map_cons] at n1 n2 n3 n4 e0 g1 g2
  unfold m_BodyReader_read_row
  refine ⟨fun x pt hx hp => ?_, fun hno => Err.mdef ?_⟩
  · obtain ⟨S', e1, e2⟩ := g1 x pt hx hp
    refine ⟨S', ?_, e2⟩
    rw [e1] at e0
    rw [mDef_e]
    unfold b_BodyReader_read_row
    simp [iVar_s, bfl_reader hB, one, chk_pos, n1, n2, n3, n4, s_ci, s_cf, s_ce, s_co, s_cr, s_cn, e0]
  · have e1 := (g2 hno).relab [some (.adr b), some (.lst ((("call" : Str) :: ws).map .str)), some (.adr r)]
    simp only [List.map_cons] at e1
    rw [← e0] at e1
    unfold b_BodyReader_read_row
    simp [iVar_s, bfl_reader hB, one, chk_pos, n1, n2, n3, n4, s_ci, s_cf, s_ce, s_co, s_cr, s_cn]
    repeat (first | exact e1 | refine Err.bind ?_ _)
end
end RD

set_option maxHeartbeats 4000000
/-! the walk over a body -/
namespace RD
open PySem PySem.Spec PyProof.Rows L2 Sm
noncomputable def bT : IT := iOr (iTest (iBin fNe (iVar 2) (iLst false (iCons (iC (.str "end")) iNil)))) (iTru (iUn (fFld "BodyReader" "blocks") (iVar 0)))
noncomputable def bB : IS := iSeq (iDrop (iMeth "BodyReader" "read_row" 2 m_BodyReader_read_row (iVar 0) (iCons (iVar 2) iNil))) (iSeq (iAugF "Reader" "at" (iVar 1) (iC (.int 1))) (iSet 2 (iMeth "Reader" "words" 1 m_Reader_words (iVar 1) iNil)))
section
variable {B : Sto} {b r : Nat} {L : List Str} {S : Sto} {q : RQ} {p : BQ}
def posQ (q : RQ) : RQ := { q with pos := q.pos + 1 }
def posS (r : Nat) (L : List Str) (q : RQ) (S : Sto) : Sto := S.set r (.ins "Reader" (rFs r L (q.pos + 1) q.kept))
theorem Rep.pos' (h : Rep B r L S q) : Rep B r L (posS r L q S) (posQ q) := h.self'
theorem RepB.pos' (hB : RepB b r S q p) (h : Rep B r L S q) : RepB b r (posS r L q S) (posQ q) p := (hB.low (by have := hB.lo; omega)).q' rfl
theorem bT_e (hB : RepB b r S q p) {ws : List Str} (hw : okWs ws) : bT [some (.adr b), some (.adr r), some (.lst (ws.map .str))] S = .ok (decide (ws ≠ [("end" : Str)] ∨ p.blocks ≠ [])) S := by
  have one : (1 : Nat) ≤ sizeLine := by rw [szl]; omega
  have n4 := ne_lit hw "end" (by decide +kernel) S
  have tr : truB S (.adr (b + 2)) = some (!(p.blocks.map ivBlk).isEmpty) := by unfold truB; simp only [hB.blocks]
  unfold bT
  by_cases h1 : ws = [("end" : Str)]
  · subst h1
    simp only [List.map_cons, List.map_nil] at n4
    by_cases h2 : p.blocks = []
    · simp [iVar_s, one, chk_pos, n4, bfl_blocks hB, tr, h2]
    · have h3 : p.blocks.isEmpty = false := by simpa using h2
      simp [iVar_s, one, chk_pos, n4, bfl_blocks hB, tr, h2, h3]
  · simp [iVar_s, one, chk_pos, n4, bfl_blocks hB, tr, h1]
theorem bl_end (hB : RepB b r S q p) (hb : p.blocks = []) {ws : List Str} (hw : okWs ws) (he : ws = [("end" : Str)]) : iWhile bT bB [some (.adr b), some (.adr r), some (.lst (ws.map .str))] S = .ok (.nx [some (.adr b), some (.adr r), some (.lst (ws.map .str))]) S :=
  iWhile_f (by rw [bT_e hB hw, decide_eq_false (by simp [hb, he])])
theorem bB_row (hB : RepB b r S q p) {ws : List Str} {S1 : Sto} (e : m_BodyReader_read_row [.adr b, .lst (ws.map .str)] S = .ok .non S1) {q1 : RQ} (R1 : Rep B r L S1 q1) {s : Str} (hs : L[q1.pos + 1]? = some s) (ok : LnOk s) (hL : L.length ≤ 1000000) :
    bB [some (.adr b), some (.adr r), some (.lst (ws.map .str))] S = .ok (.nx [some (.adr b), some (.adr r), some (.lst ((wordsOf s).map .str))]) (posS r L q1 S1) := by
  have e0 : iMeth "BodyReader" "read_row" 2 m_BodyReader_read_row (iVar 0) (iCons (iVar 2) iNil) [some (.adr b), some (.adr r), some (.lst (ws.map .str))] S = .ok .non S1 := by
    rw [meth_s (iVar_s rfl) hB.self rfl]
    simp [iVar_s, chk_pos, e]
  have e1 := aug_at (mo := iVar 1) (Λ := [some (.adr b), some (.adr r), some (.lst (ws.map .str))]) R1 (iVar_s rfl)
  have e2 := mWords (mo := iVar 1) (Λ := [some (.adr b), some (.adr r), some (.lst (ws.map .str))]) (S0 := posS r L q1 S1) R1.pos' (iVar_s rfl) hs ok hL
  unfold bB
  simp [e0]
  rw [e1]
  simp only [Out.bind_ok, fSeq_nx]
  show (iSet 2 _ _ (posS r L q1 S1)) = _
  simp [e2]
theorem bl_row (hB : RepB b r S q p) {ws : List Str} (hw : okWs ws) (hne : ws ≠ [("end" : Str)] ∨ p.blocks ≠ []) {S1 : Sto} (e : m_BodyReader_read_row [.adr b, .lst (ws.map .str)] S = .ok .non S1) {q1 : RQ} (R1 : Rep B r L S1 q1) {s : Str} (hs : L[q1.pos + 1]? = some s) (ok : LnOk s) (hL : L.length ≤ 1000000)
    {o : Out Fl} (hl : iWhile bT bB [some (.adr b), some (.adr r), some (.lst ((wordsOf s).map .str))] (posS r L q1 S1) = o) (hn : o ≠ .bad) : iWhile bT bB [some (.adr b), some (.adr r), some (.lst (ws.map .str))] S = o :=
  iWhile_t (S1 := S) (by rw [bT_e hB hw, decide_eq_true hne]) (bB_row hB e R1 hs ok hL) hl hn
theorem bl_row_e (hB : RepB b r S q p) {ws : List Str} (hw : okWs ws) (hne : ws ≠ [("end" : Str)] ∨ p.blocks ≠ []) {S1 : Sto} (e : m_BodyReader_read_row [.adr b, .lst (ws.map .str)] S = .ok .non S1) {q1 : RQ} (R1 : Rep B r L S1 q1) {s : Str} (hs : L[q1.pos + 1]? = some s) (ok : LnOk s) (hL : L.length ≤ 1000000)
    {k : Int} (hl : Err B (iWhile bT bB [some (.adr b), some (.adr r), some (.lst ((wordsOf s).map .str))] (posS r L q1 S1)) k) : Err B (iWhile bT bB [some (.adr b), some (.adr r), some (.lst (ws.map .str))] S) k :=
  iWhile_te (S1 := S) (by rw [bT_e hB hw, decide_eq_true hne]) (bB_row hB e R1 hs ok hL) hl
/-- the lines end in the body -/
theorem bl_row_x (hB : RepB b r S q p) {ws : List Str} (hw : okWs ws) (hne : ws ≠ [("end" : Str)] ∨ p.blocks ≠ []) {S1 : Sto} (e : m_BodyReader_read_row [.adr b, .lst (ws.map .str)] S = .ok .non S1) {q1 : RQ} (R1 : Rep B r L S1 q1) (hs : L.length ≤ q1.pos + 1) :
    Err B (iWhile bT bB [some (.adr b), some (.adr r), some (.lst (ws.map .str))] S) L.length := by
  refine iWhile_e (S1 := S) (by rw [bT_e hB hw, decide_eq_true hne]) ?_
  have e0 : iMeth "BodyReader" "read_row" 2 m_BodyReader_read_row (iVar 0) (iCons (iVar 2) iNil) [some (.adr b), some (.adr r), some (.lst (ws.map .str))] S = .ok .non S1 := by
    rw [meth_s (iVar_s rfl) hB.self rfl]
    simp [iVar_s, chk_pos, e]
  have e1 := aug_at (mo := iVar 1) (Λ := [some (.adr b), some (.adr r), some (.lst (ws.map .str))]) R1 (iVar_s rfl)
  have R2 := R1.pos'
  have e2 : Err B (iMeth "Reader" "words" 1 m_Reader_words (iVar 1) iNil [some (.adr b), some (.adr r), some (.lst (ws.map .str))] (posS r L q1 S1)) L.length := by
    rw [meth_s (iVar_s rfl) R2.self rfl]
    simp only [iNil_e, Out.bind_ok]
    rw [chk_pos (by rfl)]
    exact (words_f R2 (by show L.length ≤ q1.pos + 1; exact hs)).relab _
  unfold bB
  simp [e0]
  rw [e1]
  simp only [Out.bind_ok, fSeq_nx]
  show Err B (iSet 2 _ _ (posS r L q1 S1)) _
  simp
  exact e2.bind _
/-- a row of the body is wrong -/
theorem bl_err (hB : RepB b r S q p) {ws : List Str} (hw : okWs ws) (hne : ws ≠ [("end" : Str)] ∨ p.blocks ≠ []) {k : Int} (e : Err B (m_BodyReader_read_row [.adr b, .lst (ws.map .str)] S) k) : Err B (iWhile bT bB [some (.adr b), some (.adr r), some (.lst (ws.map .str))] S) k := by
  refine iWhile_e (S1 := S) (by rw [bT_e hB hw, decide_eq_true hne]) ?_
  have e0 : iMeth "BodyReader" "read_row" 2 m_BodyReader_read_row (iVar 0) (iCons (iVar 2) iNil) [some (.adr b), some (.adr r), some (.lst (ws.map .str))] S = relab [some (.adr b), some (.adr r), some (.lst (ws.map .str))] (m_BodyReader_read_row [.adr b, .lst (ws.map .str)] S) := by
    rw [meth_s (iVar_s rfl) hB.self rfl]
    simp [iVar_s, chk_pos]
  have e1 := e.relab [some (.adr b), some (.adr r), some (.lst (ws.map .str))]
  rw [← e0] at e1
  unfold bB
  simp
  repeat (first | exact e1 | refine Err.bind ?_ _)
/-! ### a new reader of a body -/
theorem putI_len (f : Str) (v : IV) : ∀ fs : List (Str × IV), (putI f v fs).length ≤ fs.length + 1
  | [] => Nat.le_refl _
  | (g, x) :: fs => by
    unfold putI
    split
    · simp
    · simp only [List.length_cons]
      have := putI_len f v fs
      omega
theorem make_body (h : Rep B r L S q) {hid : Option Str} {line : Nat} : ∃ S', m_BodyReader___init__ [.adr S.length, .adr r, ivHid hid, .int line] (S ++ [.ins "BodyReader" []]) = .ok .non S' ∧ Rep B r L S' q ∧ RepB S.length r S' q ⟨hid, line, [], []⟩ := by
  have zero : (0 : Nat) ≤ sizeLine := Nat.zero_le _
  have set_e : ∀ (T : Sto) (f : Str) (v : IV) (fs : List (Str × IV)) (n : Nat), T[n]? = some (.ins "BodyReader" fs) → fs.length < 1000 → ∀ (Λ : Slots) (mo mv : IE) (S0 S1 : Sto), mv Λ S0 = .ok v S1 → mo Λ S1 = .ok (.adr n) T → iSetF "BodyReader" f mo mv Λ S0 = .ok (.nx Λ) (T.set n (.ins "BodyReader" (putI f v fs))) := by
    intro T f v fs n hT hl Λ mo mv S0 S1 h1 h2
    unfold iSetF
    rw [h1, Out.bind_ok, h2, Out.bind_ok, onI_s hT, chk_pos hl]
  have g0 : (S ++ [Cell.ins "BodyReader" []])[S.length]? = some (.ins "BodyReader" []) := by simp
  unfold m_BodyReader___init__ b_BodyReader___init__
  let Λ : Slots := [some (.adr S.length), some (.adr r), some (ivHid hid), some (.int line)]
  have e1 := set_e (S ++ [.ins "BodyReader" []]) "reader" (.adr r) [] S.length g0 (by simp) Λ (iVar 0) (iVar 1) _ _ (iVar_s rfl) (iVar_s rfl)
  have g1 := get_self (c' := .ins "BodyReader" (putI "reader" (.adr r) [])) g0
  generalize hA : (S ++ [Cell.ins "BodyReader" []]).set S.length (.ins "BodyReader" (putI "reader" (.adr r) [])) = A at e1 g1
  have e2 := set_e A "hidden" (ivHid hid) _ S.length g1 (by have := putI_len "reader" (IV.adr r) []; simp only [List.length_nil] at this; omega) Λ (iVar 0) (iVar 2) _ _ (iVar_s rfl) (iVar_s rfl)
  have g2 := get_self (c' := .ins "BodyReader" (putI "hidden" (ivHid hid) (putI "reader" (.adr r) []))) g1
  generalize hA2 : A.set S.length (.ins "BodyReader" (putI "hidden" (ivHid hid) (putI "reader" (.adr r) []))) = A2 at e2 g2
  have e3 := set_e A2 "line" (.int line) _ S.length g2 (by have := putI_len "reader" (IV.adr r) []; have := putI_len "hidden" (ivHid hid) (putI "reader" (IV.adr r) []); simp only [List.length_nil] at *; omega) Λ (iVar 0) (iVar 3) _ _ (iVar_s rfl) (iVar_s rfl)
  have g3 := get_self (c' := .ins "BodyReader" (putI "line" (.int line) (putI "hidden" (ivHid hid) (putI "reader" (.adr r) [])))) g2
  generalize hA3 : A2.set S.length (.ins "BodyReader" (putI "line" (.int line) (putI "hidden" (ivHid hid) (putI "reader" (.adr r) [])))) = A3 at e3 g3
  have l3 : A3.length = S.length + 1 := by rw [← hA3, ← hA2, ← hA]; simp
  have e4 := set_e (A3 ++ [.lst []]) "body" (.adr A3.length) _ S.length (get_app g3) (by have := putI_len "reader" (IV.adr r) []; have := putI_len "hidden" (ivHid hid) (putI "reader" (IV.adr r) []); have := putI_len "line" (.int line) (putI "hidden" (ivHid hid) (putI "reader" (IV.adr r) [])); simp only [List.length_nil] at *; omega) Λ (iVar 0) (iLst true iNil) A3 _ (by simp [chk_pos]) (iVar_s rfl)
  have g4 := get_self (c' := .ins "BodyReader" (putI "body" (.adr A3.length) (putI "line" (.int line) (putI "hidden" (ivHid hid) (putI "reader" (.adr r) []))))) (get_app (T := [.lst []]) g3)
  generalize hA4 : (A3 ++ [Cell.lst []]).set S.length (.ins "BodyReader" (putI "body" (.adr A3.length) (putI "line" (.int line) (putI "hidden" (ivHid hid) (putI "reader" (.adr r) []))))) = A4 at e4 g4
  have l4 : A4.length = S.length + 2 := by rw [← hA4]; simp [l3]
  have e5 := set_e (A4 ++ [.lst []]) "blocks" (.adr A4.length) _ S.length (get_app g4) (by have := putI_len "reader" (IV.adr r) []; have := putI_len "hidden" (ivHid hid) (putI "reader" (IV.adr r) []); have := putI_len "line" (.int line) (putI "hidden" (ivHid hid) (putI "reader" (IV.adr r) [])); have := putI_len "body" (.adr A3.length) (putI "line" (.int line) (putI "hidden" (ivHid hid) (putI "reader" (IV.adr r) []))); simp only [List.length_nil] at *; omega) Λ (iVar 0) (iLst true iNil) A4 _ (by simp [chk_pos]) (iVar_s rfl)
  have g5 := get_self (c' := .ins "BodyReader" (putI "blocks" (.adr A4.length) (putI "body" (.adr A3.length) (putI "line" (.int line) (putI "hidden" (ivHid hid) (putI "reader" (.adr r) [])))))) (get_app (T := [.lst []]) g4)
  have lr := lt_of h.defs
  have lo : ∀ m ∈ q.ms, m.a < S.length ∧ m.d < S.length := fun m hm => ⟨lt_of (h.ms m hm).a, lt_of (h.ms m hm).d⟩
  have keep : ∀ (n : Nat) (c : Cell), S[n]? = some c → ((A4 ++ [Cell.lst []]).set S.length (.ins "BodyReader" (putI "blocks" (.adr A4.length) (putI "body" (.adr A3.length) (putI "line" (.int line) (putI "hidden" (ivHid hid) (putI "reader" (.adr r) [])))))))[n]? = some c := by
    intro n c hn
    have := lt_of hn
    rw [← hA4, ← hA3, ← hA2, ← hA]
    exact get_set (get_app (get_set (get_app (get_set (get_set (get_set (get_app hn) (by omega)) (by omega)) (by omega))) (by omega))) (by omega)
  generalize hA5 : (A4 ++ [Cell.lst []]).set S.length (.ins "BodyReader" (putI "blocks" (.adr A4.length) (putI "body" (.adr A3.length) (putI "line" (.int line) (putI "hidden" (ivHid hid) (putI "reader" (.adr r) [])))))) = A5 at e5 g5 keep
  have l5 : S.length ≤ A5.length := by rw [← hA5, List.length_set, List.length_append, l4]; omega
  refine ⟨A5, ?_, ⟨h.base.trans ⟨l5, fun m c e _ => keep m c e⟩, h.bl, keep _ _ h.self, keep _ _ h.mods, keep _ _ h.rows, keep _ _ h.decl, keep _ _ h.places, keep _ _ h.defs, fun m hm => ⟨keep _ _ (h.ms m hm).a, keep _ _ (h.ms m hm).d, (h.ms m hm).la, (h.ms m hm).ld, (h.ms m hm).nm, (h.ms m hm).db⟩, h.na, h.nd, h.nn⟩, ⟨?_, ?_, ?_, lr, lo, fun k hk => (by cases hk), by simp⟩⟩
  · rw [mDef_e]
    show (match (iSeq _ _ : IS) Λ (S ++ [.ins "BodyReader" []]) with
      | .ok (.rt iv) S' => _
      | .ok (.nx _) S' => _
      | .ok _ _ => _
      | .exc C k _ S' => _
      | .bad => _) = _
    simp only [iSeq_e, e1, Out.bind_ok, fSeq_nx, e2, e3, e4, e5]
  · rw [g5]
    simp only [l3, l4]
    rfl
  · rw [← hA5]
    refine get_set ?_ (by omega)
    refine get_app ?_
    rw [← hA4]
    refine get_set ?_ (by omega)
    rw [← l3]; simp
  · rw [← hA5]
    refine get_set ?_ (by omega)
    rw [← l4]; simp
end
end RD

set_option maxHeartbeats 4000000
/-! a def without a hidden name -/
namespace RD
open PySem PySem.Spec PyProof.Rows L2 Sm
section
variable {B : Sto} {b r : Nat} {L : List Str} {S : Sto} {q : RQ} {p : BQ}
/-- the walk over a body, from the line at q.pos -/
noncomputable def bLoop (b r : Nat) (s : Str) (S : Sto) : Out Fl := iWhile bT bB [some (.adr b), some (.adr r), some (.lst ((wordsOf s).map .str))] S
theorem tuple_a {n : Nat} {xs : List IV} (h : S[n]? = some (.lst xs)) (hl : xs.length ≤ 1000000) : fTuple [.adr n] S = .ok (.tup xs) S := by
  unfold fTuple lstX
  simp only [a1_1, h]
  show mkT _ _ = _
  rw [mkT_e, chk_pos (by rw [szl]; omega)]
theorem body_read (hB : RepB b r S q p) (h : Rep B r L S q) {s : Str} (hs : L[q.pos]? = some s) (ok : LnOk s) (hL : L.length ≤ 1000000) {ws : List Str} {S3 : Sto} {q3 : RQ} {p3 : BQ} (e : bLoop b r s S = .ok (.nx [some (.adr b), some (.adr r), some (.lst (ws.map .str))]) S3) (R3 : Rep B r L S3 q3) (B3 : RepB b r S3 q3 p3) (hl : p3.body.length ≤ 1000000) :
    m_BodyReader_read [.adr b] S = .ok (.tup p3.body) (posS r L q3 S3) := by
  have eW := mWords (mo := iVar 1) (Λ := [some (.adr b), some (.adr r), none]) (S0 := S) h (iVar_s rfl) hs ok hL
  have e1 := aug_at (mo := iVar 1) (Λ := [some (.adr b), some (.adr r), some (.lst (ws.map .str))]) R3 (iVar_s rfl)
  have B4 := B3.pos' R3
  unfold m_BodyReader_read
  refine mDef_rt ?_
  unfold b_BodyReader_read
  unfold bLoop bT bB at e
  simp [iVar_s, bfl_reader hB, eW]
  rw [e]
  simp only [Out.bind_ok, fSeq_nx, iSeq_e]
  rw [e1]
  simp only [Out.bind_ok, fSeq_nx]
  show (iRet _ _ (posS r L q3 S3)) = _
  simp [iVar_s, bfl_body B4, tuple_a B4.body hl]
theorem body_read_e (hB : RepB b r S q p) (h : Rep B r L S q) {s : Str} (hs : L[q.pos]? = some s) (ok : LnOk s) (hL : L.length ≤ 1000000) {k : Int} (e : Err B (bLoop b r s S) k) : Err B (m_BodyReader_read [.adr b] S) k := by
  have eW := mWords (mo := iVar 1) (Λ := [some (.adr b), some (.adr r), none]) (S0 := S) h (iVar_s rfl) hs ok hL
  unfold m_BodyReader_read
  refine Err.mdef ?_
  unfold b_BodyReader_read
  unfold bLoop bT bB at e
  simp [iVar_s, bfl_reader hB, eW]
  repeat (first | exact e | refine Err.bind ?_ _)
theorem body_read_x (hB : RepB b r S q p) (h : Rep B r L S q) (hs : L.length ≤ q.pos) : Err B (m_BodyReader_read [.adr b] S) L.length := by
  have e0 : Err B (iMeth "Reader" "words" 1 m_Reader_words (iVar 1) iNil [some (.adr b), some (.adr r), none] S) L.length := by
    rw [meth_s (iVar_s rfl) h.self rfl]
    simp only [iNil_e, Out.bind_ok]
    rw [chk_pos (by rfl)]
    exact (words_f h hs).relab _
  unfold m_BodyReader_read
  refine Err.mdef ?_
  unfold b_BodyReader_read
  simp [iVar_s, bfl_reader hB]
  repeat (first | exact e0 | refine Err.bind ?_ _)
def defRow (n : Str) (line : Nat) (body : List IV) : IV := .tup [.str "def", .str n, .int line, .non, .non, .tup body]
/-- behind a def that ends at k -/
def defQ (q : RQ) (init : List Mod) (m : Mod) (n : Str) (body : List IV) (k : Nat) (kept : IV) : RQ :=
  { pos := k, kept := kept, ms := init ++ [{ m with decl := m.decl ++ [(n, q.pos)], rows := m.rows ++ [defRow n q.pos body] }], places := putK' q.places (.inr (lab m.name n)) (.int q.pos), defs := putK' q.defs (.inr (lab m.name n)) (.tup [.str m.name, defRow n q.pos body]) }
/-- the store as the body finds it -/
def inQ (q : RQ) (init : List Mod) (m : Mod) (n : Str) : RQ := posQ (declQ q init m n)
theorem mDef_nx {n : Nat} {b : IS} {xs : List IV} {S S' : Sto} {L : Slots} (h : b (xs.map some ++ List.replicate (n - xs.length) none) S = .ok (.nx L) S') : mDef n b xs S = .ok .non S' := by rw [mDef_e, h]
theorem seq_ok {a c : IS} {Λ Λ1 : Slots} {S S1 : Sto} (h : a Λ S = .ok (.nx Λ1) S1) : iSeq a c Λ S = c Λ1 S1 := by rw [iSeq_e, h]; rfl
theorem seq_err {a c : IS} {Λ : Slots} {S : Sto} {k : Int} (h : Err B (a Λ S) k) : Err B (iSeq a c Λ S) k := by rw [iSeq_e]; exact h.bind _
theorem set_ok {i : Nat} {m : IE} {v : IV} {Λ : Slots} {S S1 : Sto} (h : m Λ S = .ok v S1) : iSet i m Λ S = .ok (.nx (Λ.set i (some v))) S1 := by rw [iSet_e, h]; rfl
theorem set_err {i : Nat} {m : IE} {Λ : Slots} {S : Sto} {k : Int} (h : Err B (m Λ S) k) : Err B (iSet i m Λ S) k := by rw [iSet_e]; exact h.bind _
theorem drop_ok {m : IE} {v : IV} {Λ : Slots} {S S1 : Sto} (h : m Λ S = .ok v S1) : iDrop m Λ S = .ok (.nx Λ) S1 := by rw [iDrop_e, h]; rfl
theorem drop_err {m : IE} {Λ : Slots} {S : Sto} {k : Int} (h : Err B (m Λ S) k) : Err B (iDrop m Λ S) k := by rw [iDrop_e]; exact h.bind _
theorem if_f {c : IT} {a d : IS} {Λ : Slots} {S S1 : Sto} (h : c Λ S = .ok false S1) : iIf c a d Λ S = d Λ S1 := by rw [iIf_e, h]; rfl
theorem if_t {c : IT} {a d : IS} {Λ : Slots} {S S1 : Sto} (h : c Λ S = .ok true S1) : iIf c a d Λ S = a Λ S1 := by rw [iIf_e, h]; rfl
theorem set2_ok {i j : Nat} {m : IE} {v : IV} {Λ : Slots} {S S1 : Sto} (h : m Λ S = .ok v S1) : iSet2 i j m Λ S = .ok (.nx ((Λ.set i (some v)).set j (some v))) S1 := by unfold iSet2; rw [h]; rfl
theorem def_head (h : Rep B r L S q) (z : Small q) {init : List Mod} {m : Mod} (hq : q.ms = init ++ [m]) {n : Str} (nl : n.length ≤ 1000000) :
    (nameB n = true ∧ m.decl.lookup n = none → ∃ S3 b, Rep B r L S3 (inQ q init m n) ∧ RepB b r S3 (inQ q init m n) ⟨none, q.pos, [], []⟩ ∧
      (∀ k, Err B (m_BodyReader_read [.adr b] S3) k → Err B (m_Reader_read_def [.adr r, .lst [.str "def", .str n]] S) k) ∧
      (∀ body S4 q4, m_BodyReader_read [.adr b] S3 = .ok (.tup body) S4 → Rep B r L S4 q4 → q4.ms = (inQ q init m n).ms → q4.places = (inQ q init m n).places → q4.defs = q.defs → q.defs.length < 1000000 →
        ∃ S5, m_Reader_read_def [.adr r, .lst [.str "def", .str n]] S = .ok .non S5 ∧ Rep B r L S5 (defQ q init m n body q4.pos q4.kept))) ∧
    (¬ (nameB n = true ∧ m.decl.lookup n = none) → Err B (m_Reader_read_def [.adr r, .lst [.str "def", .str n]] S) q.pos) := by
  have hm : m ∈ q.ms := by rw [hq]; simp
  let Λ : Slots := [some (.adr r), some (.lst [.str "def", .str n]), some (.int q.pos), some .non, some .non, none, none, none]
  have eC : iOrV (iBin fEq (iCa fLen (iCons (iVar 1) iNil)) (iC (.int 2))) (iBin fEq (iCa fLen (iCons (iVar 1) iNil)) (iC (.int 6))) Λ S = .ok (.bl true) S := by
    simp [Λ, iVar_s]
  have eN := mNeed (mo := iVar 0) (Λ := Λ) (S0 := S) (iVar_s rfl) h eC rfl
  obtain ⟨g1, g2⟩ := mDeclare (mo := iVar 0) (me := iBin fIx (iVar 1) (iC (.int 1))) (Λ := Λ) (S0 := S) (iVar_s rfl) h z hq nl (by simp [Λ, iVar_s])
  unfold m_Reader_read_def
  refine ⟨fun hok => ?_, fun hno => Err.mdef ?_⟩
  · obtain ⟨S1, e1, R1, l1, _⟩ := g1 hok
    have eM1 : iMeth "Reader" "module" 1 m_Reader_module (iVar 0) iNil Λ S1 = .ok (.str m.name) S1 := mMod (mo := iVar 0) (Λ := Λ) (S0 := S1) (iVar_s rfl) R1 (init := init) (m := { m with decl := m.decl ++ [(n, q.pos)] }) rfl
    have mr := h.ms m hm
    have nlm := name_len mr.nm
    have eJ := joined3 (S := S1) (S1 := S1) (S2 := S1) (S3 := S1) (Λ := Λ) (m2 := iC (.str ".")) (m3 := iBin fIx (iVar 1) (iC (.int 1))) (b := ".") (c := n) eM1 rfl (by simp [Λ, iVar_s]) (by omega) (by decide +kernel) (by omega)
    let Λ2 : Slots := [some (.adr r), some (.lst [.str "def", .str n]), some (.int q.pos), some .non, some .non, some (.str (lab m.name n)), none, none]
    have e2 := aug_at (mo := iVar 0) (Λ := Λ2) R1 (iVar_s rfl)
    have R2 : Rep B r L (posS r L (declQ q init m n) S1) (inQ q init m n) := R1.pos'
    obtain ⟨S3, e3, R3, B3⟩ := make_body R2 (hid := none) (line := q.pos)
    have eMk : iMake "BodyReader" 4 m_BodyReader___init__ (iCons (iVar 0) (iCons (iVar 3) (iCons (iVar 2) iNil))) Λ2 (posS r L (declQ q init m n) S1) = .ok (.adr (posS r L (declQ q init m n) S1).length) S3 := by
      unfold iMake
      simp only [ivHid] at e3
      simp [Λ2, iVar_s, e3, chk_pos, isN]
    have eRd : iMeth "BodyReader" "read" 1 m_BodyReader_read (iMake "BodyReader" 4 m_BodyReader___init__ (iCons (iVar 0) (iCons (iVar 3) (iCons (iVar 2) iNil)))) iNil Λ2 (posS r L (declQ q init m n) S1) = relab Λ2 (m_BodyReader_read [.adr (posS r L (declQ q init m n) S1).length] S3) := by
      rw [meth_s eMk B3.self rfl]
      simp [chk_pos]
    have six : (6 : Nat) ≤ sizeLine := by rw [szl]; omega
    have two : (2 : Nat) ≤ sizeLine := by rw [szl]; omega
    have two : (2 : Nat) ≤ sizeLine := by rw [szl]; omega
    have six : (6 : Nat) ≤ sizeLine := by rw [szl]; omega
    let Λ0 : Slots := [some (.adr r), some (.lst [.str "def", .str n]), none, none, none, none, none, none]
    let Λ1 : Slots := [some (.adr r), some (.lst [.str "def", .str n]), some (.int q.pos), none, none, none, none, none]
    have t1 : iUn (fFld "Reader" "at") (iVar 0) Λ0 S = .ok (.int q.pos) S := by simp [Λ0, iVar_s, fld_at h]
    have t4 : iTest (iBin fEq (iCa fLen (iCons (iVar 1) iNil)) (iC (.int 6))) Λ S = .ok false S := by simp [Λ, iVar_s]
    have t7 : iTest (iBin gNotN (iVar 3) (iC .non)) Λ2 S1 = .ok false S1 := by simp [Λ2, iVar_s, isN]
    have front : ∀ {o : Out Fl} {F : IS}, F Λ2 S1 = o →
        iSeq (iSet 2 (iUn (fFld "Reader" "at") (iVar 0))) (iSeq (iSet2 3 4 (iC .non)) (iSeq (iDrop (iMeth "Reader" "need" 2 m_Reader_need (iVar 0) (iCons (iOrV (iBin fEq (iCa fLen (iCons (iVar 1) iNil)) (iC (.int 2))) (iBin fEq (iCa fLen (iCons (iVar 1) iNil)) (iC (.int 6)))) iNil)))
          (iSeq (iIf (iTest (iBin fEq (iCa fLen (iCons (iVar 1) iNil)) (iC (.int 6)))) (iSeq (iDrop (iMeth "Reader" "need" 2 m_Reader_need (iVar 0) (iCons (iAndV (iBin fEq (iBin fIx (iVar 1) (iC (.int 2))) (iC (.str "using"))) (iAndV (iCall 1 m_name_fits (iCons (iBin fIx (iVar 1) (iC (.int 3))) iNil)) (iBin fEq (iBin fIx (iVar 1) (iC (.int 4))) (iC (.str "="))))) iNil))) (iSeq (iSet 3 (iBin fIx (iVar 1) (iC (.int 3)))) (iSet 4 (iMeth "Reader" "path_above" 3 m_Reader_path_above (iVar 0) (iCons (iBin fIx (iVar 1) (iC (.int 5))) (iCons (iVar 2) iNil)))))) iNext)
            (iSeq (iDrop (iMeth "Reader" "declare" 2 m_Reader_declare (iVar 0) (iCons (iBin fIx (iVar 1) (iC (.int 1))) iNil))) (iSeq (iSet 5 (iJoined [(iMeth "Reader" "module" 1 m_Reader_module (iVar 0) iNil), (iC (.str ".")), (iBin fIx (iVar 1) (iC (.int 1)))])) F))))) Λ0 S = o := by
      intro o F hF
      refine (seq_ok (Λ1 := Λ1) (set_ok t1)).trans ?_
      refine (seq_ok (Λ1 := Λ) (set2_ok (v := .non) rfl)).trans ?_
      refine (seq_ok (drop_ok eN)).trans ?_
      refine (seq_ok (Λ1 := Λ) (S1 := S) ((if_f t4).trans rfl)).trans ?_
      refine (seq_ok (drop_ok e1)).trans ?_
      exact (seq_ok (Λ1 := Λ2) (set_ok eJ)).trans hF
    refine ⟨S3, _, R3, B3, fun k hk => Err.mdef ?_, fun body S4 q4 hb R4 h1 h2 h3 h4 => ?_⟩
    · have hk' := hk.relab Λ2
      rw [← eRd] at hk'
      show Err B (b_Reader_read_def Λ0 S) k
      unfold b_Reader_read_def
      rw [front rfl]
      rw [seq_ok (Λ1 := Λ2) (S1 := S1) ((if_f t7).trans rfl), seq_ok e2]
      exact seq_err (set_err hk')
    · rw [hb] at eRd
      have z4 : q4.ms = init ++ [{ m with decl := m.decl ++ [(n, q.pos)] }] := h1
      let Λ4 : Slots := [some (.adr r), some (.lst [.str "def", .str n]), some (.int q.pos), some .non, some .non, some (.str (lab m.name n)), some (.tup body), none]
      let Λ3 : Slots := [some (.adr r), some (.lst [.str "def", .str n]), some (.int q.pos), some .non, some .non, some (.str (lab m.name n)), some (.tup body), some (defRow n q.pos body)]
      have e5 := mKeep (mo := iVar 0) (me := iVar 7) (Λ := Λ3) (S0 := S4) (row := defRow n q.pos body) (iVar_s rfl) R4 z4 (z.rows m hm) (iVar_s rfl)
      have R5 := R4.rows' z4 (rows := m.rows ++ [defRow n q.pos body])
      generalize hS5 : S4.set m.a (.lst (m.rows ++ [defRow n q.pos body])) = S5 at e5 R5
      have eM5 : iMeth "Reader" "module" 1 m_Reader_module (iVar 0) iNil Λ3 S5 = .ok (.str m.name) S5 := mMod (mo := iVar 0) (Λ := Λ3) (S0 := S5) (iVar_s rfl) R5 (init := init) (m := { m with decl := m.decl ++ [(n, q.pos)], rows := m.rows ++ [defRow n q.pos body] }) rfl
      have f5 := fld_defs R5
      have t10 : iTup (iCons (iC (.str "def")) (iCons (iBin fIx (iVar 1) (iC (.int 1))) (iCons (iVar 2) (iCons (iVar 3) (iCons (iVar 4) (iCons (iVar 6) iNil)))))) Λ4 S4 = .ok (defRow n q.pos body) S4 := by simp [Λ4, iVar_s, six, chk_pos, defRow]
      have t12 : iTup (iCons (iMeth "Reader" "module" 1 m_Reader_module (iVar 0) iNil) (iCons (iVar 7) iNil)) Λ3 S5 = .ok (.tup [.str m.name, defRow n q.pos body]) S5 := by
        have : iVar 7 Λ3 S5 = .ok (defRow n q.pos body) S5 := iVar_s rfl
        simp [eM5, this, two, chk_pos]
      have t13 : iUn (fFld "Reader" "defs") (iVar 0) Λ3 S5 = .ok (.adr (r + 5)) S5 := by
        have : iVar 0 Λ3 S5 = .ok (.adr r) S5 := iVar_s rfl
        simp [this, f5]
      have e6 := dput_s (S := S5) (S1 := S5) (S2 := S5) (S3 := S5) (Λ := Λ3) (n := r + 5) (x := lab m.name n) t12 t13 (my := iVar 5) (iVar_s rfl) R5.defs (by show q4.defs.length < 1000000; rw [h3]; exact h4)
      have R6 := R5.defs' (ps := putK' q4.defs (.inr (lab m.name n)) (.tup [.str m.name, defRow n q.pos body]))
      refine ⟨S5.set (r + 5) (.dic (putK' q4.defs (.inr (lab m.name n)) (.tup [.str m.name, defRow n q.pos body]))), ?_, ?_⟩
      · have : b_Reader_read_def Λ0 S = .ok (.nx Λ3) (S5.set (r + 5) (.dic (putK' q4.defs (.inr (lab m.name n)) (.tup [.str m.name, defRow n q.pos body])))) := by
          unfold b_Reader_read_def
          rw [front rfl]
          rw [seq_ok (Λ1 := Λ2) (S1 := S1) ((if_f t7).trans rfl), seq_ok e2, seq_ok (Λ1 := Λ4) (set_ok eRd), seq_ok (Λ1 := Λ3) (set_ok t10), seq_ok (drop_ok e5)]
          exact e6
        exact mDef_nx this
      · have : defQ q init m n body q4.pos q4.kept = { q4 with ms := init ++ [{ m with decl := m.decl ++ [(n, q.pos)], rows := m.rows ++ [defRow n q.pos body] }], defs := putK' q4.defs (.inr (lab m.name n)) (.tup [.str m.name, defRow n q.pos body]) } := by
          unfold defQ
          rw [h3]
          have : q4.places = putK' q.places (.inr (lab m.name n)) (.int q.pos) := h2
          rw [this]
        rw [this]
        exact R6
  · have e1 := g2 hno
    let Λ0 : Slots := [some (.adr r), some (.lst [.str "def", .str n]), none, none, none, none, none, none]
    let Λ1 : Slots := [some (.adr r), some (.lst [.str "def", .str n]), some (.int q.pos), none, none, none, none, none]
    have t1 : iUn (fFld "Reader" "at") (iVar 0) Λ0 S = .ok (.int q.pos) S := by simp [Λ0, iVar_s, fld_at h]
    have t4 : iTest (iBin fEq (iCa fLen (iCons (iVar 1) iNil)) (iC (.int 6))) Λ S = .ok false S := by simp [Λ, iVar_s]
    show Err B (b_Reader_read_def Λ0 S) q.pos
    unfold b_Reader_read_def
    rw [seq_ok (Λ1 := Λ1) (set_ok t1), seq_ok (Λ1 := Λ) (set2_ok (v := .non) rfl), seq_ok (drop_ok eN), seq_ok (Λ1 := Λ) (S1 := S) ((if_f t4).trans rfl)]
    exact seq_err (drop_err e1)
end
end RD

set_option maxHeartbeats 4000000
/-! rows "def"; bodies of calls alone -/
namespace RD
open PySem PySem.Spec PyProof.Rows L2 Sm
section
variable {B : Sto} {b r : Nat} {L : List Str} {S : Sto} {q : RQ} {p : BQ}
/-- a row "def n": what read_def does -/
theorem row_def (h : Rep B r L S q) {s n : Str} (hs : L[q.pos]? = some s) (ok : LnOk s) (hL : L.length ≤ 1000000) (hw : wordsOf s = [("def" : Str), n]) {init : List Mod} {m : Mod} (hq : q.ms = init ++ [m]) :
    (∀ S', m_Reader_read_def [.adr r, .lst [.str "def", .str n]] S = .ok .non S' → m_Reader_read_row [.adr r] S = .ok .non S') ∧
    (∀ k, Err B (m_Reader_read_def [.adr r, .lst [.str "def", .str n]] S) k → Err B (m_Reader_read_row [.adr r] S) k) := by
  let Λ : Slots := [some (.adr r), some (.lst [.str "def", .str n])]
  have eW : iMeth "Reader" "words" 1 m_Reader_words (iVar 0) iNil [some (.adr r), none] S = .ok (.lst [.str "def", .str n]) S := by
    have := mWords (mo := iVar 0) (Λ := [some (.adr r), none]) (S0 := S) h (iVar_s rfl) hs ok hL
    rw [hw] at this
    exact this
  have eN := mNeed (mo := iVar 0) (Λ := Λ) (S0 := S) (iVar_s rfl) h (need_ms h rfl) (decide_eq_true (by rw [hq]; simp))
  have tst : ∀ (x : Str), ¬ ("def" : Str) = x → iTest (iBin fEq (iBin fIx (iVar 1) (iC (.int 0))) (iC (.str x))) Λ S = .ok false S := fun x hx => by simp [Λ, iVar_s, hx]
  have tt : iTest (iBin fEq (iBin fIx (iVar 1) (iC (.int 0))) (iC (.str "def"))) Λ S = .ok true S := by simp [Λ, iVar_s]
  have e0 : iMeth "Reader" "read_def" 2 m_Reader_read_def (iVar 0) (iCons (iVar 1) iNil) Λ S = relab Λ (m_Reader_read_def [.adr r, .lst [.str "def", .str n]] S) := by
    rw [meth_s (iVar_s rfl) h.self rfl]
    simp [Λ, iVar_s, chk_pos]
  have go : b_Reader_read_row [some (.adr r), none] S = iDrop (iMeth "Reader" "read_def" 2 m_Reader_read_def (iVar 0) (iCons (iVar 1) iNil)) Λ S := by
    unfold b_Reader_read_row
    rw [seq_ok (Λ1 := Λ) (set_ok eW), seq_ok (Λ1 := Λ) (S1 := S) ((if_f (tst _ s_dm)).trans rfl), seq_ok (drop_ok eN), if_f (tst _ s_do), if_f (tst _ s_di), if_f (tst _ s_df), if_f (tst _ s_dt), if_f (tst _ s_dc), if_t tt]
  unfold m_Reader_read_row
  refine ⟨fun S' e => ?_, fun k e => Err.mdef ?_⟩
  · rw [e] at e0
    exact mDef_nx (L := Λ) (go.trans (drop_ok e0))
  · have e1 := e.relab Λ
    rw [← e0] at e1
    show Err B (b_Reader_read_row [some (.adr r), none] S) k
    rw [go]
    exact drop_err e1
/-- a body of calls x, all heads above, then end -/
theorem calls_loop {init : List Mod} {m : Mod} {x : Str} {pt : Str × List (Str × Str)} (hL : L.length ≤ 1000000) (hok : ∀ s ∈ L, LnOk s) (hx : headP m p.hid x p.line true = some pt) :
    ∀ (c : Nat) (S : Sto) (q : RQ) (body : List IV) (s : Str), Rep B r L S q → q.ms = init ++ [m] → RepB b r S q { p with body := body, blocks := [] } → L[q.pos]? = some s → body.length + c < 1000000 →
      (∀ i < c, ∃ t, L[q.pos + i]? = some t ∧ wordsOf t = [("call" : Str), x]) → (∃ t, L[q.pos + c]? = some t ∧ wordsOf t = [("end" : Str)]) →
      ∃ S', bLoop b r s S = .ok (.nx [some (.adr b), some (.adr r), some (.lst ([("end" : Str)].map .str))]) S' ∧ Rep B r L S' { q with pos := q.pos + c } ∧ RepB b r S' { q with pos := q.pos + c } { p with body := body ++ List.replicate c (callRow x pt), blocks := [] }
  | 0, S, q, body, s, h, hq, hB, hs, hl, hc, ⟨t, ht, he⟩ => by
    have : t = s := by rw [Nat.add_zero, hs] at ht; exact (Option.some.inj ht).symm
    subst this
    refine ⟨S, ?_, h, by simpa using hB⟩
    unfold bLoop
    have hw : okWs (wordsOf t) := okWs_of (hok t (List.mem_of_getElem? hs))
    have e := bl_end (r := r) hB rfl hw he
    rw [he] at e ⊢
    exact e
  | c + 1, S, q, body, s, h, hq, hB, hs, hl, hc, ⟨t, ht, he⟩ => by
    obtain ⟨t0, h0, hw0⟩ := hc 0 (Nat.succ_pos c)
    have : t0 = s := by rw [Nat.add_zero, hs] at h0; exact (Option.some.inj h0).symm
    subst this
    have lok := hok t0 (List.mem_of_getElem? hs)
    have hw := okWs_of lok
    rw [hw0] at hw
    obtain ⟨S1, e1, R1, B1⟩ := (brow_call hB h hq (by show body.length < 1000000; omega) (ws := [x]) hw).1 x pt rfl hx
    have nx : ∃ t1, L[q.pos + 1]? = some t1 := by
      cases c with
      | zero => exact ⟨t, ht⟩
      | succ c =>
        obtain ⟨t1, h1, _⟩ := hc 1 (by omega)
        exact ⟨t1, h1⟩
    obtain ⟨t1, h1⟩ := nx
    obtain ⟨S', e2, R2, B2⟩ := calls_loop hL hok hx c (posS r L q S1) (posQ q) (body ++ [callRow x pt]) t1 R1.pos' hq (B1.pos' R1) h1 (by simp; omega)
      (fun i hi => by
        obtain ⟨u, hu, hu2⟩ := hc (i + 1) (by omega)
        exact ⟨u, by rw [show (posQ q).pos + i = q.pos + (i + 1) by show q.pos + 1 + i = _; omega]; exact hu, hu2⟩)
      ⟨t, by rw [show (posQ q).pos + c = q.pos + (c + 1) by show q.pos + 1 + c = _; omega]; exact ht, he⟩
    refine ⟨S', ?_, ?_, ?_⟩
    · have hne : ([("call" : Str), x]) ≠ [("end" : Str)] ∨ ({ p with body := body, blocks := [] } : BQ).blocks ≠ [] := .inl (by simp)
      have := bl_row (S := S) (q1 := q) hB hw hne e1 R1 h1 (hok t1 (List.mem_of_getElem? h1)) hL e2 (by simp)
      unfold bLoop
      rw [hw0]
      exact this
    · have : ({ q with pos := q.pos + (c + 1) } : RQ) = { posQ q with pos := (posQ q).pos + c } := by
        show RQ.mk _ _ _ _ _ = RQ.mk _ _ _ _ _
        rw [show (posQ q).pos + c = q.pos + (c + 1) by show q.pos + 1 + c = _; omega]
        rfl
      rw [this]; exact R2
    · have : ({ q with pos := q.pos + (c + 1) } : RQ) = { posQ q with pos := (posQ q).pos + c } := by
        show RQ.mk _ _ _ _ _ = RQ.mk _ _ _ _ _
        rw [show (posQ q).pos + c = q.pos + (c + 1) by show q.pos + 1 + c = _; omega]
        rfl
      rw [this, show body ++ List.replicate (c + 1) (callRow x pt) = body ++ [callRow x pt] ++ List.replicate c (callRow x pt) by rw [List.replicate_succ]; simp]
      exact B2
end
end RD

set_option maxHeartbeats 4000000
/-! the reading as a whole -/
namespace RD
open PySem PySem.Spec PyProof.Rows L2 Sm
section
variable {B : Sto} {b r : Nat} {L : List Str} {S : Sto} {q : RQ} {p : BQ}
theorem read_ok {S' : Sto} {q' : RQ} (e : iWhile loopT loopB [some (.adr r)] S = .ok (.nx [some (.adr r)]) S') (R : Rep B r L S' q') (hm : q'.ms ≠ []) : m_Reader_read [.adr r] S = .ok .non S' := by
  have tr : truB S' (.adr (r + 1)) = some true := by
    unfold truB
    simp only [R.mods]
    cases hq : q'.ms with
    | nil => exact absurd hq hm
    | cons x xs => rfl
  have t : iNot (iTru (iUn (fFld "Reader" "modules") (iVar 0))) [some (.adr r)] S' = .ok false S' := by simp [iVar_s, fld_modules R, tr]
  unfold m_Reader_read
  refine mDef_nx (L := [some (.adr r)]) ?_
  show b_Reader_read [some (.adr r)] S = _
  unfold b_Reader_read
  unfold loopT loopB at e
  rw [seq_ok e]
  exact (if_f t).trans rfl
theorem read_none {S' : Sto} {q' : RQ} (e : iWhile loopT loopB [some (.adr r)] S = .ok (.nx [some (.adr r)]) S') (R : Rep B r L S' q') (hm : q'.ms = []) : Err B (m_Reader_read [.adr r] S) L.length := by
  have tr : truB S' (.adr (r + 1)) = some false := by
    unfold truB
    simp only [R.mods]
    rw [hm]
    rfl
  have t : iNot (iTru (iUn (fFld "Reader" "modules") (iVar 0))) [some (.adr r)] S' = .ok true S' := by simp [iVar_s, fld_modules R, tr]
  unfold m_Reader_read
  refine Err.mdef ?_
  show Err B (b_Reader_read [some (.adr r)] S) _
  unfold b_Reader_read
  unfold loopT loopB at e
  rw [seq_ok e, if_t t]
  exact ⟨S'.length, [some (.adr r)], S' ++ [.xd [("at", .int L.length)]], by simp [iVar_s, fld_lines R, iRaise], by simp, ba R.base⟩
theorem read_err {k : Int} (e : Err B (iWhile loopT loopB [some (.adr r)] S) k) : Err B (m_Reader_read [.adr r] S) k := by
  unfold m_Reader_read
  refine Err.mdef ?_
  show Err B (b_Reader_read [some (.adr r)] S) _
  unfold b_Reader_read
  unfold loopT loopB at e
  exact seq_err e
/-! ### weights -/
/-- is a row of a body a call -/
def isCall : IV → Bool
  | .tup (.str w :: _) => decide (w = "call")
  | _ => false
def rowOk : IV → Bool
  | .tup (.str _ :: _) => true
  | _ => false
theorem calls_go {all : List IV} {x : Option IV} {y : IV} {S : Sto} : ∀ (xs acc : List IV), (∀ v ∈ xs, rowOk v = true) → acc.length + xs.length ≤ 1000000 → ∀ Λ1 : Option IV,
    iLcGo ⟨all, none⟩ (giN 1) (iTest (iBin fEq (iBin fIx (iVar 1) (iC (.int 0))) (iC (.str "call")))) (iVar 1) xs [some y, Λ1] S acc = .ok (acc ++ xs.filter isCall) S
  | [], acc, _, _, Λ1 => by unfold iLcGo; rw [chkP_pos (stay_none _ _)]; simp
  | v :: xs, acc, h, hl, Λ1 => by
    have hv := h v List.mem_cons_self
    have hsz : acc.length < sizeLine := by rw [szl]; simp at hl; omega
    unfold iLcGo
    rw [chkP_pos (stay_none _ _)]
    match v, hv with
    | .tup (.str w :: ys), _ =>
      by_cases hw : w = "call"
      · have ih := calls_go (all := all) (x := x) (y := y) (S := S) xs (acc ++ [.tup (.str w :: ys)]) (fun u hu => h u (List.mem_cons_of_mem _ hu)) (by simp at hl ⊢; omega) Λ1
        have hf : (IV.tup (.str w :: ys) :: xs).filter isCall = .tup (.str w :: ys) :: xs.filter isCall := by
          rw [List.filter_cons]; simp [isCall, hw]
        rw [hf]
        simp [iVar_s, hw, chk_pos, hsz]
        have ih' := ih
        rw [hw] at ih'
        simpa using ih'
      · have ih := calls_go (all := all) (x := x) (y := y) (S := S) xs acc (fun u hu => h u (List.mem_cons_of_mem _ hu)) (by simp at hl ⊢; omega) Λ1
        have hf : (IV.tup (.str w :: ys) :: xs).filter isCall = xs.filter isCall := by
          rw [List.filter_cons]; simp [isCall, hw]
        rw [hf]
        simp [iVar_s, hw]
        exact ih
end
end RD

set_option maxHeartbeats 4000000
/-! weights -/
namespace RD
open PySem PySem.Spec PyProof.Rows L2 Sm
section
variable {S : Sto}
def callsN (body : List IV) : Nat := (body.filter isCall).length
theorem call_rows_ok {body : List IV} (h : ∀ v ∈ body, rowOk v = true) (hl : body.length ≤ 1000000) : m_call_rows [.tup body] S = .ok (.int (callsN body)) S := by
  have e := calls_go (all := body) (x := none) (y := .tup body) (S := S) body [] h (by simpa using hl) none
  have hf : (body.filter isCall).length ≤ sizeLine := by
    have := List.length_filter_le isCall body
    rw [szl]; omega
  unfold m_call_rows
  refine mDef_rt ?_
  unfold b_call_rows
  simp only [List.map_cons, List.map_nil, List.length_cons, List.length_nil, List.replicate, List.cons_append, List.nil_append, iRet_e, iCa_e, iCons_e, iNil_e, iLc_e]
  have src : iSrcT (iVar 0) [some (.tup body), none] S = .ok ⟨body, none⟩ S := by
    unfold iSrcT
    rw [iVar_s rfl]
    rfl
  rw [src]
  simp only [Out.bind_ok]
  rw [show wipeI [some (IV.tup body), none] [1] = [some (IV.tup body), none] from rfl, e]
  simp [chk_pos, hf, callsN]
/-- the greatest weight, def by def -/
def weigh : List (List IV) → Nat → Nat
  | [], g => g
  | body :: r, g => weigh r (max g (1 + callsN body * max 1 g))
/-- what a dict of defs holds -/
def defsV (ds : List (Str × Str × IV × List IV)) : List (Key × IV) := ds.map fun d => (.inr d.1, .tup [.str d.2.1, d.2.2.1])
end
end RD

set_option maxHeartbeats 4000000
/-! the greatest weight -/
namespace RD
open PySem PySem.Spec PyProof.Rows L2 Sm
structure DefV where
  key : Str
  v : IV
  body : List IV
structure DefV.Ok (d : DefV) : Prop where
  row : ∃ row, (∀ S, fIx d.v (.int 1) S = .ok row S) ∧ ∀ S, fIx row (.int 5) S = .ok (.tup d.body) S
  rows : ∀ v ∈ d.body, rowOk v = true
  len : d.body.length ≤ 1000
def kvsD (ds : List DefV) : List (Key × IV) := ds.map fun d => (.inr d.key, d.v)
def weighD (ds : List DefV) (g : Nat) : Nat := weigh (ds.map (·.body)) g
theorem find_d {ds : List DefV} {d : DefV} (hm : d ∈ ds) (nn : (ds.map (·.key)).Nodup) : valI (kvsD ds) (.inr d.key) = some d.v := by
  unfold valI kvsD
  induction ds with
  | nil => cases hm
  | cons x ds ih =>
    rw [List.map_cons, List.find?_cons]
    rcases List.mem_cons.mp hm with rfl | hm'
    · simp
    · have hne : x.key ≠ d.key := fun e => by
        rw [List.map_cons, List.nodup_cons] at nn
        exact nn.1 (List.mem_map.mpr ⟨d, hm', e.symm⟩)
      have : decide ((Sum.inr x.key : Key) = .inr d.key) = false := decide_eq_false fun e => hne (Sum.inr.inj e)
      simp only [this]
      exact ih hm' (List.nodup_cons.mp nn).2
noncomputable def wB : IS := iSeq (iSet 3 (iBin fIx (iBin fIx (iBin fDGet (iVar 0) (iVar 2)) (iC (.int 1))) (iC (.int 5)))) (iSet 1 (iCa fMax2 (iCons (iVar 1) (iCons (iBin fAdd (iC (.int 1)) (iBin fMul (iCall 1 m_call_rows (iCons (iVar 3) iNil)) (iCa fMax2 (iCons (iC (.int 1)) (iCons (iVar 1) iNil))))) iNil))))
theorem wB_e {S : Sto} {a : Nat} {ds : List DefV} (hd : S[a]? = some (.dicL (kvsD ds))) (nn : (ds.map (·.key)).Nodup) {d : DefV} (hm : d ∈ ds) (ok : d.Ok) {g : Nat} (hg : g < 1000000) (x : Option IV) :
    wB [some (.adr a), some (.int g), some (.str d.key), x] S = .ok (.nx [some (.adr a), some (.int ((max g (1 + callsN d.body * max 1 g) : Nat) : Int)), some (.str d.key), some (.tup d.body)]) S := by
  obtain ⟨row, r1, r2⟩ := ok.row
  have e1 : fDGet (.adr a) (.str d.key) S = .ok d.v S := by
    unfold fDGet
    rw [onD_l hd]
    show orBad (valI _ (.inr d.key)) _ = _
    rw [find_d hm nn]
    rfl
  have hc : callsN d.body ≤ 1000 := Nat.le_trans (List.length_filter_le _ _) ok.len
  have e2 := call_rows_ok (S := S) ok.rows (by have := ok.len; omega)
  have km : CMul (callsN d.body : Int) (if (g : Int) > 1 then (g : Int) else 1) := by
    have hp : (1000 : Int) < 2 ^ 64 := by decide
    have hn : -(2 ^ 64) < (0 : Int) := by decide
    exact .inl ⟨by omega, by omega⟩
  have ev : (if (1 + (callsN d.body : Int) * (if (g : Int) > 1 then (g : Int) else 1)) > (g : Int) then (1 + (callsN d.body : Int) * (if (g : Int) > 1 then (g : Int) else 1)) else (g : Int)) = ((max g (1 + callsN d.body * max 1 g) : Nat) : Int) := by
    have e3 : (if (g : Int) > 1 then (g : Int) else 1) = ((max 1 g : Nat) : Int) := by
      split <;> omega
    rw [e3]
    have e4 : (1 : Int) + (callsN d.body : Int) * ((max 1 g : Nat) : Int) = ((1 + callsN d.body * max 1 g : Nat) : Int) := by rw [Int.natCast_add, Int.natCast_mul]; rfl
    rw [e4]
    split <;> omega
  have f1 : iBin fIx (iBin fIx (iBin fDGet (iVar 0) (iVar 2)) (iC (.int 1))) (iC (.int 5)) [some (.adr a), some (.int g), some (.str d.key), x] S = .ok (.tup d.body) S := by
    simp [iVar_s, e1, r1, r2]
  have f2 : iCa fMax2 (iCons (iVar 1) (iCons (iBin fAdd (iC (.int 1)) (iBin fMul (iCall 1 m_call_rows (iCons (iVar 3) iNil)) (iCa fMax2 (iCons (iC (.int 1)) (iCons (iVar 1) iNil))))) iNil)) [some (.adr a), some (.int g), some (.str d.key), some (.tup d.body)] S = .ok (.int ((max g (1 + callsN d.body * max 1 g) : Nat) : Int)) S := by
    have a1 : iVar 1 [some (.adr a), some (.int g), some (.str d.key), some (.tup d.body)] S = .ok (.int g) S := iVar_s rfl
    have a2 : iCall 1 m_call_rows (iCons (iVar 3) iNil) [some (.adr a), some (.int g), some (.str d.key), some (.tup d.body)] S = .ok (.int (callsN d.body)) S := by simp [iVar_s, e2, chk_pos]
    have a3 : iCa fMax2 (iCons (iC (.int 1)) (iCons (iVar 1) iNil)) [some (.adr a), some (.int g), some (.str d.key), some (.tup d.body)] S = .ok (.int (if (g : Int) > 1 then (g : Int) else 1)) S := by
      rw [iCa_e, iCons_e, iC_e, Out.bind_ok, iCons_e, a1]
      rfl
    generalize (if (g : Int) > 1 then (g : Int) else 1) = mx at km ev a3
    have a4 : iBin fMul (iCall 1 m_call_rows (iCons (iVar 3) iNil)) (iCa fMax2 (iCons (iC (.int 1)) (iCons (iVar 1) iNil))) [some (.adr a), some (.int g), some (.str d.key), some (.tup d.body)] S = .ok (.int ((callsN d.body : Int) * mx)) S := by
      rw [iBin_e, a2, Out.bind_ok, a3, Out.bind_ok]
      unfold fMul
      rw [fI_i, chk_pos km]
    have a5 : iBin fAdd (iC (.int 1)) (iBin fMul (iCall 1 m_call_rows (iCons (iVar 3) iNil)) (iCa fMax2 (iCons (iC (.int 1)) (iCons (iVar 1) iNil)))) [some (.adr a), some (.int g), some (.str d.key), some (.tup d.body)] S = .ok (.int (1 + (callsN d.body : Int) * mx)) S := by
      rw [iBin_e, iC_e, Out.bind_ok, a4, Out.bind_ok]
      rfl
    rw [← ev, iCa_e, iCons_e, a1, Out.bind_ok, iCons_e, a5, Out.bind_ok, iNil_e, Out.bind_ok, Out.bind_ok]
    rfl
  unfold wB
  rw [seq_ok (set_ok f1)]
  exact set_ok f2
end RD

set_option maxHeartbeats 4000000
/-! the greatest weight of all defs -/
namespace RD
open PySem PySem.Spec PyProof.Rows L2 Sm
theorem weights_go {S : Sto} {a : Nat} {ds : List DefV} {all : List IV} (hd : S[a]? = some (.dicL (kvsD ds))) (nn : (ds.map (·.key)).Nodup) : ∀ (es : List DefV) (g : Nat) (k x : Option IV), (∀ d ∈ es, d ∈ ds ∧ d.Ok) → (∀ n, weighD (es.take n) g < 1000000) →
    ∃ k' x', iIter ⟨all, none⟩ (iName 2) wB (es.map fun d => .str d.key) [some (.adr a), some (.int g), k, x] S = .ok (.nx [some (.adr a), some (.int (weighD es g)), k', x']) S
  | [], g, k, x, _, _ => ⟨k, x, by
      rw [List.map_nil]
      unfold iIter
      rw [chkP_pos (stay_none _ _)]
      rfl⟩
  | d :: es, g, k, x, h, hb => by
    obtain ⟨hm, ok⟩ := h d List.mem_cons_self
    have hg : g < 1000000 := by simpa [weighD, weigh] using hb 0
    have e := wB_e hd nn hm ok hg x
    obtain ⟨k', x', e'⟩ := weights_go (all := all) hd nn es (max g (1 + callsN d.body * max 1 g)) (some (.str d.key)) (some (.tup d.body)) (fun u hu => h u (List.mem_cons_of_mem _ hu)) (fun n => by simpa [weighD, weigh] using hb (n + 1))
    refine ⟨k', x', ?_⟩
    rw [List.map_cons]
    unfold iIter
    rw [chkP_pos (stay_none _ _), iName_e, Out.bind_ok]
    have e2 : ([some (.adr a), some (.int g), k, x] : Slots).set 2 (some (.str d.key)) = [some (.adr a), some (.int g), some (.str d.key), x] := rfl
    rw [e2, e, Out.bind_ok]
    exact e'
end RD
namespace RD
open PySem PySem.Spec PyProof.Rows L2 Sm
theorem greatest_ok {S : Sto} {a : Nat} {ds : List DefV} (hd : S[a]? = some (.dic (kvsD ds))) (nn : (ds.map (·.key)).Nodup) (h : ∀ d ∈ ds, d.Ok) (hb : ∀ n, weighD (ds.take n) 0 < 1000000) : m_greatest_weight [.adr a] S = .ok (.int (weighD ds 0)) S := by
  have hl := lt_of hd
  have g1 : (S.set a (.dicL (kvsD ds)))[a]? = some (.dicL (kvsD ds)) := get_self hd
  have ek : (kvsD ds).map (fun kv => keyV kv.1) = ds.map fun d => IV.str d.key := by
    unfold kvsD
    rw [List.map_map]
    rfl
  obtain ⟨k', x', e⟩ := weights_go (all := ds.map fun d => IV.str d.key) g1 nn ds 0 none none (fun d hm => ⟨hm, h d hm⟩) hb
  have eF : iForD (iVar 0) (iName 2) wB [some (.adr a), some (.int 0), none, none] S = .ok (.nx [some (.adr a), some (.int (weighD ds 0)), k', x']) S := by
    unfold iForD
    have v1 : iVar 0 [some (.adr a), some (.int 0), none, none] S = .ok (.adr a) S := iVar_s rfl
    have v2 : iVar 0 [some (.adr a), some (.int 0), none, none] (S.set a (.dicL (kvsD ds))) = .ok (.adr a) (S.set a (.dicL (kvsD ds))) := iVar_s rfl
    have e' : iIter ⟨ds.map fun d => IV.str d.key, none⟩ (iName 2) wB (ds.map fun d => .str d.key) [some (.adr a), some (.int 0), none, none] (S.set a (.dicL (kvsD ds))) = _ := e
    simp only [v1, hd, v2, if_pos, ek]
    rw [e']
    unfold unlD
    simp only [g1, List.set_set]
    rw [show S.set a (.dic (kvsD ds)) = S from by
      refine List.ext_getElem? fun i => ?_
      by_cases hi : i = a
      · subst hi; rw [List.getElem?_set_self hl, hd]
      · rw [List.getElem?_set_ne (Ne.symm hi)]]
  unfold m_greatest_weight
  refine mDef_rt ?_
  show b_greatest_weight [some (.adr a), none, none, none] S = _
  unfold b_greatest_weight
  rw [seq_ok (Λ1 := [some (.adr a), some (.int 0), none, none]) (set_ok (v := .int 0) rfl)]
  unfold wB at eF
  rw [seq_ok eF, iRet_e, iVar_s rfl]
  rfl
end RD

set_option maxHeartbeats 4000000
/-! a new reader -/
namespace RD
open PySem PySem.Spec PyProof.Rows L2 Sm
theorem set_app0 (S T : Sto) (c c' : Cell) : (S ++ c :: T).set S.length c' = S ++ c' :: T := by simp
theorem get_app0 (S T : Sto) (c : Cell) : (S ++ c :: T)[S.length]? = some c := by simp
theorem setF_app {C f : Str} {mo mv : IE} {Λ : Slots} {S0 S T : Sto} {v : IV} {fs : List (Str × IV)} {S1 : Sto} (hv : mv Λ S0 = .ok v S1) (ho : mo Λ S1 = .ok (.adr S.length) S1) (e : S1 = S ++ .ins C fs :: T) (hl : fs.length < 1000) :
    iSetF C f mo mv Λ S0 = .ok (.nx Λ) (S ++ .ins C (putI f v fs) :: T) := by
  unfold iSetF
  rw [hv, Out.bind_ok, ho, Out.bind_ok]
  subst e
  rw [onI_s (get_app0 S T _), chk_pos hl, set_app0]
theorem make_reader (S : Sto) (L : List Str) (hL : L.length ≤ 1000000) : ∃ S', m_Reader___init__ [.adr S.length, .lst (L.map .str)] (S ++ [.ins "Reader" []]) = .ok .non S' ∧ Rep S S.length L S' ⟨0, [], [], [], .non⟩ := by
  let Λ : Slots := [some (.adr S.length), some (.lst (L.map .str))]
  have hz : (L.map IV.str).length ≤ sizeLine := by rw [List.length_map, szl]; omega
  have v0 : ∀ T, iVar 0 Λ T = .ok (.adr S.length) T := fun T => iVar_s rfl
  have t1 : iCa (fList false) (iCons (iVar 1) iNil) Λ (S ++ [.ins "Reader" []]) = .ok (.lst (L.map .str)) (S ++ [.ins "Reader" []]) := by
    have : fList false [.lst (L.map IV.str)] (S ++ [.ins "Reader" []]) = .ok (.lst (L.map .str)) (S ++ [.ins "Reader" []]) := by
      show mkL false _ _ = _
      rw [mkL_f, chk_pos hz]
    rw [iCa_e, iCons_e, show iVar 1 Λ (S ++ [Cell.ins "Reader" []]) = .ok (.lst (L.map .str)) (S ++ [.ins "Reader" []]) from iVar_s rfl]
    exact this
  have nl : ∀ T, iLst true iNil Λ T = .ok (.adr T.length) (T ++ [.lst []]) := fun T => by simp [chk_pos]
  have nd : ∀ T, iDNew Λ T = .ok (.adr T.length) (T ++ [.dic []]) := fun T => rfl
  have pl := fun (f : Str) (v : IV) (fs : List (Str × IV)) => putI_len f v fs
  refine ⟨S ++ [.ins "Reader" (rFs S.length L 0 .non), .lst [], .dic [], .dic [], .dic [], .dic []], ?_, ?_⟩
  · unfold m_Reader___init__
    refine mDef_nx (L := Λ) ?_
    show b_Reader___init__ Λ (S ++ [.ins "Reader" []]) = _
    unfold b_Reader___init__
    have e1 := setF_app (f := "lines") (S := S) (T := []) (mo := iVar 0) t1 (v0 _) rfl (by decide)
    rw [seq_ok e1]
    have e2 := setF_app (f := "at") (S := S) (T := []) (mo := iVar 0) (mv := iC (.int 0)) (Λ := Λ) (S0 := S ++ [.ins "Reader" (putI "lines" (.lst (L.map .str)) [])]) rfl (v0 _) rfl (by have := pl "lines" (.lst (L.map .str)) []; simp only [List.length_nil] at this; omega)
    rw [seq_ok e2]
    have ln : ∀ (f : Str) (v : IV) (fs : List (Str × IV)) (k : Nat), fs.length ≤ k → (putI f v fs).length ≤ k + 1 := fun f v fs k h => Nat.le_trans (pl f v fs) (Nat.succ_le_succ h)
    have l0 : ([] : List (Str × IV)).length ≤ 0 := Nat.le_refl _
    have l2 := ln "at" (.int 0) _ _ (ln "lines" (.lst (L.map .str)) _ _ l0)
    generalize hf2 : putI "at" (.int 0) (putI "lines" (.lst (L.map .str)) []) = f2 at l2
    have e3 := setF_app (C := "Reader") (fs := f2) (f := "modules") (S := S) (T := [.lst []]) (mo := iVar 0) (mv := iLst true iNil) (Λ := Λ) (S0 := S ++ [.ins "Reader" f2]) (nl _) (v0 _) (List.append_assoc _ _ _) (by omega)
    rw [seq_ok e3]
    have l3 := ln "modules" (.adr (S ++ [Cell.ins "Reader" f2]).length) _ _ l2
    generalize hf3 : putI "modules" (.adr (S ++ [Cell.ins "Reader" f2]).length) f2 = f3 at l3
    have e4 := setF_app (C := "Reader") (fs := f3) (f := "rows") (S := S) (T := [.lst [], .dic []]) (mo := iVar 0) (mv := iDNew) (Λ := Λ) (S0 := S ++ [.ins "Reader" f3, .lst []]) (nd _) (v0 _) (List.append_assoc _ _ _) (by omega)
    rw [seq_ok e4]
    have l4 := ln "rows" (.adr (S ++ [Cell.ins "Reader" f3, .lst []]).length) _ _ l3
    generalize hf4 : putI "rows" (.adr (S ++ [Cell.ins "Reader" f3, .lst []]).length) f3 = f4 at l4
    have e5 := setF_app (C := "Reader") (fs := f4) (f := "declared") (S := S) (T := [.lst [], .dic [], .dic []]) (mo := iVar 0) (mv := iDNew) (Λ := Λ) (S0 := S ++ [.ins "Reader" f4, .lst [], .dic []]) (nd _) (v0 _) (List.append_assoc _ _ _) (by omega)
    rw [seq_ok e5]
    have l5 := ln "declared" (.adr (S ++ [Cell.ins "Reader" f4, .lst [], .dic []]).length) _ _ l4
    generalize hf5 : putI "declared" (.adr (S ++ [Cell.ins "Reader" f4, .lst [], .dic []]).length) f4 = f5 at l5
    have e6 := setF_app (C := "Reader") (fs := f5) (f := "places") (S := S) (T := [.lst [], .dic [], .dic [], .dic []]) (mo := iVar 0) (mv := iDNew) (Λ := Λ) (S0 := S ++ [.ins "Reader" f5, .lst [], .dic [], .dic []]) (nd _) (v0 _) (List.append_assoc _ _ _) (by omega)
    rw [seq_ok e6]
    have l6 := ln "places" (.adr (S ++ [Cell.ins "Reader" f5, .lst [], .dic [], .dic []]).length) _ _ l5
    generalize hf6 : putI "places" (.adr (S ++ [Cell.ins "Reader" f5, .lst [], .dic [], .dic []]).length) f5 = f6 at l6
    have e7 := setF_app (C := "Reader") (fs := f6) (f := "defs") (S := S) (T := [.lst [], .dic [], .dic [], .dic [], .dic []]) (mo := iVar 0) (mv := iDNew) (Λ := Λ) (S0 := S ++ [.ins "Reader" f6, .lst [], .dic [], .dic [], .dic []]) (nd _) (v0 _) (List.append_assoc _ _ _) (by omega)
    rw [seq_ok e7]
    have l7 := ln "defs" (.adr (S ++ [Cell.ins "Reader" f6, .lst [], .dic [], .dic [], .dic []]).length) _ _ l6
    have e8 := setF_app (C := "Reader") (fs := putI "defs" (.adr (S ++ [Cell.ins "Reader" f6, .lst [], .dic [], .dic [], .dic []]).length) f6) (f := "kept") (S := S) (T := [.lst [], .dic [], .dic [], .dic [], .dic []]) (mo := iVar 0) (mv := iC .non) (Λ := Λ) (S0 := S ++ [.ins "Reader" (putI "defs" (.adr (S ++ [Cell.ins "Reader" f6, .lst [], .dic [], .dic [], .dic []]).length) f6), .lst [], .dic [], .dic [], .dic [], .dic []]) rfl (v0 _) rfl (by omega)
    rw [e8, ← hf6, ← hf5, ← hf4, ← hf3, ← hf2]
    simp only [List.length_append, List.length_cons, List.length_nil]
    rfl
  · refine ⟨.app _, Nat.le_refl _, get_app0 _ _ _, by simp, by simp, by simp, by simp, by simp, fun m hm => (by cases hm), by simp, by simp, by simp⟩
end RD

set_option maxHeartbeats 4000000
/-! lines of a text -/
namespace RD
open PySem PySem.Spec PyProof.Rows L2 Sm
theorem lines_of_ok {S : Sto} {t : Str} {L : List Str} (ht : t.length ≤ 1000000) (hn : ¬ t = "") (hs : Txt.split t "\n" = L) (hL : L.length ≤ 1000000) : m_lines_of [.str t] S = .ok (.lst (L.map .str)) S := by
  have h1 : ((("\n" : Str).length == 0) = false) ∧ t.length + 2 ≤ sizeLine := ⟨by decide +kernel, by rw [szl]; omega⟩
  have e : fSplit false (.str t) [.str "\n"] S = .ok (.lst (L.map .str)) S := by
    show chk _ (mkL false ((Txt.split t "\n").map IV.str) S) = _
    rw [chk_pos h1, mkL_f, hs, chk_pos (by rw [List.length_map, szl]; omega)]
  have tt : iTest (iBin fEq (iVar 0) (iC (.str ""))) [some (.str t)] S = .ok false S := by simp [iVar_s, hn]
  unfold m_lines_of
  refine mDef_rt ?_
  show b_lines_of [some (.str t)] S = _
  unfold b_lines_of
  rw [seq_ok (Λ1 := [some (.str t)]) (S1 := S) ((if_f tt).trans rfl)]
  simp [iVar_s, hasTy, chk_pos, e]
/-- a text of lines, read back -/
theorem split_lines {L : List Str} (hne : L ≠ []) (h : ∀ s ∈ L, 10 ∉ sg s) : Txt.split (Txt.join "\n" L) "\n" = L :=
  TL.split_join (y := "\n") (s := 10) (S := []) (by decide +kernel) (by decide +kernel) hne h
theorem split_words {ws : List Str} (hne : ws ≠ []) (h : ∀ s ∈ ws, 32 ∉ sg s) : wordsOf (Txt.join " " ws) = ws :=
  TL.split_join (y := " ") (s := 32) (S := []) (by decide +kernel) (by decide +kernel) hne h
end RD

set_option maxHeartbeats 4000000
/-! a project is made -/
namespace RD
open PySem PySem.Spec PyProof.Rows L2 Sm
/-- a text of lines -/
structure TxOk (t : Str) (L : List Str) : Prop where
  len : t.length ≤ 1000000
  ne : ¬ t = ""
  sp : Txt.split t "\n" = L
  cnt : L.length ≤ 1000000
/-- the front of Project(text): a reader is made, and reads -/
theorem proj_front {S : Sto} {o : Nat} {t : Str} {L : List Str} (h : TxOk t L) : ∃ S1, Rep S S.length L S1 ⟨0, [], [], [], .non⟩ ∧ (∀ (B : Sto) (k : Int), Err B (m_Reader_read [.adr S.length] S1) k → Err B (m_Project___init__ [.adr o, .str t] S) k) := by
  obtain ⟨S1, e1, R1⟩ := make_reader S L h.cnt
  refine ⟨S1, R1, fun B k hk => Err.mdef ?_⟩
  let Λ0 : Slots := [some (.adr o), some (.str t), none, none, none]
  let Λ2 : Slots := [some (.adr o), some (.str t), some (.lst (L.map .str)), none, none]
  let Λ3 : Slots := [some (.adr o), some (.str t), some (.lst (L.map .str)), some (.adr S.length), none]
  have k1 : kitN "str" "str" = some true := by decide +kernel
  have t0 : iNot (iTru (iCa fIsi (iCons (iVar 1) (iCons (iC (.ty "str")) iNil)))) Λ0 S = .ok false S := by simp [Λ0, iVar_s, k1]
  have t1 : iCall 1 m_lines_of (iCons (iVar 1) iNil) Λ0 S = .ok (.lst (L.map .str)) S := by simp [Λ0, iVar_s, lines_of_ok h.len h.ne h.sp h.cnt, chk_pos]
  have t2 : iMake "Reader" 2 m_Reader___init__ (iCons (iVar 2) iNil) Λ2 S = .ok (.adr S.length) S1 := by
    unfold iMake
    simp [Λ2, iVar_s, e1, chk_pos, isN]
  have t3 : iMeth "Reader" "read" 1 m_Reader_read (iVar 3) iNil Λ3 S1 = relab Λ3 (m_Reader_read [.adr S.length] S1) := by
    rw [meth_s (iVar_s rfl) R1.self rfl]
    simp [chk_pos]
  have e3 := hk.relab Λ3
  rw [← t3] at e3
  show Err B (b_Project___init__ Λ0 S) k
  unfold b_Project___init__
  rw [seq_ok (Λ1 := Λ0) (S1 := S) ((if_f t0).trans rfl), seq_ok (Λ1 := Λ2) (set_ok t1), seq_ok (Λ1 := Λ3) (set_ok t2)]
  exact seq_err (drop_err e3)
end RD

set_option maxHeartbeats 2000000
/-! a project is made, to the end -/
namespace RD
open PySem PySem.Spec PyProof.Rows L2 Sm
/-- a bound is passed -/
def TM (o : Nat) (S : Sto) (out : Out IV) (w : Str) : Prop := ∃ n Λ S3, out = .exc "TooMany" n Λ S3 ∧ S3[n]? = some (.xd [("what", .str w)]) ∧ Ext [o] S S3
/-- what a project holds -/
def pFs (r : Nat) (t : Str) (w : Nat) (ns : List Str) (rows : Nat) (kept : IV) : List (Str × IV) :=
  [("weight", .int w), ("text", .str t), ("modules", .tup (ns.map IV.str)), ("rows", .adr rows), ("declared", .adr (r + 3)), ("defs", .adr (r + 5)), ("lines", .adr (r + 4)), ("kept", kept)]
theorem setF_e {C f : Str} {mo mv : IE} {Λ : Slots} {S S1 S2 : Sto} {v : IV} {o : Nat} {fs : List (Str × IV)} (hv : mv Λ S = .ok v S1) (ho : mo Λ S1 = .ok (.adr o) S2) (h : S2[o]? = some (.ins C fs)) (hl : fs.length < 1000) :
    iSetF C f mo mv Λ S = .ok (.nx Λ) (S2.set o (.ins C (putI f v fs))) := by
  unfold iSetF
  rw [hv, Out.bind_ok, ho, Out.bind_ok, onI_s h, chk_pos hl]
theorem putK_end (acc : List (Key × IV)) (k : Key) (z : IV) (h : k ∉ acc.map (·.1)) : putK' acc k z = acc ++ [(k, z)] := by
  unfold putK'
  rw [if_neg]
  intro hz
  apply h
  simp only [List.any_eq_true, decide_eq_true_eq] at hz
  obtain ⟨p, hp, e⟩ := hz
  exact List.mem_map.mpr ⟨p, hp, e⟩
/-- {k(a): v(a) for a in as}, the keys differ -/
theorem dcgo_map {α : Type} {s : Src} {gi : IV → Slots → Option Slots} {tk tv : IE} {Λ : Slots} {S : Sto} (st : s.stay S) (e : α → IV) (key : α → Str) (val : α → IV) : ∀ (as : List α) (acc : List (Key × IV)), (∀ a ∈ as, ∃ L, gi (e a) Λ = some L ∧ tk L S = .ok (.str (key a)) S ∧ tv L S = .ok (val a) S) →
    (acc.map (·.1) ++ as.map fun a => (.inr (key a) : Key)).Nodup → acc.length + as.length ≤ sizeLine → iDcGo s gi iYes tk tv (as.map e) Λ S acc = .ok (acc ++ as.map fun a => (.inr (key a), val a)) S
  | [], acc, _, _, _ => by show iDcGo s gi iYes tk tv [] Λ S acc = _; unfold iDcGo; rw [chkP_pos st]; simp
  | a :: as, acc, h, hd, hl => by
    obtain ⟨L, h1, h2, h3⟩ := h a List.mem_cons_self
    rw [List.length_cons] at hl
    have nk : (Sum.inr (key a) : Key) ∉ acc.map (·.1) := fun z => by
      rw [List.nodup_append] at hd
      exact hd.2.2 _ z (Sum.inr (key a)) (by simp) rfl
    show iDcGo s gi iYes tk tv (e a :: as.map e) Λ S acc = _
    unfold iDcGo
    rw [chkP_pos st, h1, orBad_some]
    show Out.bind (noX (Out.ok true S)) _ = _
    rw [noX_ok, Out.bind_ok, if_pos rfl, h2, noX_ok, Out.bind_ok, h3, noX_ok, Out.bind_ok]
    show orBad (some (Sum.inr (key a))) _ = _
    rw [orBad_some, chk_pos (by omega), putK_end acc _ _ nk, dcgo_map st e key val as _ (fun b hb => h b (List.mem_cons_of_mem _ hb)) (by simpa [List.append_assoc] using hd) (by rw [List.length_append, List.length_singleton]; omega)]
    simp
/-- the rows as the project keeps them -/
def rowsD (ms : List Mod) : List (Key × IV) := ms.map fun m => (.inr m.name, .tup m.rows)
theorem tupRows {S : Sto} {n : Nat} {xs : List IV} (h : S[n]? = some (.lst xs)) (hl : xs.length ≤ 1000000) : fTuple [.adr n] S = .ok (.tup xs) S := tuple_a h hl
section
variable {o : Nat} {S S2 : Sto} {t : Str} {L : List Str} {q : RQ} {r : Nat} {B : Sto}
def pL (o : Nat) (t : Str) (L : List Str) (r : Nat) : Slots := [some (.adr o), some (.str t), some (.lst (L.map IV.str)), some (.adr r), none]
theorem rows_e (R : Rep B r L S q) (hm : q.ms.length < 100000) (hr : ∀ m ∈ q.ms, m.rows.length < 1000000) : iDc (iSrcL (iUn (fFld "Reader" "modules") (iVar 3))) (giN 4) iYes (iVar 4) (iCa fTuple (iCons (iBin fDGet (iUn (fFld "Reader" "rows") (iVar 3)) (iVar 4)) iNil)) [4] (pL o t L r) S =
    .ok (.adr S.length) (S ++ [.dic (rowsD q.ms)]) := by
  have src : iSrcL (iUn (fFld "Reader" "modules") (iVar 3)) (pL o t L r) S = .ok ⟨q.ms.map fun m => IV.str m.name, some (r + 1)⟩ S := by
    rw [iSrcL_e, iUn_fld, iVar_s (x := .adr r) rfl, Out.bind_ok, fld_modules R, Out.bind_ok]
    unfold fSrcL
    simp only [R.mods]
  unfold iDc
  rw [src, Out.bind_ok]
  have st : Src.stay ⟨q.ms.map fun m => IV.str m.name, some (r + 1)⟩ S := R.mods
  rw [dcgo_map (s := ⟨q.ms.map fun m => IV.str m.name, some (r + 1)⟩) (gi := giN 4) (tk := iVar 4) (Λ := wipeI (pL o t L r) [4]) st (fun m : Mod => IV.str m.name) (fun m => m.name) (fun m => .tup m.rows) q.ms [] (fun m hm' => ⟨_, rfl, iVar_s rfl, by
    have i3 : iVar 3 ((wipeI (pL o t L r) [4]).set 4 (some (.str m.name))) S = .ok (.adr r) S := iVar_s rfl
    have i4 : iVar 4 ((wipeI (pL o t L r) [4]).set 4 (some (.str m.name))) S = .ok (.str m.name) S := iVar_s rfl
    rw [iCa_e, iCons_e, iBin_e, iUn_fld, i3, Out.bind_ok, fld_rows R, Out.bind_ok, i4, Out.bind_ok, get_rows R hm', Out.bind_ok, iNil_e, Out.bind_ok, Out.bind_ok, tupRows (R.ms m hm').a (by have := hr m hm'; omega)]⟩) (by
      rw [List.map_nil, List.nil_append]
      have := R.nn
      rw [show (q.ms.map fun a => (Sum.inr a.name : Key)) = (q.ms.map (·.name)).map Sum.inr by rw [List.map_map]; rfl]
      exact List.Pairwise.map _ (fun a b hab he => hab (Sum.inr.inj he)) this) (by rw [szl]; simp; omega)]
  rfl
theorem Rep.far {S' : Sto} (R : Rep B r L S q) (hn : o < r) (x : Ext [o] S S') : Rep [] r L S' q := by
  have g : ∀ {m : Nat} {c : Cell}, r ≤ m → S[m]? = some c → S'[m]? = some c := fun hm e => x.get e (by simp; omega)
  exact ⟨⟨Nat.zero_le _, fun m c e => by simp at e⟩, Nat.zero_le _, g (Nat.le_refl _) R.self, g (by omega) R.mods, g (by omega) R.rows, g (by omega) R.decl, g (by omega) R.places, g (by omega) R.defs,
    fun m hm => ⟨g (by have := (R.ms m hm).la; omega) (R.ms m hm).a, g (by have := (R.ms m hm).ld; omega) (R.ms m hm).d, (R.ms m hm).la, (R.ms m hm).ld, (R.ms m hm).nm, (R.ms m hm).db⟩, R.na, R.nd, R.nn⟩
theorem setF_self {f : Str} {mv : IE} {S1 : Sto} {v : IV} {fs : List (Str × IV)} (hv : mv (pL o t L r) S = .ok v S1) (h : S1[o]? = some (.ins "Project" fs)) (hl : fs.length < 1000) : iSetF "Project" f (iVar 0) mv (pL o t L r) S = .ok (.nx (pL o t L r)) (S1.set o (.ins "Project" (putI f v fs))) :=
  setF_e hv (iVar_s rfl) h hl
theorem proj_end (h : TxOk t L) (ho : S[o]? = some (.ins "Project" [])) : ∃ S1, Rep S S.length L S1 ⟨0, [], [], [], .non⟩ ∧ (∀ (B : Sto) (k : Int), Err B (m_Reader_read [.adr S.length] S1) k → Err B (m_Project___init__ [.adr o, .str t] S) k) ∧
    ∀ (S2 : Sto) (q : RQ) (ds : List DefV), m_Reader_read [.adr S.length] S1 = .ok .non S2 → Rep S S.length L S2 q → q.defs = kvsD ds → (ds.map (·.key)).Nodup → (∀ d ∈ ds, d.Ok) → (∀ n, weighD (ds.take n) 0 < 1000000) → q.ms.length < 100000 → (∀ m ∈ q.ms, m.rows.length < 1000000) →
      (150 < L.length → TM o S (m_Project___init__ [.adr o, .str t] S) "lines") ∧ (¬ 150 < L.length → 6 < q.ms.length → TM o S (m_Project___init__ [.adr o, .str t] S) "modules") ∧
      (¬ 150 < L.length → ¬ 6 < q.ms.length → 100 < weighD ds 0 → TM o S (m_Project___init__ [.adr o, .str t] S) "weight") ∧
      (¬ 150 < L.length → ¬ 6 < q.ms.length → ¬ 100 < weighD ds 0 → ∃ S3 d, m_Project___init__ [.adr o, .str t] S = .ok .non S3 ∧ S3[o]? = some (.ins "Project" (pFs S.length t (weighD ds 0) (q.ms.map (·.name)) d q.kept)) ∧ S3[d]? = some (.dic (rowsD q.ms)) ∧ Ext [o] S S3 ∧ Ext [o] S2 S3) := by
  obtain ⟨S1, e1, R1⟩ := make_reader S L h.cnt
  let Λ0 : Slots := [some (.adr o), some (.str t), none, none, none]
  let Λ2 : Slots := [some (.adr o), some (.str t), some (.lst (L.map .str)), none, none]
  have k1 : kitN "str" "str" = some true := by decide +kernel
  have t0 : iNot (iTru (iCa fIsi (iCons (iVar 1) (iCons (iC (.ty "str")) iNil)))) Λ0 S = .ok false S := by simp [Λ0, iVar_s, k1]
  have t1 : iCall 1 m_lines_of (iCons (iVar 1) iNil) Λ0 S = .ok (.lst (L.map .str)) S := by simp [Λ0, iVar_s, lines_of_ok h.len h.ne h.sp h.cnt, chk_pos]
  have t2 : iMake "Reader" 2 m_Reader___init__ (iCons (iVar 2) iNil) Λ2 S = .ok (.adr S.length) S1 := by
    unfold iMake
    simp [Λ2, iVar_s, e1, chk_pos, isN]
  have t3 : iMeth "Reader" "read" 1 m_Reader_read (iVar 3) iNil (pL o t L S.length) S1 = relab (pL o t L S.length) (m_Reader_read [.adr S.length] S1) := by
    rw [meth_s (iVar_s rfl) R1.self rfl]
    simp [chk_pos]
  refine ⟨S1, R1, fun B k hk => Err.mdef ?_, fun S2 q ds e2 R2 hd nn okd hb hm hr => ?_⟩
  · have e3 := hk.relab (pL o t L S.length)
    rw [← t3] at e3
    show Err B (b_Project___init__ Λ0 S) k
    unfold b_Project___init__
    rw [seq_ok (Λ1 := Λ0) (S1 := S) ((if_f t0).trans rfl), seq_ok (Λ1 := Λ2) (set_ok t1), seq_ok (Λ1 := pL o t L S.length) (set_ok t2)]
    exact seq_err (drop_err e3)
  rw [e2] at t3
  have t3 : iMeth "Reader" "read" 1 m_Reader_read (iVar 3) iNil (pL o t L S.length) S1 = .ok .non S2 := t3
  have lo := lt_some ho
  have go : ∀ {G : IS} {out : Out Fl}, G (pL o t L S.length) S2 = out → iSeq (iIf (iNot (iTru (iCa fIsi (iCons (iVar 1) (iCons (iC (.ty "str")) iNil))))) (iRaise "BadLine" "at" (iCons (iUn fNeg (iC (.int 1))) iNil)) iNext) (iSeq (iSet 2 (iCall 1 m_lines_of (iCons (iVar 1) iNil))) (iSeq (iSet 3 (iMake "Reader" 2 m_Reader___init__ (iCons (iVar 2) iNil))) (iSeq (iDrop (iMeth "Reader" "read" 1 m_Reader_read (iVar 3) iNil)) G))) Λ0 S = out := fun {G out} hG =>
    (sq_ok (Λ1 := Λ0) (S1 := S) ((if_ff t0).trans rfl)).trans ((sq_ok (Λ1 := Λ2) (st_ok t1)).trans ((sq_ok (Λ1 := pL o t L S.length) (st_ok t2)).trans ((sq_ok (dr_ok t3)).trans hG)))
  have raise : ∀ (S0 S : Sto) (w : Str), iRaise "TooMany" "what" (iCons (iC (.str w)) iNil) (pL o t L S0.length) S = .exc "TooMany" S.length (pL o t L S0.length) (S ++ [.xd [("what", .str w)]]) := fun S0 S w => rfl
  have c1 : iTest (iBin fGt (iCa fLen (iCons (iVar 2) iNil)) (iC (.int 150))) (pL o t L S.length) S2 = .ok (decide (150 < L.length)) S2 := by
    rw [iTest_e, iBin_e, iCa_e, iCons_e, iVar_s (x := .lst (L.map IV.str)) rfl]
    simp only [Out.bind_ok, iNil_e, fLen_e, lenN_l, List.length_map, orBad_some, iC_e]
    show Out.ok (decide ((150 : Int) < (L.length : Int))) S2 = _
    congr 1
    simp
    omega
  have c2 : iTest (iBin fGt (iCa fLen (iCons (iUn (fFld "Reader" "modules") (iVar 3)) iNil)) (iC (.int 6))) (pL o t L S.length) S2 = .ok (decide (6 < q.ms.length)) S2 := by
    rw [iTest_e, iBin_e, iCa_e, iCons_e, iUn_fld, iVar_s (x := .adr S.length) rfl]
    simp only [Out.bind_ok, iNil_e, fld_modules R2, fLen_e, lenN_a R2.mods, List.length_map, orBad_some, iC_e]
    show Out.ok (decide ((6 : Int) < (q.ms.length : Int))) S2 = _
    congr 1
    simp
    omega
  have ho2 := R2.base.get ho
  have hdefs := R2.defs
  rw [hd] at hdefs
  have w3 : iCall 1 m_greatest_weight (iCons (iUn (fFld "Reader" "defs") (iVar 3)) iNil) (pL o t L S.length) S2 = .ok (.int (weighD ds 0)) S2 := by
    rw [iCall_e, iCons_e, iUn_fld, iVar_s (x := .adr S.length) rfl]
    simp only [Out.bind_ok, iNil_e, fld_defs R2]
    rw [chk_pos (by rfl), greatest_ok hdefs nn okd hb]
    rfl
  have e3 := setF_self (f := "weight") w3 ho2 (by decide)
  generalize hS3 : S2.set o (.ins "Project" (putI "weight" (.int (weighD ds 0)) [])) = S3 at e3
  have x3 : Ext [o] S2 S3 := by rw [← hS3]; exact .set (.inl (by simp))
  have o3 : S3[o]? = some (.ins "Project" [("weight", .int (weighD ds 0))]) := hS3 ▸ get_setS ho2 _
  have c3 : iTest (iBin fGt (iUn (fFld "Project" "weight") (iVar 0)) (iC (.int 100))) (pL o t L S.length) S3 = .ok (decide (100 < weighD ds 0)) S3 := by
    rw [iTest_e, iBin_e, iUn_fld, iVar_s (x := .adr o) rfl, Out.bind_ok, fFld_s (v := .int (weighD ds 0)) o3 rfl]
    show Out.ok (decide ((100 : Int) < (weighD ds 0 : Int))) S3 = _
    congr 1
    simp
    omega
  have xb := R2.base.nil (ds := [o])
  have run : ∀ {C : Str} {n : Nat} {L' : Slots} {S' : Sto}, b_Project___init__ Λ0 S = .exc C n L' S' → m_Project___init__ [.adr o, .str t] S = .exc C n [] S' := fun e => md_ex e
  refine ⟨fun h1 => ?_, fun h1 h2 => ?_, fun h1 h2 h3 => ?_, fun h1 h2 h3 => ?_⟩
  · rw [decide_eq_true h1] at c1
    exact ⟨S2.length, [], _, run (by unfold b_Project___init__; exact go (sq_ex ((if_tt c1).trans (raise S S2 "lines")))), get_new _ _, xb.trans (.app _)⟩
  · rw [decide_eq_false h1] at c1
    rw [decide_eq_true h2] at c2
    exact ⟨S2.length, [], _, run (by unfold b_Project___init__; exact go ((sq_ok (S1 := S2) ((if_ff c1).trans rfl)).trans (sq_ex ((if_tt c2).trans (raise S S2 "modules"))))), get_new _ _, xb.trans (.app _)⟩
  · rw [decide_eq_false h1] at c1
    rw [decide_eq_false h2] at c2
    rw [decide_eq_true h3] at c3
    exact ⟨S3.length, [], _, run (by unfold b_Project___init__; exact go ((sq_ok (S1 := S2) ((if_ff c1).trans rfl)).trans ((sq_ok (S1 := S2) ((if_ff c2).trans rfl)).trans ((sq_ok e3).trans (sq_ex ((if_tt c3).trans (raise S S3 "weight"))))))), get_new _ _, (xb.trans x3).trans (.app _)⟩
  · rw [decide_eq_false h1] at c1
    rw [decide_eq_false h2] at c2
    rw [decide_eq_false h3] at c3
    have ne : ∀ k, S.length + k ≠ o := fun k => by omega
    have fR : ∀ {S' : Sto}, Ext [o] S2 S' → S'[S.length]? = some (.ins "Reader" (rFs S.length L q.pos q.kept)) := fun x => x.get R2.self (by simp; exact ne 0)
    have fM : ∀ {S' : Sto}, Ext [o] S2 S' → S'[S.length + 1]? = some (.lst (q.ms.map fun m => .str m.name)) := fun x => x.get R2.mods (by simp; exact ne 1)
    have gf : ∀ {S' : Sto} {f : Str} {v : IV}, Ext [o] S2 S' → (rFs S.length L q.pos q.kept).lookup f = some v → iUn (fFld "Reader" f) (iVar 3) (pL o t L S.length) S' = .ok v S' := fun {S' f v} x hl => by
      rw [iUn_fld, iVar_s (x := .adr S.length) rfl, Out.bind_ok]
      exact fFld_s (fR x) hl
    -- text
    have e4 := setF_self (o := o) (t := t) (L := L) (r := S.length) (S := S3) (f := "text") (mv := iVar 1) (v := .str t) (iVar_s rfl) o3 (by simp)
    generalize hS4 : S3.set o (.ins "Project" (putI "text" (.str t) [("weight", .int (weighD ds 0))])) = S4 at e4
    have x4 : Ext [o] S2 S4 := x3.trans (by rw [← hS4]; exact .set (.inl (by simp)))
    have o4 : S4[o]? = some (.ins "Project" [("weight", .int (weighD ds 0)), ("text", .str t)]) := hS4 ▸ get_setS o3 _
    -- modules
    have v5 : iCa fTuple (iCons (iUn (fFld "Reader" "modules") (iVar 3)) iNil) (pL o t L S.length) S4 = .ok (.tup ((q.ms.map (·.name)).map IV.str)) S4 := by
      rw [iCa_e, iCons_e, gf x4 (v := .adr (S.length + 1)) rfl]
      simp only [Out.bind_ok, iNil_e]
      rw [tupRows (fM x4) (by rw [List.length_map]; omega), names_map]
    have e5 := setF_self (f := "modules") v5 o4 (by simp)
    generalize hS5 : S4.set o (.ins "Project" (putI "modules" (.tup ((q.ms.map (·.name)).map IV.str)) [("weight", .int (weighD ds 0)), ("text", .str t)])) = S5 at e5
    have x5 : Ext [o] S2 S5 := x4.trans (by rw [← hS5]; exact .set (.inl (by simp)))
    have o5 : S5[o]? = some (.ins "Project" [("weight", .int (weighD ds 0)), ("text", .str t), ("modules", .tup ((q.ms.map (·.name)).map IV.str))]) := hS5 ▸ get_setS o4 _
    -- rows
    have R5 : Rep [] S.length L S5 q := R2.far lo x5
    have v6 := rows_e (o := o) (t := t) R5 hm hr
    have l5 := lt_some o5
    have o5' : (S5 ++ [Cell.dic (rowsD q.ms)])[o]? = some (.ins "Project" [("weight", .int (weighD ds 0)), ("text", .str t), ("modules", .tup ((q.ms.map (·.name)).map IV.str))]) := get_app o5
    have e6 := setF_self (f := "rows") v6 o5' (by simp)
    generalize hS6 : (S5 ++ [Cell.dic (rowsD q.ms)]).set o (.ins "Project" (putI "rows" (.adr S5.length) [("weight", .int (weighD ds 0)), ("text", .str t), ("modules", .tup ((q.ms.map (·.name)).map IV.str))])) = S6 at e6
    have x6 : Ext [o] S2 S6 := (x5.trans (.app _)).trans (by rw [← hS6]; exact .set (.inl (by simp)))
    have d6 : S6[S5.length]? = some (.dic (rowsD q.ms)) := hS6 ▸ get_set (get_new _ _) (by omega)
    have o6 : S6[o]? = some (.ins "Project" [("weight", .int (weighD ds 0)), ("text", .str t), ("modules", .tup ((q.ms.map (·.name)).map IV.str)), ("rows", .adr S5.length)]) := hS6 ▸ get_setS o5' _
    -- the rest
    have e7 := setF_self (f := "declared") (gf x6 (f := "declared") rfl) o6 (by simp)
    generalize hS7 : S6.set o (.ins "Project" (putI "declared" (.adr (S.length + 3)) [("weight", .int (weighD ds 0)), ("text", .str t), ("modules", .tup ((q.ms.map (·.name)).map IV.str)), ("rows", .adr S5.length)])) = S7 at e7
    have x67 : Ext [o] S6 S7 := by rw [← hS7]; exact .set (.inl (by simp))
    have o7 : S7[o]? = some (.ins "Project" [("weight", .int (weighD ds 0)), ("text", .str t), ("modules", .tup ((q.ms.map (·.name)).map IV.str)), ("rows", .adr S5.length), ("declared", .adr (S.length + 3))]) := hS7 ▸ get_setS o6 _
    have e8 := setF_self (f := "defs") (gf (x6.trans x67) (f := "defs") rfl) o7 (by simp)
    generalize hS8 : S7.set o (.ins "Project" (putI "defs" (.adr (S.length + 5)) [("weight", .int (weighD ds 0)), ("text", .str t), ("modules", .tup ((q.ms.map (·.name)).map IV.str)), ("rows", .adr S5.length), ("declared", .adr (S.length + 3))])) = S8 at e8
    have x68 : Ext [o] S6 S8 := x67.trans (by rw [← hS8]; exact .set (.inl (by simp)))
    have o8 : S8[o]? = some (.ins "Project" [("weight", .int (weighD ds 0)), ("text", .str t), ("modules", .tup ((q.ms.map (·.name)).map IV.str)), ("rows", .adr S5.length), ("declared", .adr (S.length + 3)), ("defs", .adr (S.length + 5))]) := hS8 ▸ get_setS o7 _
    have e9 := setF_self (f := "lines") (gf (x6.trans x68) (f := "places") rfl) o8 (by simp)
    generalize hS9 : S8.set o (.ins "Project" (putI "lines" (.adr (S.length + 4)) [("weight", .int (weighD ds 0)), ("text", .str t), ("modules", .tup ((q.ms.map (·.name)).map IV.str)), ("rows", .adr S5.length), ("declared", .adr (S.length + 3)), ("defs", .adr (S.length + 5))])) = S9 at e9
    have x69 : Ext [o] S6 S9 := x68.trans (by rw [← hS9]; exact .set (.inl (by simp)))
    have o9 : S9[o]? = some (.ins "Project" [("weight", .int (weighD ds 0)), ("text", .str t), ("modules", .tup ((q.ms.map (·.name)).map IV.str)), ("rows", .adr S5.length), ("declared", .adr (S.length + 3)), ("defs", .adr (S.length + 5)), ("lines", .adr (S.length + 4))]) := hS9 ▸ get_setS o8 _
    have e10 := setF_self (f := "kept") (gf (x6.trans x69) (f := "kept") rfl) o9 (by simp)
    have xz : Ext [o] S6 (S9.set o (.ins "Project" (putI "kept" q.kept [("weight", .int (weighD ds 0)), ("text", .str t), ("modules", .tup ((q.ms.map (·.name)).map IV.str)), ("rows", .adr S5.length), ("declared", .adr (S.length + 3)), ("defs", .adr (S.length + 5)), ("lines", .adr (S.length + 4))]))) := x69.trans (.set (.inl (by simp)))
    refine ⟨_, S5.length, md_nx (Λ1 := pL o t L S.length) ?_, get_setS o9 _, xz.get d6 (by simp; omega), xb.trans (x6.trans xz), x6.trans xz⟩
    show b_Project___init__ Λ0 S = _
    unfold b_Project___init__
    exact go ((sq_ok (S1 := S2) ((if_ff c1).trans rfl)).trans ((sq_ok (S1 := S2) ((if_ff c2).trans rfl)).trans ((sq_ok e3).trans ((sq_ok (S1 := S3) ((if_ff c3).trans rfl)).trans ((sq_ok e4).trans ((sq_ok e5).trans ((sq_ok e6).trans ((sq_ok e7).trans ((sq_ok e8).trans ((sq_ok e9).trans e10))))))))))
end
end RD

set_option maxHeartbeats 2000000
/-! rows of bodies: what is no block and names no module -/
namespace RD
open PySem PySem.Spec PyProof.Rows L2 Sm
section
variable {B : Sto} {b r : Nat} {L : List Str} {S : Sto} {q : RQ} {p : BQ} {w : Str} {ws : List Str}
theorem eqB_one {S : Sto} (hw : okWs ws) (x : Str) (hx : (sg x).all (fun c => decide (c < 1114112)) = true) (i : Nat) {Λ : Slots} (hi : Λ[i]? = some (some (.lst (ws.map .str)))) : iTest (iBin fEq (iVar i) (iLst false (iCons (iC (.str x)) iNil))) Λ S = .ok (decide (ws = [x])) S := by
  have one : (1 : Nat) ≤ sizeLine := by rw [szl]; omega
  rw [iTest_e, iBin_e, iVar_s hi, Out.bind_ok, iLst_e, iCons_e, iC_e]
  simp only [Out.bind_ok, iNil_e, mkL_f]
  rw [chk_pos (by exact one), Out.bind_ok, fEq_e, ne_lit hw x hx S]
  rfl
theorem word0 {S : Sto} {i : Nat} {Λ : Slots} (hi : Λ[i]? = some (some (.lst ((w :: ws).map .str)))) (x : Str) : iTest (iBin fEq (iBin fIx (iVar i) (iC (.int 0))) (iC (.str x))) Λ S = .ok (decide (w = x)) S := by
  rw [iTest_e, iBin_e, iBin_e, iVar_s hi]
  show Out.bind (Out.bind (orBad (atI ((w :: ws).map IV.str) 0) fun v => Out.ok v S) fun x1 S1 => (iC (IV.str x) Λ S1).bind fun y S2 => fEq x1 y S2) _ = _
  rw [List.map_cons, atI_0]
  rfl
/-- a row that is an act -/
theorem brow_act (hB : RepB b r S q p) (hw : okWs (w :: ws)) (n1 : w :: ws ≠ [("either" : Str)]) (n2 : w :: ws ≠ [("often" : Str)]) (n3 : w :: ws ≠ [("or" : Str)]) (n4 : w :: ws ≠ [("end" : Str)]) (n5 : w ≠ "\x69mport") (n6 : w ≠ "from") :
    (∀ S', m_BodyReader_read_act [.adr b, .lst ((w :: ws).map .str), .non] S = .ok .non S' → m_BodyReader_read_row [.adr b, .lst ((w :: ws).map .str)] S = .ok .non S') ∧ (∀ k, Err B (m_BodyReader_read_act [.adr b, .lst ((w :: ws).map .str), .non] S) k → Err B (m_BodyReader_read_row [.adr b, .lst ((w :: ws).map .str)] S) k) := by
  let Λ : Slots := [some (.adr b), some (.lst ((w :: ws).map .str)), some (.adr r)]
  have t0 : iUn (fFld "BodyReader" "reader") (iVar 0) [some (.adr b), some (.lst ((w :: ws).map .str)), none] S = .ok (.adr r) S := by rw [iUn_fld, iVar_s (x := .adr b) rfl, Out.bind_ok, bfl_reader hB]
  have q1 := eqB_one (S := S) hw "either" (by decide +kernel) 1 (Λ := Λ) rfl
  have q2 := eqB_one (S := S) hw "often" (by decide +kernel) 1 (Λ := Λ) rfl
  have q3 := eqB_one (S := S) hw "or" (by decide +kernel) 1 (Λ := Λ) rfl
  have q4 := eqB_one (S := S) hw "end" (by decide +kernel) 1 (Λ := Λ) rfl
  rw [decide_eq_false n1] at q1
  rw [decide_eq_false n2] at q2
  rw [decide_eq_false n3] at q3
  rw [decide_eq_false n4] at q4
  have q5 := word0 (S := S) (i := 1) (Λ := Λ) (w := w) (ws := ws) rfl "\x69mport"
  have q6 := word0 (S := S) (i := 1) (Λ := Λ) (w := w) (ws := ws) rfl "from"
  rw [decide_eq_false n5] at q5
  rw [decide_eq_false n6] at q6
  have q12 : iOr (iTest (iBin fEq (iVar 1) (iLst false (iCons (iC (.str "either")) iNil)))) (iTest (iBin fEq (iVar 1) (iLst false (iCons (iC (.str "often")) iNil)))) Λ S = .ok false S := by
    rw [iOr_e, q1, Out.bind_ok, if_neg Bool.false_ne_true, q2]
  have e0 : iMeth "BodyReader" "read_act" 3 m_BodyReader_read_act (iVar 0) (iCons (iVar 1) (iCons (iC .non) iNil)) Λ S = relab Λ (m_BodyReader_read_act [.adr b, .lst ((w :: ws).map .str), .non] S) := by
    rw [meth_s (iVar_s rfl) hB.self rfl, iCons_e, iVar_s (x := .lst ((w :: ws).map .str)) rfl]
    simp only [Out.bind_ok, iCons_e, iC_e, iNil_e]
    rw [chk_pos (by rfl)]
  have go : b_BodyReader_read_row [some (.adr b), some (.lst ((w :: ws).map .str)), none] S = iDrop (iMeth "BodyReader" "read_act" 3 m_BodyReader_read_act (iVar 0) (iCons (iVar 1) (iCons (iC .non) iNil))) Λ S := by
    unfold b_BodyReader_read_row
    exact (sq_ok (Λ1 := Λ) (st_ok t0)).trans ((if_ff q12).trans ((if_ff q3).trans ((if_ff q4).trans ((if_ff q5).trans (if_ff q6)))))
  unfold m_BodyReader_read_row
  refine ⟨fun S' e => ?_, fun k e => Err.mdef ?_⟩
  · rw [e] at e0
    exact md_nx (Λ1 := Λ) (go.trans (dr_ok e0))
  · have e1 := e.relab Λ
    rw [← e0] at e1
    show Err B (b_BodyReader_read_row [some (.adr b), some (.lst ((w :: ws).map .str)), none] S) k
    rw [go]
    exact drop_err e1
/-- an act of no known form: not "call", and not of four words -/
theorem act_bad (hB : RepB b r S q p) (h : Rep B r L S q) (n1 : w ≠ "call") (hl : ws.length ≠ 3) (md : IV) : Err B (m_BodyReader_read_act [.adr b, .lst ((w :: ws).map .str), md] S) q.pos := by
  let Λ : Slots := [some (.adr b), some (.lst ((w :: ws).map .str)), some md, some (.adr r), none, none, none]
  have t0 : iUn (fFld "BodyReader" "reader") (iVar 0) [some (.adr b), some (.lst ((w :: ws).map .str)), some md, none, none, none, none] S = .ok (.adr r) S := by rw [iUn_fld, iVar_s (x := .adr b) rfl, Out.bind_ok, bfl_reader hB]
  have q5 := word0 (S := S) (i := 1) (Λ := Λ) (w := w) (ws := ws) rfl "call"
  rw [decide_eq_false n1] at q5
  have eC : (iAndV (iBin fEq (iCa fLen (iCons (iVar 1) iNil)) (iC (.int 4))) (iAndV (iOrV (iBin fEq (iBin fIx (iVar 1) (iC (.int 0))) (iC (.str "keep"))) (iBin fEq (iBin fIx (iVar 1) (iC (.int 0))) (iC (.str "once")))) (iBin fEq (iBin fIx (iVar 1) (iC (.int 2))) (iC (.str "=")))) : IE) Λ S = .ok (.bl false) S := by
    rw [iAndV_e, iBin_e, iCa_e, iCons_e, iVar_s (x := .lst ((w :: ws).map .str)) rfl]
    simp only [Out.bind_ok, iNil_e, fLen_e, lenN_l, orBad_some, iC_e, fEq_e, eqB_i, asB_b, List.length_map, List.length_cons]
    rw [decide_eq_false (show ¬ (((ws.length + 1 : Nat) : Int) = 4) by omega)]
    rfl
  have e1 := mNeedF (mo := iVar 3) (Λ := Λ) (S0 := S) (iVar_s rfl) h eC h rfl
  unfold m_BodyReader_read_act
  refine Err.mdef ?_
  show Err B (b_BodyReader_read_act [some (.adr b), some (.lst ((w :: ws).map .str)), some md, none, none, none, none] S) _
  unfold b_BodyReader_read_act
  rw [sq_ok (Λ1 := Λ) (st_ok t0), sq_ok (Λ1 := Λ) (S1 := S) ((if_ff q5).trans rfl)]
  exact seq_err (drop_err e1)
/-- some calls, one after another, ahead of the line s' -/
theorem calls_ahead {init : List Mod} {m : Mod} {x : Str} {pt : Str × List (Str × Str)} (hL : L.length ≤ 1000000) (hok : ∀ s ∈ L, LnOk s) (hx : headP m p.hid x p.line true = some pt) {s' : Str} :
    ∀ (c : Nat) (S : Sto) (q : RQ) (body : List IV) (s : Str), Rep B r L S q → q.ms = init ++ [m] → RepB b r S q { p with body := body, blocks := [] } → L[q.pos]? = some s → body.length + c < 1000000 →
      (∀ i < c, ∃ t, L[q.pos + i]? = some t ∧ wordsOf t = [("call" : Str), x]) → L[q.pos + c]? = some s' →
      ∃ S', Rep B r L S' { q with pos := q.pos + c } ∧ RepB b r S' { q with pos := q.pos + c } { p with body := body ++ List.replicate c (callRow x pt), blocks := [] } ∧ (∀ k, Err B (bLoop b r s' S') k → Err B (bLoop b r s S) k)
  | 0, S, q, body, s, h, hq, hB, hs, hl, hc, ht => by
    have : s' = s := by rw [Nat.add_zero, hs] at ht; exact (Option.some.inj ht).symm
    subst this
    exact ⟨S, h, by simpa using hB, fun k e => e⟩
  | c + 1, S, q, body, s, h, hq, hB, hs, hl, hc, ht => by
    obtain ⟨t0, h0, hw0⟩ := hc 0 (Nat.succ_pos c)
    have : t0 = s := by rw [Nat.add_zero, hs] at h0; exact (Option.some.inj h0).symm
    subst this
    have lok := hok t0 (List.mem_of_getElem? hs)
    have hw := okWs_of lok
    rw [hw0] at hw
    obtain ⟨S1, e1, R1, B1⟩ := (brow_call hB h hq (by show body.length < 1000000; omega) (ws := [x]) hw).1 x pt rfl hx
    have nx : ∃ t1, L[q.pos + 1]? = some t1 := by
      cases c with
      | zero => exact ⟨s', ht⟩
      | succ c =>
        obtain ⟨t1, h1, _⟩ := hc 1 (by omega)
        exact ⟨t1, h1⟩
    obtain ⟨t1, h1⟩ := nx
    obtain ⟨S', R2, B2, e2⟩ := calls_ahead hL hok hx c (posS r L q S1) (posQ q) (body ++ [callRow x pt]) t1 R1.pos' hq (B1.pos' R1) h1 (by simp; omega)
      (fun i hi => by
        obtain ⟨u, hu, hu2⟩ := hc (i + 1) (by omega)
        exact ⟨u, by rw [show (posQ q).pos + i = q.pos + (i + 1) by show q.pos + 1 + i = _; omega]; exact hu, hu2⟩)
      (by rw [show (posQ q).pos + c = q.pos + (c + 1) by show q.pos + 1 + c = _; omega]; exact ht)
    have eq : ({ q with pos := q.pos + (c + 1) } : RQ) = { posQ q with pos := (posQ q).pos + c } := by
      show RQ.mk _ _ _ _ _ = RQ.mk _ _ _ _ _
      rw [show (posQ q).pos + c = q.pos + (c + 1) by show q.pos + 1 + c = _; omega]
      rfl
    refine ⟨S', by rw [eq]; exact R2, ?_, fun k e => ?_⟩
    · rw [eq, show body ++ List.replicate (c + 1) (callRow x pt) = body ++ [callRow x pt] ++ List.replicate c (callRow x pt) by rw [List.replicate_succ]; simp]
      exact B2
    · have hne : ([("call" : Str), x]) ≠ [("end" : Str)] ∨ ({ p with body := body, blocks := [] } : BQ).blocks ≠ [] := .inl (by simp)
      have := bl_row_e (S := S) (q1 := q) hB hw hne e1 R1 h1 (hok t1 (List.mem_of_getElem? h1)) hL (e2 k e)
      unfold bLoop
      rw [hw0]
      exact this
end
end RD

set_option maxHeartbeats 4000000
namespace K10
open PySem PySem.Spec PyProof.Rows L2 Sm RD
def topS (i : Nat) : Stmt := PySem.Challenge.pw_patchedplaces_k10_bounds.main.body.getD i (.Pass ⟨0, 0, 0, 0⟩)
section
variable {P : Program} {w : World} {K : PySem.W.Frag} {mg : Str → Option Value} {base : Heap}
abbrev s_BadLine___init__ : Stmt := inClass (topS 3) 0
theorem sc_BadLine : FnScope ["self", "at"] ["self", "at"] (defScope s_BadLine___init__) := ⟨rfl, rfl, rfl, by decide +kernel, rfl, by decide +kernel, by decide +kernel⟩
theorem ok_e_BadLine (L : ELoc K mg "BadLine" "at" "self" "at" "BadLine.__init__" s_BadLine___init__) (b_PatchedError : BaseC K mg "PatchedError") : ECal P w K mg base "BadLine" "at" :=
  ecal_def (z := "wrong line") L sc_BadLine fun fI cdv A outer s H E => pss_cons (ps_expr (pe_clsinit rfl b_PatchedError (by decide) (pa_cons (pe_var (i := 0) rfl (Or.inl rfl)) (pa_cons pe_str pa_nil)))) (pss_one (ps_ost (pe_var (i := 0) rfl (Or.inl rfl)) (pe_var (i := 1) rfl (Or.inl rfl))))
abbrev s_TooMany___init__ : Stmt := inClass (topS 4) 0
theorem sc_TooMany : FnScope ["self", "what"] ["self", "what"] (defScope s_TooMany___init__) := ⟨rfl, rfl, rfl, by decide +kernel, rfl, by decide +kernel, by decide +kernel⟩
theorem ok_e_TooMany (L : ELoc K mg "TooMany" "what" "self" "what" "TooMany.__init__" s_TooMany___init__) (b_PatchedError : BaseC K mg "PatchedError") : ECal P w K mg base "TooMany" "what" :=
  ecal_def (z := "too many") L sc_TooMany fun fI cdv A outer s H E => pss_cons (ps_expr (pe_clsinit rfl b_PatchedError (by decide) (pa_cons (pe_var (i := 0) rfl (Or.inl rfl)) (pa_cons pe_str pa_nil)))) (pss_one (ps_ost (pe_var (i := 0) rfl (Or.inl rfl)) (pe_var (i := 1) rfl (Or.inl rfl))))
abbrev s_is_word : Stmt := topS 9
abbrev n_is_word : List Str := ["text", "char"]
theorem sc_is_word : FnScope n_is_word ["text"] (defScope s_is_word) := ⟨rfl, rfl, rfl, by decide +kernel, rfl, by decide +kernel, by decide +kernel⟩
theorem ok_is_word {tk_LETTERS : Tok} (L : Loc K mg "is_word" s_is_word ["text"]) (gs_LETTERS : mg "LETTERS" = some (.str c_LETTERS tk_LETTERS)) (z_str : mg "str" = none) (z_isinstance : mg "isinstance" = none) (z_len : mg "len" = none) : Cal P w K mg base "is_word" 1 ["text"] m_is_word :=
  cal_def (N := n_is_word) L sc_is_word fun f cdv A outer s H E hr tk po => (dss_cons (ds_if (dt_w (dw_or (dt_not (dt_tru (de_cb call_isi cs_isi z_isinstance (by decide +kernel) (da_cons (de_var 0) (da_cons (de_ty z_str (by decide +kernel)) da_nil))))) (dw_or1 (dt_not (dt_chain op_le os_B op_le os_B de_int (de_cb call_len cs_len z_len (by decide +kernel) (da_cons (de_var 0) da_nil)) de_int))))) (dss_one (ds_ret de_bl)) dss_nil) (dss_cons (ds_for po rfl (di_str (de_var 0)) (dg_name 1 sc_is_word.nd) (dss_one (ds_if (dt_cmp op_notInA os_notIn (de_var 1) (de_gstr gs_LETTERS)) (dss_one (ds_ret de_bl)) dss_nil))) (dss_one (ds_ret de_bl))))
abbrev s_name_fits : Stmt := topS 10
abbrev n_name_fits : List Str := ["text"]
theorem sc_name_fits : FnScope n_name_fits ["text"] (defScope s_name_fits) := ⟨rfl, rfl, rfl, by decide +kernel, rfl, by decide +kernel, by decide +kernel⟩
theorem ok_name_fits  (L : Loc K mg "name_fits" s_name_fits ["text"]) (gt_KEYWORDS : GTup K mg "KEYWORDS" c_KEYWORDS) (c_is_word : Cal P w K mg base "is_word" 1 ["text"] m_is_word) : Cal P w K mg base "name_fits" 2 ["text"] m_name_fits :=
  cal_def (N := n_name_fits) L sc_name_fits fun f cdv A outer s H E hr tk po => (dss_one (ds_ret (de_and (de_callC c_is_word tk (hr.mono (by decide)) (da_cons (de_var 0) da_nil)) (de_one (de_cmp op_notInA os_notIn (de_var 0) (de_gtupC gt_KEYWORDS))))))
abbrev s_read_step : Stmt := topS 11
abbrev n_read_step : List Str := ["text", "name", "sign", "rest", "size"]
theorem sc_read_step : FnScope n_read_step ["text"] (defScope s_read_step) := ⟨rfl, rfl, rfl, by decide +kernel, rfl, by decide +kernel, by decide +kernel⟩
theorem ok_read_step {tk_LETTERS : Tok} (L : Loc K mg "read_step" s_read_step ["text"]) (z_len : mg "len" = none) (gs_LETTERS : mg "LETTERS" = some (.str c_LETTERS tk_LETTERS)) (c_name_fits : Cal P w K mg base "name_fits" 2 ["text"] m_name_fits) : Cal P w K mg base "read_step" 3 ["text"] m_read_step :=
  cal_def (N := n_read_step) L sc_read_step fun f cdv A outer s H E hr tk po => (dss_cons (ds_if (dt_cmp (op_eqA hr.units) os_eq (de_ix (de_var 0) de_int) de_str) (dss_cons (ds_asg (de_bm PySem.F.plainAttrs_str PySem.F.slot_str_partition PySem.F.type_str_partition mt_partition ms_part (de_slice false (de_var 0) (do_some de_int) do_none) (da_cons de_str da_nil)) (dg_tup (n := 3) rfl (dgs_cons (dg_name 1 sc_read_step.nd) (dgs_cons (dg_name 2 sc_read_step.nd) (dgs_cons (dg_name 3 sc_read_step.nd) dgs_nil))))) (dss_cons (ds_if (dt_w (dw_or (dt_cmp (op_eqA hr.units) os_eq (de_var 2) de_str) (dw_or1 (dt_not (dt_tru (de_callC c_name_fits tk (hr.mono (by decide)) (da_cons (de_var 1) da_nil))))))) (dss_one (ds_ret de_non)) dss_nil) (dss_one (ds_ret (de_tup (da_cons de_str (da_cons (de_var 1) (da_cons (de_var 3) da_nil)))))))) dss_nil) (dss_cons (ds_if (dt_cmp (op_neA hr.units) os_ne (de_ix (de_var 0) de_int) de_str) (dss_one (ds_ret de_non)) dss_nil) (dss_cons (ds_set 4 sc_read_step.nd de_int) (dss_cons (ds_while po (dt_w (dw_and (dt_cmp op_lt os_B (de_var 4) (de_cb call_len cs_len z_len (by decide +kernel) (da_cons (de_var 0) da_nil))) (dw_and1 (dt_cmp op_inA os_in (de_ix (de_var 0) (de_var 4)) (de_gstr gs_LETTERS))))) (dss_one (ds_aug 4 sc_read_step.nd iop_addP os_addI de_int))) (dss_cons (ds_if (dt_not (dt_tru (de_callC c_name_fits tk (hr.mono (by decide)) (da_cons (de_slice false (de_var 0) (do_some de_int) (do_some (de_var 4))) da_nil)))) (dss_one (ds_ret de_non)) dss_nil) (dss_one (ds_ret (de_tup (da_cons de_str (da_cons (de_slice false (de_var 0) (do_some de_int) (do_some (de_var 4))) (da_cons (de_slice false (de_var 0) (do_some (de_var 4)) do_none) da_nil)))))))))))
abbrev s_read_path : Stmt := topS 12
abbrev n_read_path : List Str := ["text", "size", "head", "steps", "rest", "step"]
theorem sc_read_path : FnScope n_read_path ["text"] (defScope s_read_path) := ⟨rfl, rfl, rfl, by decide +kernel, rfl, by decide +kernel, by decide +kernel⟩
theorem ok_read_path {tk_LETTERS : Tok} (L : Loc K mg "read_path" s_read_path ["text"]) (z_tuple : mg "tuple" = none) (z_len : mg "len" = none) (gs_LETTERS : mg "LETTERS" = some (.str c_LETTERS tk_LETTERS)) (z_str : mg "str" = none) (z_isinstance : mg "isinstance" = none) (c_read_step : Cal P w K mg base "read_step" 3 ["text"] m_read_step) (c_name_fits : Cal P w K mg base "name_fits" 2 ["text"] m_name_fits) : Cal P w K mg base "read_path" 4 ["text"] m_read_path :=
  cal_def (N := n_read_path) L sc_read_path fun f cdv A outer s H E hr tk po => (dss_cons (ds_if (dt_not (dt_tru (de_cb call_isi cs_isi z_isinstance (by decide +kernel) (da_cons (de_var 0) (da_cons (de_ty z_str (by decide +kernel)) da_nil))))) (dss_one (ds_ret de_non)) dss_nil) (dss_cons (ds_set 1 sc_read_path.nd de_int) (dss_cons (ds_while po (dt_w (dw_and (dt_cmp op_lt os_B (de_var 1) (de_cb call_len cs_len z_len (by decide +kernel) (da_cons (de_var 0) da_nil))) (dw_and1 (dt_cmp op_inA os_in (de_ix (de_var 0) (de_var 1)) (de_gstr gs_LETTERS))))) (dss_one (ds_aug 1 sc_read_path.nd iop_addP os_addI de_int))) (dss_cons (ds_set 2 sc_read_path.nd (de_slice false (de_var 0) do_none (do_some (de_var 1)))) (dss_cons (ds_if (dt_not (dt_tru (de_callC c_name_fits tk (hr.mono (by decide)) (da_cons (de_var 2) da_nil)))) (dss_one (ds_ret de_non)) dss_nil) (dss_cons (ds_set 3 sc_read_path.nd (de_lst true da_nil)) (dss_cons (ds_set 4 sc_read_path.nd (de_slice false (de_var 0) (do_some (de_var 1)) do_none)) (dss_cons (ds_while po (dt_cmp (op_neA hr.units) os_ne (de_var 4) de_str) (dss_cons (ds_set 5 sc_read_path.nd (de_callC c_read_step tk (hr.mono (by decide)) (da_cons (de_var 4) da_nil))) (dss_cons (ds_if (dt_w (dw_or (dt_cmp op_isN os_isN (de_var 5) de_non) (dw_or1 (dt_cmp (op_eqA hr.units) os_eq (de_cb call_len cs_len z_len (by decide +kernel) (da_cons (de_var 3) da_nil)) de_int)))) (dss_one (ds_ret de_non)) dss_nil) (dss_cons (ds_expr (de_bm PySem.F.plainAttrs_list PySem.F.slot_list_append PySem.F.type_list_append mt_append ms_app (de_var 3) (da_cons (de_tup (da_cons (de_ix (de_var 5) de_int) (da_cons (de_ix (de_var 5) de_int) da_nil))) da_nil))) (dss_one (ds_set 4 sc_read_path.nd (de_ix (de_var 5) de_int))))))) (dss_one (ds_ret (de_tup (da_cons (de_var 0) (da_cons (de_var 2) (da_cons (de_ct call_tuple_of cs_tuple z_tuple (by decide +kernel) (da_cons (de_var 3) da_nil)) da_nil))))))))))))))
abbrev s_lines_of : Stmt := topS 13
abbrev n_lines_of : List Str := ["text"]
theorem sc_lines_of : FnScope n_lines_of ["text"] (defScope s_lines_of) := ⟨rfl, rfl, rfl, by decide +kernel, rfl, by decide +kernel, by decide +kernel⟩
theorem ok_lines_of  (L : Loc K mg "lines_of" s_lines_of ["text"])  : Cal P w K mg base "lines_of" 1 ["text"] m_lines_of :=
  cal_def (N := n_lines_of) L sc_lines_of fun f cdv A outer s H E hr tk po => (dss_cons (ds_if (dt_cmp (op_eqA hr.units) os_eq (de_var 0) de_str) (dss_one (ds_ret (de_lst false da_nil))) dss_nil) (dss_one (ds_ret (de_bm PySem.F.plainAttrs_str PySem.F.slot_str_split PySem.F.type_str_split mt_split (ms_split false) (de_var 0) (da_cons de_str da_nil)))))
abbrev s_words_of : Stmt := topS 14
abbrev n_words_of : List Str := ["line"]
theorem sc_words_of : FnScope n_words_of ["line"] (defScope s_words_of) := ⟨rfl, rfl, rfl, by decide +kernel, rfl, by decide +kernel, by decide +kernel⟩
theorem ok_words_of  (L : Loc K mg "words_of" s_words_of ["line"])  : Cal P w K mg base "words_of" 1 ["line"] m_words_of :=
  cal_def (N := n_words_of) L sc_words_of fun f cdv A outer s H E hr tk po => (dss_one (ds_ret (de_bm PySem.F.plainAttrs_str PySem.F.slot_str_split PySem.F.type_str_split mt_split (ms_split false) (de_var 0) (da_cons de_str da_nil))))
abbrev s_Reader___init__ : Stmt := inClass (topS 18) 0
abbrev n_Reader___init__ : List Str := ["self", "lines"]
theorem sc_Reader___init__ : FnScope n_Reader___init__ ["self", "lines"] (defScope s_Reader___init__) := ⟨rfl, rfl, rfl, by decide +kernel, rfl, by decide +kernel, by decide +kernel⟩
theorem ok_Reader___init__  (L : KLoc K mg "Reader" "Reader.__init__" s_Reader___init__ ["self", "lines"]) (fc_Reader_kept : FC K mg "Reader" "kept") (fc_Reader_defs : FC K mg "Reader" "defs") (fc_Reader_places : FC K mg "Reader" "places") (fc_Reader_declared : FC K mg "Reader" "declared") (fc_Reader_rows : FC K mg "Reader" "rows") (fc_Reader_modules : FC K mg "Reader" "modules") (fc_Reader_at : FC K mg "Reader" "at") (fc_Reader_lines : FC K mg "Reader" "lines") (z_list : mg "list" = none) : KCal P w K mg base "Reader" 1 ["self", "lines"] m_Reader___init__ :=
  kcal_def (N := n_Reader___init__) L sc_Reader___init__ fun f cdv A outer s H E hr tk po => (dss_cons (ds_fld fc_Reader_lines (de_var 0) (de_ct call_list_of (cs_list false) z_list (by decide +kernel) (da_cons (de_var 1) da_nil))) (dss_cons (ds_fld fc_Reader_at (de_var 0) de_int) (dss_cons (ds_fld fc_Reader_modules (de_var 0) (de_lst true da_nil)) (dss_cons (ds_fld fc_Reader_rows (de_var 0) de_dnew) (dss_cons (ds_fld fc_Reader_declared (de_var 0) de_dnew) (dss_cons (ds_fld fc_Reader_places (de_var 0) de_dnew) (dss_cons (ds_fld fc_Reader_defs (de_var 0) de_dnew) (dss_one (ds_fld fc_Reader_kept (de_var 0) de_non)))))))))
abbrev s_Reader_need : Stmt := inClass (topS 18) 3
abbrev n_Reader_need : List Str := ["self", "holds"]
theorem sc_Reader_need : FnScope n_Reader_need ["self", "holds"] (defScope s_Reader_need) := ⟨rfl, rfl, rfl, by decide +kernel, rfl, by decide +kernel, by decide +kernel⟩
theorem ok_Reader_need  (L : MLoc K mg "Reader" "need" "Reader.need" s_Reader_need ["self", "holds"]) (fc_Reader_at : FC K mg "Reader" "at") (e_BadLine : ECal P w K mg base "BadLine" "at") : MCal P w K mg base "Reader" "need" 3 ["self", "holds"] m_Reader_need :=
  mcal_def (N := n_Reader_need) L sc_Reader_need fun f cdv A outer s H E hr tk po => (dss_one (ds_if (dt_not (dt_tru (de_var 1))) (dss_one (ds_raise rfl tk (hr.mono (by decide)) e_BadLine (da_cons (de_fld fc_Reader_at (de_var 0)) da_nil))) dss_nil))
abbrev s_Reader_module : Stmt := inClass (topS 18) 4
abbrev n_Reader_module : List Str := ["self"]
theorem sc_Reader_module : FnScope n_Reader_module ["self"] (defScope s_Reader_module) := ⟨rfl, rfl, rfl, by decide +kernel, rfl, by decide +kernel, by decide +kernel⟩
theorem ok_Reader_module  (L : MLoc K mg "Reader" "module" "Reader.module" s_Reader_module ["self"]) (fc_Reader_modules : FC K mg "Reader" "modules") : MCal P w K mg base "Reader" "module" 1 ["self"] m_Reader_module :=
  mcal_def (N := n_Reader_module) L sc_Reader_module fun f cdv A outer s H E hr tk po => (dss_one (ds_ret (de_ix (de_fld fc_Reader_modules (de_var 0)) (de_un un_neg us_neg de_int))))
abbrev s_Reader_is_above : Stmt := inClass (topS 18) 5
abbrev n_Reader_is_above : List Str := ["self", "name"]
theorem sc_Reader_is_above : FnScope n_Reader_is_above ["self", "name"] (defScope s_Reader_is_above) := ⟨rfl, rfl, rfl, by decide +kernel, rfl, by decide +kernel, by decide +kernel⟩
theorem ok_Reader_is_above  (L : MLoc K mg "Reader" "is_above" "Reader.is_above" s_Reader_is_above ["self", "name"]) (fc_Reader_modules : FC K mg "Reader" "modules") : MCal P w K mg base "Reader" "is_above" 1 ["self", "name"] m_Reader_is_above :=
  mcal_def (N := n_Reader_is_above) L sc_Reader_is_above fun f cdv A outer s H E hr tk po => (dss_one (ds_ret (de_cmp op_inA os_in (de_var 1) (de_slice false (de_fld fc_Reader_modules (de_var 0)) do_none (do_some (de_un un_neg us_neg de_int))))))
abbrev s_Reader_words : Stmt := inClass (topS 18) 2
abbrev n_Reader_words : List Str := ["self"]
theorem sc_Reader_words : FnScope n_Reader_words ["self"] (defScope s_Reader_words) := ⟨rfl, rfl, rfl, by decide +kernel, rfl, by decide +kernel, by decide +kernel⟩
theorem ok_Reader_words  (L : MLoc K mg "Reader" "words" "Reader.words" s_Reader_words ["self"]) (fc_Reader_lines : FC K mg "Reader" "lines") (fc_Reader_at : FC K mg "Reader" "at") (z_len : mg "len" = none) (c_words_of : Cal P w K mg base "words_of" 1 ["line"] m_words_of) (e_BadLine : ECal P w K mg base "BadLine" "at") : MCal P w K mg base "Reader" "words" 3 ["self"] m_Reader_words :=
  mcal_def (N := n_Reader_words) L sc_Reader_words fun f cdv A outer s H E hr tk po => (dss_cons (ds_if (dt_cmp op_ge os_B (de_fld fc_Reader_at (de_var 0)) (de_cb call_len cs_len z_len (by decide +kernel) (da_cons (de_fld fc_Reader_lines (de_var 0)) da_nil))) (dss_one (ds_raise rfl tk (hr.mono (by decide)) e_BadLine (da_cons (de_cb call_len cs_len z_len (by decide +kernel) (da_cons (de_fld fc_Reader_lines (de_var 0)) da_nil)) da_nil))) dss_nil) (dss_one (ds_ret (de_callC c_words_of tk (hr.mono (by decide)) (da_cons (de_ix (de_fld fc_Reader_lines (de_var 0)) (de_fld fc_Reader_at (de_var 0))) da_nil)))))
abbrev s_Reader_path_above : Stmt := inClass (topS 18) 6
abbrev n_Reader_path_above : List Str := ["self", "text", "line", "path", "names"]
theorem sc_Reader_path_above : FnScope n_Reader_path_above ["self", "text", "line"] (defScope s_Reader_path_above) := ⟨rfl, rfl, rfl, by decide +kernel, rfl, by decide +kernel, by decide +kernel⟩
theorem ok_Reader_path_above  (L : MLoc K mg "Reader" "path_above" "Reader.path_above" s_Reader_path_above ["self", "text", "line"]) (fc_Reader_declared : FC K mg "Reader" "declared") (c_Reader_need : MCal P w K mg base "Reader" "need" 3 ["self", "holds"] m_Reader_need) (c_Reader_module : MCal P w K mg base "Reader" "module" 1 ["self"] m_Reader_module) (c_read_path : Cal P w K mg base "read_path" 4 ["text"] m_read_path) : MCal P w K mg base "Reader" "path_above" 5 ["self", "text", "line"] m_Reader_path_above :=
  mcal_def (N := n_Reader_path_above) L sc_Reader_path_above fun f cdv A outer s H E hr tk po => (dss_cons (ds_set 3 sc_Reader_path_above.nd (de_callC c_read_path tk (hr.mono (by decide)) (da_cons (de_var 1) da_nil))) (dss_cons (ds_expr (de_meth c_Reader_need tk (hr.mono (by decide)) (de_var 0) (da_cons (de_cmp op_notN os_notN (de_var 3) de_non) da_nil))) (dss_cons (ds_set 4 sc_Reader_path_above.nd (de_dget (hu_of hr.toRoom) (de_fld fc_Reader_declared (de_var 0)) (de_meth0 c_Reader_module tk (hr.mono (by decide)) (de_var 0)))) (dss_cons (ds_expr (de_meth c_Reader_need tk (hr.mono (by decide)) (de_var 0) (da_cons (de_and (de_din (hu_of hr.toRoom) (de_ix (de_var 3) de_int) (de_var 4)) (de_one (de_cmp op_lt os_B (de_dget (hu_of hr.toRoom) (de_var 4) (de_ix (de_var 3) de_int)) (de_var 2)))) da_nil))) (dss_one (ds_ret (de_var 3)))))))
abbrev s_Reader_worth : Stmt := inClass (topS 18) 7
abbrev n_Reader_worth : List Str := ["self", "text", "line"]
theorem sc_Reader_worth : FnScope n_Reader_worth ["self", "text", "line"] (defScope s_Reader_worth) := ⟨rfl, rfl, rfl, by decide +kernel, rfl, by decide +kernel, by decide +kernel⟩
theorem ok_Reader_worth  (L : MLoc K mg "Reader" "worth" "Reader.worth" s_Reader_worth ["self", "text", "line"]) (c_Reader_path_above : MCal P w K mg base "Reader" "path_above" 5 ["self", "text", "line"] m_Reader_path_above) : MCal P w K mg base "Reader" "worth" 6 ["self", "text", "line"] m_Reader_worth :=
  mcal_def (N := n_Reader_worth) L sc_Reader_worth fun f cdv A outer s H E hr tk po => (dss_cons (ds_if (dt_cmp (op_eqA hr.units) os_eq (de_var 1) de_str) (dss_one (ds_ret de_non)) dss_nil) (dss_one (ds_ret (de_meth c_Reader_path_above tk (hr.mono (by decide)) (de_var 0) (da_cons (de_var 1) (da_cons (de_var 2) da_nil))))))
abbrev s_Reader_declare : Stmt := inClass (topS 18) 8
abbrev n_Reader_declare : List Str := ["self", "name", "names"]
theorem sc_Reader_declare : FnScope n_Reader_declare ["self", "name"] (defScope s_Reader_declare) := ⟨rfl, rfl, rfl, by decide +kernel, rfl, by decide +kernel, by decide +kernel⟩
theorem ok_Reader_declare  (L : MLoc K mg "Reader" "declare" "Reader.declare" s_Reader_declare ["self", "name"]) (fc_Reader_places : FC K mg "Reader" "places") (fc_Reader_at : FC K mg "Reader" "at") (fc_Reader_declared : FC K mg "Reader" "declared") (c_Reader_module : MCal P w K mg base "Reader" "module" 1 ["self"] m_Reader_module) (c_name_fits : Cal P w K mg base "name_fits" 2 ["text"] m_name_fits) (c_Reader_need : MCal P w K mg base "Reader" "need" 3 ["self", "holds"] m_Reader_need) : MCal P w K mg base "Reader" "declare" 4 ["self", "name"] m_Reader_declare :=
  mcal_def (N := n_Reader_declare) L sc_Reader_declare fun f cdv A outer s H E hr tk po => (dss_cons (ds_set 2 sc_Reader_declare.nd (de_dget (hu_of hr.toRoom) (de_fld fc_Reader_declared (de_var 0)) (de_meth0 c_Reader_module tk (hr.mono (by decide)) (de_var 0)))) (dss_cons (ds_expr (de_meth c_Reader_need tk (hr.mono (by decide)) (de_var 0) (da_cons (de_and (de_callC c_name_fits tk (hr.mono (by decide)) (da_cons (de_var 1) da_nil)) (de_one (de_dnotin (hu_of hr.toRoom) (de_var 1) (de_var 2)))) da_nil))) (dss_cons (ds_dput (hu_of hr.toRoom) (de_var 2) (de_var 1) (de_fld fc_Reader_at (de_var 0))) (dss_one (ds_dput (hu_of hr.toRoom) (de_fld fc_Reader_places (de_var 0)) (de_joined (DJ.fmt (de_meth0 c_Reader_module tk (hr.mono (by decide)) (de_var 0)) (DJ.lit de_str (DJ.fmt (de_var 1) DJ.nil)))) (de_fld fc_Reader_at (de_var 0)))))))
abbrev s_Reader_keep_row : Stmt := inClass (topS 18) 9
abbrev n_Reader_keep_row : List Str := ["self", "row"]
theorem sc_Reader_keep_row : FnScope n_Reader_keep_row ["self", "row"] (defScope s_Reader_keep_row) := ⟨rfl, rfl, rfl, by decide +kernel, rfl, by decide +kernel, by decide +kernel⟩
theorem ok_Reader_keep_row  (L : MLoc K mg "Reader" "keep_row" "Reader.keep_row" s_Reader_keep_row ["self", "row"]) (fc_Reader_rows : FC K mg "Reader" "rows") (c_Reader_module : MCal P w K mg base "Reader" "module" 1 ["self"] m_Reader_module) : MCal P w K mg base "Reader" "keep_row" 2 ["self", "row"] m_Reader_keep_row :=
  mcal_def (N := n_Reader_keep_row) L sc_Reader_keep_row fun f cdv A outer s H E hr tk po => (dss_one (ds_expr (de_bm PySem.F.plainAttrs_list PySem.F.slot_list_append PySem.F.type_list_append mt_append ms_app (de_dget (hu_of hr.toRoom) (de_fld fc_Reader_rows (de_var 0)) (de_meth0 c_Reader_module tk (hr.mono (by decide)) (de_var 0))) (da_cons (de_var 1) da_nil))))
abbrev s_Reader_read_import : Stmt := inClass (topS 18) 11
abbrev n_Reader_read_import : List Str := ["self", "words"]
theorem sc_Reader_read_import : FnScope n_Reader_read_import ["self", "words"] (defScope s_Reader_read_import) := ⟨rfl, rfl, rfl, by decide +kernel, rfl, by decide +kernel, by decide +kernel⟩
theorem ok_Reader_read_import  (L : MLoc K mg "Reader" "read_import" "Reader.read_import" s_Reader_read_import ["self", "words"]) (fc_Reader_at : FC K mg "Reader" "at") (z_len : mg "len" = none) (c_Reader_keep_row : MCal P w K mg base "Reader" "keep_row" 2 ["self", "row"] m_Reader_keep_row) (c_Reader_declare : MCal P w K mg base "Reader" "declare" 4 ["self", "name"] m_Reader_declare) (c_Reader_is_above : MCal P w K mg base "Reader" "is_above" 1 ["self", "name"] m_Reader_is_above) (c_Reader_need : MCal P w K mg base "Reader" "need" 3 ["self", "holds"] m_Reader_need) : MCal P w K mg base "Reader" "read_import" 5 ["self", "words"] m_Reader_read_import :=
  mcal_def (N := n_Reader_read_import) L sc_Reader_read_import fun f cdv A outer s H E hr tk po => (dss_cons (ds_expr (de_meth c_Reader_need tk (hr.mono (by decide)) (de_var 0) (da_cons (de_or (de_cmp (op_eqA hr.units) os_eq (de_cb call_len cs_len z_len (by decide +kernel) (da_cons (de_var 1) da_nil)) de_int) (de_one (de_and (de_cmp (op_eqA hr.units) os_eq (de_cb call_len cs_len z_len (by decide +kernel) (da_cons (de_var 1) da_nil)) de_int) (de_one (de_cmp (op_eqA hr.units) os_eq (de_ix (de_var 1) de_int) de_str))))) da_nil))) (dss_cons (ds_expr (de_meth c_Reader_need tk (hr.mono (by decide)) (de_var 0) (da_cons (de_meth c_Reader_is_above tk (hr.mono (by decide)) (de_var 0) (da_cons (de_ix (de_var 1) de_int) da_nil)) da_nil))) (dss_cons (ds_expr (de_meth c_Reader_declare tk (hr.mono (by decide)) (de_var 0) (da_cons (de_ix (de_var 1) (de_un un_neg us_neg de_int)) da_nil))) (dss_cons (ds_expr (de_meth c_Reader_keep_row tk (hr.mono (by decide)) (de_var 0) (da_cons (de_tup (da_cons de_str (da_cons (de_ix (de_var 1) (de_un un_neg us_neg de_int)) (da_cons (de_fld fc_Reader_at (de_var 0)) (da_cons (de_ix (de_var 1) de_int) da_nil))))) da_nil))) (dss_one (ds_augf fc_Reader_at (de_var 0) de_int))))))
abbrev s_Reader_read_from : Stmt := inClass (topS 18) 12
abbrev n_Reader_read_from : List Str := ["self", "words"]
theorem sc_Reader_read_from : FnScope n_Reader_read_from ["self", "words"] (defScope s_Reader_read_from) := ⟨rfl, rfl, rfl, by decide +kernel, rfl, by decide +kernel, by decide +kernel⟩
theorem ok_Reader_read_from  (L : MLoc K mg "Reader" "read_from" "Reader.read_from" s_Reader_read_from ["self", "words"]) (fc_Reader_at : FC K mg "Reader" "at") (fc_Reader_declared : FC K mg "Reader" "declared") (z_len : mg "len" = none) (c_Reader_keep_row : MCal P w K mg base "Reader" "keep_row" 2 ["self", "row"] m_Reader_keep_row) (c_Reader_declare : MCal P w K mg base "Reader" "declare" 4 ["self", "name"] m_Reader_declare) (c_Reader_need : MCal P w K mg base "Reader" "need" 3 ["self", "holds"] m_Reader_need) (c_Reader_is_above : MCal P w K mg base "Reader" "is_above" 1 ["self", "name"] m_Reader_is_above) : MCal P w K mg base "Reader" "read_from" 5 ["self", "words"] m_Reader_read_from :=
  mcal_def (N := n_Reader_read_from) L sc_Reader_read_from fun f cdv A outer s H E hr tk po => (dss_cons (ds_expr (de_meth c_Reader_need tk (hr.mono (by decide)) (de_var 0) (da_cons (de_or (de_cmp (op_eqA hr.units) os_eq (de_cb call_len cs_len z_len (by decide +kernel) (da_cons (de_var 1) da_nil)) de_int) (de_one (de_and (de_cmp (op_eqA hr.units) os_eq (de_cb call_len cs_len z_len (by decide +kernel) (da_cons (de_var 1) da_nil)) de_int) (de_one (de_cmp (op_eqA hr.units) os_eq (de_ix (de_var 1) de_int) de_str))))) da_nil))) (dss_cons (ds_expr (de_meth c_Reader_need tk (hr.mono (by decide)) (de_var 0) (da_cons (de_and (de_cmp (op_eqA hr.units) os_eq (de_ix (de_var 1) de_int) de_str) (de_one (de_meth c_Reader_is_above tk (hr.mono (by decide)) (de_var 0) (da_cons (de_ix (de_var 1) de_int) da_nil)))) da_nil))) (dss_cons (ds_expr (de_meth c_Reader_need tk (hr.mono (by decide)) (de_var 0) (da_cons (de_din (hu_of hr.toRoom) (de_ix (de_var 1) de_int) (de_dget (hu_of hr.toRoom) (de_fld fc_Reader_declared (de_var 0)) (de_ix (de_var 1) de_int))) da_nil))) (dss_cons (ds_expr (de_meth c_Reader_declare tk (hr.mono (by decide)) (de_var 0) (da_cons (de_ix (de_var 1) (de_un un_neg us_neg de_int)) da_nil))) (dss_cons (ds_expr (de_meth c_Reader_keep_row tk (hr.mono (by decide)) (de_var 0) (da_cons (de_tup (da_cons de_str (da_cons (de_ix (de_var 1) (de_un un_neg us_neg de_int)) (da_cons (de_fld fc_Reader_at (de_var 0)) (da_cons (de_ix (de_var 1) de_int) (da_cons (de_ix (de_var 1) de_int) da_nil)))))) da_nil))) (dss_one (ds_augf fc_Reader_at (de_var 0) de_int)))))))
abbrev s_Reader_read_name : Stmt := inClass (topS 18) 13
abbrev n_Reader_read_name : List Str := ["self", "words", "worth"]
theorem sc_Reader_read_name : FnScope n_Reader_read_name ["self", "words"] (defScope s_Reader_read_name) := ⟨rfl, rfl, rfl, by decide +kernel, rfl, by decide +kernel, by decide +kernel⟩
theorem ok_Reader_read_name  (L : MLoc K mg "Reader" "read_name" "Reader.read_name" s_Reader_read_name ["self", "words"]) (fc_Reader_at : FC K mg "Reader" "at") (z_len : mg "len" = none) (c_Reader_keep_row : MCal P w K mg base "Reader" "keep_row" 2 ["self", "row"] m_Reader_keep_row) (c_Reader_declare : MCal P w K mg base "Reader" "declare" 4 ["self", "name"] m_Reader_declare) (c_Reader_worth : MCal P w K mg base "Reader" "worth" 6 ["self", "text", "line"] m_Reader_worth) (c_Reader_need : MCal P w K mg base "Reader" "need" 3 ["self", "holds"] m_Reader_need) : MCal P w K mg base "Reader" "read_name" 7 ["self", "words"] m_Reader_read_name :=
  mcal_def (N := n_Reader_read_name) L sc_Reader_read_name fun f cdv A outer s H E hr tk po => (dss_cons (ds_expr (de_meth c_Reader_need tk (hr.mono (by decide)) (de_var 0) (da_cons (de_and (de_cmp (op_eqA hr.units) os_eq (de_cb call_len cs_len z_len (by decide +kernel) (da_cons (de_var 1) da_nil)) de_int) (de_one (de_cmp (op_eqA hr.units) os_eq (de_ix (de_var 1) de_int) de_str))) da_nil))) (dss_cons (ds_set 2 sc_Reader_read_name.nd (de_meth c_Reader_worth tk (hr.mono (by decide)) (de_var 0) (da_cons (de_ix (de_var 1) de_int) (da_cons (de_fld fc_Reader_at (de_var 0)) da_nil)))) (dss_cons (ds_expr (de_meth c_Reader_declare tk (hr.mono (by decide)) (de_var 0) (da_cons (de_ix (de_var 1) de_int) da_nil))) (dss_cons (ds_expr (de_meth c_Reader_keep_row tk (hr.mono (by decide)) (de_var 0) (da_cons (de_tup (da_cons de_str (da_cons (de_ix (de_var 1) de_int) (da_cons (de_fld fc_Reader_at (de_var 0)) (da_cons (de_var 2) da_nil))))) da_nil))) (dss_one (ds_augf fc_Reader_at (de_var 0) de_int))))))
abbrev s_Reader_read_entries : Stmt := inClass (topS 18) 14
abbrev n_Reader_read_entries : List Str := ["self", "label", "signs", "line", "entries", "words", "place"]
theorem sc_Reader_read_entries : FnScope n_Reader_read_entries ["self", "label", "signs", "line"] (defScope s_Reader_read_entries) := ⟨rfl, rfl, rfl, by decide +kernel, rfl, by decide +kernel, by decide +kernel⟩
theorem ok_Reader_read_entries  (L : MLoc K mg "Reader" "read_entries" "Reader.read_entries" s_Reader_read_entries ["self", "label", "signs", "line"]) (z_tuple : mg "tuple" = none) (fc_Reader_at : FC K mg "Reader" "at") (fc_Reader_places : FC K mg "Reader" "places") (z_len : mg "len" = none) (c_Reader_words : MCal P w K mg base "Reader" "words" 3 ["self"] m_Reader_words) (c_Reader_worth : MCal P w K mg base "Reader" "worth" 6 ["self", "text", "line"] m_Reader_worth) (c_Reader_need : MCal P w K mg base "Reader" "need" 3 ["self", "holds"] m_Reader_need) (c_name_fits : Cal P w K mg base "name_fits" 2 ["text"] m_name_fits) : MCal P w K mg base "Reader" "read_entries" 7 ["self", "label", "signs", "line"] m_Reader_read_entries :=
  mcal_def (N := n_Reader_read_entries) L sc_Reader_read_entries fun f cdv A outer s H E hr tk po => (dss_cons (ds_set 4 sc_Reader_read_entries.nd (de_lst true da_nil)) (dss_cons (ds_augf fc_Reader_at (de_var 0) de_int) (dss_cons (ds_set 5 sc_Reader_read_entries.nd (de_meth0 c_Reader_words tk (hr.mono (by decide)) (de_var 0))) (dss_cons (ds_while po (dt_cmp (op_neA hr.units) os_ne (de_var 5) (de_lst false (da_cons de_str da_nil))) (dss_cons (ds_expr (de_meth c_Reader_need tk (hr.mono (by decide)) (de_var 0) (da_cons (de_and (de_cmp (op_eqA hr.units) os_eq (de_cb call_len cs_len z_len (by decide +kernel) (da_cons (de_var 5) da_nil)) de_int) (de_and (de_cmp (op_eqA hr.units) os_eq (de_ix (de_var 5) de_int) de_str) (de_one (de_callC c_name_fits tk (hr.mono (by decide)) (da_cons (de_ix (de_var 5) de_int) da_nil))))) da_nil))) (dss_cons (ds_set 6 sc_Reader_read_entries.nd (de_joined (DJ.fmt (de_var 1) (DJ.fmt (de_ix (de_var 2) de_int) (DJ.fmt (de_ix (de_var 5) de_int) (DJ.fmt (de_ix (de_var 2) de_int) DJ.nil)))))) (dss_cons (ds_expr (de_meth c_Reader_need tk (hr.mono (by decide)) (de_var 0) (da_cons (de_dnotin (hu_of hr.toRoom) (de_var 6) (de_fld fc_Reader_places (de_var 0))) da_nil))) (dss_cons (ds_expr (de_bm PySem.F.plainAttrs_list PySem.F.slot_list_append PySem.F.type_list_append mt_append ms_app (de_var 4) (da_cons (de_tup (da_cons (de_ix (de_var 5) de_int) (da_cons (de_meth c_Reader_worth tk (hr.mono (by decide)) (de_var 0) (da_cons (de_ix (de_var 5) de_int) (da_cons (de_var 3) da_nil))) (da_cons (de_fld fc_Reader_at (de_var 0)) da_nil)))) da_nil))) (dss_cons (ds_dput (hu_of hr.toRoom) (de_fld fc_Reader_places (de_var 0)) (de_var 6) (de_fld fc_Reader_at (de_var 0))) (dss_cons (ds_augf fc_Reader_at (de_var 0) de_int) (dss_one (ds_set 5 sc_Reader_read_entries.nd (de_meth0 c_Reader_words tk (hr.mono (by decide)) (de_var 0))))))))))) (dss_cons (ds_augf fc_Reader_at (de_var 0) de_int) (dss_one (ds_ret (de_ct call_tuple_of cs_tuple z_tuple (by decide +kernel) (da_cons (de_var 4) da_nil)))))))))
abbrev s_Reader_read_table : Stmt := inClass (topS 18) 15
abbrev n_Reader_read_table : List Str := ["self", "words", "line", "entries"]
theorem sc_Reader_read_table : FnScope n_Reader_read_table ["self", "words"] (defScope s_Reader_read_table) := ⟨rfl, rfl, rfl, by decide +kernel, rfl, by decide +kernel, by decide +kernel⟩
theorem ok_Reader_read_table  (L : MLoc K mg "Reader" "read_table" "Reader.read_table" s_Reader_read_table ["self", "words"]) (z_len : mg "len" = none) (fc_Reader_at : FC K mg "Reader" "at") (c_Reader_keep_row : MCal P w K mg base "Reader" "keep_row" 2 ["self", "row"] m_Reader_keep_row) (c_Reader_module : MCal P w K mg base "Reader" "module" 1 ["self"] m_Reader_module) (c_Reader_read_entries : MCal P w K mg base "Reader" "read_entries" 7 ["self", "label", "signs", "line"] m_Reader_read_entries) (c_Reader_declare : MCal P w K mg base "Reader" "declare" 4 ["self", "name"] m_Reader_declare) (c_Reader_need : MCal P w K mg base "Reader" "need" 3 ["self", "holds"] m_Reader_need) : MCal P w K mg base "Reader" "read_table" 8 ["self", "words"] m_Reader_read_table :=
  mcal_def (N := n_Reader_read_table) L sc_Reader_read_table fun f cdv A outer s H E hr tk po => (dss_cons (ds_set 2 sc_Reader_read_table.nd (de_fld fc_Reader_at (de_var 0))) (dss_cons (ds_expr (de_meth c_Reader_need tk (hr.mono (by decide)) (de_var 0) (da_cons (de_cmp (op_eqA hr.units) os_eq (de_cb call_len cs_len z_len (by decide +kernel) (da_cons (de_var 1) da_nil)) de_int) da_nil))) (dss_cons (ds_expr (de_meth c_Reader_declare tk (hr.mono (by decide)) (de_var 0) (da_cons (de_ix (de_var 1) de_int) da_nil))) (dss_cons (ds_set 3 sc_Reader_read_table.nd (de_meth c_Reader_read_entries tk (hr.mono (by decide)) (de_var 0) (da_cons (de_joined (DJ.fmt (de_meth0 c_Reader_module tk (hr.mono (by decide)) (de_var 0)) (DJ.lit de_str (DJ.fmt (de_ix (de_var 1) de_int) DJ.nil)))) (da_cons (de_tup (da_cons de_str (da_cons de_str da_nil))) (da_cons (de_var 2) da_nil))))) (dss_one (ds_expr (de_meth c_Reader_keep_row tk (hr.mono (by decide)) (de_var 0) (da_cons (de_tup (da_cons de_str (da_cons (de_ix (de_var 1) de_int) (da_cons (de_var 2) (da_cons (de_var 3) da_nil))))) da_nil))))))))
abbrev s_Reader_read_class : Stmt := inClass (topS 18) 16
abbrev n_Reader_read_class : List Str := ["self", "words", "line", "bases", "entries", "text"]
theorem sc_Reader_read_class : FnScope n_Reader_read_class ["self", "words"] (defScope s_Reader_read_class) := ⟨rfl, rfl, rfl, by decide +kernel, rfl, by decide +kernel, by decide +kernel⟩
theorem ok_Reader_read_class  (L : MLoc K mg "Reader" "read_class" "Reader.read_class" s_Reader_read_class ["self", "words"]) (z_tuple : mg "tuple" = none) (z_len : mg "len" = none) (fc_Reader_at : FC K mg "Reader" "at") (c_Reader_keep_row : MCal P w K mg base "Reader" "keep_row" 2 ["self", "row"] m_Reader_keep_row) (c_Reader_module : MCal P w K mg base "Reader" "module" 1 ["self"] m_Reader_module) (c_Reader_read_entries : MCal P w K mg base "Reader" "read_entries" 7 ["self", "label", "signs", "line"] m_Reader_read_entries) (c_Reader_declare : MCal P w K mg base "Reader" "declare" 4 ["self", "name"] m_Reader_declare) (c_Reader_path_above : MCal P w K mg base "Reader" "path_above" 5 ["self", "text", "line"] m_Reader_path_above) (c_Reader_need : MCal P w K mg base "Reader" "need" 3 ["self", "holds"] m_Reader_need) : MCal P w K mg base "Reader" "read_class" 8 ["self", "words"] m_Reader_read_class :=
  mcal_def (N := n_Reader_read_class) L sc_Reader_read_class fun f cdv A outer s H E hr tk po => (dss_cons (ds_set 2 sc_Reader_read_class.nd (de_fld fc_Reader_at (de_var 0))) (dss_cons (ds_expr (de_meth c_Reader_need tk (hr.mono (by decide)) (de_var 0) (da_cons (de_or (de_cmp (op_eqA hr.units) os_eq (de_cb call_len cs_len z_len (by decide +kernel) (da_cons (de_var 1) da_nil)) de_int) (de_one (de_and (de_chain op_le os_B op_le os_B de_int (de_cb call_len cs_len z_len (by decide +kernel) (da_cons (de_var 1) da_nil)) de_int) (de_one (de_cmp (op_eqA hr.units) os_eq (de_ix (de_var 1) de_int) de_str))))) da_nil))) (dss_cons (ds_setLc (own := [("text", 5)]) false 3 rfl sc_Reader_read_class.nd (di_list (de_slice false (de_var 1) (do_some de_int) do_none)) (blkOk_by (own := [("text", 5)]) (N := n_Reader_read_class) (sc := defScope s_Reader_read_class) (by decide +kernel)) (fun _ _ _ _ _ => pg_name (i := 5) sc_Reader_read_class.nd rfl (Or.inl rfl)) (gc_name (by decide)) (fun _ _ _ _ _ => dts_nil) (fun _ _ _ _ _ => (de_meth c_Reader_path_above takesW0 (hr.mono (by decide)) (de_var 0) (da_cons (de_var 5) (da_cons (de_var 2) da_nil))))) (dss_cons (ds_expr (de_meth c_Reader_declare tk (hr.mono (by decide)) (de_var 0) (da_cons (de_ix (de_var 1) de_int) da_nil))) (dss_cons (ds_set 4 sc_Reader_read_class.nd (de_meth c_Reader_read_entries tk (hr.mono (by decide)) (de_var 0) (da_cons (de_joined (DJ.fmt (de_meth0 c_Reader_module tk (hr.mono (by decide)) (de_var 0)) (DJ.lit de_str (DJ.fmt (de_ix (de_var 1) de_int) DJ.nil)))) (da_cons (de_tup (da_cons de_str (da_cons de_str da_nil))) (da_cons (de_var 2) da_nil))))) (dss_one (ds_expr (de_meth c_Reader_keep_row tk (hr.mono (by decide)) (de_var 0) (da_cons (de_tup (da_cons de_str (da_cons (de_ix (de_var 1) de_int) (da_cons (de_var 2) (da_cons (de_ct call_tuple_of cs_tuple z_tuple (by decide +kernel) (da_cons (de_var 3) da_nil)) (da_cons (de_var 4) da_nil)))))) da_nil)))))))))
abbrev s_BodyReader___init__ : Stmt := inClass (topS 19) 0
abbrev n_BodyReader___init__ : List Str := ["self", "reader", "hidden", "line"]
theorem sc_BodyReader___init__ : FnScope n_BodyReader___init__ ["self", "reader", "hidden", "line"] (defScope s_BodyReader___init__) := ⟨rfl, rfl, rfl, by decide +kernel, rfl, by decide +kernel, by decide +kernel⟩
theorem ok_BodyReader___init__  (L : KLoc K mg "BodyReader" "BodyReader.__init__" s_BodyReader___init__ ["self", "reader", "hidden", "line"]) (fc_BodyReader_blocks : FC K mg "BodyReader" "blocks") (fc_BodyReader_body : FC K mg "BodyReader" "body") (fc_BodyReader_line : FC K mg "BodyReader" "line") (fc_BodyReader_hidden : FC K mg "BodyReader" "hidden") (fc_BodyReader_reader : FC K mg "BodyReader" "reader") : KCal P w K mg base "BodyReader" 1 ["self", "reader", "hidden", "line"] m_BodyReader___init__ :=
  kcal_def (N := n_BodyReader___init__) L sc_BodyReader___init__ fun f cdv A outer s H E hr tk po => (dss_cons (ds_fld fc_BodyReader_reader (de_var 0) (de_var 1)) (dss_cons (ds_fld fc_BodyReader_hidden (de_var 0) (de_var 2)) (dss_cons (ds_fld fc_BodyReader_line (de_var 0) (de_var 3)) (dss_cons (ds_fld fc_BodyReader_body (de_var 0) (de_lst true da_nil)) (dss_one (ds_fld fc_BodyReader_blocks (de_var 0) (de_lst true da_nil)))))))
abbrev s_BodyReader_read_head : Stmt := inClass (topS 19) 5
abbrev n_BodyReader_read_head : List Str := ["self", "text", "module", "line", "may_hide", "reader", "path"]
theorem sc_BodyReader_read_head : FnScope n_BodyReader_read_head ["self", "text", "module", "line", "may_hide"] (defScope s_BodyReader_read_head) := ⟨rfl, rfl, rfl, by decide +kernel, rfl, by decide +kernel, by decide +kernel⟩
theorem ok_BodyReader_read_head  (L : MLoc K mg "BodyReader" "read_head" "BodyReader.read_head" s_BodyReader_read_head ["self", "text", "module", "line", "may_hide"]) (fc_BodyReader_hidden : FC K mg "BodyReader" "hidden") (fc_Reader_declared : FC K mg "Reader" "declared") (fc_BodyReader_reader : FC K mg "BodyReader" "reader") (c_Reader_path_above : MCal P w K mg base "Reader" "path_above" 5 ["self", "text", "line"] m_Reader_path_above) (c_Reader_need : MCal P w K mg base "Reader" "need" 3 ["self", "holds"] m_Reader_need) (c_read_path : Cal P w K mg base "read_path" 4 ["text"] m_read_path) : MCal P w K mg base "BodyReader" "read_head" 6 ["self", "text", "module", "line", "may_hide"] m_BodyReader_read_head :=
  mcal_def (N := n_BodyReader_read_head) L sc_BodyReader_read_head fun f cdv A outer s H E hr tk po => (dss_cons (ds_set 5 sc_BodyReader_read_head.nd (de_fld fc_BodyReader_reader (de_var 0))) (dss_cons (ds_set 6 sc_BodyReader_read_head.nd (de_callC c_read_path tk (hr.mono (by decide)) (da_cons (de_var 1) da_nil))) (dss_cons (ds_expr (de_meth c_Reader_need tk (hr.mono (by decide)) (de_var 5) (da_cons (de_cmp op_notN os_notN (de_var 6) de_non) da_nil))) (dss_cons (ds_if (dt_cmp op_notN os_notN (de_var 2) de_non) (dss_cons (ds_expr (de_meth c_Reader_need tk (hr.mono (by decide)) (de_var 5) (da_cons (de_din (hu_of hr.toRoom) (de_ix (de_var 6) de_int) (de_dget (hu_of hr.toRoom) (de_fld fc_Reader_declared (de_var 5)) (de_var 2))) da_nil))) (dss_one (ds_ret (de_var 6)))) dss_nil) (dss_cons (ds_if (dt_cmp (op_eqA hr.units) os_eq (de_ix (de_var 6) de_int) (de_fld fc_BodyReader_hidden (de_var 0))) (dss_cons (ds_expr (de_meth c_Reader_need tk (hr.mono (by decide)) (de_var 5) (da_cons (de_var 4) da_nil))) (dss_one (ds_ret (de_var 6)))) dss_nil) (dss_one (ds_ret (de_meth c_Reader_path_above tk (hr.mono (by decide)) (de_var 5) (da_cons (de_var 1) (da_cons (de_var 3) da_nil))))))))))
abbrev s_BodyReader_read_act : Stmt := inClass (topS 19) 4
abbrev n_BodyReader_read_act : List Str := ["self", "words", "module", "reader", "names", "line", "path"]
theorem sc_BodyReader_read_act : FnScope n_BodyReader_read_act ["self", "words", "module"] (defScope s_BodyReader_read_act) := ⟨rfl, rfl, rfl, by decide +kernel, rfl, by decide +kernel, by decide +kernel⟩
theorem ok_BodyReader_read_act  (L : MLoc K mg "BodyReader" "read_act" "BodyReader.read_act" s_BodyReader_read_act ["self", "words", "module"]) (fc_Reader_kept : FC K mg "Reader" "kept") (fc_Reader_at : FC K mg "Reader" "at") (fc_BodyReader_body : FC K mg "BodyReader" "body") (fc_BodyReader_hidden : FC K mg "BodyReader" "hidden") (fc_BodyReader_line : FC K mg "BodyReader" "line") (fc_Reader_declared : FC K mg "Reader" "declared") (z_len : mg "len" = none) (fc_BodyReader_reader : FC K mg "BodyReader" "reader") (c_BodyReader_read_head : MCal P w K mg base "BodyReader" "read_head" 6 ["self", "text", "module", "line", "may_hide"] m_BodyReader_read_head) (c_Reader_need : MCal P w K mg base "Reader" "need" 3 ["self", "holds"] m_Reader_need) (c_Reader_module : MCal P w K mg base "Reader" "module" 1 ["self"] m_Reader_module) : MCal P w K mg base "BodyReader" "read_act" 7 ["self", "words", "module"] m_BodyReader_read_act :=
  mcal_def (N := n_BodyReader_read_act) L sc_BodyReader_read_act fun f cdv A outer s H E hr tk po => (dss_cons (ds_set 3 sc_BodyReader_read_act.nd (de_fld fc_BodyReader_reader (de_var 0))) (dss_cons (ds_if (dt_cmp (op_eqA hr.units) os_eq (de_ix (de_var 1) de_int) de_str) (dss_cons (ds_expr (de_meth c_Reader_need tk (hr.mono (by decide)) (de_var 3) (da_cons (de_cmp (op_eqA hr.units) os_eq (de_cb call_len cs_len z_len (by decide +kernel) (da_cons (de_var 1) da_nil)) de_int) da_nil))) (dss_cons (ds_expr (de_bm PySem.F.plainAttrs_list PySem.F.slot_list_append PySem.F.type_list_append mt_append ms_app (de_fld fc_BodyReader_body (de_var 0)) (da_cons (de_tup (da_cons de_str (da_cons (de_var 2) (da_cons (de_meth c_BodyReader_read_head tk (hr.mono (by decide)) (de_var 0) (da_cons (de_ix (de_var 1) de_int) (da_cons (de_var 2) (da_cons (de_fld fc_BodyReader_line (de_var 0)) (da_cons de_bl da_nil))))) da_nil)))) da_nil))) (dss_one ds_retN))) dss_nil) (dss_cons (ds_expr (de_meth c_Reader_need tk (hr.mono (by decide)) (de_var 3) (da_cons (de_and (de_cmp (op_eqA hr.units) os_eq (de_cb call_len cs_len z_len (by decide +kernel) (da_cons (de_var 1) da_nil)) de_int) (de_and (de_or (de_cmp (op_eqA hr.units) os_eq (de_ix (de_var 1) de_int) de_str) (de_one (de_cmp (op_eqA hr.units) os_eq (de_ix (de_var 1) de_int) de_str))) (de_one (de_cmp (op_eqA hr.units) os_eq (de_ix (de_var 1) de_int) de_str)))) da_nil))) (dss_cons (ds_set 4 sc_BodyReader_read_act.nd (de_dget (hu_of hr.toRoom) (de_fld fc_Reader_declared (de_var 3)) (de_meth0 c_Reader_module tk (hr.mono (by decide)) (de_var 3)))) (dss_cons (ds_set 5 sc_BodyReader_read_act.nd (de_fld fc_BodyReader_line (de_var 0))) (dss_cons (ds_if (dt_cmp (op_neA hr.units) os_ne (de_ix (de_var 1) de_int) (de_fld fc_BodyReader_hidden (de_var 0))) (dss_cons (ds_expr (de_meth c_Reader_need tk (hr.mono (by decide)) (de_var 3) (da_cons (de_and (de_din (hu_of hr.toRoom) (de_ix (de_var 1) de_int) (de_var 4)) (de_one (de_cmp op_lt os_B (de_dget (hu_of hr.toRoom) (de_var 4) (de_ix (de_var 1) de_int)) (de_var 5)))) da_nil))) (dss_one (ds_set 5 sc_BodyReader_read_act.nd (de_dget (hu_of hr.toRoom) (de_var 4) (de_ix (de_var 1) de_int))))) dss_nil) (dss_cons (ds_set 6 sc_BodyReader_read_act.nd (de_meth c_BodyReader_read_head tk (hr.mono (by decide)) (de_var 0) (da_cons (de_ix (de_var 1) de_int) (da_cons (de_var 2) (da_cons (de_var 5) (da_cons de_bl da_nil)))))) (dss_cons (ds_expr (de_bm PySem.F.plainAttrs_list PySem.F.slot_list_append PySem.F.type_list_append mt_append ms_app (de_fld fc_BodyReader_body (de_var 0)) (da_cons (de_tup (da_cons (de_ix (de_var 1) de_int) (da_cons (de_var 2) (da_cons (de_ix (de_var 1) de_int) (da_cons (de_var 6) da_nil))))) da_nil))) (dss_one (ds_if (dt_cmp op_isN os_isN (de_fld fc_Reader_kept (de_var 3)) de_non) (dss_one (ds_fld fc_Reader_kept (de_var 3) (de_fld fc_Reader_at (de_var 3)))) dss_nil))))))))))
abbrev s_BodyReader_read_end : Stmt := inClass (topS 19) 3
abbrev n_BodyReader_read_end : List Str := ["self", "kind", "begin", "starts", "here", "start"]
theorem sc_BodyReader_read_end : FnScope n_BodyReader_read_end ["self"] (defScope s_BodyReader_read_end) := ⟨rfl, rfl, rfl, by decide +kernel, rfl, by decide +kernel, by decide +kernel⟩
theorem ok_BodyReader_read_end  (L : MLoc K mg "BodyReader" "read_end" "BodyReader.read_end" s_BodyReader_read_end ["self"]) (fc_BodyReader_body : FC K mg "BodyReader" "body") (z_tuple : mg "tuple" = none) (fc_BodyReader_reader : FC K mg "BodyReader" "reader") (z_len : mg "len" = none) (fc_BodyReader_blocks : FC K mg "BodyReader" "blocks") (c_Reader_need : MCal P w K mg base "Reader" "need" 3 ["self", "holds"] m_Reader_need) : MCal P w K mg base "BodyReader" "read_end" 4 ["self"] m_BodyReader_read_end :=
  mcal_def (N := n_BodyReader_read_end) L sc_BodyReader_read_end fun f cdv A outer s H E hr tk po => (dss_cons (ds_asg (de_bm0 PySem.F.plainAttrs_list PySem.F.slot_list_pop PySem.F.type_list_pop mt_pop ms_pop (de_fld fc_BodyReader_blocks (de_var 0))) (dg_tup (n := 3) rfl (dgs_cons (dg_name 1 sc_BodyReader_read_end.nd) (dgs_cons (dg_name 2 sc_BodyReader_read_end.nd) (dgs_cons (dg_name 3 sc_BodyReader_read_end.nd) dgs_nil))))) (dss_cons (ds_set 4 sc_BodyReader_read_end.nd (de_cb call_len cs_len z_len (by decide +kernel) (da_cons (de_fld fc_BodyReader_body (de_var 0)) da_nil))) (dss_cons (ds_if (dt_cmp (op_eqA hr.units) os_eq (de_var 1) de_str) (dss_cons (ds_asg (de_tup (da_cons de_str (da_cons (de_var 4) da_nil))) (dg_sub (de_fld fc_BodyReader_body (de_var 0)) (de_var 2))) (dss_cons (ds_expr (de_bm PySem.F.plainAttrs_list PySem.F.slot_list_append PySem.F.type_list_append mt_append ms_app (de_fld fc_BodyReader_body (de_var 0)) (da_cons (de_tup (da_cons de_str (da_cons (de_var 2) da_nil))) da_nil))) (dss_one ds_retN))) dss_nil) (dss_cons (ds_expr (de_meth c_Reader_need tk (hr.mono (by decide)) (de_fld fc_BodyReader_reader (de_var 0)) (da_cons (de_cmp op_gt os_B (de_cb call_len cs_len z_len (by decide +kernel) (da_cons (de_var 3) da_nil)) de_int) da_nil))) (dss_cons (ds_asg (de_tup (da_cons de_str (da_cons (de_ct call_tuple_of cs_tuple z_tuple (by decide +kernel) (da_cons (de_var 3) da_nil)) (da_cons (de_var 4) da_nil)))) (dg_sub (de_fld fc_BodyReader_body (de_var 0)) (de_var 2))) (dss_cons (ds_for po rfl (di_list (de_slice false (de_var 3) (do_some de_int) do_none)) (dg_name 5 sc_BodyReader_read_end.nd) (dss_one (ds_asg (de_tup (da_cons de_str (da_cons (de_var 4) da_nil))) (dg_sub (de_fld fc_BodyReader_body (de_var 0)) (de_bin op_subT os_I (de_var 5) de_int))))) (dss_one (ds_expr (de_bm PySem.F.plainAttrs_list PySem.F.slot_list_append PySem.F.type_list_append mt_append ms_app (de_fld fc_BodyReader_body (de_var 0)) (da_cons (de_tup (da_cons de_str (da_cons (de_un un_neg us_neg de_int) da_nil))) da_nil))))))))))
abbrev s_BodyReader_read_row : Stmt := inClass (topS 19) 2
abbrev n_BodyReader_read_row : List Str := ["self", "words", "reader"]
theorem sc_BodyReader_read_row : FnScope n_BodyReader_read_row ["self", "words"] (defScope s_BodyReader_read_row) := ⟨rfl, rfl, rfl, by decide +kernel, rfl, by decide +kernel, by decide +kernel⟩
theorem ok_BodyReader_read_row {tk_MOST_BLOCKS : Tok} {tk_MOST_BODIES : Tok} (L : MLoc K mg "BodyReader" "read_row" "BodyReader.read_row" s_BodyReader_read_row ["self", "words"]) (fc_BodyReader_body : FC K mg "BodyReader" "body") (fc_BodyReader_blocks : FC K mg "BodyReader" "blocks") (z_len : mg "len" = none) (gi_MOST_BLOCKS : mg "MOST_BLOCKS" = some (.int 4 tk_MOST_BLOCKS)) (gi_MOST_BODIES : mg "MOST_BODIES" = some (.int 5 tk_MOST_BODIES)) (fc_BodyReader_reader : FC K mg "BodyReader" "reader") (c_Reader_need : MCal P w K mg base "Reader" "need" 3 ["self", "holds"] m_Reader_need) (c_BodyReader_read_end : MCal P w K mg base "BodyReader" "read_end" 4 ["self"] m_BodyReader_read_end) (c_Reader_is_above : MCal P w K mg base "Reader" "is_above" 1 ["self", "name"] m_Reader_is_above) (c_BodyReader_read_act : MCal P w K mg base "BodyReader" "read_act" 7 ["self", "words", "module"] m_BodyReader_read_act) : MCal P w K mg base "BodyReader" "read_row" 8 ["self", "words"] m_BodyReader_read_row :=
  mcal_def (N := n_BodyReader_read_row) L sc_BodyReader_read_row fun f cdv A outer s H E hr tk po => (dss_cons (ds_set 2 sc_BodyReader_read_row.nd (de_fld fc_BodyReader_reader (de_var 0))) (dss_one (ds_if (dt_w (dw_or (dt_cmp (op_eqA hr.units) os_eq (de_var 1) (de_lst false (da_cons de_str da_nil))) (dw_or1 (dt_cmp (op_eqA hr.units) os_eq (de_var 1) (de_lst false (da_cons de_str da_nil)))))) (dss_cons (ds_expr (de_meth c_Reader_need tk (hr.mono (by decide)) (de_var 2) (da_cons (de_cmp op_lt os_B (de_cb call_len cs_len z_len (by decide +kernel) (da_cons (de_fld fc_BodyReader_blocks (de_var 0)) da_nil)) (de_gint gi_MOST_BLOCKS)) da_nil))) (dss_cons (ds_expr (de_bm PySem.F.plainAttrs_list PySem.F.slot_list_append PySem.F.type_list_append mt_append ms_app (de_fld fc_BodyReader_blocks (de_var 0)) (da_cons (de_tup (da_cons (de_ix (de_var 1) de_int) (da_cons (de_cb call_len cs_len z_len (by decide +kernel) (da_cons (de_fld fc_BodyReader_body (de_var 0)) da_nil)) (da_cons (de_lst true (da_cons (de_bin op_addA os_add (de_cb call_len cs_len z_len (by decide +kernel) (da_cons (de_fld fc_BodyReader_body (de_var 0)) da_nil)) de_int) da_nil)) da_nil)))) da_nil))) (dss_one (ds_expr (de_bm PySem.F.plainAttrs_list PySem.F.slot_list_append PySem.F.type_list_append mt_append ms_app (de_fld fc_BodyReader_body (de_var 0)) (da_cons (de_tup (da_cons (de_ix (de_var 1) de_int) da_nil)) da_nil)))))) (dss_one (ds_if (dt_cmp (op_eqA hr.units) os_eq (de_var 1) (de_lst false (da_cons de_str da_nil))) (dss_cons (ds_expr (de_meth c_Reader_need tk (hr.mono (by decide)) (de_var 2) (da_cons (de_and (de_cmp op_gt os_B (de_cb call_len cs_len z_len (by decide +kernel) (da_cons (de_fld fc_BodyReader_blocks (de_var 0)) da_nil)) de_int) (de_one (de_cmp (op_eqA hr.units) os_eq (de_ix (de_ix (de_fld fc_BodyReader_blocks (de_var 0)) (de_un un_neg us_neg de_int)) de_int) de_str))) da_nil))) (dss_cons (ds_expr (de_meth c_Reader_need tk (hr.mono (by decide)) (de_var 2) (da_cons (de_cmp op_lt os_B (de_cb call_len cs_len z_len (by decide +kernel) (da_cons (de_ix (de_ix (de_fld fc_BodyReader_blocks (de_var 0)) (de_un un_neg us_neg de_int)) de_int) da_nil)) (de_gint gi_MOST_BODIES)) da_nil))) (dss_cons (ds_expr (de_bm PySem.F.plainAttrs_list PySem.F.slot_list_append PySem.F.type_list_append mt_append ms_app (de_ix (de_ix (de_fld fc_BodyReader_blocks (de_var 0)) (de_un un_neg us_neg de_int)) de_int) (da_cons (de_bin op_addA os_add (de_cb call_len cs_len z_len (by decide +kernel) (da_cons (de_fld fc_BodyReader_body (de_var 0)) da_nil)) de_int) da_nil))) (dss_one (ds_expr (de_bm PySem.F.plainAttrs_list PySem.F.slot_list_append PySem.F.type_list_append mt_append ms_app (de_fld fc_BodyReader_body (de_var 0)) (da_cons (de_tup (da_cons de_str da_nil)) da_nil))))))) (dss_one (ds_if (dt_cmp (op_eqA hr.units) os_eq (de_var 1) (de_lst false (da_cons de_str da_nil))) (dss_one (ds_expr (de_meth0 c_BodyReader_read_end tk (hr.mono (by decide)) (de_var 0)))) (dss_one (ds_if (dt_cmp (op_eqA hr.units) os_eq (de_ix (de_var 1) de_int) de_str) (dss_cons (ds_expr (de_meth c_Reader_need tk (hr.mono (by decide)) (de_var 2) (da_cons (de_and (de_cmp (op_eqA hr.units) os_eq (de_cb call_len cs_len z_len (by decide +kernel) (da_cons (de_var 1) da_nil)) de_int) (de_one (de_meth c_Reader_is_above tk (hr.mono (by decide)) (de_var 2) (da_cons (de_ix (de_var 1) de_int) da_nil)))) da_nil))) (dss_one (ds_expr (de_bm PySem.F.plainAttrs_list PySem.F.slot_list_append PySem.F.type_list_append mt_append ms_app (de_fld fc_BodyReader_body (de_var 0)) (da_cons (de_tup (da_cons de_str (da_cons (de_ix (de_var 1) de_int) da_nil))) da_nil))))) (dss_one (ds_if (dt_cmp (op_eqA hr.units) os_eq (de_ix (de_var 1) de_int) de_str) (dss_cons (ds_expr (de_meth c_Reader_need tk (hr.mono (by decide)) (de_var 2) (da_cons (de_and (de_cmp op_gt os_B (de_cb call_len cs_len z_len (by decide +kernel) (da_cons (de_var 1) da_nil)) de_int) (de_one (de_meth c_Reader_is_above tk (hr.mono (by decide)) (de_var 2) (da_cons (de_ix (de_var 1) de_int) da_nil)))) da_nil))) (dss_one (ds_expr (de_meth c_BodyReader_read_act tk (hr.mono (by decide)) (de_var 0) (da_cons (de_slice false (de_var 1) (do_some de_int) do_none) (da_cons (de_ix (de_var 1) de_int) da_nil)))))) (dss_one (ds_expr (de_meth c_BodyReader_read_act tk (hr.mono (by decide)) (de_var 0) (da_cons (de_var 1) (da_cons de_non da_nil))))))))))))))))
abbrev s_BodyReader_read : Stmt := inClass (topS 19) 1
abbrev n_BodyReader_read : List Str := ["self", "reader", "words"]
theorem sc_BodyReader_read : FnScope n_BodyReader_read ["self"] (defScope s_BodyReader_read) := ⟨rfl, rfl, rfl, by decide +kernel, rfl, by decide +kernel, by decide +kernel⟩
theorem ok_BodyReader_read  (L : MLoc K mg "BodyReader" "read" "BodyReader.read" s_BodyReader_read ["self"]) (fc_BodyReader_body : FC K mg "BodyReader" "body") (z_tuple : mg "tuple" = none) (fc_Reader_at : FC K mg "Reader" "at") (fc_BodyReader_blocks : FC K mg "BodyReader" "blocks") (fc_BodyReader_reader : FC K mg "BodyReader" "reader") (c_Reader_words : MCal P w K mg base "Reader" "words" 3 ["self"] m_Reader_words) (c_BodyReader_read_row : MCal P w K mg base "BodyReader" "read_row" 8 ["self", "words"] m_BodyReader_read_row) : MCal P w K mg base "BodyReader" "read" 9 ["self"] m_BodyReader_read :=
  mcal_def (N := n_BodyReader_read) L sc_BodyReader_read fun f cdv A outer s H E hr tk po => (dss_cons (ds_set 1 sc_BodyReader_read.nd (de_fld fc_BodyReader_reader (de_var 0))) (dss_cons (ds_set 2 sc_BodyReader_read.nd (de_meth0 c_Reader_words tk (hr.mono (by decide)) (de_var 1))) (dss_cons (ds_while po (dt_w (dw_or (dt_cmp (op_neA hr.units) os_ne (de_var 2) (de_lst false (da_cons de_str da_nil))) (dw_or1 (dt_tru (de_fld fc_BodyReader_blocks (de_var 0)))))) (dss_cons (ds_expr (de_meth c_BodyReader_read_row tk (hr.mono (by decide)) (de_var 0) (da_cons (de_var 2) da_nil))) (dss_cons (ds_augf fc_Reader_at (de_var 1) de_int) (dss_one (ds_set 2 sc_BodyReader_read.nd (de_meth0 c_Reader_words tk (hr.mono (by decide)) (de_var 1))))))) (dss_cons (ds_augf fc_Reader_at (de_var 1) de_int) (dss_one (ds_ret (de_ct call_tuple_of cs_tuple z_tuple (by decide +kernel) (da_cons (de_fld fc_BodyReader_body (de_var 0)) da_nil))))))))
abbrev s_Reader_read_def : Stmt := inClass (topS 18) 17
abbrev n_Reader_read_def : List Str := ["self", "words", "line", "hidden", "path", "label", "body", "row"]
theorem sc_Reader_read_def : FnScope n_Reader_read_def ["self", "words"] (defScope s_Reader_read_def) := ⟨rfl, rfl, rfl, by decide +kernel, rfl, by decide +kernel, by decide +kernel⟩
theorem ok_Reader_read_def  (L : MLoc K mg "Reader" "read_def" "Reader.read_def" s_Reader_read_def ["self", "words"]) (fc_Reader_defs : FC K mg "Reader" "defs") (fc_Reader_at : FC K mg "Reader" "at") (fc_Reader_places : FC K mg "Reader" "places") (z_len : mg "len" = none) (c_Reader_module : MCal P w K mg base "Reader" "module" 1 ["self"] m_Reader_module) (c_Reader_keep_row : MCal P w K mg base "Reader" "keep_row" 2 ["self", "row"] m_Reader_keep_row) (c_BodyReader___init__ : KCal P w K mg base "BodyReader" 1 ["self", "reader", "hidden", "line"] m_BodyReader___init__) (c_BodyReader_read : MCal P w K mg base "BodyReader" "read" 9 ["self"] m_BodyReader_read) (c_Reader_declare : MCal P w K mg base "Reader" "declare" 4 ["self", "name"] m_Reader_declare) (c_Reader_path_above : MCal P w K mg base "Reader" "path_above" 5 ["self", "text", "line"] m_Reader_path_above) (c_name_fits : Cal P w K mg base "name_fits" 2 ["text"] m_name_fits) (c_Reader_need : MCal P w K mg base "Reader" "need" 3 ["self", "holds"] m_Reader_need) : MCal P w K mg base "Reader" "read_def" 10 ["self", "words"] m_Reader_read_def :=
  mcal_def (N := n_Reader_read_def) L sc_Reader_read_def fun f cdv A outer s H E hr tk po => (dss_cons (ds_set 2 sc_Reader_read_def.nd (de_fld fc_Reader_at (de_var 0))) (dss_cons (ds_set2 3 4 sc_Reader_read_def.nd de_non) (dss_cons (ds_expr (de_meth c_Reader_need tk (hr.mono (by decide)) (de_var 0) (da_cons (de_or (de_cmp (op_eqA hr.units) os_eq (de_cb call_len cs_len z_len (by decide +kernel) (da_cons (de_var 1) da_nil)) de_int) (de_one (de_cmp (op_eqA hr.units) os_eq (de_cb call_len cs_len z_len (by decide +kernel) (da_cons (de_var 1) da_nil)) de_int))) da_nil))) (dss_cons (ds_if (dt_cmp (op_eqA hr.units) os_eq (de_cb call_len cs_len z_len (by decide +kernel) (da_cons (de_var 1) da_nil)) de_int) (dss_cons (ds_expr (de_meth c_Reader_need tk (hr.mono (by decide)) (de_var 0) (da_cons (de_and (de_cmp (op_eqA hr.units) os_eq (de_ix (de_var 1) de_int) de_str) (de_and (de_callC c_name_fits tk (hr.mono (by decide)) (da_cons (de_ix (de_var 1) de_int) da_nil)) (de_one (de_cmp (op_eqA hr.units) os_eq (de_ix (de_var 1) de_int) de_str)))) da_nil))) (dss_cons (ds_set 3 sc_Reader_read_def.nd (de_ix (de_var 1) de_int)) (dss_one (ds_set 4 sc_Reader_read_def.nd (de_meth c_Reader_path_above tk (hr.mono (by decide)) (de_var 0) (da_cons (de_ix (de_var 1) de_int) (da_cons (de_var 2) da_nil))))))) dss_nil) (dss_cons (ds_expr (de_meth c_Reader_declare tk (hr.mono (by decide)) (de_var 0) (da_cons (de_ix (de_var 1) de_int) da_nil))) (dss_cons (ds_set 5 sc_Reader_read_def.nd (de_joined (DJ.fmt (de_meth0 c_Reader_module tk (hr.mono (by decide)) (de_var 0)) (DJ.lit de_str (DJ.fmt (de_ix (de_var 1) de_int) DJ.nil))))) (dss_cons (ds_if (dt_cmp op_notN os_notN (de_var 3) de_non) (dss_one (ds_dput (hu_of hr.toRoom) (de_fld fc_Reader_places (de_var 0)) (de_joined (DJ.fmt (de_var 5) (DJ.lit de_str (DJ.fmt (de_var 3) (DJ.lit de_str DJ.nil))))) (de_var 2))) dss_nil) (dss_cons (ds_augf fc_Reader_at (de_var 0) de_int) (dss_cons (ds_set 6 sc_Reader_read_def.nd (de_meth0 c_BodyReader_read tk (hr.mono (by decide)) (de_make c_BodyReader___init__ tk (hr.mono (by decide)) (da_cons (de_var 0) (da_cons (de_var 3) (da_cons (de_var 2) da_nil)))))) (dss_cons (ds_set 7 sc_Reader_read_def.nd (de_tup (da_cons de_str (da_cons (de_ix (de_var 1) de_int) (da_cons (de_var 2) (da_cons (de_var 3) (da_cons (de_var 4) (da_cons (de_var 6) da_nil)))))))) (dss_cons (ds_expr (de_meth c_Reader_keep_row tk (hr.mono (by decide)) (de_var 0) (da_cons (de_var 7) da_nil))) (dss_one (ds_dput (hu_of hr.toRoom) (de_fld fc_Reader_defs (de_var 0)) (de_var 5) (de_tup (da_cons (de_meth0 c_Reader_module tk (hr.mono (by decide)) (de_var 0)) (da_cons (de_var 7) da_nil))))))))))))))))
abbrev s_Reader_read_row : Stmt := inClass (topS 18) 10
abbrev n_Reader_read_row : List Str := ["self", "words"]
theorem sc_Reader_read_row : FnScope n_Reader_read_row ["self"] (defScope s_Reader_read_row) := ⟨rfl, rfl, rfl, by decide +kernel, rfl, by decide +kernel, by decide +kernel⟩
theorem ok_Reader_read_row  (L : MLoc K mg "Reader" "read_row" "Reader.read_row" s_Reader_read_row ["self"]) (fc_Reader_at : FC K mg "Reader" "at") (z_len : mg "len" = none) (fc_Reader_modules : FC K mg "Reader" "modules") (fc_Reader_places : FC K mg "Reader" "places") (fc_Reader_declared : FC K mg "Reader" "declared") (fc_Reader_rows : FC K mg "Reader" "rows") (c_Reader_keep_row : MCal P w K mg base "Reader" "keep_row" 2 ["self", "row"] m_Reader_keep_row) (c_Reader_declare : MCal P w K mg base "Reader" "declare" 4 ["self", "name"] m_Reader_declare) (c_Reader_need : MCal P w K mg base "Reader" "need" 3 ["self", "holds"] m_Reader_need) (c_Reader_read_import : MCal P w K mg base "Reader" "read_import" 5 ["self", "words"] m_Reader_read_import) (c_Reader_read_from : MCal P w K mg base "Reader" "read_from" 5 ["self", "words"] m_Reader_read_from) (c_Reader_read_table : MCal P w K mg base "Reader" "read_table" 8 ["self", "words"] m_Reader_read_table) (c_Reader_read_class : MCal P w K mg base "Reader" "read_class" 8 ["self", "words"] m_Reader_read_class) (c_Reader_read_def : MCal P w K mg base "Reader" "read_def" 10 ["self", "words"] m_Reader_read_def) (c_Reader_read_name : MCal P w K mg base "Reader" "read_name" 7 ["self", "words"] m_Reader_read_name) (c_name_fits : Cal P w K mg base "name_fits" 2 ["text"] m_name_fits) (c_Reader_words : MCal P w K mg base "Reader" "words" 3 ["self"] m_Reader_words) : MCal P w K mg base "Reader" "read_row" 11 ["self"] m_Reader_read_row :=
  mcal_def (N := n_Reader_read_row) L sc_Reader_read_row fun f cdv A outer s H E hr tk po => (dss_cons (ds_set 1 sc_Reader_read_row.nd (de_meth0 c_Reader_words tk (hr.mono (by decide)) (de_var 0))) (dss_cons (ds_if (dt_cmp (op_eqA hr.units) os_eq (de_ix (de_var 1) de_int) de_str) (dss_cons (ds_expr (de_meth c_Reader_need tk (hr.mono (by decide)) (de_var 0) (da_cons (de_and (de_cmp (op_eqA hr.units) os_eq (de_cb call_len cs_len z_len (by decide +kernel) (da_cons (de_var 1) da_nil)) de_int) (de_and (de_callC c_name_fits tk (hr.mono (by decide)) (da_cons (de_ix (de_var 1) de_int) da_nil)) (de_one (de_cmp op_notInA os_notIn (de_ix (de_var 1) de_int) (de_fld fc_Reader_modules (de_var 0)))))) da_nil))) (dss_cons (ds_expr (de_bm PySem.F.plainAttrs_list PySem.F.slot_list_append PySem.F.type_list_append mt_append ms_app (de_fld fc_Reader_modules (de_var 0)) (da_cons (de_ix (de_var 1) de_int) da_nil))) (dss_cons (ds_dput (hu_of hr.toRoom) (de_fld fc_Reader_rows (de_var 0)) (de_ix (de_var 1) de_int) (de_lst true da_nil)) (dss_cons (ds_dput (hu_of hr.toRoom) (de_fld fc_Reader_declared (de_var 0)) (de_ix (de_var 1) de_int) de_dnew) (dss_cons (ds_dput (hu_of hr.toRoom) (de_fld fc_Reader_places (de_var 0)) (de_ix (de_var 1) de_int) (de_fld fc_Reader_at (de_var 0))) (dss_cons (ds_augf fc_Reader_at (de_var 0) de_int) (dss_one ds_retN))))))) dss_nil) (dss_cons (ds_expr (de_meth c_Reader_need tk (hr.mono (by decide)) (de_var 0) (da_cons (de_cmp op_gt os_B (de_cb call_len cs_len z_len (by decide +kernel) (da_cons (de_fld fc_Reader_modules (de_var 0)) da_nil)) de_int) da_nil))) (dss_one (ds_if (dt_cmp (op_eqA hr.units) os_eq (de_ix (de_var 1) de_int) de_str) (dss_cons (ds_expr (de_meth c_Reader_need tk (hr.mono (by decide)) (de_var 0) (da_cons (de_cmp (op_eqA hr.units) os_eq (de_cb call_len cs_len z_len (by decide +kernel) (da_cons (de_var 1) da_nil)) de_int) da_nil))) (dss_cons (ds_expr (de_meth c_Reader_declare tk (hr.mono (by decide)) (de_var 0) (da_cons (de_ix (de_var 1) de_int) da_nil))) (dss_cons (ds_expr (de_meth c_Reader_keep_row tk (hr.mono (by decide)) (de_var 0) (da_cons (de_tup (da_cons de_str (da_cons (de_ix (de_var 1) de_int) (da_cons (de_fld fc_Reader_at (de_var 0)) da_nil)))) da_nil))) (dss_one (ds_augf fc_Reader_at (de_var 0) de_int))))) (dss_one (ds_if (dt_cmp (op_eqA hr.units) os_eq (de_ix (de_var 1) de_int) de_str) (dss_one (ds_expr (de_meth c_Reader_read_import tk (hr.mono (by decide)) (de_var 0) (da_cons (de_var 1) da_nil)))) (dss_one (ds_if (dt_cmp (op_eqA hr.units) os_eq (de_ix (de_var 1) de_int) de_str) (dss_one (ds_expr (de_meth c_Reader_read_from tk (hr.mono (by decide)) (de_var 0) (da_cons (de_var 1) da_nil)))) (dss_one (ds_if (dt_cmp (op_eqA hr.units) os_eq (de_ix (de_var 1) de_int) de_str) (dss_one (ds_expr (de_meth c_Reader_read_table tk (hr.mono (by decide)) (de_var 0) (da_cons (de_var 1) da_nil)))) (dss_one (ds_if (dt_cmp (op_eqA hr.units) os_eq (de_ix (de_var 1) de_int) de_str) (dss_one (ds_expr (de_meth c_Reader_read_class tk (hr.mono (by decide)) (de_var 0) (da_cons (de_var 1) da_nil)))) (dss_one (ds_if (dt_cmp (op_eqA hr.units) os_eq (de_ix (de_var 1) de_int) de_str) (dss_one (ds_expr (de_meth c_Reader_read_def tk (hr.mono (by decide)) (de_var 0) (da_cons (de_var 1) da_nil)))) (dss_one (ds_expr (de_meth c_Reader_read_name tk (hr.mono (by decide)) (de_var 0) (da_cons (de_var 1) da_nil)))))))))))))))))))
abbrev s_Reader_read : Stmt := inClass (topS 18) 1
abbrev n_Reader_read : List Str := ["self"]
theorem sc_Reader_read : FnScope n_Reader_read ["self"] (defScope s_Reader_read) := ⟨rfl, rfl, rfl, by decide +kernel, rfl, by decide +kernel, by decide +kernel⟩
theorem ok_Reader_read  (L : MLoc K mg "Reader" "read" "Reader.read" s_Reader_read ["self"]) (fc_Reader_modules : FC K mg "Reader" "modules") (fc_Reader_lines : FC K mg "Reader" "lines") (z_len : mg "len" = none) (fc_Reader_at : FC K mg "Reader" "at") (e_BadLine : ECal P w K mg base "BadLine" "at") (c_Reader_read_row : MCal P w K mg base "Reader" "read_row" 11 ["self"] m_Reader_read_row) : MCal P w K mg base "Reader" "read" 12 ["self"] m_Reader_read :=
  mcal_def (N := n_Reader_read) L sc_Reader_read fun f cdv A outer s H E hr tk po => (dss_cons (ds_while po (dt_cmp op_lt os_B (de_fld fc_Reader_at (de_var 0)) (de_cb call_len cs_len z_len (by decide +kernel) (da_cons (de_fld fc_Reader_lines (de_var 0)) da_nil))) (dss_one (ds_expr (de_meth0 c_Reader_read_row tk (hr.mono (by decide)) (de_var 0))))) (dss_one (ds_if (dt_not (dt_tru (de_fld fc_Reader_modules (de_var 0)))) (dss_one (ds_raise rfl tk (hr.mono (by decide)) e_BadLine (da_cons (de_cb call_len cs_len z_len (by decide +kernel) (da_cons (de_fld fc_Reader_lines (de_var 0)) da_nil)) da_nil))) dss_nil)))
abbrev s_call_rows : Stmt := topS 21
abbrev n_call_rows : List Str := ["body", "row"]
theorem sc_call_rows : FnScope n_call_rows ["body"] (defScope s_call_rows) := ⟨rfl, rfl, rfl, by decide +kernel, rfl, by decide +kernel, by decide +kernel⟩
theorem ok_call_rows  (L : Loc K mg "call_rows" s_call_rows ["body"]) (z_len : mg "len" = none) : Cal P w K mg base "call_rows" 1 ["body"] m_call_rows :=
  cal_def (N := n_call_rows) L sc_call_rows fun f cdv A outer s H E hr tk po => (dss_one (ds_ret (de_cb call_len cs_len z_len (by decide +kernel) (da_cons (de_lc (own := [("row", 1)]) false rfl sc_call_rows.nd (di_tup (de_var 0)) (blkOk_by (own := [("row", 1)]) (N := n_call_rows) (sc := defScope s_call_rows) (by decide +kernel)) (fun _ _ _ _ _ => pg_name (i := 1) sc_call_rows.nd rfl (Or.inl rfl)) (gc_name (by decide)) (fun _ _ _ _ _ => dts_one (dt_cmp (op_eqA hr.units) os_eq (de_ix (de_var 1) de_int) de_str)) (fun _ _ _ _ _ => (de_var 1))) da_nil))))
abbrev s_greatest_weight : Stmt := topS 22
abbrev n_greatest_weight : List Str := ["defs", "greatest", "label", "body"]
theorem sc_greatest_weight : FnScope n_greatest_weight ["defs"] (defScope s_greatest_weight) := ⟨rfl, rfl, rfl, by decide +kernel, rfl, by decide +kernel, by decide +kernel⟩
theorem ok_greatest_weight  (L : Loc K mg "greatest_weight" s_greatest_weight ["defs"]) (z_max : mg "max" = none) (c_call_rows : Cal P w K mg base "call_rows" 1 ["body"] m_call_rows) : Cal P w K mg base "greatest_weight" 2 ["defs"] m_greatest_weight :=
  cal_def (N := n_greatest_weight) L sc_greatest_weight fun f cdv A outer s H E hr tk po => (dss_cons (ds_set 1 sc_greatest_weight.nd de_int) (dss_cons (ds_forD po rfl (de_var 0) (dg_name 2 sc_greatest_weight.nd) (dss_cons (ds_set 3 sc_greatest_weight.nd (de_ix (de_ix (de_dget (hu_of hr.toRoom) (de_var 0) (de_var 2)) de_int) de_int)) (dss_one (ds_set 1 sc_greatest_weight.nd (de_cb (call_max2 rfl) cs_max2 z_max (by decide +kernel) (da_cons (de_var 1) (da_cons (de_bin op_addA os_add de_int (de_bin op_mul os_I (de_callC c_call_rows tk (hr.mono (by decide)) (da_cons (de_var 3) da_nil)) (de_cb (call_max2 rfl) cs_max2 z_max (by decide +kernel) (da_cons de_int (da_cons (de_var 1) da_nil))))) da_nil))))))) (dss_one (ds_ret (de_var 1)))))
abbrev s_Project___init__ : Stmt := inClass (topS 23) 3
abbrev n_Project___init__ : List Str := ["self", "text", "lines", "reader", "name"]
theorem sc_Project___init__ : FnScope n_Project___init__ ["self", "text"] (defScope s_Project___init__) := ⟨rfl, rfl, rfl, by decide +kernel, rfl, by decide +kernel, by decide +kernel⟩
theorem ok_Project___init__  (L : KLoc K mg "Project" "Project.__init__" s_Project___init__ ["self", "text"]) (fc_Project_kept : FC K mg "Project" "kept") (fc_Reader_kept : FC K mg "Reader" "kept") (fc_Project_lines : FC K mg "Project" "lines") (fc_Reader_places : FC K mg "Reader" "places") (fc_Project_defs : FC K mg "Project" "defs") (fc_Reader_defs : FC K mg "Reader" "defs") (fc_Project_declared : FC K mg "Project" "declared") (fc_Reader_declared : FC K mg "Reader" "declared") (fc_Project_rows : FC K mg "Project" "rows") (fc_Reader_modules : FC K mg "Reader" "modules") (fc_Reader_rows : FC K mg "Reader" "rows") (z_tuple : mg "tuple" = none) (fc_Project_modules : FC K mg "Project" "modules") (fc_Project_text : FC K mg "Project" "text") (fc_Project_weight : FC K mg "Project" "weight") (cc_Project_WEIGHT : CCon K mg "Project" "WEIGHT" 100) (z_len : mg "len" = none) (cc_Project_MODULES : CCon K mg "Project" "MODULES" 6) (cc_Project_LINES : CCon K mg "Project" "LINES" 150) (z_str : mg "str" = none) (z_isinstance : mg "isinstance" = none) (e_TooMany : ECal P w K mg base "TooMany" "what") (c_greatest_weight : Cal P w K mg base "greatest_weight" 2 ["defs"] m_greatest_weight) (c_Reader_read : MCal P w K mg base "Reader" "read" 12 ["self"] m_Reader_read) (c_Reader___init__ : KCal P w K mg base "Reader" 1 ["self", "lines"] m_Reader___init__) (c_lines_of : Cal P w K mg base "lines_of" 1 ["text"] m_lines_of) (e_BadLine : ECal P w K mg base "BadLine" "at") : KCal P w K mg base "Project" 13 ["self", "text"] m_Project___init__ :=
  kcal_def (N := n_Project___init__) L sc_Project___init__ fun f cdv A outer s H E hr tk po => (dss_cons (ds_if (dt_not (dt_tru (de_cb call_isi cs_isi z_isinstance (by decide +kernel) (da_cons (de_var 1) (da_cons (de_ty z_str (by decide +kernel)) da_nil))))) (dss_one (ds_raise rfl tk (hr.mono (by decide)) e_BadLine (da_cons (de_un un_neg us_neg de_int) da_nil))) dss_nil) (dss_cons (ds_set 2 sc_Project___init__.nd (de_callC c_lines_of tk (hr.mono (by decide)) (da_cons (de_var 1) da_nil))) (dss_cons (ds_set 3 sc_Project___init__.nd (de_make c_Reader___init__ tk (hr.mono (by decide)) (da_cons (de_var 2) da_nil))) (dss_cons (ds_expr (de_meth0 c_Reader_read tk (hr.mono (by decide)) (de_var 3))) (dss_cons (ds_if (dt_cmp op_gt os_B (de_cb call_len cs_len z_len (by decide +kernel) (da_cons (de_var 2) da_nil)) (de_ccon cc_Project_LINES)) (dss_one (ds_raise rfl tk (hr.mono (by decide)) e_TooMany (da_cons de_str da_nil))) dss_nil) (dss_cons (ds_if (dt_cmp op_gt os_B (de_cb call_len cs_len z_len (by decide +kernel) (da_cons (de_fld fc_Reader_modules (de_var 3)) da_nil)) (de_ccon cc_Project_MODULES)) (dss_one (ds_raise rfl tk (hr.mono (by decide)) e_TooMany (da_cons de_str da_nil))) dss_nil) (dss_cons (ds_fld fc_Project_weight (de_var 0) (de_callC c_greatest_weight tk (hr.mono (by decide)) (da_cons (de_fld fc_Reader_defs (de_var 3)) da_nil))) (dss_cons (ds_if (dt_cmp op_gt os_B (de_fld fc_Project_weight (de_var 0)) (de_ccon cc_Project_WEIGHT)) (dss_one (ds_raise rfl tk (hr.mono (by decide)) e_TooMany (da_cons de_str da_nil))) dss_nil) (dss_cons (ds_fld fc_Project_text (de_var 0) (de_var 1)) (dss_cons (ds_fld fc_Project_modules (de_var 0) (de_ct call_tuple_of cs_tuple z_tuple (by decide +kernel) (da_cons (de_fld fc_Reader_modules (de_var 3)) da_nil))) (dss_cons (ds_fld fc_Project_rows (de_var 0) (de_dc (own := [("name", 4)]) rfl sc_Project___init__.nd (di_list (de_fld fc_Reader_modules (de_var 3))) (blkOk_by (own := [("name", 4)]) (N := n_Project___init__) (sc := defScope s_Project___init__) (by decide +kernel)) (fun _ _ _ _ _ => pg_name (i := 4) sc_Project___init__.nd rfl (Or.inl rfl)) (gc_name (by decide)) (fun _ _ _ _ _ => dts_nil) (fun _ _ _ _ _ => (de_var 4)) (fun _ _ _ _ _ => (de_ct call_tuple_of cs_tuple z_tuple (by decide +kernel) (da_cons (de_dget (hu_of hr.toRoom) (de_fld fc_Reader_rows (de_var 3)) (de_var 4)) da_nil))))) (dss_cons (ds_fld fc_Project_declared (de_var 0) (de_fld fc_Reader_declared (de_var 3))) (dss_cons (ds_fld fc_Project_defs (de_var 0) (de_fld fc_Reader_defs (de_var 3))) (dss_cons (ds_fld fc_Project_lines (de_var 0) (de_fld fc_Reader_places (de_var 3))) (dss_one (ds_fld fc_Project_kept (de_var 0) (de_fld fc_Reader_kept (de_var 3))))))))))))))))))
abbrev s__law_source : Stmt := topS 25
abbrev n__law_source : List Str := ["_law_script", "_law_place", "_law_cell", "_law_digits"]
theorem sc__law_source : FnScope n__law_source ["_law_script", "_law_place"] (defScope s__law_source) := ⟨rfl, rfl, rfl, by decide +kernel, rfl, by decide +kernel, by decide +kernel⟩
noncomputable def b__law_source : IS := (iSeq (iSet 2 (iIf (iTest (iBin fLt (iVar 1) (iCa fLen (iCons (iVar 0) iNil)))) (iBin fIx (iVar 0) (iVar 1)) (iC (.int 0)))) (iSeq (iSet 3 (iIf (iTest (iBin fGe (iCa fAbs (iCons (iVar 2) iNil)) (iBin fPow (iC (.int 10)) (iC (.int 18))))) (iCa fAbs (iCons (iVar 2) iNil)) (iC (.int 0)))) (iRet (iLst true (iCons (iVar 3) (iCons (iBin fAdd (iBin fAdd (iBin fMod (iCa fInt (iCons (iVar 2) iNil)) (iC (.int 2147483587))) (iBin fMul (iC (.int 7919)) (iVar 1))) (iC (.int 11))) (iCons (iC (.int 0)) iNil)))))))
noncomputable def m__law_source : List IV → Sto → Out IV := mDef 4 b__law_source
theorem ok__law_source  (L : Loc K mg "_law_source" s__law_source ["_law_script", "_law_place"]) (z_int : mg "int" = none) (z_abs : mg "abs" = none) (z_len : mg "len" = none) : Cal P w K mg base "_law_source" 1 ["_law_script", "_law_place"] m__law_source :=
  cal_def (N := n__law_source) L sc__law_source fun f cdv A outer s H E hr tk po => (dss_cons (ds_set 2 sc__law_source.nd (de_if (dt_cmp op_lt os_B (de_var 1) (de_cb call_len cs_len z_len (by decide +kernel) (da_cons (de_var 0) da_nil))) (de_ix (de_var 0) (de_var 1)) de_int)) (dss_cons (ds_set 3 sc__law_source.nd (de_if (dt_cmp op_ge os_B (de_cb call_abs cs_abs z_abs (by decide +kernel) (da_cons (de_var 2) da_nil)) (de_bin op_pow os_I de_int de_int)) (de_cb call_abs cs_abs z_abs (by decide +kernel) (da_cons (de_var 2) da_nil)) de_int)) (dss_one (ds_ret (de_lst true (da_cons (de_var 3) (da_cons (de_bin op_addA os_add (de_bin op_addA os_add (de_bin op_mod os_I (de_ct call_int1 cs_int z_int (by decide +kernel) (da_cons (de_var 2) da_nil)) de_int) (de_bin op_mul os_I de_int (de_var 1))) de_int) (da_cons de_int da_nil))))))))
abbrev s__law_draw : Stmt := topS 26
abbrev n__law_draw : List Str := ["_law_s", "_law_many_here", "_law_digit", "_law_high"]
theorem sc__law_draw : FnScope n__law_draw ["_law_s", "_law_many_here"] (defScope s__law_draw) := ⟨rfl, rfl, rfl, by decide +kernel, rfl, by decide +kernel, by decide +kernel⟩
noncomputable def b__law_draw : IS := (iSeq (iIf (iTest (iBin fGt (iBin fIx (iVar 0) (iC (.int 0))) (iC (.int 0)))) (iSeq (iSet 2 (iBin fMod (iCa fInt (iCons (iBin fIx (iVar 0) (iC (.int 0))) iNil)) (iVar 1))) (iSeq (iAsg (iBin fDiv (iBin fIx (iVar 0) (iC (.int 0))) (iVar 1)) (iGSub (iVar 0) (iC (.int 0)))) (iRet (iVar 2)))) iNext) (iSeq (iAsg (iBin fAdd (iBin fIx (iVar 0) (iC (.int 2))) (iC (.int 1))) (iGSub (iVar 0) (iC (.int 2)))) (iSeq (iAsg (iBin fMod (iCa fInt (iCons (iBin fAdd (iBin fAdd (iBin fMul (iBin fIx (iVar 0) (iC (.int 1))) (iC (.int 39373))) (iBin fMul (iBin fMul (iBin fIx (iVar 0) (iC (.int 2))) (iBin fIx (iVar 0) (iC (.int 2)))) (iC (.int 30011)))) (iC (.int 1013))) iNil)) (iC (.int 2147483563))) (iGSub (iVar 0) (iC (.int 1)))) (iSeq (iSet 3 (iBin fDiv (iBin fIx (iVar 0) (iC (.int 1))) (iC (.int 128)))) (iRet (iBin fMod (iBin fMod (iCa fInt (iCons (iBin fAdd (iBin fMul (iVar 3) (iVar 3)) (iBin fIx (iVar 0) (iC (.int 1)))) iNil)) (iC (.int 2147399993))) (iVar 1)))))))
noncomputable def m__law_draw : List IV → Sto → Out IV := mDef 4 b__law_draw
theorem ok__law_draw  (L : Loc K mg "_law_draw" s__law_draw ["_law_s", "_law_many_here"]) (z_int : mg "int" = none) : Cal P w K mg base "_law_draw" 1 ["_law_s", "_law_many_here"] m__law_draw :=
  cal_def (N := n__law_draw) L sc__law_draw fun f cdv A outer s H E hr tk po => (dss_cons (ds_if (dt_cmp op_gt os_B (de_ix (de_var 0) de_int) de_int) (dss_cons (ds_set 2 sc__law_draw.nd (de_bin op_mod os_I (de_ct call_int1 cs_int z_int (by decide +kernel) (da_cons (de_ix (de_var 0) de_int) da_nil)) (de_var 1))) (dss_cons (ds_asg (de_bin op_fdiv os_I (de_ix (de_var 0) de_int) (de_var 1)) (dg_sub (de_var 0) de_int)) (dss_one (ds_ret (de_var 2))))) dss_nil) (dss_cons (ds_asg (de_bin op_addA os_add (de_ix (de_var 0) de_int) de_int) (dg_sub (de_var 0) de_int)) (dss_cons (ds_asg (de_bin op_mod os_I (de_ct call_int1 cs_int z_int (by decide +kernel) (da_cons (de_bin op_addA os_add (de_bin op_addA os_add (de_bin op_mul os_I (de_ix (de_var 0) de_int) de_int) (de_bin op_mul os_I (de_bin op_mul os_I (de_ix (de_var 0) de_int) (de_ix (de_var 0) de_int)) de_int)) de_int) da_nil)) de_int) (dg_sub (de_var 0) de_int)) (dss_cons (ds_set 3 sc__law_draw.nd (de_bin op_fdiv os_I (de_ix (de_var 0) de_int) de_int)) (dss_one (ds_ret (de_bin op_mod os_I (de_bin op_mod os_I (de_ct call_int1 cs_int z_int (by decide +kernel) (da_cons (de_bin op_addA os_add (de_bin op_mul os_I (de_var 3) (de_var 3)) (de_ix (de_var 0) de_int)) da_nil)) de_int) (de_var 1))))))))
abbrev s__law_name : Stmt := topS 27
abbrev n__law_name : List Str := ["_law_k", "_law_letters"]
theorem sc__law_name : FnScope n__law_name ["_law_k"] (defScope s__law_name) := ⟨rfl, rfl, rfl, by decide +kernel, rfl, by decide +kernel, by decide +kernel⟩
noncomputable def b__law_name : IS := (iSeq (iSet 1 (iC (.str "abcdefghijklmnopqrstuvwxyz"))) (iRet (iBin fAdd (iBin fAdd (iBin fIx (iVar 1) (iBin fDiv (iVar 0) (iC (.int 26)))) (iBin fIx (iVar 1) (iBin fMod (iVar 0) (iC (.int 26))))) (iC (.str "q")))))
noncomputable def m__law_name : List IV → Sto → Out IV := mDef 2 b__law_name
theorem ok__law_name  (L : Loc K mg "_law_name" s__law_name ["_law_k"])  : Cal P w K mg base "_law_name" 1 ["_law_k"] m__law_name :=
  cal_def (N := n__law_name) L sc__law_name fun f cdv A outer s H E hr tk po => (dss_cons (ds_set 1 sc__law_name.nd de_str) (dss_one (ds_ret (de_bin op_addA os_add (de_bin op_addA os_add (de_ix (de_var 1) (de_bin op_fdiv os_I (de_var 0) de_int)) (de_ix (de_var 1) (de_bin op_mod os_I (de_var 0) de_int))) de_str))))
abbrev s__law_told : Stmt := topS 28
abbrev n__law_told : List Str := ["_law_lines", "_law_project", "e"]
theorem sc__law_told : FnScope n__law_told ["_law_lines"] (defScope s__law_told) := ⟨rfl, rfl, rfl, by decide +kernel, rfl, by decide +kernel, by decide +kernel⟩
noncomputable def b__law_told : IS := (iSeq (iTryAs [("BadLine", true), ("TooMany", true)] 2 (iSet 1 (iMake "Project" 2 m_Project___init__ (iCons (iBM "str" fJoin (iC (.str "\n")) (iCons (iVar 0) iNil)) iNil))) (fun C m => (iSeq (iIf (iTru (iXIsT 2 m [("BadLine", true), ("TooMany", false)] C)) (iRet (iIf (iTru (iCa fIsi (iCons (iXf 2 m "at") (iCons (iC (.ty "bool")) iNil)))) (iUn fNeg (iC (.int 9))) (iXf 2 m "at"))) iNext) (iRet (iIf (iTru (iXIsT 2 m [("BadLine", false), ("TooMany", true)] C)) (iXf 2 m "what") (iC (.str "other"))))))) (iRet (iBin fSub (iCa fLen (iCons (iUn (fFld "Project" "modules") (iVar 1)) iNil)) (iC (.int 1000)))))
noncomputable def m__law_told : List IV → Sto → Out IV := mDef 3 b__law_told
theorem ok__law_told  (L : Loc K mg "_law_told" s__law_told ["_law_lines"]) (fc_Project_modules : FC K mg "Project" "modules") (z_len : mg "len" = none) (tt__law_told_0_PatchedError : TryT K mg "PatchedError" [("BadLine", true), ("TooMany", true)]) (z_isinstance : mg "isinstance" = none) (xi__law_told_0_TooMany : XiT K mg [("BadLine", true), ("TooMany", true)] "TooMany" [("BadLine", false), ("TooMany", true)]) (xf__law_told_0_what : XfT K mg [("BadLine", true), ("TooMany", true)] "what") (xi__law_told_0_BadLine : XiT K mg [("BadLine", true), ("TooMany", true)] "BadLine" [("BadLine", true), ("TooMany", false)]) (z_bool : mg "bool" = none) (xf__law_told_0_at : XfT K mg [("BadLine", true), ("TooMany", true)] "at") (c_Project___init__ : KCal P w K mg base "Project" 13 ["self", "text"] m_Project___init__) : Cal P w K mg base "_law_told" 15 ["_law_lines"] m__law_told :=
  cal_def (N := n__law_told) L sc__law_told fun f cdv A outer s H E hr tk po => (dss_cons (ds_tryN rfl rfl sc__law_told.nd 2 tt__law_told_0_PatchedError tk (fun W' pn xe tk' po' => (dss_one (ds_set 1 sc__law_told.nd (de_make c_Project___init__ tk' (hr.mono (by decide)) (da_cons (de_bm PySem.F.plainAttrs_str PySem.F.slot_str_join PySem.F.type_str_join mt_join ms_join de_str (da_cons (de_var 0) da_nil)) da_nil))))) (fun C m a d oe pn hC hz hf => (dss_cons (ds_if (dt_tru (de_isXT xi__law_told_0_BadLine hC hz hf z_isinstance)) (dss_one (ds_ret (de_if (dt_tru (de_cb call_isi cs_isi z_isinstance (by decide +kernel) (da_cons (de_xfT xf__law_told_0_at hC hz hf) (da_cons (de_ty z_bool (by decide +kernel)) da_nil)))) (de_un un_neg us_neg de_int) (de_xfT xf__law_told_0_at hC hz hf)))) dss_nil) (dss_one (ds_ret (de_if (dt_tru (de_isXT xi__law_told_0_TooMany hC hz hf z_isinstance)) (de_xfT xf__law_told_0_what hC hz hf) de_str)))))) (dss_one (ds_ret (de_bin op_subT os_I (de_cb call_len cs_len z_len (by decide +kernel) (da_cons (de_fld fc_Project_modules (de_var 1)) da_nil)) de_int))))
abbrev s__law_many : Stmt := topS 29
abbrev n__law_many : List Str := ["_law_s", "_law_many_here", "_law_count", "_law_heavy", "_law_lines", "_law_room", "_law_starts", "_law_k", "_law_word"]
theorem sc__law_many : FnScope n__law_many ["_law_s", "_law_many_here", "_law_count", "_law_heavy"] (defScope s__law_many) := ⟨rfl, rfl, rfl, by decide +kernel, rfl, by decide +kernel, by decide +kernel⟩
noncomputable def b__law_many : IS := (iSeq (iSet 4 (iLst true (iCons (iC (.str "module light")) iNil))) (iSeq (iIf (iTru (iVar 3)) (iSeq (iSet 4 (iBin fAdd (iLst false (iCons (iC (.str "module heavy")) (iCons (iC (.str "outside send")) (iCons (iC (.str "def first")) iNil)))) (iBin (fRep false) (iLst false (iCons (iC (.str "call send")) iNil)) (iC (.int 10))))) (iSet 4 (iBin fCatC (iBin fAdd (iBin fAdd (iVar 4) (iLst false (iCons (iC (.str "end")) (iCons (iC (.str "def next")) iNil)))) (iBin (fRep false) (iLst false (iCons (iC (.str "call send")) iNil)) (iC (.int 10)))) (iLst false (iCons (iC (.str "end")) iNil))))) iNext) (iSeq (iSet 5 (iBin fSub (iVar 2) (iCa fLen (iCons (iVar 4) iNil)))) (iSeq (iSet 6 (iLc false (iSrcR1 (iBin fSub (iVar 1) (iC (.int 1)))) (giN 7) iYes (iBin fAdd (iCa fLen (iCons (iVar 4) iNil)) (iCall 2 m__law_draw (iCons (iVar 0) (iCons (iVar 5) iNil)))) [7])) (iSeq (iFor (iSrcR2 (iCa fLen (iCons (iVar 4) iNil)) (iVar 2)) (iName 7) (iSeq (iSet 8 (iIf (iTest (iBin fIn (iVar 7) (iVar 6))) (iC (.str "module ")) (iC (.str "outside ")))) (iDrop (iBM "list" fApp (iVar 4) (iCons (iBin fAdd (iVar 8) (iCall 1 m__law_name (iCons (iVar 7) iNil))) iNil))))) (iRet (iVar 4)))))))
noncomputable def m__law_many : List IV → Sto → Out IV := mDef 9 b__law_many
theorem ok__law_many  (L : Loc K mg "_law_many" s__law_many ["_law_s", "_law_many_here", "_law_count", "_law_heavy"]) (z_range : mg "range" = none) (z_len : mg "len" = none) (c__law_name : Cal P w K mg base "_law_name" 1 ["_law_k"] m__law_name) (c__law_draw : Cal P w K mg base "_law_draw" 1 ["_law_s", "_law_many_here"] m__law_draw) : Cal P w K mg base "_law_many" 2 ["_law_s", "_law_many_here", "_law_count", "_law_heavy"] m__law_many :=
  cal_def (N := n__law_many) L sc__law_many fun f cdv A outer s H E hr tk po => (dss_cons (ds_set 4 sc__law_many.nd (de_lst true (da_cons de_str da_nil))) (dss_cons (ds_if (dt_tru (de_var 3)) (dss_cons (ds_set 4 sc__law_many.nd (de_bin op_addA os_add (de_lst false (da_cons de_str (da_cons de_str (da_cons de_str da_nil)))) (de_bin op_rep (os_rep false) (de_lst false (da_cons de_str da_nil)) de_int))) (dss_one (ds_set 4 sc__law_many.nd (de_bin op_cat os_catC (de_bin op_addA os_add (de_bin op_addA os_add (de_var 4) (de_lst false (da_cons de_str (da_cons de_str da_nil)))) (de_bin op_rep (os_rep false) (de_lst false (da_cons de_str da_nil)) de_int)) (de_lst false (da_cons de_str da_nil)))))) dss_nil) (dss_cons (ds_set 5 sc__law_many.nd (de_bin op_subT os_I (de_var 2) (de_cb call_len cs_len z_len (by decide +kernel) (da_cons (de_var 4) da_nil)))) (dss_cons (ds_setLc (own := [("_law_k", 7)]) false 6 rfl sc__law_many.nd (di_range1 z_range (da_cons (de_bin op_subT os_I (de_var 1) de_int) da_nil)) (blkOk_by (own := [("_law_k", 7)]) (N := n__law_many) (sc := defScope s__law_many) (by decide +kernel)) (fun _ _ _ _ _ => pg_name (i := 7) sc__law_many.nd rfl (Or.inl rfl)) (gc_name (by decide)) (fun _ _ _ _ _ => dts_nil) (fun _ _ _ _ _ => (de_bin op_addA os_add (de_cb call_len cs_len z_len (by decide +kernel) (da_cons (de_var 4) da_nil)) (de_callC c__law_draw takesW0 (hr.mono (by decide)) (da_cons (de_var 0) (da_cons (de_var 5) da_nil)))))) (dss_cons (ds_for po rfl (di_range2 z_range (da_cons (de_cb call_len cs_len z_len (by decide +kernel) (da_cons (de_var 4) da_nil)) (da_cons (de_var 2) da_nil))) (dg_name 7 sc__law_many.nd) (dss_cons (ds_set 8 sc__law_many.nd (de_if (dt_cmp op_inA os_in (de_var 7) (de_var 6)) de_str de_str)) (dss_one (ds_expr (de_bm PySem.F.plainAttrs_list PySem.F.slot_list_append PySem.F.type_list_append mt_append ms_app (de_var 4) (da_cons (de_bin op_addA os_add (de_var 8) (de_callC c__law_name tk (hr.mono (by decide)) (da_cons (de_var 7) da_nil))) da_nil)))))) (dss_one (ds_ret (de_var 4))))))))
abbrev s_law : Stmt := topS 30
abbrev n_law : List Str := ["_law_script", "_law_place", "_law_s", "_law_many_here", "_law_count", "_law_heavy", "_law_lines", "_law_found", "_law_due", "_law_at", "_law_exact", "_law_line", "_law_k"]
theorem sc_law : FnScope n_law ["_law_script"] (defScope s_law) := ⟨rfl, rfl, rfl, by decide +kernel, rfl, by decide +kernel, by decide +kernel⟩
noncomputable def b_law : IS := (iSeq (iFor (iSrcR1 (iCa fMax2 (iCons (iC (.int 1)) (iCons (iCa fMin2 (iCons (iC (.int 4)) (iCons (iCa fLen (iCons (iVar 0) iNil)) iNil))) iNil)))) (iName 1) (iSeq (iSet 2 (iCall 2 m__law_source (iCons (iVar 0) (iCons (iVar 1) iNil)))) (iSeq (iPar 3 4 (iCons (iBin fAdd (iC (.int 1)) (iCall 2 m__law_draw (iCons (iVar 2) (iCons (iC (.int 8)) iNil)))) (iCons (iBin fAdd (iC (.int 140)) (iCall 2 m__law_draw (iCons (iVar 2) (iCons (iC (.int 17)) iNil)))) iNil))) (iSeq (iSet 5 (iBin fEq (iCall 2 m__law_draw (iCons (iVar 2) (iCons (iC (.int 3)) iNil))) (iC (.int 0)))) (iSeq (iSet 6 (iCall 4 m__law_many (iCons (iVar 2) (iCons (iVar 3) (iCons (iVar 4) (iCons (iVar 5) iNil)))))) (iSeq (iSet 7 (iCa fLen (iCons (iLc false (iSrcL (iVar 6)) (giN 11) (iTest (iBin fEq (iSl false (iVar 11) iNoPart (iPart (iC (.int 7)))) (iC (.str "module ")))) (iVar 11) [11]) iNil))) (iSeq (iSet 8 (iBin fSub (iVar 7) (iC (.int 1000)))) (iSeq (iIf (iTest (iBin fGt (iCa fLen (iCons (iVar 6) iNil)) (iC (.int 150)))) (iSet 8 (iC (.str "lines"))) (iIf (iTest (iBin fGt (iVar 7) (iC (.int 6)))) (iSet 8 (iC (.str "modules"))) (iIf (iTru (iVar 5)) (iSet 8 (iC (.str "weight"))) iNext))) (iSeq (iIf (iTest (iBin fNe (iCall 1 m__law_told (iCons (iVar 6) iNil)) (iVar 8))) (iRet (iC (.bl false))) iNext) (iSeq (iSet 9 (iCall 2 m__law_draw (iCons (iVar 2) (iCons (iBin fAdd (iCa fLen (iCons (iVar 6) iNil)) (iC (.int 1))) iNil)))) (iSeq (iIf (iTest (iBin fNe (iCall 1 m__law_told (iCons (iBin fAdd (iBin fAdd (iSl false (iVar 6) iNoPart (iPart (iVar 9))) (iLst false (iCons (iC (.str "outside")) iNil))) (iSl false (iVar 6) (iPart (iVar 9)) iNoPart)) iNil)) (iVar 9))) (iRet (iC (.bl false))) iNext) (iSeq (iIf (iTest (iBin fNe (iCall 1 m__law_told (iCons (iBin fAdd (iSl false (iVar 6) iNoPart (iPart (iC (.int 150)))) (iLst false (iCons (iC (.str "module end")) iNil))) iNil)) (iBin fSub (iC (.int 150)) (iCa fMax2 (iCons (iC (.int 0)) (iCons (iBin fSub (iC (.int 150)) (iCa fLen (iCons (iVar 6) iNil))) iNil)))))) (iRet (iC (.bl false))) iNext) (iSeq (iSet 10 (iLc false (iSrcR1 (iC (.int 6))) (giN 12) iYes (iBin fAdd (iC (.str "module ")) (iCall 1 m__law_name (iCons (iVar 12) iNil))) [12])) (iSeq (iSet 10 (iBin fAdd (iVar 10) (iLc false (iSrcR1 (iC (.int 144))) (giN 12) iYes (iBin fAdd (iC (.str "outside ")) (iCall 1 m__law_name (iCons (iVar 12) iNil))) [12]))) (iSeq (iIf (iOr (iTest (iBin fNe (iCall 1 m__law_told (iCons (iVar 10) iNil)) (iBin fSub (iC (.int 6)) (iC (.int 1000))))) (iTest (iBin fNe (iCall 1 m__law_told (iCons (iBin fAdd (iVar 10) (iLst false (iCons (iC (.str "outside last")) iNil))) iNil)) (iC (.str "lines"))))) (iRet (iC (.bl false))) iNext) (iIf (iTest (iBin fNe (iCall 1 m__law_told (iCons (iLc false (iSrcR1 (iC (.int 7))) (giN 12) iYes (iBin fAdd (iC (.str "module ")) (iCall 1 m__law_name (iCons (iVar 12) iNil))) [12]) iNil)) (iC (.str "modules")))) (iRet (iC (.bl false))) iNext)))))))))))))))) (iRet (iAndV (iBin fEq (iC (.int 150)) (iC (.int 150))) (iBin fEq (iC (.int 6)) (iC (.int 6))))))
noncomputable def m_law : List IV → Sto → Out IV := mDef 13 b_law
theorem ok_law  {f : Addr} {fd : FuncData} (F : Fun K "law" "law" s_law f fd) (cc_Project_LINES : CCon K mg "Project" "LINES" 150) (cc_Project_MODULES : CCon K mg "Project" "MODULES" 6) (z_range : mg "range" = none) (z_len : mg "len" = none) (z_min : mg "min" = none) (z_max : mg "max" = none) (c__law_name : Cal P w K mg base "_law_name" 1 ["_law_k"] m__law_name) (c__law_told : Cal P w K mg base "_law_told" 15 ["_law_lines"] m__law_told) (c__law_draw : Cal P w K mg base "_law_draw" 1 ["_law_s", "_law_many_here"] m__law_draw) (c__law_many : Cal P w K mg base "_law_many" 2 ["_law_s", "_law_many_here", "_law_count", "_law_heavy"] m__law_many) (c__law_source : Cal P w K mg base "_law_source" 1 ["_law_script", "_law_place"] m__law_source) : FnG P w K mg base (L2.CX P w) 16 f fd ["_law_script"] (spM K mg 1 m_law) :=
  ok_def (N := n_law) F sc_law fun cdv A outer s H E hr tk po => (dss_cons (ds_for po rfl (di_range1 z_range (da_cons (de_cb (call_max2 rfl) cs_max2 z_max (by decide +kernel) (da_cons de_int (da_cons (de_cb (call_min2 rfl) cs_min2 z_min (by decide +kernel) (da_cons de_int (da_cons (de_cb call_len cs_len z_len (by decide +kernel) (da_cons (de_var 0) da_nil)) da_nil))) da_nil))) da_nil)) (dg_name 1 sc_law.nd) (dss_cons (ds_set 2 sc_law.nd (de_callC c__law_source tk (hr.mono (by decide)) (da_cons (de_var 0) (da_cons (de_var 1) da_nil)))) (dss_cons (ds_par 3 4 rfl sc_law.nd (da_cons (de_bin op_addA os_add de_int (de_callC c__law_draw tk (hr.mono (by decide)) (da_cons (de_var 2) (da_cons de_int da_nil)))) (da_cons (de_bin op_addA os_add de_int (de_callC c__law_draw tk (hr.mono (by decide)) (da_cons (de_var 2) (da_cons de_int da_nil)))) da_nil))) (dss_cons (ds_set 5 sc_law.nd (de_cmp (op_eqA hr.units) os_eq (de_callC c__law_draw tk (hr.mono (by decide)) (da_cons (de_var 2) (da_cons de_int da_nil))) de_int)) (dss_cons (ds_set 6 sc_law.nd (de_callC c__law_many tk (hr.mono (by decide)) (da_cons (de_var 2) (da_cons (de_var 3) (da_cons (de_var 4) (da_cons (de_var 5) da_nil)))))) (dss_cons (ds_set 7 sc_law.nd (de_cb call_len cs_len z_len (by decide +kernel) (da_cons (de_lc (own := [("_law_line", 11)]) false rfl sc_law.nd (di_list (de_var 6)) (blkOk_by (own := [("_law_line", 11)]) (N := n_law) (sc := defScope s_law) (by decide +kernel)) (fun _ _ _ _ _ => pg_name (i := 11) sc_law.nd rfl (Or.inl rfl)) (gc_name (by decide)) (fun _ _ _ _ _ => dts_one (dt_cmp (op_eqA hr.units) os_eq (de_slice false (de_var 11) do_none (do_some de_int)) de_str)) (fun _ _ _ _ _ => (de_var 11))) da_nil))) (dss_cons (ds_set 8 sc_law.nd (de_bin op_subT os_I (de_var 7) de_int)) (dss_cons (ds_if (dt_cmp op_gt os_B (de_cb call_len cs_len z_len (by decide +kernel) (da_cons (de_var 6) da_nil)) de_int) (dss_one (ds_set 8 sc_law.nd de_str)) (dss_one (ds_if (dt_cmp op_gt os_B (de_var 7) de_int) (dss_one (ds_set 8 sc_law.nd de_str)) (dss_one (ds_if (dt_tru (de_var 5)) (dss_one (ds_set 8 sc_law.nd de_str)) dss_nil))))) (dss_cons (ds_if (dt_cmp (op_neA hr.units) os_ne (de_callC c__law_told tk (hr.mono (by decide)) (da_cons (de_var 6) da_nil)) (de_var 8)) (dss_one (ds_ret de_bl)) dss_nil) (dss_cons (ds_set 9 sc_law.nd (de_callC c__law_draw tk (hr.mono (by decide)) (da_cons (de_var 2) (da_cons (de_bin op_addA os_add (de_cb call_len cs_len z_len (by decide +kernel) (da_cons (de_var 6) da_nil)) de_int) da_nil)))) (dss_cons (ds_if (dt_cmp (op_neA hr.units) os_ne (de_callC c__law_told tk (hr.mono (by decide)) (da_cons (de_bin op_addA os_add (de_bin op_addA os_add (de_slice false (de_var 6) do_none (do_some (de_var 9))) (de_lst false (da_cons de_str da_nil))) (de_slice false (de_var 6) (do_some (de_var 9)) do_none)) da_nil)) (de_var 9)) (dss_one (ds_ret de_bl)) dss_nil) (dss_cons (ds_if (dt_cmp (op_neA hr.units) os_ne (de_callC c__law_told tk (hr.mono (by decide)) (da_cons (de_bin op_addA os_add (de_slice false (de_var 6) do_none (do_some de_int)) (de_lst false (da_cons de_str da_nil))) da_nil)) (de_bin op_subT os_I de_int (de_cb (call_max2 rfl) cs_max2 z_max (by decide +kernel) (da_cons de_int (da_cons (de_bin op_subT os_I de_int (de_cb call_len cs_len z_len (by decide +kernel) (da_cons (de_var 6) da_nil))) da_nil))))) (dss_one (ds_ret de_bl)) dss_nil) (dss_cons (ds_setLc (own := [("_law_k", 12)]) false 10 rfl sc_law.nd (di_range1 z_range (da_cons de_int da_nil)) (blkOk_by (own := [("_law_k", 12)]) (N := n_law) (sc := defScope s_law) (by decide +kernel)) (fun _ _ _ _ _ => pg_name (i := 12) sc_law.nd rfl (Or.inl rfl)) (gc_name (by decide)) (fun _ _ _ _ _ => dts_nil) (fun _ _ _ _ _ => (de_bin op_addA os_add de_str (de_callC c__law_name takesW0 (hr.mono (by decide)) (da_cons (de_var 12) da_nil))))) (dss_cons (ds_set 10 sc_law.nd (de_bin op_addA os_add (de_var 10) (de_lc (own := [("_law_k", 12)]) false rfl sc_law.nd (di_range1 z_range (da_cons de_int da_nil)) (blkOk_by (own := [("_law_k", 12)]) (N := n_law) (sc := defScope s_law) (by decide +kernel)) (fun _ _ _ _ _ => pg_name (i := 12) sc_law.nd rfl (Or.inl rfl)) (gc_name (by decide)) (fun _ _ _ _ _ => dts_nil) (fun _ _ _ _ _ => (de_bin op_addA os_add de_str (de_callC c__law_name takesW0 (hr.mono (by decide)) (da_cons (de_var 12) da_nil))))))) (dss_cons (ds_if (dt_w (dw_or (dt_cmp (op_neA hr.units) os_ne (de_callC c__law_told tk (hr.mono (by decide)) (da_cons (de_var 10) da_nil)) (de_bin op_subT os_I de_int de_int)) (dw_or1 (dt_cmp (op_neA hr.units) os_ne (de_callC c__law_told tk (hr.mono (by decide)) (da_cons (de_bin op_addA os_add (de_var 10) (de_lst false (da_cons de_str da_nil))) da_nil)) de_str)))) (dss_one (ds_ret de_bl)) dss_nil) (dss_one (ds_if (dt_cmp (op_neA hr.units) os_ne (de_callC c__law_told tk (hr.mono (by decide)) (da_cons (de_lc (own := [("_law_k", 12)]) false rfl sc_law.nd (di_range1 z_range (da_cons de_int da_nil)) (blkOk_by (own := [("_law_k", 12)]) (N := n_law) (sc := defScope s_law) (by decide +kernel)) (fun _ _ _ _ _ => pg_name (i := 12) sc_law.nd rfl (Or.inl rfl)) (gc_name (by decide)) (fun _ _ _ _ _ => dts_nil) (fun _ _ _ _ _ => (de_bin op_addA os_add de_str (de_callC c__law_name takesW0 (hr.mono (by decide)) (da_cons (de_var 12) da_nil))))) da_nil)) de_str) (dss_one (ds_ret de_bl)) dss_nil))))))))))))))))) (dss_one (ds_ret (de_and (de_cmp (op_eqA hr.units) os_eq (de_ccon cc_Project_LINES) de_int) (de_one (de_cmp (op_eqA hr.units) os_eq (de_ccon cc_Project_MODULES) de_int))))))
end
end K10

set_option maxHeartbeats 2000000
/-! the lines of the law -/
namespace K10
open PySem PySem.Spec PyProof.Rows L2 Sm RD
def nm (k : Nat) : Str := ((⟨#[97 + k / 26]⟩ : Str) ++ (⟨#[97 + k % 26]⟩ : Str)) ++ "q"
def lM (k : Nat) : Str := ("module " : Str) ++ nm k
def lO (k : Nat) : Str := ("outside " : Str) ++ nm k
theorem sg_nm (k : Nat) : sg (nm k) = [97 + k / 26, 97 + k % 26, 113] := by
  unfold nm
  rw [sg_app, sg_app]
  rfl
theorem nm_inj {j k : Nat} (h : nm j = nm k) : j = k := by
  have := congrArg sg h
  rw [sg_nm, sg_nm] at this
  simp only [List.cons.injEq] at this
  omega
theorem nm_len (k : Nat) : (nm k).length = 3 := by rw [← sg_len, sg_nm]; rfl
theorem nm_ne {s : Str} (h : s.length ≠ 3) (k : Nat) : nm k ≠ s := fun e => h (by rw [← e, nm_len])
/-- a line that is read, of few signs, without a line feed -/
def lnB (s : Str) : Bool := decide (1 ≤ s.length ∧ s.length ≤ 30) && !decide (10 ∈ sg s) && decide ((RD.wordsOf s).length ≤ 10) && (RD.wordsOf s).all fun w => decide (w.length ≤ 100) && (sg w).all fun c => decide (c < 1114112)
theorem lnB_ok {s : Str} (h : lnB s = true) : LnOk s ∧ 10 ∉ sg s ∧ 1 ≤ s.length ∧ s.length ≤ 30 := by
  unfold lnB at h
  simp only [Bool.and_eq_true, decide_eq_true_eq, List.all_eq_true, Bool.not_eq_true', decide_eq_false_iff_not] at h
  obtain ⟨⟨⟨h1, h2⟩, h3⟩, h4⟩ := h
  exact ⟨⟨by omega, by omega, fun w hw => ⟨by have := (h4 w hw).1; omega, fun c hc => (h4 w hw).2 c hc⟩⟩, h2, h1⟩
theorem all_k : (List.range 160).all (fun k => decide (RD.wordsOf (lM k) = [("module" : Str), nm k]) && decide (RD.wordsOf (lO k) = [("outside" : Str), nm k]) && nameB (nm k) && lnB (lM k) && lnB (lO k) && decide (cutS (lM k) none (some 7) = "module ") && decide (cutS (lO k) none (some 7) = "outside")) = true := by decide +kernel
structure KF (k : Nat) : Prop where
  wm : RD.wordsOf (lM k) = [("module" : Str), nm k]
  wo : RD.wordsOf (lO k) = [("outside" : Str), nm k]
  nb : nameB (nm k) = true
  m : lnB (lM k) = true
  o : lnB (lO k) = true
  cm : cutS (lM k) none (some 7) = "module "
  co : cutS (lO k) none (some 7) = "outside"
theorem kf {k : Nat} (h : k < 160) : KF k := by
  have := List.all_eq_true.mp all_k k (List.mem_range.mpr h)
  simp only [Bool.and_eq_true, decide_eq_true_eq] at this
  obtain ⟨⟨⟨⟨⟨⟨a, b⟩, c⟩, d⟩, e⟩, f⟩, g⟩ := this
  exact ⟨a, b, c, d, e, f, g⟩
def fixL : List Str := ["module light", "module heavy", "outside send", "def first", "def next", "call send", "end", "outside", "module end", "outside last"]
theorem fix_ok : fixL.all lnB = true := by decide +kernel
theorem fix {s : Str} (h : s ∈ fixL) : lnB s = true := List.all_eq_true.mp fix_ok s h
theorem w_light : RD.wordsOf "module light" = [("module" : Str), "light"] := by decide +kernel
theorem w_heavy : RD.wordsOf "module heavy" = [("module" : Str), "heavy"] := by decide +kernel
theorem w_send : RD.wordsOf "outside send" = [("outside" : Str), "send"] := by decide +kernel
theorem w_first : RD.wordsOf "def first" = [("def" : Str), "first"] := by decide +kernel
theorem w_next : RD.wordsOf "def next" = [("def" : Str), "next"] := by decide +kernel
theorem w_call : RD.wordsOf "call send" = [("call" : Str), "send"] := by decide +kernel
theorem w_end : RD.wordsOf "end" = [("end" : Str)] := by decide +kernel
theorem w_out : RD.wordsOf "outside" = [("outside" : Str)] := by decide +kernel
theorem w_mend : RD.wordsOf "module end" = [("module" : Str), "end"] := by decide +kernel
theorem w_last : RD.wordsOf "outside last" = [("outside" : Str), "last"] := by decide +kernel
theorem n_fix : nameB "light" = true ∧ nameB "heavy" = true ∧ nameB "send" = true ∧ nameB "first" = true ∧ nameB "next" = true ∧ nameB "last" = true ∧ nameB "end" = false := by decide +kernel
theorem p_send : pathP "send" = some (("send" : Str), []) := by decide +kernel
end K10

set_option maxHeartbeats 2000000
/-! rows "module" and "outside", one after another -/
namespace K10
open PySem PySem.Spec PyProof.Rows L2 Sm RD
/-- sizes of a reader's state -/
structure Sz (q : RQ) (N : Nat) : Prop where
  pos : q.pos ≤ N
  places : q.places.length ≤ N
  ms : q.ms.length ≤ N
  rows : ∀ m ∈ q.ms, m.rows.length ≤ N
  decl : ∀ m ∈ q.ms, m.decl.length ≤ N
theorem Sz.small {q : RQ} {N : Nat} (z : Sz q N) (h : N ≤ 90000) : Small q := ⟨by have := z.pos; omega, by have := z.places; omega, by have := z.ms; omega, fun m hm => by have := z.rows m hm; omega, fun m hm => by have := z.decl m hm; omega⟩
theorem Sz.up {q : RQ} {N M : Nat} (z : Sz q N) (h : N ≤ M) : Sz q M := ⟨by have := z.pos; omega, by have := z.places; omega, by have := z.ms; omega, fun m hm => by have := z.rows m hm; omega, fun m hm => by have := z.decl m hm; omega⟩
theorem putK_len (kvs : List (Key × IV)) (k : Key) (v : IV) : (putK' kvs k v).length ≤ kvs.length + 1 := by
  unfold putK'
  split
  · rw [List.length_map]; omega
  · rw [List.length_append, List.length_singleton]; omega
theorem Sz.mod {q : RQ} {N : Nat} (z : Sz q N) (n : Str) (a d : Nat) : Sz (modQ q n a d) (N + 1) := by
  refine ⟨Nat.succ_le_succ z.pos, Nat.le_trans (putK_len _ _ _) (Nat.succ_le_succ z.places), ?_, fun m hm => ?_, fun m hm => ?_⟩
  · show (q.ms ++ [_]).length ≤ _
    rw [List.length_append, List.length_singleton]
    exact Nat.succ_le_succ z.ms
  · rcases List.mem_append.mp (show m ∈ q.ms ++ [_] from hm) with h | h
    · exact Nat.le_succ_of_le (z.rows m h)
    · rw [List.mem_singleton.mp h]; exact Nat.zero_le _
  · rcases List.mem_append.mp (show m ∈ q.ms ++ [_] from hm) with h | h
    · exact Nat.le_succ_of_le (z.decl m h)
    · rw [List.mem_singleton.mp h]; exact Nat.zero_le _
theorem Sz.out {q : RQ} {N : Nat} (z : Sz q N) {init : List Mod} {m : Mod} (hq : q.ms = init ++ [m]) (n : Str) : Sz (outQ q init m n) (N + 1) := by
  have mm : m ∈ q.ms := by rw [hq]; simp
  have z3 := z.ms
  rw [hq] at z3
  refine ⟨Nat.succ_le_succ z.pos, Nat.le_trans (putK_len _ _ _) (Nat.succ_le_succ z.places), ?_, fun x hm => ?_, fun x hm => ?_⟩
  · show (init ++ [_]).length ≤ _
    rw [List.length_append, List.length_singleton] at z3 ⊢
    omega
  · rcases List.mem_append.mp (show x ∈ init ++ [_] from hm) with h | h
    · exact Nat.le_succ_of_le (z.rows x (by rw [hq]; exact List.mem_append.mpr (.inl h)))
    · rw [List.mem_singleton.mp h]
      show (m.rows ++ [_]).length ≤ _
      rw [List.length_append, List.length_singleton]
      exact Nat.succ_le_succ (z.rows m mm)
  · rcases List.mem_append.mp (show x ∈ init ++ [_] from hm) with h | h
    · exact Nat.le_succ_of_le (z.decl x (by rw [hq]; exact List.mem_append.mpr (.inl h)))
    · rw [List.mem_singleton.mp h]
      show (m.decl ++ [_]).length ≤ _
      rw [List.length_append, List.length_singleton]
      exact Nat.succ_le_succ (z.decl m mm)
/-- the walk over the lines -/
noncomputable abbrev W (r : Nat) (S : Sto) : Out Fl := iWhile loopT loopB [some (.adr r)] S
section
variable {B : Sto} {r : Nat} {L : List Str}
/-- the lines that are read -/
structure Lns (L : List Str) : Prop where
  n : L.length ≤ 1000
  ok : ∀ s ∈ L, LnOk s
theorem step_mod (hL : Lns L) {S : Sto} {q : RQ} {N : Nat} (R : Rep B r L S q) (z : Sz q N) (hN : N ≤ 9000) {s n : Str} (hs : L[q.pos]? = some s) (hw : RD.wordsOf s = [("module" : Str), n]) (hn : nameB n = true) (hm : n ∉ q.ms.map (·.name)) :
    ∃ S' a d, Rep B r L S' (modQ q n a d) ∧ (W r S' ≠ .bad → W r S = W r S') := by
  have ok := hL.ok s (List.mem_of_getElem? hs)
  obtain ⟨S', e, R', _⟩ := (row_module R hs ok (by have := hL.n; omega) hw (by have := z.ms; omega) (by have := z.places; omega)).1 ⟨hn, hm⟩
  exact ⟨S', _, _, R', fun hb => loop_row R (lt_some hs) e rfl hb⟩
theorem step_out (hL : Lns L) {S : Sto} {q : RQ} {N : Nat} (R : Rep B r L S q) (z : Sz q N) (hN : N ≤ 9000) {s n : Str} (hs : L[q.pos]? = some s) (hw : RD.wordsOf s = [("outside" : Str), n]) (hn : nameB n = true) {init : List Mod} {m : Mod} (hq : q.ms = init ++ [m]) (hm : m.decl.lookup n = none) :
    ∃ S', Rep B r L S' (outQ q init m n) ∧ (W r S' ≠ .bad → W r S = W r S') := by
  have ok := hL.ok s (List.mem_of_getElem? hs)
  obtain ⟨S', e, R', _⟩ := (row_outside R (z.small (by omega)) hs ok (by have := hL.n; omega) hw hq).1 n rfl ⟨hn, hm⟩
  exact ⟨S', R', fun hb => loop_row R (lt_some hs) e rfl hb⟩
def lnOf (i : Bool × Nat) : Str := if i.1 = true then lM i.2 else lO i.2
theorem lookup_app {l : List (Str × Nat)} {x y : Str} {k : Nat} (h : l.lookup x = none) (hn : x ≠ y) : (l ++ [(y, k)]).lookup x = none := by
  induction l with
  | nil =>
    have : (x == y) = false := by simpa using hn
    show List.lookup x [(y, k)] = none
    rw [List.lookup_cons, this]
    rfl
  | cons p l ih =>
    obtain ⟨a, b⟩ := p
    rw [List.lookup_cons] at h
    rw [List.cons_append, List.lookup_cons]
    cases e : x == a with
    | true => rw [e] at h; cases h
    | false => rw [e] at h; exact ih h
/-- modules and outside functions of different names -/
theorem rest_go (hL : Lns L) : ∀ (its : List (Bool × Nat)) (S : Sto) (q : RQ) (N : Nat), Rep B r L S q → Sz q N → N + its.length ≤ 8000 → (∀ i it, its[i]? = some it → L[q.pos + i]? = some (lnOf it)) → (∀ it ∈ its, it.2 < 160) → its.Nodup →
    (∀ k, (true, k) ∈ its → nm k ∉ q.ms.map (·.name)) → (q.ms ≠ [] ∨ ∀ it, its[0]? = some it → it.1 = true) → (∀ k, (false, k) ∈ its → ∀ init m, q.ms = init ++ [m] → m.decl.lookup (nm k) = none) →
    ∃ S' q', Rep B r L S' q' ∧ (W r S' ≠ .bad → W r S = W r S') ∧ q'.pos = q.pos + its.length ∧ q'.ms.length = q.ms.length + its.countP (·.1) ∧ q'.defs = q.defs ∧ Sz q' (N + its.length) ∧ (its ≠ [] → q'.ms ≠ []) ∧ (q.ms ≠ [] → q'.ms ≠ []) ∧ (∀ x : Str, x.length ≠ 3 → (∀ m ∈ q.ms, m.decl.lookup x = none) → ∀ m ∈ q'.ms, m.decl.lookup x = none)
  | [], S, q, N, R, z, hN, hl, hk, hd, hm, hf, ho => ⟨S, q, R, fun _ => rfl, by simp, by simp, rfl, z.up (by simp), fun h => absurd rfl h, fun h => h, fun _ _ h => h⟩
  | (true, k) :: its, S, q, N, R, z, hN, hl, hk, hd, hm, hf, ho => by
    have k160 := hk (true, k) List.mem_cons_self
    have f := kf k160
    rw [List.length_cons] at hN
    have h0 : L[q.pos]? = some (lM k) := hl 0 (true, k) rfl
    obtain ⟨S1, a, d, R1, e1⟩ := step_mod hL R z (by omega) h0 f.wm f.nb (hm k List.mem_cons_self)
    have hd' := List.nodup_cons.mp hd
    obtain ⟨S', q', R', e2, p1, p2, p3, p4, p5, p6, p7⟩ := rest_go hL its S1 (modQ q (nm k) a d) (N + 1) R1 (z.mod _ _ _) (by omega) (fun i it hi => by
        have := hl (i + 1) it hi
        rw [show q.pos + (i + 1) = (modQ q (nm k) a d).pos + i by show _ = q.pos + 1 + i; omega] at this
        exact this) (fun it hit => hk it (List.mem_cons_of_mem _ hit)) hd'.2
      (fun j hj => by
        intro h
        have h : nm j ∈ (q.ms ++ [(⟨nm k, a, d, [], []⟩ : Mod)]).map (fun m : Mod => m.name) := h
        rw [List.map_append, List.mem_append] at h
        rcases h with h | h
        · exact hm j (List.mem_cons_of_mem _ hj) h
        · have : nm j = nm k := by simpa using h
          rw [nm_inj this] at hj
          exact hd'.1 hj)
      (.inl (by show q.ms ++ [_] ≠ []; simp)) (fun j hj init m hq => by
        have e : m = ⟨nm k, a, d, [], []⟩ := by
          have := congrArg List.getLast? (show q.ms ++ [_] = init ++ [m] from hq)
          simpa using this.symm
        rw [e]; rfl)
    refine ⟨S', q', R', fun hb => (e1 (by rw [e2 hb]; exact hb)).trans (e2 hb), ?_, ?_, p3, p4.up (by rw [List.length_cons]; omega), fun _ => p6 (by show q.ms ++ [_] ≠ []; simp), fun _ => p6 (by show q.ms ++ [_] ≠ []; simp), fun x hx h => p7 x hx fun m hm => ?_⟩
    · rw [p1, List.length_cons]; show q.pos + 1 + _ = _; omega
    · rw [p2]
      show (q.ms ++ [_]).length + _ = _
      rw [List.length_append, List.length_singleton, List.countP_cons]
      simp
      omega
    · rcases List.mem_append.mp (show m ∈ q.ms ++ [(⟨nm k, a, d, [], []⟩ : Mod)] from hm) with h2 | h2
      · exact h m h2
      · rw [List.mem_singleton.mp h2]; rfl
  | (false, k) :: its, S, q, N, R, z, hN, hl, hk, hd, hm, hf, ho => by
    have k160 := hk (false, k) List.mem_cons_self
    have f := kf k160
    rw [List.length_cons] at hN
    have h0 : L[q.pos]? = some (lO k) := hl 0 (false, k) rfl
    have hne : q.ms ≠ [] := hf.elim id fun h => by have := h (false, k) rfl; cases this
    obtain ⟨init, m, hq⟩ : ∃ init m, q.ms = init ++ [m] := ⟨q.ms.dropLast, q.ms.getLast hne, (List.dropLast_concat_getLast hne).symm⟩
    obtain ⟨S1, R1, e1⟩ := step_out hL R z (by omega) h0 f.wo f.nb hq (ho k List.mem_cons_self init m hq)
    have hd' := List.nodup_cons.mp hd
    have e0 : (outQ q init m (nm k)).ms = init ++ [{ m with decl := m.decl ++ [(nm k, q.pos)], rows := m.rows ++ [.tup [.str "outside", .str (nm k), .int q.pos]] }] := rfl
    obtain ⟨S', q', R', e2, p1, p2, p3, p4, p5, p6, p7⟩ := rest_go hL its S1 (outQ q init m (nm k)) (N + 1) R1 (z.out hq _) (by omega) (fun i it hi => by
        have := hl (i + 1) it hi
        rw [show q.pos + (i + 1) = (outQ q init m (nm k)).pos + i by show _ = q.pos + 1 + i; omega] at this
        exact this) (fun it hit => hk it (List.mem_cons_of_mem _ hit)) hd'.2
      (fun j hj => by
        have := hm j (List.mem_cons_of_mem _ hj)
        rw [hq] at this
        rw [e0]
        simpa using this)
      (.inl (by rw [e0]; simp)) (fun j hj init' m' hq' => by
        have e : m' = { m with decl := m.decl ++ [(nm k, q.pos)], rows := m.rows ++ [.tup [.str "outside", .str (nm k), .int q.pos]] } := by
          have := congrArg List.getLast? (e0.symm.trans hq')
          simpa using this.symm
        rw [e]
        refine lookup_app (ho j (List.mem_cons_of_mem _ hj) init m hq) fun h => ?_
        rw [nm_inj h] at hj
        exact hd'.1 hj)
    refine ⟨S', q', R', fun hb => (e1 (by rw [e2 hb]; exact hb)).trans (e2 hb), ?_, ?_, p3, p4.up (by rw [List.length_cons]; omega), fun _ => p6 (by rw [e0]; simp), fun _ => p6 (by rw [e0]; simp), fun x hx h => p7 x hx fun m' hm' => ?_⟩
    · rw [p1, List.length_cons]; show q.pos + 1 + _ = _; omega
    · rw [p2, e0, hq, List.length_append, List.length_append, List.countP_cons]
      simp
    · rw [e0] at hm'
      rcases List.mem_append.mp hm' with h2 | h2
      · exact h m' (by rw [hq]; exact List.mem_append.mpr (.inl h2))
      · rw [List.mem_singleton.mp h2]
        exact lookup_app (h m (by rw [hq]; simp)) fun e => hx (by rw [e, nm_len])
end
end K10

set_option maxHeartbeats 2000000
/-! rows "def"; a wrong row -/
namespace K10
open PySem PySem.Spec PyProof.Rows L2 Sm RD
section
variable {B : Sto} {r : Nat} {L : List Str}
def cRow : IV := callRow "send" (("send" : Str), [])
theorem lookup_some {l : List (Str × Nat)} {x : Str} {k : Nat} {y : Str × Nat} (h : l.lookup x = some k) : (l ++ [y]).lookup x = some k := by
  induction l with
  | nil => cases h
  | cons p l ih =>
    obtain ⟨a, b⟩ := p
    rw [List.lookup_cons] at h
    rw [List.cons_append, List.lookup_cons]
    cases e : x == a with
    | true => rw [e] at h; exact h
    | false => rw [e] at h; exact ih h
/-- a def that calls "send" c times is opened; its calls are read -/
theorem def_open (hL : Lns L) {S : Sto} {q : RQ} {N c k0 : Nat} (R : Rep B r L S q) (z : Sz q N) (hN : N ≤ 9000) (hc : c ≤ 100) {s n t : Str} (hs : L[q.pos]? = some s) (hw : RD.wordsOf s = [("def" : Str), n]) (hn : nameB n = true) {init : List Mod} {m : Mod} (hq : q.ms = init ++ [m]) (hm : m.decl.lookup n = none) (hk : m.decl.lookup ("send" : Str) = some k0) (hk0 : k0 < q.pos) (hdl : q.defs.length < 1000000)
    (hcl : ∀ i < c, ∃ t, L[q.pos + 1 + i]? = some t ∧ RD.wordsOf t = [("call" : Str), "send"]) (ht : L[q.pos + 1 + c]? = some t) :
    (RD.wordsOf t = [("end" : Str)] → ∃ S', Rep B r L S' (defQ q init m n (List.replicate c cRow) (q.pos + 1 + c + 1) q.kept) ∧ (W r S' ≠ .bad → W r S = W r S')) ∧
    (RD.wordsOf t = [("outside" : Str)] → Err B (W r S) ((q.pos + 1 + c : Nat) : Int)) := by
  have lL : L.length ≤ 1000000 := by have := hL.n; omega
  have ok := hL.ok s (List.mem_of_getElem? hs)
  have nl : n.length ≤ 1000000 := (ok.ok n (by rw [hw]; simp)).1
  obtain ⟨d1, d2⟩ := row_def R hs ok lL hw hq
  obtain ⟨S3, b, R3, B3, e3, f3⟩ := (def_head R (z.small (by omega)) hq nl).1 ⟨hn, hm⟩
  let m' : Mod := { m with decl := m.decl ++ [(n, q.pos)] }
  have hq3 : (inQ q init m n).ms = init ++ [m'] := rfl
  have hp : headP m' (none : Option Str) "send" q.pos true = some (("send" : Str), []) := by
    unfold headP
    rw [p_send]
    show (if some ("send" : Str) = none then _ else aboveP m' "send" q.pos) = _
    rw [if_neg (by simp)]
    unfold aboveP
    rw [p_send]
    show (match m'.decl.lookup ("send" : Str) with | some k => if k < q.pos then some (("send" : Str), ([] : List (Str × Str))) else none | none => none) = _
    have : m'.decl.lookup ("send" : Str) = some k0 := lookup_some hk
    rw [this]
    show (if k0 < q.pos then _ else _) = _
    rw [if_pos hk0]
  obtain ⟨s1, hs1⟩ : ∃ s1, L[(inQ q init m n).pos]? = some s1 := by
    cases c with
    | zero => exact ⟨t, ht⟩
    | succ c => obtain ⟨t1, h1, _⟩ := hcl 0 (by omega); exact ⟨t1, h1⟩
  have ok1 := hL.ok s1 (List.mem_of_getElem? hs1)
  have hmem : m ∈ q.ms := by rw [hq]; simp
  refine ⟨fun hw2 => ?_, fun hw2 => ?_⟩
  · obtain ⟨S4, e4, R4, B4⟩ := calls_loop (p := ⟨none, q.pos, [], []⟩) (init := init) (m := m') lL hL.ok hp c S3 (inQ q init m n) [] s1 R3 hq3 B3 hs1 (by simp; omega) hcl ⟨t, ht, hw2⟩
    have e5 := body_read B3 R3 hs1 ok1 lL e4 R4 B4 (by simp; omega)
    have R5 := R4.pos'
    obtain ⟨S6, e6, R6⟩ := f3 _ _ _ e5 R5 rfl rfl rfl hdl
    refine ⟨S6, ?_, fun hb => loop_row R (lt_some hs) (d1 S6 e6) rfl hb⟩
    rw [List.nil_append] at R6
    exact R6
  · obtain ⟨S4, R4, B4, e4⟩ := calls_ahead (p := ⟨none, q.pos, [], []⟩) (init := init) (m := m') lL hL.ok hp (s' := t) c S3 (inQ q init m n) [] s1 R3 hq3 B3 hs1 (by simp; omega) hcl ht
    have okt := okWs_of (hL.ok t (List.mem_of_getElem? ht))
    rw [hw2] at okt
    have act := act_bad (w := "outside") (ws := []) B4 R4 (by decide +kernel) (by simp) .non
    have row := (brow_act (B := B) (w := "outside") (ws := []) B4 okt (by decide +kernel) (by decide +kernel) (by decide +kernel) (by decide +kernel) (by decide +kernel) (by decide +kernel)).2 _ act
    have e5 : Err B (bLoop b r t S4) ((q.pos + 1 + c : Nat) : Int) := by
      unfold bLoop
      rw [hw2]
      exact bl_err B4 okt (.inl (by decide +kernel)) row
    exact loop_err R (lt_some hs) (d2 _ (e3 _ (body_read_e B3 R3 hs1 ok1 lL (e4 _ e5))))
/-- "outside" with no name, behind the first module -/
theorem top_err (hL : Lns L) {S : Sto} {q : RQ} {N : Nat} (R : Rep B r L S q) (z : Sz q N) (hN : N ≤ 9000) (hne : q.ms ≠ []) {s : Str} (hs : L[q.pos]? = some s) (hw : RD.wordsOf s = [("outside" : Str)]) : Err B (W r S) q.pos := by
  have ok := hL.ok s (List.mem_of_getElem? hs)
  obtain ⟨init, m, hq⟩ : ∃ init m, q.ms = init ++ [m] := ⟨q.ms.dropLast, q.ms.getLast hne, (List.dropLast_concat_getLast hne).symm⟩
  exact loop_err R (lt_some hs) ((row_outside R (z.small (by omega)) hs ok (by have := hL.n; omega) hw hq).2 fun n h => by cases h)
theorem first_err (hL : Lns L) {S : Sto} {q : RQ} (R : Rep B r L S q) (hq : q.ms = []) {s : Str} (hs : L[q.pos]? = some s) (hw : RD.wordsOf s = [("outside" : Str)]) : Err B (W r S) q.pos := by
  have ok := hL.ok s (List.mem_of_getElem? hs)
  exact loop_err R (lt_some hs) (row_none R hs ok (by have := hL.n; omega) hw (by decide +kernel) hq)
theorem mend_err (hL : Lns L) {S : Sto} {q : RQ} {N : Nat} (R : Rep B r L S q) (z : Sz q N) (hN : N ≤ 9000) {s : Str} (hs : L[q.pos]? = some s) (hw : RD.wordsOf s = [("module" : Str), "end"]) : Err B (W r S) q.pos := by
  have ok := hL.ok s (List.mem_of_getElem? hs)
  refine loop_err R (lt_some hs) ((row_module R hs ok (by have := hL.n; omega) hw (by have := z.ms; omega) (by have := z.places; omega)).2 fun h => ?_)
  rw [n_fix.2.2.2.2.2.2] at h
  cases h.1
/-! ### the front of a heavy project -/
def sMH : Str := "module heavy"
def sML : Str := "module light"
def sOS : Str := "outside send"
def sDF : Str := "def first"
def sDN : Str := "def next"
def sCS : Str := "call send"
def sE : Str := "end"
def callL (c : Nat) : List Str := List.replicate c sCS
def headH : List Str := ((([sMH, sOS, sDF] ++ callL 10) ++ [sE, sDN]) ++ callL 10) ++ [sE]
def headL (hv : Bool) : List Str := if hv = true then headH else [sML]
def dV (m n : Str) (pos : Nat) : DefV := ⟨lab m n, .tup [.str m, defRow n pos (List.replicate 10 cRow)], List.replicate 10 cRow⟩
theorem dV_ok (m n : Str) (pos : Nat) : (dV m n pos).Ok := ⟨⟨defRow n pos (List.replicate 10 cRow), fun S => rfl, fun S => rfl⟩, fun v hv => by
  rw [List.eq_of_mem_replicate hv]; rfl, by show (List.replicate 10 cRow).length ≤ 1000; simp⟩
theorem calls10 : callsN (List.replicate 10 cRow) = 10 := by
  unfold callsN
  rw [List.filter_eq_self.mpr fun v hv => by rw [List.eq_of_mem_replicate hv]; rfl]
  rfl
theorem weigh1 (m n : Str) (p : Nat) : weighD [dV m n p] 0 = 11 := by
  show max 0 (1 + callsN (List.replicate 10 cRow) * max 1 0) = 11
  rw [calls10]
  decide
theorem weigh2 (m n m2 n2 : Str) (p p2 : Nat) : weighD [dV m n p, dV m2 n2 p2] 0 = 111 := by
  show max (max 0 (1 + callsN (List.replicate 10 cRow) * max 1 0)) (1 + callsN (List.replicate 10 cRow) * max 1 (max 0 (1 + callsN (List.replicate 10 cRow) * max 1 0))) = 111
  rw [calls10]
  decide
theorem Sz.dfn {q : RQ} {N : Nat} (z : Sz q N) {init : List Mod} {m : Mod} (hq : q.ms = init ++ [m]) (n : Str) (body : List IV) (k : Nat) (kept : IV) (hk : k ≤ N + 20) : Sz (defQ q init m n body k kept) (N + 20) := by
  have mm : m ∈ q.ms := by rw [hq]; simp
  have z3 := z.ms
  rw [hq] at z3
  refine ⟨hk, Nat.le_trans (putK_len _ _ _) (by have := z.places; omega), ?_, fun x hm => ?_, fun x hm => ?_⟩
  · show (init ++ [_]).length ≤ _
    rw [List.length_append, List.length_singleton] at z3 ⊢
    omega
  · rcases List.mem_append.mp (show x ∈ init ++ [_] from hm) with h | h
    · have := z.rows x (by rw [hq]; exact List.mem_append.mpr (.inl h)); omega
    · rw [List.mem_singleton.mp h]
      show (m.rows ++ [_]).length ≤ _
      rw [List.length_append, List.length_singleton]
      have := z.rows m mm; omega
  · rcases List.mem_append.mp (show x ∈ init ++ [_] from hm) with h | h
    · have := z.decl x (by rw [hq]; exact List.mem_append.mpr (.inl h)); omega
    · rw [List.mem_singleton.mp h]
      show (m.decl ++ [_]).length ≤ _
      rw [List.length_append, List.length_singleton]
      have := z.decl m mm; omega
def q0 : RQ := ⟨0, [], [], [], .non⟩
theorem Sz.q0 : Sz K10.q0 0 := ⟨Nat.le_refl _, Nat.le_refl _, Nat.le_refl _, fun _ h => (by cases h), fun _ h => (by cases h)⟩
theorem h_at : headH[0]? = some sMH ∧ headH[1]? = some sOS ∧ headH[2]? = some sDF ∧ (∀ i < 10, headH[3 + i]? = some sCS) ∧ headH[13]? = some sE ∧ headH[14]? = some sDN ∧ (∀ i < 10, headH[15 + i]? = some sCS) ∧ headH[25]? = some sE ∧ headH.length = 26 := by
  refine ⟨rfl, rfl, rfl, fun i hi => ?_, rfl, rfl, fun i hi => ?_, rfl, rfl⟩
  · match i, hi with
    | 0, _ => rfl | 1, _ => rfl | 2, _ => rfl | 3, _ => rfl | 4, _ => rfl | 5, _ => rfl | 6, _ => rfl | 7, _ => rfl | 8, _ => rfl | 9, _ => rfl
  · match i, hi with
    | 0, _ => rfl | 1, _ => rfl | 2, _ => rfl | 3, _ => rfl | 4, _ => rfl | 5, _ => rfl | 6, _ => rfl | 7, _ => rfl | 8, _ => rfl | 9, _ => rfl
end
end K10

set_option maxHeartbeats 2000000
/-! the front of a heavy project, and whole projects -/
namespace K10
open PySem PySem.Spec PyProof.Rows L2 Sm RD
/-- the lines up to i are those of a heavy project -/
def Pre (L : List Str) (i : Nat) : Prop := ∀ j < i, L[j]? = headH[j]?
structure At (q : RQ) (pos : Nat) (decl : List (Str × Nat)) (ds : List DefV) (N : Nat) : Prop where
  pos : q.pos = pos
  ms : ∃ m, q.ms = [m] ∧ m.name = "heavy" ∧ m.decl = decl
  defs : q.defs = kvsD ds
  sz : Sz q N
section
variable {B : Sto} {r : Nat} {L : List Str}
theorem hv1 (hL : Lns L) {S : Sto} (R : Rep B r L S q0) (hp : Pre L 1) : ∃ S' q', Rep B r L S' q' ∧ (W r S' ≠ .bad → W r S = W r S') ∧ At q' 1 [] [] 1 := by
  have h0 : L[q0.pos]? = some sMH := (hp 0 (by omega)).trans h_at.1
  obtain ⟨S', a, d, R', e⟩ := step_mod hL R Sz.q0 (by omega) h0 w_heavy n_fix.2.1 (by show ("heavy" : Str) ∉ ([] : List Str); simp)
  exact ⟨S', _, R', e, rfl, ⟨_, rfl, rfl, rfl⟩, rfl, Sz.q0.mod _ _ _⟩
theorem hv2 (hL : Lns L) {S : Sto} (R : Rep B r L S q0) (hp : Pre L 2) : ∃ S' q', Rep B r L S' q' ∧ (W r S' ≠ .bad → W r S = W r S') ∧ At q' 2 [("send", 1)] [] 2 := by
  obtain ⟨S1, q1, R1, e1, p1, ⟨m, hq, hn, hd⟩, pd, z1⟩ := hv1 hL R fun j hj => hp j (by omega)
  have h1 : L[q1.pos]? = some sOS := by rw [p1]; exact (hp 1 (by omega)).trans h_at.2.1
  obtain ⟨S', R', e⟩ := step_out hL R1 z1 (by omega) h1 w_send n_fix.2.2.1 (init := []) (m := m) hq (by rw [hd]; rfl)
  refine ⟨S', _, R', fun hb => (e1 (by rw [e hb]; exact hb)).trans (e hb), by show q1.pos + 1 = 2; rw [p1], ⟨_, rfl, hn, ?_⟩, pd, z1.out (init := []) hq _⟩
  show m.decl ++ [_] = _
  rw [hd, p1]
  rfl
theorem def_at (hL : Lns L) {S : Sto} {q : RQ} {pos N c : Nat} {decl : List (Str × Nat)} {ds : List DefV} (R : Rep B r L S q) (A : At q pos decl ds N) (hN : N ≤ 1000) (hp1 : 2 ≤ pos) (hc : c ≤ 10) {n s t : Str} (hs : L[pos]? = some s) (hw : RD.wordsOf s = [("def" : Str), n]) (hn : nameB n = true) (hm : decl.lookup n = none) (hk : decl.lookup ("send" : Str) = some 1) (hds : ds.length ≤ 10)
    (hcl : ∀ i < c, L[pos + 1 + i]? = some sCS) (ht : L[pos + 1 + c]? = some t) :
    (c = 10 → t = sE → (∀ d ∈ ds, d.key ≠ lab "heavy" n) → pos ≤ N → ∃ S' q', Rep B r L S' q' ∧ (W r S' ≠ .bad → W r S = W r S') ∧ At q' (pos + 12) (decl ++ [(n, pos)]) (ds ++ [dV "heavy" n pos]) (N + 20)) ∧
    (RD.wordsOf t = [("outside" : Str)] → Err B (W r S) ((pos + 1 + c : Nat) : Int)) := by
  obtain ⟨p1, ⟨m, hq, hnm, hd⟩, pd, z⟩ := A
  subst p1
  subst hd
  have hdl : q.defs.length < 1000000 := by rw [pd]; unfold kvsD; rw [List.length_map]; omega
  obtain ⟨g1, g2⟩ := def_open hL R z (by omega) (by omega : c ≤ 100) hs hw hn (init := []) (m := m) hq hm hk (by omega) hdl (fun i hi => ⟨sCS, hcl i hi, w_call⟩) ht
  refine ⟨fun hc10 hte hkey hpN => ?_, g2⟩
  subst hc10
  subst hte
  obtain ⟨S', R', e⟩ := g1 w_end
  refine ⟨S', _, R', e, rfl, ⟨_, rfl, hnm, rfl⟩, ?_, z.dfn (init := []) hq _ _ _ _ (by omega)⟩
  show putK' q.defs (.inr (lab m.name n)) (.tup [.str m.name, defRow n q.pos (List.replicate 10 cRow)]) = _
  rw [pd, hnm, putK_end]
  · unfold kvsD
    rw [List.map_append]
    rfl
  · intro h
    obtain ⟨p, hp, e⟩ := List.mem_map.mp h
    obtain ⟨d, hd2, rfl⟩ := List.mem_map.mp hp
    exact hkey d hd2 (Sum.inr.inj e)
theorem hv3 (hL : Lns L) {S : Sto} (R : Rep B r L S q0) (hp : Pre L 14) : ∃ S' q', Rep B r L S' q' ∧ (W r S' ≠ .bad → W r S = W r S') ∧ At q' 14 [("send", 1), ("first", 2)] [dV "heavy" "first" 2] 22 := by
  obtain ⟨S1, q1, R1, e1, A1⟩ := hv2 hL R fun j hj => hp j (by omega)
  obtain ⟨S', q', R', e, A⟩ := (def_at hL R1 A1 (by omega) (by omega) (Nat.le_refl 10) (n := "first") ((hp 2 (by omega)).trans h_at.2.2.1) w_first n_fix.2.2.2.1 (by decide +kernel) (by decide +kernel) (by simp) (fun i hi => (hp (3 + i) (by omega)).trans (h_at.2.2.2.1 i hi)) ((hp 13 (by omega)).trans h_at.2.2.2.2.1)).1 rfl rfl (fun _ h => by cases h) (by omega)
  exact ⟨S', q', R', fun hb => (e1 (by rw [e hb]; exact hb)).trans (e hb), A⟩
theorem lab_ne : (lab "heavy" "first" : Str) ≠ lab "heavy" "next" := by decide +kernel
theorem hv4 (hL : Lns L) {S : Sto} (R : Rep B r L S q0) (hp : Pre L 26) : ∃ S' q', Rep B r L S' q' ∧ (W r S' ≠ .bad → W r S = W r S') ∧ At q' 26 [("send", 1), ("first", 2), ("next", 14)] [dV "heavy" "first" 2, dV "heavy" "next" 14] 42 := by
  obtain ⟨S1, q1, R1, e1, A1⟩ := hv3 hL R fun j hj => hp j (by omega)
  obtain ⟨S', q', R', e, A⟩ := (def_at hL R1 A1 (by omega) (by omega) (Nat.le_refl 10) (n := "next") ((hp 14 (by omega)).trans h_at.2.2.2.2.2.1) w_next n_fix.2.2.2.2.1 (by decide +kernel) (by decide +kernel) (by simp) (fun i hi => (hp (15 + i) (by omega)).trans (h_at.2.2.2.2.2.2.1 i hi)) ((hp 25 (by omega)).trans h_at.2.2.2.2.2.2.2.1)).1 rfl rfl (fun d h => by rw [List.mem_singleton.mp h]; exact lab_ne) (by omega)
  exact ⟨S', q', R', fun hb => (e1 (by rw [e hb]; exact hb)).trans (e hb), A⟩
/-- "outside" put into the front -/
theorem hv_err (hL : Lns L) {S : Sto} (R : Rep B r L S q0) {a : Nat} (ha : a < 26) (hp : Pre L a) {s : Str} (hs : L[a]? = some s) (hw : RD.wordsOf s = [("outside" : Str)]) : Err B (W r S) (a : Int) := by
  have lift : ∀ {S1 : Sto} {k : Int}, (W r S1 ≠ .bad → W r S = W r S1) → Err B (W r S1) k → Err B (W r S) k := fun e h => by rw [e h.nb]; exact h
  by_cases h0 : a = 0
  · subst h0; exact first_err hL R rfl hs hw
  by_cases h1 : a = 1
  · subst h1
    obtain ⟨S1, q1, R1, e1, p1, ⟨m, hq, _⟩, _, z1⟩ := hv1 hL R hp
    have := top_err hL R1 z1 (by omega) (by rw [hq]; simp) (by rw [p1]; exact hs) hw
    rw [p1] at this
    exact lift e1 this
  by_cases h2 : a = 2
  · subst h2
    obtain ⟨S1, q1, R1, e1, p1, ⟨m, hq, _⟩, _, z1⟩ := hv2 hL R hp
    have := top_err hL R1 z1 (by omega) (by rw [hq]; simp) (by rw [p1]; exact hs) hw
    rw [p1] at this
    exact lift e1 this
  by_cases h3 : a ≤ 13
  · obtain ⟨S1, q1, R1, e1, A1⟩ := hv2 hL R fun j hj => hp j (by omega)
    have := (def_at hL R1 A1 (by omega) (by omega) (c := a - 3) (by omega) (n := "first") ((hp 2 (by omega)).trans h_at.2.2.1) w_first n_fix.2.2.2.1 (by decide +kernel) (by decide +kernel) (by simp) (fun i hi => (hp (3 + i) (by omega)).trans (h_at.2.2.2.1 i (by omega))) (t := s) (by rw [show 2 + 1 + (a - 3) = a by omega]; exact hs)).2 hw
    rw [show 2 + 1 + (a - 3) = a by omega] at this
    exact lift e1 this
  by_cases h4 : a = 14
  · subst h4
    obtain ⟨S1, q1, R1, e1, p1, ⟨m, hq, _⟩, _, z1⟩ := hv3 hL R hp
    have := top_err hL R1 z1 (by omega) (by rw [hq]; simp) (by rw [p1]; exact hs) hw
    rw [p1] at this
    exact lift e1 this
  · obtain ⟨S1, q1, R1, e1, A1⟩ := hv3 hL R fun j hj => hp j (by omega)
    have := (def_at hL R1 A1 (by omega) (by omega) (c := a - 15) (by omega) (n := "next") ((hp 14 (by omega)).trans h_at.2.2.2.2.2.1) w_next n_fix.2.2.2.2.1 (by decide +kernel) (by decide +kernel) (by simp) (fun i hi => (hp (15 + i) (by omega)).trans (h_at.2.2.2.2.2.2.1 i (by omega))) (t := s) (by rw [show 14 + 1 + (a - 15) = a by omega]; exact hs)).2 hw
    rw [show 14 + 1 + (a - 15) = a by omega] at this
    exact lift e1 this
end
end K10

set_option maxHeartbeats 2000000
/-! whole readings -/
namespace K10
open PySem PySem.Spec PyProof.Rows L2 Sm RD
structure DsOk (ds : List DefV) (w : Nat) : Prop where
  nn : (ds.map (·.key)).Nodup
  ok : ∀ d ∈ ds, d.Ok
  bd : ∀ n, weighD (ds.take n) 0 < 1000000
  w : weighD ds 0 = w
theorem ds0 : DsOk [] 0 := ⟨List.nodup_nil, fun _ h => (by cases h), fun n => by rw [List.take_nil]; decide, rfl⟩
theorem ds2 : DsOk [dV "heavy" "first" 2, dV "heavy" "next" 14] 111 := by
  refine ⟨?_, fun d hd => ?_, fun n => ?_, weigh2 _ _ _ _ _ _⟩
  · show [lab "heavy" "first", lab "heavy" "next"].Nodup
    simp [lab_ne]
  · rcases List.mem_cons.mp hd with h | h
    · rw [h]; exact dV_ok _ _ _
    · rw [List.mem_singleton.mp h]; exact dV_ok _ _ _
  · match n with
    | 0 => decide
    | 1 => show weighD [dV "heavy" "first" 2] 0 < _; rw [weigh1]; decide
    | n + 2 => rw [List.take_of_length_le (by simp), weigh2]; decide
/-- how a reading ends well: so many modules, so great a weight -/
def Ends (B : Sto) (r : Nat) (L : List Str) (S : Sto) (M w : Nat) : Prop := ∃ S' q' ds, Rep B r L S' q' ∧ W r S = .ok (.nx [some (.adr r)]) S' ∧ q'.ms.length = M ∧ q'.ms ≠ [] ∧ q'.defs = kvsD ds ∧ DsOk ds w ∧ Sz q' 9000
def wt (hv : Bool) : Nat := if hv = true then 111 else 0
section
variable {B : Sto} {r : Nat} {L : List Str}
structure Fr (q : RQ) (h : Nat) (ds : List DefV) : Prop where
  pos : q.pos = h
  ms : ∃ m, q.ms = [m] ∧ m.name.length ≠ 3 ∧ ∀ p ∈ m.decl, p.1.length ≠ 3
  defs : q.defs = kvsD ds
  sz : Sz q 50
theorem head_len (hv : Bool) : (headL hv).length = if hv = true then 26 else 1 := by cases hv <;> rfl
theorem front (hL : Lns L) (hv : Bool) {S : Sto} (R : Rep B r L S q0) (hp : ∀ j < (headL hv).length, L[j]? = (headL hv)[j]?) : ∃ S' q' ds, Rep B r L S' q' ∧ (W r S' ≠ .bad → W r S = W r S') ∧ Fr q' (headL hv).length ds ∧ DsOk ds (wt hv) := by
  cases hv with
  | true =>
    obtain ⟨S', q', R', e, p1, ⟨m, hq, hn, hd⟩, pd, z⟩ := hv4 hL R hp
    refine ⟨S', q', _, R', e, ⟨p1, ⟨m, hq, by rw [hn]; decide +kernel, fun p hp => ?_⟩, pd, z.up (by omega)⟩, ds2⟩
    rw [hd] at hp
    have : ([("send", 1), ("first", 2), ("next", 14)] : List (Str × Nat)).all (fun p => decide (p.1.length ≠ 3)) = true := by decide +kernel
    exact of_decide_eq_true (List.all_eq_true.mp this p hp)
  | false =>
    have h0 : L[q0.pos]? = some sML := hp 0 (by show 0 < 1; omega)
    obtain ⟨S', a, d, R', e⟩ := step_mod hL R Sz.q0 (by omega) h0 w_light n_fix.1 (by show ("light" : Str) ∉ ([] : List Str); simp)
    exact ⟨S', _, [], R', e, ⟨rfl, ⟨_, rfl, by show ("light" : Str).length ≠ 3; decide +kernel, fun p hp => by cases hp⟩, rfl, (Sz.q0.mod _ _ _).up (by omega)⟩, ds0⟩
theorem lookup_len {l : List (Str × Nat)} {x : Str} (h : ∀ p ∈ l, p.1.length ≠ x.length) : l.lookup x = none := by
  induction l with
  | nil => rfl
  | cons p l ih =>
    obtain ⟨a, b⟩ := p
    have : (x == a) = false := by
      have : x ≠ a := fun e => h (a, b) List.mem_cons_self (by rw [e])
      simpa using this
    rw [List.lookup_cons, this]
    exact ih fun q hq => h q (List.mem_cons_of_mem _ hq)
/-- the front and more modules and outside functions -/
theorem whole (hL : Lns L) (hv : Bool) (its : List (Bool × Nat)) {S : Sto} (R : Rep B r L S q0) (hp : ∀ j < (headL hv).length, L[j]? = (headL hv)[j]?) (hl : ∀ (i : Nat) (it : Bool × Nat), its[i]? = some it → L[(headL hv).length + i]? = some (lnOf it)) (hk : ∀ it ∈ its, it.2 < 160) (hd : its.Nodup) (hn : its.length ≤ 1000) :
    ∃ S' q' ds, Rep B r L S' q' ∧ (W r S' ≠ .bad → W r S = W r S') ∧ q'.pos = (headL hv).length + its.length ∧ q'.ms.length = 1 + its.countP (·.1) ∧ q'.ms ≠ [] ∧ q'.defs = kvsD ds ∧ DsOk ds (wt hv) ∧ Sz q' 9000 := by
  obtain ⟨S1, q1, ds, R1, e1, ⟨p1, ⟨m, hq, n1, n2⟩, pd, z⟩, D⟩ := front hL hv R hp
  obtain ⟨S', q', R', e2, g1, g2, g3, g4, g5, g6, _⟩ := rest_go hL its S1 q1 50 R1 z (by omega) (fun i it hi => by rw [p1]; exact hl i it hi) hk hd
    (fun k _ h => by
      rw [hq] at h
      have : nm k = m.name := by simpa using h
      exact n1 (by rw [← this, nm_len]))
    (.inl (by rw [hq]; simp)) (fun k _ init m' hq' => by
      rw [hq] at hq'
      have : m' = m := by
        have := congrArg List.getLast? hq'
        simpa using this.symm
      rw [this]
      exact lookup_len fun p hp => by rw [nm_len]; exact n2 p hp)
  exact ⟨S', q', ds, R', fun hb => (e1 (by rw [e2 hb]; exact hb)).trans (e2 hb), by rw [g1, p1], by rw [g2, hq]; rfl, g6 (by rw [hq]; simp), g3.trans pd, D, g4.up (by omega)⟩
theorem whole_ends (hL : Lns L) (hv : Bool) (its : List (Bool × Nat)) {S : Sto} (R : Rep B r L S q0) (hp : ∀ j < (headL hv).length, L[j]? = (headL hv)[j]?) (hl : ∀ (i : Nat) (it : Bool × Nat), its[i]? = some it → L[(headL hv).length + i]? = some (lnOf it)) (hk : ∀ it ∈ its, it.2 < 160) (hd : its.Nodup) (hn : its.length ≤ 1000) (hend : L.length = (headL hv).length + its.length) :
    Ends B r L S (1 + its.countP (·.1)) (wt hv) := by
  obtain ⟨S', q', ds, R', e, g1, g2, g3, g4, D, z⟩ := whole hL hv its R hp hl hk hd hn
  have le := loop_end R' (by rw [g1, hend]; exact Nat.le_refl _)
  have hW : W r S' = .ok (.nx [some (.adr r)]) S' := le
  exact ⟨S', q', ds, R', by rw [e (by rw [hW]; simp), hW], g2, g3, g4, D, z⟩
/-- modules and outside functions alone -/
theorem plain (hL : Lns L) (its : List (Bool × Nat)) {S : Sto} (R : Rep B r L S q0) (hl : ∀ (i : Nat) (it : Bool × Nat), its[i]? = some it → L[i]? = some (lnOf it)) (hk : ∀ it ∈ its, it.2 < 160) (hd : its.Nodup) (hn : its.length ≤ 1000) (h0 : ∀ it : Bool × Nat, its[0]? = some it → it.1 = true) (hne : its ≠ []) :
    ∃ S' q', Rep B r L S' q' ∧ (W r S' ≠ .bad → W r S = W r S') ∧ q'.pos = its.length ∧ q'.ms.length = its.countP (·.1) ∧ q'.ms ≠ [] ∧ q'.defs = [] ∧ Sz q' 8999 ∧ (∀ m ∈ q'.ms, m.decl.lookup ("last" : Str) = none) := by
  obtain ⟨S', q', R', e2, g1, g2, g3, g4, g5, g6, g7⟩ := rest_go hL its S q0 0 R Sz.q0 (by omega) (fun i it hi => by show L[0 + i]? = _; rw [Nat.zero_add]; exact hl i it hi) hk hd (fun k _ h => by cases h) (.inr h0) (fun k _ init m hq => by
    have : ([] : List Mod) = init ++ [m] := hq
    simp at this)
  exact ⟨S', q', R', e2, by rw [g1]; show 0 + _ = _; omega, by rw [g2]; show 0 + _ = _; omega, g5 hne, g3, g4.up (by omega), g7 "last" (by decide +kernel) fun m hm => by cases hm⟩
theorem plain_ends (hL : Lns L) (its : List (Bool × Nat)) {S : Sto} (R : Rep B r L S q0) (hl : ∀ (i : Nat) (it : Bool × Nat), its[i]? = some it → L[i]? = some (lnOf it)) (hk : ∀ it ∈ its, it.2 < 160) (hd : its.Nodup) (hn : its.length ≤ 1000) (h0 : ∀ it : Bool × Nat, its[0]? = some it → it.1 = true) (hne : its ≠ []) (hend : L.length = its.length) :
    Ends B r L S (its.countP (·.1)) 0 := by
  obtain ⟨S', q', R', e, g1, g2, g3, g4, z, _⟩ := plain hL its R hl hk hd hn h0 hne
  have hW : W r S' = .ok (.nx [some (.adr r)]) S' := loop_end R' (by rw [g1, hend]; exact Nat.le_refl _)
  exact ⟨S', q', [], R', by rw [e (by rw [hW]; simp), hW], g2, g3, g4, ds0, z.up (by omega)⟩
/-- .. and "outside last" behind them -/
theorem plain_last (hL : Lns L) (its : List (Bool × Nat)) {S : Sto} (R : Rep B r L S q0) (hl : ∀ (i : Nat) (it : Bool × Nat), its[i]? = some it → L[i]? = some (lnOf it)) (hk : ∀ it ∈ its, it.2 < 160) (hd : its.Nodup) (hn : its.length ≤ 1000) (h0 : ∀ it : Bool × Nat, its[0]? = some it → it.1 = true) (hne : its ≠ []) (hend : L.length = its.length + 1) (hlast : L[its.length]? = some "outside last") : ∃ M, Ends B r L S M 0 := by
  obtain ⟨S1, q1, R1, e1, g1, g2, g3, g4, z, g5⟩ := plain hL its R hl hk hd hn h0 hne
  obtain ⟨init, m, hq⟩ : ∃ init m, q1.ms = init ++ [m] := ⟨q1.ms.dropLast, q1.ms.getLast g3, (List.dropLast_concat_getLast g3).symm⟩
  obtain ⟨S', R', e⟩ := step_out hL R1 z (by omega) (by rw [g1]; exact hlast) w_last n_fix.2.2.2.2.2.1 hq (g5 m (by rw [hq]; simp))
  have hW : W r S' = .ok (.nx [some (.adr r)]) S' := loop_end R' (by show L.length ≤ q1.pos + 1; rw [g1, hend]; exact Nat.le_refl _)
  have e2 : W r S1 = W r S' := e (by rw [hW]; simp)
  exact ⟨_, S', _, [], R', by rw [e1 (by rw [e2, hW]; simp), e2, hW], rfl, by show init ++ [_] ≠ []; simp, g4, ds0, z.out hq _⟩
end
end K10

set_option maxHeartbeats 2000000
/-! what a project's lines are told to be -/
namespace K10
open PySem PySem.Spec PyProof.Rows L2 Sm RD
theorem fold_glueY (y : Str) : ∀ (zs : List Str) (acc : Array Nat), (zs.foldl (fun acc p => acc ++ y.cps ++ p.cps) acc).toList = acc.toList ++ (zs.map fun z => sg y ++ sg z).flatten
  | [], acc => by simp
  | z :: zs, acc => by
    rw [List.foldl_cons, fold_glueY y zs, List.map_cons, List.flatten_cons]
    simp [sg]
theorem sg_join (y z : Str) (zs : List Str) : sg (PySem.Txt.join y (z :: zs)) = sg z ++ (zs.map fun z => sg y ++ sg z).flatten := by
  show (zs.foldl (fun acc p => acc ++ y.cps ++ p.cps) z.cps).toList = _
  rw [fold_glueY]
theorem flat_le (y : Str) (b : Nat) : ∀ zs : List Str, (∀ z ∈ zs, z.length ≤ b) → ((zs.map fun z => sg y ++ sg z).flatten).length ≤ zs.length * (y.length + b)
  | [], _ => Nat.zero_le _
  | z :: zs, h => by
    have h1 := flat_le y b zs fun x hx => h x (List.mem_cons_of_mem _ hx)
    have h2 := h z List.mem_cons_self
    rw [List.map_cons, List.flatten_cons, List.length_append, List.length_append, sg_len, sg_len, List.length_cons, Nat.succ_mul]
    omega
/-- lines of the law -/
structure LL (L : List Str) : Prop where
  n : L.length ≤ 400
  ne : L ≠ []
  ok : ∀ s ∈ L, lnB s = true
theorem LL.lns {L : List Str} (h : LL L) : Lns L := ⟨by have := h.n; omega, fun s hs => (lnB_ok (h.ok s hs)).1⟩
theorem LL.tx {L : List Str} (h : LL L) : TxOk (PySem.Txt.join "\n" L) L := by
  have hn := h.n
  refine ⟨?_, ?_, split_lines h.ne fun s hs => (lnB_ok (h.ok s hs)).2.1, by omega⟩
  · cases hL : L with
    | nil => exact absurd hL h.ne
    | cons z zs =>
      have h30 : ∀ s ∈ z :: zs, s.length ≤ 30 := fun s hs => (lnB_ok (h.ok s (hL ▸ hs))).2.2.2
      have := flat_le "\n" 30 zs fun s hs => h30 s (List.mem_cons_of_mem _ hs)
      have y1 : ("\n" : Str).length = 1 := by decide +kernel
      have hz := h30 z List.mem_cons_self
      rw [hL, List.length_cons] at hn
      rw [← sg_len, sg_join, List.length_append, sg_len]
      rw [y1] at this
      have : zs.length * (1 + 30) ≤ 400 * 31 := Nat.mul_le_mul (by omega) (Nat.le_refl _)
      omega
  · intro e
    cases hL : L with
    | nil => exact absurd hL h.ne
    | cons z zs =>
      have z1 := (lnB_ok (h.ok z (by rw [hL]; exact List.mem_cons_self))).2.2.1
      have := congrArg sg e
      rw [hL, sg_join] at this
      have l := congrArg List.length this
      rw [List.length_append, sg_len, sg_len] at l
      have : ("" : Str).length = 0 := by decide +kernel
      omega
/-- what is told of a project that is read -/
def due (n M w : Nat) : IV := if 150 < n then .str "lines" else if 6 < M then .str "modules" else if 100 < w then .str "weight" else .int ((M : Int) - 1000)
section
variable {L : List Str} {S : Sto} {x : IV}
def tL (x : IV) : Slots := [some x, none, none]
theorem join_t (h : LL L) (hx : seqOf S x = some (L.map IV.str)) : iBM "str" fJoin (iC (.str "\n")) (iCons (iVar 0) iNil) (tL x) S = .ok (.str (PySem.Txt.join "\n" L)) S := by
  have sm : ∀ zs : List Str, (∀ z ∈ zs, z.length ≤ 30) → (zs.map (·.length)).sum ≤ zs.length * 30 := fun zs => by
    induction zs with
    | nil => intro _; exact Nat.zero_le _
    | cons z zs ih =>
      intro hz
      rw [List.map_cons, List.sum_cons, List.length_cons, Nat.succ_mul]
      have := ih fun x hx => hz x (List.mem_cons_of_mem _ hx)
      have := hz z List.mem_cons_self
      omega
  have s1 := sm L fun z hz => (lnB_ok (h.ok z hz)).2.2.2
  have hn := h.n
  have y1 : ("\n" : Str).length = 1 := by decide +kernel
  rw [iBM_e, iC_e, Out.bind_ok, chk_pos (show hasTy "str" S (.str "\n") = true from rfl), iCons_e, iVar_s (x := x) rfl]
  simp only [Out.bind_ok, iNil_e]
  unfold fJoin
  simp only [asS_s, a1_1, hx, orBad_some, Lw.strsOf_map]
  rw [chk_pos (by rw [y1]; omega)]
noncomputable def suite : Str → Nat → IS := fun C m => (iSeq (iIf (iTru (iXIsT 2 m [("BadLine", true), ("TooMany", false)] C)) (iRet (iIf (iTru (iCa fIsi (iCons (iXf 2 m "at") (iCons (iC (.ty "bool")) iNil)))) (iUn fNeg (iC (.int 9))) (iXf 2 m "at"))) iNext) (iRet (iIf (iTru (iXIsT 2 m [("BadLine", false), ("TooMany", true)] C)) (iXf 2 m "what") (iC (.str "other")))))
noncomputable def body1 : IS := iSet 1 (iMake "Project" 2 m_Project___init__ (iCons (iBM "str" fJoin (iC (.str "\n")) (iCons (iVar 0) iNil)) iNil))
theorem told_exc {C : Str} {n : Nat} {S' : Sto} {v : IV} (e : body1 (tL x) S = .exc C n (tL x) S') (hC : ([("BadLine", true), ("TooMany", true)] : List (Str × Bool)).lookup C = some true) (hs : suite C n (tL x) S' = .ok (.rt v) S') : m__law_told [x] S = .ok v S' := by
  refine mDef_rt ?_
  show b__law_told (tL x) S = _
  unfold b__law_told
  refine sq_rt ?_
  unfold iTryAs
  have e : iSet 1 (iMake "Project" 2 m_Project___init__ (iCons (iBM "str" fJoin (iC (.str "\n")) (iCons (iVar 0) iNil)) iNil)) (tL x) S = .exc C n (tL x) S' := e
  rw [e]
  simp only [hC]
  show Out.bind (noX (suite C n (tL x) S')) _ = _
  rw [hs]
  rfl
theorem make_e (h : LL L) (hx : seqOf S x = some (L.map IV.str)) : iMake "Project" 2 m_Project___init__ (iCons (iBM "str" fJoin (iC (.str "\n")) (iCons (iVar 0) iNil)) iNil) (tL x) S = (relab (tL x) (m_Project___init__ [.adr S.length, .str (PySem.Txt.join "\n" L)] (S ++ [.ins "Project" []]))).bind fun v S2 => chk (isN v = true) (.ok (.adr S.length) S2) := by
  unfold iMake
  rw [iCons_e, join_t h hx]
  simp only [Out.bind_ok, iNil_e]
  rw [chk_pos (by rfl)]
/-- a wrong line is told -/
theorem told_err (h : LL L) (hx : seqOf S x = some (L.map IV.str)) {k : Int} (he : ∀ (B : Sto) (r : Nat) (S : Sto), Rep B r L S q0 → Err B (W r S) k) : ∃ S', m__law_told [x] S = .ok (.int k) S' ∧ Ext [] S S' := by
  obtain ⟨S1, R1, e1, _⟩ := proj_end (o := S.length) (S := S ++ [.ins "Project" []]) h.tx (by simp)
  obtain ⟨n, Λ, S', e2, e3, e4⟩ := e1 _ k (read_err (he _ _ _ R1))
  have mk := make_e (S := S) h hx
  rw [e2] at mk
  have e5 : body1 (tL x) S = .exc "BadLine" n (tL x) S' := by
    unfold body1
    rw [iSet_e, mk]
    rfl
  refine ⟨S', told_exc e5 rfl ?_, (Ext.app _).trans e4⟩
  have is : iTru (iXIsT 2 n [("BadLine", true), ("TooMany", false)] "BadLine") (tL x) S' = .ok true S' := by
    rw [iTru_e]
    show Out.bind (iXIs 2 n true (tL x) S') _ = _
    unfold iXIs
    simp only [e3]
    rfl
  have xf : iXf 2 n "at" (tL x) S' = .ok (.int k) S' := by
    unfold iXf
    simp only [e3]
    rfl
  have k1 : kitN "int" "bool" = some false := by decide +kernel
  have nb : iTru (iCa fIsi (iCons (iXf 2 n "at") (iCons (iC (.ty "bool")) iNil))) (tL x) S' = .ok false S' := by
    rw [iTru_e, iCa_e, iCons_e, xf]
    simp only [Out.bind_ok, iCons_e, iC_e, iNil_e, fIsi_e, tyN_int, orBad_some, k1, truB_bl]
  unfold suite
  exact sq_rt ((if_tt is).trans (rt_ok ((if_ff nb).trans xf)))
theorem told_tm {w : Str} (h : LL L) (hx : seqOf S x = some (L.map IV.str)) (hT : TM S.length (S ++ [.ins "Project" []]) (m_Project___init__ [.adr S.length, .str (PySem.Txt.join "\n" L)] (S ++ [.ins "Project" []])) w) : ∃ S', m__law_told [x] S = .ok (.str w) S' ∧ Ext [] S S' := by
  obtain ⟨n, Λ, S', e2, e3, e4⟩ := hT
  have mk := make_e (S := S) h hx
  rw [e2] at mk
  have e5 : body1 (tL x) S = .exc "TooMany" n (tL x) S' := by
    unfold body1
    rw [iSet_e, mk]
    rfl
  refine ⟨S', told_exc e5 (by decide +kernel) ?_, (Ext.app _).trans' e4 fun e he => .inr (Nat.le_of_eq (List.mem_singleton.mp he).symm)⟩
  have is : iTru (iXIsT 2 n [("BadLine", true), ("TooMany", false)] "TooMany") (tL x) S' = .ok false S' := by
    have l : ([("BadLine", true), ("TooMany", false)] : List (Str × Bool)).lookup ("TooMany" : Str) = some false := by decide +kernel
    rw [iTru_e]
    unfold iXIsT
    simp only [l]
    unfold iXIs
    simp only [e3]
    rfl
  have is2 : iTru (iXIsT 2 n [("BadLine", false), ("TooMany", true)] "TooMany") (tL x) S' = .ok true S' := by
    have l : ([("BadLine", false), ("TooMany", true)] : List (Str × Bool)).lookup ("TooMany" : Str) = some true := by decide +kernel
    rw [iTru_e]
    unfold iXIsT
    simp only [l]
    unfold iXIs
    simp only [e3]
    rfl
  have xf : iXf 2 n "what" (tL x) S' = .ok (.str w) S' := by
    unfold iXf
    simp only [e3]
    rfl
  unfold suite
  exact (sq_ok (S1 := S') ((if_ff is).trans rfl)).trans (rt_ok ((if_tt is2).trans xf))
/-- a project that is read -/
theorem told_ok (h : LL L) (hx : seqOf S x = some (L.map IV.str)) {M w : Nat} (he : ∀ (B : Sto) (r : Nat) (S : Sto), Rep B r L S q0 → Ends B r L S M w) : ∃ S', m__law_told [x] S = .ok (due L.length M w) S' ∧ Ext [] S S' := by
  obtain ⟨S1, R1, _, e1⟩ := proj_end (o := S.length) (S := S ++ [.ins "Project" []]) h.tx (by simp)
  obtain ⟨S2, q, ds, R2, hW, g1, g2, g3, D, z⟩ := he _ _ _ R1
  obtain ⟨f1, f2, f3, f4⟩ := e1 S2 q ds (read_ok hW R2 g2) R2 g3 D.nn D.ok D.bd (by have := z.ms; omega) fun m hm => by have := z.rows m hm; omega
  rw [D.w] at f3 f4
  rw [g1] at f2 f3 f4
  unfold due
  by_cases h1 : 150 < L.length
  · rw [if_pos h1]; exact told_tm h hx (f1 h1)
  rw [if_neg h1]
  by_cases h2 : 6 < M
  · rw [if_pos h2]; exact told_tm h hx (f2 h1 h2)
  rw [if_neg h2]
  by_cases h3 : 100 < w
  · rw [if_pos h3]; exact told_tm h hx (f3 h1 h2 h3)
  rw [if_neg h3]
  obtain ⟨S3, d, e2, o3, d3, x3, _⟩ := f4 h1 h2 h3
  refine ⟨S3, mDef_rt ?_, (Ext.app _).trans' x3 fun e he => .inr (Nat.le_of_eq (List.mem_singleton.mp he).symm)⟩
  have mk := make_e (S := S) h hx
  rw [e2] at mk
  show b__law_told (tL x) S = _
  unfold b__law_told
  have t1 : iTryAs [("BadLine", true), ("TooMany", true)] 2 (iSet 1 (iMake "Project" 2 m_Project___init__ (iCons (iBM "str" fJoin (iC (.str "\n")) (iCons (iVar 0) iNil)) iNil))) (fun C m => (iSeq (iIf (iTru (iXIsT 2 m [("BadLine", true), ("TooMany", false)] C)) (iRet (iIf (iTru (iCa fIsi (iCons (iXf 2 m "at") (iCons (iC (.ty "bool")) iNil)))) (iUn fNeg (iC (.int 9))) (iXf 2 m "at"))) iNext) (iRet (iIf (iTru (iXIsT 2 m [("BadLine", false), ("TooMany", true)] C)) (iXf 2 m "what") (iC (.str "other")))))) (tL x) S = .ok (.nx [some x, some (.adr S.length), none]) S3 := by
    unfold iTryAs
    rw [iSet_e, mk]
    rfl
  refine (sq_ok t1).trans (rt_ok ?_)
  rw [iBin_e, iCa_e, iCons_e, iUn_fld, iVar_s (x := .adr S.length) rfl, Out.bind_ok, fFld_s (v := .tup ((q.ms.map (·.name)).map IV.str)) o3 rfl]
  simp only [Out.bind_ok, iNil_e, fLen_e, lenN_t, List.length_map, orBad_some, iC_e, g1]
  unfold fSub
  rw [fI_i, chk_pos (by trivial)]
end
end K10

set_option maxHeartbeats 2000000
/-! the lines drawn -/
namespace K10
open PySem PySem.Spec PyProof.Rows L2 Sm RD
theorem dc : Lw.DrC 39373 30011 2147483563 128 2147399993 := ⟨by decide, by decide, by decide, by decide, by decide, by decide⟩
theorem draw_ok {S : Sto} {n K : Nat} {m : Int} (h : Lw.Dr S n K) (hK : K ≤ 1000000) (h0 : 0 < m) (h1 : m < 1073741824) :
    ∃ r S', m__law_draw [.adr n, .int m] S = .ok (.int r) S' ∧ 0 ≤ r ∧ r < m ∧ Lw.Dr S' n (K + 1) ∧ Ext [n] S S' := Lw.draw_ok (C := 1013) dc h hK h0 h1
theorem draw_e {S : Sto} {n K i : Nat} {m : Int} {Λ : Slots} {mm : IE} (h : Lw.Dr S n K) (hK : K ≤ 1000000) (h0 : 0 < m) (h1 : m < 1073741824) (hn : Λ[i]? = some (some (.adr n))) (hm : mm Λ S = .ok (.int m) S) :
    ∃ r S', iCall 2 m__law_draw (iCons (iVar i) (iCons mm iNil)) Λ S = .ok (.int r) S' ∧ 0 ≤ r ∧ r < m ∧ Lw.Dr S' n (K + 1) ∧ Ext [n] S S' := by
  obtain ⟨r, S', e, a, b, c, d⟩ := draw_ok h hK h0 h1
  refine ⟨r, S', ?_, a, b, c, d⟩
  rw [iCall_e, iCons_e, iVar_s hn]
  simp only [Out.bind_ok, iCons_e, iNil_e, hm]
  rw [chk_pos (by rfl), e]
  rfl
theorem source_ok {S : Sto} {ns : List Int} {i : Nat} : ∃ S', m__law_source [.wls (ns.map IV.int), .int i] S = .ok (.adr S.length) S' ∧ Lw.Dr S' S.length 0 ∧ Ext [] S S' ∧ S'.length = S.length + 1 :=
  Lw.source_ok (P := 2147483587) (cc := 7919) (D := 11) (by decide) ⟨by decide, by decide⟩
theorem alpha_at : (List.range 26).all (fun k => (sg Lw.alpha)[k]? == some (97 + k)) = true := by decide +kernel
theorem alpha_at' {k : Nat} (h : k < 26) : atI (sg Lw.alpha) (k : Int) = some (97 + k) := atI_nat (beq_iff_eq.mp (List.all_eq_true.mp alpha_at k (List.mem_range.mpr h)))
theorem name_ok {S : Sto} {k : Nat} (h : k < 160) : m__law_name [.int k] S = .ok (.str (nm k)) S := by
  have z : Lw.alpha.length ≤ sizeLine := by rw [Lw.alpha_len, szL]; decide
  have e1 : atI (sg Lw.alpha) ((k : Int) / 26) = some (97 + k / 26) := by
    rw [show (k : Int) / 26 = ((k / 26 : Nat) : Int) by omega]
    exact alpha_at' (by omega)
  have e2 : atI (sg Lw.alpha) ((k : Int) % 26) = some (97 + k % 26) := by
    rw [show (k : Int) % 26 = ((k % 26 : Nat) : Int) by omega]
    exact alpha_at' (by omega)
  have l1 : (Str.mk #[97 + k / 26]).length + (Str.mk #[97 + k % 26]).length ≤ sizeLine := by rw [szL]; show 1 + 1 ≤ _; decide
  have l2 : ((⟨#[97 + k / 26]⟩ : Str) ++ (⟨#[97 + k % 26]⟩ : Str)).length + ("q" : Str).length ≤ sizeLine := by rw [szL, len_app]; show (1 + 1) + 1 ≤ _; decide
  have c1 : CDiv (k : Int) 26 := ⟨by decide, by decide⟩
  refine mDef_rt ?_
  show b__law_name [some (.int k), none] S = _
  unfold b__law_name
  refine (sq_ok (Λ1 := [some (.int k), some (.str Lw.alpha)]) (S1 := S) (st_ok rfl)).trans (rt_ok ?_)
  have v0 : iVar 0 [some (.int k), some (.str Lw.alpha)] S = .ok (.int k) S := iVar_s rfl
  have v1 : iVar 1 [some (.int k), some (.str Lw.alpha)] S = .ok (.str Lw.alpha) S := iVar_s rfl
  have d1 : fIx (.str Lw.alpha) (.int ((k : Int) / 26)) S = .ok (.str ⟨#[97 + k / 26]⟩) S := by
    rw [fIx_s, chk_pos z]
    show orBad (atI (sg Lw.alpha) _) _ = _
    rw [e1]
    rfl
  have d2 : fIx (.str Lw.alpha) (.int ((k : Int) % 26)) S = .ok (.str ⟨#[97 + k % 26]⟩) S := by
    rw [fIx_s, chk_pos z]
    show orBad (atI (sg Lw.alpha) _) _ = _
    rw [e2]
    rfl
  have h26 : (0 : Int) < 26 := by decide
  unfold nm
  simp only [iBin_e, v0, v1, iC_e, Out.bind_ok, fI_i, chk_pos c1, chk_pos h26, d1, d2, fAdd_s, chk_pos l1, chk_pos l2]
theorem name_e {S : Sto} {Λ : Slots} {k i : Nat} (h : k < 160) (hi : Λ[i]? = some (some (.int k))) : iCall 1 m__law_name (iCons (iVar i) iNil) Λ S = .ok (.str (nm k)) S := by
  rw [iCall_e, iCons_e, iVar_s hi]
  simp only [Out.bind_ok, iNil_e]
  rw [chk_pos (by rfl), name_ok h]
  rfl
theorem nm_add {S : Sto} {x : Str} (hx : x.length ≤ 100) (k : Nat) : fAdd (.str x) (.str (nm k)) S = .ok (.str (x ++ nm k)) S := by
  rw [fAdd_s, chk_pos (by rw [nm_len, szL]; omega)]
theorem seq_a {S : Sto} {l : Nat} {xs : List IV} (h : S[l]? = some (.lst xs)) : seqOf S (.adr l) = some xs := by
  unfold seqOf tupOf lstOf
  simp only [h]
theorem lst_a {S : Sto} {l : Nat} {xs : List IV} (h : S[l]? = some (.lst xs)) : lstOf S (.adr l) = some xs := by
  unfold lstOf
  simp only [h]
theorem len_a {S : Sto} {l : Nat} {xs : List IV} (h : S[l]? = some (.lst xs)) : lenN S (.adr l) = some xs.length := by
  show (seqOf S (.adr l)).map _ = _
  rw [seq_a h]
  rfl
theorem len_e {S : Sto} {Λ : Slots} {i l : Nat} {xs : List IV} (hi : Λ[i]? = some (some (.adr l))) (h : S[l]? = some (.lst xs)) : iCa fLen (iCons (iVar i) iNil) Λ S = .ok (.int xs.length) S := by
  rw [iCa_e, iCons_e, iVar_s hi]
  simp only [Out.bind_ok, iNil_e, fLen_e, len_a h, orBad_some]
theorem scVs_int : ∀ {ys : List IV}, (∀ y ∈ ys, ∃ i : Int, y = .int i) → ∃ us, scVs ys = some us
  | [], _ => ⟨_, rfl⟩
  | y :: ys, h => by
    obtain ⟨i, rfl⟩ := h y List.mem_cons_self
    obtain ⟨us, e⟩ := scVs_int fun z hz => h z (List.mem_cons_of_mem _ hz)
    exact ⟨.int i :: us, by unfold scVs; rw [e]; rfl⟩
theorem inB_ints {ys : List IV} (h : ∀ y ∈ ys, ∃ i : Int, y = .int i) : ∃ B : Int → Bool, ∀ (S : Sto) (k : Int), inB S (.int k) (.lst ys) = some (B k) := by
  obtain ⟨us, e⟩ := scVs_int h
  refine ⟨fun k => inV (.int k) us, fun S k => ?_⟩
  have q : seqOf S (.lst ys) = some ys := rfl
  have s : scV (.int k) = some (.int k) := rfl
  unfold inB
  simp only [q, s, e]
  rfl
/-! ### the front -/
def kL (n : Nat) (mh ct : Int) (hv : Bool) (l : Nat) (a b c d : Option IV) : Slots := [some (.adr n), some (.int mh), some (.int ct), some (.bl hv), some (.adr l), a, b, c, d]
theorem one_l {S : Sto} {Λ : Slots} (x : Str) : iLst false (iCons (iC (.str x)) iNil) Λ S = .ok (.lst (([x] : List Str).map IV.str)) S := by
  simp only [iLst_e, iCons_e, iC_e, iNil_e, Out.bind_ok, mkL_f]
  rw [chk_pos (by show 1 ≤ _; rw [szL]; decide)]
  rfl
theorem two_l {S : Sto} {Λ : Slots} (x y : Str) : iLst false (iCons (iC (.str x)) (iCons (iC (.str y)) iNil)) Λ S = .ok (.lst (([x, y] : List Str).map IV.str)) S := by
  simp only [iLst_e, iCons_e, iC_e, iNil_e, Out.bind_ok, mkL_f]
  rw [chk_pos (by show 2 ≤ _; rw [szL]; decide)]
  rfl
theorem three_l {S : Sto} {Λ : Slots} (x y z : Str) : iLst false (iCons (iC (.str x)) (iCons (iC (.str y)) (iCons (iC (.str z)) iNil))) Λ S = .ok (.lst (([x, y, z] : List Str).map IV.str)) S := by
  simp only [iLst_e, iCons_e, iC_e, iNil_e, Out.bind_ok, mkL_f]
  rw [chk_pos (by show 3 ≤ _; rw [szL]; decide)]
  rfl
theorem rep_l {S : Sto} {Λ : Slots} : iBin (fRep false) (iLst false (iCons (iC (.str "call send")) iNil)) (iC (.int 10)) Λ S = .ok (.lst ((callL 10).map IV.str)) S := by
  rw [iBin_e, one_l]
  simp only [Out.bind_ok, iC_e]
  show orBad (lstX S (.lst (([sCS] : List Str).map IV.str))) _ = _
  have q : lstX S (.lst (([sCS] : List Str).map IV.str)) = some (([sCS] : List Str).map IV.str) := rfl
  rw [q, orBad_some, asI_i, chk_pos (by refine ⟨by decide, by decide, ?_⟩; show 1 * 10 ≤ _; rw [szL]; decide)]
  show mkL false (List.replicate 10 (([sCS] : List Str).map IV.str)).flatten S = _
  rw [mkL_f, chk_pos (by show 10 ≤ _; rw [szL]; decide)]
  rfl
theorem cat_l {S : Sto} (xs ys : List Str) (h : xs.length + ys.length ≤ 10000) : fAdd (.lst (xs.map IV.str)) (.lst (ys.map IV.str)) S = .ok (.lst ((xs ++ ys).map IV.str)) S := by
  rw [fAdd_l, ← List.map_append, mkF_e, chk_pos (by rw [List.length_map, List.length_append, szL]; omega)]
theorem catC_l {S : Sto} (xs ys : List Str) (h : xs.length + ys.length ≤ 10000) : fCatC (.lst (xs.map IV.str)) (.lst (ys.map IV.str)) S = .ok (.adr S.length) (S ++ [.lst ((xs ++ ys).map IV.str)]) := by
  have q1 : ∀ zs : List Str, lstX S (.lst (zs.map IV.str)) = some (zs.map IV.str) := fun _ => rfl
  unfold fCatC
  rw [q1, q1, orBad_some, orBad_some, ← List.map_append]
  show chk _ _ = _
  rw [chk_pos (by rw [List.length_map, List.length_append, szL]; omega)]
theorem head_ok (n : Nat) (mh ct : Int) (hv : Bool) (S : Sto) : ∃ l S1, (∀ rest : IS, (iSeq (iSet 4 (iLst true (iCons (iC (.str "module light")) iNil))) (iSeq (iIf (iTru (iVar 3)) (iSeq (iSet 4 (iBin fAdd (iLst false (iCons (iC (.str "module heavy")) (iCons (iC (.str "outside send")) (iCons (iC (.str "def first")) iNil)))) (iBin (fRep false) (iLst false (iCons (iC (.str "call send")) iNil)) (iC (.int 10))))) (iSet 4 (iBin fCatC (iBin fAdd (iBin fAdd (iVar 4) (iLst false (iCons (iC (.str "end")) (iCons (iC (.str "def next")) iNil)))) (iBin (fRep false) (iLst false (iCons (iC (.str "call send")) iNil)) (iC (.int 10)))) (iLst false (iCons (iC (.str "end")) iNil))))) iNext) rest)) [some (.adr n), some (.int mh), some (.int ct), some (.bl hv), none, none, none, none, none] S = rest (kL n mh ct hv l none none none none) S1) ∧ S1[l]? = some (.lst ((headL hv).map IV.str)) ∧ Ext [] S S1 ∧ S.length ≤ l := by
  have s1 : iLst true (iCons (iC (.str "module light")) iNil) [some (.adr n), some (.int mh), some (.int ct), some (.bl hv), none, none, none, none, none] S = .ok (.adr S.length) (S ++ [.lst (([sML] : List Str).map IV.str)]) := by
    simp only [iLst_e, iCons_e, iC_e, iNil_e, Out.bind_ok, mkL_t]
    rw [chk_pos (by show 1 ≤ _; rw [szL]; decide)]
    rfl
  have t3 : ∀ S', iTru (iVar 3) (kL n mh ct hv S.length none none none none) S' = .ok hv S' := fun S' => by
    rw [iTru_e, iVar_s (x := .bl hv) rfl]
    rfl
  cases hv with
  | false =>
    refine ⟨S.length, _, fun rest => (sq_ok (Λ1 := kL n mh ct false S.length none none none none) (st_ok s1)).trans (sq_ok (Λ1 := kL n mh ct false S.length none none none none) ((if_ff (t3 _)).trans rfl)), get_new _ _, .app _, Nat.le_refl _⟩
  | true =>
    generalize hS0 : S ++ [.lst (([sML] : List Str).map IV.str)] = S0 at s1
    have x0 : Ext [] S S0 := hS0 ▸ .app _
    have s2 : iBin fAdd (iLst false (iCons (iC (.str "module heavy")) (iCons (iC (.str "outside send")) (iCons (iC (.str "def first")) iNil)))) (iBin (fRep false) (iLst false (iCons (iC (.str "call send")) iNil)) (iC (.int 10))) (kL n mh ct true S.length none none none none) S0 = .ok (.lst ((([sMH, sOS, sDF] : List Str) ++ callL 10).map IV.str)) S0 := by
      rw [iBin_e, three_l, Out.bind_ok, rep_l, Out.bind_ok]
      exact cat_l _ _ (by decide)
    have s3 : iBin fCatC (iBin fAdd (iBin fAdd (iVar 4) (iLst false (iCons (iC (.str "end")) (iCons (iC (.str "def next")) iNil)))) (iBin (fRep false) (iLst false (iCons (iC (.str "call send")) iNil)) (iC (.int 10)))) (iLst false (iCons (iC (.str "end")) iNil)) ((kL n mh ct true S.length none none none none).set 4 (some (.lst ((([sMH, sOS, sDF] : List Str) ++ callL 10).map IV.str)))) S0 = .ok (.adr S0.length) (S0 ++ [.lst (headH.map IV.str)]) := by
      rw [iBin_e, iBin_e, iBin_e, iVar_s (x := .lst ((([sMH, sOS, sDF] : List Str) ++ callL 10).map IV.str)) rfl, Out.bind_ok, two_l, Out.bind_ok, cat_l _ _ (by decide), Out.bind_ok, rep_l, Out.bind_ok, cat_l _ _ (by decide), Out.bind_ok, one_l, Out.bind_ok]
      exact catC_l _ _ (by decide)
    refine ⟨S0.length, _, fun rest => (sq_ok (Λ1 := kL n mh ct true S.length none none none none) (st_ok s1)).trans (sq_ok (Λ1 := kL n mh ct true S0.length none none none none) ((if_tt (t3 _)).trans ((sq_ok (st_ok s2)).trans (st_ok s3)))), get_new _ _, x0.trans (.app _), x0.1⟩
end K10

set_option maxHeartbeats 2000000
/-! the lines drawn, to the end -/
namespace K10
open PySem PySem.Spec PyProof.Rows L2 Sm RD
theorem head_le (hv : Bool) : 1 ≤ (headL hv).length ∧ (headL hv).length ≤ 26 := by cases hv <;> decide
def itm (h : Nat) (B : Int → Bool) (i : Nat) : Bool × Nat := (B ((h + i : Nat) : Int), h + i)
def itms (h : Nat) (B : Int → Bool) (m : Nat) : List (Bool × Nat) := (List.range m).map (itm h B)
theorem itms_succ (h : Nat) (B : Int → Bool) (m : Nat) : itms h B (m + 1) = itms h B m ++ [itm h B m] := by
  unfold itms
  rw [List.range_succ, List.map_append]
  rfl
theorem itms_nd (h : Nat) (B : Int → Bool) (m : Nat) : (itms h B m).Nodup := by
  refine List.pairwise_map.mpr (List.Pairwise.imp (fun {a b} hab e => hab ?_) List.nodup_range)
  have := congrArg Prod.snd e
  simp only [itm] at this
  omega
theorem itms_len (h : Nat) (B : Int → Bool) (m : Nat) : (itms h B m).length = m := by unfold itms; rw [List.length_map, List.length_range]
theorem itms_lt {h : Nat} {B : Int → Bool} {m : Nat} (hm : h + m ≤ 160) : ∀ it ∈ itms h B m, it.2 < 160 := fun it hi => by
  obtain ⟨a, ha, rfl⟩ := List.mem_map.mp hi
  have := List.mem_range.mp ha
  show h + a < 160
  omega
section
variable {n : Nat} {mh ct : Int} {hv : Bool}
theorem starts_ok {S : Sto} {K l : Nat} (d : Lw.Dr S n K) (hK : K ≤ 900000) (hm : 1 ≤ mh ∧ mh ≤ 8) (hc : 140 ≤ ct ∧ ct ≤ 156) (g : S[l]? = some (.lst ((headL hv).map IV.str))) (hl : l ≠ n) :
    ∃ ys S', iLc false (iSrcR1 (iBin fSub (iVar 1) (iC (.int 1)))) (giN 7) iYes (iBin fAdd (iCa fLen (iCons (iVar 4) iNil)) (iCall 2 m__law_draw (iCons (iVar 0) (iCons (iVar 5) iNil)))) [7] (kL n mh ct hv l (some (.int (ct - ((headL hv).length : Int)))) none none none) S = .ok (.lst ys) S' ∧ (∀ y ∈ ys, ∃ i : Int, y = .int i) ∧ Lw.Dr S' n (K + 10) ∧ Ext [n] S S' := by
  obtain ⟨h1, h2⟩ := head_le hv
  have src : iSrcR1 (iBin fSub (iVar 1) (iC (.int 1))) (kL n mh ct hv l (some (.int (ct - ((headL hv).length : Int)))) none none none) S = .ok ⟨(List.range (mh - 1).toNat).map fun i : Nat => IV.int i, none⟩ S := Lw.src_range (by
    rw [iBin_e, iVar_s (x := .int mh) rfl]
    simp only [Out.bind_ok, iC_e, fI_i]
    rw [chk_pos trivial]) (by omega) (by omega)
  have step : ∀ (i : Nat) (S' : Sto) (a : Nat), (List.range (mh - 1).toNat)[i]? = some a → Lw.Dr S' n (K + i) ∧ Ext [n] S S' → ∃ L v S'', giN 7 (IV.int a) (wipeI (kL n mh ct hv l (some (.int (ct - ((headL hv).length : Int)))) none none none) [7]) = some L ∧ iBin fAdd (iCa fLen (iCons (iVar 4) iNil)) (iCall 2 m__law_draw (iCons (iVar 0) (iCons (iVar 5) iNil))) L S' = .ok v S'' ∧ (∃ i : Int, v = .int i) ∧ Lw.Dr S'' n (K + (i + 1)) ∧ Ext [n] S S'' := by
    rintro i S' a ha ⟨d', x'⟩
    have hi : i < (mh - 1).toNat := by have := lt_some ha; rwa [List.length_range] at this
    obtain ⟨r, S'', e, _, _, d2, x2⟩ := draw_e (i := 0) (mm := iVar 5) (m := ct - ((headL hv).length : Int)) (Λ := kL n mh ct hv l (some (.int (ct - ((headL hv).length : Int)))) none (some (.int a)) none) d' (by omega) (by omega) (by omega) rfl (iVar_s rfl)
    refine ⟨kL n mh ct hv l (some (.int (ct - ((headL hv).length : Int)))) none (some (.int a)) none, _, S'', rfl, ?_, ⟨((headL hv).map IV.str).length + r, rfl⟩, d2, x'.trans x2⟩
    rw [iBin_e, len_e (i := 4) rfl (x'.get g (by simp [hl])), Out.bind_ok, e, Out.bind_ok, fAdd_i]
  obtain ⟨ys, S', e1, e2, e3, e4, e5⟩ := lc_inv (cell := false) (gi := giN 7) (te := iBin fAdd (iCa fLen (iCons (iVar 4) iNil)) (iCall 2 m__law_draw (iCons (iVar 0) (iCons (iVar 5) iNil)))) (vs := [7]) (Λ := kL n mh ct hv l (some (.int (ct - ((headL hv).length : Int)))) none none none) (List.range (mh - 1).toNat) (fun i : Nat => IV.int i) (fun j S2 => Lw.Dr S2 n (K + j) ∧ Ext [n] S S2) (fun v => ∃ i : Int, v = .int i) src ⟨d, .refl⟩ step (by rw [List.length_range, szL]; omega)
  rw [List.length_range] at e2 e4
  refine ⟨ys, S', ?_, e3, e4.up (by omega), e5⟩
  rw [e1, mkL_f, chk_pos (by rw [e2, szL]; omega)]
noncomputable def wB : IS := (iSeq (iSet 8 (iIf (iTest (iBin fIn (iVar 7) (iVar 6))) (iC (.str "module ")) (iC (.str "outside ")))) (iDrop (iBM "list" fApp (iVar 4) (iCons (iBin fAdd (iVar 8) (iCall 1 m__law_name (iCons (iVar 7) iNil))) iNil))))
theorem p_len : ("module " : Str).length ≤ 100 ∧ ("outside " : Str).length ≤ 100 := by decide +kernel
theorem word_step {S : Sto} {l k : Nat} {room ys : IV} {xs : List Str} {b : Bool} {u : Option IV} (hk : k < 160) (hb : inB S (.int k) ys = some b) (g : S[l]? = some (.lst (xs.map IV.str))) (hx : xs.length < 1000) :
    ∃ u', wB (kL n mh ct hv l (some room) (some ys) (some (.int k)) u) S = .ok (.nx (kL n mh ct hv l (some room) (some ys) (some (.int k)) u')) (S.set l (.lst ((xs ++ [lnOf (b, k)]).map IV.str))) := by
  have c : iTest (iBin fIn (iVar 7) (iVar 6)) (kL n mh ct hv l (some room) (some ys) (some (.int k)) u) S = .ok b S := by
    rw [iTest_e, iBin_e, iVar_s (x := .int k) rfl, Out.bind_ok, iVar_s (x := ys) rfl, Out.bind_ok, fIn_e, hb]
    rfl
  have w : ∃ x : Str, x.length ≤ 100 ∧ x ++ nm k = lnOf (b, k) ∧ iIf (iTest (iBin fIn (iVar 7) (iVar 6))) (iC (.str "module ")) (iC (.str "outside ")) (kL n mh ct hv l (some room) (some ys) (some (.int k)) u) S = .ok (.str x) S := by
    cases b with
    | true => exact ⟨"module ", p_len.1, rfl, (if_tt c).trans rfl⟩
    | false => exact ⟨"outside ", p_len.2, rfl, (if_ff c).trans rfl⟩
  obtain ⟨x, x1, x2, x3⟩ := w
  refine ⟨some (.str x), ?_⟩
  unfold wB
  refine (sq_ok (Λ1 := kL n mh ct hv l (some room) (some ys) (some (.int k)) (some (.str x))) (st_ok x3)).trans ?_
  have v : iBin fAdd (iVar 8) (iCall 1 m__law_name (iCons (iVar 7) iNil)) (kL n mh ct hv l (some room) (some ys) (some (.int k)) (some (.str x))) S = .ok (.str (lnOf (b, k))) S := by
    rw [iBin_e, iVar_s (x := .str x) rfl, Out.bind_ok, name_e (i := 7) hk rfl, Out.bind_ok, nm_add x1, x2]
  have a := Lw.app_e (Λ := kL n mh ct hv l (some room) (some ys) (some (.int k)) (some (.str x))) (mo := iVar 4) (iVar_s rfl) v g g (by rw [List.length_map]; omega)
  rw [dr_ok a, List.map_append]
  rfl
theorem many_ok {S : Sto} {K : Nat} (d : Lw.Dr S n K) (hK : K ≤ 900000) (hm : 1 ≤ mh ∧ mh ≤ 8) (hc : 140 ≤ ct ∧ ct ≤ 156) :
    ∃ (its : List (Bool × Nat)) (S' : Sto) (l : Nat), m__law_many [.adr n, .int mh, .int ct, .bl hv] S = .ok (.adr l) S' ∧ S'[l]? = some (.lst ((headL hv ++ its.map lnOf).map IV.str)) ∧ (((headL hv).length + its.length : Nat) : Int) = ct ∧ its.Nodup ∧ (∀ it ∈ its, it.2 < 160) ∧ Lw.Dr S' n (K + 10) ∧ Ext [n] S S' ∧ S.length ≤ l := by
  obtain ⟨h1, h2⟩ := head_le hv
  obtain ⟨l, S1, e1, g1, x1, l1⟩ := head_ok n mh ct hv S
  have hn := d.lt
  have hl : l ≠ n := by omega
  have d1 := d.ext x1
  obtain ⟨ys, S2, e2, hy, d2, x2⟩ := starts_ok (mh := mh) (ct := ct) (hv := hv) d1 hK hm hc g1 hl
  obtain ⟨B, hB⟩ := inB_ints hy
  have g2 := x2.get g1 (by simp [hl])
  let room : IV := .int (ct - ((headL hv).length : Int))
  let m := (ct - ((headL hv).length : Int)).toNat
  have room_e : iBin fSub (iVar 2) (iCa fLen (iCons (iVar 4) iNil)) (kL n mh ct hv l none none none none) S1 = .ok room S1 := by
    rw [iBin_e, iVar_s (x := .int ct) rfl, Out.bind_ok, len_e (i := 4) rfl g1, Out.bind_ok]
    unfold fSub
    rw [fI_i, chk_pos trivial, List.length_map]
  have src : iSrcR2 (iCa fLen (iCons (iVar 4) iNil)) (iVar 2) (kL n mh ct hv l (some room) (some (.lst ys)) none none) S2 = .ok ⟨(List.range m).map fun i : Nat => IV.int (((headL hv).length : Int) + i), none⟩ S2 := by
    unfold iSrcR2
    rw [len_e (i := 4) rfl g2, Out.bind_ok, iVar_s (x := .int ct) rfl, Out.bind_ok, List.length_map, asI_i, asI_i, chk_pos (by refine ⟨?_, ?_, ?_, ?_⟩ <;> omega), rangeI_map]
  have step : ∀ (i : Nat) (Λ : Slots) (S : Sto) (a : Nat), (List.range m)[i]? = some a → ((∃ u v, Λ = kL n mh ct hv l (some room) (some (.lst ys)) u v) ∧ S[l]? = some (.lst ((headL hv ++ (itms (headL hv).length B i).map lnOf).map IV.str)) ∧ Ext [l] S2 S) →
      ∃ Λ1 S3 Λ2 S4, iName 7 (IV.int (((headL hv).length : Int) + a)) Λ S = .ok Λ1 S3 ∧ wB Λ1 S3 = .ok (.nx Λ2) S4 ∧ ((∃ u v, Λ2 = kL n mh ct hv l (some room) (some (.lst ys)) u v) ∧ S4[l]? = some (.lst ((headL hv ++ (itms (headL hv).length B (i + 1)).map lnOf).map IV.str)) ∧ Ext [l] S2 S4) := by
    rintro i Λ S a ha ⟨⟨u, v, rfl⟩, g, x⟩
    have hi : i < m := by have := lt_some ha; rwa [List.length_range] at this
    have ea : a = i := by rw [List.getElem?_range hi] at ha; exact (Option.some.inj ha).symm
    subst ea
    obtain ⟨u', w⟩ := word_step (n := n) (mh := mh) (ct := ct) (hv := hv) (k := (headL hv).length + a) (room := room) (ys := .lst ys) (u := v) (by omega) (hB S _) g (by rw [List.length_append, List.length_map, itms_len]; omega)
    refine ⟨kL n mh ct hv l (some room) (some (.lst ys)) (some (.int ((headL hv).length + a : Nat))) v, S, _, _, rfl, w, ⟨_, _, rfl⟩, ?_, x.trans (.set (.inl (by simp)))⟩
    have e : (itms (headL hv).length B (a + 1)).map lnOf = (itms (headL hv).length B a).map lnOf ++ [lnOf (B (((headL hv).length + a : Nat) : Int), (headL hv).length + a)] := by
      rw [itms_succ, List.map_append]
      rfl
    rw [get_setS g, e, ← List.append_assoc]
  obtain ⟨Λ', S3, f1, ⟨u, v, rfl⟩, g3, x3⟩ := for_inv (g := iName 7) (b := wB) (List.range m) (fun i : Nat => IV.int (((headL hv).length : Int) + i)) (fun i Λ S => (∃ u v, Λ = kL n mh ct hv l (some room) (some (.lst ys)) u v) ∧ S[l]? = some (.lst ((headL hv ++ (itms (headL hv).length B i).map lnOf).map IV.str)) ∧ Ext [l] S2 S) src ⟨⟨_, _, rfl⟩, by rw [g2]; unfold itms; simp, .refl⟩ (fun _ _ _ _ => trivial) step
  rw [List.length_range] at g3
  have nl : n ≠ l := fun e => hl e.symm
  refine ⟨itms (headL hv).length B m, S3, l, mDef_rt ?_, g3, by rw [itms_len]; omega, itms_nd _ _ _, itms_lt (by omega), d2.ext x3 (by simp [nl]), (x1.nil.trans x2).trans' x3 fun e he => .inr (by rw [List.mem_singleton.mp he]; exact l1), l1⟩
  show b__law_many [some (.adr n), some (.int mh), some (.int ct), some (.bl hv), none, none, none, none, none] S = _
  unfold b__law_many
  refine (e1 _).trans ?_
  refine (sq_ok (Λ1 := kL n mh ct hv l (some room) none none none) (st_ok room_e)).trans ((sq_ok (Λ1 := kL n mh ct hv l (some room) (some (.lst ys)) none none) (st_ok e2)).trans ((sq_ok f1).trans (rt_ok (iVar_s rfl))))
end
end K10

set_option maxHeartbeats 2000000
/-! what is told of the lines drawn -/
namespace K10
open PySem PySem.Spec PyProof.Rows L2 Sm RD
theorem told_long {L : List Str} {S : Sto} {x : IV} (h : LL L) (hx : seqOf S x = some (L.map IV.str)) (hn : 150 < L.length) (he : ∀ (B : Sto) (r : Nat) (S : Sto), Rep B r L S q0 → ∃ M w, Ends B r L S M w) : ∃ S', m__law_told [x] S = .ok (.str "lines") S' ∧ Ext [] S S' := by
  obtain ⟨S1, R1, _, e1⟩ := proj_end (o := S.length) (S := S ++ [.ins "Project" []]) h.tx (by simp)
  obtain ⟨M, w, S2, q, ds, R2, hW, g1, g2, g3, D, z⟩ := he _ _ _ R1
  obtain ⟨f1, _⟩ := e1 S2 q ds (read_ok hW R2 g2) R2 g3 D.nn D.ok D.bd (by have := z.ms; omega) fun m hm => by have := z.rows m hm; omega
  exact told_tm h hx (f1 hn)
theorem head_all (hv : Bool) : (headL hv).all lnB = true := by cases hv <;> decide +kernel
theorem ln_ok {it : Bool × Nat} (h : it.2 < 160) : lnB (lnOf it) = true := by
  unfold lnOf
  cases it.1 with
  | true => exact (kf h).m
  | false => exact (kf h).o
theorem its_ok {its : List (Bool × Nat)} (hk : ∀ it ∈ its, it.2 < 160) : ∀ s ∈ its.map lnOf, lnB s = true := fun s hs => by
  obtain ⟨it, h, rfl⟩ := List.mem_map.mp hs
  exact ln_ok (hk it h)
def allL (hv : Bool) (its : List (Bool × Nat)) : List Str := headL hv ++ its.map lnOf
section
variable {hv : Bool} {its : List (Bool × Nat)}
theorem all_len : (allL hv its).length = (headL hv).length + its.length := by unfold allL; rw [List.length_append, List.length_map]
theorem all_ok (hk : ∀ it ∈ its, it.2 < 160) : ∀ s ∈ allL hv its, lnB s = true := fun s hs => (List.mem_append.mp hs).elim (fun h => List.all_eq_true.mp (head_all hv) s h) (its_ok hk s)
theorem all_LL (hk : ∀ it ∈ its, it.2 < 160) (hn : its.length ≤ 300) : LL (allL hv its) := by
  obtain ⟨h1, h2⟩ := head_le hv
  refine ⟨by rw [all_len]; omega, fun e => ?_, all_ok hk⟩
  have := congrArg List.length e
  rw [all_len, List.length_nil] at this
  omega
theorem all_hd {j : Nat} (h : j < (headL hv).length) : (allL hv its)[j]? = (headL hv)[j]? := List.getElem?_append_left h
theorem all_it (i : Nat) (it : Bool × Nat) (h : its[i]? = some it) : (allL hv its)[(headL hv).length + i]? = some (lnOf it) := by
  unfold allL
  rw [List.getElem?_append_right (by omega), show (headL hv).length + i - (headL hv).length = i by omega, List.getElem?_map, h]
  rfl
theorem all_told {x : IV} {S : Sto} (hx : seqOf S x = some ((allL hv its).map IV.str)) (hk : ∀ it ∈ its, it.2 < 160) (hd : its.Nodup) (hn : its.length ≤ 300) : ∃ S', m__law_told [x] S = .ok (due (allL hv its).length (1 + its.countP (·.1)) (wt hv)) S' ∧ Ext [] S S' :=
  told_ok (all_LL hk hn) hx fun B r S R => whole_ends (all_LL hk hn).lns hv its R (fun j hj => all_hd hj) all_it hk hd (by omega) all_len
/-! ### cut, and a line put in -/
def putL (L : List Str) (a : Nat) (s : Str) (Y : List Str) : List Str := L.take a ++ s :: Y
theorem put_lt {L Y : List Str} {a j : Nat} {s : Str} (ha : a ≤ L.length) (h : j < a) : (putL L a s Y)[j]? = L[j]? := by
  unfold putL
  rw [List.getElem?_append_left (by rw [List.length_take]; omega), List.getElem?_take_of_lt h]
theorem put_at {L Y : List Str} {a : Nat} {s : Str} (ha : a ≤ L.length) : (putL L a s Y)[a]? = some s := by
  have : (L.take a).length = a := by rw [List.length_take]; omega
  unfold putL
  rw [List.getElem?_append_right (by omega), this, Nat.sub_self]
  rfl
theorem put_LL {L Y : List Str} {a : Nat} {s : Str} (hL : ∀ s ∈ L, lnB s = true) (hs : lnB s = true) (hY : ∀ s ∈ Y, s ∈ L) (hn : L.length + Y.length < 400) : LL (putL L a s Y) := by
  unfold putL
  refine ⟨?_, by simp, fun t ht => ?_⟩
  · rw [List.length_append, List.length_take, List.length_cons]; omega
  · rcases List.mem_append.mp ht with h | h
    · exact hL t (List.mem_of_mem_take h)
    · rcases List.mem_cons.mp h with h | h
      · rw [h]; exact hs
      · exact hL t (hY t h)
variable {a : Nat} {s : Str} {Y : List Str} {B : Sto} {r : Nat} {S : Sto}
theorem put_whole (hL : Lns (putL (allL hv its) a s Y)) (ha : a ≤ (allL hv its).length) (h1 : (headL hv).length ≤ a) (hk : ∀ it ∈ its, it.2 < 160) (hd : its.Nodup) (hn : its.length ≤ 300) (R : Rep B r (putL (allL hv its) a s Y) S q0) :
    ∃ S' q', Rep B r (putL (allL hv its) a s Y) S' q' ∧ (W r S' ≠ .bad → W r S = W r S') ∧ q'.pos = a ∧ q'.ms ≠ [] ∧ Sz q' 9000 := by
  have la := all_len (hv := hv) (its := its)
  have tl : (its.take (a - (headL hv).length)).length = a - (headL hv).length := by rw [List.length_take]; omega
  obtain ⟨S', q', ds, R', e, g1, g2, g3, g4, D, z⟩ := whole hL hv (its.take (a - (headL hv).length)) R (fun j hj => by rw [put_lt ha (by omega), all_hd hj]) (fun i it hi => by
      have hlt := lt_some hi
      rw [tl] at hlt
      rw [List.getElem?_take_of_lt hlt] at hi
      rw [put_lt ha (by omega), all_it i it hi]) (fun it h => hk it (List.mem_of_mem_take h)) (hd.sublist (List.take_sublist _ _)) (by omega)
  exact ⟨S', q', R', e, by rw [g1, tl]; omega, g3, z⟩
theorem put_out (ha : a ≤ (allL hv its).length) (hk : ∀ it ∈ its, it.2 < 160) (hd : its.Nodup) (hn : its.length ≤ 300) (hL : Lns (putL (allL hv its) a "outside" Y)) (R : Rep B r (putL (allL hv its) a "outside" Y) S q0) : Err B (W r S) (a : Int) := by
  by_cases h1 : (headL hv).length ≤ a
  · obtain ⟨S', q', R', e, g1, g2, z⟩ := put_whole hL ha h1 hk hd hn R
    have := top_err hL R' z (Nat.le_refl _) g2 (by rw [g1]; exact put_at ha) w_out
    rw [g1] at this
    rw [e this.nb]
    exact this
  · have hs := put_at (Y := Y) (s := "outside") ha
    by_cases h0 : a = 0
    · subst h0
      exact first_err hL R rfl hs w_out
    · cases hv with
      | false => exact absurd (show (headL false).length ≤ a from by show 1 ≤ a; omega) h1
      | true => exact hv_err hL R (show a < (headL true).length by omega) (fun j hj => by rw [put_lt ha hj, all_hd (by omega)]; rfl) hs w_out
theorem put_mend (ha : a ≤ (allL hv its).length) (h1 : (headL hv).length ≤ a) (hk : ∀ it ∈ its, it.2 < 160) (hd : its.Nodup) (hn : its.length ≤ 300) (hL : Lns (putL (allL hv its) a "module end" Y)) (R : Rep B r (putL (allL hv its) a "module end" Y) S q0) : Err B (W r S) (a : Int) := by
  obtain ⟨S', q', R', e, g1, g2, z⟩ := put_whole hL ha h1 hk hd hn R
  have := mend_err hL R' z (Nat.le_refl _) (by rw [g1]; exact put_at ha) w_mend
  rw [g1] at this
  rw [e this.nb]
  exact this
end
/-! ### modules and outside functions alone -/
def exI (m k : Nat) : List (Bool × Nat) := (List.range m).map (fun i => (true, i)) ++ (List.range k).map fun i => (false, i)
section
variable {m k : Nat}
theorem ex_len : (exI m k).length = m + k := by unfold exI; rw [List.length_append, List.length_map, List.length_map, List.length_range, List.length_range]
theorem ex_lt (hm : m ≤ 160) (hk : k ≤ 160) : ∀ it ∈ exI m k, it.2 < 160 := fun it h => by
  rcases List.mem_append.mp h with h | h
  · obtain ⟨a, ha, rfl⟩ := List.mem_map.mp h
    have := List.mem_range.mp ha
    show a < 160
    omega
  · obtain ⟨a, ha, rfl⟩ := List.mem_map.mp h
    have := List.mem_range.mp ha
    show a < 160
    omega
theorem ex_nd : (exI m k).Nodup := by
  refine List.nodup_append.mpr ⟨List.pairwise_map.mpr (List.nodup_range.imp fun {a b} h e => h (Prod.mk.inj e).2), List.pairwise_map.mpr (List.nodup_range.imp fun {a b} h e => h (Prod.mk.inj e).2), fun x hx y hy e => ?_⟩
  obtain ⟨a, _, rfl⟩ := List.mem_map.mp hx
  obtain ⟨b, _, rfl⟩ := List.mem_map.mp hy
  cases e
theorem ex_count : (exI m k).countP (·.1) = m := by
  unfold exI
  have a1 : List.countP ((fun x : Bool × Nat => x.fst) ∘ fun i => (true, i)) (List.range m) = m := (List.countP_eq_length.mpr fun _ _ => rfl).trans List.length_range
  have a2 : List.countP ((fun x : Bool × Nat => x.fst) ∘ fun i => (false, i)) (List.range k) = 0 := List.countP_eq_zero.mpr fun _ _ => by simp
  rw [List.countP_append, List.countP_map, List.countP_map, a1, a2]
  omega
theorem ex_0 (hm : 0 < m) (it : Bool × Nat) (h : (exI m k)[0]? = some it) : it.1 = true := by
  unfold exI at h
  rw [List.getElem?_append_left (by rw [List.length_map, List.length_range]; exact hm), List.getElem?_map, List.getElem?_range hm] at h
  cases h
  rfl
theorem ex_ne (hm : 0 < m) : exI m k ≠ [] := fun e => by
  have := congrArg List.length e
  rw [ex_len, List.length_nil] at this
  omega
theorem ex_map : (exI m k).map lnOf = (List.range m).map lM ++ (List.range k).map lO := by
  unfold exI
  rw [List.map_append, List.map_map, List.map_map]
  rfl
theorem ex_LL (hm : m ≤ 160) (hk : k ≤ 160) (h0 : 0 < m) : LL ((exI m k).map lnOf) := by
  refine ⟨by rw [List.length_map, ex_len]; omega, fun e => ex_ne h0 (List.map_eq_nil_iff.mp e), its_ok (ex_lt hm hk)⟩
theorem ex_told {x : IV} {S : Sto} (hm : m ≤ 160) (hk : k ≤ 160) (h0 : 0 < m) (hx : seqOf S x = some (((exI m k).map lnOf).map IV.str)) : ∃ S', m__law_told [x] S = .ok (due (m + k) m 0) S' ∧ Ext [] S S' := by
  have := told_ok (M := m) (w := 0) (ex_LL hm hk h0) hx fun B r S R => by
    have := plain_ends (ex_LL hm hk h0).lns (exI m k) R (fun i it hi => by rw [List.getElem?_map, hi]; rfl) (ex_lt hm hk) ex_nd (by rw [ex_len]; omega) (ex_0 h0) (ex_ne h0) (List.length_map _)
    rw [ex_count] at this
    exact this
  rw [List.length_map, ex_len] at this
  exact this
theorem ex_last {x : IV} {S : Sto} (hm : m ≤ 160) (hk : k ≤ 160) (h0 : 0 < m) (h150 : 150 ≤ m + k) (hx : seqOf S x = some (((exI m k).map lnOf ++ [("outside last" : Str)]).map IV.str)) : ∃ S', m__law_told [x] S = .ok (.str "lines") S' ∧ Ext [] S S' := by
  have ln := ex_LL hm hk h0
  have hL : LL ((exI m k).map lnOf ++ [("outside last" : Str)]) := ⟨by rw [List.length_append, List.length_map, ex_len, List.length_singleton]; omega, by simp, fun s hs => (List.mem_append.mp hs).elim (ln.ok s) fun h => by rw [List.mem_singleton.mp h]; exact fix (by simp [fixL])⟩
  have ll : ((exI m k).map lnOf).length = (exI m k).length := List.length_map _
  refine told_long hL hx (by rw [List.length_append, List.length_map, ex_len, List.length_singleton]; omega) fun B r S R => ?_
  obtain ⟨M, h⟩ := plain_last hL.lns (exI m k) R (fun i it hi => by rw [List.getElem?_append_left (by rw [ll]; exact lt_some hi), List.getElem?_map, hi]; rfl) (ex_lt hm hk) ex_nd (by rw [ex_len]; omega) (ex_0 h0) (ex_ne h0) (by rw [List.length_append, ll, List.length_singleton]) (by rw [List.getElem?_append_right (by rw [ll]; exact Nat.le_refl _), ll, Nat.sub_self]; rfl)
  exact ⟨M, 0, h⟩
end
end K10

set_option maxHeartbeats 2000000
/-! the law -/
namespace K10
open PySem PySem.Spec PyProof.Rows L2 Sm RD
def wL (ns : List Int) (p n : Nat) (a3 a4 a5 a6 a7 a8 a9 a10 a11 a12 : Option IV) : Slots := [some (.wls (ns.map IV.int)), some (.int p), some (.adr n), a3, a4, a5, a6, a7, a8, a9, a10, a11, a12]
section
variable {Λ : Slots} {S S' : Sto} {l : Nat} {hv : Bool} {its : List (Bool × Nat)}
theorem ne_skip {mX mY : IE} {x v : IV} (hX : mX Λ S = .ok x S) (t : m__law_told [x] S = .ok v S') (hY : mY Λ S' = .ok v S') (he : eqB S' v v = some true) : iTest (iBin fNe (iCall 1 m__law_told (iCons mX iNil)) mY) Λ S = .ok false S' := by
  rw [iTest_e, iBin_e, iCall_e, iCons_e, hX]
  simp only [Out.bind_ok, iNil_e]
  rw [chk_pos (by rfl), t]
  simp only [relab_ok, Out.bind_ok, hY, fNe_e, he, orBad_some, asB_b]
  rfl
theorem due_eq (n M w : Nat) : eqB S (due n M w) (due n M w) = some true := by
  unfold due
  split
  · rw [eqB_s]; simp
  · split
    · rw [eqB_s]; simp
    · split
      · rw [eqB_s]; simp
      · rw [eqB_i]; simp
theorem src_a {i : Nat} {xs : List IV} (h : Λ[i]? = some (some (.adr l))) (hl : S[l]? = some (.lst xs)) : iSrcL (iVar i) Λ S = .ok ⟨xs, some l⟩ S := by
  rw [iSrcL_e, iVar_s h]
  show fSrcL (.adr l) S = _
  unfold fSrcL
  simp only [hl]
def tB (s : Str) : Bool := decide (cutS s none (some 7) = "module ")
theorem head_t (hv : Bool) : ((headL hv).filter tB).length = 1 := by cases hv <;> decide +kernel
theorem its_t : ∀ {its : List (Bool × Nat)}, (∀ it ∈ its, it.2 < 160) → ((its.map lnOf).filter tB).length = its.countP (·.1)
  | [], _ => rfl
  | (b, k) :: its, h => by
    have f := kf (h (b, k) List.mem_cons_self)
    have ih := its_t fun it hi => h it (List.mem_cons_of_mem _ hi)
    have t : tB (lnOf (b, k)) = b := by
      cases b with
      | true =>
        show decide (cutS (lM k) none (some 7) = "module ") = true
        rw [f.cm]
        exact decide_eq_true rfl
      | false =>
        show decide (cutS (lO k) none (some 7) = "module ") = false
        rw [f.co]
        decide +kernel
    rw [List.map_cons, List.filter_cons, t, List.countP_cons]
    cases b with
    | true => rw [if_pos rfl, if_pos rfl, List.length_cons, ih]
    | false => rw [if_neg Bool.false_ne_true, if_neg Bool.false_ne_true, ih, Nat.add_zero]
theorem found_ok (hi : Λ[6]? = some (some (.adr l))) (h11 : Λ.length = 13) (g : S[l]? = some (.lst ((allL hv its).map IV.str))) (hk : ∀ it ∈ its, it.2 < 160) (hn : its.length ≤ 300) :
    iCa fLen (iCons (iLc false (iSrcL (iVar 6)) (giN 11) (iTest (iBin fEq (iSl false (iVar 11) iNoPart (iPart (iC (.int 7)))) (iC (.str "module ")))) (iVar 11) [11]) iNil) Λ S = .ok (.int ((1 + its.countP (·.1) : Nat) : Int)) S := by
  have la : (allL hv its).length ≤ 400 := (all_LL (hv := hv) hk hn).n
  have it1 : ∀ s ∈ allL hv its, ∃ L, giN 11 (IV.str s) (wipeI Λ [11]) = some L ∧ iTest (iBin fEq (iSl false (iVar 11) iNoPart (iPart (iC (.int 7)))) (iC (.str "module "))) L S = .ok (tB s) S ∧ (tB s = true → iVar 11 L S = .ok (.str s) S) := fun s hs => by
    have v : iVar 11 ((wipeI Λ [11]).set 11 (some (.str s))) S = .ok (.str s) S := iVar_s (by
      show ((Λ.set 11 none).set 11 _)[11]? = _
      rw [List.getElem?_set_self (by rw [List.length_set, h11]; decide)])
    refine ⟨_, rfl, ?_, fun _ => v⟩
    have sl := (lnB_ok (all_ok hk s hs)).2.2.2
    simp only [iTest_e, iBin_e, iSl_e, v, Out.bind_ok, iNoPart_e, iPart_e, iC_e, asI_i, fSl_s]
    rw [chk_pos (by rw [szL]; omega)]
    simp only [Out.bind_ok, fEq_e, eqB_s, orBad_some, asB_b]
    rfl
  have c : iLc false (iSrcL (iVar 6)) (giN 11) (iTest (iBin fEq (iSl false (iVar 11) iNoPart (iPart (iC (.int 7)))) (iC (.str "module ")))) (iVar 11) [11] Λ S = .ok (.lst (((allL hv its).filter tB).map IV.str)) S := by
    rw [lc_map (allL hv its) IV.str tB IV.str (src_a hi g) g it1 (by rw [szL]; omega)]
    have := List.length_filter_le tB (allL hv its)
    rw [mkL_f, chk_pos (by rw [List.length_map, szL]; omega)]
  rw [iCa_e, iCons_e, c]
  simp only [Out.bind_ok, iNil_e, fLen_e, lenN_l, orBad_some, List.length_map]
  have : ((allL hv its).filter tB).length = 1 + its.countP (·.1) := by
    unfold allL
    rw [List.filter_append, List.length_append, head_t, its_t hk]
  rw [this]
theorem sl_to {L : List Str} {i a : Nat} (hi : Λ[i]? = some (some (.adr l))) (g : S[l]? = some (.lst (L.map IV.str))) {m : IE} (hm : m Λ S = .ok (.int (a : Int)) S) (hL : L.length ≤ 400) : iSl false (iVar i) iNoPart (iPart m) Λ S = .ok (.lst ((L.take a).map IV.str)) S := by
  simp only [iSl_e, iVar_s hi, Out.bind_ok, iNoPart_e, iPart_e, hm, asI_i]
  have : cutI (L.map IV.str) none (some (a : Int)) = (L.take a).map IV.str := by
    unfold cutI
    rw [HT.sIx_nat, HT.sIx_none, List.drop_zero, Nat.sub_zero, List.length_map, List.map_take]
    rw [show min a L.length = min a (L.map IV.str).length by rw [List.length_map], ← List.take_eq_take_min]
  show orBad (lstOf S (.adr l)) _ = _
  rw [lst_a g, orBad_some, this, mkL_f, chk_pos (by rw [List.length_map, List.length_take, szL]; omega)]
theorem sl_from {L : List Str} {i a : Nat} (hi : Λ[i]? = some (some (.adr l))) (g : S[l]? = some (.lst (L.map IV.str))) {m : IE} (hm : m Λ S = .ok (.int (a : Int)) S) (ha : a ≤ L.length) (hL : L.length ≤ 400) : iSl false (iVar i) (iPart m) iNoPart Λ S = .ok (.lst ((L.drop a).map IV.str)) S := by
  simp only [iSl_e, iVar_s hi, Out.bind_ok, iNoPart_e, iPart_e, hm, asI_i]
  have : cutI (L.map IV.str) (some (a : Int)) none = (L.drop a).map IV.str := by
    unfold cutI
    rw [HT.sIx_nat, HT.sIx_none, List.length_map, Nat.min_eq_left ha, List.take_of_length_le (by rw [List.length_drop, List.length_map]; exact Nat.le_refl _), List.map_drop]
  show orBad (lstOf S (.adr l)) _ = _
  rw [lst_a g, orBad_some, this, mkL_f, chk_pos (by rw [List.length_map, List.length_drop, szL]; omega)]
theorem ex_e {x : Str} (hx : x.length ≤ 100) {m : Nat} (hm : m ≤ 160) (h12 : Λ.length = 13) : iLc false (iSrcR1 (iC (.int (m : Int)))) (giN 12) iYes (iBin fAdd (iC (.str x)) (iCall 1 m__law_name (iCons (iVar 12) iNil))) [12] Λ S = .ok (.lst (((List.range m).map fun k => x ++ nm k).map IV.str)) S := by
  have it1 : ∀ k ∈ List.range m, ∃ L, giN 12 (IV.int (k : Nat)) (wipeI Λ [12]) = some L ∧ iYes L S = .ok true S ∧ (true = true → iBin fAdd (iC (.str x)) (iCall 1 m__law_name (iCons (iVar 12) iNil)) L S = .ok (.str (x ++ nm k)) S) := fun k hk => by
    have := List.mem_range.mp hk
    refine ⟨_, rfl, rfl, fun _ => ?_⟩
    rw [iBin_e, iC_e, Out.bind_ok, name_e (i := 12) (k := k) (by omega) (by
      show ((Λ.set 12 none).set 12 _)[12]? = _
      rw [List.getElem?_set_self (by rw [List.length_set, h12]; decide)]), Out.bind_ok, nm_add hx]
  have src : iSrcR1 (iC (.int (m : Int))) Λ S = .ok ⟨(List.range m).map fun i : Nat => IV.int i, none⟩ S := by
    have := Lw.src_range (m := iC (.int (m : Int))) (Λ := Λ) (S := S) rfl (by omega) (by omega)
    rwa [Int.toNat_natCast] at this
  rw [lc_map (List.range m) (fun i : Nat => IV.int i) (fun _ => true) (fun k => .str (x ++ nm k)) src trivial it1 (by rw [List.length_range, szL]; omega)]
  rw [mkL_f, List.filter_eq_self.mpr (fun _ _ => rfl), chk_pos (by rw [List.length_map, List.length_range, szL]; omega), List.map_map]
  rfl
end
end K10

set_option maxHeartbeats 2000000
/-! the law, to the end -/
namespace K10
open PySem PySem.Spec PyProof.Rows L2 Sm RD
noncomputable def dueB : IS := (iIf (iTest (iBin fGt (iCa fLen (iCons (iVar 6) iNil)) (iC (.int 150)))) (iSet 8 (iC (.str "lines"))) (iIf (iTest (iBin fGt (iVar 7) (iC (.int 6)))) (iSet 8 (iC (.str "modules"))) (iIf (iTru (iVar 5)) (iSet 8 (iC (.str "weight"))) iNext)))
noncomputable def toldL : IS := (iIf (iTest (iBin fNe (iCall 1 m__law_told (iCons (iVar 6) iNil)) (iVar 8))) (iRet (iC (.bl false))) iNext)
noncomputable def toldO : IS := (iIf (iTest (iBin fNe (iCall 1 m__law_told (iCons (iBin fAdd (iBin fAdd (iSl false (iVar 6) iNoPart (iPart (iVar 9))) (iLst false (iCons (iC (.str "outside")) iNil))) (iSl false (iVar 6) (iPart (iVar 9)) iNoPart)) iNil)) (iVar 9))) (iRet (iC (.bl false))) iNext)
noncomputable def toldM : IS := (iIf (iTest (iBin fNe (iCall 1 m__law_told (iCons (iBin fAdd (iSl false (iVar 6) iNoPart (iPart (iC (.int 150)))) (iLst false (iCons (iC (.str "module end")) iNil))) iNil)) (iBin fSub (iC (.int 150)) (iCa fMax2 (iCons (iC (.int 0)) (iCons (iBin fSub (iC (.int 150)) (iCa fLen (iCons (iVar 6) iNil))) iNil)))))) (iRet (iC (.bl false))) iNext)
noncomputable def exB : IS := (iSeq (iSet 10 (iLc false (iSrcR1 (iC (.int 6))) (giN 12) iYes (iBin fAdd (iC (.str "module ")) (iCall 1 m__law_name (iCons (iVar 12) iNil))) [12])) (iSeq (iSet 10 (iBin fAdd (iVar 10) (iLc false (iSrcR1 (iC (.int 144))) (giN 12) iYes (iBin fAdd (iC (.str "outside ")) (iCall 1 m__law_name (iCons (iVar 12) iNil))) [12]))) (iSeq (iIf (iOr (iTest (iBin fNe (iCall 1 m__law_told (iCons (iVar 10) iNil)) (iBin fSub (iC (.int 6)) (iC (.int 1000))))) (iTest (iBin fNe (iCall 1 m__law_told (iCons (iBin fAdd (iVar 10) (iLst false (iCons (iC (.str "outside last")) iNil))) iNil)) (iC (.str "lines"))))) (iRet (iC (.bl false))) iNext) (iIf (iTest (iBin fNe (iCall 1 m__law_told (iCons (iLc false (iSrcR1 (iC (.int 7))) (giN 12) iYes (iBin fAdd (iC (.str "module ")) (iCall 1 m__law_name (iCons (iVar 12) iNil))) [12]) iNil)) (iC (.str "modules")))) (iRet (iC (.bl false))) iNext))))
section
variable {ns : List Int} {p n l : Nat} {a3 a4 a7 a8 a9 a10 a11 a12 : Option IV} {hv : Bool} {its : List (Bool × Nat)} {S : Sto}
theorem due_ok (g : S[l]? = some (.lst ((allL hv its).map IV.str))) {M : Nat} : dueB (wL ns p n a3 a4 (some (.bl hv)) (some (.adr l)) (some (.int (M : Int))) (some (.int ((M : Int) - 1000))) a9 a10 a11 a12) S = .ok (.nx (wL ns p n a3 a4 (some (.bl hv)) (some (.adr l)) (some (.int (M : Int))) (some (due (allL hv its).length M (wt hv))) a9 a10 a11 a12)) S := by
  generalize hΛ : wL ns p n a3 a4 (some (.bl hv)) (some (.adr l)) (some (.int (M : Int))) (some (.int ((M : Int) - 1000))) a9 a10 a11 a12 = Λ
  have c1 : iTest (iBin fGt (iCa fLen (iCons (iVar 6) iNil)) (iC (.int 150))) Λ S = .ok (decide ((150 : Int) < ((allL hv its).length : Int))) S := by
    rw [iTest_e, iBin_e, len_e (i := 6) (hΛ ▸ rfl) g, Out.bind_ok, iC_e, Out.bind_ok, List.length_map]
    rfl
  have c2 : iTest (iBin fGt (iVar 7) (iC (.int 6))) Λ S = .ok (decide ((6 : Int) < (M : Int))) S := by
    rw [iTest_e, iBin_e, iVar_s (x := .int (M : Int)) (hΛ ▸ rfl), Out.bind_ok, iC_e, Out.bind_ok]
    rfl
  have c3 : iTru (iVar 5) Λ S = .ok hv S := by
    rw [iTru_e, iVar_s (x := .bl hv) (hΛ ▸ rfl)]
    rfl
  unfold dueB due
  by_cases h1 : 150 < (allL hv its).length
  · rw [decide_eq_true (by omega)] at c1
    rw [if_pos h1]
    refine (if_tt c1).trans ((st_ok rfl).trans ?_)
    rw [← hΛ]
    rfl
  rw [if_neg h1]
  rw [decide_eq_false (by omega)] at c1
  refine (if_ff c1).trans ?_
  by_cases h2 : 6 < M
  · rw [decide_eq_true (by omega)] at c2
    rw [if_pos h2]
    refine (if_tt c2).trans ((st_ok rfl).trans ?_)
    rw [← hΛ]
    rfl
  rw [if_neg h2]
  rw [decide_eq_false (by omega)] at c2
  refine (if_ff c2).trans ?_
  cases hv with
  | true =>
    rw [if_pos (show 100 < wt true by decide)]
    refine (if_tt c3).trans ((st_ok rfl).trans ?_)
    rw [← hΛ]
    rfl
  | false =>
    rw [if_neg (show ¬ 100 < wt false by decide)]
    refine (if_ff c3).trans ?_
    rw [← hΛ]
    rfl
theorem toldL_ok (g : S[l]? = some (.lst ((allL hv its).map IV.str))) (hk : ∀ it ∈ its, it.2 < 160) (hd : its.Nodup) (hn : its.length ≤ 300) : ∃ S', Ext [] S S' ∧ ∀ a5 a7, toldL (wL ns p n a3 a4 a5 (some (.adr l)) a7 (some (due (allL hv its).length (1 + its.countP (·.1)) (wt hv))) a9 a10 a11 a12) S = .ok (.nx (wL ns p n a3 a4 a5 (some (.adr l)) a7 (some (due (allL hv its).length (1 + its.countP (·.1)) (wt hv))) a9 a10 a11 a12)) S' := by
  obtain ⟨S', t, x⟩ := all_told (seq_a g) hk hd hn
  exact ⟨S', x, fun a5 a7 => (if_ff (ne_skip (iVar_s rfl) t (iVar_s rfl) (due_eq _ _ _))).trans rfl⟩
theorem toldO_ok (g : S[l]? = some (.lst ((allL hv its).map IV.str))) (hk : ∀ it ∈ its, it.2 < 160) (hd : its.Nodup) (hn : its.length ≤ 160) {a : Nat} (ha : a ≤ (allL hv its).length) : ∃ S', Ext [] S S' ∧ ∀ a5 a7 a8, toldO (wL ns p n a3 a4 a5 (some (.adr l)) a7 a8 (some (.int (a : Int))) a10 a11 a12) S = .ok (.nx (wL ns p n a3 a4 a5 (some (.adr l)) a7 a8 (some (.int (a : Int))) a10 a11 a12)) S' := by
  have ll := (all_LL (hv := hv) hk (by omega)).n
  have la := all_len (hv := hv) (its := its)
  have h26 := (head_le hv).2
  have hP : LL (putL (allL hv its) a "outside" ((allL hv its).drop a)) := put_LL (all_ok hk) (fix (by simp [fixL])) (fun s hs => List.mem_of_mem_drop hs) (by rw [List.length_drop]; omega)
  obtain ⟨S', t, x⟩ := told_err (S := S) (x := .lst ((putL (allL hv its) a "outside" ((allL hv its).drop a)).map IV.str)) hP rfl fun B r S R => put_out ha hk hd (by omega) hP.lns R
  refine ⟨S', x, fun a5 a7 a8 => (if_ff (ne_skip (v := .int (a : Int)) ?_ t (iVar_s rfl) (by rw [eqB_i]; simp))).trans rfl⟩
  rw [iBin_e, iBin_e, sl_to (i := 6) (a := a) rfl g (iVar_s rfl) ll, Out.bind_ok, one_l, Out.bind_ok, cat_l _ _ (by rw [List.length_take, List.length_singleton]; omega), Out.bind_ok, sl_from (i := 6) (a := a) rfl g (iVar_s rfl) ha ll, Out.bind_ok, cat_l _ _ (by rw [List.length_append, List.length_take, List.length_singleton, List.length_drop]; omega)]
  unfold putL
  rw [List.append_assoc]
  rfl
theorem toldM_ok (g : S[l]? = some (.lst ((allL hv its).map IV.str))) (hk : ∀ it ∈ its, it.2 < 160) (hd : its.Nodup) (hn : its.length ≤ 300) (h140 : 140 ≤ (allL hv its).length) : ∃ S', Ext [] S S' ∧ ∀ a5 a7 a8 a9, toldM (wL ns p n a3 a4 a5 (some (.adr l)) a7 a8 a9 a10 a11 a12) S = .ok (.nx (wL ns p n a3 a4 a5 (some (.adr l)) a7 a8 a9 a10 a11 a12)) S' := by
  have ll := (all_LL (hv := hv) hk (by omega)).n
  have la := all_len (hv := hv) (its := its)
  have h26 := (head_le hv).2
  have ha : min 150 (allL hv its).length ≤ (allL hv its).length := Nat.min_le_right _ _
  have hP : LL (putL (allL hv its) (min 150 (allL hv its).length) "module end" []) := put_LL (all_ok hk) (fix (by simp [fixL])) (fun s hs => by cases hs) (by rw [List.length_nil]; omega)
  obtain ⟨S', t, x⟩ := told_err (S := S) (x := .lst ((putL (allL hv its) (min 150 (allL hv its).length) "module end" []).map IV.str)) hP rfl fun B r S R => put_mend ha (by omega) hk hd (by omega) hP.lns R
  have g' := x.get g
  refine ⟨S', x, fun a5 a7 a8 a9 => (if_ff (ne_skip (v := .int ((min 150 (allL hv its).length : Nat) : Int)) ?_ t ?_ (by rw [eqB_i]; simp))).trans rfl⟩
  · have c : iC (.int 150) (wL ns p n a3 a4 a5 (some (.adr l)) a7 a8 a9 a10 a11 a12) S = .ok (.int ((150 : Nat) : Int)) S := rfl
    rw [iBin_e, sl_to (i := 6) (a := 150) rfl g c ll, Out.bind_ok, one_l, Out.bind_ok, cat_l _ _ (by rw [List.length_take, List.length_singleton]; omega)]
    unfold putL
    rw [← List.take_eq_take_min]
  · rw [iBin_e, iC_e, Out.bind_ok, iCa_e, iCons_e, iC_e, Out.bind_ok, iCons_e, iBin_e, iC_e, Out.bind_ok, len_e (i := 6) rfl g', Out.bind_ok, List.length_map]
    unfold fSub
    rw [fI_i, chk_pos trivial]
    simp only [Out.bind_ok, iNil_e, fMax2_i]
    rw [fI_i, chk_pos trivial]
    have : (150 : Int) - (if (150 : Int) - ((allL hv its).length : Int) > 0 then (150 : Int) - ((allL hv its).length : Int) else 0) = ((min 150 (allL hv its).length : Nat) : Int) := by
      split <;> omega
    rw [this]
theorem exB_ok {a5 a6 : Option IV} : ∃ b S', Ext [] S S' ∧ exB (wL ns p n a3 a4 a5 a6 a7 a8 a9 a10 a11 a12) S = .ok (.nx (wL ns p n a3 a4 a5 a6 a7 a8 a9 b a11 a12)) S' := by
  have pl := p_len
  have e6 : iLc false (iSrcR1 (iC (.int 6))) (giN 12) iYes (iBin fAdd (iC (.str "module ")) (iCall 1 m__law_name (iCons (iVar 12) iNil))) [12] (wL ns p n a3 a4 a5 a6 a7 a8 a9 a10 a11 a12) S = .ok (.lst (((List.range 6).map lM).map IV.str)) S := ex_e pl.1 (m := 6) (by omega) rfl
  let Λ6 : Slots := wL ns p n a3 a4 a5 a6 a7 a8 a9 (some (.lst (((List.range 6).map lM).map IV.str))) a11 a12
  have e144 : iLc false (iSrcR1 (iC (.int 144))) (giN 12) iYes (iBin fAdd (iC (.str "outside ")) (iCall 1 m__law_name (iCons (iVar 12) iNil))) [12] Λ6 S = .ok (.lst (((List.range 144).map lO).map IV.str)) S := ex_e pl.2 (m := 144) (by omega) rfl
  have e150 : iBin fAdd (iVar 10) (iLc false (iSrcR1 (iC (.int 144))) (giN 12) iYes (iBin fAdd (iC (.str "outside ")) (iCall 1 m__law_name (iCons (iVar 12) iNil))) [12]) Λ6 S = .ok (.lst (((exI 6 144).map lnOf).map IV.str)) S := by
    rw [iBin_e, iVar_s (x := .lst (((List.range 6).map lM).map IV.str)) rfl, Out.bind_ok, e144, Out.bind_ok, cat_l _ _ (by rw [List.length_map, List.length_map, List.length_range, List.length_range]; omega), ex_map]
  let E : IV := .lst (((exI 6 144).map lnOf).map IV.str)
  let ΛE : Slots := wL ns p n a3 a4 a5 a6 a7 a8 a9 (some E) a11 a12
  obtain ⟨S1, t1, x1⟩ := ex_told (m := 6) (k := 144) (x := E) (S := S) (by omega) (by omega) (by omega) rfl
  obtain ⟨S2, t2, x2⟩ := ex_last (m := 6) (k := 144) (x := .lst (((exI 6 144).map lnOf ++ [("outside last" : Str)]).map IV.str)) (S := S1) (by omega) (by omega) (by omega) (by omega) rfl
  obtain ⟨S3, t3, x3⟩ := ex_told (m := 7) (k := 0) (x := .lst (((exI 7 0).map lnOf).map IV.str)) (S := S2) (by omega) (by omega) (by omega) rfl
  have d1 : due (6 + 144) 6 0 = .int ((6 : Int) - 1000) := rfl
  have d3 : due (7 + 0) 7 0 = .str "modules" := rfl
  rw [d1] at t1
  rw [d3] at t3
  have n1 : iTest (iBin fNe (iCall 1 m__law_told (iCons (iVar 10) iNil)) (iBin fSub (iC (.int 6)) (iC (.int 1000)))) ΛE S = .ok false S1 := ne_skip (iVar_s rfl) t1 rfl (by rw [eqB_i]; simp)
  have m2 : iBin fAdd (iVar 10) (iLst false (iCons (iC (.str "outside last")) iNil)) ΛE S1 = .ok (.lst (((exI 6 144).map lnOf ++ [("outside last" : Str)]).map IV.str)) S1 := by
    rw [iBin_e, iVar_s (x := E) rfl, Out.bind_ok, one_l, Out.bind_ok, cat_l _ _ (by rw [List.length_map, ex_len, List.length_singleton]; omega)]
  have n2 : iTest (iBin fNe (iCall 1 m__law_told (iCons (iBin fAdd (iVar 10) (iLst false (iCons (iC (.str "outside last")) iNil))) iNil)) (iC (.str "lines"))) ΛE S1 = .ok false S2 := ne_skip m2 t2 rfl (by rw [eqB_s]; simp)
  have m3 : iLc false (iSrcR1 (iC (.int 7))) (giN 12) iYes (iBin fAdd (iC (.str "module ")) (iCall 1 m__law_name (iCons (iVar 12) iNil))) [12] ΛE S2 = .ok (.lst (((exI 7 0).map lnOf).map IV.str)) S2 := by
    have := ex_e (Λ := ΛE) (S := S2) pl.1 (m := 7) (by omega) rfl
    rw [ex_map]
    show _ = Out.ok (IV.lst (((List.range 7).map lM ++ []).map IV.str)) S2
    rw [List.append_nil]
    exact this
  have n3 : iTest (iBin fNe (iCall 1 m__law_told (iCons (iLc false (iSrcR1 (iC (.int 7))) (giN 12) iYes (iBin fAdd (iC (.str "module ")) (iCall 1 m__law_name (iCons (iVar 12) iNil))) [12]) iNil)) (iC (.str "modules"))) ΛE S2 = .ok false S3 := ne_skip m3 t3 rfl (by rw [eqB_s]; simp)
  have o : iOr (iTest (iBin fNe (iCall 1 m__law_told (iCons (iVar 10) iNil)) (iBin fSub (iC (.int 6)) (iC (.int 1000))))) (iTest (iBin fNe (iCall 1 m__law_told (iCons (iBin fAdd (iVar 10) (iLst false (iCons (iC (.str "outside last")) iNil))) iNil)) (iC (.str "lines")))) ΛE S = .ok false S2 := by
    rw [iOr_e, n1, Out.bind_ok, if_neg Bool.false_ne_true]
    exact n2
  refine ⟨some E, S3, (x1.trans x2).trans x3, ?_⟩
  unfold exB
  exact (sq_ok (Λ1 := Λ6) (st_ok e6)).trans ((sq_ok (Λ1 := ΛE) (st_ok e150)).trans ((sq_ok (Λ1 := ΛE) (S1 := S2) ((if_ff o).trans rfl)).trans ((if_ff n3).trans rfl)))
end
end K10

set_option maxHeartbeats 2000000
/-! the law, joined -/
namespace K10
open PySem PySem.Spec PyProof.Rows L2 Sm RD
noncomputable def turnB : IS := (iSeq (iSet 2 (iCall 2 m__law_source (iCons (iVar 0) (iCons (iVar 1) iNil)))) (iSeq (iPar 3 4 (iCons (iBin fAdd (iC (.int 1)) (iCall 2 m__law_draw (iCons (iVar 2) (iCons (iC (.int 8)) iNil)))) (iCons (iBin fAdd (iC (.int 140)) (iCall 2 m__law_draw (iCons (iVar 2) (iCons (iC (.int 17)) iNil)))) iNil))) (iSeq (iSet 5 (iBin fEq (iCall 2 m__law_draw (iCons (iVar 2) (iCons (iC (.int 3)) iNil))) (iC (.int 0)))) (iSeq (iSet 6 (iCall 4 m__law_many (iCons (iVar 2) (iCons (iVar 3) (iCons (iVar 4) (iCons (iVar 5) iNil)))))) (iSeq (iSet 7 (iCa fLen (iCons (iLc false (iSrcL (iVar 6)) (giN 11) (iTest (iBin fEq (iSl false (iVar 11) iNoPart (iPart (iC (.int 7)))) (iC (.str "module ")))) (iVar 11) [11]) iNil))) (iSeq (iSet 8 (iBin fSub (iVar 7) (iC (.int 1000)))) (iSeq dueB (iSeq toldL (iSeq (iSet 9 (iCall 2 m__law_draw (iCons (iVar 2) (iCons (iBin fAdd (iCa fLen (iCons (iVar 6) iNil)) (iC (.int 1))) iNil)))) (iSeq toldO (iSeq toldM exB)))))))))))
section
variable {ns : List Int} {p : Nat} {a2 a3 a4 a5 a6 a7 a8 a9 a10 a11 a12 : Option IV} {S : Sto}
theorem turn_ok : ∃ n b3 b4 b5 b6 b7 b8 b9 b10 S', turnB [some (.wls (ns.map IV.int)), some (.int p), a2, a3, a4, a5, a6, a7, a8, a9, a10, a11, a12] S = .ok (.nx (wL ns p n b3 b4 b5 b6 b7 b8 b9 b10 a11 a12)) S' := by
  obtain ⟨S1, e1, d1, x1, _⟩ := source_ok (S := S) (ns := ns) (i := p)
  generalize hn : S.length = n at e1 d1
  have c1 : iCall 2 m__law_source (iCons (iVar 0) (iCons (iVar 1) iNil)) [some (.wls (ns.map IV.int)), some (.int p), a2, a3, a4, a5, a6, a7, a8, a9, a10, a11, a12] S = .ok (.adr n) S1 := by
    rw [iCall_e, iCons_e, iVar_s (x := .wls (ns.map IV.int)) rfl]
    simp only [Out.bind_ok, iCons_e, iNil_e]
    rw [iVar_s (x := .int p) rfl]
    simp only [Out.bind_ok]
    rw [chk_pos (by rfl), e1]
    rfl
  let Λ1 : Slots := wL ns p n a3 a4 a5 a6 a7 a8 a9 a10 a11 a12
  obtain ⟨u, S2, e2, u0, u1, d2, x2⟩ := draw_e (i := 2) (m := 8) (mm := iC (.int 8)) (Λ := Λ1) d1 (by omega) (by decide) (by decide) rfl rfl
  obtain ⟨v, S3, e3, v0, v1, d3, x3⟩ := draw_e (i := 2) (m := 17) (mm := iC (.int 17)) (Λ := Λ1) d2 (by omega) (by decide) (by decide) rfl rfl
  let mh : IV := .int (1 + u)
  let ct : IV := .int (140 + v)
  have c2 : iPar 3 4 (iCons (iBin fAdd (iC (.int 1)) (iCall 2 m__law_draw (iCons (iVar 2) (iCons (iC (.int 8)) iNil)))) (iCons (iBin fAdd (iC (.int 140)) (iCall 2 m__law_draw (iCons (iVar 2) (iCons (iC (.int 17)) iNil)))) iNil)) Λ1 S1 = .ok (.nx (wL ns p n (some mh) (some ct) a5 a6 a7 a8 a9 a10 a11 a12)) S3 := by
    unfold iPar
    rw [iCons_e, iBin_e, iC_e, Out.bind_ok, e2, Out.bind_ok, fAdd_i, Out.bind_ok, iCons_e, iBin_e, iC_e, Out.bind_ok, e3, Out.bind_ok, fAdd_i, Out.bind_ok, iNil_e]
    simp only [Out.bind_ok, a2_2]
    rfl
  obtain ⟨w, S4, e4, w0, w1, d4, x4⟩ := draw_e (i := 2) (m := 3) (mm := iC (.int 3)) (Λ := wL ns p n (some mh) (some ct) a5 a6 a7 a8 a9 a10 a11 a12) d3 (by omega) (by decide) (by decide) rfl rfl
  let hv : Bool := decide (w = 0)
  have c3 : iBin fEq (iCall 2 m__law_draw (iCons (iVar 2) (iCons (iC (.int 3)) iNil))) (iC (.int 0)) (wL ns p n (some mh) (some ct) a5 a6 a7 a8 a9 a10 a11 a12) S3 = .ok (.bl hv) S4 := by
    rw [iBin_e, e4, Out.bind_ok, iC_e, Out.bind_ok, fEq_e, eqB_i, orBad_some]
  obtain ⟨its, S5, l, e5, g5, hlen, hd, hk, d5, x5, l5⟩ := many_ok (mh := 1 + u) (ct := 140 + v) (hv := hv) d4 (by omega) (by omega) (by omega)
  have hlen' := hlen
  have nl : l ≠ n := by have := d4.lt; omega
  have c4 : iCall 4 m__law_many (iCons (iVar 2) (iCons (iVar 3) (iCons (iVar 4) (iCons (iVar 5) iNil)))) (wL ns p n (some mh) (some ct) (some (.bl hv)) a6 a7 a8 a9 a10 a11 a12) S4 = .ok (.adr l) S5 := by
    rw [iCall_e, iCons_e, iVar_s (x := .adr n) rfl, Out.bind_ok, iCons_e, iVar_s (x := mh) rfl, Out.bind_ok, iCons_e, iVar_s (x := ct) rfl, Out.bind_ok, iCons_e, iVar_s (x := .bl hv) rfl]
    simp only [Out.bind_ok, iNil_e]
    rw [chk_pos (by rfl), e5]
    rfl
  have g5 : S5[l]? = some (.lst ((allL hv its).map IV.str)) := g5
  have la := all_len (hv := hv) (its := its)
  have hl1 := (head_le hv).1
  have n156 : its.length ≤ 156 := by omega
  have n150 : its.length ≤ 155 := by omega
  let M : Nat := 1 + its.countP (·.1)
  have c5 := found_ok (Λ := wL ns p n (some mh) (some ct) (some (.bl hv)) (some (.adr l)) a7 a8 a9 a10 a11 a12) rfl rfl g5 hk (by omega)
  have c6 : iBin fSub (iVar 7) (iC (.int 1000)) (wL ns p n (some mh) (some ct) (some (.bl hv)) (some (.adr l)) (some (.int (M : Int))) a8 a9 a10 a11 a12) S5 = .ok (.int ((M : Int) - 1000)) S5 := by
    rw [iBin_e, iVar_s (x := .int (M : Int)) rfl, Out.bind_ok, iC_e, Out.bind_ok]
    unfold fSub
    rw [fI_i, chk_pos trivial]
  have c7 := due_ok (ns := ns) (p := p) (n := n) (a3 := some mh) (a4 := some ct) (a9 := a9) (a10 := a10) (a11 := a11) (a12 := a12) g5 (M := M)
  obtain ⟨S6, x6, c8⟩ := toldL_ok (ns := ns) (p := p) (n := n) (a3 := some mh) (a4 := some ct) (a9 := a9) (a10 := a10) (a11 := a11) (a12 := a12) g5 hk hd (by omega)
  have g6 := x6.get g5
  have d6 := d5.ext x6
  let D : IV := due (allL hv its).length M (wt hv)
  let Λ8 : Option IV → Slots := fun a9 => wL ns p n (some mh) (some ct) (some (.bl hv)) (some (.adr l)) (some (.int (M : Int))) (some D) a9 a10 a11 a12
  have m9 : iBin fAdd (iCa fLen (iCons (iVar 6) iNil)) (iC (.int 1)) (Λ8 a9) S6 = .ok (.int (((allL hv its).length : Int) + 1)) S6 := by
    rw [iBin_e, len_e (i := 6) rfl g6, Out.bind_ok, iC_e, Out.bind_ok, List.length_map]
    rfl
  obtain ⟨t, S7, e7, t0, t1, d7, x7⟩ := draw_e (i := 2) (m := ((allL hv its).length : Int) + 1) (mm := iBin fAdd (iCa fLen (iCons (iVar 6) iNil)) (iC (.int 1))) (Λ := Λ8 a9) d6 (by omega) (by omega) (by omega) rfl m9
  obtain ⟨a, rfl⟩ := Int.eq_ofNat_of_zero_le t0
  have g7 := x7.get g6 (by simp [nl])
  obtain ⟨S8, x8, c10⟩ := toldO_ok (ns := ns) (p := p) (n := n) (a3 := some mh) (a4 := some ct) (a10 := a10) (a11 := a11) (a12 := a12) g7 hk hd (by omega) (a := a) (by omega)
  have g8 := x8.get g7
  obtain ⟨S9, x9, c11⟩ := toldM_ok (ns := ns) (p := p) (n := n) (a3 := some mh) (a4 := some ct) (a10 := a10) (a11 := a11) (a12 := a12) g8 hk hd (by omega) (by omega)
  obtain ⟨b, S10, x10, c12⟩ := exB_ok (ns := ns) (p := p) (n := n) (S := S9) (a3 := some mh) (a4 := some ct) (a5 := some (.bl hv)) (a6 := some (.adr l)) (a7 := some (.int (M : Int))) (a8 := some D) (a9 := some (.int (a : Int))) (a10 := a10) (a11 := a11) (a12 := a12)
  refine ⟨n, some mh, some ct, some (.bl hv), some (.adr l), some (.int (M : Int)), some D, some (.int (a : Int)), b, S10, ?_⟩
  unfold turnB
  refine (sq_ok (Λ1 := Λ1) (st_ok c1)).trans ((sq_ok c2).trans ((sq_ok (Λ1 := wL ns p n (some mh) (some ct) (some (.bl hv)) a6 a7 a8 a9 a10 a11 a12) (st_ok c3)).trans ((sq_ok (Λ1 := wL ns p n (some mh) (some ct) (some (.bl hv)) (some (.adr l)) a7 a8 a9 a10 a11 a12) (st_ok c4)).trans ((sq_ok (Λ1 := wL ns p n (some mh) (some ct) (some (.bl hv)) (some (.adr l)) (some (.int (M : Int))) a8 a9 a10 a11 a12) (st_ok c5)).trans ?_))))
  refine (sq_ok (Λ1 := wL ns p n (some mh) (some ct) (some (.bl hv)) (some (.adr l)) (some (.int (M : Int))) (some (.int ((M : Int) - 1000))) a9 a10 a11 a12) (st_ok c6)).trans ((sq_ok c7).trans ((sq_ok (c8 _ _)).trans ((sq_ok (Λ1 := Λ8 (some (.int (a : Int)))) (st_ok e7)).trans ((sq_ok (c10 _ _ _)).trans ((sq_ok (c11 _ _ _ _)).trans c12)))))
end
theorem law_ok {ns : List Int} (h : ns.length ≤ 63) : ∃ S', m_law [.wls (ns.map IV.int)] [] = .ok (.bl true) S' := by
  have place : ∀ (i : Nat) (Λ : Slots) (S : Sto) (y : Nat), (List.range (Lw.turns 4 ns))[i]? = some y → (∃ a1 a2 a3 a4 a5 a6 a7 a8 a9 a10, Λ = [some (.wls (ns.map IV.int)), a1, a2, a3, a4, a5, a6, a7, a8, a9, a10, none, none]) →
      ∃ Λ1 S1 Λ2 S2, iName 1 (IV.int y) Λ S = .ok Λ1 S1 ∧ turnB Λ1 S1 = .ok (.nx Λ2) S2 ∧ (∃ a1 a2 a3 a4 a5 a6 a7 a8 a9 a10, Λ2 = [some (.wls (ns.map IV.int)), a1, a2, a3, a4, a5, a6, a7, a8, a9, a10, none, none]) := by
    rintro i Λ S y hy ⟨a1, a2, a3, a4, a5, a6, a7, a8, a9, a10, rfl⟩
    obtain ⟨n, b3, b4, b5, b6, b7, b8, b9, b10, S', e⟩ := turn_ok (ns := ns) (p := y) (a2 := a2) (a3 := a3) (a4 := a4) (a5 := a5) (a6 := a6) (a7 := a7) (a8 := a8) (a9 := a9) (a10 := a10) (a11 := none) (a12 := none) (S := S)
    exact ⟨_, S, _, S', rfl, e, _, _, _, _, _, _, _, _, _, _, rfl⟩
  have src := Lw.places_src (t := 4) (by decide) (ns := ns) (Λ := [some (.wls (ns.map IV.int)), none, none, none, none, none, none, none, none, none, none, none, none]) (S := []) rfl h
  obtain ⟨Λ', S', f1, _⟩ := for_inv (g := iName 1) (b := turnB) (List.range (Lw.turns 4 ns)) (fun i : Nat => IV.int i) (fun _ Λ _ => ∃ a1 a2 a3 a4 a5 a6 a7 a8 a9 a10, Λ = [some (.wls (ns.map IV.int)), a1, a2, a3, a4, a5, a6, a7, a8, a9, a10, none, none]) src ⟨_, _, _, _, _, _, _, _, _, _, rfl⟩ (fun _ _ _ _ => trivial) place
  refine ⟨S', mDef_rt ?_⟩
  show b_law [some (.wls (ns.map IV.int)), none, none, none, none, none, none, none, none, none, none, none, none] [] = _
  unfold b_law
  refine (sq_ok f1).trans (rt_ok ?_)
  rfl
end K10

namespace K10
open PySem PySem.Spec PyProof.Rows L2 Sm RD
set_option maxHeartbeats 40000000 in
theorem all_mk {l : PySem.W.OpenLaw} {w : World} {K : PySem.W.Frag} {h : Heap} {mg : Str → Option Value} {fa : Addr} (X : K.In h) (G : h.Ns mainGlobals mg) (hfa : mg "law" = some (.ref fa))
    {tk_LETTERS : Tok}
    {ga_KEYWORDS : Addr} {god_KEYWORDS : Option Addr} {gits_KEYWORDS : Array Value} {gn_KEYWORDS : Nat} {gsl_KEYWORDS : Array (Option Value)}
    {A_Reader : Addr}
    {A_BodyReader : Addr}
    {tk_MOST_BLOCKS : Tok}
    {tk_MOST_BODIES : Tok}
    {A_Project : Addr}
    {ct_Project_WEIGHT : Tok}
    {ct_Project_MODULES : Tok}
    {ct_Project_LINES : Tok}
    {A_PatchedError : Addr}
    {A_BadLine : Addr}
    {A_TooMany : Addr}
    {nm_BadLine qn_BadLine : Str} {N_BadLine : Addr} {bs_BadLine bm_BadLine : List Value} {sn_BadLine : List Str} {sb_BadLine : List Value} {ab_BadLine : Bool} {co_BadLine : Option Bool} {dd_BadLine : Option Addr} {k0_BadLine k1_BadLine k2_BadLine k3_BadLine k5_BadLine : Option Value}
    {f_BadLine___init__ : Addr} {od_BadLine___init__ an_BadLine___init__ : Option Addr} {sl_BadLine___init__ : Array (Option Value)} {oc_BadLine___init__ kV_BadLine___init__ dc_BadLine___init__ pm_BadLine___init__ cd_BadLine___init__ ct_BadLine___init__ : Value}
    {nm_TooMany qn_TooMany : Str} {N_TooMany : Addr} {bs_TooMany bm_TooMany : List Value} {sn_TooMany : List Str} {sb_TooMany : List Value} {ab_TooMany : Bool} {co_TooMany : Option Bool} {dd_TooMany : Option Addr} {k0_TooMany k1_TooMany k2_TooMany k3_TooMany k5_TooMany : Option Value}
    {f_TooMany___init__ : Addr} {od_TooMany___init__ an_TooMany___init__ : Option Addr} {sl_TooMany___init__ : Array (Option Value)} {oc_TooMany___init__ kV_TooMany___init__ dc_TooMany___init__ pm_TooMany___init__ cd_TooMany___init__ ct_TooMany___init__ : Value}
    {f_is_word : Addr} {od_is_word an_is_word : Option Addr} {sl_is_word : Array (Option Value)} {oc_is_word kV_is_word dc_is_word pm_is_word cd_is_word ct_is_word : Value}
    {f_name_fits : Addr} {od_name_fits an_name_fits : Option Addr} {sl_name_fits : Array (Option Value)} {oc_name_fits kV_name_fits dc_name_fits pm_name_fits cd_name_fits ct_name_fits : Value}
    {f_read_step : Addr} {od_read_step an_read_step : Option Addr} {sl_read_step : Array (Option Value)} {oc_read_step kV_read_step dc_read_step pm_read_step cd_read_step ct_read_step : Value}
    {f_read_path : Addr} {od_read_path an_read_path : Option Addr} {sl_read_path : Array (Option Value)} {oc_read_path kV_read_path dc_read_path pm_read_path cd_read_path ct_read_path : Value}
    {f_lines_of : Addr} {od_lines_of an_lines_of : Option Addr} {sl_lines_of : Array (Option Value)} {oc_lines_of kV_lines_of dc_lines_of pm_lines_of cd_lines_of ct_lines_of : Value}
    {f_words_of : Addr} {od_words_of an_words_of : Option Addr} {sl_words_of : Array (Option Value)} {oc_words_of kV_words_of dc_words_of pm_words_of cd_words_of ct_words_of : Value}
    {f_Reader___init__ : Addr} {od_Reader___init__ an_Reader___init__ : Option Addr} {sl_Reader___init__ : Array (Option Value)} {oc_Reader___init__ kV_Reader___init__ dc_Reader___init__ pm_Reader___init__ cd_Reader___init__ ct_Reader___init__ : Value}
    {f_Reader_need : Addr} {od_Reader_need an_Reader_need : Option Addr} {sl_Reader_need : Array (Option Value)} {oc_Reader_need kV_Reader_need dc_Reader_need pm_Reader_need cd_Reader_need ct_Reader_need : Value}
    {f_Reader_module : Addr} {od_Reader_module an_Reader_module : Option Addr} {sl_Reader_module : Array (Option Value)} {oc_Reader_module kV_Reader_module dc_Reader_module pm_Reader_module cd_Reader_module ct_Reader_module : Value}
    {f_Reader_is_above : Addr} {od_Reader_is_above an_Reader_is_above : Option Addr} {sl_Reader_is_above : Array (Option Value)} {oc_Reader_is_above kV_Reader_is_above dc_Reader_is_above pm_Reader_is_above cd_Reader_is_above ct_Reader_is_above : Value}
    {f_Reader_words : Addr} {od_Reader_words an_Reader_words : Option Addr} {sl_Reader_words : Array (Option Value)} {oc_Reader_words kV_Reader_words dc_Reader_words pm_Reader_words cd_Reader_words ct_Reader_words : Value}
    {f_Reader_path_above : Addr} {od_Reader_path_above an_Reader_path_above : Option Addr} {sl_Reader_path_above : Array (Option Value)} {oc_Reader_path_above kV_Reader_path_above dc_Reader_path_above pm_Reader_path_above cd_Reader_path_above ct_Reader_path_above : Value}
    {f_Reader_worth : Addr} {od_Reader_worth an_Reader_worth : Option Addr} {sl_Reader_worth : Array (Option Value)} {oc_Reader_worth kV_Reader_worth dc_Reader_worth pm_Reader_worth cd_Reader_worth ct_Reader_worth : Value}
    {f_Reader_declare : Addr} {od_Reader_declare an_Reader_declare : Option Addr} {sl_Reader_declare : Array (Option Value)} {oc_Reader_declare kV_Reader_declare dc_Reader_declare pm_Reader_declare cd_Reader_declare ct_Reader_declare : Value}
    {f_Reader_keep_row : Addr} {od_Reader_keep_row an_Reader_keep_row : Option Addr} {sl_Reader_keep_row : Array (Option Value)} {oc_Reader_keep_row kV_Reader_keep_row dc_Reader_keep_row pm_Reader_keep_row cd_Reader_keep_row ct_Reader_keep_row : Value}
    {f_Reader_read_import : Addr} {od_Reader_read_import an_Reader_read_import : Option Addr} {sl_Reader_read_import : Array (Option Value)} {oc_Reader_read_import kV_Reader_read_import dc_Reader_read_import pm_Reader_read_import cd_Reader_read_import ct_Reader_read_import : Value}
    {f_Reader_read_from : Addr} {od_Reader_read_from an_Reader_read_from : Option Addr} {sl_Reader_read_from : Array (Option Value)} {oc_Reader_read_from kV_Reader_read_from dc_Reader_read_from pm_Reader_read_from cd_Reader_read_from ct_Reader_read_from : Value}
    {f_Reader_read_name : Addr} {od_Reader_read_name an_Reader_read_name : Option Addr} {sl_Reader_read_name : Array (Option Value)} {oc_Reader_read_name kV_Reader_read_name dc_Reader_read_name pm_Reader_read_name cd_Reader_read_name ct_Reader_read_name : Value}
    {f_Reader_read_entries : Addr} {od_Reader_read_entries an_Reader_read_entries : Option Addr} {sl_Reader_read_entries : Array (Option Value)} {oc_Reader_read_entries kV_Reader_read_entries dc_Reader_read_entries pm_Reader_read_entries cd_Reader_read_entries ct_Reader_read_entries : Value}
    {f_Reader_read_table : Addr} {od_Reader_read_table an_Reader_read_table : Option Addr} {sl_Reader_read_table : Array (Option Value)} {oc_Reader_read_table kV_Reader_read_table dc_Reader_read_table pm_Reader_read_table cd_Reader_read_table ct_Reader_read_table : Value}
    {f_Reader_read_class : Addr} {od_Reader_read_class an_Reader_read_class : Option Addr} {sl_Reader_read_class : Array (Option Value)} {oc_Reader_read_class kV_Reader_read_class dc_Reader_read_class pm_Reader_read_class cd_Reader_read_class ct_Reader_read_class : Value}
    {f_BodyReader___init__ : Addr} {od_BodyReader___init__ an_BodyReader___init__ : Option Addr} {sl_BodyReader___init__ : Array (Option Value)} {oc_BodyReader___init__ kV_BodyReader___init__ dc_BodyReader___init__ pm_BodyReader___init__ cd_BodyReader___init__ ct_BodyReader___init__ : Value}
    {f_BodyReader_read_head : Addr} {od_BodyReader_read_head an_BodyReader_read_head : Option Addr} {sl_BodyReader_read_head : Array (Option Value)} {oc_BodyReader_read_head kV_BodyReader_read_head dc_BodyReader_read_head pm_BodyReader_read_head cd_BodyReader_read_head ct_BodyReader_read_head : Value}
    {f_BodyReader_read_act : Addr} {od_BodyReader_read_act an_BodyReader_read_act : Option Addr} {sl_BodyReader_read_act : Array (Option Value)} {oc_BodyReader_read_act kV_BodyReader_read_act dc_BodyReader_read_act pm_BodyReader_read_act cd_BodyReader_read_act ct_BodyReader_read_act : Value}
    {f_BodyReader_read_end : Addr} {od_BodyReader_read_end an_BodyReader_read_end : Option Addr} {sl_BodyReader_read_end : Array (Option Value)} {oc_BodyReader_read_end kV_BodyReader_read_end dc_BodyReader_read_end pm_BodyReader_read_end cd_BodyReader_read_end ct_BodyReader_read_end : Value}
    {f_BodyReader_read_row : Addr} {od_BodyReader_read_row an_BodyReader_read_row : Option Addr} {sl_BodyReader_read_row : Array (Option Value)} {oc_BodyReader_read_row kV_BodyReader_read_row dc_BodyReader_read_row pm_BodyReader_read_row cd_BodyReader_read_row ct_BodyReader_read_row : Value}
    {f_BodyReader_read : Addr} {od_BodyReader_read an_BodyReader_read : Option Addr} {sl_BodyReader_read : Array (Option Value)} {oc_BodyReader_read kV_BodyReader_read dc_BodyReader_read pm_BodyReader_read cd_BodyReader_read ct_BodyReader_read : Value}
    {f_Reader_read_def : Addr} {od_Reader_read_def an_Reader_read_def : Option Addr} {sl_Reader_read_def : Array (Option Value)} {oc_Reader_read_def kV_Reader_read_def dc_Reader_read_def pm_Reader_read_def cd_Reader_read_def ct_Reader_read_def : Value}
    {f_Reader_read_row : Addr} {od_Reader_read_row an_Reader_read_row : Option Addr} {sl_Reader_read_row : Array (Option Value)} {oc_Reader_read_row kV_Reader_read_row dc_Reader_read_row pm_Reader_read_row cd_Reader_read_row ct_Reader_read_row : Value}
    {f_Reader_read : Addr} {od_Reader_read an_Reader_read : Option Addr} {sl_Reader_read : Array (Option Value)} {oc_Reader_read kV_Reader_read dc_Reader_read pm_Reader_read cd_Reader_read ct_Reader_read : Value}
    {f_call_rows : Addr} {od_call_rows an_call_rows : Option Addr} {sl_call_rows : Array (Option Value)} {oc_call_rows kV_call_rows dc_call_rows pm_call_rows cd_call_rows ct_call_rows : Value}
    {f_greatest_weight : Addr} {od_greatest_weight an_greatest_weight : Option Addr} {sl_greatest_weight : Array (Option Value)} {oc_greatest_weight kV_greatest_weight dc_greatest_weight pm_greatest_weight cd_greatest_weight ct_greatest_weight : Value}
    {f_Project___init__ : Addr} {od_Project___init__ an_Project___init__ : Option Addr} {sl_Project___init__ : Array (Option Value)} {oc_Project___init__ kV_Project___init__ dc_Project___init__ pm_Project___init__ cd_Project___init__ ct_Project___init__ : Value}
    {f__law_source : Addr} {od__law_source an__law_source : Option Addr} {sl__law_source : Array (Option Value)} {oc__law_source kV__law_source dc__law_source pm__law_source cd__law_source ct__law_source : Value}
    {f__law_draw : Addr} {od__law_draw an__law_draw : Option Addr} {sl__law_draw : Array (Option Value)} {oc__law_draw kV__law_draw dc__law_draw pm__law_draw cd__law_draw ct__law_draw : Value}
    {f__law_name : Addr} {od__law_name an__law_name : Option Addr} {sl__law_name : Array (Option Value)} {oc__law_name kV__law_name dc__law_name pm__law_name cd__law_name ct__law_name : Value}
    {f__law_told : Addr} {od__law_told an__law_told : Option Addr} {sl__law_told : Array (Option Value)} {oc__law_told kV__law_told dc__law_told pm__law_told cd__law_told ct__law_told : Value}
    {f__law_many : Addr} {od__law_many an__law_many : Option Addr} {sl__law_many : Array (Option Value)} {oc__law_many kV__law_many dc__law_many pm__law_many cd__law_many ct__law_many : Value}
    {f_law : Addr} {od_law an_law : Option Addr} {sl_law : Array (Option Value)} {oc_law kV_law dc_law pm_law cd_law ct_law : Value}
    (gs_LETTERS : PySem.W.nsIn K mainGlobals "LETTERS" = some (some (.str c_LETTERS tk_LETTERS)))
    (z_str : PySem.W.nsIn K mainGlobals "str" = some none)
    (z_isinstance : PySem.W.nsIn K mainGlobals "isinstance" = some none)
    (z_len : PySem.W.nsIn K mainGlobals "len" = some none)
    (gt_KEYWORDS : PySem.W.nsIn K mainGlobals "KEYWORDS" = some (some (.ref ga_KEYWORDS)))
    (gl_KEYWORDS : K.lookup ga_KEYWORDS = some ⟨.type "tuple", god_KEYWORDS, .seq gits_KEYWORDS gn_KEYWORDS, gsl_KEYWORDS⟩)
    (gz_KEYWORDS : gits_KEYWORDS.size ≤ sizeLine)
    (gv_KEYWORDS : L2.Vals (c_KEYWORDS.map L2.V.str) gits_KEYWORDS.toList)
    (z_tuple : PySem.W.nsIn K mainGlobals "tuple" = some none)
    (m_Reader : PySem.W.nsIn K mainGlobals "Reader" = some (some (.ref A_Reader)))
    (pg_Reader : PySem.W.plainGet K A_Reader Str.empty = true)
    (hd_Reader : PySem.W.hasDictIn K A_Reader = true)
    (po_Reader : PySem.W.plainOver K A_Reader = true)
    (sa_Reader : PySem.W.findIn K (.ref A_Reader) "__setattr__" = some (some (.builtin "object.__setattr__")))
    (na_Reader_kept : PySem.W.findIn K (.ref A_Reader) "kept" = some none)
    (na_Reader_defs : PySem.W.findIn K (.ref A_Reader) "defs" = some none)
    (na_Reader_places : PySem.W.findIn K (.ref A_Reader) "places" = some none)
    (na_Reader_declared : PySem.W.findIn K (.ref A_Reader) "declared" = some none)
    (na_Reader_rows : PySem.W.findIn K (.ref A_Reader) "rows" = some none)
    (na_Reader_modules : PySem.W.findIn K (.ref A_Reader) "modules" = some none)
    (na_Reader_at : PySem.W.findIn K (.ref A_Reader) "at" = some none)
    (na_Reader_lines : PySem.W.findIn K (.ref A_Reader) "lines" = some none)
    (z_list : PySem.W.nsIn K mainGlobals "list" = some none)
    (m_BodyReader : PySem.W.nsIn K mainGlobals "BodyReader" = some (some (.ref A_BodyReader)))
    (pg_BodyReader : PySem.W.plainGet K A_BodyReader Str.empty = true)
    (hd_BodyReader : PySem.W.hasDictIn K A_BodyReader = true)
    (po_BodyReader : PySem.W.plainOver K A_BodyReader = true)
    (sa_BodyReader : PySem.W.findIn K (.ref A_BodyReader) "__setattr__" = some (some (.builtin "object.__setattr__")))
    (na_BodyReader_blocks : PySem.W.findIn K (.ref A_BodyReader) "blocks" = some none)
    (na_BodyReader_body : PySem.W.findIn K (.ref A_BodyReader) "body" = some none)
    (na_BodyReader_line : PySem.W.findIn K (.ref A_BodyReader) "line" = some none)
    (na_BodyReader_hidden : PySem.W.findIn K (.ref A_BodyReader) "hidden" = some none)
    (na_BodyReader_reader : PySem.W.findIn K (.ref A_BodyReader) "reader" = some none)
    (gi_MOST_BLOCKS : PySem.W.nsIn K mainGlobals "MOST_BLOCKS" = some (some (.int 4 tk_MOST_BLOCKS)))
    (gi_MOST_BODIES : PySem.W.nsIn K mainGlobals "MOST_BODIES" = some (some (.int 5 tk_MOST_BODIES)))
    (z_max : PySem.W.nsIn K mainGlobals "max" = some none)
    (m_Project : PySem.W.nsIn K mainGlobals "Project" = some (some (.ref A_Project)))
    (pg_Project : PySem.W.plainGet K A_Project Str.empty = true)
    (hd_Project : PySem.W.hasDictIn K A_Project = true)
    (po_Project : PySem.W.plainOver K A_Project = true)
    (sa_Project : PySem.W.findIn K (.ref A_Project) "__setattr__" = some (some (.builtin "object.__setattr__")))
    (na_Project_kept : PySem.W.findIn K (.ref A_Project) "kept" = some none)
    (na_Project_lines : PySem.W.findIn K (.ref A_Project) "lines" = some none)
    (na_Project_defs : PySem.W.findIn K (.ref A_Project) "defs" = some none)
    (na_Project_declared : PySem.W.findIn K (.ref A_Project) "declared" = some none)
    (na_Project_rows : PySem.W.findIn K (.ref A_Project) "rows" = some none)
    (na_Project_modules : PySem.W.findIn K (.ref A_Project) "modules" = some none)
    (na_Project_text : PySem.W.findIn K (.ref A_Project) "text" = some none)
    (na_Project_weight : PySem.W.findIn K (.ref A_Project) "weight" = some none)
    (ty_Project : PySem.W.typeIn K (.ref A_Project) = some (.type "type"))
    (rd_Project : PySem.W.readsIn K A_Project (.type "type") = true)
    (fv_Project_WEIGHT : PySem.W.findCls K (.ref A_Project) (.type "type") "WEIGHT" = some (.val (.int 100 ct_Project_WEIGHT)))
    (fv_Project_MODULES : PySem.W.findCls K (.ref A_Project) (.type "type") "MODULES" = some (.val (.int 6 ct_Project_MODULES)))
    (fv_Project_LINES : PySem.W.findCls K (.ref A_Project) (.type "type") "LINES" = some (.val (.int 150 ct_Project_LINES)))
    (z_int : PySem.W.nsIn K mainGlobals "int" = some none)
    (z_abs : PySem.W.nsIn K mainGlobals "abs" = some none)
    (m_PatchedError : PySem.W.nsIn K mainGlobals "PatchedError" = some (some (.ref A_PatchedError)))
    (m_BadLine : PySem.W.nsIn K mainGlobals "BadLine" = some (some (.ref A_BadLine)))
    (ex_PatchedError : PySem.W.subIn K (.ref A_PatchedError) (.type "BaseException") = some true)
    (hd_PatchedError : PySem.W.hasDictIn K A_PatchedError = true)
    (ty_PatchedError : PySem.W.typeIn K (.ref A_PatchedError) = some (.type "type"))
    (su_BadLine_PatchedError : PySem.W.subIn K (.ref A_BadLine) (.ref A_PatchedError) = some true)
    (m_TooMany : PySem.W.nsIn K mainGlobals "TooMany" = some (some (.ref A_TooMany)))
    (su_TooMany_PatchedError : PySem.W.subIn K (.ref A_TooMany) (.ref A_PatchedError) = some true)
    (xg_BadLine : PySem.W.findIn K (.ref A_BadLine) "__getattribute__" = some (some (.builtin "BaseException.__getattribute__")))
    (xk_BadLine : PySem.W.findIn K (.ref A_BadLine) "__getattr__" = some none)
    (ex_BadLine : PySem.W.subIn K (.ref A_BadLine) (.type "BaseException") = some true)
    (hd_BadLine : PySem.W.hasDictIn K A_BadLine = true)
    (xa_BadLine : PySem.W.findIn K (.ref A_BadLine) "__class__" = some (some (.builtin "object.__class__")))
    (xn : PySem.W.specialIn K (.builtin "object.__class__") "__get__" = some (some (.builtin "getset_descriptor.__get__")))
    (xt : PySem.W.takesIn K (.builtin "object.__class__") = some true)
    (xm_BadLine : PySem.W.mroIn K A_BadLine (.type "object") = some true)
    (hd_TooMany : PySem.W.hasDictIn K A_TooMany = true)
    (ty_TooMany : PySem.W.typeIn K (.ref A_TooMany) = some (.type "type"))
    (su_BadLine_TooMany : PySem.W.subIn K (.ref A_BadLine) (.ref A_TooMany) = some false)
    (ne_BadLine_TooMany : (Value.ref A_BadLine == Value.ref A_TooMany) = false)
    (xg_TooMany : PySem.W.findIn K (.ref A_TooMany) "__getattribute__" = some (some (.builtin "BaseException.__getattribute__")))
    (xk_TooMany : PySem.W.findIn K (.ref A_TooMany) "__getattr__" = some none)
    (ex_TooMany : PySem.W.subIn K (.ref A_TooMany) (.type "BaseException") = some true)
    (xa_TooMany : PySem.W.findIn K (.ref A_TooMany) "__class__" = some (some (.builtin "object.__class__")))
    (xm_TooMany : PySem.W.mroIn K A_TooMany (.type "object") = some true)
    (su_TooMany_TooMany : PySem.W.subIn K (.ref A_TooMany) (.ref A_TooMany) = some true)
    (na_BadLine_what : PySem.W.findIn K (.ref A_BadLine) "what" = some none)
    (na_TooMany_what : PySem.W.findIn K (.ref A_TooMany) "what" = some none)
    (ty_BadLine : PySem.W.typeIn K (.ref A_BadLine) = some (.type "type"))
    (su_BadLine_BadLine : PySem.W.subIn K (.ref A_BadLine) (.ref A_BadLine) = some true)
    (su_TooMany_BadLine : PySem.W.subIn K (.ref A_TooMany) (.ref A_BadLine) = some false)
    (ne_TooMany_BadLine : (Value.ref A_TooMany == Value.ref A_BadLine) = false)
    (z_bool : PySem.W.nsIn K mainGlobals "bool" = some none)
    (na_BadLine_at : PySem.W.findIn K (.ref A_BadLine) "at" = some none)
    (na_TooMany_at : PySem.W.findIn K (.ref A_TooMany) "at" = some none)
    (z_range : PySem.W.nsIn K mainGlobals "range" = some none)
    (z_min : PySem.W.nsIn K mainGlobals "min" = some none)
    (kc_BadLine : PySem.W.keepIn K (.ref A_BadLine) = true)
    (sa_BadLine : PySem.W.findIn K (.ref A_BadLine) "__setattr__" = some (some (.builtin "object.__setattr__")))
    (lk_BadLine : K.lookup A_BadLine = some (excClassObj nm_BadLine qn_BadLine A_BadLine N_BadLine bs_BadLine bm_BadLine true sn_BadLine sb_BadLine ab_BadLine co_BadLine dd_BadLine k0_BadLine k1_BadLine k2_BadLine k3_BadLine k5_BadLine "ValueError.__new__"))
    (rv_BadLine : PySem.HandSPX.refsVE bm_BadLine = true)
    (ic_BadLine : PySem.W.findIn K (.ref A_BadLine) "__init__" = some (some (.ref f_BadLine___init__)))
    (tI_BadLine : PySem.W.typeIn K (.ref f_BadLine___init__) = some (.type "function"))
    (l_BadLine___init__ : K.lookup f_BadLine___init__ = some ⟨oc_BadLine___init__, od_BadLine___init__, .func (PySem.W.fnOf "__init__" "BadLine.__init__" (defArgs s_BadLine___init__) (defBody s_BadLine___init__) (defScope s_BadLine___init__) .none kV_BadLine___init__ dc_BadLine___init__ pm_BadLine___init__ an_BadLine___init__ cd_BadLine___init__ ct_BadLine___init__), sl_BadLine___init__⟩)
    (c_BadLine___init__ : PySem.W.codeIn K cd_BadLine___init__ "BadLine.__init__" = true)
    (k_BadLine___init__ : PySem.W.keepIn K (.ref f_BadLine___init__) = true)
    (rd_PatchedError : PySem.W.readsIn K A_PatchedError (.type "type") = true)
    (ga_PatchedError : PySem.W.specialIn K (.ref A_PatchedError) "__getattribute__" = some (some (.builtin "type.__getattribute__")))
    (bi_PatchedError : PySem.W.findCls K (.ref A_PatchedError) (.type "type") "__init__" = some (.val (.builtin "ValueError.__init__")))
    (kc_TooMany : PySem.W.keepIn K (.ref A_TooMany) = true)
    (sa_TooMany : PySem.W.findIn K (.ref A_TooMany) "__setattr__" = some (some (.builtin "object.__setattr__")))
    (lk_TooMany : K.lookup A_TooMany = some (excClassObj nm_TooMany qn_TooMany A_TooMany N_TooMany bs_TooMany bm_TooMany true sn_TooMany sb_TooMany ab_TooMany co_TooMany dd_TooMany k0_TooMany k1_TooMany k2_TooMany k3_TooMany k5_TooMany "ValueError.__new__"))
    (rv_TooMany : PySem.HandSPX.refsVE bm_TooMany = true)
    (ic_TooMany : PySem.W.findIn K (.ref A_TooMany) "__init__" = some (some (.ref f_TooMany___init__)))
    (tI_TooMany : PySem.W.typeIn K (.ref f_TooMany___init__) = some (.type "function"))
    (l_TooMany___init__ : K.lookup f_TooMany___init__ = some ⟨oc_TooMany___init__, od_TooMany___init__, .func (PySem.W.fnOf "__init__" "TooMany.__init__" (defArgs s_TooMany___init__) (defBody s_TooMany___init__) (defScope s_TooMany___init__) .none kV_TooMany___init__ dc_TooMany___init__ pm_TooMany___init__ an_TooMany___init__ cd_TooMany___init__ ct_TooMany___init__), sl_TooMany___init__⟩)
    (c_TooMany___init__ : PySem.W.codeIn K cd_TooMany___init__ "TooMany.__init__" = true)
    (k_TooMany___init__ : PySem.W.keepIn K (.ref f_TooMany___init__) = true)
    (a_is_word : PySem.W.nsIn K mainGlobals "is_word" = some (some (.ref f_is_word)))
    (l_is_word : K.lookup f_is_word = some ⟨oc_is_word, od_is_word, .func (PySem.W.fnOf "is_word" "is_word" (defArgs s_is_word) (defBody s_is_word) (defScope s_is_word) .none kV_is_word dc_is_word pm_is_word an_is_word cd_is_word ct_is_word), sl_is_word⟩)
    (c_is_word : PySem.W.codeIn K cd_is_word "is_word" = true)
    (k_is_word : PySem.W.keepIn K (.ref f_is_word) = true)
    (a_name_fits : PySem.W.nsIn K mainGlobals "name_fits" = some (some (.ref f_name_fits)))
    (l_name_fits : K.lookup f_name_fits = some ⟨oc_name_fits, od_name_fits, .func (PySem.W.fnOf "name_fits" "name_fits" (defArgs s_name_fits) (defBody s_name_fits) (defScope s_name_fits) .none kV_name_fits dc_name_fits pm_name_fits an_name_fits cd_name_fits ct_name_fits), sl_name_fits⟩)
    (c_name_fits : PySem.W.codeIn K cd_name_fits "name_fits" = true)
    (k_name_fits : PySem.W.keepIn K (.ref f_name_fits) = true)
    (a_read_step : PySem.W.nsIn K mainGlobals "read_step" = some (some (.ref f_read_step)))
    (l_read_step : K.lookup f_read_step = some ⟨oc_read_step, od_read_step, .func (PySem.W.fnOf "read_step" "read_step" (defArgs s_read_step) (defBody s_read_step) (defScope s_read_step) .none kV_read_step dc_read_step pm_read_step an_read_step cd_read_step ct_read_step), sl_read_step⟩)
    (c_read_step : PySem.W.codeIn K cd_read_step "read_step" = true)
    (k_read_step : PySem.W.keepIn K (.ref f_read_step) = true)
    (a_read_path : PySem.W.nsIn K mainGlobals "read_path" = some (some (.ref f_read_path)))
    (l_read_path : K.lookup f_read_path = some ⟨oc_read_path, od_read_path, .func (PySem.W.fnOf "read_path" "read_path" (defArgs s_read_path) (defBody s_read_path) (defScope s_read_path) .none kV_read_path dc_read_path pm_read_path an_read_path cd_read_path ct_read_path), sl_read_path⟩)
    (c_read_path : PySem.W.codeIn K cd_read_path "read_path" = true)
    (k_read_path : PySem.W.keepIn K (.ref f_read_path) = true)
    (a_lines_of : PySem.W.nsIn K mainGlobals "lines_of" = some (some (.ref f_lines_of)))
    (l_lines_of : K.lookup f_lines_of = some ⟨oc_lines_of, od_lines_of, .func (PySem.W.fnOf "lines_of" "lines_of" (defArgs s_lines_of) (defBody s_lines_of) (defScope s_lines_of) .none kV_lines_of dc_lines_of pm_lines_of an_lines_of cd_lines_of ct_lines_of), sl_lines_of⟩)
    (c_lines_of : PySem.W.codeIn K cd_lines_of "lines_of" = true)
    (k_lines_of : PySem.W.keepIn K (.ref f_lines_of) = true)
    (a_words_of : PySem.W.nsIn K mainGlobals "words_of" = some (some (.ref f_words_of)))
    (l_words_of : K.lookup f_words_of = some ⟨oc_words_of, od_words_of, .func (PySem.W.fnOf "words_of" "words_of" (defArgs s_words_of) (defBody s_words_of) (defScope s_words_of) .none kV_words_of dc_words_of pm_words_of an_words_of cd_words_of ct_words_of), sl_words_of⟩)
    (c_words_of : PySem.W.codeIn K cd_words_of "words_of" = true)
    (k_words_of : PySem.W.keepIn K (.ref f_words_of) = true)
    (kc_Reader : PySem.W.keepIn K (.ref A_Reader) = true)
    (mk_Reader : PySem.W.makesIn K A_Reader = true)
    (at_Reader___init__ : PySem.W.findIn K (.ref A_Reader) "__init__" = some (some (.ref f_Reader___init__)))
    (fn_Reader___init__ : PySem.W.isFn K (.ref f_Reader___init__) = true)
    (l_Reader___init__ : K.lookup f_Reader___init__ = some ⟨oc_Reader___init__, od_Reader___init__, .func (PySem.W.fnOf "__init__" "Reader.__init__" (defArgs s_Reader___init__) (defBody s_Reader___init__) (defScope s_Reader___init__) .none kV_Reader___init__ dc_Reader___init__ pm_Reader___init__ an_Reader___init__ cd_Reader___init__ ct_Reader___init__), sl_Reader___init__⟩)
    (c_Reader___init__ : PySem.W.codeIn K cd_Reader___init__ "Reader.__init__" = true)
    (k_Reader___init__ : PySem.W.keepIn K (.ref f_Reader___init__) = true)
    (at_Reader_need : PySem.W.findIn K (.ref A_Reader) "need" = some (some (.ref f_Reader_need)))
    (fn_Reader_need : PySem.W.isFn K (.ref f_Reader_need) = true)
    (l_Reader_need : K.lookup f_Reader_need = some ⟨oc_Reader_need, od_Reader_need, .func (PySem.W.fnOf "need" "Reader.need" (defArgs s_Reader_need) (defBody s_Reader_need) (defScope s_Reader_need) .none kV_Reader_need dc_Reader_need pm_Reader_need an_Reader_need cd_Reader_need ct_Reader_need), sl_Reader_need⟩)
    (c_Reader_need : PySem.W.codeIn K cd_Reader_need "Reader.need" = true)
    (k_Reader_need : PySem.W.keepIn K (.ref f_Reader_need) = true)
    (at_Reader_module : PySem.W.findIn K (.ref A_Reader) "module" = some (some (.ref f_Reader_module)))
    (fn_Reader_module : PySem.W.isFn K (.ref f_Reader_module) = true)
    (l_Reader_module : K.lookup f_Reader_module = some ⟨oc_Reader_module, od_Reader_module, .func (PySem.W.fnOf "module" "Reader.module" (defArgs s_Reader_module) (defBody s_Reader_module) (defScope s_Reader_module) .none kV_Reader_module dc_Reader_module pm_Reader_module an_Reader_module cd_Reader_module ct_Reader_module), sl_Reader_module⟩)
    (c_Reader_module : PySem.W.codeIn K cd_Reader_module "Reader.module" = true)
    (k_Reader_module : PySem.W.keepIn K (.ref f_Reader_module) = true)
    (at_Reader_is_above : PySem.W.findIn K (.ref A_Reader) "is_above" = some (some (.ref f_Reader_is_above)))
    (fn_Reader_is_above : PySem.W.isFn K (.ref f_Reader_is_above) = true)
    (l_Reader_is_above : K.lookup f_Reader_is_above = some ⟨oc_Reader_is_above, od_Reader_is_above, .func (PySem.W.fnOf "is_above" "Reader.is_above" (defArgs s_Reader_is_above) (defBody s_Reader_is_above) (defScope s_Reader_is_above) .none kV_Reader_is_above dc_Reader_is_above pm_Reader_is_above an_Reader_is_above cd_Reader_is_above ct_Reader_is_above), sl_Reader_is_above⟩)
    (c_Reader_is_above : PySem.W.codeIn K cd_Reader_is_above "Reader.is_above" = true)
    (k_Reader_is_above : PySem.W.keepIn K (.ref f_Reader_is_above) = true)
    (at_Reader_words : PySem.W.findIn K (.ref A_Reader) "words" = some (some (.ref f_Reader_words)))
    (fn_Reader_words : PySem.W.isFn K (.ref f_Reader_words) = true)
    (l_Reader_words : K.lookup f_Reader_words = some ⟨oc_Reader_words, od_Reader_words, .func (PySem.W.fnOf "words" "Reader.words" (defArgs s_Reader_words) (defBody s_Reader_words) (defScope s_Reader_words) .none kV_Reader_words dc_Reader_words pm_Reader_words an_Reader_words cd_Reader_words ct_Reader_words), sl_Reader_words⟩)
    (c_Reader_words : PySem.W.codeIn K cd_Reader_words "Reader.words" = true)
    (k_Reader_words : PySem.W.keepIn K (.ref f_Reader_words) = true)
    (at_Reader_path_above : PySem.W.findIn K (.ref A_Reader) "path_above" = some (some (.ref f_Reader_path_above)))
    (fn_Reader_path_above : PySem.W.isFn K (.ref f_Reader_path_above) = true)
    (l_Reader_path_above : K.lookup f_Reader_path_above = some ⟨oc_Reader_path_above, od_Reader_path_above, .func (PySem.W.fnOf "path_above" "Reader.path_above" (defArgs s_Reader_path_above) (defBody s_Reader_path_above) (defScope s_Reader_path_above) .none kV_Reader_path_above dc_Reader_path_above pm_Reader_path_above an_Reader_path_above cd_Reader_path_above ct_Reader_path_above), sl_Reader_path_above⟩)
    (c_Reader_path_above : PySem.W.codeIn K cd_Reader_path_above "Reader.path_above" = true)
    (k_Reader_path_above : PySem.W.keepIn K (.ref f_Reader_path_above) = true)
    (at_Reader_worth : PySem.W.findIn K (.ref A_Reader) "worth" = some (some (.ref f_Reader_worth)))
    (fn_Reader_worth : PySem.W.isFn K (.ref f_Reader_worth) = true)
    (l_Reader_worth : K.lookup f_Reader_worth = some ⟨oc_Reader_worth, od_Reader_worth, .func (PySem.W.fnOf "worth" "Reader.worth" (defArgs s_Reader_worth) (defBody s_Reader_worth) (defScope s_Reader_worth) .none kV_Reader_worth dc_Reader_worth pm_Reader_worth an_Reader_worth cd_Reader_worth ct_Reader_worth), sl_Reader_worth⟩)
    (c_Reader_worth : PySem.W.codeIn K cd_Reader_worth "Reader.worth" = true)
    (k_Reader_worth : PySem.W.keepIn K (.ref f_Reader_worth) = true)
    (at_Reader_declare : PySem.W.findIn K (.ref A_Reader) "declare" = some (some (.ref f_Reader_declare)))
    (fn_Reader_declare : PySem.W.isFn K (.ref f_Reader_declare) = true)
    (l_Reader_declare : K.lookup f_Reader_declare = some ⟨oc_Reader_declare, od_Reader_declare, .func (PySem.W.fnOf "declare" "Reader.declare" (defArgs s_Reader_declare) (defBody s_Reader_declare) (defScope s_Reader_declare) .none kV_Reader_declare dc_Reader_declare pm_Reader_declare an_Reader_declare cd_Reader_declare ct_Reader_declare), sl_Reader_declare⟩)
    (c_Reader_declare : PySem.W.codeIn K cd_Reader_declare "Reader.declare" = true)
    (k_Reader_declare : PySem.W.keepIn K (.ref f_Reader_declare) = true)
    (at_Reader_keep_row : PySem.W.findIn K (.ref A_Reader) "keep_row" = some (some (.ref f_Reader_keep_row)))
    (fn_Reader_keep_row : PySem.W.isFn K (.ref f_Reader_keep_row) = true)
    (l_Reader_keep_row : K.lookup f_Reader_keep_row = some ⟨oc_Reader_keep_row, od_Reader_keep_row, .func (PySem.W.fnOf "keep_row" "Reader.keep_row" (defArgs s_Reader_keep_row) (defBody s_Reader_keep_row) (defScope s_Reader_keep_row) .none kV_Reader_keep_row dc_Reader_keep_row pm_Reader_keep_row an_Reader_keep_row cd_Reader_keep_row ct_Reader_keep_row), sl_Reader_keep_row⟩)
    (c_Reader_keep_row : PySem.W.codeIn K cd_Reader_keep_row "Reader.keep_row" = true)
    (k_Reader_keep_row : PySem.W.keepIn K (.ref f_Reader_keep_row) = true)
    (at_Reader_read_import : PySem.W.findIn K (.ref A_Reader) "read_import" = some (some (.ref f_Reader_read_import)))
    (fn_Reader_read_import : PySem.W.isFn K (.ref f_Reader_read_import) = true)
    (l_Reader_read_import : K.lookup f_Reader_read_import = some ⟨oc_Reader_read_import, od_Reader_read_import, .func (PySem.W.fnOf "read_import" "Reader.read_import" (defArgs s_Reader_read_import) (defBody s_Reader_read_import) (defScope s_Reader_read_import) .none kV_Reader_read_import dc_Reader_read_import pm_Reader_read_import an_Reader_read_import cd_Reader_read_import ct_Reader_read_import), sl_Reader_read_import⟩)
    (c_Reader_read_import : PySem.W.codeIn K cd_Reader_read_import "Reader.read_import" = true)
    (k_Reader_read_import : PySem.W.keepIn K (.ref f_Reader_read_import) = true)
    (at_Reader_read_from : PySem.W.findIn K (.ref A_Reader) "read_from" = some (some (.ref f_Reader_read_from)))
    (fn_Reader_read_from : PySem.W.isFn K (.ref f_Reader_read_from) = true)
    (l_Reader_read_from : K.lookup f_Reader_read_from = some ⟨oc_Reader_read_from, od_Reader_read_from, .func (PySem.W.fnOf "read_from" "Reader.read_from" (defArgs s_Reader_read_from) (defBody s_Reader_read_from) (defScope s_Reader_read_from) .none kV_Reader_read_from dc_Reader_read_from pm_Reader_read_from an_Reader_read_from cd_Reader_read_from ct_Reader_read_from), sl_Reader_read_from⟩)
    (c_Reader_read_from : PySem.W.codeIn K cd_Reader_read_from "Reader.read_from" = true)
    (k_Reader_read_from : PySem.W.keepIn K (.ref f_Reader_read_from) = true)
    (at_Reader_read_name : PySem.W.findIn K (.ref A_Reader) "read_name" = some (some (.ref f_Reader_read_name)))
    (fn_Reader_read_name : PySem.W.isFn K (.ref f_Reader_read_name) = true)
    (l_Reader_read_name : K.lookup f_Reader_read_name = some ⟨oc_Reader_read_name, od_Reader_read_name, .func (PySem.W.fnOf "read_name" "Reader.read_name" (defArgs s_Reader_read_name) (defBody s_Reader_read_name) (defScope s_Reader_read_name) .none kV_Reader_read_name dc_Reader_read_name pm_Reader_read_name an_Reader_read_name cd_Reader_read_name ct_Reader_read_name), sl_Reader_read_name⟩)
    (c_Reader_read_name : PySem.W.codeIn K cd_Reader_read_name "Reader.read_name" = true)
    (k_Reader_read_name : PySem.W.keepIn K (.ref f_Reader_read_name) = true)
    (at_Reader_read_entries : PySem.W.findIn K (.ref A_Reader) "read_entries" = some (some (.ref f_Reader_read_entries)))
    (fn_Reader_read_entries : PySem.W.isFn K (.ref f_Reader_read_entries) = true)
    (l_Reader_read_entries : K.lookup f_Reader_read_entries = some ⟨oc_Reader_read_entries, od_Reader_read_entries, .func (PySem.W.fnOf "read_entries" "Reader.read_entries" (defArgs s_Reader_read_entries) (defBody s_Reader_read_entries) (defScope s_Reader_read_entries) .none kV_Reader_read_entries dc_Reader_read_entries pm_Reader_read_entries an_Reader_read_entries cd_Reader_read_entries ct_Reader_read_entries), sl_Reader_read_entries⟩)
    (c_Reader_read_entries : PySem.W.codeIn K cd_Reader_read_entries "Reader.read_entries" = true)
    (k_Reader_read_entries : PySem.W.keepIn K (.ref f_Reader_read_entries) = true)
    (at_Reader_read_table : PySem.W.findIn K (.ref A_Reader) "read_table" = some (some (.ref f_Reader_read_table)))
    (fn_Reader_read_table : PySem.W.isFn K (.ref f_Reader_read_table) = true)
    (l_Reader_read_table : K.lookup f_Reader_read_table = some ⟨oc_Reader_read_table, od_Reader_read_table, .func (PySem.W.fnOf "read_table" "Reader.read_table" (defArgs s_Reader_read_table) (defBody s_Reader_read_table) (defScope s_Reader_read_table) .none kV_Reader_read_table dc_Reader_read_table pm_Reader_read_table an_Reader_read_table cd_Reader_read_table ct_Reader_read_table), sl_Reader_read_table⟩)
    (c_Reader_read_table : PySem.W.codeIn K cd_Reader_read_table "Reader.read_table" = true)
    (k_Reader_read_table : PySem.W.keepIn K (.ref f_Reader_read_table) = true)
    (at_Reader_read_class : PySem.W.findIn K (.ref A_Reader) "read_class" = some (some (.ref f_Reader_read_class)))
    (fn_Reader_read_class : PySem.W.isFn K (.ref f_Reader_read_class) = true)
    (l_Reader_read_class : K.lookup f_Reader_read_class = some ⟨oc_Reader_read_class, od_Reader_read_class, .func (PySem.W.fnOf "read_class" "Reader.read_class" (defArgs s_Reader_read_class) (defBody s_Reader_read_class) (defScope s_Reader_read_class) .none kV_Reader_read_class dc_Reader_read_class pm_Reader_read_class an_Reader_read_class cd_Reader_read_class ct_Reader_read_class), sl_Reader_read_class⟩)
    (c_Reader_read_class : PySem.W.codeIn K cd_Reader_read_class "Reader.read_class" = true)
    (k_Reader_read_class : PySem.W.keepIn K (.ref f_Reader_read_class) = true)
    (kc_BodyReader : PySem.W.keepIn K (.ref A_BodyReader) = true)
    (mk_BodyReader : PySem.W.makesIn K A_BodyReader = true)
    (at_BodyReader___init__ : PySem.W.findIn K (.ref A_BodyReader) "__init__" = some (some (.ref f_BodyReader___init__)))
    (fn_BodyReader___init__ : PySem.W.isFn K (.ref f_BodyReader___init__) = true)
    (l_BodyReader___init__ : K.lookup f_BodyReader___init__ = some ⟨oc_BodyReader___init__, od_BodyReader___init__, .func (PySem.W.fnOf "__init__" "BodyReader.__init__" (defArgs s_BodyReader___init__) (defBody s_BodyReader___init__) (defScope s_BodyReader___init__) .none kV_BodyReader___init__ dc_BodyReader___init__ pm_BodyReader___init__ an_BodyReader___init__ cd_BodyReader___init__ ct_BodyReader___init__), sl_BodyReader___init__⟩)
    (c_BodyReader___init__ : PySem.W.codeIn K cd_BodyReader___init__ "BodyReader.__init__" = true)
    (k_BodyReader___init__ : PySem.W.keepIn K (.ref f_BodyReader___init__) = true)
    (at_BodyReader_read_head : PySem.W.findIn K (.ref A_BodyReader) "read_head" = some (some (.ref f_BodyReader_read_head)))
    (fn_BodyReader_read_head : PySem.W.isFn K (.ref f_BodyReader_read_head) = true)
    (l_BodyReader_read_head : K.lookup f_BodyReader_read_head = some ⟨oc_BodyReader_read_head, od_BodyReader_read_head, .func (PySem.W.fnOf "read_head" "BodyReader.read_head" (defArgs s_BodyReader_read_head) (defBody s_BodyReader_read_head) (defScope s_BodyReader_read_head) .none kV_BodyReader_read_head dc_BodyReader_read_head pm_BodyReader_read_head an_BodyReader_read_head cd_BodyReader_read_head ct_BodyReader_read_head), sl_BodyReader_read_head⟩)
    (c_BodyReader_read_head : PySem.W.codeIn K cd_BodyReader_read_head "BodyReader.read_head" = true)
    (k_BodyReader_read_head : PySem.W.keepIn K (.ref f_BodyReader_read_head) = true)
    (at_BodyReader_read_act : PySem.W.findIn K (.ref A_BodyReader) "read_act" = some (some (.ref f_BodyReader_read_act)))
    (fn_BodyReader_read_act : PySem.W.isFn K (.ref f_BodyReader_read_act) = true)
    (l_BodyReader_read_act : K.lookup f_BodyReader_read_act = some ⟨oc_BodyReader_read_act, od_BodyReader_read_act, .func (PySem.W.fnOf "read_act" "BodyReader.read_act" (defArgs s_BodyReader_read_act) (defBody s_BodyReader_read_act) (defScope s_BodyReader_read_act) .none kV_BodyReader_read_act dc_BodyReader_read_act pm_BodyReader_read_act an_BodyReader_read_act cd_BodyReader_read_act ct_BodyReader_read_act), sl_BodyReader_read_act⟩)
    (c_BodyReader_read_act : PySem.W.codeIn K cd_BodyReader_read_act "BodyReader.read_act" = true)
    (k_BodyReader_read_act : PySem.W.keepIn K (.ref f_BodyReader_read_act) = true)
    (at_BodyReader_read_end : PySem.W.findIn K (.ref A_BodyReader) "read_end" = some (some (.ref f_BodyReader_read_end)))
    (fn_BodyReader_read_end : PySem.W.isFn K (.ref f_BodyReader_read_end) = true)
    (l_BodyReader_read_end : K.lookup f_BodyReader_read_end = some ⟨oc_BodyReader_read_end, od_BodyReader_read_end, .func (PySem.W.fnOf "read_end" "BodyReader.read_end" (defArgs s_BodyReader_read_end) (defBody s_BodyReader_read_end) (defScope s_BodyReader_read_end) .none kV_BodyReader_read_end dc_BodyReader_read_end pm_BodyReader_read_end an_BodyReader_read_end cd_BodyReader_read_end ct_BodyReader_read_end), sl_BodyReader_read_end⟩)
    (c_BodyReader_read_end : PySem.W.codeIn K cd_BodyReader_read_end "BodyReader.read_end" = true)
    (k_BodyReader_read_end : PySem.W.keepIn K (.ref f_BodyReader_read_end) = true)
    (at_BodyReader_read_row : PySem.W.findIn K (.ref A_BodyReader) "read_row" = some (some (.ref f_BodyReader_read_row)))
    (fn_BodyReader_read_row : PySem.W.isFn K (.ref f_BodyReader_read_row) = true)
    (l_BodyReader_read_row : K.lookup f_BodyReader_read_row = some ⟨oc_BodyReader_read_row, od_BodyReader_read_row, .func (PySem.W.fnOf "read_row" "BodyReader.read_row" (defArgs s_BodyReader_read_row) (defBody s_BodyReader_read_row) (defScope s_BodyReader_read_row) .none kV_BodyReader_read_row dc_BodyReader_read_row pm_BodyReader_read_row an_BodyReader_read_row cd_BodyReader_read_row ct_BodyReader_read_row), sl_BodyReader_read_row⟩)
    (c_BodyReader_read_row : PySem.W.codeIn K cd_BodyReader_read_row "BodyReader.read_row" = true)
    (k_BodyReader_read_row : PySem.W.keepIn K (.ref f_BodyReader_read_row) = true)
    (at_BodyReader_read : PySem.W.findIn K (.ref A_BodyReader) "read" = some (some (.ref f_BodyReader_read)))
    (fn_BodyReader_read : PySem.W.isFn K (.ref f_BodyReader_read) = true)
    (l_BodyReader_read : K.lookup f_BodyReader_read = some ⟨oc_BodyReader_read, od_BodyReader_read, .func (PySem.W.fnOf "read" "BodyReader.read" (defArgs s_BodyReader_read) (defBody s_BodyReader_read) (defScope s_BodyReader_read) .none kV_BodyReader_read dc_BodyReader_read pm_BodyReader_read an_BodyReader_read cd_BodyReader_read ct_BodyReader_read), sl_BodyReader_read⟩)
    (c_BodyReader_read : PySem.W.codeIn K cd_BodyReader_read "BodyReader.read" = true)
    (k_BodyReader_read : PySem.W.keepIn K (.ref f_BodyReader_read) = true)
    (at_Reader_read_def : PySem.W.findIn K (.ref A_Reader) "read_def" = some (some (.ref f_Reader_read_def)))
    (fn_Reader_read_def : PySem.W.isFn K (.ref f_Reader_read_def) = true)
    (l_Reader_read_def : K.lookup f_Reader_read_def = some ⟨oc_Reader_read_def, od_Reader_read_def, .func (PySem.W.fnOf "read_def" "Reader.read_def" (defArgs s_Reader_read_def) (defBody s_Reader_read_def) (defScope s_Reader_read_def) .none kV_Reader_read_def dc_Reader_read_def pm_Reader_read_def an_Reader_read_def cd_Reader_read_def ct_Reader_read_def), sl_Reader_read_def⟩)
    (c_Reader_read_def : PySem.W.codeIn K cd_Reader_read_def "Reader.read_def" = true)
    (k_Reader_read_def : PySem.W.keepIn K (.ref f_Reader_read_def) = true)
    (at_Reader_read_row : PySem.W.findIn K (.ref A_Reader) "read_row" = some (some (.ref f_Reader_read_row)))
    (fn_Reader_read_row : PySem.W.isFn K (.ref f_Reader_read_row) = true)
    (l_Reader_read_row : K.lookup f_Reader_read_row = some ⟨oc_Reader_read_row, od_Reader_read_row, .func (PySem.W.fnOf "read_row" "Reader.read_row" (defArgs s_Reader_read_row) (defBody s_Reader_read_row) (defScope s_Reader_read_row) .none kV_Reader_read_row dc_Reader_read_row pm_Reader_read_row an_Reader_read_row cd_Reader_read_row ct_Reader_read_row), sl_Reader_read_row⟩)
    (c_Reader_read_row : PySem.W.codeIn K cd_Reader_read_row "Reader.read_row" = true)
    (k_Reader_read_row : PySem.W.keepIn K (.ref f_Reader_read_row) = true)
    (at_Reader_read : PySem.W.findIn K (.ref A_Reader) "read" = some (some (.ref f_Reader_read)))
    (fn_Reader_read : PySem.W.isFn K (.ref f_Reader_read) = true)
    (l_Reader_read : K.lookup f_Reader_read = some ⟨oc_Reader_read, od_Reader_read, .func (PySem.W.fnOf "read" "Reader.read" (defArgs s_Reader_read) (defBody s_Reader_read) (defScope s_Reader_read) .none kV_Reader_read dc_Reader_read pm_Reader_read an_Reader_read cd_Reader_read ct_Reader_read), sl_Reader_read⟩)
    (c_Reader_read : PySem.W.codeIn K cd_Reader_read "Reader.read" = true)
    (k_Reader_read : PySem.W.keepIn K (.ref f_Reader_read) = true)
    (a_call_rows : PySem.W.nsIn K mainGlobals "call_rows" = some (some (.ref f_call_rows)))
    (l_call_rows : K.lookup f_call_rows = some ⟨oc_call_rows, od_call_rows, .func (PySem.W.fnOf "call_rows" "call_rows" (defArgs s_call_rows) (defBody s_call_rows) (defScope s_call_rows) .none kV_call_rows dc_call_rows pm_call_rows an_call_rows cd_call_rows ct_call_rows), sl_call_rows⟩)
    (c_call_rows : PySem.W.codeIn K cd_call_rows "call_rows" = true)
    (k_call_rows : PySem.W.keepIn K (.ref f_call_rows) = true)
    (a_greatest_weight : PySem.W.nsIn K mainGlobals "greatest_weight" = some (some (.ref f_greatest_weight)))
    (l_greatest_weight : K.lookup f_greatest_weight = some ⟨oc_greatest_weight, od_greatest_weight, .func (PySem.W.fnOf "greatest_weight" "greatest_weight" (defArgs s_greatest_weight) (defBody s_greatest_weight) (defScope s_greatest_weight) .none kV_greatest_weight dc_greatest_weight pm_greatest_weight an_greatest_weight cd_greatest_weight ct_greatest_weight), sl_greatest_weight⟩)
    (c_greatest_weight : PySem.W.codeIn K cd_greatest_weight "greatest_weight" = true)
    (k_greatest_weight : PySem.W.keepIn K (.ref f_greatest_weight) = true)
    (kc_Project : PySem.W.keepIn K (.ref A_Project) = true)
    (mk_Project : PySem.W.makesIn K A_Project = true)
    (at_Project___init__ : PySem.W.findIn K (.ref A_Project) "__init__" = some (some (.ref f_Project___init__)))
    (fn_Project___init__ : PySem.W.isFn K (.ref f_Project___init__) = true)
    (l_Project___init__ : K.lookup f_Project___init__ = some ⟨oc_Project___init__, od_Project___init__, .func (PySem.W.fnOf "__init__" "Project.__init__" (defArgs s_Project___init__) (defBody s_Project___init__) (defScope s_Project___init__) .none kV_Project___init__ dc_Project___init__ pm_Project___init__ an_Project___init__ cd_Project___init__ ct_Project___init__), sl_Project___init__⟩)
    (c_Project___init__ : PySem.W.codeIn K cd_Project___init__ "Project.__init__" = true)
    (k_Project___init__ : PySem.W.keepIn K (.ref f_Project___init__) = true)
    (a__law_source : PySem.W.nsIn K mainGlobals "_law_source" = some (some (.ref f__law_source)))
    (l__law_source : K.lookup f__law_source = some ⟨oc__law_source, od__law_source, .func (PySem.W.fnOf "_law_source" "_law_source" (defArgs s__law_source) (defBody s__law_source) (defScope s__law_source) .none kV__law_source dc__law_source pm__law_source an__law_source cd__law_source ct__law_source), sl__law_source⟩)
    (c__law_source : PySem.W.codeIn K cd__law_source "_law_source" = true)
    (k__law_source : PySem.W.keepIn K (.ref f__law_source) = true)
    (a__law_draw : PySem.W.nsIn K mainGlobals "_law_draw" = some (some (.ref f__law_draw)))
    (l__law_draw : K.lookup f__law_draw = some ⟨oc__law_draw, od__law_draw, .func (PySem.W.fnOf "_law_draw" "_law_draw" (defArgs s__law_draw) (defBody s__law_draw) (defScope s__law_draw) .none kV__law_draw dc__law_draw pm__law_draw an__law_draw cd__law_draw ct__law_draw), sl__law_draw⟩)
    (c__law_draw : PySem.W.codeIn K cd__law_draw "_law_draw" = true)
    (k__law_draw : PySem.W.keepIn K (.ref f__law_draw) = true)
    (a__law_name : PySem.W.nsIn K mainGlobals "_law_name" = some (some (.ref f__law_name)))
    (l__law_name : K.lookup f__law_name = some ⟨oc__law_name, od__law_name, .func (PySem.W.fnOf "_law_name" "_law_name" (defArgs s__law_name) (defBody s__law_name) (defScope s__law_name) .none kV__law_name dc__law_name pm__law_name an__law_name cd__law_name ct__law_name), sl__law_name⟩)
    (c__law_name : PySem.W.codeIn K cd__law_name "_law_name" = true)
    (k__law_name : PySem.W.keepIn K (.ref f__law_name) = true)
    (a__law_told : PySem.W.nsIn K mainGlobals "_law_told" = some (some (.ref f__law_told)))
    (l__law_told : K.lookup f__law_told = some ⟨oc__law_told, od__law_told, .func (PySem.W.fnOf "_law_told" "_law_told" (defArgs s__law_told) (defBody s__law_told) (defScope s__law_told) .none kV__law_told dc__law_told pm__law_told an__law_told cd__law_told ct__law_told), sl__law_told⟩)
    (c__law_told : PySem.W.codeIn K cd__law_told "_law_told" = true)
    (k__law_told : PySem.W.keepIn K (.ref f__law_told) = true)
    (a__law_many : PySem.W.nsIn K mainGlobals "_law_many" = some (some (.ref f__law_many)))
    (l__law_many : K.lookup f__law_many = some ⟨oc__law_many, od__law_many, .func (PySem.W.fnOf "_law_many" "_law_many" (defArgs s__law_many) (defBody s__law_many) (defScope s__law_many) .none kV__law_many dc__law_many pm__law_many an__law_many cd__law_many ct__law_many), sl__law_many⟩)
    (c__law_many : PySem.W.codeIn K cd__law_many "_law_many" = true)
    (k__law_many : PySem.W.keepIn K (.ref f__law_many) = true)
    (a_law : PySem.W.nsIn K mainGlobals "law" = some (some (.ref f_law)))
    (l_law : K.lookup f_law = some ⟨oc_law, od_law, .func (PySem.W.fnOf "law" "law" (defArgs s_law) (defBody s_law) (defScope s_law) .none kV_law dc_law pm_law an_law cd_law ct_law), sl_law⟩)
    (c_law : PySem.W.codeIn K cd_law "law" = true)
    (k_law : PySem.W.keepIn K (.ref f_law) = true)
    : ∃ fd : FuncData, (∀ (s : Shared) (v : Value), BindsTo s fd ⟨[v], []⟩ [("_law_script", v)]) ∧ ∀ base : Heap, K.In base → base.Ns mainGlobals mg → FnG l.prog w K mg base (L2.CX l.prog w) 16 fa fd ["_law_script"] (lawSp K 63) := by
  have gs_LETTERS := PySem.W.mg_of X G gs_LETTERS
  have z_str := PySem.W.mg_none_of X G z_str
  have z_isinstance := PySem.W.mg_none_of X G z_isinstance
  have z_len := PySem.W.mg_none_of X G z_len
  have gt_KEYWORDS := gtup_mk X G gt_KEYWORDS gl_KEYWORDS gz_KEYWORDS gv_KEYWORDS
  have z_tuple := PySem.W.mg_none_of X G z_tuple
  have Cl_Reader := cls_mk pg_Reader hd_Reader po_Reader sa_Reader
  have fc_Reader_kept : FC K mg "Reader" "kept" := fc_mk X G m_Reader Cl_Reader na_Reader_kept
  have fc_Reader_defs : FC K mg "Reader" "defs" := fc_mk X G m_Reader Cl_Reader na_Reader_defs
  have fc_Reader_places : FC K mg "Reader" "places" := fc_mk X G m_Reader Cl_Reader na_Reader_places
  have fc_Reader_declared : FC K mg "Reader" "declared" := fc_mk X G m_Reader Cl_Reader na_Reader_declared
  have fc_Reader_rows : FC K mg "Reader" "rows" := fc_mk X G m_Reader Cl_Reader na_Reader_rows
  have fc_Reader_modules : FC K mg "Reader" "modules" := fc_mk X G m_Reader Cl_Reader na_Reader_modules
  have fc_Reader_at : FC K mg "Reader" "at" := fc_mk X G m_Reader Cl_Reader na_Reader_at
  have fc_Reader_lines : FC K mg "Reader" "lines" := fc_mk X G m_Reader Cl_Reader na_Reader_lines
  have z_list := PySem.W.mg_none_of X G z_list
  have Cl_BodyReader := cls_mk pg_BodyReader hd_BodyReader po_BodyReader sa_BodyReader
  have fc_BodyReader_blocks : FC K mg "BodyReader" "blocks" := fc_mk X G m_BodyReader Cl_BodyReader na_BodyReader_blocks
  have fc_BodyReader_body : FC K mg "BodyReader" "body" := fc_mk X G m_BodyReader Cl_BodyReader na_BodyReader_body
  have fc_BodyReader_line : FC K mg "BodyReader" "line" := fc_mk X G m_BodyReader Cl_BodyReader na_BodyReader_line
  have fc_BodyReader_hidden : FC K mg "BodyReader" "hidden" := fc_mk X G m_BodyReader Cl_BodyReader na_BodyReader_hidden
  have fc_BodyReader_reader : FC K mg "BodyReader" "reader" := fc_mk X G m_BodyReader Cl_BodyReader na_BodyReader_reader
  have gi_MOST_BLOCKS := PySem.W.mg_of X G gi_MOST_BLOCKS
  have gi_MOST_BODIES := PySem.W.mg_of X G gi_MOST_BODIES
  have z_max := PySem.W.mg_none_of X G z_max
  have Cl_Project := cls_mk pg_Project hd_Project po_Project sa_Project
  have fc_Project_kept : FC K mg "Project" "kept" := fc_mk X G m_Project Cl_Project na_Project_kept
  have fc_Project_lines : FC K mg "Project" "lines" := fc_mk X G m_Project Cl_Project na_Project_lines
  have fc_Project_defs : FC K mg "Project" "defs" := fc_mk X G m_Project Cl_Project na_Project_defs
  have fc_Project_declared : FC K mg "Project" "declared" := fc_mk X G m_Project Cl_Project na_Project_declared
  have fc_Project_rows : FC K mg "Project" "rows" := fc_mk X G m_Project Cl_Project na_Project_rows
  have fc_Project_modules : FC K mg "Project" "modules" := fc_mk X G m_Project Cl_Project na_Project_modules
  have fc_Project_text : FC K mg "Project" "text" := fc_mk X G m_Project Cl_Project na_Project_text
  have fc_Project_weight : FC K mg "Project" "weight" := fc_mk X G m_Project Cl_Project na_Project_weight
  have cc_Project_WEIGHT : CCon K mg "Project" "WEIGHT" 100 := ccon_mk X G m_Project ty_Project rd_Project fv_Project_WEIGHT
  have cc_Project_MODULES : CCon K mg "Project" "MODULES" 6 := ccon_mk X G m_Project ty_Project rd_Project fv_Project_MODULES
  have cc_Project_LINES : CCon K mg "Project" "LINES" 150 := ccon_mk X G m_Project ty_Project rd_Project fv_Project_LINES
  have z_int := PySem.W.mg_none_of X G z_int
  have z_abs := PySem.W.mg_none_of X G z_abs
  have em_BadLine_PatchedError : PySem.W.exmOne K (.ref A_BadLine) (.ref A_PatchedError) = some true := em_mk ex_PatchedError hd_PatchedError ty_PatchedError su_BadLine_PatchedError
  have em_TooMany_PatchedError : PySem.W.exmOne K (.ref A_TooMany) (.ref A_PatchedError) = some true := em_mk ex_PatchedError hd_PatchedError ty_PatchedError su_TooMany_PatchedError
  have tt__law_told_0_PatchedError : TryT K mg "PatchedError" [("BadLine", true), ("TooMany", true)] := ⟨⟨A_PatchedError, PySem.W.mg_of X G m_PatchedError⟩, fun C b e => allT_of (t := [("BadLine", true), ("TooMany", true)]) (P := fun C b => PySem.W.exmOne K (clsV mg C) (clsV mg "PatchedError") = some b) ⟨by show PySem.W.exmOne K (clsV mg "BadLine") (clsV mg "PatchedError") = some true; rw [clsV_mk X G m_BadLine, clsV_mk X G m_PatchedError]; exact em_BadLine_PatchedError, by show PySem.W.exmOne K (clsV mg "TooMany") (clsV mg "PatchedError") = some true; rw [clsV_mk X G m_TooMany, clsV_mk X G m_PatchedError]; exact em_TooMany_PatchedError, trivial⟩ C b e⟩
  have ko_BadLine_TooMany : PySem.W.kitOne K (.ref A_BadLine) (.ref A_TooMany) = some false := ko_f hd_TooMany ty_TooMany su_BadLine_TooMany ne_BadLine_TooMany
  have ko_TooMany_TooMany : PySem.W.kitOne K (.ref A_TooMany) (.ref A_TooMany) = some true := ko_t hd_TooMany ty_TooMany su_TooMany_TooMany
  have xi__law_told_0_TooMany : XiT K mg [("BadLine", true), ("TooMany", true)] "TooMany" [("BadLine", false), ("TooMany", true)] := ⟨(.ref A_TooMany), .inl ⟨PySem.W.mg_of X G m_TooMany, _, rfl⟩, fun C hC b hb => xi_of (tab := [("BadLine", true), ("TooMany", true)]) (fun C b => allT_of (t := [("BadLine", false), ("TooMany", true)]) (P := fun C b => ([("BadLine", true), ("TooMany", true)] : List (Str × Bool)).lookup C = some true → ∃ Ca : Addr, mg C = some (.ref Ca) ∧ L2.ExcC K Ca ∧ PySem.W.kitOne K (.ref Ca) (.ref A_TooMany) = some b) ⟨fun _ => ⟨A_BadLine, PySem.W.mg_of X G m_BadLine, ⟨xg_BadLine, xk_BadLine, ex_BadLine, hd_BadLine, xa_BadLine, xn, xt, xm_BadLine⟩, ko_BadLine_TooMany⟩, fun _ => ⟨A_TooMany, PySem.W.mg_of X G m_TooMany, ⟨xg_TooMany, xk_TooMany, ex_TooMany, hd_TooMany, xa_TooMany, xn, xt, xm_TooMany⟩, ko_TooMany_TooMany⟩, trivial⟩ C b) C hC b hb⟩
  have xf__law_told_0_what : XfT K mg [("BadLine", true), ("TooMany", true)] "what" := fun C hC => allT_of (t := [("BadLine", true), ("TooMany", true)]) (P := fun C b => b = true → ∃ Ca : Addr, mg C = some (.ref Ca) ∧ L2.XfC K Ca ∧ PySem.W.findIn K (.ref Ca) "what" = some none) ⟨fun _ => ⟨A_BadLine, PySem.W.mg_of X G m_BadLine, ⟨xg_BadLine, xk_BadLine, ex_BadLine, hd_BadLine⟩, na_BadLine_what⟩, fun _ => ⟨A_TooMany, PySem.W.mg_of X G m_TooMany, ⟨xg_TooMany, xk_TooMany, ex_TooMany, hd_TooMany⟩, na_TooMany_what⟩, trivial⟩ C true hC rfl
  have ko_BadLine_BadLine : PySem.W.kitOne K (.ref A_BadLine) (.ref A_BadLine) = some true := ko_t hd_BadLine ty_BadLine su_BadLine_BadLine
  have ko_TooMany_BadLine : PySem.W.kitOne K (.ref A_TooMany) (.ref A_BadLine) = some false := ko_f hd_BadLine ty_BadLine su_TooMany_BadLine ne_TooMany_BadLine
  have xi__law_told_0_BadLine : XiT K mg [("BadLine", true), ("TooMany", true)] "BadLine" [("BadLine", true), ("TooMany", false)] := ⟨(.ref A_BadLine), .inl ⟨PySem.W.mg_of X G m_BadLine, _, rfl⟩, fun C hC b hb => xi_of (tab := [("BadLine", true), ("TooMany", true)]) (fun C b => allT_of (t := [("BadLine", true), ("TooMany", false)]) (P := fun C b => ([("BadLine", true), ("TooMany", true)] : List (Str × Bool)).lookup C = some true → ∃ Ca : Addr, mg C = some (.ref Ca) ∧ L2.ExcC K Ca ∧ PySem.W.kitOne K (.ref Ca) (.ref A_BadLine) = some b) ⟨fun _ => ⟨A_BadLine, PySem.W.mg_of X G m_BadLine, ⟨xg_BadLine, xk_BadLine, ex_BadLine, hd_BadLine, xa_BadLine, xn, xt, xm_BadLine⟩, ko_BadLine_BadLine⟩, fun _ => ⟨A_TooMany, PySem.W.mg_of X G m_TooMany, ⟨xg_TooMany, xk_TooMany, ex_TooMany, hd_TooMany, xa_TooMany, xn, xt, xm_TooMany⟩, ko_TooMany_BadLine⟩, trivial⟩ C b) C hC b hb⟩
  have z_bool := PySem.W.mg_none_of X G z_bool
  have xf__law_told_0_at : XfT K mg [("BadLine", true), ("TooMany", true)] "at" := fun C hC => allT_of (t := [("BadLine", true), ("TooMany", true)]) (P := fun C b => b = true → ∃ Ca : Addr, mg C = some (.ref Ca) ∧ L2.XfC K Ca ∧ PySem.W.findIn K (.ref Ca) "at" = some none) ⟨fun _ => ⟨A_BadLine, PySem.W.mg_of X G m_BadLine, ⟨xg_BadLine, xk_BadLine, ex_BadLine, hd_BadLine⟩, na_BadLine_at⟩, fun _ => ⟨A_TooMany, PySem.W.mg_of X G m_TooMany, ⟨xg_TooMany, xk_TooMany, ex_TooMany, hd_TooMany⟩, na_TooMany_at⟩, trivial⟩ C true hC rfl
  have z_range := PySem.W.mg_none_of X G z_range
  have z_min := PySem.W.mg_none_of X G z_min
  have b_PatchedError : BaseC K mg "PatchedError" := base_mk X G m_PatchedError ga_PatchedError ty_PatchedError rd_PatchedError bi_PatchedError
  have O_BadLine := oex_mk lk_BadLine rv_BadLine sa_BadLine ex_BadLine ty_BadLine kc_BadLine
  have LE_BadLine : ELoc K mg "BadLine" "at" "self" "at" "BadLine.__init__" s_BadLine___init__ := eloc_mk X G m_BadLine O_BadLine na_BadLine_at ic_BadLine tI_BadLine k_BadLine___init__ l_BadLine___init__ c_BadLine___init__ (fun _ _ _ _ _ _ us hl => match us, hl with | [_, _], _ => rfl)
  have O_TooMany := oex_mk lk_TooMany rv_TooMany sa_TooMany ex_TooMany ty_TooMany kc_TooMany
  have LE_TooMany : ELoc K mg "TooMany" "what" "self" "what" "TooMany.__init__" s_TooMany___init__ := eloc_mk X G m_TooMany O_TooMany na_TooMany_what ic_TooMany tI_TooMany k_TooMany___init__ l_TooMany___init__ c_TooMany___init__ (fun _ _ _ _ _ _ us hl => match us, hl with | [_, _], _ => rfl)
  have L_is_word : Loc K mg "is_word" s_is_word ["text"] := loc_mk X G a_is_word l_is_word c_is_word k_is_word (fun _ _ _ _ _ _ us hl => match us, hl with | [_], _ => rfl)
  have L_name_fits : Loc K mg "name_fits" s_name_fits ["text"] := loc_mk X G a_name_fits l_name_fits c_name_fits k_name_fits (fun _ _ _ _ _ _ us hl => match us, hl with | [_], _ => rfl)
  have L_read_step : Loc K mg "read_step" s_read_step ["text"] := loc_mk X G a_read_step l_read_step c_read_step k_read_step (fun _ _ _ _ _ _ us hl => match us, hl with | [_], _ => rfl)
  have L_read_path : Loc K mg "read_path" s_read_path ["text"] := loc_mk X G a_read_path l_read_path c_read_path k_read_path (fun _ _ _ _ _ _ us hl => match us, hl with | [_], _ => rfl)
  have L_lines_of : Loc K mg "lines_of" s_lines_of ["text"] := loc_mk X G a_lines_of l_lines_of c_lines_of k_lines_of (fun _ _ _ _ _ _ us hl => match us, hl with | [_], _ => rfl)
  have L_words_of : Loc K mg "words_of" s_words_of ["line"] := loc_mk X G a_words_of l_words_of c_words_of k_words_of (fun _ _ _ _ _ _ us hl => match us, hl with | [_], _ => rfl)
  have L_Reader___init__ : KLoc K mg "Reader" "Reader.__init__" s_Reader___init__ ["self", "lines"] := kloc_mk X G m_Reader mk_Reader at_Reader___init__ fn_Reader___init__ kc_Reader k_Reader___init__ l_Reader___init__ c_Reader___init__ (fun _ _ _ _ _ _ us hl => match us, hl with | [_, _], _ => rfl)
  have L_Reader_need : MLoc K mg "Reader" "need" "Reader.need" s_Reader_need ["self", "holds"] := mloc_mk X G m_Reader Cl_Reader at_Reader_need fn_Reader_need k_Reader_need l_Reader_need c_Reader_need (fun _ _ _ _ _ _ us hl => match us, hl with | [_, _], _ => rfl)
  have L_Reader_module : MLoc K mg "Reader" "module" "Reader.module" s_Reader_module ["self"] := mloc_mk X G m_Reader Cl_Reader at_Reader_module fn_Reader_module k_Reader_module l_Reader_module c_Reader_module (fun _ _ _ _ _ _ us hl => match us, hl with | [_], _ => rfl)
  have L_Reader_is_above : MLoc K mg "Reader" "is_above" "Reader.is_above" s_Reader_is_above ["self", "name"] := mloc_mk X G m_Reader Cl_Reader at_Reader_is_above fn_Reader_is_above k_Reader_is_above l_Reader_is_above c_Reader_is_above (fun _ _ _ _ _ _ us hl => match us, hl with | [_, _], _ => rfl)
  have L_Reader_words : MLoc K mg "Reader" "words" "Reader.words" s_Reader_words ["self"] := mloc_mk X G m_Reader Cl_Reader at_Reader_words fn_Reader_words k_Reader_words l_Reader_words c_Reader_words (fun _ _ _ _ _ _ us hl => match us, hl with | [_], _ => rfl)
  have L_Reader_path_above : MLoc K mg "Reader" "path_above" "Reader.path_above" s_Reader_path_above ["self", "text", "line"] := mloc_mk X G m_Reader Cl_Reader at_Reader_path_above fn_Reader_path_above k_Reader_path_above l_Reader_path_above c_Reader_path_above (fun _ _ _ _ _ _ us hl => match us, hl with | [_, _, _], _ => rfl)
  have L_Reader_worth : MLoc K mg "Reader" "worth" "Reader.worth" s_Reader_worth ["self", "text", "line"] := mloc_mk X G m_Reader Cl_Reader at_Reader_worth fn_Reader_worth k_Reader_worth l_Reader_worth c_Reader_worth (fun _ _ _ _ _ _ us hl => match us, hl with | [_, _, _], _ => rfl)
  have L_Reader_declare : MLoc K mg "Reader" "declare" "Reader.declare" s_Reader_declare ["self", "name"] := mloc_mk X G m_Reader Cl_Reader at_Reader_declare fn_Reader_declare k_Reader_declare l_Reader_declare c_Reader_declare (fun _ _ _ _ _ _ us hl => match us, hl with | [_, _], _ => rfl)
  have L_Reader_keep_row : MLoc K mg "Reader" "keep_row" "Reader.keep_row" s_Reader_keep_row ["self", "row"] := mloc_mk X G m_Reader Cl_Reader at_Reader_keep_row fn_Reader_keep_row k_Reader_keep_row l_Reader_keep_row c_Reader_keep_row (fun _ _ _ _ _ _ us hl => match us, hl with | [_, _], _ => rfl)
  have L_Reader_read_import : MLoc K mg "Reader" "read_import" "Reader.read_import" s_Reader_read_import ["self", "words"] := mloc_mk X G m_Reader Cl_Reader at_Reader_read_import fn_Reader_read_import k_Reader_read_import l_Reader_read_import c_Reader_read_import (fun _ _ _ _ _ _ us hl => match us, hl with | [_, _], _ => rfl)
  have L_Reader_read_from : MLoc K mg "Reader" "read_from" "Reader.read_from" s_Reader_read_from ["self", "words"] := mloc_mk X G m_Reader Cl_Reader at_Reader_read_from fn_Reader_read_from k_Reader_read_from l_Reader_read_from c_Reader_read_from (fun _ _ _ _ _ _ us hl => match us, hl with | [_, _], _ => rfl)
  have L_Reader_read_name : MLoc K mg "Reader" "read_name" "Reader.read_name" s_Reader_read_name ["self", "words"] := mloc_mk X G m_Reader Cl_Reader at_Reader_read_name fn_Reader_read_name k_Reader_read_name l_Reader_read_name c_Reader_read_name (fun _ _ _ _ _ _ us hl => match us, hl with | [_, _], _ => rfl)
  have L_Reader_read_entries : MLoc K mg "Reader" "read_entries" "Reader.read_entries" s_Reader_read_entries ["self", "label", "signs", "line"] := mloc_mk X G m_Reader Cl_Reader at_Reader_read_entries fn_Reader_read_entries k_Reader_read_entries l_Reader_read_entries c_Reader_read_entries (fun _ _ _ _ _ _ us hl => match us, hl with | [_, _, _, _], _ => rfl)
  have L_Reader_read_table : MLoc K mg "Reader" "read_table" "Reader.read_table" s_Reader_read_table ["self", "words"] := mloc_mk X G m_Reader Cl_Reader at_Reader_read_table fn_Reader_read_table k_Reader_read_table l_Reader_read_table c_Reader_read_table (fun _ _ _ _ _ _ us hl => match us, hl with | [_, _], _ => rfl)
  have L_Reader_read_class : MLoc K mg "Reader" "read_class" "Reader.read_class" s_Reader_read_class ["self", "words"] := mloc_mk X G m_Reader Cl_Reader at_Reader_read_class fn_Reader_read_class k_Reader_read_class l_Reader_read_class c_Reader_read_class (fun _ _ _ _ _ _ us hl => match us, hl with | [_, _], _ => rfl)
  have L_BodyReader___init__ : KLoc K mg "BodyReader" "BodyReader.__init__" s_BodyReader___init__ ["self", "reader", "hidden", "line"] := kloc_mk X G m_BodyReader mk_BodyReader at_BodyReader___init__ fn_BodyReader___init__ kc_BodyReader k_BodyReader___init__ l_BodyReader___init__ c_BodyReader___init__ (fun _ _ _ _ _ _ us hl => match us, hl with | [_, _, _, _], _ => rfl)
  have L_BodyReader_read_head : MLoc K mg "BodyReader" "read_head" "BodyReader.read_head" s_BodyReader_read_head ["self", "text", "module", "line", "may_hide"] := mloc_mk X G m_BodyReader Cl_BodyReader at_BodyReader_read_head fn_BodyReader_read_head k_BodyReader_read_head l_BodyReader_read_head c_BodyReader_read_head (fun _ _ _ _ _ _ us hl => match us, hl with | [_, _, _, _, _], _ => rfl)
  have L_BodyReader_read_act : MLoc K mg "BodyReader" "read_act" "BodyReader.read_act" s_BodyReader_read_act ["self", "words", "module"] := mloc_mk X G m_BodyReader Cl_BodyReader at_BodyReader_read_act fn_BodyReader_read_act k_BodyReader_read_act l_BodyReader_read_act c_BodyReader_read_act (fun _ _ _ _ _ _ us hl => match us, hl with | [_, _, _], _ => rfl)
  have L_BodyReader_read_end : MLoc K mg "BodyReader" "read_end" "BodyReader.read_end" s_BodyReader_read_end ["self"] := mloc_mk X G m_BodyReader Cl_BodyReader at_BodyReader_read_end fn_BodyReader_read_end k_BodyReader_read_end l_BodyReader_read_end c_BodyReader_read_end (fun _ _ _ _ _ _ us hl => match us, hl with | [_], _ => rfl)
  have L_BodyReader_read_row : MLoc K mg "BodyReader" "read_row" "BodyReader.read_row" s_BodyReader_read_row ["self", "words"] := mloc_mk X G m_BodyReader Cl_BodyReader at_BodyReader_read_row fn_BodyReader_read_row k_BodyReader_read_row l_BodyReader_read_row c_BodyReader_read_row (fun _ _ _ _ _ _ us hl => match us, hl with | [_, _], _ => rfl)
  have L_BodyReader_read : MLoc K mg "BodyReader" "read" "BodyReader.read" s_BodyReader_read ["self"] := mloc_mk X G m_BodyReader Cl_BodyReader at_BodyReader_read fn_BodyReader_read k_BodyReader_read l_BodyReader_read c_BodyReader_read (fun _ _ _ _ _ _ us hl => match us, hl with | [_], _ => rfl)
  have L_Reader_read_def : MLoc K mg "Reader" "read_def" "Reader.read_def" s_Reader_read_def ["self", "words"] := mloc_mk X G m_Reader Cl_Reader at_Reader_read_def fn_Reader_read_def k_Reader_read_def l_Reader_read_def c_Reader_read_def (fun _ _ _ _ _ _ us hl => match us, hl with | [_, _], _ => rfl)
  have L_Reader_read_row : MLoc K mg "Reader" "read_row" "Reader.read_row" s_Reader_read_row ["self"] := mloc_mk X G m_Reader Cl_Reader at_Reader_read_row fn_Reader_read_row k_Reader_read_row l_Reader_read_row c_Reader_read_row (fun _ _ _ _ _ _ us hl => match us, hl with | [_], _ => rfl)
  have L_Reader_read : MLoc K mg "Reader" "read" "Reader.read" s_Reader_read ["self"] := mloc_mk X G m_Reader Cl_Reader at_Reader_read fn_Reader_read k_Reader_read l_Reader_read c_Reader_read (fun _ _ _ _ _ _ us hl => match us, hl with | [_], _ => rfl)
  have L_call_rows : Loc K mg "call_rows" s_call_rows ["body"] := loc_mk X G a_call_rows l_call_rows c_call_rows k_call_rows (fun _ _ _ _ _ _ us hl => match us, hl with | [_], _ => rfl)
  have L_greatest_weight : Loc K mg "greatest_weight" s_greatest_weight ["defs"] := loc_mk X G a_greatest_weight l_greatest_weight c_greatest_weight k_greatest_weight (fun _ _ _ _ _ _ us hl => match us, hl with | [_], _ => rfl)
  have L_Project___init__ : KLoc K mg "Project" "Project.__init__" s_Project___init__ ["self", "text"] := kloc_mk X G m_Project mk_Project at_Project___init__ fn_Project___init__ kc_Project k_Project___init__ l_Project___init__ c_Project___init__ (fun _ _ _ _ _ _ us hl => match us, hl with | [_, _], _ => rfl)
  have L__law_source : Loc K mg "_law_source" s__law_source ["_law_script", "_law_place"] := loc_mk X G a__law_source l__law_source c__law_source k__law_source (fun _ _ _ _ _ _ us hl => match us, hl with | [_, _], _ => rfl)
  have L__law_draw : Loc K mg "_law_draw" s__law_draw ["_law_s", "_law_many_here"] := loc_mk X G a__law_draw l__law_draw c__law_draw k__law_draw (fun _ _ _ _ _ _ us hl => match us, hl with | [_, _], _ => rfl)
  have L__law_name : Loc K mg "_law_name" s__law_name ["_law_k"] := loc_mk X G a__law_name l__law_name c__law_name k__law_name (fun _ _ _ _ _ _ us hl => match us, hl with | [_], _ => rfl)
  have L__law_told : Loc K mg "_law_told" s__law_told ["_law_lines"] := loc_mk X G a__law_told l__law_told c__law_told k__law_told (fun _ _ _ _ _ _ us hl => match us, hl with | [_], _ => rfl)
  have L__law_many : Loc K mg "_law_many" s__law_many ["_law_s", "_law_many_here", "_law_count", "_law_heavy"] := loc_mk X G a__law_many l__law_many c__law_many k__law_many (fun _ _ _ _ _ _ us hl => match us, hl with | [_, _, _, _], _ => rfl)
  refine law_mk X G hfa a_law l_law c_law k_law (fun _ _ _ _ _ _ _ => rfl) (fun xs h => law_ok h) fun fd F base _ _ => ?_
  have E_BadLine_ok := ok_e_BadLine (P := l.prog) (w := w) (base := base) LE_BadLine b_PatchedError
  have E_TooMany_ok := ok_e_TooMany (P := l.prog) (w := w) (base := base) LE_TooMany b_PatchedError
  have C_is_word_ok := ok_is_word (P := l.prog) (w := w) (base := base) L_is_word gs_LETTERS z_str z_isinstance z_len
  have C_name_fits_ok := ok_name_fits (P := l.prog) (w := w) (base := base) L_name_fits gt_KEYWORDS C_is_word_ok
  have C_read_step_ok := ok_read_step (P := l.prog) (w := w) (base := base) L_read_step z_len gs_LETTERS C_name_fits_ok
  have C_read_path_ok := ok_read_path (P := l.prog) (w := w) (base := base) L_read_path z_tuple z_len gs_LETTERS z_str z_isinstance C_read_step_ok C_name_fits_ok
  have C_lines_of_ok := ok_lines_of (P := l.prog) (w := w) (base := base) L_lines_of 
  have C_words_of_ok := ok_words_of (P := l.prog) (w := w) (base := base) L_words_of 
  have C_Reader___init___ok := ok_Reader___init__ (P := l.prog) (w := w) (base := base) L_Reader___init__ fc_Reader_kept fc_Reader_defs fc_Reader_places fc_Reader_declared fc_Reader_rows fc_Reader_modules fc_Reader_at fc_Reader_lines z_list
  have C_Reader_need_ok := ok_Reader_need (P := l.prog) (w := w) (base := base) L_Reader_need fc_Reader_at E_BadLine_ok
  have C_Reader_module_ok := ok_Reader_module (P := l.prog) (w := w) (base := base) L_Reader_module fc_Reader_modules
  have C_Reader_is_above_ok := ok_Reader_is_above (P := l.prog) (w := w) (base := base) L_Reader_is_above fc_Reader_modules
  have C_Reader_words_ok := ok_Reader_words (P := l.prog) (w := w) (base := base) L_Reader_words fc_Reader_lines fc_Reader_at z_len C_words_of_ok E_BadLine_ok
  have C_Reader_path_above_ok := ok_Reader_path_above (P := l.prog) (w := w) (base := base) L_Reader_path_above fc_Reader_declared C_Reader_need_ok C_Reader_module_ok C_read_path_ok
  have C_Reader_worth_ok := ok_Reader_worth (P := l.prog) (w := w) (base := base) L_Reader_worth C_Reader_path_above_ok
  have C_Reader_declare_ok := ok_Reader_declare (P := l.prog) (w := w) (base := base) L_Reader_declare fc_Reader_places fc_Reader_at fc_Reader_declared C_Reader_module_ok C_name_fits_ok C_Reader_need_ok
  have C_Reader_keep_row_ok := ok_Reader_keep_row (P := l.prog) (w := w) (base := base) L_Reader_keep_row fc_Reader_rows C_Reader_module_ok
  have C_Reader_read_import_ok := ok_Reader_read_import (P := l.prog) (w := w) (base := base) L_Reader_read_import fc_Reader_at z_len C_Reader_keep_row_ok C_Reader_declare_ok C_Reader_is_above_ok C_Reader_need_ok
  have C_Reader_read_from_ok := ok_Reader_read_from (P := l.prog) (w := w) (base := base) L_Reader_read_from fc_Reader_at fc_Reader_declared z_len C_Reader_keep_row_ok C_Reader_declare_ok C_Reader_need_ok C_Reader_is_above_ok
  have C_Reader_read_name_ok := ok_Reader_read_name (P := l.prog) (w := w) (base := base) L_Reader_read_name fc_Reader_at z_len C_Reader_keep_row_ok C_Reader_declare_ok C_Reader_worth_ok C_Reader_need_ok
  have C_Reader_read_entries_ok := ok_Reader_read_entries (P := l.prog) (w := w) (base := base) L_Reader_read_entries z_tuple fc_Reader_at fc_Reader_places z_len C_Reader_words_ok C_Reader_worth_ok C_Reader_need_ok C_name_fits_ok
  have C_Reader_read_table_ok := ok_Reader_read_table (P := l.prog) (w := w) (base := base) L_Reader_read_table z_len fc_Reader_at C_Reader_keep_row_ok C_Reader_module_ok C_Reader_read_entries_ok C_Reader_declare_ok C_Reader_need_ok
  have C_Reader_read_class_ok := ok_Reader_read_class (P := l.prog) (w := w) (base := base) L_Reader_read_class z_tuple z_len fc_Reader_at C_Reader_keep_row_ok C_Reader_module_ok C_Reader_read_entries_ok C_Reader_declare_ok C_Reader_path_above_ok C_Reader_need_ok
  have C_BodyReader___init___ok := ok_BodyReader___init__ (P := l.prog) (w := w) (base := base) L_BodyReader___init__ fc_BodyReader_blocks fc_BodyReader_body fc_BodyReader_line fc_BodyReader_hidden fc_BodyReader_reader
  have C_BodyReader_read_head_ok := ok_BodyReader_read_head (P := l.prog) (w := w) (base := base) L_BodyReader_read_head fc_BodyReader_hidden fc_Reader_declared fc_BodyReader_reader C_Reader_path_above_ok C_Reader_need_ok C_read_path_ok
  have C_BodyReader_read_act_ok := ok_BodyReader_read_act (P := l.prog) (w := w) (base := base) L_BodyReader_read_act fc_Reader_kept fc_Reader_at fc_BodyReader_body fc_BodyReader_hidden fc_BodyReader_line fc_Reader_declared z_len fc_BodyReader_reader C_BodyReader_read_head_ok C_Reader_need_ok C_Reader_module_ok
  have C_BodyReader_read_end_ok := ok_BodyReader_read_end (P := l.prog) (w := w) (base := base) L_BodyReader_read_end fc_BodyReader_body z_tuple fc_BodyReader_reader z_len fc_BodyReader_blocks C_Reader_need_ok
  have C_BodyReader_read_row_ok := ok_BodyReader_read_row (P := l.prog) (w := w) (base := base) L_BodyReader_read_row fc_BodyReader_body fc_BodyReader_blocks z_len gi_MOST_BLOCKS gi_MOST_BODIES fc_BodyReader_reader C_Reader_need_ok C_BodyReader_read_end_ok C_Reader_is_above_ok C_BodyReader_read_act_ok
  have C_BodyReader_read_ok := ok_BodyReader_read (P := l.prog) (w := w) (base := base) L_BodyReader_read fc_BodyReader_body z_tuple fc_Reader_at fc_BodyReader_blocks fc_BodyReader_reader C_Reader_words_ok C_BodyReader_read_row_ok
  have C_Reader_read_def_ok := ok_Reader_read_def (P := l.prog) (w := w) (base := base) L_Reader_read_def fc_Reader_defs fc_Reader_at fc_Reader_places z_len C_Reader_module_ok C_Reader_keep_row_ok C_BodyReader___init___ok C_BodyReader_read_ok C_Reader_declare_ok C_Reader_path_above_ok C_name_fits_ok C_Reader_need_ok
  have C_Reader_read_row_ok := ok_Reader_read_row (P := l.prog) (w := w) (base := base) L_Reader_read_row fc_Reader_at z_len fc_Reader_modules fc_Reader_places fc_Reader_declared fc_Reader_rows C_Reader_keep_row_ok C_Reader_declare_ok C_Reader_need_ok C_Reader_read_import_ok C_Reader_read_from_ok C_Reader_read_table_ok C_Reader_read_class_ok C_Reader_read_def_ok C_Reader_read_name_ok C_name_fits_ok C_Reader_words_ok
  have C_Reader_read_ok := ok_Reader_read (P := l.prog) (w := w) (base := base) L_Reader_read fc_Reader_modules fc_Reader_lines z_len fc_Reader_at E_BadLine_ok C_Reader_read_row_ok
  have C_call_rows_ok := ok_call_rows (P := l.prog) (w := w) (base := base) L_call_rows z_len
  have C_greatest_weight_ok := ok_greatest_weight (P := l.prog) (w := w) (base := base) L_greatest_weight z_max C_call_rows_ok
  have C_Project___init___ok := ok_Project___init__ (P := l.prog) (w := w) (base := base) L_Project___init__ fc_Project_kept fc_Reader_kept fc_Project_lines fc_Reader_places fc_Project_defs fc_Reader_defs fc_Project_declared fc_Reader_declared fc_Project_rows fc_Reader_modules fc_Reader_rows z_tuple fc_Project_modules fc_Project_text fc_Project_weight cc_Project_WEIGHT z_len cc_Project_MODULES cc_Project_LINES z_str z_isinstance E_TooMany_ok C_greatest_weight_ok C_Reader_read_ok C_Reader___init___ok C_lines_of_ok E_BadLine_ok
  have C__law_source_ok := ok__law_source (P := l.prog) (w := w) (base := base) L__law_source z_int z_abs z_len
  have C__law_draw_ok := ok__law_draw (P := l.prog) (w := w) (base := base) L__law_draw z_int
  have C__law_name_ok := ok__law_name (P := l.prog) (w := w) (base := base) L__law_name 
  have C__law_told_ok := ok__law_told (P := l.prog) (w := w) (base := base) L__law_told fc_Project_modules z_len tt__law_told_0_PatchedError z_isinstance xi__law_told_0_TooMany xf__law_told_0_what xi__law_told_0_BadLine z_bool xf__law_told_0_at C_Project___init___ok
  have C__law_many_ok := ok__law_many (P := l.prog) (w := w) (base := base) L__law_many z_range z_len C__law_name_ok C__law_draw_ok
  exact ok_law F cc_Project_LINES cc_Project_MODULES z_range z_len z_min z_max C__law_name_ok C__law_told_ok C__law_draw_ok C__law_many_ok C__law_source_ok

end K10
open PySem PySem.W PyProof.Rows
set_option maxHeartbeats 0 in
theorem PySem.Challenge.cw_patchedplaces_k10_bounds_holds : PySem.Challenge.rw_patchedplaces_k10_bounds.Holds := by
  w_on; o_law; k_head; (case hw => w_witness2)
  k_fill
  refine Sm.walk_ofG (l := PySem.Challenge.rw_patchedplaces_k10_bounds) (n := 63) (k := 16) (x := "_law_script") (CX := fun w => L2.CX PySem.Challenge.rw_patchedplaces_k10_bounds.prog w) (sp := fun w => Sm.lawSp _ 63) rfl (by decide) rfl ⟨⟨rfl, by decide, by decide⟩, rfl⟩ (fun w h Y => PySem.W.kIn_of Y) ?F (fun _ _ a xs hl hS => ⟨a, xs, rfl, hl, hS, fun _ => rfl⟩) (fun _ _ _ _ _ h => by obtain ⟨_, _, _, _, _, _, _, _, _, _, _, _, z⟩ := h; exact z)
  case F =>
    intro w mg fa h KX G hmg
    refine' K10.all_mk KX G hmg ?gs_LETTERS ?z_str ?z_isinstance ?z_len ?gt_KEYWORDS ?gl_KEYWORDS ?gz_KEYWORDS ?gv_KEYWORDS ?z_tuple ?m_Reader ?pg_Reader ?hd_Reader ?po_Reader ?sa_Reader ?na_Reader_kept ?na_Reader_defs ?na_Reader_places ?na_Reader_declared ?na_Reader_rows ?na_Reader_modules ?na_Reader_at ?na_Reader_lines ?z_list ?m_BodyReader ?pg_BodyReader ?hd_BodyReader ?po_BodyReader ?sa_BodyReader ?na_BodyReader_blocks ?na_BodyReader_body ?na_BodyReader_line ?na_BodyReader_hidden ?na_BodyReader_reader ?gi_MOST_BLOCKS ?gi_MOST_BODIES ?z_max ?m_Project ?pg_Project ?hd_Project ?po_Project ?sa_Project ?na_Project_kept ?na_Project_lines ?na_Project_defs ?na_Project_declared ?na_Project_rows ?na_Project_modules ?na_Project_text ?na_Project_weight ?ty_Project ?rd_Project ?fv_Project_WEIGHT ?fv_Project_MODULES ?fv_Project_LINES ?z_int ?z_abs ?m_PatchedError ?m_BadLine ?ex_PatchedError ?hd_PatchedError ?ty_PatchedError ?su_BadLine_PatchedError ?m_TooMany ?su_TooMany_PatchedError ?xg_BadLine ?xk_BadLine ?ex_BadLine ?hd_BadLine ?xa_BadLine ?xn ?xt ?xm_BadLine ?hd_TooMany ?ty_TooMany ?su_BadLine_TooMany ?ne_BadLine_TooMany ?xg_TooMany ?xk_TooMany ?ex_TooMany ?xa_TooMany ?xm_TooMany ?su_TooMany_TooMany ?na_BadLine_what ?na_TooMany_what ?ty_BadLine ?su_BadLine_BadLine ?su_TooMany_BadLine ?ne_TooMany_BadLine ?z_bool ?na_BadLine_at ?na_TooMany_at ?z_range ?z_min ?kc_BadLine ?sa_BadLine ?lk_BadLine ?rv_BadLine ?ic_BadLine ?tI_BadLine ?l_BadLine___init__ ?c_BadLine___init__ ?k_BadLine___init__ ?rd_PatchedError ?ga_PatchedError ?bi_PatchedError ?kc_TooMany ?sa_TooMany ?lk_TooMany ?rv_TooMany ?ic_TooMany ?tI_TooMany ?l_TooMany___init__ ?c_TooMany___init__ ?k_TooMany___init__ ?a_is_word ?l_is_word ?c_is_word ?k_is_word ?a_name_fits ?l_name_fits ?c_name_fits ?k_name_fits ?a_read_step ?l_read_step ?c_read_step ?k_read_step ?a_read_path ?l_read_path ?c_read_path ?k_read_path ?a_lines_of ?l_lines_of ?c_lines_of ?k_lines_of ?a_words_of ?l_words_of ?c_words_of ?k_words_of ?kc_Reader ?mk_Reader ?at_Reader___init__ ?fn_Reader___init__ ?l_Reader___init__ ?c_Reader___init__ ?k_Reader___init__ ?at_Reader_need ?fn_Reader_need ?l_Reader_need ?c_Reader_need ?k_Reader_need ?at_Reader_module ?fn_Reader_module ?l_Reader_module ?c_Reader_module ?k_Reader_module ?at_Reader_is_above ?fn_Reader_is_above ?l_Reader_is_above ?c_Reader_is_above ?k_Reader_is_above ?at_Reader_words ?fn_Reader_words ?l_Reader_words ?c_Reader_words ?k_Reader_words ?at_Reader_path_above ?fn_Reader_path_above ?l_Reader_path_above ?c_Reader_path_above ?k_Reader_path_above ?at_Reader_worth ?fn_Reader_worth ?l_Reader_worth ?c_Reader_worth ?k_Reader_worth ?at_Reader_declare ?fn_Reader_declare ?l_Reader_declare ?c_Reader_declare ?k_Reader_declare ?at_Reader_keep_row ?fn_Reader_keep_row ?l_Reader_keep_row ?c_Reader_keep_row ?k_Reader_keep_row ?at_Reader_read_import ?fn_Reader_read_import ?l_Reader_read_import ?c_Reader_read_import ?k_Reader_read_import ?at_Reader_read_from ?fn_Reader_read_from ?l_Reader_read_from ?c_Reader_read_from ?k_Reader_read_from ?at_Reader_read_name ?fn_Reader_read_name ?l_Reader_read_name ?c_Reader_read_name ?k_Reader_read_name ?at_Reader_read_entries ?fn_Reader_read_entries ?l_Reader_read_entries ?c_Reader_read_entries ?k_Reader_read_entries ?at_Reader_read_table ?fn_Reader_read_table ?l_Reader_read_table ?c_Reader_read_table ?k_Reader_read_table ?at_Reader_read_class ?fn_Reader_read_class ?l_Reader_read_class ?c_Reader_read_class ?k_Reader_read_class ?kc_BodyReader ?mk_BodyReader ?at_BodyReader___init__ ?fn_BodyReader___init__ ?l_BodyReader___init__ ?c_BodyReader___init__ ?k_BodyReader___init__ ?at_BodyReader_read_head ?fn_BodyReader_read_head ?l_BodyReader_read_head ?c_BodyReader_read_head ?k_BodyReader_read_head ?at_BodyReader_read_act ?fn_BodyReader_read_act ?l_BodyReader_read_act ?c_BodyReader_read_act ?k_BodyReader_read_act ?at_BodyReader_read_end ?fn_BodyReader_read_end ?l_BodyReader_read_end ?c_BodyReader_read_end ?k_BodyReader_read_end ?at_BodyReader_read_row ?fn_BodyReader_read_row ?l_BodyReader_read_row ?c_BodyReader_read_row ?k_BodyReader_read_row ?at_BodyReader_read ?fn_BodyReader_read ?l_BodyReader_read ?c_BodyReader_read ?k_BodyReader_read ?at_Reader_read_def ?fn_Reader_read_def ?l_Reader_read_def ?c_Reader_read_def ?k_Reader_read_def ?at_Reader_read_row ?fn_Reader_read_row ?l_Reader_read_row ?c_Reader_read_row ?k_Reader_read_row ?at_Reader_read ?fn_Reader_read ?l_Reader_read ?c_Reader_read ?k_Reader_read ?a_call_rows ?l_call_rows ?c_call_rows ?k_call_rows ?a_greatest_weight ?l_greatest_weight ?c_greatest_weight ?k_greatest_weight ?kc_Project ?mk_Project ?at_Project___init__ ?fn_Project___init__ ?l_Project___init__ ?c_Project___init__ ?k_Project___init__ ?a__law_source ?l__law_source ?c__law_source ?k__law_source ?a__law_draw ?l__law_draw ?c__law_draw ?k__law_draw ?a__law_name ?l__law_name ?c__law_name ?k__law_name ?a__law_told ?l__law_told ?c__law_told ?k__law_told ?a__law_many ?l__law_many ?c__law_many ?k__law_many ?a_law ?l_law ?c_law ?k_law
    (case gs_LETTERS => k_is)
    (case z_str => k_is)
    (case z_isinstance => k_is)
    (case z_len => k_is)
    (case gt_KEYWORDS => k_is)
    (case gl_KEYWORDS => k_is)
    (case gz_KEYWORDS => (rw [sizeLine_eq]; decide))
    (case gv_KEYWORDS => exact Sm.vals_of_b (by decide +kernel))
    (case z_tuple => k_is)
    (case m_Reader => k_is)
    (case pg_Reader => k_is)
    (case hd_Reader => k_is)
    (case po_Reader => k_is)
    (case sa_Reader => k_is)
    (case na_Reader_kept => k_is)
    (case na_Reader_defs => k_is)
    (case na_Reader_places => k_is)
    (case na_Reader_declared => k_is)
    (case na_Reader_rows => k_is)
    (case na_Reader_modules => k_is)
    (case na_Reader_at => k_is)
    (case na_Reader_lines => k_is)
    (case z_list => k_is)
    (case m_BodyReader => k_is)
    (case pg_BodyReader => k_is)
    (case hd_BodyReader => k_is)
    (case po_BodyReader => k_is)
    (case sa_BodyReader => k_is)
    (case na_BodyReader_blocks => k_is)
    (case na_BodyReader_body => k_is)
    (case na_BodyReader_line => k_is)
    (case na_BodyReader_hidden => k_is)
    (case na_BodyReader_reader => k_is)
    (case gi_MOST_BLOCKS => k_is)
    (case gi_MOST_BODIES => k_is)
    (case z_max => k_is)
    (case m_Project => k_is)
    (case pg_Project => k_is)
    (case hd_Project => k_is)
    (case po_Project => k_is)
    (case sa_Project => k_is)
    (case na_Project_kept => k_is)
    (case na_Project_lines => k_is)
    (case na_Project_defs => k_is)
    (case na_Project_declared => k_is)
    (case na_Project_rows => k_is)
    (case na_Project_modules => k_is)
    (case na_Project_text => k_is)
    (case na_Project_weight => k_is)
    (case ty_Project => k_is)
    (case rd_Project => k_is)
    (case fv_Project_WEIGHT => k_is)
    (case fv_Project_MODULES => k_is)
    (case fv_Project_LINES => k_is)
    (case z_int => k_is)
    (case z_abs => k_is)
    (case m_PatchedError => k_is)
    (case m_BadLine => k_is)
    (case ex_PatchedError => k_is)
    (case hd_PatchedError => k_is)
    (case ty_PatchedError => k_is)
    (case su_BadLine_PatchedError => k_is)
    (case m_TooMany => k_is)
    (case su_TooMany_PatchedError => k_is)
    (case xg_BadLine => k_is)
    (case xk_BadLine => k_is)
    (case ex_BadLine => k_is)
    (case hd_BadLine => k_is)
    (case xa_BadLine => k_is)
    (case xn => k_is)
    (case xt => k_is)
    (case xm_BadLine => k_is)
    (case hd_TooMany => k_is)
    (case ty_TooMany => k_is)
    (case su_BadLine_TooMany => k_is)
    (case ne_BadLine_TooMany => decide)
    (case xg_TooMany => k_is)
    (case xk_TooMany => k_is)
    (case ex_TooMany => k_is)
    (case xa_TooMany => k_is)
    (case xm_TooMany => k_is)
    (case su_TooMany_TooMany => k_is)
    (case na_BadLine_what => k_is)
    (case na_TooMany_what => k_is)
    (case ty_BadLine => k_is)
    (case su_BadLine_BadLine => k_is)
    (case su_TooMany_BadLine => k_is)
    (case ne_TooMany_BadLine => decide)
    (case z_bool => k_is)
    (case na_BadLine_at => k_is)
    (case na_TooMany_at => k_is)
    (case z_range => k_is)
    (case z_min => k_is)
    (case kc_BadLine => k_is)
    (case sa_BadLine => k_is)
    (case lk_BadLine => k_is)
    (case rv_BadLine => decide +kernel)
    (case ic_BadLine => k_is)
    (case tI_BadLine => k_is)
    (case l_BadLine___init__ => k_is)
    (case c_BadLine___init__ => k_is)
    (case k_BadLine___init__ => k_is)
    (case rd_PatchedError => k_is)
    (case ga_PatchedError => k_is)
    (case bi_PatchedError => k_is)
    (case kc_TooMany => k_is)
    (case sa_TooMany => k_is)
    (case lk_TooMany => k_is)
    (case rv_TooMany => decide +kernel)
    (case ic_TooMany => k_is)
    (case tI_TooMany => k_is)
    (case l_TooMany___init__ => k_is)
    (case c_TooMany___init__ => k_is)
    (case k_TooMany___init__ => k_is)
    (case a_is_word => k_is)
    (case l_is_word => k_is)
    (case c_is_word => k_is)
    (case k_is_word => k_is)
    (case a_name_fits => k_is)
    (case l_name_fits => k_is)
    (case c_name_fits => k_is)
    (case k_name_fits => k_is)
    (case a_read_step => k_is)
    (case l_read_step => k_is)
    (case c_read_step => k_is)
    (case k_read_step => k_is)
    (case a_read_path => k_is)
    (case l_read_path => k_is)
    (case c_read_path => k_is)
    (case k_read_path => k_is)
    (case a_lines_of => k_is)
    (case l_lines_of => k_is)
    (case c_lines_of => k_is)
    (case k_lines_of => k_is)
    (case a_words_of => k_is)
    (case l_words_of => k_is)
    (case c_words_of => k_is)
    (case k_words_of => k_is)
    (case kc_Reader => k_is)
    (case mk_Reader => k_is)
    (case at_Reader___init__ => k_is)
    (case fn_Reader___init__ => k_is)
    (case l_Reader___init__ => k_is)
    (case c_Reader___init__ => k_is)
    (case k_Reader___init__ => k_is)
    (case at_Reader_need => k_is)
    (case fn_Reader_need => k_is)
    (case l_Reader_need => k_is)
    (case c_Reader_need => k_is)
    (case k_Reader_need => k_is)
    (case at_Reader_module => k_is)
    (case fn_Reader_module => k_is)
    (case l_Reader_module => k_is)
    (case c_Reader_module => k_is)
    (case k_Reader_module => k_is)
    (case at_Reader_is_above => k_is)
    (case fn_Reader_is_above => k_is)
    (case l_Reader_is_above => k_is)
    (case c_Reader_is_above => k_is)
    (case k_Reader_is_above => k_is)
    (case at_Reader_words => k_is)
    (case fn_Reader_words => k_is)
    (case l_Reader_words => k_is)
    (case c_Reader_words => k_is)
    (case k_Reader_words => k_is)
    (case at_Reader_path_above => k_is)
    (case fn_Reader_path_above => k_is)
    (case l_Reader_path_above => k_is)
    (case c_Reader_path_above => k_is)
    (case k_Reader_path_above => k_is)
    (case at_Reader_worth => k_is)
    (case fn_Reader_worth => k_is)
    (case l_Reader_worth => k_is)
    (case c_Reader_worth => k_is)
    (case k_Reader_worth => k_is)
    (case at_Reader_declare => k_is)
    (case fn_Reader_declare => k_is)
    (case l_Reader_declare => k_is)
    (case c_Reader_declare => k_is)
    (case k_Reader_declare => k_is)
    (case at_Reader_keep_row => k_is)
    (case fn_Reader_keep_row => k_is)
    (case l_Reader_keep_row => k_is)
    (case c_Reader_keep_row => k_is)
    (case k_Reader_keep_row => k_is)
    (case at_Reader_read_import => k_is)
    (case fn_Reader_read_import => k_is)
    (case l_Reader_read_import => k_is)
    (case c_Reader_read_import => k_is)
    (case k_Reader_read_import => k_is)
    (case at_Reader_read_from => k_is)
    (case fn_Reader_read_from => k_is)
    (case l_Reader_read_from => k_is)
    (case c_Reader_read_from => k_is)
    (case k_Reader_read_from => k_is)
    (case at_Reader_read_name => k_is)
    (case fn_Reader_read_name => k_is)
    (case l_Reader_read_name => k_is)
    (case c_Reader_read_name => k_is)
    (case k_Reader_read_name => k_is)
    (case at_Reader_read_entries => k_is)
    (case fn_Reader_read_entries => k_is)
    (case l_Reader_read_entries => k_is)
    (case c_Reader_read_entries => k_is)
    (case k_Reader_read_entries => k_is)
    (case at_Reader_read_table => k_is)
    (case fn_Reader_read_table => k_is)
    (case l_Reader_read_table => k_is)
    (case c_Reader_read_table => k_is)
    (case k_Reader_read_table => k_is)
    (case at_Reader_read_class => k_is)
    (case fn_Reader_read_class => k_is)
    (case l_Reader_read_class => k_is)
    (case c_Reader_read_class => k_is)
    (case k_Reader_read_class => k_is)
    (case kc_BodyReader => k_is)
    (case mk_BodyReader => k_is)
    (case at_BodyReader___init__ => k_is)
    (case fn_BodyReader___init__ => k_is)
    (case l_BodyReader___init__ => k_is)
    (case c_BodyReader___init__ => k_is)
    (case k_BodyReader___init__ => k_is)
    (case at_BodyReader_read_head => k_is)
    (case fn_BodyReader_read_head => k_is)
    (case l_BodyReader_read_head => k_is)
    (case c_BodyReader_read_head => k_is)
    (case k_BodyReader_read_head => k_is)
    (case at_BodyReader_read_act => k_is)
    (case fn_BodyReader_read_act => k_is)
    (case l_BodyReader_read_act => k_is)
    (case c_BodyReader_read_act => k_is)
    (case k_BodyReader_read_act => k_is)
    (case at_BodyReader_read_end => k_is)
    (case fn_BodyReader_read_end => k_is)
    (case l_BodyReader_read_end => k_is)
    (case c_BodyReader_read_end => k_is)
    (case k_BodyReader_read_end => k_is)
    (case at_BodyReader_read_row => k_is)
    (case fn_BodyReader_read_row => k_is)
    (case l_BodyReader_read_row => k_is)
    (case c_BodyReader_read_row => k_is)
    (case k_BodyReader_read_row => k_is)
    (case at_BodyReader_read => k_is)
    (case fn_BodyReader_read => k_is)
    (case l_BodyReader_read => k_is)
    (case c_BodyReader_read => k_is)
    (case k_BodyReader_read => k_is)
    (case at_Reader_read_def => k_is)
    (case fn_Reader_read_def => k_is)
    (case l_Reader_read_def => k_is)
    (case c_Reader_read_def => k_is)
    (case k_Reader_read_def => k_is)
    (case at_Reader_read_row => k_is)
    (case fn_Reader_read_row => k_is)
    (case l_Reader_read_row => k_is)
    (case c_Reader_read_row => k_is)
    (case k_Reader_read_row => k_is)
    (case at_Reader_read => k_is)
    (case fn_Reader_read => k_is)
    (case l_Reader_read => k_is)
    (case c_Reader_read => k_is)
    (case k_Reader_read => k_is)
    (case a_call_rows => k_is)
    (case l_call_rows => k_is)
    (case c_call_rows => k_is)
    (case k_call_rows => k_is)
    (case a_greatest_weight => k_is)
    (case l_greatest_weight => k_is)
    (case c_greatest_weight => k_is)
    (case k_greatest_weight => k_is)
    (case kc_Project => k_is)
    (case mk_Project => k_is)
    (case at_Project___init__ => k_is)
    (case fn_Project___init__ => k_is)
    (case l_Project___init__ => k_is)
    (case c_Project___init__ => k_is)
    (case k_Project___init__ => k_is)
    (case a__law_source => k_is)
    (case l__law_source => k_is)
    (case c__law_source => k_is)
    (case k__law_source => k_is)
    (case a__law_draw => k_is)
    (case l__law_draw => k_is)
    (case c__law_draw => k_is)
    (case k__law_draw => k_is)
    (case a__law_name => k_is)
    (case l__law_name => k_is)
    (case c__law_name => k_is)
    (case k__law_name => k_is)
    (case a__law_told => k_is)
    (case l__law_told => k_is)
    (case c__law_told => k_is)
    (case k__law_told => k_is)
    (case a__law_many => k_is)
    (case l__law_many => k_is)
    (case c__law_many => k_is)
    (case k__law_many => k_is)
    (case a_law => k_is)
    (case l_law => k_is)
    (case c_law => k_is)
    (case k_law => k_is)
