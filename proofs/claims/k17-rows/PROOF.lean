import PyProof.Rows.All
import Wide.All
import OpenK.AllK
import Wide.FinOn
import HandS.ForMost
import HandS.ForExc
import HandS.ExcInit
import HandS.ExcField
import HandS.CallSlots
import HandS.Ends
import PyProof.ReprRoads
import PyProof.ReprLen
import HandS.Style
import PyProof.P3Eq
import HandS.IsInst
import HandS.FStr
import HandS.Iter
import HandS.DictComp
import HandS.Dict
import HandS.ExcIs
import KE.KExcIs
import PySem.Challenge.RW_patchedplaces_k17_rows_merged
set_option Elab.async false
set_option linter.all false
set_option maxRecDepth 100000
/-! Sm0: promises of defs that know that no repr is under way around them. -/
namespace Sm
open PySem PySem.Spec PyProof.Rows L2
/-- room for a call; no repr is under way -/
structure RmG (k : Nat) (A : Around) : Prop extends Room k A where
  gd : A.guards = some []
section
variable {j k : Nat} {A : Around}
theorem RmG.mono (r : RmG k A) (h : j ≤ k) : RmG j A := ⟨r.toRoom.mono h, r.gd⟩
theorem RmG.deeper (r : RmG (k + 1) A) (e : Env) : RmG k (A.deeper e) := ⟨r.toRoom.deeper e, r.gd⟩
theorem RmG.make (r : RmG (k + 1) A) (C : Addr) (us : List Value) (kw : List (Str × Value)) : RmG k (A.under (.builtin "type.__call__" ⟨.ref C :: us, kw⟩)) :=
  ⟨r.toRoom.make C us kw, by
    have g : (Code.builtin "type.__call__" ⟨Value.ref C :: us, kw⟩).isGuard = false := by simp [Code.isGuard, guardIds]
    have e : (Code.builtin "type.__call__" ⟨Value.ref C :: us, kw⟩).guards = [] := by unfold Code.guards; rw [g]; rfl
    unfold Around.under
    simp only [e]
    exact r.gd⟩
theorem RmG.units (r : RmG k A) : A.units + 64 < cLine := r.toRoom.units
end
/-- what a def keeps, called where no repr is under way -/
structure FnG (P : Program) (w : World) (K : PySem.W.Frag) (mg : Str → Option Value) (base : Heap) (CX : CXT) (k : Nat) (f : Addr) (fd : FuncData) (ps : List Str) (sp : Sp) : Prop where
  len : ∀ vs H Q E, sp vs H Q E → vs.length = ps.length
  run : ∀ (A : Around) (out : List Env) (s : Shared) (H : Hp) (as : Args) (us : List Value) (vs : List V) (Q : VK) (E : XK), RmG k A → Env0 P w K mg base A out s H → BindsTo s fd as (ps.zip us) → Vals vs us → sp vs H Q E →
    codeAny (model P w) A (.call (.ref f) as) (CR CX out P w H s Q E) s
section
variable {P : Program} {w : World} {K : PySem.W.Frag} {mg : Str → Option Value} {base : Heap} {CX : CXT} {k : Nat} {f : Addr} {fd : FuncData} {ps : List Str} {sp : Sp}
theorem FnG.imp {sp' : Sp} (F : FnG P w K mg base CX k f fd ps sp) (h : ∀ vs H Q E, sp' vs H Q E → sp vs H Q E) : FnG P w K mg base CX k f fd ps sp' :=
  ⟨fun vs H Q E q => F.len vs H Q E (h _ _ _ _ q), fun A out s H as us vs Q E a b c d e => F.run A out s H as us vs Q E a b c d (h _ _ _ _ e)⟩
theorem FnG.of (F : FnOk P w K mg base CX k f fd ps sp) : FnG P w K mg base CX k f fd ps sp :=
  ⟨F.len, fun A out s H as us vs Q E a b c d e => F.run A out s H as us vs Q E a.toRoom b c d e⟩
/-- a def by its body -/
theorem okG {x qual : Str} {st : Stmt} {N : List Str} (F : Fun K x qual st f fd) (S : FnScope N ps (defScope st)) (len : ∀ vs H Q E, sp vs H Q E → vs.length = ps.length)
    (hb : ∀ (cd : Value) (A : Around) (out : List Env) (s : Shared) (H : Hp) (vs : List V) (Q : VK) (E : XK), RmG k (A.deeper (envOfC qual (defScope st) s.heap.objs.size f cd)) → sp vs H Q E →
      ∃ t, PSs (cxOf CX P w K mg base N qual (defScope st) f cd A out s H E) (defBody st) t ∧ t { nx := fun _ H' => Q .non H', rt := Q } (start N vs) H) : FnG P w K mg base CX (k + 1) f fd ps sp := by
  obtain ⟨oc, od, kV, doc, pm, an, cd, ct, osl, rfl, lk, hc⟩ := F.ex
  constructor
  · exact len
  intro A out s H as us vs Q E room e0 bind val hsp
  have inS : K.In s.heap := e0.mod.kin.keeps fun b o z => (e0.bs b o z).1
  obtain ⟨t, ht, hq⟩ := hb cd A out s H vs Q E (room.deeper _) hsp
  have kinds : ∀ y ∈ ps.zip us, (defScope st).names.lookup y.1 = some .local ∨ ((defScope st).names.lookup y.1 = some .cell ∧ ((cellsFrom (s.heap.objs.size + 1) (defScope st).names []).lookup y.1).isSome = true) := by
    intro y hy
    obtain ⟨n, v⟩ := y
    exact (S.par n (List.of_mem_zip hy).1).imp id fun q => ⟨q, PySem.W.cellsFrom_some _ _ _ (.inl q)⟩
  apply codeAny_call_function room.toRoom.depth (inS _ _ lk) rfl S.co S.gen rfl (PySem.W.codeRec_of inS hc)
  apply bind
  apply wpAny_newFunctionEnv_cells S.kind kinds
  intro env henv s1 x
  subst henv
  have li : s.heap.NoLimit := e0.mod.nolimit.keeps fun b o z => (e0.bs b o z).1
  refine ⟨li.keeps x.toInCall.keep, codeAny_func (wpAny_mono (ht.run [] s1 (start N vs) H _ (inv_start S room.hd e0 (len _ _ _ _ hsp) val x) hq) (fun fl s2 z => ?_) fun _ _ z => z)⟩
  cases fl with
  | next =>
    obtain ⟨_, H2, J, q⟩ := z
    exact ⟨.non, H2, J.os, J.bare, J.base, J.hok, rfl, q⟩
  | ret u =>
    obtain ⟨v, _, H2, J, rv, q⟩ := z
    exact ⟨v, H2, J.os, J.bare, J.base, J.hok, rv, q⟩
  | brk => obtain ⟨_, _, _, q⟩ := z; exact q.elim
  | cont => obtain ⟨_, _, _, q⟩ := z; exact q.elim
end
section
variable {X : Cx} {CX : CXT} {k : Nat} {f : Addr} {fd : FuncData} {ps : List Str} {sp : Sp} {E : L2.St → XK}
/-- the callee runs; what it raises is wished for at the slots of the call -/
theorem run_fnG {pins : List (Addr × Obj)} {σ : L2.St} {H : Hp} {s : Shared} {Q : VK} {us : List Value} {vs : List V} (F : FnG X.prog X.w X.K X.mg X.base CX k f fd ps sp) (hr : RmG k X.A) (hb : Binds X.K fd ps []) (hx : PassesAt CX X σ (E σ))
    (I : Inv X pins σ H s) (r : Vals vs us) (h : sp vs H Q (E σ)) : wpAny (model X.prog X.w) X.A (call (.ref f) us) (EP X pins σ Q) X.xe s := by
  have hl : us.length = ps.length := r.length.symm.trans (F.len _ _ _ _ h)
  have b := hb s us I.kIn (by simpa using hl)
  rw [List.append_nil] at b
  apply wpAny_call
  apply codeAny_mono (F.run X.A X.stack s H ⟨us, []⟩ us vs Q (E σ) hr I.env0 b r h)
  intro out s' z
  match out, z with
  | .error e, z => exact hx pins H s e s' I z
  | .ok (.ret u), z => exact I.after z
  | .ok .next, z => exact z.elim
  | .ok .brk, z => exact z.elim
  | .ok .cont, z => exact z.elim
theorem pe_callG {x : Str} {p pos : Pos} {e : Expr} {es : List Expr} {t : TA} (F : FnG X.prog X.w X.K X.mg X.base CX k f fd ps sp) (hr : RmG k X.A) (hg : Gl X x) (hm : X.mg x = some (.ref f)) (hk : PySem.W.keepIn X.K (.ref f) = true) (hb : Binds X.K fd ps [])
    (hx : ∀ σ, PassesAt CX X σ (E σ)) (ha : PA X (e :: es) t) (hd : (x == ("__debug__" : Str)) = false) (he : starEach (e :: es) X.env = (false, eval e X.env) :: starEach es X.env) (hp : (backTo pos (starEach es X.env)).any (·.1) = false) :
    PE X (.Call (.Name x p) (e :: es) [] pos) (tCallS sp E t) := by
  constructor
  intro pins s σ H Q I h
  apply wpAny_Call_Name_kw
  apply ld_glob I hg hm _ hd
  have go := ha.run pos pins s σ H _ I h
  exact PySem.W.callWith_K (h₀ := X.base) I.ok.mod.kin hk (thn go fun us s1 z => by
    obtain ⟨vs, H1, J, r, q⟩ := z
    exact ⟨J.kIn, run_fnG F hr hb (hx σ) J r q⟩) he hp
theorem pe_callG0 {x : Str} {p pos : Pos} (F : FnG X.prog X.w X.K X.mg X.base CX k f fd ps sp) (hr : RmG k X.A) (hg : Gl X x) (hm : X.mg x = some (.ref f)) (hk : PySem.W.keepIn X.K (.ref f) = true) (hb : Binds X.K fd ps [])
    (hx : ∀ σ, PassesAt CX X σ (E σ)) (hd : (x == ("__debug__" : Str)) = false) : PE X (.Call (.Name x p) [] [] pos) (tCallS sp E tNil) := by
  constructor
  intro pins s σ H Q I h
  apply wpAny_Call_Name_kw
  apply ld_glob I hg hm _ hd
  exact PySem.W.callWith_K0 I.kIn hk (run_fnG (us := []) F hr hb (hx σ) I .nil h)
end
/-! ### a law -/
section
variable {P : Program} {w : World} {K : PySem.W.Frag} {mg mb : Str → Option Value} {CX : CXT} {k : Nat} {fa a : Addr} {fd : FuncData} {x : Str} {sp : Sp} {s0 : Shared} {us : List Value} {ns : List Int}
/-- the law's call from a heap in which at most the script is tracked -/
theorem law_at {H : Hp} {g : Obj} (KX : K.In s0.heap) (hn : s0.heap.Ns mainGlobals mg) (hb : s0.heap.Ns builtinsNs mb) (hbb : ∀ x : Str, x ≠ "__name__" → mb x = bootBuiltins x) (hl : s0.heap.NoLimit) (hg : s0.gens = #[])
    (ga : s0.heap.get? a = some g) (gl : ∀ es n, g.data ≠ .dict es n) (hr : RmG k callerA) (F : ∀ base : Heap, K.In base → base.Ns mainGlobals mg → FnG P w K mg base CX k fa fd [x] sp) (bi : ∀ (s : Shared) (u : Value), BindsTo s fd ⟨[u], []⟩ [(x, u)])
    (ok : HOk P w H s0.heap) (only : ∀ b, H b ≠ none → b = a ∧ K.lookup a = none ∧ ∃ o xs, H b = some (.frz o (.lst xs))) (hsp : sp [.ref a] H (fun v _ => v = .bl true) fun _ _ _ => False) (hC : ∀ e s', CX [] H s0 (fun _ _ _ => False) e s' → False) :
    codeAny (model P w) callerA (.call (.ref fa) ⟨[.ref a], []⟩) (fun r s' => r = .ok (.ret (.bool true)) ∧ OldK s0.heap s'.heap ∧ s'.os = s0.os ∧ AllBare s'.gens) s0 := by
  have fresh : ∀ b, b ≠ a → H b = none := fun b hb => by
    cases q : H b with
    | none => rfl
    | some u => exact absurd (only b (by rw [q]; exact fun z => by cases z)).1 hb
  have dictN : ∀ {b : Addr} {o : Obj} {es : Array DictEntry} {n : Nat}, s0.heap.get? b = some o → o.data = .dict es n → H b = none := fun {b o es n} e d => fresh b fun hb => by
    subst hb
    rw [ga] at e
    cases e
    exact gl es n d
  have low : ∀ {b : Addr} {m : Str → Option Value}, s0.heap.Ns b m → (hidT s0.heap H).Ns b m := fun {b m} ⟨o, es, n, e, d, r⟩ => ⟨o, es, n, hidT_get e (dictN e d), d, r⟩
  have KB : K.In (hidT s0.heap H) := fun b o e => hidT_get (KX b o e) (by
    cases q : H b with
    | none => rfl
    | some u =>
      obtain ⟨z1, z2, _⟩ := only b (by rw [q]; exact fun z => by cases z)
      subst z1
      rw [z2] at e
      cases e)
  obtain ⟨mc, l1, l2⟩ := hl
  have M : Mod K mg (hidT s0.heap H) := ⟨KB, low hn, ⟨mb, low hb, hbb⟩, ⟨mc, low l1, l2⟩⟩
  have nofr : ∀ b : Addr, b ∉ frs ([] : List Env) := fun b z => by cases z
  have e0 : Env0 P w K mg (hidT s0.heap H) callerA [] s0 H := ⟨rfl, M, fun b o e => of_hidT e, Nat.le_of_eq (hidT_size _ _), trivial, fun b hb => absurd hb (nofr b), ok, .of_eq hg⟩
  apply codeAny_mono ((F _ KB (low hn)).run callerA [] s0 H ⟨[.ref a], []⟩ [.ref a] [.ref a] _ _ hr e0 (bi s0 (.ref a)) (.cons rfl .nil) hsp)
  intro r s' z
  match r, z with
  | .error e, z => exact (hC e s' z).elim
  | .ok .next, z => exact z.elim
  | .ok .brk, z => exact z.elim
  | .ok .cont, z => exact z.elim
  | .ok (.ret u), z =>
    obtain ⟨v, H', hos, bare, un, ok', rv, hv⟩ := z
    cases hv
    obtain rfl : u = Value.bool true := rv
    refine ⟨rfl, OldK.of_keep fun b o e => ?_, hos, bare⟩
    cases q : H b with
    | none => exact un.keep b o e q (nofr b) (by simp)
    | some y =>
      obtain ⟨_, _, ob, xs, z⟩ := only b (by rw [q]; exact fun z => by cases z)
      obtain ⟨g1, _⟩ := ok b _ z
      obtain ⟨g2, _⟩ := ok' b _ (un.frzs b ob _ z)
      rw [e] at g1
      cases g1
      exact g2
theorem law_callG (KX : K.In s0.heap) (hn : s0.heap.Ns mainGlobals mg) (hb : s0.heap.Ns builtinsNs mb) (hbb : ∀ x : Str, x ≠ "__name__" → mb x = bootBuiltins x) (hl : s0.heap.NoLimit) (hg : s0.gens = #[])
    (ga : s0.heap.get? a = some { cls := .type "list", data := .seq us.toArray }) (hi : IntsAre us ns) (hz : ns.length ≤ sizeLine) (hr : RmG k callerA) (F : ∀ base : Heap, K.In base → base.Ns mainGlobals mg → FnG P w K mg base CX k fa fd [x] sp)
    (bi : ∀ (s : Shared) (u : Value), BindsTo s fd ⟨[u], []⟩ [(x, u)]) (hsp : ∀ H : Hp, SqL K H a (ns.map V.int) → sp [.ref a] H (fun v _ => v = .bl true) fun _ _ _ => False) (hC : ∀ H e s', CX [] H s0 (fun _ _ _ => False) e s' → False) :
    codeAny (model P w) callerA (.call (.ref fa) ⟨[.ref a], []⟩) (fun r s' => r = .ok (.ret (.bool true)) ∧ OldK s0.heap s'.heap ∧ s'.os = s0.os ∧ AllBare s'.gens) s0 := by
  have rv := vals_ints hi
  have ln := hi.length
  have nod : ∀ (es : Array DictEntry) (n : Nat), ({ cls := .type "list", data := .seq us.toArray } : Obj).data ≠ .dict es n := fun es n z => by
    have z : Data.seq us.toArray _ = Data.dict es n := z
    cases z
  rcases hk : K.lookup a with _ | o
  · let H : Hp := fun b => if b = a then some (.frz { cls := .type "list", data := .seq us.toArray } (.lst (ns.map V.int))) else none
    have hH : H a = some (.frz { cls := .type "list", data := .seq us.toArray } (.lst (ns.map V.int))) := if_pos rfl
    have hN : ∀ b, b ≠ a → H b = none := fun b hb => if_neg hb
    refine law_at (H := H) KX hn hb hbb hl hg ga nod hr F bi (fun b u z => ?_) (fun b z => ?_) (hsp H (.inl (.inr ⟨_, hH⟩))) (hC H)
    · by_cases e : b = a
      · subst e
        rw [hH] at z
        cases z
        exact ⟨ga, by rw [List.length_map]; exact hz, us, _, rv, ga⟩
      · rw [hN b e] at z; cases z
    · by_cases e : b = a
      · subst e; exact ⟨rfl, hk, _, _, hH⟩
      · exact absurd (hN b e) z
  · have e := KX a o hk
    rw [ga] at e
    cases e
    exact law_at (H := fun _ => none) KX hn hb hbb hl hg ga nod hr F bi (fun b u z => by have z : (none : Option HO) = some u := z; cases z) (fun b z => absurd rfl z)
      (hsp _ (.inr ⟨_, us.toArray, _, hk, rfl, rfl, rfl, by rw [List.size_toArray, ln]; exact hz, by simpa using rv⟩)) (hC _)
/-- the goal that k_head leaves -/
theorem walk_ofG {l : PySem.W.OpenLaw} {n : Nat} {q : Program} {loose : List Str} {XP : (Str → Option Value) → Heap → Prop} {YP : World → Heap → Prop} {d : DefRec} {K : Params → PySem.W.Frag} {CX : World → CXT} {sp : World → Sp}
    (hn : l.most = some n) (hz : n ≤ sizeLine) (hdf : d.params.defaults = []) (hr : RmG k callerA) (hY : ∀ (w : World) (h : Heap), YP w h → (K w.params).In h)
    (F : ∀ (w : World) (mg : Str → Option Value) (fa : Addr) (h : Heap), (K w.params).In h → h.Ns mainGlobals mg → mg d.name = some (.ref fa) → ∃ fd : FuncData, (∀ (s : Shared) (u : Value), BindsTo s fd ⟨[u], []⟩ [(x, u)]) ∧
        ∀ base : Heap, (K w.params).In base → base.Ns mainGlobals mg → FnG l.prog w (K w.params) mg base (CX w) k fa fd [x] (sp w))
    (hsp : ∀ (w : World) (H : Hp) (a : Addr) (ns : List Int), ns.length ≤ n → SqL (K w.params) H a (ns.map V.int) → sp w [.ref a] H (fun v _ => v = .bl true) fun _ _ _ => False)
    (hC : ∀ (w : World) (H : Hp) (s : Shared) (e : Value) (s' : Shared), CX w [] H s (fun _ _ _ => False) e s' → False) : PySem.W.WalkO q loose XP YP l.row.toRowW d [] (fun f vs => PySem.call f vs) := by
  apply Att.attach_call hn hdf
  intro w _ s1 mg mb fa _ _ _ _ a us ns G Y _ _ _ hm ho hi hl hg
  have KX := hY w _ Y
  obtain ⟨fd, bi, hF⟩ := F w mg fa _ KX G.T.g hm
  exact law_callG KX G.T.g G.T.b G.T.builtins G.T.nolimit hg ho hi (Nat.le_trans hl hz) hr hF bi (fun H hS => hsp w H a ns hl hS) fun H e s' => hC w H s1 e s'
end
end Sm

/-! Sm: a functional reading of the hand layer: values as data, mutable objects in a store by numbers. -/
namespace Sm
open PySem PySem.Spec PyProof.Rows L2

/-- the written part; the module's names; the exception that is being handled here: its slot, its dict's number, itself, its dict -/
structure KX where
  k : PySem.W.Frag
  mg : Str → Option Value
  ex : Option (Nat × Nat × Addr × Addr)
/-- what is wished of an exception; the one that is being handled -/
structure WZ where
  x : WX
  ex : Option (Nat × Nat × Addr × Addr) := none
def exOff (ex : Option (Nat × Nat × Addr × Addr)) (vs : List Nat) : Bool := match ex with
  | none => true
  | some (i, _) => !vs.contains i
/-- the class of a name -/
def clsV (mg : Str → Option Value) (C : Str) : Value := (mg C).getD .none
inductive IV where
  | non | bl (b : Bool) | int (i : Int) | str (s : Str) | adr (n : Nat) | lst (xs : List IV) | wls (xs : List IV) | tup (xs : List IV) | ref (a : Addr) | ty (n : String)
  deriving Inhabited
inductive Cell where
  | lst (xs : List IV) | dic (kvs : List (Key × IV)) | dicL (kvs : List (Key × IV)) | ins (C : Str) (fs : List (Str × IV)) | xd (fs : List (Str × IV))
abbrev Sto := List Cell
abbrev Slots := List (Option IV)
inductive Out (α : Type) where
  | ok (a : α) (S : Sto)
  | exc (C : Str) (n : Nat) (L : Slots) (S : Sto)
  | bad
def Out.bind {α β : Type} : Out α → (α → Sto → Out β) → Out β
  | .ok a S, k => k a S
  | .exc C n L S, _ => .exc C n L S
  | .bad, _ => .bad
@[simp] theorem Out.bind_ok {α β : Type} (a : α) (S : Sto) (k : α → Sto → Out β) : (Out.ok a S).bind k = k a S := rfl
@[simp] theorem Out.bind_exc {α β : Type} (C n L) (S : Sto) (k : α → Sto → Out β) : (Out.exc C n L S).bind k = .exc C n L S := rfl
@[simp] theorem Out.bind_bad {α β : Type} (k : α → Sto → Out β) : (Out.bad).bind k = .bad := rfl
theorem Out.bind_assoc {α β γ : Type} (o : Out α) (k : α → Sto → Out β) (j : β → Sto → Out γ) : (o.bind k).bind j = o.bind fun a S => (k a S).bind j := by
  cases o <;> rfl

structure Wd where
  rho : List Addr
  F : Hp
  G : Hp
structure Wd.lr (w w' : Wd) : Prop where
  rho : ∃ more, w'.rho = w.rho ++ more
  F : Same w.F w'.F
structure Wd.le (w w' : Wd) : Prop extends Wd.lr w w' where
  G : w'.G = w.G
/-- .. and what is locked stays -/
structure Wd.lz (w w' : Wd) : Prop extends Wd.lr w w' where
  fz : ∀ (a : Addr) (u : Obj) (v : HO), w.G a = some (.frz u v) → w'.G a = some (.frz u v)
theorem Wd.le.lz {w w' : Wd} (h : w.le w') : w.lz w' := ⟨h.1, fun a u v e => by rw [h.G]; exact e⟩
theorem Wd.lr.refl (w : Wd) : w.lr w := ⟨⟨[], by simp⟩, Same.refl _⟩
theorem Wd.lr.trans {a b c : Wd} (h : a.lr b) (k : b.lr c) : a.lr c := by
  obtain ⟨⟨m, e⟩, f⟩ := h
  obtain ⟨⟨m', e'⟩, f'⟩ := k
  exact ⟨⟨m ++ m', by rw [e', e, List.append_assoc]⟩, f.trans f'⟩
theorem Wd.le.refl (w : Wd) : w.le w := ⟨Wd.lr.refl w, rfl⟩
theorem Wd.le.trans {a b c : Wd} (h : a.le b) (k : b.le c) : a.le c := ⟨h.1.trans k.1, k.2.trans h.2⟩
theorem Wd.lr.get {w w' : Wd} (h : w.lr w') {n : Nat} {a : Addr} (e : w.rho[n]? = some a) : w'.rho[n]? = some a := by
  obtain ⟨m, e'⟩ := h.rho
  rw [e', List.getElem?_append_left (List.getElem?_eq_some_iff.mp e).1]
  exact e

mutual
inductive Rel (K : KX) (w : Wd) : V → IV → Prop
  | non : Rel K w .non .non
  | bl (b : Bool) : Rel K w (.bl b) (.bl b)
  | int (i : Int) : Rel K w (.int i) (.int i)
  | str (x : Str) : Rel K w (.str x) (.str x)
  | adr {n : Nat} {a : Addr} : w.rho[n]? = some a → Rel K w (.ref a) (.adr n)
  | lst {a : Addr} {xs : List V} {ivs : List IV} : w.F a = some (.lst xs) → RelL K w xs ivs → Rel K w (.ref a) (.lst ivs)
  | wls {a : Addr} {xs : List V} {ivs : List IV} : SqL K.k w.F a xs → RelL K w xs ivs → Rel K w (.ref a) (.wls ivs)
  | tup {a : Addr} {xs : List V} {ivs : List IV} : SqT K.k w.F a xs → RelL K w xs ivs → Rel K w (.ref a) (.tup ivs)
  | ref (a : Addr) : Rel K w (.ref a) (.ref a)
  | ty (n : String) : Rel K w (.ty n) (.ty n)
inductive RelL (K : KX) (w : Wd) : List V → List IV → Prop
  | nil : RelL K w [] []
  | cons {v : V} {vs : List V} {iv : IV} {ivs : List IV} : Rel K w v iv → RelL K w vs ivs → RelL K w (v :: vs) (iv :: ivs)
end
theorem same_t {K : PySem.W.Frag} {H H' : Hp} {a : Addr} {xs : List V} (e : Same H H') (h : SqT K H a xs) : SqT K H' a xs := by
  rcases h with (h | ⟨o, h⟩) | h
  · exact .inl (.inl (e _ _ h))
  · exact .inl (.inr ⟨o, e _ _ h⟩)
  · exact .inr h
section
variable {K : KX} {w w' : Wd}
mutual
theorem Rel.mono (l : w.lr w') : ∀ (iv : IV) (v : V), Rel K w v iv → Rel K w' v iv
  | .non, _, h => by cases h; exact .non
  | .bl b, _, h => by cases h; exact .bl b
  | .int b, _, h => by cases h; exact .int b
  | .str b, _, h => by cases h; exact .str b
  | .adr n, _, h => by
    cases h with
    | adr e => exact .adr (l.get e)
  | .lst ivs, _, h => by
    cases h with
    | lst e r => exact .lst (l.F _ _ e) (RelL.mono l ivs _ r)
  | .wls ivs, _, h => by
    cases h with
    | wls e r => exact .wls (l.F.seq e) (RelL.mono l ivs _ r)
  | .tup ivs, _, h => by
    cases h with
    | tup e r => exact .tup (same_t l.F e) (RelL.mono l ivs _ r)
  | .ref a, _, h => by cases h; exact .ref a
  | .ty n, _, h => by cases h; exact .ty n
theorem RelL.mono (l : w.lr w') : ∀ (ivs : List IV) (vs : List V), RelL K w vs ivs → RelL K w' vs ivs
  | [], _, h => by cases h; exact .nil
  | iv :: ivs, _, h => by
    cases h with
    | cons a b => exact .cons (Rel.mono l iv _ a) (RelL.mono l ivs _ b)
end
theorem Rel.up {v : V} {iv : IV} (h : Rel K w v iv) (l : w.le w') : Rel K w' v iv := Rel.mono l.1 _ _ h
theorem RelL.up {v : List V} {iv : List IV} (h : RelL K w v iv) (l : w.le w') : RelL K w' v iv := RelL.mono l.1 _ _ h
theorem RelL.length : ∀ {vs : List V} {ivs : List IV}, RelL K w vs ivs → vs.length = ivs.length
  | _, _, .nil => rfl
  | _, _, .cons _ h => by rw [List.length_cons, List.length_cons, RelL.length h]
theorem RelL.get : ∀ {vs : List V} {ivs : List IV} {i : Nat} {iv : IV}, RelL K w vs ivs → ivs[i]? = some iv → ∃ v, vs[i]? = some v ∧ Rel K w v iv
  | _, _, _, _, .nil, e => by simp at e
  | _, _, 0, _, .cons r _, e => by simp at e; subst e; exact ⟨_, rfl, r⟩
  | _, _, i + 1, iv, .cons _ t, e => by
    obtain ⟨u, h1, h2⟩ := RelL.get (i := i) (iv := iv) t (by simpa using e)
    exact ⟨u, by simpa using h1, h2⟩
theorem RelL.get' : ∀ {vs : List V} {ivs : List IV} {i : Nat} {v : V}, RelL K w vs ivs → vs[i]? = some v → ∃ iv, ivs[i]? = some iv ∧ Rel K w v iv
  | _, _, _, _, .nil, e => by simp at e
  | _, _, 0, _, .cons r _, e => by simp at e; subst e; exact ⟨_, rfl, r⟩
  | _, _, i + 1, iv, .cons _ t, e => by
    obtain ⟨u, h1, h2⟩ := RelL.get' (i := i) (v := iv) t (by simpa using e)
    exact ⟨u, by simpa using h1, h2⟩
theorem RelL.append : ∀ {xs ys : List V} {us ws : List IV}, RelL K w xs us → RelL K w ys ws → RelL K w (xs ++ ys) (us ++ ws)
  | _, _, _, _, .nil, s => s
  | _, _, _, _, .cons r t, s => .cons r (RelL.append t s)
theorem RelL.take : ∀ {xs : List V} {us : List IV} (n : Nat), RelL K w xs us → RelL K w (xs.take n) (us.take n)
  | _, _, 0, _ => .nil
  | _, _, _ + 1, .nil => .nil
  | _, _, n + 1, .cons r t => .cons r (RelL.take n t)
theorem RelL.drop : ∀ {xs : List V} {us : List IV} (n : Nat), RelL K w xs us → RelL K w (xs.drop n) (us.drop n)
  | _, _, 0, r => r
  | _, _, _ + 1, .nil => .nil
  | _, _, n + 1, .cons _ t => RelL.drop n t
theorem RelL.set {x : V} {u : IV} (r : Rel K w x u) : ∀ {xs : List V} {us : List IV} (i : Nat), RelL K w xs us → RelL K w (xs.set i x) (us.set i u)
  | _, _, _, .nil => .nil
  | _, _, 0, .cons _ t => .cons r t
  | _, _, i + 1, .cons q t => .cons q (RelL.set r i t)
theorem RelL.one {x : V} {u : IV} (r : Rel K w x u) : RelL K w [x] [u] := .cons r .nil
theorem RelL.erase : ∀ {xs : List V} {us : List IV} (i : Nat), RelL K w xs us → RelL K w (xs.eraseIdx i) (us.eraseIdx i)
  | _, _, _, .nil => .nil
  | _, _, 0, .cons _ t => t
  | _, _, i + 1, .cons q t => .cons q (RelL.erase i t)
theorem RelL.reverse : ∀ {xs : List V} {us : List IV}, RelL K w xs us → RelL K w xs.reverse us.reverse
  | _, _, .nil => .nil
  | _, _, .cons q t => by
    rw [List.reverse_cons, List.reverse_cons]
    exact (RelL.reverse t).append (.one q)
end

def RelKV {κ : Type} (K : KX) (w : Wd) : List (κ × V) → List (κ × IV) → Prop := Paired fun (p : κ × V) (q : κ × IV) => p.1 = q.1 ∧ Rel K w p.2 q.2
theorem RelKV.mono {κ : Type} {K : KX} {w w' : Wd} (l : w.lr w') {a : List (κ × V)} {b : List (κ × IV)} (h : RelKV K w a b) : RelKV K w' a b :=
  Paired.mapP h fun _ _ z => ⟨z.1, Rel.mono l _ _ z.2⟩

def CellOk (K : KX) (w : Wd) (H : Hp) (a : Addr) : Cell → Prop
  | .lst ivs => ∃ xs, H a = some (.lst xs) ∧ RelL K w xs ivs
  | .dic kvs => ∃ ps, H a = some (.dK ps) ∧ RelKV K w ps kvs
  | .dicL kvs => ∃ o ps, w.G a = some (.frz o (.dK ps)) ∧ H a = some (.frz o (.dK ps)) ∧ RelKV K w ps kvs
  | .ins C fs => ∃ (Ca : Addr) (dx : Addr) (ps : List (Str × V)), K.mg C = some (.ref Ca) ∧ H a = some (.ins Ca dx ps) ∧ RelKV K w ps fs
  | .xd fs => ∃ ps, H a = some (.xd ps) ∧ RelKV K w ps fs
theorem CellOk.mono {K : KX} {w w' : Wd} {H H' : Hp} {a : Addr} {c : Cell} (h : CellOk K w H a c) (l : w.lr w') (e : H' a = H a) (g : ∀ o, w.G a = some o → w'.G a = some o) : CellOk K w' H' a c := by
  cases c with
  | lst ivs => obtain ⟨xs, h1, h2⟩ := h; exact ⟨xs, e.trans h1, RelL.mono l _ _ h2⟩
  | dic ivs => obtain ⟨xs, h1, h2⟩ := h; exact ⟨xs, e.trans h1, h2.mono l⟩
  | dicL ivs => obtain ⟨o, xs, h0, h1, h2⟩ := h; exact ⟨o, xs, g _ h0, e.trans h1, h2.mono l⟩
  | ins C ivs => obtain ⟨Ca, dx, xs, h0, h1, h2⟩ := h; exact ⟨Ca, dx, xs, h0, e.trans h1, h2.mono l⟩
  | xd ivs => obtain ⟨xs, h1, h2⟩ := h; exact ⟨xs, e.trans h1, h2.mono l⟩
theorem CellOk.some {K : KX} {w : Wd} {H : Hp} {a : Addr} {c : Cell} (h : CellOk K w H a c) : ∃ o, H a = some o := by
  cases c with
  | lst ivs => obtain ⟨xs, h1, h2⟩ := h; exact ⟨_, h1⟩
  | dic ivs => obtain ⟨xs, h1, h2⟩ := h; exact ⟨_, h1⟩
  | dicL ivs => obtain ⟨o, xs, h0, h1, h2⟩ := h; exact ⟨_, h1⟩
  | ins C ivs => obtain ⟨Ca, dx, xs, h0, h1, h2⟩ := h; exact ⟨_, h1⟩
  | xd ivs => obtain ⟨xs, h1, h2⟩ := h; exact ⟨_, h1⟩

section
variable {K K' : KX} {w : Wd}
mutual
theorem Rel.cx (hk : K.k = K'.k) : ∀ (iv : IV) (v : V), Rel K w v iv → Rel K' w v iv
  | .non, _, h => by cases h; exact .non
  | .bl b, _, h => by cases h; exact .bl b
  | .int b, _, h => by cases h; exact .int b
  | .str b, _, h => by cases h; exact .str b
  | .adr n, _, h => by
    cases h with
    | adr e => exact .adr e
  | .lst ivs, _, h => by
    cases h with
    | lst e r => exact .lst e (RelL.cx hk ivs _ r)
  | .wls ivs, _, h => by
    cases h with
    | wls e r => exact .wls (hk ▸ e) (RelL.cx hk ivs _ r)
  | .tup ivs, _, h => by
    cases h with
    | tup e r => exact .tup (hk ▸ e) (RelL.cx hk ivs _ r)
  | .ref a, _, h => by cases h; exact .ref a
  | .ty n, _, h => by cases h; exact .ty n
theorem RelL.cx (hk : K.k = K'.k) : ∀ (ivs : List IV) (vs : List V), RelL K w vs ivs → RelL K' w vs ivs
  | [], _, h => by cases h; exact .nil
  | iv :: ivs, _, h => by
    cases h with
    | cons a b => exact .cons (Rel.cx hk iv _ a) (RelL.cx hk ivs _ b)
end
theorem RelKV.cx {κ : Type} (hk : K.k = K'.k) {a : List (κ × V)} {b : List (κ × IV)} (h : RelKV K w a b) : RelKV K' w a b :=
  Paired.mapP h fun _ _ z => ⟨z.1, Rel.cx hk _ _ z.2⟩
theorem CellOk.cx (hk : K.k = K'.k) (hm : K.mg = K'.mg) {H : Hp} {a : Addr} {c : Cell} (h : CellOk K w H a c) : CellOk K' w H a c := by
  cases c with
  | lst ivs => obtain ⟨xs, h1, h2⟩ := h; exact ⟨xs, h1, RelL.cx hk _ _ h2⟩
  | dic ivs => obtain ⟨xs, h1, h2⟩ := h; exact ⟨xs, h1, h2.cx hk⟩
  | dicL ivs => obtain ⟨o, xs, h0, h1, h2⟩ := h; exact ⟨o, xs, h0, h1, h2.cx hk⟩
  | ins C ivs => obtain ⟨Ca, dx, xs, h0, h1, h2⟩ := h; exact ⟨Ca, dx, xs, hm ▸ h0, h1, h2.cx hk⟩
  | xd ivs => obtain ⟨xs, h1, h2⟩ := h; exact ⟨xs, h1, h2.cx hk⟩
end

structure R (K : KX) (w : Wd) (S : Sto) (H : Hp) : Prop where
  len : w.rho.length = S.length
  nd : w.rho.Nodup
  cell : ∀ (n : Nat) (c : Cell) (a : Addr), S[n]? = some c → w.rho[n]? = some a → CellOk K w H a c
  own : ∀ (n : Nat) (a : Addr), w.rho[n]? = some a → w.F a = none ∧ (w.G a = none ∨ ∃ kvs, S[n]? = some (.dicL kvs))
  F : Same w.F H
  G : Same w.G H
  dis : ∀ (a : Addr) (o : HO), w.G a = some o → w.F a = none
theorem R.cx {K K' : KX} {w : Wd} {S : Sto} {H : Hp} (r : R K w S H) (hk : K.k = K'.k) (hm : K.mg = K'.mg) : R K' w S H :=
  ⟨r.len, r.nd, fun n c a h1 h2 => (r.cell n c a h1 h2).cx hk hm, r.own, r.F, r.G, r.dis⟩
section
variable {K : KX} {w : Wd} {S : Sto} {H : Hp}
theorem R.addr (r : R K w S H) {n : Nat} {c : Cell} (h : S[n]? = some c) : ∃ a, w.rho[n]? = some a := by
  have := (List.getElem?_eq_some_iff.mp h).1
  exact ⟨_, List.getElem?_eq_getElem (by rw [r.len]; exact this)⟩
theorem R.there (r : R K w S H) {n : Nat} {a : Addr} (h : w.rho[n]? = some a) : ∃ c, S[n]? = some c ∧ CellOk K w H a c := by
  have := (List.getElem?_eq_some_iff.mp h).1
  have e := List.getElem?_eq_getElem (l := S) (i := n) (by rw [← r.len]; exact this)
  exact ⟨_, e, r.cell n _ a e h⟩
theorem R.ne_new (r : R K w S H) {n : Nat} {a p : Addr} (h : w.rho[n]? = some a) (hp : H p = none) : a ≠ p := by
  obtain ⟨c, _, h2⟩ := r.there h
  obtain ⟨o, h3⟩ := h2.some
  exact ne_of_none h3 hp
/-- a new cell -/
theorem R.alloc (r : R K w S H) {p : Addr} {o : HO} {c : Cell} (hp : H p = none) (hc : ∀ w', w.le w' → CellOk K w' (upd H p o) p c) : w.le ⟨w.rho ++ [p], w.F, w.G⟩ ∧ R K ⟨w.rho ++ [p], w.F, w.G⟩ (S ++ [c]) (upd H p o) := by
  have l : w.le ⟨w.rho ++ [p], w.F, w.G⟩ := ⟨⟨⟨[p], rfl⟩, Same.refl _⟩, rfl⟩
  have key : ∀ {n : Nat} {a : Addr}, (w.rho ++ [p])[n]? = some a → (w.rho[n]? = some a ∧ n < w.rho.length) ∨ (n = w.rho.length ∧ a = p) := fun {n a} h => by
    by_cases hn : n < w.rho.length
    · rw [List.getElem?_append_left hn] at h; exact .inl ⟨h, hn⟩
    · have hlt := (List.getElem?_eq_some_iff.mp h).1
      rw [List.length_append, List.length_singleton] at hlt
      have e : n = w.rho.length := by omega
      subst e
      rw [List.getElem?_append_right (Nat.le_refl _), Nat.sub_self] at h
      exact .inr ⟨rfl, (Option.some.inj h).symm⟩
  refine ⟨l, ?_, ?_, fun n c' a h1 h2 => ?_, fun n a h => ?_, fun b u e => ?_, fun b u e => ?_, r.dis⟩
  · show (w.rho ++ [p]).length = (S ++ [c]).length
    rw [List.length_append, List.length_append, r.len]
    rfl
  · show (w.rho ++ [p]).Nodup
    rw [List.nodup_append]
    refine ⟨r.nd, by simp, fun a ha b hb => ?_⟩
    obtain ⟨n, h⟩ := List.getElem?_of_mem ha
    have : b = p := by simpa using hb
    rw [this]
    exact r.ne_new h hp
  · rcases key h2 with ⟨h, hn⟩ | ⟨h, e⟩
    · rw [List.getElem?_append_left (by rw [← r.len]; exact hn)] at h1
      exact (r.cell n c' a h1 h).mono l.1 (upd_ne (r.ne_new h hp)) fun _ z => z
    · subst e
      rw [h, r.len, List.getElem?_append_right (Nat.le_refl _), Nat.sub_self] at h1
      have : c = c' := Option.some.inj h1
      rw [← this]
      exact hc _ l
  · rcases key h with ⟨h, hn⟩ | ⟨h, e⟩
    · obtain ⟨g1, g2⟩ := r.own n a h
      refine ⟨g1, g2.imp id fun ⟨kvs, z⟩ => ⟨kvs, ?_⟩⟩
      rw [List.getElem?_append_left (List.getElem?_eq_some_iff.mp z).1]
      exact z
    · subst e
      constructor
      · cases q : w.F a with
        | none => rfl
        | some u => rw [r.F _ _ q] at hp; cases hp
      · left
        cases q : w.G a with
        | none => rfl
        | some u => rw [r.G _ _ q] at hp; cases hp
  · have := r.F _ _ e
    rw [upd_ne (ne_of_none this hp)]; exact this
  · have := r.G _ _ e
    rw [upd_ne (ne_of_none this hp)]; exact this
/-- a new object that never changes -/
theorem R.frz (r : R K w S H) {p : Addr} {o : HO} (hp : H p = none) : w.le ⟨w.rho, upd w.F p o, w.G⟩ ∧ R K ⟨w.rho, upd w.F p o, w.G⟩ S (upd H p o) := by
  have nF : w.F p = none := by
    cases q : w.F p with
    | none => rfl
    | some u => rw [r.F _ _ q] at hp; cases hp
  have l : w.le ⟨w.rho, upd w.F p o, w.G⟩ := ⟨⟨⟨[], by simp⟩, fun b u e => by
    show upd w.F p o b = some u
    rw [upd_ne (ne_of_none e nF)]; exact e⟩, rfl⟩
  refine ⟨l, r.len, r.nd, fun n c a h1 h2 => (r.cell n c a h1 h2).mono l.1 (upd_ne (r.ne_new h2 hp)) (fun _ z => z), fun n a h => ⟨?_, (r.own n a h).2⟩, fun b u e => ?_, fun b u e => ?_, fun b u e => ?_⟩
  · show upd w.F p o a = none
    rw [upd_ne (r.ne_new h hp)]; exact (r.own n a h).1
  · have e : upd w.F p o b = some u := e
    by_cases hb : b = p
    · subst hb; rw [upd_same] at e; rw [upd_same]; exact e
    · rw [upd_ne hb] at e; rw [upd_ne hb]; exact r.F _ _ e
  · have := r.G _ _ e
    rw [upd_ne (ne_of_none this hp)]; exact this
  · show upd w.F p o b = none
    rw [upd_ne (ne_of_none (r.G _ _ e) hp)]; exact r.dis _ _ e
/-- a cell is written -/
theorem R.write (r : R K w S H) {n : Nat} {a : Addr} {o : HO} {c : Cell} (h : w.rho[n]? = some a) (hc : CellOk K w (upd H a o) a c) (hnl : ∀ kvs, S[n]? ≠ some (.dicL kvs)) : R K w (S.set n c) (upd H a o) := by
  have hG : w.G a = none := (r.own n a h).2.elim id fun ⟨kvs, z⟩ => absurd z (hnl kvs)
  refine ⟨by rw [List.length_set]; exact r.len, r.nd, fun m c' b h1 h2 => ?_, fun m b hm => ?_, fun b u e => ?_, fun b u e => ?_, r.dis⟩
  · by_cases hm : m = n
    · subst hm
      rw [h] at h2; cases h2
      have hlt : m < S.length := by rw [← r.len]; exact (List.getElem?_eq_some_iff.mp h).1
      rw [List.getElem?_set_self hlt] at h1
      cases h1
      exact hc
    · rw [List.getElem?_set_ne (Ne.symm hm)] at h1
      have hb : b ≠ a := fun z => by
        subst z
        obtain ⟨i1, e1⟩ := List.getElem?_eq_some_iff.mp h
        obtain ⟨i2, e2⟩ := List.getElem?_eq_some_iff.mp h2
        exact hm ((List.getElem_inj r.nd).mp (e2.trans e1.symm))
      exact (r.cell m c' b h1 h2).mono (Wd.lr.refl w) (upd_ne hb) fun _ z => z
  · refine ⟨(r.own m b hm).1, ?_⟩
    rcases (r.own m b hm).2 with z | ⟨kvs, z⟩
    · exact .inl z
    · refine .inr ⟨kvs, ?_⟩
      by_cases hmn : m = n
      · subst hmn; exact absurd z (hnl kvs)
      · rw [List.getElem?_set_ne (Ne.symm hmn)]; exact z
  · rw [upd_ne (ne_of_none e (r.own n a h).1)]; exact r.F _ _ e
  · rw [upd_ne (ne_of_none e hG)]; exact r.G _ _ e
/-- an object of the frame -/
theorem R.ghost (r : R K w S H) {p : Addr} {o : HO} (hp : H p = none) : R K ⟨w.rho, w.F, upd w.G p o⟩ S (upd H p o) := by
  have nF : w.F p = none := by
    cases q : w.F p with
    | none => rfl
    | some u => rw [r.F _ _ q] at hp; cases hp
  refine ⟨r.len, r.nd, fun n c a h1 h2 => (r.cell n c a h1 h2).mono (Wd.lr.mk ⟨[], by simp⟩ (Same.refl _)) (upd_ne (r.ne_new h2 hp)) (fun o' z => by
    show upd w.G p o a = some o'
    rw [upd_ne (r.ne_new h2 hp)]; exact z), fun n a h => ⟨(r.own n a h).1, (r.own n a h).2.imp (fun z => ?_) id⟩, fun b u e => ?_, fun b u e => ?_, fun b u e => ?_⟩
  · show upd w.G p o a = none
    rw [upd_ne (r.ne_new h hp)]; exact z
  · have := r.F _ _ e
    rw [upd_ne (ne_of_none this hp)]; exact this
  · have e : upd w.G p o b = some u := e
    by_cases hb : b = p
    · subst hb; rw [upd_same] at e; rw [upd_same]; exact e
    · rw [upd_ne hb] at e; rw [upd_ne hb]; exact r.G _ _ e
  · have e : upd w.G p o b = some u := e
    by_cases hb : b = p
    · subst hb; exact nF
    · rw [upd_ne hb] at e; exact r.dis _ _ e
theorem R.ghostW {rho : List Addr} {F G : Hp} {p : Addr} {o o' : HO} (ho : ∀ u v, o ≠ .frz u v) (r : R K ⟨rho, F, upd G p o⟩ S H) : R K ⟨rho, F, upd G p o'⟩ S (upd H p o') := by
  have hF : F p = none := r.dis p o upd_same
  have hrho : ∀ n a, rho[n]? = some a → a ≠ p := fun n a h z => by
    subst z
    rcases (r.own n a h).2 with t | ⟨kvs, t⟩
    · have t : upd G a o a = none := t
      rw [upd_same] at t
      cases t
    · obtain ⟨o1, ps, h1, _⟩ := r.cell n _ a t h
      have h1 : upd G a o a = _ := h1
      rw [upd_same] at h1
      exact ho _ _ (Option.some.inj h1)
  refine ⟨r.len, r.nd, fun n c a h1 h2 => (r.cell n c a h1 h2).mono (Wd.lr.mk ⟨[], by simp⟩ (Same.refl _)) (upd_ne (hrho n a h2)) (fun o1 z => by
    have z : upd G p o a = some o1 := z
    show upd G p o' a = some o1
    rw [upd_ne (hrho n a h2)] at z ⊢; exact z), fun n a h => ⟨(r.own n a h).1, (r.own n a h).2.imp (fun z => ?_) id⟩, fun b u e => ?_, fun b u e => ?_, fun b u e => ?_⟩
  · show upd G p o' a = none
    rw [upd_ne (hrho n a h)]
    have t : upd G p o a = none := z
    rw [upd_ne (hrho n a h)] at t; exact t
  · have e : F b = some u := e
    rw [upd_ne (ne_of_none e hF)]; exact r.F _ _ e
  · have e : upd G p o' b = some u := e
    by_cases hb : b = p
    · subst hb; rw [upd_same] at e; rw [upd_same]; exact e
    · rw [upd_ne hb] at e; rw [upd_ne hb]; exact r.G b u (by show upd G p o b = some u; rw [upd_ne hb]; exact e)
  · have e : upd G p o' b = some u := e
    by_cases hb : b = p
    · subst hb; exact hF
    · rw [upd_ne hb] at e; exact r.dis b u (by show upd G p o b = some u; rw [upd_ne hb]; exact e)
/-- the ghost becomes an object that never changes -/
theorem R.ghostF {rho : List Addr} {F G : Hp} {p : Addr} {o : HO} (ho : ∀ u v, o ≠ .frz u v) (r : R K ⟨rho, F, upd G p o⟩ S H) (hG : G p = none) : R K ⟨rho, upd F p o, G⟩ S H := by
  have hF : F p = none := r.dis p o upd_same
  have hrho : ∀ n a, rho[n]? = some a → a ≠ p := fun n a h z => by
    subst z
    rcases (r.own n a h).2 with t | ⟨kvs, t⟩
    · have t : upd G a o a = none := t
      rw [upd_same] at t
      cases t
    · obtain ⟨o1, ps, h1, _⟩ := r.cell n _ a t h
      have h1 : upd G a o a = _ := h1
      rw [upd_same] at h1
      exact ho _ _ (Option.some.inj h1)
  refine ⟨r.len, r.nd, fun n c a h1 h2 => (r.cell n c a h1 h2).mono ⟨⟨[], by simp⟩, fun b u e => ?_⟩ rfl (fun o1 z => by
    have z : upd G p o a = some o1 := z
    rw [upd_ne (hrho n a h2)] at z; exact z), fun n a h => ⟨?_, (r.own n a h).2.imp (fun z => ?_) id⟩, fun b u e => ?_, fun b u e => ?_, fun b u e => ?_⟩
  · have e : F b = some u := e
    show upd F p o b = some u
    rw [upd_ne (ne_of_none e hF)]; exact e
  · show upd F p o a = none
    rw [upd_ne (hrho n a h)]; exact (r.own n a h).1
  · have t : upd G p o a = none := z
    rw [upd_ne (hrho n a h)] at t; exact t
  · have e : upd F p o b = some u := e
    by_cases hb : b = p
    · subst hb; rw [upd_same] at e; exact r.G b u (by show upd G b o b = some u; rw [upd_same]; exact e)
    · rw [upd_ne hb] at e; exact r.F _ _ e
  · have e : G b = some u := e
    exact r.G b u (by show upd G p o b = some u; rw [upd_ne (ne_of_none e hG)]; exact e)
  · have e : G b = some u := e
    show upd F p o b = none
    rw [upd_ne (ne_of_none e hG)]
    exact r.dis b u (by show upd G p o b = some u; rw [upd_ne (ne_of_none e hG)]; exact e)
/-- the ghost becomes a cell -/
theorem R.ghostC {rho : List Addr} {F G : Hp} {p : Addr} {o : HO} {c : Cell} (ho : ∀ u v, o ≠ .frz u v) (r : R K ⟨rho, F, upd G p o⟩ S H) (hG : G p = none) (hc : ∀ w', Wd.lr ⟨rho, F, upd G p o⟩ w' → CellOk K w' H p c) : R K ⟨rho ++ [p], F, G⟩ (S ++ [c]) H := by
  have hF : F p = none := r.dis p o upd_same
  have hrho : ∀ n a, rho[n]? = some a → a ≠ p := fun n a h z => by
    subst z
    rcases (r.own n a h).2 with t | ⟨kvs, t⟩
    · have t : upd G a o a = none := t
      rw [upd_same] at t
      cases t
    · obtain ⟨o1, ps, h1, _⟩ := r.cell n _ a t h
      have h1 : upd G a o a = _ := h1
      rw [upd_same] at h1
      exact ho _ _ (Option.some.inj h1)
  have hlen : rho.length = S.length := r.len
  have l : Wd.lr ⟨rho, F, upd G p o⟩ ⟨rho ++ [p], F, G⟩ := ⟨⟨[p], rfl⟩, Same.refl _⟩
  have key : ∀ {n : Nat} {a : Addr}, (rho ++ [p])[n]? = some a → (rho[n]? = some a ∧ n < rho.length) ∨ (n = rho.length ∧ a = p) := fun {n a} h => by
    by_cases hn : n < rho.length
    · rw [List.getElem?_append_left hn] at h; exact .inl ⟨h, hn⟩
    · have hlt := (List.getElem?_eq_some_iff.mp h).1
      rw [List.length_append, List.length_singleton] at hlt
      have e : n = rho.length := by omega
      subst e
      rw [List.getElem?_append_right (Nat.le_refl _), Nat.sub_self] at h
      exact .inr ⟨rfl, (Option.some.inj h).symm⟩
  refine ⟨?_, ?_, fun n c' a h1 h2 => ?_, fun n a h => ?_, r.F, fun b u e => ?_, fun b u e => ?_⟩
  · show (rho ++ [p]).length = (S ++ [c]).length
    rw [List.length_append, List.length_append, hlen]
    rfl
  · show (rho ++ [p]).Nodup
    rw [List.nodup_append]
    refine ⟨r.nd, by simp, fun a ha b hb => ?_⟩
    obtain ⟨n, h⟩ := List.getElem?_of_mem ha
    have : b = p := by simpa using hb
    rw [this]
    exact hrho n a h
  · rcases key h2 with ⟨h, hn⟩ | ⟨h, e⟩
    · rw [List.getElem?_append_left (by rw [← hlen]; exact hn)] at h1
      exact (r.cell n c' a h1 h).mono l rfl fun o1 z => by
        have z : upd G p o a = some o1 := z
        rw [upd_ne (hrho n a h)] at z; exact z
    · subst e
      rw [h, hlen, List.getElem?_append_right (Nat.le_refl _), Nat.sub_self] at h1
      have : c = c' := Option.some.inj h1
      rw [← this]
      exact hc _ l
  · rcases key h with ⟨h, hn⟩ | ⟨h, e⟩
    · refine ⟨(r.own n a h).1, (r.own n a h).2.imp (fun z => ?_) fun ⟨kvs, z⟩ => ⟨kvs, ?_⟩⟩
      · have t : upd G p o a = none := z
        rw [upd_ne (hrho n a h)] at t; exact t
      · rw [List.getElem?_append_left (List.getElem?_eq_some_iff.mp z).1]; exact z
    · subst e
      exact ⟨hF, .inl hG⟩
  · have e : G b = some u := e
    exact r.G b u (by show upd G p o b = some u; rw [upd_ne (ne_of_none e hG)]; exact e)
  · have e : G b = some u := e
    exact r.dis b u (by show upd G p o b = some u; rw [upd_ne (ne_of_none e hG)]; exact e)
end

section
variable {K : KX} {w : Wd} {S : Sto} {H : Hp}
/-- a dict is locked -/
theorem R.lock (r : R K w S H) {n : Nat} {a : Addr} {o : Obj} {ps : List (Key × V)} {kvs : List (Key × IV)} (h : w.rho[n]? = some a) (hs : S[n]? = some (.dic kvs)) (hH : H a = some (.dK ps)) (hr : RelKV K w ps kvs) :
    R K ⟨w.rho, w.F, upd w.G a (.frz o (.dK ps))⟩ (S.set n (.dicL kvs)) (upd H a (.frz o (.dK ps))) := by
  have hF : w.F a = none := (r.own n a h).1
  have inj : ∀ m b, w.rho[m]? = some b → m ≠ n → b ≠ a := fun m b hb hm z => by
    subst z
    obtain ⟨i1, e1⟩ := List.getElem?_eq_some_iff.mp h
    obtain ⟨i2, e2⟩ := List.getElem?_eq_some_iff.mp hb
    exact hm ((List.getElem_inj r.nd).mp (e2.trans e1.symm))
  have hlt : n < S.length := (List.getElem?_eq_some_iff.mp hs).1
  have l : Wd.lr w ⟨w.rho, w.F, upd w.G a (.frz o (.dK ps))⟩ := ⟨⟨[], by simp⟩, Same.refl _⟩
  refine ⟨by rw [List.length_set]; exact r.len, r.nd, fun m c b h1 h2 => ?_, fun m b hm => ⟨(r.own m b hm).1, ?_⟩, fun b u e => ?_, fun b u e => ?_, fun b u e => ?_⟩
  · by_cases hm : m = n
    · subst hm
      have h2 : w.rho[m]? = some b := h2
      rw [h] at h2; cases h2
      rw [List.getElem?_set_self hlt] at h1
      cases h1
      exact ⟨o, ps, upd_same, upd_same, hr.mono l⟩
    · rw [List.getElem?_set_ne (Ne.symm hm)] at h1
      have hb := inj m b h2 hm
      refine (r.cell m c b h1 h2).mono l (upd_ne hb) fun o1 z => ?_
      show upd w.G a _ b = some o1
      rw [upd_ne hb]; exact z
  · by_cases hmn : m = n
    · subst hmn; exact .inr ⟨kvs, List.getElem?_set_self hlt⟩
    · refine (r.own m b hm).2.imp (fun z => ?_) fun ⟨k, z⟩ => ⟨k, by rw [List.getElem?_set_ne (Ne.symm hmn)]; exact z⟩
      show upd w.G a _ b = none
      rw [upd_ne (inj m b hm hmn)]; exact z
  · rw [upd_ne (ne_of_none e hF)]; exact r.F _ _ e
  · have e : upd w.G a _ b = some u := e
    by_cases hb : b = a
    · subst hb; rw [upd_same] at e; rw [upd_same]; exact e
    · rw [upd_ne hb] at e; rw [upd_ne hb]; exact r.G _ _ e
  · have e : upd w.G a _ b = some u := e
    by_cases hb : b = a
    · subst hb; exact hF
    · rw [upd_ne hb] at e; exact r.dis _ _ e
/-- .. and let go -/
theorem R.unlock {rho : List Addr} {F G : Hp} {n : Nat} {a : Addr} {o : Obj} {ps : List (Key × V)} {kvs : List (Key × IV)} (r : R K ⟨rho, F, upd G a (.frz o (.dK ps))⟩ S H) (h : rho[n]? = some a) (hs : S[n]? = some (.dicL kvs)) (hG : G a = none) :
    H a = some (.frz o (.dK ps)) ∧ R K ⟨rho, F, G⟩ (S.set n (.dic kvs)) (upd H a (.dK ps)) := by
  obtain ⟨o1, ps1, g1, g2, g3⟩ := r.cell n _ a hs h
  have g1 : upd G a (.frz o (.dK ps)) a = some (.frz o1 (.dK ps1)) := g1
  rw [upd_same] at g1
  cases g1
  refine ⟨g2, ?_⟩
  have hF : F a = none := (r.own n a h).1
  have inj : ∀ m b, rho[m]? = some b → m ≠ n → b ≠ a := fun m b hb hm z => by
    subst z
    obtain ⟨i1, e1⟩ := List.getElem?_eq_some_iff.mp h
    obtain ⟨i2, e2⟩ := List.getElem?_eq_some_iff.mp hb
    exact hm ((List.getElem_inj r.nd).mp (e2.trans e1.symm))
  have hlt : n < S.length := (List.getElem?_eq_some_iff.mp hs).1
  have l : Wd.lr ⟨rho, F, upd G a (.frz o (.dK ps))⟩ ⟨rho, F, G⟩ := ⟨⟨[], by simp⟩, Same.refl _⟩
  refine ⟨by rw [List.length_set]; exact r.len, r.nd, fun m c b h1 h2 => ?_, fun m b hm => ⟨(r.own m b hm).1, ?_⟩, fun b u e => ?_, fun b u e => ?_, fun b u e => ?_⟩
  · by_cases hm : m = n
    · subst hm
      have h2 : rho[m]? = some b := h2
      rw [h] at h2; cases h2
      rw [List.getElem?_set_self hlt] at h1
      cases h1
      exact ⟨ps, upd_same, g3.mono l⟩
    · rw [List.getElem?_set_ne (Ne.symm hm)] at h1
      have hb := inj m b h2 hm
      refine (r.cell m c b h1 h2).mono l (upd_ne hb) fun o1 z => ?_
      have z : upd G a _ b = some o1 := z
      rw [upd_ne hb] at z; exact z
  · by_cases hmn : m = n
    · subst hmn
      have hm : rho[m]? = some b := hm
      rw [h] at hm; cases hm
      exact .inl hG
    · refine (r.own m b hm).2.imp (fun z => ?_) fun ⟨k, z⟩ => ⟨k, by rw [List.getElem?_set_ne (Ne.symm hmn)]; exact z⟩
      have z : upd G a _ b = none := z
      rw [upd_ne (inj m b hm hmn)] at z; exact z
  · rw [upd_ne (ne_of_none e hF)]; exact r.F _ _ e
  · have e : G b = some u := e
    have hb : b ≠ a := ne_of_none e hG
    rw [upd_ne hb]
    exact r.G b u (by show upd G a _ b = some u; rw [upd_ne hb]; exact e)
  · have e : G b = some u := e
    have hb : b ≠ a := ne_of_none e hG
    exact r.dis b u (by show upd G a _ b = some u; rw [upd_ne hb]; exact e)
/-- .. told anew -/
theorem R.unlockK {rho : List Addr} {F G : Hp} {n : Nat} {a : Addr} {o : Obj} {ps : List (Key × V)} {kvs kvs2 : List (Key × IV)} (r : R K ⟨rho, F, upd G a (.frz o (.dK ps))⟩ S H) (h : rho[n]? = some a) (hs : S[n]? = some (.dicL kvs2)) (hG : G a = none) (h4 : RelKV K ⟨rho, F, G⟩ ps kvs) :
    H a = some (.frz o (.dK ps)) ∧ R K ⟨rho, F, G⟩ (S.set n (.dic kvs)) (upd H a (.dK ps)) := by
  obtain ⟨o1, ps1, g1, g2, g3⟩ := r.cell n _ a hs h
  have g1 : upd G a (.frz o (.dK ps)) a = some (.frz o1 (.dK ps1)) := g1
  rw [upd_same] at g1
  cases g1
  refine ⟨g2, ?_⟩
  have hF : F a = none := (r.own n a h).1
  have inj : ∀ m b, rho[m]? = some b → m ≠ n → b ≠ a := fun m b hb hm z => by
    subst z
    obtain ⟨i1, e1⟩ := List.getElem?_eq_some_iff.mp h
    obtain ⟨i2, e2⟩ := List.getElem?_eq_some_iff.mp hb
    exact hm ((List.getElem_inj r.nd).mp (e2.trans e1.symm))
  have hlt : n < S.length := (List.getElem?_eq_some_iff.mp hs).1
  have l : Wd.lr ⟨rho, F, upd G a (.frz o (.dK ps))⟩ ⟨rho, F, G⟩ := ⟨⟨[], by simp⟩, Same.refl _⟩
  refine ⟨by rw [List.length_set]; exact r.len, r.nd, fun m c b h1 h2 => ?_, fun m b hm => ⟨(r.own m b hm).1, ?_⟩, fun b u e => ?_, fun b u e => ?_, fun b u e => ?_⟩
  · by_cases hm : m = n
    · subst hm
      have h2 : rho[m]? = some b := h2
      rw [h] at h2; cases h2
      rw [List.getElem?_set_self hlt] at h1
      cases h1
      exact ⟨ps, upd_same, h4⟩
    · rw [List.getElem?_set_ne (Ne.symm hm)] at h1
      have hb := inj m b h2 hm
      refine (r.cell m c b h1 h2).mono l (upd_ne hb) fun o1 z => ?_
      have z : upd G a _ b = some o1 := z
      rw [upd_ne hb] at z; exact z
  · by_cases hmn : m = n
    · subst hmn
      have hm : rho[m]? = some b := hm
      rw [h] at hm; cases hm
      exact .inl hG
    · refine (r.own m b hm).2.imp (fun z => ?_) fun ⟨k, z⟩ => ⟨k, by rw [List.getElem?_set_ne (Ne.symm hmn)]; exact z⟩
      have z : upd G a _ b = none := z
      rw [upd_ne (inj m b hm hmn)] at z; exact z
  · rw [upd_ne (ne_of_none e hF)]; exact r.F _ _ e
  · have e : G b = some u := e
    have hb : b ≠ a := ne_of_none e hG
    rw [upd_ne hb]
    exact r.G b u (by show upd G a _ b = some u; rw [upd_ne hb]; exact e)
  · have e : G b = some u := e
    have hb : b ≠ a := ne_of_none e hG
    exact r.dis b u (by show upd G a _ b = some u; rw [upd_ne hb]; exact e)
end

/-- the slots; that of the exception that is being handled tells nothing -/
structure SR (K : KX) (w : Wd) (σ : L2.St) (Λ : Slots) : Prop where
  len : σ.length = Λ.length
  get : ∀ (i : Nat) (iv : IV), Λ[i]? = some (some iv) → ∃ v, σ[i]? = some (some v) ∧ Rel K w v iv
  ex : ∀ (i n : Nat) (a d : Addr), K.ex = some (i, n, a, d) → Λ[i]? = some none → σ[i]? = some (some (.ref a)) ∧ w.rho[n]? = some d
theorem SR.mono {K : KX} {w w' : Wd} {σ : L2.St} {Λ : Slots} (h : SR K w σ Λ) (l : w.lr w') : SR K w' σ Λ :=
  ⟨h.len, fun i iv e => let ⟨v, h1, h2⟩ := h.get i iv e; ⟨v, h1, Rel.mono l _ _ h2⟩, fun i n a d e1 e2 => ⟨(h.ex i n a d e1 e2).1, l.get (h.ex i n a d e1 e2).2⟩⟩
theorem SR.up {K : KX} {w w' : Wd} {σ : L2.St} {Λ : Slots} (h : SR K w σ Λ) (l : w.le w') : SR K w' σ Λ := h.mono l.1
theorem SR.set {K : KX} {w : Wd} {σ : L2.St} {Λ : Slots} (h : SR K w σ Λ) (i : Nat) {v : V} {iv : IV} (r : Rel K w v iv) : SR K w (σ.set i (some v)) (Λ.set i (some iv)) := by
  refine ⟨by rw [List.length_set, List.length_set]; exact h.len, fun j jv e => ?_, fun j n a d e1 e2 => ?_⟩
  · by_cases hj : j = i
    · subst hj
      have hlt : j < Λ.length := by have := (List.getElem?_eq_some_iff.mp e).1; rwa [List.length_set] at this
      rw [List.getElem?_set_self hlt] at e
      have : iv = jv := Option.some.inj (Option.some.inj e)
      rw [← this]
      exact ⟨v, by rw [List.getElem?_set_self (by rw [h.len]; exact hlt)], r⟩
    · rw [List.getElem?_set_ne (Ne.symm hj)] at e
      rw [List.getElem?_set_ne (Ne.symm hj)]
      exact h.get j jv e
  · by_cases hj : j = i
    · subst hj
      have hlt : j < Λ.length := by have := (List.getElem?_eq_some_iff.mp e2).1; rwa [List.length_set] at this
      rw [List.getElem?_set_self hlt] at e2
      cases e2
    · rw [List.getElem?_set_ne (Ne.symm hj)] at e2
      rw [List.getElem?_set_ne (Ne.symm hj)]
      exact h.ex j n a d e1 e2
theorem SR.setN {K : KX} {w : Wd} {σ : L2.St} {Λ : Slots} (h : SR K w σ Λ) (i : Nat) (u : Option V) (hx : exOff K.ex [i] = true) : SR K w (σ.set i u) (Λ.set i none) := by
  refine ⟨by rw [List.length_set, List.length_set]; exact h.len, fun j jv e => ?_, fun j n a d e1 e2 => ?_⟩
  · by_cases hj : j = i
    · subst hj
      have hlt : j < Λ.length := by have := (List.getElem?_eq_some_iff.mp e).1; rwa [List.length_set] at this
      rw [List.getElem?_set_self hlt] at e
      cases e
    · rw [List.getElem?_set_ne (Ne.symm hj)] at e
      rw [List.getElem?_set_ne (Ne.symm hj)]
      exact h.get j jv e
  · have hj : j ≠ i := fun z => by
      rw [e1, z] at hx
      simp [exOff] at hx
    rw [List.getElem?_set_ne (Ne.symm hj)] at e2
    rw [List.getElem?_set_ne (Ne.symm hj)]
    exact h.ex j n a d e1 e2

/-! ### what follows -/
def Post {α : Type} (K : KX) (W : WX) (w : Wd) (o : Out α) (P : Wd → Hp → Sto → α → Prop) : Prop :=
  match o with
  | .ok a S' => ∀ w' H', w.le w' → R K w' S' H' → P w' H' S' a
  | .exc C n L S' => ∀ w' H' a σ', w.le w' → R K w' S' H' → SR K w' σ' L → w'.rho[n]? = some a → W (clsV K.mg C) (some a) σ' H'
  | .bad => False
section
variable {K : KX} {W : WX} {w : Wd} {α β : Type}
theorem Post.bind {o : Out α} {k : α → Sto → Out β} {P : Wd → Hp → Sto → β → Prop} (h : Post K W w (o.bind k) P) : Post K W w o fun w' H' S' a => Post K W w' (k a S') P := by
  cases o with
  | ok a S' =>
    intro w' H' l r
    have h : Post K W w (k a S') P := h
    show Post K W w' (k a S') P
    cases e : k a S' with
    | ok b S2 =>
      rw [e] at h
      exact fun w2 H2 l2 r2 => h w2 H2 (l.trans l2) r2
    | exc C n L S2 =>
      rw [e] at h
      exact fun w2 H2 a2 σ2 l2 r2 s2 g => h w2 H2 a2 σ2 (l.trans l2) r2 s2 g
    | bad =>
      rw [e] at h
      exact h
  | exc C n L S' => exact h
  | bad => exact h
theorem Post.imp {o : Out α} {P P' : Wd → Hp → Sto → α → Prop} (h : Post K W w o P) (f : ∀ w' H' S' a, w.le w' → R K w' S' H' → P w' H' S' a → P' w' H' S' a) : Post K W w o P' := by
  cases o with
  | ok a S' => exact fun w' H' l r => f w' H' S' a l r (h w' H' l r)
  | exc C n L S' => exact h
  | bad => exact h
theorem Post.now {a : α} {S : Sto} {H : Hp} {P : Wd → Hp → Sto → α → Prop} (h : Post K W w (.ok a S) P) (r : R K w S H) : P w H S a := h w H (Wd.le.refl w) r
theorem Post.ok {a : α} {S : Sto} {H : Hp} {w' : Wd} {P : Wd → Hp → Sto → α → Prop} (h : Post K W w (.ok a S) P) (l : w.le w') (r : R K w' S H) : P w' H S a := h w' H l r
end

abbrev IE := Slots → Sto → Out IV
abbrev IT := Slots → Sto → Out Bool
abbrev IA := Slots → Sto → Out (List IV)
inductive Fl where
  | nx (L : Slots) | rt (v : IV) | bk (L : Slots) | ct (L : Slots)
abbrev IS := Slots → Sto → Out Fl
abbrev IG := IV → Slots → Sto → Out Slots

def eM (K : KX) (W : WX) (m : IE) : TE := fun σ H Q => ∃ w S Λ, R K w S H ∧ SR K w σ Λ ∧ Post K W w (m Λ S) fun w' H' _ iv => ∀ v, Rel K w' v iv → Q v H'
def tM (K : KX) (W : WX) (m : IT) : TT := fun σ H Q => ∃ w S Λ, R K w S H ∧ SR K w σ Λ ∧ Post K W w (m Λ S) fun _ H' _ b => Q b H'
def aM (K : KX) (W : WX) (m : IA) : TA := fun σ H Q => ∃ w S Λ, R K w S H ∧ SR K w σ Λ ∧ Post K W w (m Λ S) fun w' H' _ ivs => ∀ vs, RelL K w' vs ivs → Q vs H'
def FlP (K : KX) (w : Wd) (D : Ends) (H : Hp) : Fl → Prop
  | .nx L => ∀ σ, SR K w σ L → D.nx σ H
  | .rt iv => ∀ v, Rel K w v iv → D.rt v H
  | .bk L => ∀ σ, SR K w σ L → D.bk σ H
  | .ct L => ∀ σ, SR K w σ L → D.ct σ H
def sM (K : KX) (W : WX) (m : IS) : TS := fun D σ H => ∃ w S Λ, R K w S H ∧ SR K w σ Λ ∧ Post K W w (m Λ S) fun w' H' _ fl => FlP K w' D H' fl
def gM (K : KX) (W : WX) (m : IG) : TG := fun v σ H Q => ∃ w S Λ iv, R K w S H ∧ SR K w σ Λ ∧ Rel K w v iv ∧ Post K W w (m iv Λ S) fun w' H' _ L => ∀ σ', SR K w' σ' L → Q σ' H'

theorem _root_.L2.PE.imp {X : Cx} {e : Expr} {t t' : TE} (h : PE X e t) (f : ∀ σ H Q, t' σ H Q → t σ H Q) : PE X e t' := ⟨fun pins s σ H Q I q => h.run pins s σ H Q I (f σ H Q q)⟩
theorem _root_.L2.PT.imp {X : Cx} {e : Expr} {t t' : TT} (h : PT X e t) (f : ∀ σ H Q, t' σ H Q → t σ H Q) : PT X e t' := ⟨fun pins s σ H Q I q => h.run pins s σ H Q I (f σ H Q q)⟩
theorem _root_.L2.PW.imp {X : Cx} {e : Expr} {t t' : TT} (h : PW X e t) (f : ∀ σ H Q, t' σ H Q → t σ H Q) : PW X e t' := ⟨fun wh pins s σ H Q I q => h.run wh pins s σ H Q I (f σ H Q q)⟩
theorem _root_.L2.PA.imp {X : Cx} {e : List Expr} {t t' : TA} (h : PA X e t) (f : ∀ σ H Q, t' σ H Q → t σ H Q) : PA X e t' := ⟨fun p pins s σ H Q I q => h.run p pins s σ H Q I (f σ H Q q)⟩
theorem _root_.L2.PS.imp {X : Cx} {e : Stmt} {t t' : TS} (h : PS X e t) (f : ∀ D σ H, t' D σ H → t D σ H) : PS X e t' := ⟨fun pins s σ H D I q => h.run pins s σ H D I (f D σ H q)⟩
theorem _root_.L2.PSs.imp {X : Cx} {e : List Stmt} {t t' : TS} (h : PSs X e t) (f : ∀ D σ H, t' D σ H → t D σ H) : PSs X e t' := ⟨fun pins s σ H D I q => h.run pins s σ H D I (f D σ H q)⟩
theorem _root_.L2.PG.imp {X : Cx} {e : Expr} {t t' : TG} (h : PG X e t) (f : ∀ v σ H Q, t' v σ H Q → t v σ H Q) : PG X e t' := ⟨fun pins s σ H v u Q I r q => h.run pins s σ H v u Q I r (f v σ H Q q)⟩
theorem _root_.L2.PTs.imp {X : Cx} {e : List Expr} {t t' : TT} (h : PTs X e t) (f : ∀ σ H Q, t' σ H Q → t σ H Q) : PTs X e t' := ⟨fun pins s σ H Q I q => h.run pins s σ H Q I (f σ H Q q)⟩
end Sm

namespace Sm
open PySem PySem.Spec PyProof.Rows L2

def chk {α : Type} (p : Prop) [Decidable p] (o : Out α) : Out α := if p then o else .bad
theorem chk_pos {α : Type} {p : Prop} [Decidable p] {o : Out α} (h : p) : chk p o = o := if_pos h
theorem chk_neg {α : Type} {p : Prop} [Decidable p] {o : Out α} (h : ¬ p) : chk p o = .bad := if_neg h
theorem chk_post {α : Type} {K : KX} {W : WX} {w : Wd} {p : Prop} [Decidable p] {o : Out α} {P : Wd → Hp → Sto → α → Prop} (h : Post K W w (chk p o) P) : p ∧ Post K W w o P := by
  by_cases hp : p
  · rw [chk_pos hp] at h; exact ⟨hp, h⟩
  · rw [chk_neg hp] at h; exact h.elim

abbrev kx (X : Cx) (W : WZ) : KX := ⟨X.K, X.mg, W.ex⟩
/-! ### names, constants -/
def iVar (i : Nat) : IE := fun Λ S => match Λ[i]? with
  | some (some iv) => .ok iv S
  | _ => .bad
def iC (iv : IV) : IE := fun _ S => .ok iv S
section
variable {X : Cx} {W : WZ} {pos : Pos}
abbrev DE (X : Cx) (W : WZ) (e : Expr) (m : IE) : Prop := PE X e (eM (kx X W) W.x m)
abbrev DT (X : Cx) (W : WZ) (e : Expr) (m : IT) : Prop := PT X e (tM (kx X W) W.x m)
abbrev DW (X : Cx) (W : WZ) (e : Expr) (m : IT) : Prop := PW X e (tM (kx X W) W.x m)
abbrev DA (X : Cx) (W : WZ) (e : List Expr) (m : IA) : Prop := PA X e (aM (kx X W) W.x m)
abbrev DS (X : Cx) (W : WZ) (e : Stmt) (m : IS) : Prop := PS X e (sM (kx X W) W.x m)
abbrev DSs (X : Cx) (W : WZ) (e : List Stmt) (m : IS) : Prop := PSs X e (sM (kx X W) W.x m)
abbrev DG (X : Cx) (W : WZ) (e : Expr) (m : IG) : Prop := PG X e (gM (kx X W) W.x m)
theorem de_var (i : Nat) {x : Str} (hN : X.N[i]? = some x := by rfl) (hv : Vis X.env.scope x := by first | exact Or.inl rfl | exact Or.inr (Or.inl rfl) | exact Or.inr (Or.inr rfl)) (hd : (x == ("__debug__" : Str)) = false := by decide)
    (hcd : (x == ("__classdict__" : Str)) = false := by decide) : DE X W (.Name x pos) (iVar i) :=
  (pe_var hN hv hd hcd).imp fun σ H Q ⟨w, S, Λ, r, s, p⟩ => by
    unfold iVar at p
    split at p
    · rename_i iv e
      obtain ⟨v, h1, h2⟩ := s.get i iv e
      exact ⟨v, h1, p.now r v h2⟩
    · exact p.elim
theorem de_c {e : Expr} {v : V} {iv : IV} (h : PE X e (tC v)) (hr : ∀ w, Rel (kx X W) w v iv) : DE X W e (iC iv) :=
  h.imp fun σ H Q ⟨w, S, Λ, r, s, p⟩ => p.now r v (hr w)
theorem de_int {i j} : DE X W (.Constant (.int i) j pos) (iC (.int i)) := de_c pe_int fun _ => .int i
theorem de_bl {i j} : DE X W (.Constant (.bool i) j pos) (iC (.bl i)) := de_c pe_bl fun _ => .bl i
theorem de_str {i j} : DE X W (.Constant (.str i) j pos) (iC (.str i)) := de_c pe_str fun _ => .str i
theorem de_non {j} : DE X W (.Constant .none j pos) (iC .non) := de_c pe_non fun _ => .non
end

/-! ### operators -/
def OpS (K : KX) (W : WX) (r : R2) (f : IV → IV → Sto → Out IV) : Prop := ∀ (w : Wd) (S : Sto) (H : Hp) (x y : V) (ix iy : IV) (Q : VK), R K w S H → Rel K w x ix → Rel K w y iy →
  Post K W w (f ix iy S) (fun w' H' _ iv => ∀ v, Rel K w' v iv → Q v H') → r x y H Q
def UnS (K : KX) (W : WX) (r : V → Hp → VK → Prop) (f : IV → Sto → Out IV) : Prop := ∀ (w : Wd) (S : Sto) (H : Hp) (x : V) (ix : IV) (Q : VK), R K w S H → Rel K w x ix →
  Post K W w (f ix S) (fun w' H' _ iv => ∀ v, Rel K w' v iv → Q v H') → r x H Q
def CaS (K : KX) (W : WX) (r : List V → Hp → VK → Prop) (f : List IV → Sto → Out IV) : Prop := ∀ (w : Wd) (S : Sto) (H : Hp) (xs : List V) (ix : List IV) (Q : VK), R K w S H → RelL K w xs ix →
  Post K W w (f ix S) (fun w' H' _ iv => ∀ v, Rel K w' v iv → Q v H') → r xs H Q
def MtS (K : KX) (W : WX) (r : V → List V → Hp → VK → Prop) (f : IV → List IV → Sto → Out IV) : Prop := ∀ (w : Wd) (S : Sto) (H : Hp) (x : V) (xs : List V) (io : IV) (ix : List IV) (Q : VK), R K w S H → Rel K w x io → RelL K w xs ix →
  Post K W w (f io ix S) (fun w' H' _ iv => ∀ v, Rel K w' v iv → Q v H') → r x xs H Q
def iBin (f : IV → IV → Sto → Out IV) (ma mb : IE) : IE := fun Λ S => (ma Λ S).bind fun x S1 => (mb Λ S1).bind fun y S2 => f x y S2
def iUn (f : IV → Sto → Out IV) (ma : IE) : IE := fun Λ S => (ma Λ S).bind fun x S1 => f x S1
def iNil : IA := fun _ S => .ok [] S
def iCons (ma : IE) (mr : IA) : IA := fun Λ S => (ma Λ S).bind fun x S1 => (mr Λ S1).bind fun xs S2 => .ok (x :: xs) S2
def iCa (f : List IV → Sto → Out IV) (ma : IA) : IE := fun Λ S => (ma Λ S).bind fun x S1 => f x S1
section
variable {K : KX} {W : WX} {σ : L2.St} {H : Hp} {Q : VK}
theorem eM_bin {r : R2} {f : IV → IV → Sto → Out IV} {ma mb : IE} (ho : OpS K W r f) (h : eM K W (iBin f ma mb) σ H Q) : tOp r (eM K W ma) (eM K W mb) σ H Q := by
  obtain ⟨w, S, Λ, r0, s0, p⟩ := h
  exact ⟨w, S, Λ, r0, s0, p.bind.imp fun w1 H1 S1 ix l1 r1 p1 v1 rv1 => ⟨w1, S1, Λ, r1, s0.up l1, p1.bind.imp fun w2 H2 S2 iy l2 r2 p2 v2 rv2 => ho w2 S2 H2 _ _ _ _ _ r2 (rv1.up l2) rv2 p2⟩⟩
theorem eM_un {r : V → Hp → VK → Prop} {f : IV → Sto → Out IV} {ma : IE} (ho : UnS K W r f) (h : eM K W (iUn f ma) σ H Q) : tUn r (eM K W ma) σ H Q := by
  obtain ⟨w, S, Λ, r0, s0, p⟩ := h
  exact ⟨w, S, Λ, r0, s0, p.bind.imp fun w1 H1 S1 ix l1 r1 p1 v1 rv1 => ho w1 S1 H1 _ _ _ r1 rv1 p1⟩
theorem eM_ca {r : List V → Hp → VK → Prop} {f : List IV → Sto → Out IV} {ma : IA} (ho : CaS K W r f) (h : eM K W (iCa f ma) σ H Q) : tCB r (aM K W ma) σ H Q := by
  obtain ⟨w, S, Λ, r0, s0, p⟩ := h
  exact ⟨w, S, Λ, r0, s0, p.bind.imp fun w1 H1 S1 ix l1 r1 p1 v1 rv1 => ho w1 S1 H1 _ _ _ r1 rv1 p1⟩
end
section
variable {X : Cx} {W : WZ} {pos : Pos} {a b c : Expr} {ma mb mc : IE} {e : Expr} {es : List Expr} {me : IE} {mr : IA}
theorem da_nil : DA X W [] iNil := pa_nil.imp fun σ H Q ⟨w, S, Λ, r0, s0, p⟩ => p.now r0 [] .nil
theorem da_cons (ha : DE X W e me) (hr : DA X W es mr) (hs : starEach (e :: es) X.env = (false, eval e X.env) :: starEach es X.env := by rfl) : DA X W (e :: es) (iCons me mr) :=
  (pa_cons ha hr hs).imp fun σ H Q ⟨w, S, Λ, r0, s0, p⟩ => ⟨w, S, Λ, r0, s0, p.bind.imp fun w1 H1 S1 ix l1 r1 p1 v1 rv1 => ⟨w1, S1, Λ, r1, s0.up l1, p1.bind.imp fun w2 H2 S2 iy l2 r2 p2 v2 rv2 => p2.now r2 _ (.cons (rv1.up l2) rv2)⟩⟩
theorem de_bin {op : Operator} {r : R2} {f : IV → IV → Sto → Out IV} (ho : OpR X (binaryOp op) r) (hs : OpS (kx X W) W.x r f) (ha : DE X W a ma) (hb : DE X W b mb) : DE X W (.BinOp a op b pos) (iBin f ma mb) :=
  (pe_op ho ha hb).imp fun _ _ _ h => eM_bin hs h
theorem de_un {op : UnaryOp} {r : V → Hp → VK → Prop} {f : IV → Sto → Out IV} (ho : UnR X (unaryOp op) r) (hs : UnS (kx X W) W.x r f) (ha : DE X W a ma) : DE X W (.UnaryOp op a pos) (iUn f ma) :=
  (pe_un ho ha).imp fun _ _ _ h => eM_un hs h
theorem de_cmp {op : CmpOp} {r : R2} {f : IV → IV → Sto → Out IV} (ho : OpR X (compareOp op) r) (hs : OpS (kx X W) W.x r f) (ha : DE X W a ma) (hb : DE X W b mb) (hm : behindInMarks op b = false := by first | exact nomark _ | rfl) : DE X W (.Compare a [op] [b] pos) (iBin f ma mb) :=
  (pe_cmpR ho ha hb hm).imp fun _ _ _ h => eM_bin hs h
def asB {α : Type} (x : IV) (k : Bool → Out α) : Out α := match x with
  | .bl b => k b
  | _ => .bad
def iTest (m : IE) : IT := fun Λ S => (m Λ S).bind fun x S1 => asB x fun b => .ok b S1
theorem asB_post {α : Type} {K : KX} {W : WX} {w : Wd} {x : IV} {v : V} {k : Bool → Out α} {P : Wd → Hp → Sto → α → Prop} (h : Post K W w (asB x k) P) (r : Rel K w v x) : ∃ b, x = .bl b ∧ v = .bl b ∧ Post K W w (k b) P := by
  unfold asB at h
  split at h
  · rename_i b
    cases r
    exact ⟨_, rfl, rfl, h⟩
  · exact h.elim
theorem dt_cmp {op : CmpOp} {r : R2} {f : IV → IV → Sto → Out IV} (ho : OpR X (compareOp op) r) (hs : OpS (kx X W) W.x r f) (ha : DE X W a ma) (hb : DE X W b mb) (hm : behindInMarks op b = false := by first | exact nomark _ | rfl) : DT X W (.Compare a [op] [b] pos) (iTest (iBin f ma mb)) :=
  (pt_cmpR ho ha hb hm).imp fun σ H Q ⟨w, S, Λ, r0, s0, p⟩ => eM_bin hs ⟨w, S, Λ, r0, s0, p.bind.imp fun w1 H1 S1 ix l1 r1 p1 v1 rv1 => by
    obtain ⟨b, rfl, rfl, q⟩ := asB_post p1 rv1
    exact ⟨b, rfl, q.now r1⟩⟩
/-- a < b < c -/
def iChain (f g : IV → IV → Sto → Out IV) (ma mb mc : IE) : IE := fun Λ S => (ma Λ S).bind fun x S1 => (mb Λ S1).bind fun y S2 => (f x y S2).bind fun z S3 => asB z fun k => if k = true then (mc Λ S3).bind fun u S4 => g y u S4 else .ok (.bl false) S3
theorem eM_chain {K : KX} {W : WX} {σ : L2.St} {H : Hp} {Q : VK} {r r' : R2} {f g : IV → IV → Sto → Out IV} {ma mb mc : IE} (ho : OpS K W r f) (ho' : OpS K W r' g) (h : eM K W (iChain f g ma mb mc) σ H Q) : tChain r r' (eM K W ma) (eM K W mb) (eM K W mc) σ H Q := by
  obtain ⟨w, S, Λ, r0, s0, p⟩ := h
  refine ⟨w, S, Λ, r0, s0, p.bind.imp fun w1 H1 S1 ix l1 r1 p1 v1 rv1 => ⟨w1, S1, Λ, r1, s0.up l1, p1.bind.imp fun w2 H2 S2 iy l2 r2 p2 v2 rv2 => ?_⟩⟩
  refine ho w2 S2 H2 _ _ _ _ _ r2 (rv1.up l2) rv2 (p2.bind.imp fun w3 H3 S3 iz l3 r3 p3 v3 rv3 => ?_)
  obtain ⟨k, rfl, rfl, q⟩ := asB_post p3 rv3
  refine ⟨k, rfl, ?_⟩
  cases k with
  | true =>
    rw [if_pos rfl] at q ⊢
    exact ⟨w3, S3, Λ, r3, (s0.up l1).up (l2.trans l3), q.bind.imp fun w4 H4 S4 iu l4 r4 p4 v4 rv4 => ho' w4 S4 H4 _ _ _ _ _ r4 (rv2.up (l3.trans l4)) rv4 p4⟩
  | false =>
    rw [if_neg Bool.false_ne_true] at q ⊢
    exact q.now r3 _ (.bl false)
end

/-! ### values by kind -/
def asI {α : Type} (x : IV) (k : Int → Out α) : Out α := match x with
  | .int b => k b
  | _ => .bad
def asS {α : Type} (x : IV) (k : Str → Out α) : Out α := match x with
  | .str b => k b
  | _ => .bad
def lstOf (S : Sto) : IV → Option (List IV)
  | .lst xs => some xs
  | .wls xs => some xs
  | .adr n => match S[n]? with
    | some (.lst xs) => some xs
    | _ => none
  | _ => none
def lstX (S : Sto) : IV → Option (List IV)
  | .lst xs => some xs
  | .adr n => match S[n]? with
    | some (.lst xs) => some xs
    | _ => none
  | _ => none
def tupOf : IV → Option (List IV)
  | .tup xs => some xs
  | _ => none
section
variable {K : KX} {W : WX} {w : Wd} {S : Sto} {H : Hp} {α : Type} {P : Wd → Hp → Sto → α → Prop}
theorem asI_post {x : IV} {v : V} {k : Int → Out α} (h : Post K W w (asI x k) P) (r : Rel K w v x) : ∃ b, x = .int b ∧ v = .int b ∧ Post K W w (k b) P := by
  unfold asI at h
  split at h
  · rename_i b
    cases r
    exact ⟨_, rfl, rfl, h⟩
  · exact h.elim
theorem asS_post {x : IV} {v : V} {k : Str → Out α} (h : Post K W w (asS x k) P) (r : Rel K w v x) : ∃ b, x = .str b ∧ v = .str b ∧ Post K W w (k b) P := by
  unfold asS at h
  split at h
  · rename_i b
    cases r
    exact ⟨_, rfl, rfl, h⟩
  · exact h.elim
theorem lstOf_sq {iv : IV} {v : V} {ivs : List IV} (e : lstOf S iv = some ivs) (r : R K w S H) (rv : Rel K w v iv) : ∃ a xs, v = .ref a ∧ SqL K.k H a xs ∧ RelL K w xs ivs := by
  cases iv with
  | lst ys =>
    cases e
    cases rv with
    | lst h1 h2 => exact ⟨_, _, rfl, .of (r.F _ _ h1), h2⟩
  | wls ys =>
    cases e
    cases rv with
    | wls h1 h2 => exact ⟨_, _, rfl, r.F.seq h1, h2⟩
  | adr n =>
    cases rv with
    | adr h1 =>
      unfold lstOf at e
      cases q : S[n]? with
      | none => simp only [q] at e; cases e
      | some c =>
        simp only [q] at e
        cases c with
        | lst ys =>
          cases e
          obtain ⟨xs, h2, h3⟩ := r.cell n _ _ q h1
          exact ⟨_, _, rfl, .of h2, h3⟩
        | _ => cases e
  | _ => cases e
theorem lstX_sq {iv : IV} {v : V} {ivs : List IV} (e : lstX S iv = some ivs) (r : R K w S H) (rv : Rel K w v iv) : ∃ a xs, v = .ref a ∧ H a = some (.lst xs) ∧ RelL K w xs ivs := by
  cases iv with
  | lst ys =>
    cases e
    cases rv with
    | lst h1 h2 => exact ⟨_, _, rfl, (r.F _ _ h1), h2⟩
  | adr n =>
    cases rv with
    | adr h1 =>
      unfold lstX at e
      cases q : S[n]? with
      | none => simp only [q] at e; cases e
      | some c =>
        simp only [q] at e
        cases c with
        | lst ys =>
          cases e
          obtain ⟨xs, h2, h3⟩ := r.cell n _ _ q h1
          exact ⟨_, _, rfl, h2, h3⟩
        | _ => cases e
  | _ => cases e
theorem tupOf_sq {iv : IV} {v : V} {ivs : List IV} (e : tupOf iv = some ivs) (r : R K w S H) (rv : Rel K w v iv) : ∃ a xs, v = .ref a ∧ SqT K.k H a xs ∧ RelL K w xs ivs := by
  cases iv with
  | tup ys =>
    cases e
    cases rv with
    | tup h1 h2 => exact ⟨_, _, rfl, same_t r.F h1, h2⟩
  | _ => cases e
/-- an option must be there -/
def orBad {β : Type} (o : Option β) (k : β → Out α) : Out α := match o with
  | some b => k b
  | none => .bad
theorem orBad_post {β : Type} {o : Option β} {k : β → Out α} (h : Post K W w (orBad o k) P) : ∃ b, o = some b ∧ Post K W w (k b) P := by
  unfold orBad at h
  split at h
  · exact ⟨_, rfl, h⟩
  · exact h.elim
@[simp] theorem orBad_some {β : Type} {b : β} {k : β → Out α} : orBad (some b) k = k b := rfl
end
/-- a new list that never changes; a new list in the store; a new tuple -/
def mkF (ivs : List IV) (S : Sto) : Out IV := chk (ivs.length ≤ sizeLine) (.ok (.lst ivs) S)
def mkC (ivs : List IV) (S : Sto) : Out IV := chk (ivs.length ≤ sizeLine) (.ok (.adr S.length) (S ++ [.lst ivs]))
def mkL (cell : Bool) (ivs : List IV) (S : Sto) : Out IV := if cell = true then mkC ivs S else mkF ivs S
def mkT (ivs : List IV) (S : Sto) : Out IV := chk (ivs.length ≤ sizeLine) (.ok (.tup ivs) S)
section
variable {K : KX} {W : WX} {w : Wd} {S : Sto} {H : Hp} {Q : VK}
theorem mkL_post {cell : Bool} {ivs : List IV} {xs : List V} (h : Post K W w (mkL cell ivs S) fun w' H' _ iv => ∀ v, Rel K w' v iv → Q v H') (r : R K w S H) (rx : RelL K w xs ivs) : xs.length ≤ sizeLine ∧ ∀ p, H p = none → Q (.ref p) (upd H p (.lst xs)) := by
  rw [rx.length]
  cases cell with
  | true =>
    obtain ⟨h1, h⟩ := chk_post (show Post K W w (mkC ivs S) _ from h)
    refine ⟨h1, fun p hp => ?_⟩
    obtain ⟨l, r'⟩ := r.alloc (c := .lst ivs) (o := .lst xs) hp fun w' l => ⟨xs, upd_same, rx.up l⟩
    refine h _ _ l r' _ (.adr ?_)
    show (w.rho ++ [p])[S.length]? = some p
    rw [← r.len, List.getElem?_append_right (Nat.le_refl _), Nat.sub_self]
    rfl
  | false =>
    obtain ⟨h1, h⟩ := chk_post (show Post K W w (mkF ivs S) _ from h)
    refine ⟨h1, fun p hp => ?_⟩
    obtain ⟨l, r'⟩ := r.frz (o := .lst xs) hp
    exact h _ _ l r' _ (.lst upd_same (rx.up l))
theorem mkT_post {ivs : List IV} {xs : List V} (h : Post K W w (mkT ivs S) fun w' H' _ iv => ∀ v, Rel K w' v iv → Q v H') (r : R K w S H) (rx : RelL K w xs ivs) : xs.length ≤ sizeLine ∧ ∀ p, H p = none → Q (.ref p) (upd H p (.tup xs)) := by
  rw [rx.length]
  obtain ⟨h1, h⟩ := chk_post h
  refine ⟨h1, fun p hp => ?_⟩
  obtain ⟨l, r'⟩ := r.frz (o := .tup xs) hp
  exact h _ _ l r' _ (.tup (.of upd_same) (rx.up l))
end
section
variable {X : Cx} {W : WZ} {pos : Pos} {es : List Expr} {m : IA}
def iLst (cell : Bool) (m : IA) : IE := iCa (mkL cell) m
def iTup (m : IA) : IE := iCa mkT m
theorem de_lst (cell : Bool) (h : DA X W es m) : DE X W (.List es pos) (iLst cell m) :=
  (pe_lst h).imp fun σ H Q ⟨w, S, Λ, r0, s0, p⟩ => ⟨w, S, Λ, r0, s0, p.bind.imp fun w1 H1 S1 ix l1 r1 p1 v1 rv1 => mkL_post p1 r1 rv1⟩
theorem de_tup {x1} (h : DA X W es m) : DE X W (.Tuple es x1 pos) (iTup m) :=
  (pe_tup h).imp fun σ H Q ⟨w, S, Λ, r0, s0, p⟩ => ⟨w, S, Λ, r0, s0, p.bind.imp fun w1 H1 S1 ix l1 r1 p1 v1 rv1 => mkT_post p1 r1 rv1⟩
end

/-! ### ints -/
instance (i j : Int) : Decidable (CMul i j) := by unfold CMul; infer_instance
instance (i j : Int) : Decidable (CDiv i j) := by unfold CDiv; infer_instance
instance (i j : Int) : Decidable (CPow i j) := by unfold CPow; infer_instance
def fI (C : Int → Int → Prop) [∀ i j, Decidable (C i j)] (g : Int → Int → Int) (x y : IV) (S : Sto) : Out IV := asI x fun i => asI y fun j => chk (C i j) (.ok (.int (g i j)) S)
def fB (g : Int → Int → Bool) (x y : IV) (S : Sto) : Out IV := asI x fun i => asI y fun j => .ok (.bl (g i j)) S
section
variable {K : KX} {W : WX}
theorem os_I {C : Int → Int → Prop} [∀ i j, Decidable (C i j)] {g : Int → Int → Int} : OpS K W (rI C fun i j => .int (g i j)) (fI C g) := fun w S H x y ix iy Q r rx ry p => by
  obtain ⟨i, rfl, rfl, p⟩ := asI_post p rx
  obtain ⟨j, rfl, rfl, p⟩ := asI_post p ry
  obtain ⟨c, p⟩ := chk_post p
  exact ⟨i, j, rfl, rfl, c, p.now r _ (.int _)⟩
theorem os_B {g : Int → Int → Bool} : OpS K W (rI0 fun i j => .bl (g i j)) (fB g) := fun w S H x y ix iy Q r rx ry p => by
  obtain ⟨i, rfl, rfl, p⟩ := asI_post p rx
  obtain ⟨j, rfl, rfl, p⟩ := asI_post p ry
  exact ⟨i, j, rfl, rfl, p.now r _ (.bl _)⟩
end
/-- a + b: ints, texts, lists (the sum never changes) -/
def fAdd (x y : IV) (S : Sto) : Out IV := match x, y with
  | .int i, .int j => .ok (.int (i + j)) S
  | .str a, .str b => chk (a.length + b.length ≤ sizeLine) (.ok (.str (a ++ b)) S)
  | a, b => orBad (lstX S a) fun xs => orBad (lstX S b) fun ys => mkF (xs ++ ys) S
abbrev rAddS : R2 := fun x y H Q => ∃ i j, x = .str i ∧ y = .str j ∧ i.length + j.length ≤ sizeLine ∧ Q (.str (i ++ j)) H
abbrev rAddI : R2 := rI0 fun i j => .int (i + j)
abbrev rAddA : R2 := fun x y H Q => rAddI x y H Q ∨ ((fun x y H Q => rAddS x y H Q ∨ rCat x y H Q) : R2) x y H Q
theorem op_addA {X : Cx} : OpR X (binaryOp .Add) rAddA := op_add.or (op_add_str.or op_cat)
theorem os_add {K : KX} {W : WX} : OpS K W rAddA fAdd := fun w S H x y ix iy Q r rx ry p => by
  unfold fAdd at p
  split at p
  · rename_i i j
    cases rx; cases ry
    exact .inl ⟨_, _, rfl, rfl, p.now r _ (.int _)⟩
  · rename_i i j
    cases rx; cases ry
    obtain ⟨c, p⟩ := chk_post p
    exact .inr (.inl ⟨_, _, rfl, rfl, c, p.now r _ (.str _)⟩)
  · obtain ⟨xs, e1, p⟩ := orBad_post p
    obtain ⟨ys, e2, p⟩ := orBad_post p
    obtain ⟨a, vs, rfl, h1, q1⟩ := lstX_sq e1 r rx
    obtain ⟨b, us, rfl, h2, q2⟩ := lstX_sq e2 r ry
    obtain ⟨c, k⟩ := mkL_post (cell := false) p r (q1.append q2)
    exact .inr (.inr ⟨_, _, _, _, rfl, rfl, h1, h2, by rw [List.length_append] at c; exact c, k⟩)
/-- the sum is in the store -/
def fCatC (x y : IV) (S : Sto) : Out IV := orBad (lstX S x) fun xs => orBad (lstX S y) fun ys => mkC (xs ++ ys) S
theorem os_catC {K : KX} {W : WX} : OpS K W rCat fCatC := fun w S H x y ix iy Q r rx ry p => by
  obtain ⟨xs, e1, p⟩ := orBad_post p
  obtain ⟨ys, e2, p⟩ := orBad_post p
  obtain ⟨a, vs, rfl, h1, q1⟩ := lstX_sq e1 r rx
  obtain ⟨b, us, rfl, h2, q2⟩ := lstX_sq e2 r ry
  obtain ⟨c, k⟩ := mkL_post (cell := true) p r (q1.append q2)
  exact ⟨_, _, _, _, rfl, rfl, h1, h2, by rw [List.length_append] at c; exact c, k⟩
abbrev fSub := fI (fun _ _ => True) fun i j => i - j
abbrev rSubT : R2 := rI (fun _ _ => True) fun i j => .int (i - j)
theorem op_subT {X : Cx} : OpR X (binaryOp .Sub) rSubT := opI fun _ _ _ _ _ _ _ _ q => sub_int q
abbrev fMul := fI CMul fun i j => i * j
abbrev fDiv := fI CDiv fun i j => i / j
abbrev fMod := fI (fun _ j => 0 < j) fun i j => i % j
abbrev fPow := fI CPow fun i j => i ^ j.toNat
def fNeg (x : IV) (S : Sto) : Out IV := asI x fun i => .ok (.int (-i)) S
theorem us_neg {K : KX} {W : WX} : UnS K W (rU fun i => .int (-i)) fNeg := fun w S H x ix Q r rx p => by
  obtain ⟨i, rfl, rfl, p⟩ := asI_post p rx
  exact ⟨i, rfl, p.now r _ (.int _)⟩
abbrev fLt := fB fun i j => decide (i < j)
abbrev fLe := fB fun i j => decide (i ≤ j)
abbrev fGt := fB fun i j => decide (j < i)
abbrev fGe := fB fun i j => decide (j ≤ i)

/-! ### data, == -/
def viewL (f : IV → Option PyData) : List IV → Option (List PyData)
  | [] => some []
  | x :: xs => match f x, viewL f xs with
    | some d, some ds => some (d :: ds)
    | _, _ => none
def view : Nat → Sto → IV → Option PyData
  | 0, _, _ => none
  | n + 1, S, x => match x with
    | .non => some .none
    | .bl b => some (.bool b)
    | .int i => some (.int i)
    | .str s => some (.str s)
    | .lst xs => (viewL (view n S) xs).map .list
    | .wls xs => (viewL (view n S) xs).map .list
    | .tup xs => (viewL (view n S) xs).map .tuple
    | .adr m => match S[m]? with
      | some (.lst xs) => (viewL (view n S) xs).map .list
      | _ => none
    | _ => none
section
variable {K : KX} {w : Wd} {S : Sto} {H : Hp}
theorem viewL_dp {f : IV → Option PyData} (hf : ∀ x d v, f x = some d → Rel K w v x → Dp K.k H v d) : ∀ (xs : List IV) (ds : List PyData) (vs : List V), viewL f xs = some ds → RelL K w vs xs → DpAll K.k H vs ds
  | [], _, _, e, h => by
    cases h; cases e; exact .nil
  | x :: xs, ds, _, e, h => by
    cases h with
    | cons a b =>
      unfold viewL at e
      split at e
      · rename_i d ds' e1 e2
        cases e
        exact .cons (hf _ _ _ e1 a) (viewL_dp hf xs _ _ e2 b)
      · cases e
theorem view_dp (r : R K w S H) : ∀ (n : Nat) (x : IV) (d : PyData) (v : V), view n S x = some d → Rel K w v x → Dp K.k H v d
  | 0, _, _, _, e, _ => by cases e
  | n + 1, x, d, v, e, h => by
    have ih := view_dp r n
    unfold view at e
    cases x with
    | non => cases e; cases h; exact .non
    | bl b => cases e; cases h; exact .bl _
    | int b => cases e; cases h; exact .int _
    | str b => cases e; cases h; exact .str _
    | lst xs =>
      obtain ⟨ds, e1, e2⟩ := Option.map_eq_some_iff.mp e
      subst e2
      cases h with
      | lst h1 h2 => exact .lst (.of (r.F _ _ h1)) (viewL_dp ih xs ds _ e1 h2)
    | wls xs =>
      obtain ⟨ds, e1, e2⟩ := Option.map_eq_some_iff.mp e
      subst e2
      cases h with
      | wls h1 h2 => exact .lst (r.F.seq h1) (viewL_dp ih xs ds _ e1 h2)
    | tup xs =>
      obtain ⟨ds, e1, e2⟩ := Option.map_eq_some_iff.mp e
      subst e2
      cases h with
      | tup h1 h2 => exact .tup (same_t r.F h1) (viewL_dp ih xs ds _ e1 h2)
    | adr m =>
      cases h with
      | adr h1 =>
        cases q : S[m]? with
        | none => simp only [q] at e; cases e
        | some c =>
          simp only [q] at e
          cases c with
          | lst xs =>
            obtain ⟨ds, e1, e2⟩ := Option.map_eq_some_iff.mp e
            subst e2
            obtain ⟨vs, h2, h3⟩ := r.cell m _ _ q h1
            exact .lst (.of h2) (viewL_dp ih xs ds _ e1 h3)
          | _ => cases e
    | _ => cases e
end
/-- == of data: the scalars by themselves -/
def eqB (S : Sto) (x y : IV) : Option Bool := match x, y with
  | .int i, .int j => some (decide (i = j))
  | .str a, .str b => some (decide (a = b))
  | .bl a, .bl b => some (decide (a = b))
  | a, b => match view 8 S a, view 8 S b with
    | some d, some e => if SeqAt.shaped d = true ∧ SeqAt.shaped e = true then some (PyData.eqv d e) else none
    | _, _ => none
def fEq (x y : IV) (S : Sto) : Out IV := orBad (eqB S x y) fun b => .ok (.bl b) S
def fNe (x y : IV) (S : Sto) : Out IV := orBad (eqB S x y) fun b => .ok (.bl (!b)) S
abbrev rEqA (K : PySem.W.Frag) : R2 := fun x y H Q => rEq x y H Q ∨ rEqD K x y H Q
abbrev rNeA (K : PySem.W.Frag) : R2 := fun x y H Q => rNe x y H Q ∨ rNeD K x y H Q
theorem op_eqA {X : Cx} (hu : X.A.units + 64 < cLine) : OpR X (compareOp .Eq) (rEqA X.K) := op_eq.or (op_eqD hu)
theorem op_neA {X : Cx} (hu : X.A.units + 64 < cLine) : OpR X (compareOp .NotEq) (rNeA X.K) := op_ne.or (op_neD hu)
theorem eqB_cases {K : KX} {w : Wd} {S : Sto} {H : Hp} {x y : V} {ix iy : IV} {b : Bool} (r : R K w S H) (rx : Rel K w x ix) (ry : Rel K w y iy) (e : eqB S ix iy = some b) :
    (scal x y = true ∧ b = decide (x = y)) ∨ ∃ d e, Dp K.k H x d ∧ Dp K.k H y e ∧ SeqAt.shaped d = true ∧ SeqAt.shaped e = true ∧ b = PyData.eqv d e := by
  unfold eqB at e
  split at e
  · cases rx; cases ry; cases e
    exact .inl ⟨rfl, by simp⟩
  · cases rx; cases ry; cases e
    exact .inl ⟨rfl, by simp⟩
  · cases rx; cases ry; cases e
    exact .inl ⟨rfl, by simp⟩
  · split at e
    · rename_i d d' h1 h2
      split at e
      · rename_i hs
        cases e
        exact .inr ⟨d, d', view_dp r _ _ _ _ h1 rx, view_dp r _ _ _ _ h2 ry, hs.1, hs.2, rfl⟩
      · cases e
    · cases e
theorem os_eq {K : KX} {W : WX} : OpS K W (rEqA K.k) fEq := fun w S H x y ix iy Q r rx ry p => by
  obtain ⟨b, e, p⟩ := orBad_post p
  rcases eqB_cases r rx ry e with ⟨h1, h2⟩ | ⟨d, d', h1, h2, h3, h4, h5⟩
  · subst h2; exact .inl ⟨h1, p.now r _ (.bl _)⟩
  · subst h5; exact .inr ⟨d, d', h1, h2, h3, h4, p.now r _ (.bl _)⟩
theorem os_ne {K : KX} {W : WX} : OpS K W (rNeA K.k) fNe := fun w S H x y ix iy Q r rx ry p => by
  obtain ⟨b, e, p⟩ := orBad_post p
  rcases eqB_cases r rx ry e with ⟨h1, h2⟩ | ⟨d, d', h1, h2, h3, h4, h5⟩
  · subst h2; exact .inl ⟨h1, p.now r _ (.bl _)⟩
  · subst h5; exact .inr ⟨d, d', h1, h2, h3, h4, p.now r _ (.bl _)⟩
/-- is None -/
def isN : IV → Bool
  | .non => true
  | _ => false
theorem isN_rel {K : KX} {w : Wd} {x : V} {ix : IV} (rx : Rel K w x ix) : decide (x = .non) = isN ix := by
  cases rx <;> simp [isN]
def fIsN (x _y : IV) (S : Sto) : Out IV := .ok (.bl (isN x)) S
def fNotN (x _y : IV) (S : Sto) : Out IV := .ok (.bl (!isN x)) S
end Sm

namespace Sm
open PySem PySem.Spec PyProof.Rows L2

/-! ### is None -/
theorem os_isN {K : KX} {W : WX} : OpS K W (fun x y H Q => y = .non ∧ Q (.bl (decide (x = .non))) H) (fun x y S => match y with | .non => .ok (.bl (isN x)) S | _ => .bad) := fun w S H x y ix iy Q r rx ry p => by
  cases ry with
  | non =>
    refine ⟨rfl, ?_⟩
    rw [isN_rel rx]
    exact (show Post K W w (Out.ok (IV.bl (isN ix)) S) (fun w' H' _ iv => ∀ v, Rel K w' v iv → Q v H') from p).now r _ (Rel.bl _)
  | _ => exact p.elim
theorem os_notN {K : KX} {W : WX} : OpS K W (fun x y H Q => y = .non ∧ Q (.bl (!decide (x = .non))) H) (fun x y S => match y with | .non => .ok (.bl (!isN x)) S | _ => .bad) := fun w S H x y ix iy Q r rx ry p => by
  cases ry with
  | non =>
    refine ⟨rfl, ?_⟩
    rw [isN_rel rx]
    exact (show Post K W w (Out.ok (IV.bl (!isN ix)) S) (fun w' H' _ iv => ∀ v, Rel K w' v iv → Q v H') from p).now r _ (Rel.bl _)
  | _ => exact p.elim
def gIsN : IV → IV → Sto → Out IV := fun x y S => match y with | .non => .ok (.bl (isN x)) S | _ => .bad
def gNotN : IV → IV → Sto → Out IV := fun x y S => match y with | .non => .ok (.bl (!isN x)) S | _ => .bad

/-! ### in -/
def scV : IV → Option V
  | .non => some .non
  | .bl b => some (.bl b)
  | .int i => some (.int i)
  | .str s => some (.str s)
  | _ => none
def scVs : List IV → Option (List V)
  | [] => some []
  | x :: xs => match scV x, scVs xs with
    | some v, some vs => some (v :: vs)
    | _, _ => none
theorem scV_rel {K : KX} {w : Wd} {x : IV} {v u : V} (e : scV x = some u) (r : Rel K w v x) : v = u ∧ flatV u = true := by
  cases x <;> (first | (cases e; done) | (cases e; cases r; exact ⟨rfl, rfl⟩))
theorem scVs_rel {K : KX} {w : Wd} : ∀ {xs : List IV} {vs us : List V}, scVs xs = some us → RelL K w vs xs → vs = us ∧ us.all flatV = true
  | [], _, _, e, r => by cases e; cases r; exact ⟨rfl, rfl⟩
  | x :: xs, _, us, e, r => by
    cases r with
    | cons a b =>
      unfold scVs at e
      split at e
      · rename_i u us' e1 e2
        cases e
        obtain ⟨h1, h2⟩ := scV_rel e1 a
        obtain ⟨h3, h4⟩ := scVs_rel e2 b
        exact ⟨by rw [h1, h3], by rw [List.all_cons, h2, h4]; rfl⟩
      · cases e
def seqOf (S : Sto) (x : IV) : Option (List IV) := match tupOf x with
  | some xs => some xs
  | none => lstOf S x
theorem seqOf_sq {K : KX} {w : Wd} {S : Sto} {H : Hp} {iv : IV} {v : V} {ivs : List IV} (e : seqOf S iv = some ivs) (r : R K w S H) (rv : Rel K w v iv) : ∃ a xs, v = .ref a ∧ (SqL K.k H a xs ∨ SqT K.k H a xs) ∧ RelL K w xs ivs := by
  unfold seqOf at e
  split at e
  · rename_i xs h
    cases e
    obtain ⟨a, xs, h1, h2, h3⟩ := tupOf_sq h r rv
    exact ⟨a, xs, h1, .inr h2, h3⟩
  · obtain ⟨a, xs, h1, h2, h3⟩ := lstOf_sq e r rv
    exact ⟨a, xs, h1, .inl h2, h3⟩
/-- the one sign of a text -/
def sgn (s : Str) : Option Nat := match s.cps.toList with
  | [c] => some c
  | _ => none
theorem sgn_eq {s : Str} {c : Nat} (h : sgn s = some c) : s = ⟨#[c]⟩ := by
  unfold sgn at h
  split at h
  · rename_i d e
    cases h
    cases s with
    | mk a =>
      have : a = #[c] := Array.toList_inj.mp e
      rw [this]
  · cases h
/-- x in y: one sign in a text, a flat thing in a list or tuple -/
def inB (S : Sto) (x y : IV) : Option Bool := match y with
  | .str z => match x with
    | .str s => (sgn s).map fun c => decide (c ∈ z.cps.toList)
    | _ => none
  | y => match scV x, seqOf S y with
    | some u, some ys => (scVs ys).map fun us => inV u us
    | _, _ => none
def fIn (x y : IV) (S : Sto) : Out IV := orBad (inB S x y) fun b => .ok (.bl b) S
def fNotIn (x y : IV) (S : Sto) : Out IV := orBad (inB S x y) fun b => .ok (.bl (!b)) S
abbrev rInSg : R2 := fun x y H Q => ∃ (c : Nat) (z : Str), x = .str ⟨#[c]⟩ ∧ y = .str z ∧ Q (.bl (decide (c ∈ z.cps.toList))) H
abbrev rNotInSg : R2 := fun x y H Q => ∃ (c : Nat) (z : Str), x = .str ⟨#[c]⟩ ∧ y = .str z ∧ Q (.bl (!decide (c ∈ z.cps.toList))) H
theorem op_inA {X : Cx} : OpR X (compareOp .In) (fun x y H Q => rInSg x y H Q ∨ rIn X.K false x y H Q) := op_in_sign.or op_in_seq
theorem op_notInA {X : Cx} : OpR X (compareOp .NotIn) (fun x y H Q => rNotInSg x y H Q ∨ rIn X.K true x y H Q) := op_notIn_sign.or op_notIn_seq
theorem inB_cases {K : KX} {w : Wd} {S : Sto} {H : Hp} {x y : V} {ix iy : IV} {b : Bool} (r : R K w S H) (rx : Rel K w x ix) (ry : Rel K w y iy) (e : inB S ix iy = some b) :
    (∃ (c : Nat) (z : Str), x = .str ⟨#[c]⟩ ∧ y = .str z ∧ b = decide (c ∈ z.cps.toList)) ∨ ∃ p xs, y = .ref p ∧ (SqL K.k H p xs ∨ SqT K.k H p xs) ∧ flatV x = true ∧ xs.all flatV = true ∧ b = inV x xs := by
  unfold inB at e
  split at e
  · rename_i z
    cases ry
    split at e
    · rename_i t
      cases rx
      obtain ⟨c, h1, h2⟩ := Option.map_eq_some_iff.mp e
      have := sgn_eq h1
      subst this
      exact .inl ⟨c, z, rfl, rfl, h2.symm⟩
    · cases e
  · split at e
    · rename_i u ys e1 e2
      obtain ⟨us, e3, e4⟩ := Option.map_eq_some_iff.mp e
      obtain ⟨h1, h2⟩ := scV_rel e1 rx
      obtain ⟨p, xs, h3, h4, h5⟩ := seqOf_sq e2 r ry
      obtain ⟨h6, h7⟩ := scVs_rel e3 h5
      subst h1 h6
      exact .inr ⟨p, _, h3, h4, h2, h7, e4.symm⟩
    · cases e
theorem os_in {K : KX} {W : WX} : OpS K W (fun x y H Q => rInSg x y H Q ∨ rIn K.k false x y H Q) fIn := fun w S H x y ix iy Q r rx ry p => by
  obtain ⟨b, e, p⟩ := orBad_post p
  rcases inB_cases r rx ry e with ⟨c, z, rfl, rfl, rfl⟩ | ⟨a, xs, h1, h2, h3, h4, rfl⟩
  · exact .inl ⟨c, z, rfl, rfl, p.now r _ (.bl _)⟩
  · exact .inr ⟨a, xs, h1, h2, h3, h4, by rw [if_neg Bool.false_ne_true]; exact p.now r _ (.bl _)⟩
theorem os_notIn {K : KX} {W : WX} : OpS K W (fun x y H Q => rNotInSg x y H Q ∨ rIn K.k true x y H Q) fNotIn := fun w S H x y ix iy Q r rx ry p => by
  obtain ⟨b, e, p⟩ := orBad_post p
  rcases inB_cases r rx ry e with ⟨c, z, rfl, rfl, rfl⟩ | ⟨a, xs, h1, h2, h3, h4, rfl⟩
  · exact .inl ⟨c, z, rfl, rfl, p.now r _ (.bl _)⟩
  · exact .inr ⟨a, xs, h1, h2, h3, h4, by rw [if_pos rfl]; exact p.now r _ (.bl _)⟩

/-! ### truth, and, or, not, if -/
def truB (S : Sto) (x : IV) : Option Bool := match x with
  | .non => some false
  | .bl b => some b
  | .int i => some (i != 0)
  | .str y => if y.length ≤ sizeLine then some ((y.length : Int) != 0) else none
  | .tup xs => some (!xs.isEmpty)
  | .adr n => match S[n]? with
    | some (.lst xs) => some (!xs.isEmpty)
    | some (.dic kvs) => some (!kvs.isEmpty)
    | _ => none
  | x => (lstOf S x).map fun xs => !xs.isEmpty
theorem RelL.empty {K : KX} {w : Wd} {xs : List V} {ivs : List IV} (r : RelL K w xs ivs) : (!ivs.isEmpty) = !xs.isEmpty := by cases r <;> rfl
theorem truB_rel {K : KX} {w : Wd} {S : Sto} {H : Hp} {x : V} {ix : IV} {b : Bool} (r : R K w S H) (rx : Rel K w x ix) (e : truB S ix = some b) : TruV K.k x H b := by
  have lst : ∀ {ys}, lstOf S ix = some ys → b = (!ys.isEmpty) → TruV K.k x H b := fun {ys} h1 h2 => by
    obtain ⟨a, xs, rfl, h3, h4⟩ := lstOf_sq h1 r rx
    exact .inl ⟨xs, h3, by rw [h2, h4.empty]⟩
  unfold truB at e
  split at e
  · cases rx; cases e; rfl
  · cases rx; cases e; rfl
  · cases rx; cases e; rfl
  · cases rx
    split at e
    · cases e
      exact ⟨by assumption, rfl⟩
    · cases e
  · cases rx with
    | tup h1 h2 =>
      cases e
      exact .inr (.inl ⟨_, same_t r.F h1, by rw [h2.empty]⟩)
  · cases rx with
    | adr h1 =>
      split at e
      · rename_i q
        cases e
        obtain ⟨xs, h2, h3⟩ := r.cell _ _ _ q h1
        exact .inl ⟨xs, .of h2, by rw [h3.empty]⟩
      · rename_i q
        cases e
        obtain ⟨xs, h2, h3⟩ := r.cell _ _ _ q h1
        refine .inr (.inr ⟨xs, h2, ?_⟩)
        cases h3 <;> rfl
      · cases e
  · obtain ⟨ys, h1, h2⟩ := Option.map_eq_some_iff.mp e
    exact lst h1 h2.symm
def iTru (m : IE) : IT := fun Λ S => (m Λ S).bind fun x S1 => orBad (truB S1 x) fun b => .ok b S1
def iAnd (c d : IT) : IT := fun Λ S => (c Λ S).bind fun b S1 => if b = true then d Λ S1 else .ok false S1
def iOr (c d : IT) : IT := fun Λ S => (c Λ S).bind fun b S1 => if b = true then .ok true S1 else d Λ S1
def iNot (c : IT) : IT := fun Λ S => (c Λ S).bind fun b S1 => .ok (!b) S1
def iAndV (c d : IE) : IE := fun Λ S => (c Λ S).bind fun x S1 => asB x fun b => if b = true then d Λ S1 else .ok (.bl false) S1
def iOrV (c d : IE) : IE := fun Λ S => (c Λ S).bind fun x S1 => asB x fun b => if b = true then .ok (.bl true) S1 else d Λ S1
def iNotV (c : IE) : IE := fun Λ S => (c Λ S).bind fun x S1 => asB x fun b => .ok (.bl (!b)) S1
def iIf {α : Type} (c : IT) (a b : Slots → Sto → Out α) : Slots → Sto → Out α := fun Λ S => (c Λ S).bind fun k S1 => if k = true then a Λ S1 else b Λ S1
section
variable {X : Cx} {W : WZ} {pos : Pos} {a b c : Expr} {rest : List Expr} {ma mb : IE} {ta tb tc : IT}
theorem dt_tru (ha : DE X W a ma) (he : ∀ whole, isTrue a X.env whole = (do let v ← whole; standAt a.pos; holding [v] (truthy v)) := by intro _; rfl) : DT X W a (iTru ma) :=
  (pt_truth ha he).imp fun σ H Q ⟨w, S, Λ, r0, s0, p⟩ => ⟨w, S, Λ, r0, s0, p.bind.imp fun w1 H1 S1 ix l1 r1 p1 v1 rv1 => by
    obtain ⟨b, e, q⟩ := orBad_post p1
    exact ⟨b, truB_rel r1 rv1 e, q.now r1⟩⟩
theorem dt_val (ha : DE X W a ma) (he : ∀ whole, isTrue a X.env whole = (do let v ← whole; standAt a.pos; holding [v] (truthy v)) := by intro _; rfl) : DT X W a (iTest ma) :=
  (pt_val ha he).imp fun σ H Q ⟨w, S, Λ, r0, s0, p⟩ => ⟨w, S, Λ, r0, s0, p.bind.imp fun w1 H1 S1 ix l1 r1 p1 v1 rv1 => by
    obtain ⟨b, rfl, rfl, q⟩ := asB_post p1 rv1
    exact ⟨b, rfl, q.now r1⟩⟩
theorem dt_w (h : DW X W a ta) : DT X W a ta := PW.pt h
theorem dw_and1 (h : DT X W a ta) : DW X W (.BoolOp .And [a] pos) ta := pw_and1 h
theorem dw_or1 (h : DT X W a ta) : DW X W (.BoolOp .Or [a] pos) ta := pw_or1 h
theorem dw_and (ha : DT X W a ta) (hb : DW X W (.BoolOp .And (b :: rest) pos) tb) : DW X W (.BoolOp .And (a :: b :: rest) pos) (iAnd ta tb) :=
  (pw_and ha hb).imp fun σ H Q ⟨w, S, Λ, r0, s0, p⟩ => ⟨w, S, Λ, r0, s0, p.bind.imp fun w1 H1 S1 k l1 r1 p1 => by
    cases k with
    | true => rw [if_pos rfl] at p1 ⊢; exact ⟨w1, S1, Λ, r1, s0.up l1, p1⟩
    | false => rw [if_neg Bool.false_ne_true] at p1 ⊢; exact p1.now r1⟩
theorem dw_or (ha : DT X W a ta) (hb : DW X W (.BoolOp .Or (b :: rest) pos) tb) : DW X W (.BoolOp .Or (a :: b :: rest) pos) (iOr ta tb) :=
  (pw_or ha hb).imp fun σ H Q ⟨w, S, Λ, r0, s0, p⟩ => ⟨w, S, Λ, r0, s0, p.bind.imp fun w1 H1 S1 k l1 r1 p1 => by
    cases k with
    | true => rw [if_pos rfl] at p1 ⊢; exact p1.now r1
    | false => rw [if_neg Bool.false_ne_true] at p1 ⊢; exact ⟨w1, S1, Λ, r1, s0.up l1, p1⟩⟩
theorem dt_not (ha : DT X W a ta) : DT X W (.UnaryOp .Not a pos) (iNot ta) :=
  (pt_not ha).imp fun σ H Q ⟨w, S, Λ, r0, s0, p⟩ => ⟨w, S, Λ, r0, s0, p.bind.imp fun w1 H1 S1 k l1 r1 p1 => p1.now r1⟩
theorem de_one {op} (h : DE X W a ma) : DE X W (.BoolOp op [a] pos) ma := pe_one h
theorem de_and (ha : DE X W a ma) (hb : DE X W (.BoolOp .And (b :: rest) pos) mb) : DE X W (.BoolOp .And (a :: b :: rest) pos) (iAndV ma mb) :=
  (pe_and ha hb).imp fun σ H Q ⟨w, S, Λ, r0, s0, p⟩ => ⟨w, S, Λ, r0, s0, p.bind.imp fun w1 H1 S1 ix l1 r1 p1 v1 rv1 => by
    obtain ⟨k, rfl, rfl, p1⟩ := asB_post p1 rv1
    refine ⟨k, rfl, ?_⟩
    cases k with
    | true => rw [if_pos rfl] at p1 ⊢; exact ⟨w1, S1, Λ, r1, s0.up l1, p1⟩
    | false => rw [if_neg Bool.false_ne_true] at p1 ⊢; exact p1.now r1 _ (.bl _)⟩
theorem de_or (ha : DE X W a ma) (hb : DE X W (.BoolOp .Or (b :: rest) pos) mb) : DE X W (.BoolOp .Or (a :: b :: rest) pos) (iOrV ma mb) :=
  (pe_or ha hb).imp fun σ H Q ⟨w, S, Λ, r0, s0, p⟩ => ⟨w, S, Λ, r0, s0, p.bind.imp fun w1 H1 S1 ix l1 r1 p1 v1 rv1 => by
    obtain ⟨k, rfl, rfl, p1⟩ := asB_post p1 rv1
    refine ⟨k, rfl, ?_⟩
    cases k with
    | true => rw [if_pos rfl] at p1 ⊢; exact p1.now r1 _ (.bl _)
    | false => rw [if_neg Bool.false_ne_true] at p1 ⊢; exact ⟨w1, S1, Λ, r1, s0.up l1, p1⟩⟩
theorem de_not (ha : DE X W a ma) : DE X W (.UnaryOp .Not a pos) (iNotV ma) :=
  (pe_not ha).imp fun σ H Q ⟨w, S, Λ, r0, s0, p⟩ => ⟨w, S, Λ, r0, s0, p.bind.imp fun w1 H1 S1 ix l1 r1 p1 v1 rv1 => by
    obtain ⟨k, rfl, rfl, p1⟩ := asB_post p1 rv1
    exact ⟨k, rfl, p1.now r1 _ (.bl _)⟩⟩
theorem de_if (hc : DT X W c tc) (ha : DE X W a ma) (hb : DE X W b mb) : DE X W (.IfExp c a b pos) (iIf tc ma mb) :=
  (pe_ifExp hc ha hb).imp fun σ H Q ⟨w, S, Λ, r0, s0, p⟩ => ⟨w, S, Λ, r0, s0, p.bind.imp fun w1 H1 S1 k l1 r1 p1 => by
    cases k with
    | true => rw [if_pos rfl] at p1 ⊢; exact ⟨w1, S1, Λ, r1, s0.up l1, p1⟩
    | false => rw [if_neg Bool.false_ne_true] at p1 ⊢; exact ⟨w1, S1, Λ, r1, s0.up l1, p1⟩⟩
end

/-! ### subscripts, slices -/
theorem atI_rel {K : KX} {w : Wd} {xs : List V} {ivs : List IV} {i : Int} {iv : IV} (r : RelL K w xs ivs) (e : atI ivs i = some iv) : ∃ v, atI xs i = some v ∧ Rel K w v iv := by
  unfold atI at e ⊢
  rw [r.length]
  cases h : ixN ivs.length i with
  | none => rw [h] at e; cases e
  | some j =>
    rw [h] at e
    exact r.get e
def fIx (x y : IV) (S : Sto) : Out IV := asI y fun i => match x with
  | .str z => chk (z.length ≤ sizeLine) (orBad (atI z.cps.toList i) fun c => .ok (.str ⟨#[c]⟩) S)
  | .tup xs => orBad (atI xs i) fun v => .ok v S
  | x => orBad (lstOf S x) fun xs => orBad (atI xs i) fun v => .ok v S
theorem os_ix {K : KX} {W : WX} : OpS K W (rIx K.k) fIx := fun w S H x y ix iy Q r rx ry p => by
  obtain ⟨i, rfl, rfl, p⟩ := asI_post p ry
  split at p
  · cases rx
    obtain ⟨h1, p⟩ := chk_post p
    obtain ⟨c, h2, p⟩ := orBad_post p
    exact .inr (.inr ⟨_, _, _, rfl, rfl, h1, h2, p.now r _ (.str _)⟩)
  · cases rx with
    | tup h1 h2 =>
      obtain ⟨c, h3, p⟩ := orBad_post p
      obtain ⟨v, h4, h5⟩ := atI_rel h2 h3
      exact .inr (.inl ⟨_, _, _, v, rfl, rfl, same_t r.F h1, h4, p.now r _ h5⟩)
  · obtain ⟨ivs, h0, p⟩ := orBad_post p
    obtain ⟨c, h3, p⟩ := orBad_post p
    obtain ⟨a, xs, rfl, h1, h2⟩ := lstOf_sq h0 r rx
    obtain ⟨v, h4, h5⟩ := atI_rel h2 h3
    exact .inl ⟨_, _, _, v, rfl, rfl, h1, h4, p.now r _ h5⟩
abbrev IO := Slots → Sto → Out (Option Int)
def oM (K : KX) (W : WX) (m : IO) : TO := fun σ H Q => ∃ w S Λ, R K w S H ∧ SR K w σ Λ ∧ Post K W w (m Λ S) fun _ H' _ o => Q o H'
def iNoPart : IO := fun _ S => .ok none S
def iPart (m : IE) : IO := fun Λ S => (m Λ S).bind fun x S1 => asI x fun i => .ok (some i) S1
abbrev DO (X : Cx) (W : WZ) (e : Option Expr) (m : IO) : Prop := PO X e (oM (kx X W) W.x m)
theorem _root_.L2.PO.imp {X : Cx} {e : Option Expr} {t t' : TO} (h : PO X e t) (f : ∀ σ H Q, t' σ H Q → t σ H Q) : PO X e t' := ⟨fun pins s σ H Q I q => h.run pins s σ H Q I (f σ H Q q)⟩
def cutI (xs : List IV) (lo hi : Option Int) : List IV := (xs.drop (HT.sIx xs.length 0 lo)).take (HT.sIx xs.length xs.length hi - HT.sIx xs.length 0 lo)
theorem cut_rel {K : KX} {w : Wd} {xs : List V} {ivs : List IV} (r : RelL K w xs ivs) (lo hi : Option Int) : RelL K w (cutV xs lo hi) (cutI ivs lo hi) := by
  unfold cutV cutI
  rw [r.length]
  exact (r.drop _).take _
def fSl (cell : Bool) (x : IV) (lo hi : Option Int) (S : Sto) : Out IV := match x with
  | .str z => chk (z.length ≤ sizeLine) (.ok (.str (cutS z lo hi)) S)
  | x => orBad (lstOf S x) fun xs => mkL cell (cutI xs lo hi) S
def iSl (cell : Bool) (m : IE) (ml mh : IO) : IE := fun Λ S => (m Λ S).bind fun x S1 => (ml Λ S1).bind fun lo S2 => (mh Λ S2).bind fun hi S3 => fSl cell x lo hi S3
section
variable {X : Cx} {W : WZ} {pos p2 : Pos} {a b e : Expr} {ma mb me : IE} {lo hi : Option Expr} {ml mh : IO}
theorem de_ix (ha : DE X W a ma) (hb : DE X W b mb) (hs : PlainIx b := by exact fun _ _ => rfl) : DE X W (.Subscript a b pos) (iBin fIx ma mb) :=
  (pe_ix ix_seq ha hb hs).imp fun _ _ _ h => eM_bin os_ix h
theorem do_none : DO X W none iNoPart := po_none.imp fun σ H Q ⟨w, S, Λ, r0, s0, p⟩ => p.now r0
theorem do_some (h : DE X W e me) : DO X W (some e) (iPart me) := (po_some h).imp fun σ H Q ⟨w, S, Λ, r0, s0, p⟩ => ⟨w, S, Λ, r0, s0, p.bind.imp fun w1 H1 S1 ix l1 r1 p1 v1 rv1 => by
  obtain ⟨i, rfl, rfl, q⟩ := asI_post p1 rv1
  exact ⟨i, rfl, q.now r1⟩⟩
theorem de_slice (cell : Bool) (he : DE X W e me) (hl : DO X W lo ml) (hh : DO X W hi mh) : DE X W (.Subscript e (.Slice lo hi none p2) pos) (iSl cell me ml mh) :=
  (pe_slice (SlR.or sl_str sl_list) he hl hh).imp fun σ H Q ⟨w, S, Λ, r0, s0, p⟩ => ⟨w, S, Λ, r0, s0, p.bind.imp fun w1 H1 S1 ix l1 r1 p1 v1 rv1 =>
    ⟨w1, S1, Λ, r1, s0.up l1, p1.bind.imp fun w2 H2 S2 o1 l2 r2 p2 => ⟨w2, S2, Λ, r2, s0.up (l1.trans l2), p2.bind.imp fun w3 H3 S3 o2 l3 r3 p3 => by
      have rv3 := rv1.up (l2.trans l3)
      unfold fSl at p3
      split at p3
      · cases rv3
        obtain ⟨h1, q⟩ := chk_post p3
        exact .inl ⟨_, rfl, h1, q.now r3 _ (.str _)⟩
      · obtain ⟨ys, h1, q⟩ := orBad_post p3
        obtain ⟨a, xs, rfl, h2, h3⟩ := lstOf_sq h1 r3 rv3
        exact .inr ⟨a, xs, rfl, h2, (mkL_post q r3 (cut_rel h3 _ _)).2⟩⟩⟩⟩
end

/-! ### calls -/
def spM (K : PySem.W.Frag) (mg : Str → Option Value) (np : Nat) (mf : List IV → Sto → Out IV) : Sp := fun vs H Q E => vs.length = np ∧ ∃ w S ivs, R ⟨K, mg, none⟩ w S H ∧ RelL ⟨K, mg, none⟩ w vs ivs ∧ Post ⟨K, mg, none⟩ (fun c d _ H => E c d H) w (mf ivs S) fun w' H' _ iv => ∀ v, Rel ⟨K, mg, none⟩ w' v iv → Q v H'
def mDef (n : Nat) (body : IS) : List IV → Sto → Out IV := fun ivs S => match body (ivs.map some ++ List.replicate (n - ivs.length) none) S with
  | .ok (.rt iv) S' => .ok iv S'
  | .ok (.nx _) S' => .ok .non S'
  | .ok _ _ => .bad
  | .exc C k _ S' => .exc C k [] S'
  | .bad => .bad
def relab (Λ : Slots) : Out IV → Out IV
  | .exc C n _ S => .exc C n Λ S
  | o => o
def iCall (np : Nat) (mf : List IV → Sto → Out IV) (ma : IA) : IE := fun Λ S => (ma Λ S).bind fun xs S1 => chk (xs.length = np) (relab Λ (mf xs S1))
theorem relab_post {K : KX} {W : WX} {w : Wd} {Λ : Slots} {σ : L2.St} {o : Out IV} {P : Wd → Hp → Sto → IV → Prop} (h : Post K W w (relab Λ o) P) (s : SR K w σ Λ) : Post K (fun c d _ H => W c d σ H) w o P := by
  cases o with
  | ok iv S2 => exact h
  | exc C n L S2 => exact fun w2 H2 a σ2 l2 r2 s2 e => h w2 H2 a σ l2 r2 (s.up l2) e
  | bad => exact h
/-- .. that lets no exception out -/
def iCall0 (mf : List IV → Sto → Out IV) : IE := fun _ S => match mf [] S with
  | .ok iv S2 => .ok iv S2
  | _ => .bad
section
variable {X : Cx} {W : WX} {pos p : Pos} {k : Nat} {f : Addr} {fd : FuncData} {ps : List Str} {mf : List IV → Sto → Out IV} {x : Str} {e : Expr} {es : List Expr} {ma : IA} {np : Nat}
theorem sr_nil {K : KX} {w : Wd} : SR K w [] [] := ⟨rfl, fun i iv e => by simp at e, fun i n a d _ e => by simp at e⟩
theorem de_call (F : FnG X.prog X.w X.K X.mg X.base (L2.CX X.prog X.w) k f fd ps (spM X.K X.mg np mf)) (tk : Takes X W) (hr : RmG k X.A) (hm : X.mg x = some (.ref f)) (hk : PySem.W.keepIn X.K (.ref f) = true) (hb : Binds X.K fd ps [])
    (ha : DA X ⟨W, none⟩ (e :: es) ma) (hg : Gl X x := by rfl) (hdb : (x == ("__debug__" : Str)) = false := by decide) (he : starEach (e :: es) X.env = (false, eval e X.env) :: starEach es X.env := by rfl) (hpl : (backTo pos (starEach es X.env)).any (·.1) = false := by rfl) :
    DE X ⟨W, none⟩ (.Call (.Name x p) (e :: es) [] pos) (iCall np mf ma) :=
  (pe_callG F hr hg hm hk hb (E := WE W) (fun σ => passAt tk σ) ha hdb he hpl).imp fun σ H Q ⟨w, S, Λ, r0, s0, p⟩ => ⟨w, S, Λ, r0, s0, p.bind.imp fun w1 H1 S1 xs l1 r1 p1 vs rv => by
    obtain ⟨h1, q⟩ := chk_post p1
    exact ⟨rv.length.trans h1, w1, S1, xs, r1, rv, relab_post q (s0.up l1)⟩⟩
theorem de_call0 (F : FnG X.prog X.w X.K X.mg X.base (L2.CX X.prog X.w) k f fd [] (spM X.K X.mg 0 mf)) (tk : Takes X W) (hr : RmG k X.A) (hm : X.mg x = some (.ref f)) (hk : PySem.W.keepIn X.K (.ref f) = true) (hb : Binds X.K fd [] [])
    (hg : Gl X x := by rfl) (hdb : (x == ("__debug__" : Str)) = false := by decide) :
    DE X ⟨W, none⟩ (.Call (.Name x p) [] [] pos) (iCall0 mf) :=
  (pe_callG0 F hr hg hm hk hb (E := WE W) (fun σ => passAt tk σ) hdb).imp fun σ H Q ⟨w, S, Λ, r0, s0, p⟩ => ⟨rfl, w, S, [], r0, .nil, by
    unfold iCall0 at p
    cases hf : mf [] S with
    | ok iv S2 => rw [hf] at p; exact p
    | exc C n L S2 => rw [hf] at p; exact p.elim
    | bad => rw [hf] at p; exact p⟩
end
end Sm

namespace Sm
open PySem PySem.Spec PyProof.Rows L2

theorem Post.up {K : KX} {W : WX} {w w' : Wd} {α : Type} {o : Out α} {P : Wd → Hp → Sto → α → Prop} (h : Post K W w o P) (l : w.le w') : Post K W w' o P := by
  cases o with
  | ok a S' => exact fun w2 H2 l2 r2 => h w2 H2 (l.trans l2) r2
  | exc C n L S' => exact fun w2 H2 a σ l2 r2 s2 e => h w2 H2 a σ (l.trans l2) r2 s2 e
  | bad => exact h

/-! ### statements -/
def iNext : IS := fun Λ S => .ok (.nx Λ) S
def fSeq (b : IS) (fl : Fl) (S : Sto) : Out Fl := match fl with
  | .nx L => b L S
  | o => .ok o S
def iSeq (a b : IS) : IS := fun Λ S => (a Λ S).bind fun fl S1 => fSeq b fl S1
def iDrop (m : IE) : IS := fun Λ S => (m Λ S).bind fun _ S1 => .ok (.nx Λ) S1
def iRet (m : IE) : IS := fun Λ S => (m Λ S).bind fun x S1 => .ok (.rt x) S1
def iRetN : IS := fun _ S => .ok (.rt .non) S
def iBrk : IS := fun Λ S => .ok (.bk Λ) S
def iCnt : IS := fun Λ S => .ok (.ct Λ) S
def iName (i : Nat) : IG := fun x Λ S => .ok (Λ.set i (some x)) S
def iAsg (m : IE) (g : IG) : IS := fun Λ S => (m Λ S).bind fun x S1 => (g x Λ S1).bind fun L S2 => .ok (.nx L) S2
def iSet (i : Nat) (m : IE) : IS := fun Λ S => (m Λ S).bind fun x S1 => .ok (.nx (Λ.set i (some x))) S1
section
variable {X : Cx} {W : WZ} {pos pos' : Pos} {st : Stmt} {rest : List Stmt} {m u : IS} {e : Expr} {me : IE} {g : IG}
theorem dss_nil : DSs X W [] iNext := pss_nil.imp fun D σ H ⟨w, S, Λ, r0, s0, p⟩ => p.now r0 σ s0
theorem dss_cons (h1 : DS X W st m) (h2 : DSs X W rest u) : DSs X W (st :: rest) (iSeq m u) :=
  (pss_cons h1 h2).imp fun D σ H ⟨w, S, Λ, r0, s0, p⟩ => ⟨w, S, Λ, r0, s0, p.bind.imp fun w1 H1 S1 fl l1 r1 p1 => by
    cases fl with
    | nx L => exact fun σ' s' => ⟨w1, S1, L, r1, s', p1⟩
    | rt iv => exact p1.now r1
    | bk L => exact p1.now r1
    | ct L => exact p1.now r1⟩
theorem dss_one (h1 : DS X W st m) : DSs X W [st] m := pss_one h1
theorem ds_pass : DS X W (.Pass pos) iNext := ps_pass.imp fun D σ H ⟨w, S, Λ, r0, s0, p⟩ => p.now r0 σ s0
theorem ds_break : DS X W (.Break pos) iBrk := ps_break.imp fun D σ H ⟨w, S, Λ, r0, s0, p⟩ => p.now r0 σ s0
theorem ds_continue : DS X W (.Continue pos) iCnt := ps_continue.imp fun D σ H ⟨w, S, Λ, r0, s0, p⟩ => p.now r0 σ s0
theorem ds_expr (he : DE X W e me) (hs : swapsWith e none pos.line X.env = pure false := by rfl) : DS X W (.Expr e pos) (iDrop me) :=
  (ps_expr he hs).imp fun D σ H ⟨w, S, Λ, r0, s0, p⟩ => ⟨w, S, Λ, r0, s0, p.bind.imp fun w1 H1 S1 ix l1 r1 p1 v1 rv1 => p1.now r1 σ (s0.up l1)⟩
theorem ds_ret (he : DE X W e me) : DS X W (.Return (some e) pos) (iRet me) :=
  (ps_ret he).imp fun D σ H ⟨w, S, Λ, r0, s0, p⟩ => ⟨w, S, Λ, r0, s0, p.bind.imp fun w1 H1 S1 ix l1 r1 p1 v1 rv1 => p1.now r1 v1 rv1⟩
theorem ds_retN : DS X W (.Return none pos) iRetN := ps_retN.imp fun D σ H ⟨w, S, Λ, r0, s0, p⟩ => p.now r0 _ .non
theorem ds_if {c : Expr} {a b : List Stmt} {tc : IT} (hc : DT X W c tc) (ha : DSs X W a m) (hb : DSs X W b u) : DS X W (.If c a b pos) (iIf tc m u) :=
  (ps_if hc ha hb).imp fun D σ H ⟨w, S, Λ, r0, s0, p⟩ => ⟨w, S, Λ, r0, s0, p.bind.imp fun w1 H1 S1 k l1 r1 p1 => by
    cases k with
    | true => rw [if_pos rfl] at p1 ⊢; exact ⟨w1, S1, Λ, r1, s0.up l1, p1⟩
    | false => rw [if_neg Bool.false_ne_true] at p1 ⊢; exact ⟨w1, S1, Λ, r1, s0.up l1, p1⟩⟩
theorem dg_name (i : Nat) {x : Str} (hN : X.N.Nodup) (hi : X.N[i]? = some x := by rfl) (hx : Loc X.env.scope x := by first | exact Or.inl rfl | exact Or.inr rfl) (hf : X.fn x = true ∨ X.env.scope.names.lookup x = some .local := by first | exact .inl rfl | exact .inr rfl) : DG X W (.Name x pos) (iName i) :=
  (pg_name hN hi hx hf).imp fun v σ H Q ⟨w, S, Λ, iv, r0, s0, rv, p⟩ => p.now r0 _ (s0.set i rv)
theorem ds_set (i : Nat) {x : Str} (hN : X.N.Nodup) (he : DE X W e me) (hi : X.N[i]? = some x := by rfl) (hx : Loc X.env.scope x := by first | exact Or.inl rfl | exact Or.inr rfl) (hs : swapsWith e (some (.Name x pos')) pos.line X.env = pure false := by rfl)
    (hf : X.fn x = true ∨ X.env.scope.names.lookup x = some .local := by first | exact .inl rfl | exact .inr rfl) : DS X W (.Assign [.Name x pos'] e pos) (iSet i me) :=
  (ps_set hN hi hx he hs hf).imp fun D σ H ⟨w, S, Λ, r0, s0, p⟩ => ⟨w, S, Λ, r0, s0, p.bind.imp fun w1 H1 S1 ix l1 r1 p1 v1 rv1 => p1.now r1 _ ((s0.up l1).set i rv1)⟩
theorem ds_asg {tg : Expr} (he : DE X W e me) (hg : DG X W tg g) (hs : swapsWithSole [tg] e pos.line X.env = pure false := by rfl) (hw : swappedStores [tg] e X.env = pure none := by rfl)
    (h1 : (assignEach [tg] X.env).map (·.2) = [assign tg X.env] := by rfl) : DS X W (.Assign [tg] e pos) (iAsg me g) :=
  (ps_asg he hg hs hw h1).imp fun D σ H ⟨w, S, Λ, r0, s0, p⟩ => ⟨w, S, Λ, r0, s0, p.bind.imp fun w1 H1 S1 ix l1 r1 p1 v1 rv1 => ⟨w1, S1, Λ, ix, r1, s0.up l1, rv1, p1.bind.imp fun w2 H2 S2 L l2 r2 p2 => p2.now r2⟩⟩
/-- a op= e -/
def iAug (i : Nat) (f : IV → IV → Sto → Out IV) (m : IE) : IS := fun Λ S => (iVar i Λ S).bind fun x S0 => (m Λ S0).bind fun y S1 => (f x y S1).bind fun z S2 => .ok (.nx (Λ.set i (some z))) S2
theorem ds_aug (i : Nat) {x : Str} {op : Operator} {r : R2} {f : IV → IV → Sto → Out IV} (hN : X.N.Nodup) (ho : OpR X (inplaceOp op) r) (hs : OpS (kx X W) W.x r f) (he : DE X W e me) (hi : X.N[i]? = some x := by rfl) (hx : Loc X.env.scope x := by first | exact Or.inl rfl | exact Or.inr rfl)
    (hf : X.fn x = true ∨ X.env.scope.names.lookup x = some .local := by first | exact .inl rfl | exact .inr rfl) : DS X W (.AugAssign (.Name x pos') op e pos) (iAug i f me) :=
  (ps_aug hN hi hx he (ti := r) ho hf).imp fun D σ H ⟨w, S, Λ, r0, s0, p⟩ => by
    unfold iAug iVar at p
    split at p
    · rename_i iv el
      obtain ⟨v, h1, h2⟩ := s0.get i iv el
      have p : Post (kx X W) W.x w ((me Λ S).bind fun y S1 => (f iv y S1).bind fun z S2 => Out.ok (Fl.nx (Λ.set i (some z))) S2) (fun w' H' _ fl => FlP (kx X W) w' D H' fl) := p
      exact ⟨v, h1, w, S, Λ, r0, s0, p.bind.imp fun w1 H1 S1 iy l1 r1 p1 v1 rv1 => hs w1 S1 H1 _ _ _ _ _ r1 (h2.up l1) rv1 (p1.bind.imp fun w2 H2 S2 iz l2 r2 p2 v2 rv2 => p2.now r2 _ ((s0.up (l1.trans l2)).set i rv2))⟩
    · exact p.elim
/-- targets in a row; a tuple's -/
abbrev IGs := List IV → Slots → Sto → Out Slots
def iGNil : IGs := fun xs Λ S => match xs with
  | [] => .ok Λ S
  | _ => .bad
def iGCons (g : IG) (r : IGs) : IGs := fun xs Λ S => match xs with
  | x :: xs => (g x Λ S).bind fun L S1 => r xs L S1
  | [] => .bad
def gsM (K : KX) (W : WX) (m : IGs) : TGs := fun vs σ H Q => ∃ w S Λ ivs, R K w S H ∧ SR K w σ Λ ∧ RelL K w vs ivs ∧ Post K W w (m ivs Λ S) fun w' H' _ L => ∀ σ', SR K w' σ' L → Q σ' H'
theorem _root_.L2.PGs.imp {X : Cx} {e : List Expr} {t t' : TGs} (h : PGs X e t) (f : ∀ v σ H Q, t' v σ H Q → t v σ H Q) : PGs X e t' := ⟨fun pins s σ H v u Q I r q => h.run pins s σ H v u Q I r (f v σ H Q q)⟩
abbrev DGs (X : Cx) (W : WZ) (e : List Expr) (m : IGs) : Prop := PGs X e (gsM (kx X W) W.x m)
theorem dgs_nil : DGs X W [] iGNil := pgs_nil.imp fun v σ H Q ⟨w, S, Λ, ivs, r0, s0, rv, p⟩ => by
  cases rv with
  | nil => exact ⟨rfl, Post.now (show Post (kx X W) W.x w (Out.ok Λ S) _ from p) r0 σ s0⟩
  | cons a b => exact p.elim
theorem dgs_cons {es : List Expr} {r : IGs} (h1 : DG X W e g) (h2 : DGs X W es r) (hs : (assignEach (e :: es) X.env).map (·.2) = assign e X.env :: (assignEach es X.env).map (·.2) := by rfl) : DGs X W (e :: es) (iGCons g r) :=
  (pgs_cons h1 h2 hs).imp fun v σ H Q ⟨w, S, Λ, ivs, r0, s0, rv, p⟩ => by
    cases rv with
    | nil => exact p.elim
    | cons a b =>
      have p : Post (kx X W) W.x w ((g _ Λ S).bind fun L S1 => r _ L S1) (fun w' H' _ L => ∀ σ', SR (kx X W) w' σ' L → Q σ' H') := p
      exact ⟨_, _, rfl, w, S, Λ, _, r0, s0, a, p.bind.imp fun w1 H1 S1 L l1 r1 p1 σ' s' => ⟨w1, S1, L, _, r1, s', b.up l1, p1⟩⟩
def iGTup (n : Nat) (gs : IGs) : IG := fun x Λ S => orBad (tupOf x) fun xs => chk (xs.length = n) (gs xs Λ S)
theorem dg_tup {es : List Expr} {k n : Nat} {gs : IGs} (hc : X.calm = true) (h : DGs X W es gs) (hn : (assignEach es X.env).length = n := by rfl) (hst : (assignEach es X.env).findIdx? (·.1) = none := by rfl) : DG X W (.Tuple es k pos) (iGTup n gs) :=
  (pg_tup hc h hn hst).imp fun v σ H Q ⟨w, S, Λ, iv, r0, s0, rv, p⟩ => by
    obtain ⟨ivs, h1, p⟩ := orBad_post p
    obtain ⟨h2, p⟩ := chk_post p
    obtain ⟨a, xs, e1, e2, e3⟩ := tupOf_sq h1 r0 rv
    exact ⟨a, xs, e1, e2, e3.length.trans h2, w, S, Λ, ivs, r0, s0, e3, p⟩
/-- xs[i] = e -/
def iGSub (mo mi : IE) : IG := fun x Λ S => (mo Λ S).bind fun o S1 => (mi Λ S1).bind fun i S2 => asI i fun k => match o with
  | .adr n => (match S2[n]? with
    | some (.lst xs) => orBad (ixN xs.length k) fun j => .ok Λ (S2.set n (.lst (xs.set j x)))
    | _ => .bad)
  | _ => .bad
theorem dg_sub {o i : Expr} {mo mi : IE} (ho : DE X W o mo) (hi : DE X W i mi)
    (ha : ∀ v, assign (.Subscript o i pos) X.env v = (do
      let ov ← holding [v] (eval o X.env)
      let iv ← holding [v, ov] (eval i X.env)
      standAt pos
      holding [v, ov, iv] (setItem ov iv v)
      release [v, ov, iv] []) := by intro _; rfl) : DG X W (.Subscript o i pos) (iGSub mo mi) :=
  (pg_sub ho hi set_list ha).imp fun v σ H Q ⟨w, S, Λ, iv, r0, s0, rv, p⟩ => ⟨w, S, Λ, r0, s0, p.bind.imp fun w1 H1 S1 o1 l1 r1 p1 v1 rv1 => ⟨w1, S1, Λ, r1, s0.up l1, p1.bind.imp fun w2 H2 S2 i2 l2 r2 p2 v2 rv2 => by
    obtain ⟨k, rfl, rfl, q⟩ := asI_post p2 rv2
    have rv1 := rv1.up l2
    cases rv1 with
    | adr hrho =>
      rename_i n a
      cases hq : S2[n]? with
      | none => simp only [hq] at q; exact q.elim
      | some c =>
        simp only [hq] at q
        cases c with
        | lst xs =>
          obtain ⟨j, hj, q⟩ := orBad_post q
          obtain ⟨vs, h1, h2⟩ := r2.cell n _ a hq hrho
          have rw' : R (kx X W) w2 (S2.set n (.lst (xs.set j iv))) (upd H2 a (.lst (vs.set j v))) := r2.write hrho ⟨_, upd_same, h2.set (rv.up (l1.trans l2)) j⟩ (fun _ e => by rw [hq] at e; cases e)
          exact ⟨a, vs, k, j, rfl, rfl, h1, by rw [h2.length]; exact hj, q.now rw' σ (s0.up (l1.trans l2))⟩
        | _ => exact q.elim
    | _ => exact q.elim⟩⟩
end

/-! ### what is walked -/
structure Src where
  items : List IV
  keep : Option Nat
def Src.stay (s : Src) (S : Sto) : Prop := match s.keep with
  | none => True
  | some n => S[n]? = some (.lst s.items)
open Classical in
noncomputable def chkP {α : Type} (p : Prop) (o : Out α) : Out α := if p then o else .bad
theorem chkP_pos {α : Type} {p : Prop} {o : Out α} (h : p) : chkP p o = o := if_pos h
theorem chkP_neg {α : Type} {p : Prop} {o : Out α} (h : ¬ p) : chkP p o = .bad := if_neg h
theorem chkP_post {α : Type} {K : KX} {W : WX} {w : Wd} {p : Prop} {o : Out α} {P : Wd → Hp → Sto → α → Prop} (h : Post K W w (chkP p o) P) : p ∧ Post K W w o P := by
  by_cases hp : p
  · rw [chkP_pos hp] at h; exact ⟨hp, h⟩
  · rw [chkP_neg hp] at h; exact h.elim
structure ItR (K : KX) (w0 : Wd) (J : It) (s : Src) : Prop where
  go : ∀ (w : Wd) (S : Sto) (H : Hp) (i : Nat), w0.lz w → R K w S H → s.stay S → i < s.items.length → J.go i H
  stop : ∀ (w : Wd) (S : Sto) (H : Hp) (i : Nat), w0.lz w → R K w S H → s.stay S → s.items.length ≤ i → J.stop i H
  yld : ∀ (w : Wd) (S : Sto) (H : Hp) (i : Nat) (iv : IV) (x : V) (H' : Hp), w0.lz w → R K w S H → s.stay S → s.items[i]? = some iv → J.yld i H x H' → ∃ w', w.le w' ∧ R K w' S H' ∧ Rel K w' x iv
abbrev IW := Slots → Sto → Out Src
def wM (K : KX) (W : WX) (m : IW) : TI := fun σ H Rr => ∃ w S Λ, R K w S H ∧ SR K w σ Λ ∧ Post K W w (m Λ S) fun w' H' S' s => ∀ J, ItR K w' J s → Rr J H'
abbrev DI (X : Cx) (W : WZ) (tg e : Expr) (m : IW) : Prop := PI X tg e (wM (kx X W) W.x m)
theorem _root_.L2.PI.imp {X : Cx} {tg e : Expr} {t t' : TI} (h : PI X tg e t) (f : ∀ σ H Q, t' σ H Q → t σ H Q) : PI X tg e t' := ⟨fun pins s σ H Q I q => h.run pins s σ H Q I (f σ H Q q)⟩
def fSrcL (x : IV) (S : Sto) : Out Src := match x with
  | .adr n => (match S[n]? with
    | some (.lst xs) => .ok ⟨xs, some n⟩ S
    | _ => .bad)
  | x => orBad (lstOf S x) fun xs => .ok ⟨xs, none⟩ S
def iSrcL (m : IE) : IW := fun Λ S => (m Λ S).bind fun x S1 => fSrcL x S1
theorem fSrcL_cases {K : KX} {W : WX} {w : Wd} {S : Sto} {H : Hp} {x : V} {ix : IV} {P : Wd → Hp → Sto → Src → Prop} (h : Post K W w (fSrcL ix S) P) (r : R K w S H) (rx : Rel K w x ix) :
    ∃ a s, x = .ref a ∧ (∃ xs, SqL K.k H a xs) ∧ Post K W w (.ok s S) P ∧ ItR K w (Itl K.k a) s := by
  have mk : ∀ {a : Addr} {s : Src}, (∀ w' S' H', w.lr w' → R K w' S' H' → s.stay S' → ∃ xs, SqL K.k H' a xs ∧ RelL K w' xs s.items) → ItR K w (Itl K.k a) s := fun {a s} f => by
    refine ⟨fun w' S' H' i l r' st hi => ?_, fun w' S' H' i l r' st hi => ?_, fun w' S' H' i iv x H2 l r' st hi hy => ?_⟩
    · obtain ⟨xs, h1, h2⟩ := f w' S' H' l.1 r' st
      obtain ⟨v, h3, _⟩ := h2.get (List.getElem?_eq_getElem hi)
      exact ⟨xs, v, h1, h3⟩
    · obtain ⟨xs, h1, h2⟩ := f w' S' H' l.1 r' st
      exact ⟨xs, h1, by rw [h2.length]; exact hi⟩
    · obtain ⟨xs, h1, h2⟩ := f w' S' H' l.1 r' st
      obtain ⟨e1, e2⟩ := hy
      subst e1
      obtain ⟨v, h3, h4⟩ := h2.get hi
      have := (e2 xs h1).symm.trans h3
      cases this
      exact ⟨w', Wd.le.refl _, r', h4⟩
  unfold fSrcL at h
  split at h
  · cases rx with
    | adr hrho =>
      split at h
      · rename_i n xs hq
        rename_i a _ _
        obtain ⟨vs, h1, h2⟩ := r.cell _ _ _ hq hrho
        refine ⟨_, _, rfl, ⟨vs, .of h1⟩, h, mk fun w' S' H' l r' st => ?_⟩
        obtain ⟨us, h3, h4⟩ := r'.cell _ _ _ (show S'[_]? = some (.lst xs) from st) (l.get hrho)
        exact ⟨us, .of h3, h4⟩
      · exact h.elim
  · rename_i hn
    obtain ⟨xs, e, h⟩ := orBad_post h
    cases ix with
    | lst ys =>
      cases e
      cases rx with
      | lst h1 h2 => exact ⟨_, _, rfl, ⟨_, .of (r.F _ _ h1)⟩, h, mk fun w' S' H' l r' st => ⟨_, .of (r'.F _ _ (l.F _ _ h1)), RelL.mono l _ _ h2⟩⟩
    | wls ys =>
      cases e
      cases rx with
      | wls h1 h2 => exact ⟨_, _, rfl, ⟨_, r.F.seq h1⟩, h, mk fun w' S' H' l r' st => ⟨_, r'.F.seq (l.F.seq h1), RelL.mono l _ _ h2⟩⟩
    | adr n => exact absurd rfl (hn n)
    | _ => cases e
def rangeI (lo : Int) (n : Nat) : List IV := (List.range n).map fun (i : Nat) => .int (lo + i)
theorem itR_range {K : KX} {w : Wd} {lo : Int} {n : Nat} : ItR K w (Itr lo n) ⟨rangeI lo n, none⟩ := by
  refine ⟨fun w' S' H' i l r' st hi => ?_, fun w' S' H' i l r' st hi => ?_, fun w' S' H' i iv x H2 l r' st hi hy => ?_⟩
  · show i < n
    simpa [rangeI] using hi
  · show n ≤ i
    simpa [rangeI] using hi
  · obtain ⟨e1, e2⟩ := hy
    subst e1 e2
    refine ⟨w', Wd.le.refl _, r', ?_⟩
    have hi : (rangeI lo n)[i]? = some iv := hi
    unfold rangeI at hi
    rw [List.getElem?_map] at hi
    obtain ⟨j, h1, h2⟩ := Option.map_eq_some_iff.mp hi
    obtain ⟨hj, h3⟩ := List.getElem?_eq_some_iff.mp h1
    rw [List.getElem_range] at h3
    subst h3 h2
    exact .int _
instance (j : Int) : Decidable (-(2 ^ 62) ≤ j ∧ j < 2 ^ 62) := by infer_instance
def iSrcR1 (m : IE) : IW := fun Λ S => (m Λ S).bind fun x S1 => asI x fun j => chk (-(2 ^ 62) ≤ j ∧ j < 2 ^ 62) (.ok ⟨rangeI 0 j.toNat, none⟩ S1)
def iSrcR2 (m m' : IE) : IW := fun Λ S => (m Λ S).bind fun x S1 => (m' Λ S1).bind fun y S2 => asI x fun i => asI y fun j => chk (-(2 ^ 62) ≤ i ∧ i < 2 ^ 62 ∧ -(2 ^ 62) ≤ j ∧ j < 2 ^ 62) (.ok ⟨rangeI i (j - i).toNat, none⟩ S2)
/-- a text, sign by sign -/
def iSrcS (m : IE) : IW := fun Λ S => (m Λ S).bind fun x S1 => asS x fun z => .ok ⟨z.cps.toList.map fun c => .str ⟨#[c]⟩, none⟩ S1
def iSrcT (m : IE) : IW := fun Λ S => (m Λ S).bind fun x S1 => orBad (tupOf x) fun xs => .ok ⟨xs, none⟩ S1
section
variable {X : Cx} {W : WZ} {tg e e' : Expr} {m m' : IE} {p pos : Pos}
theorem di_list (h : DE X W e m) : DI X W tg e (iSrcL m) := (pi_list h).imp fun σ H Q ⟨w, S, Λ, r0, s0, p⟩ => ⟨w, S, Λ, r0, s0, p.bind.imp fun w1 H1 S1 ix l1 r1 p1 v1 rv1 => by
  obtain ⟨a, s, h1, h2, h3, h4⟩ := fSrcL_cases p1 r1 rv1
  exact ⟨a, h1, h2, h3.now r1 _ h4⟩⟩
theorem di_tup (h : DE X W e m) : DI X W tg e (iSrcT m) := (pi_tup h).imp fun σ H Q ⟨w, S, Λ, r0, s0, p⟩ => ⟨w, S, Λ, r0, s0, p.bind.imp fun w1 H1 S1 ix l1 r1 p1 v1 rv1 => by
  obtain ⟨ivs, h1, q⟩ := orBad_post p1
  obtain ⟨a, xs, e1, e2, e3⟩ := tupOf_sq h1 r1 rv1
  have hF : SqT X.K w1.F a xs ∨ True := .inr trivial
  cases ix with
  | tup ys =>
    cases h1
    cases rv1 with
    | tup k1 k2 =>
      cases e1
      refine ⟨_, rfl, ⟨_, e2⟩, q.now r1 _ ⟨fun w' S' H' i l r' st hi => ?_, fun w' S' H' i l r' st hi => ?_, fun w' S' H' i iv x H2 l r' st hi hy => ?_⟩⟩
      · obtain ⟨v, h3, _⟩ := k2.get (List.getElem?_eq_getElem hi)
        exact ⟨_, v, same_t r'.F (same_t l.F k1), h3⟩
      · exact ⟨_, same_t r'.F (same_t l.F k1), by rw [k2.length]; exact hi⟩
      · obtain ⟨f1, f2⟩ := hy
        subst f1
        obtain ⟨v, h3, h4⟩ := k2.get hi
        have := (f2 _ (same_t r'.F (same_t l.F k1))).symm.trans h3
        cases this
        exact ⟨w', Wd.le.refl _, r', Rel.mono l.1 _ _ h4⟩
  | _ => cases h1⟩
theorem di_range1 (hm : X.mg "range" = none) (ha : DA X W [e] (iCons m iNil)) (hg : Gl X "range" := by rfl) (hs : starEach [e] X.env = [(false, eval e X.env)] := by rfl) : DI X W tg (.Call (.Name "range" p) [e] [] pos) (iSrcR1 m) :=
  (pi_range1 hg hm ha hs).imp fun σ H Q ⟨w, S, Λ, r0, s0, p⟩ => ⟨w, S, Λ, r0, s0, by
    unfold iCons iNil
    cases h : m Λ S with
    | ok x S1 =>
      unfold iSrcR1 at p
      rw [h] at p
      intro w1 H1 l1 r1 vs rv
      cases rv with
      | cons a b =>
        cases b
        obtain ⟨j, rfl, rfl, q⟩ := asI_post (p.up l1) a
        obtain ⟨hj, q⟩ := chk_post q
        exact ⟨j, rfl, hj.1, hj.2, q.now r1 _ itR_range⟩
    | exc C n L S1 => unfold iSrcR1 at p; rw [h] at p; exact p
    | bad => unfold iSrcR1 at p; rw [h] at p; exact p⟩
theorem di_range2 (hm : X.mg "range" = none) (ha : DA X W [e, e'] (iCons m (iCons m' iNil))) (hg : Gl X "range" := by rfl) (hs : starEach [e, e'] X.env = [(false, eval e X.env), (false, eval e' X.env)] := by rfl) (hs2 : starEach [e'] X.env = [(false, eval e' X.env)] := by rfl) : DI X W tg (.Call (.Name "range" p) [e, e'] [] pos) (iSrcR2 m m') :=
  (pi_range2 hg hm ha hs hs2).imp fun σ H Q ⟨w, S, Λ, r0, s0, p⟩ => ⟨w, S, Λ, r0, s0, by
    unfold iCons iNil
    unfold iSrcR2 at p
    cases h : m Λ S with
    | ok x S1 =>
      rw [h] at p
      have p : Post (kx X W) W.x w ((m' Λ S1).bind fun y S2 => asI x fun i => asI y fun j => chk (-(2 ^ 62) ≤ i ∧ i < 2 ^ 62 ∧ -(2 ^ 62) ≤ j ∧ j < 2 ^ 62) (Out.ok (Src.mk (rangeI i (j - i).toNat) none) S2)) (fun w' H' S' s => ∀ J, ItR (kx X W) w' J s → Q J H') := p
      simp only [Out.bind_ok]
      cases h' : m' Λ S1 with
      | ok y S2 =>
        rw [h'] at p
        intro w1 H1 l1 r1 vs rv
        cases rv with
        | cons a b =>
          cases b with
          | cons b c =>
            cases c
            obtain ⟨i, rfl, rfl, q⟩ := asI_post (p.up l1) a
            obtain ⟨j, rfl, rfl, q⟩ := asI_post q b
            obtain ⟨hj, q⟩ := chk_post q
            exact ⟨i, j, rfl, hj, q.now r1 _ itR_range⟩
      | exc C n L S2 => rw [h'] at p; exact p
      | bad => rw [h'] at p; exact p
    | exc C n L S1 => rw [h] at p; exact p
    | bad => rw [h] at p; exact p⟩
end
end Sm

namespace Sm
open PySem PySem.Spec PyProof.Rows L2

/-! ### for -/
noncomputable def iIter (s : Src) (g : IG) (b : IS) : List IV → Slots → Sto → Out Fl
  | [], Λ, S => chkP (s.stay S) (.ok (.nx Λ) S)
  | x :: xs, Λ, S => chkP (s.stay S) ((g x Λ S).bind fun Λ1 S1 => (b Λ1 S1).bind fun fl S2 => match fl with
    | .nx L => iIter s g b xs L S2
    | .ct L => iIter s g b xs L S2
    | .bk L => .ok (.nx L) S2
    | .rt v => .ok (.rt v) S2)
noncomputable def iFor (ms : IW) (g : IG) (b : IS) : IS := fun Λ S => (ms Λ S).bind fun s S1 => iIter s g b s.items Λ S1
theorem for_loop {K : KX} {W : WX} {g : IG} {b : IS} {D : Ends} {σ : L2.St} {H1 : Hp} {J : It} {s : Src} {w1 : Wd} {S1 : Sto} {Λ : Slots} (hJ : ItR K w1 J s) (r1 : R K w1 S1 H1) (s0 : SR K w1 σ Λ) (p1 : Post K W w1 (iIter s g b s.items Λ S1) fun w' H' _ fl => FlP K w' D H' fl) : tFor (fun _ H Rr => Rr J H) (gM K W g) (sM K W b) D σ H1 := by
  refine ⟨fun i m σ H => m = s.items.length - i ∧ i ≤ s.items.length ∧ ∃ w2 S2 L, w1.le w2 ∧ R K w2 S2 H ∧ SR K w2 σ L ∧ Post K W w2 (iIter s g b (s.items.drop i) L S2) fun w' H' _ fl => FlP K w' D H' fl,
    ⟨s.items.length, by simp, Nat.zero_le _, w1, S1, Λ, Wd.le.refl _, r1, s0, by rw [List.drop_zero]; exact p1⟩, ?_⟩
  rintro i m σ2 H2 ⟨rfl, hi, w2, S2, L, l2, r2, s2, p2⟩
  by_cases hlt : i < s.items.length
  · rw [List.drop_eq_getElem_cons hlt] at p2
    obtain ⟨st, p2⟩ := chkP_post (show Post K W w2 (chkP (s.stay S2) _) _ from p2)
    refine .inr ⟨hJ.go w2 S2 H2 i l2.lz r2 st hlt, fun σ' H' => i + 1 ≤ s.items.length ∧ ∃ w3 S3 L3, w1.le w3 ∧ R K w3 S3 H' ∧ SR K w3 σ' L3 ∧ Post K W w3 (iIter s g b (s.items.drop (i + 1)) L3 S3) fun w' H' _ fl => FlP K w' D H' fl,
      fun σ' H' h' => ⟨s.items.length - (i + 1), by omega, rfl, h'.1, h'.2⟩, fun x H' y => ?_⟩
    obtain ⟨w3, l3, r3, rv⟩ := hJ.yld w2 S2 H2 i _ x H' l2.lz r2 st (List.getElem?_eq_getElem hlt) y
    refine ⟨w3, S2, L, _, r3, s2.up l3, rv, (p2.up l3).bind.imp fun w4 H4 S4 L4 l4 r4 p4 σ4 s4 => ⟨w4, S4, L4, r4, s4, p4.bind.imp fun w5 H5 S5 fl l5 r5 p5 => ?_⟩⟩
    have lA := l2.trans (l3.trans (l4.trans l5))
    cases fl with
    | nx L5 => exact fun σ5 s5 => ⟨hlt, w5, S5, L5, lA, r5, s5, p5⟩
    | ct L5 => exact fun σ5 s5 => ⟨hlt, w5, S5, L5, lA, r5, s5, p5⟩
    | bk L5 => exact Post.now (show Post K W w5 (Out.ok (Fl.nx L5) S5) (fun w' H' _ fl => FlP K w' D H' fl) from p5) r5
    | rt v => exact Post.now (show Post K W w5 (Out.ok (Fl.rt v) S5) (fun w' H' _ fl => FlP K w' D H' fl) from p5) r5
  · have e : i = s.items.length := by omega
    subst e
    rw [List.drop_length] at p2
    obtain ⟨st, p2⟩ := chkP_post (show Post K W w2 (chkP (s.stay S2) _) _ from p2)
    exact .inl ⟨hJ.stop w2 S2 H2 _ l2.lz r2 st (Nat.le_refl _), p2.now r2 σ2 s2⟩
theorem for_M {K : KX} {W : WX} {ms : IW} {g : IG} {b : IS} {D : Ends} {σ : L2.St} {H : Hp} (h : sM K W (iFor ms g b) D σ H) : tFor (wM K W ms) (gM K W g) (sM K W b) D σ H := by
  obtain ⟨w, S, Λ, r0, s0, p⟩ := h
  exact ⟨w, S, Λ, r0, s0, p.bind.imp fun w1 H1 S1 s l1 r1 p1 J hJ => for_loop hJ r1 (s0.up l1) p1⟩
section
variable {X : Cx} {W : WZ} {pos : Pos} {tg iter : Expr} {body : List Stmt} {ms : IW} {g : IG} {b : IS}
theorem ds_for (hp : PassesOwn (model X.prog X.w) X.A X.env X.xe) (hc : X.calm = true) (hi : DI X W tg iter ms) (hg : DG X W tg g) (hb : DSs X W body b) (hs : ∀ x, foldedSetIterable iter X.env x = pure x := by intro _; rfl) : DS X W (.For tg iter body [] pos) (iFor ms g b) :=
  (ps_for hp hc hi hg hb hs).imp fun D σ H h => for_M h
end

/-! ### while -/
def iWh (c : IT) (b : IS) : Nat → Slots → Sto → Out Fl
  | 0, _, _ => .bad
  | n + 1, Λ, S => (c Λ S).bind fun k S1 => if k = true then (b Λ S1).bind fun fl S2 => match fl with
      | .nx L => iWh c b n L S2
      | .ct L => iWh c b n L S2
      | .bk L => .ok (.nx L) S2
      | .rt v => .ok (.rt v) S2
    else .ok (.nx Λ) S1
open Classical in
noncomputable def iWhile (c : IT) (b : IS) : IS := fun Λ S => if h : ∃ n, iWh c b n Λ S ≠ .bad then iWh c b h.choose Λ S else .bad
theorem iWh_mono {c : IT} {b : IS} : ∀ (n m : Nat) (Λ : Slots) (S : Sto), iWh c b n Λ S ≠ .bad → n ≤ m → iWh c b m Λ S = iWh c b n Λ S
  | 0, _, _, _, h, _ => absurd rfl h
  | n + 1, 0, _, _, _, l => by omega
  | n + 1, m + 1, Λ, S, h, l => by
    unfold iWh at h ⊢
    cases hc : c Λ S with
    | ok k S1 =>
      rw [hc] at h
      simp only [Out.bind_ok] at h ⊢
      cases k with
      | true =>
        rw [if_pos rfl] at h ⊢
        cases hb : b Λ S1 with
        | ok fl S2 =>
          rw [hb] at h
          simp only [Out.bind_ok] at h ⊢
          cases fl with
          | nx L => exact iWh_mono n m L S2 h (by omega)
          | ct L => exact iWh_mono n m L S2 h (by omega)
          | bk L => rfl
          | rt v => rfl
        | exc C k L S2 => rfl
        | bad => rfl
      | false => rfl
    | exc C k L S1 => rfl
    | bad => rfl
theorem iWhile_of {c : IT} {b : IS} {n : Nat} {Λ : Slots} {S : Sto} {o : Out Fl} (h : iWh c b n Λ S = o) (hb : o ≠ .bad) : iWhile c b Λ S = o := by
  have hx : ∃ n, iWh c b n Λ S ≠ .bad := ⟨n, by rw [h]; exact hb⟩
  unfold iWhile
  rw [dif_pos hx]
  have h1 := hx.choose_spec
  rcases Nat.le_total n hx.choose with l | l
  · rw [iWh_mono n _ Λ S (by rw [h]; exact hb) l, h]
  · rw [← iWh_mono _ n Λ S h1 l, h]
theorem while_M {K : KX} {W : WX} {c : IT} {b : IS} {D : Ends} {σ : L2.St} {H : Hp} (h : sM K W (iWhile c b) D σ H) : tWhile (tM K W c) (sM K W b) D σ H := by
  obtain ⟨w, S, Λ, r0, s0, p⟩ := h
  unfold iWhile at p
  split at p
  · rename_i hx
    generalize hx.choose = n at p
    refine ⟨fun m σ H => ∃ w2 S2 L, R K w2 S2 H ∧ SR K w2 σ L ∧ Post K W w2 (iWh c b m L S2) fun w' H' _ fl => FlP K w' D H' fl, ⟨n, w, S, Λ, r0, s0, p⟩, ?_⟩
    rintro m σ2 H2 ⟨w2, S2, L, r2, s2, p2⟩
    cases m with
    | zero => exact p2.elim
    | succ m =>
      unfold iWh at p2
      refine ⟨w2, S2, L, r2, s2, p2.bind.imp fun w3 H3 S3 k l3 r3 p3 => ?_⟩
      cases k with
      | true =>
        rw [if_pos rfl] at p3 ⊢
        refine ⟨fun σ' H' => ∃ w4 S4 L4, R K w4 S4 H' ∧ SR K w4 σ' L4 ∧ Post K W w4 (iWh c b m L4 S4) fun w' H' _ fl => FlP K w' D H' fl, fun σ' H' h' => ⟨m, Nat.lt_succ_self m, h'⟩,
          w3, S3, L, r3, s2.up l3, p3.bind.imp fun w5 H5 S5 fl l5 r5 p5 => ?_⟩
        cases fl with
        | nx L5 => exact fun σ5 s5 => ⟨w5, S5, L5, r5, s5, p5⟩
        | ct L5 => exact fun σ5 s5 => ⟨w5, S5, L5, r5, s5, p5⟩
        | bk L5 => exact Post.now (show Post K W w5 (Out.ok (Fl.nx L5) S5) (fun w' H' _ fl => FlP K w' D H' fl) from p5) r5
        | rt v => exact Post.now (show Post K W w5 (Out.ok (Fl.rt v) S5) (fun w' H' _ fl => FlP K w' D H' fl) from p5) r5
      | false =>
        rw [if_neg Bool.false_ne_true] at p3 ⊢
        exact p3.now r3 σ2 (s2.up l3)
  · exact p.elim
section
variable {X : Cx} {W : WZ} {pos : Pos} {c : Expr} {body : List Stmt} {tc : IT} {b : IS}
theorem ds_while (hp : PassesOwn (model X.prog X.w) X.A X.env X.xe) (hc : DT X W c tc) (hb : DSs X W body b) : DS X W (.While c body [] pos) (iWhile tc b) :=
  (ps_while hp hc hb).imp fun D σ H h => while_M h
end

/-! ### list comprehensions -/
def W0 : WX := fun _ _ _ _ => False
def noX {α : Type} : Out α → Out α
  | .exc _ _ _ _ => .bad
  | o => o
@[simp] theorem noX_ok {α : Type} (a : α) (S : Sto) : noX (.ok a S) = .ok a S := rfl
@[simp] theorem noX_bad {α : Type} : noX (.bad : Out α) = .bad := rfl
def wipeI (Λ : Slots) : List Nat → Slots
  | [] => Λ
  | v :: vs => (wipeI Λ vs).set v none
theorem sr_wipe {K : KX} {w : Wd} {σ : L2.St} {Λ : Slots} (s : SR K w σ Λ) (hx : K.ex = none) : ∀ vs : List Nat, SR K w (wipe σ vs) (wipeI Λ vs)
  | [] => s
  | v :: vs => (sr_wipe s hx vs).setN v none (by rw [hx]; rfl)
theorem wipe_get {σ : L2.St} {j : Nat} : ∀ {vs : List Nat}, (wipe σ vs)[j]? = if j ∈ vs then σ[j]?.map (fun _ => none) else σ[j]?
  | [] => by simp [wipe]
  | v :: vs => by
    unfold wipe
    by_cases h : v = j
    · subst h
      rw [if_pos List.mem_cons_self]
      by_cases hl : v < (wipe σ vs).length
      · rw [List.getElem?_set_self hl]
        rw [wipe_length] at hl
        rw [List.getElem?_eq_getElem hl]
        rfl
      · have hl' := hl
        rw [wipe_length] at hl'
        rw [List.getElem?_eq_none (by rw [List.length_set]; omega), List.getElem?_eq_none (by omega)]
        rfl
    · rw [List.getElem?_set_ne h, wipe_get (vs := vs)]
      have : (j ∈ v :: vs) ↔ j ∈ vs := by
        rw [List.mem_cons]
        exact ⟨fun z => z.elim (fun e => absurd e.symm h) id, .inr⟩
      by_cases hj : j ∈ vs
      · rw [if_pos hj, if_pos (this.mpr hj)]
      · rw [if_neg hj, if_neg fun z => hj (this.mp z)]
theorem wipe_set {σ : L2.St} {i : Nat} {u : Option V} {vs : List Nat} (h : i ∈ vs) : wipe (σ.set i u) vs = wipe σ vs := by
  refine List.ext_getElem? fun j => ?_
  rw [wipe_get, wipe_get]
  by_cases hj : j ∈ vs
  · rw [if_pos hj, if_pos hj]
    by_cases e : i = j
    · subst e
      by_cases hl : i < σ.length
      · rw [List.getElem?_set_self hl, List.getElem?_eq_getElem hl]; rfl
      · rw [List.getElem?_eq_none (by rw [List.length_set]; omega), List.getElem?_eq_none (by omega)]
    · rw [List.getElem?_set_ne e]
  · rw [if_neg hj, if_neg hj]
    have e : i ≠ j := fun e => hj (e ▸ h)
    rw [List.getElem?_set_ne e]
theorem wipe_wipe {σ : L2.St} : ∀ {vs ws : List Nat}, (∀ v ∈ ws, v ∈ vs) → wipe (wipe σ ws) vs = wipe σ vs
  | vs, [], _ => rfl
  | vs, w :: ws, h => by
    show wipe ((wipe σ ws).set w none) vs = wipe σ vs
    rw [wipe_set (h w List.mem_cons_self), wipe_wipe fun v hv => h v (List.mem_cons_of_mem _ hv)]
/-- a block's target -/
structure GC (K : KX) (vs : List Nat) (g : TG) (gi : IV → Slots → Option Slots) : Prop where
  run : ∀ (w : Wd) (S : Sto) (H : Hp) (σ : L2.St) (Λ : Slots) (x : V) (ix : IV) (L : Slots) (Q : L2.St → Hp → Prop), R K w S H → SR K w σ Λ → Rel K w x ix → gi ix Λ = some L → (∀ σ', SR K w σ' L → wipe σ' vs = wipe σ vs → Q σ' H) → g x σ H Q
def giN (j : Nat) (x : IV) (Λ : Slots) : Option Slots := some (Λ.set j (some x))
theorem gc_name {K : KX} {vs : List Nat} {j : Nat} (h : j ∈ vs) : GC K vs (gName j) (giN j) :=
  ⟨fun w S H σ Λ x ix L Q r s rx e k => by
    cases e
    exact k _ (s.set j rx) (wipe_set h)⟩
def giT2 (i j : Nat) (x : IV) (Λ : Slots) : Option Slots := match x with
  | .tup [a, b] => some ((Λ.set i (some a)).set j (some b))
  | _ => none
theorem gc_tup2 {K : KX} {vs : List Nat} {i j : Nat} (hi : i ∈ vs) (hj : j ∈ vs) : GC K vs (gTup K.k 2 (gCons (gName i) (gCons (gName j) gNil))) (giT2 i j) :=
  ⟨fun w S H σ Λ x ix L Q r s rx e k => by
    unfold giT2 at e
    split at e
    · cases e
      cases rx with
      | tup h1 h2 =>
        cases h2 with
        | cons a b =>
          cases b with
          | cons b c =>
            cases c
            exact ⟨_, _, rfl, same_t r.F h1, rfl, _, _, rfl, _, _, rfl, rfl, k _ ((s.set i a).set j b) (by rw [wipe_set hj, wipe_set hi])⟩
    · cases e⟩
noncomputable def iLcGo (s : Src) (gi : IV → Slots → Option Slots) (tt : IT) (te : IE) : List IV → Slots → Sto → List IV → Out (List IV)
  | [], _, S, acc => chkP (s.stay S) (.ok acc S)
  | x :: xs, Λ, S, acc => chkP (s.stay S) (orBad (gi x Λ) fun L => (noX (tt L S)).bind fun b S1 => if b = true then (noX (te L S1)).bind fun y S2 => chk (acc.length < sizeLine) (iLcGo s gi tt te xs Λ S2 (acc ++ [y])) else iLcGo s gi tt te xs Λ S1 acc)
noncomputable def iLc (cell : Bool) (ms : IW) (gi : IV → Slots → Option Slots) (tt : IT) (te : IE) (vs : List Nat) : IE := fun Λ S => (ms Λ S).bind fun s S1 => (iLcGo s gi tt te s.items (wipeI Λ vs) S1 []).bind fun acc S2 => mkL cell acc S2
def iYes : IT := fun _ S => .ok true S
abbrev DTs (X : Cx) (W : WZ) (e : List Expr) (m : IT) : Prop := PTs X e (tM (kx X W) W.x m)
theorem noX_post {α : Type} {K : KX} {w w' : Wd} {o : Out α} {P : Wd → Hp → Sto → α → Prop} (h : ∀ a S, noX o = .ok a S → ∀ w2 H2, w.le w2 → R K w2 S H2 → P w2 H2 S a) (hb : noX o ≠ .bad) : Post K W0 w o P := by
  cases o with
  | ok a S => exact h a S rfl
  | exc C n L S => exact absurd rfl hb
  | bad => exact absurd rfl hb
theorem lc_M {K : KX} {W : WX} {cell : Bool} {ms : IW} {g : TG} {gi : IV → Slots → Option Slots} {tt : IT} {te : IE} {vs : List Nat} {σ : L2.St} {H : Hp} {Q : VK} (hg : GC K vs g gi) (hx : K.ex = none) (h : eM K W (iLc cell ms gi tt te vs) σ H Q) :
    tLc (wM K W ms) g (tM K W0 tt) (eM K W0 te) vs σ H Q := by
  obtain ⟨w, S, Λ, r0, s0, p⟩ := h
  refine ⟨w, S, Λ, r0, s0, p.bind.imp fun w1 H1 S1 s l1 r1 p1 J hJ => ?_⟩
  intro D hD
  have hG : w1.G D = none := by
    cases q : w1.G D with
    | none => rfl
    | some u => rw [r1.G _ _ q] at hD; cases hD
  have s1 := sr_wipe (s0.up l1) hx vs
  -- the word at turn i: the new list at D is a ghost
  let Z : Nat → Hp → Prop := fun i H => i ≤ s.items.length ∧ ∃ (rho : List Addr) (F : Hp) (S2 : Sto) (xs : List V) (acc : List IV), w1.le ⟨rho, F, w1.G⟩ ∧ R K ⟨rho, F, upd w1.G D (.lst xs)⟩ S2 H ∧ RelL K ⟨rho, F, w1.G⟩ xs acc ∧
    Post K W ⟨rho, F, w1.G⟩ ((iLcGo s gi tt te (s.items.drop i) (wipeI Λ vs) S2 acc).bind fun acc S2 => mkL cell acc S2) fun w' H' _ iv => ∀ v, Rel K w' v iv → Q v H'
  refine ⟨fun i m H => m = s.items.length - i ∧ Z i H, ⟨s.items.length, by simp, Nat.zero_le _, w1.rho, w1.F, S1, [], [], Wd.le.refl w1, r1.ghost hD, .nil, by rw [List.drop_zero]; exact p1⟩, ?_⟩
  rintro i m H2 ⟨rfl, hi, rho, F, S2, xs, acc, l2, r2, rl, p2⟩
  have l2' : w1.lr ⟨rho, F, upd w1.G D (.lst xs)⟩ := ⟨l2.rho, l2.F⟩
  have l2z : w1.lz ⟨rho, F, upd w1.G D (.lst xs)⟩ := ⟨l2', fun a u v e => by
    show upd w1.G D (.lst xs) a = some (.frz u v)
    rw [upd_ne (ne_of_none e hG)]; exact e⟩
  by_cases hlt : i < s.items.length
  · rw [List.drop_eq_getElem_cons hlt] at p2
    have st : s.stay S2 := by
      by_cases hs : s.stay S2
      · exact hs
      · exact (show Post K W ⟨rho, F, w1.G⟩ ((chkP (s.stay S2) _).bind _) _ from p2) |> fun z => by rw [chkP_neg hs] at z; exact z.elim
    have p2 : Post K W ⟨rho, F, w1.G⟩ ((orBad (gi s.items[i] (wipeI Λ vs)) fun L => (noX (tt L S2)).bind fun b S1 => if b = true then (noX (te L S1)).bind fun y S2 => chk (acc.length < sizeLine) (iLcGo s gi tt te (s.items.drop (i + 1)) (wipeI Λ vs) S2 (acc ++ [y])) else iLcGo s gi tt te (s.items.drop (i + 1)) (wipeI Λ vs) S1 acc).bind fun acc S2 => mkL cell acc S2) (fun w' H' _ iv => ∀ v, Rel K w' v iv → Q v H') := by
      have z := (show Post K W ⟨rho, F, w1.G⟩ ((chkP (s.stay S2) _).bind _) _ from p2)
      rw [chkP_pos st] at z
      exact z
    refine .inr ⟨hJ.go _ S2 H2 i l2z r2 st hlt, Z (i + 1), fun H' z => ⟨s.items.length - (i + 1), by omega, rfl, z⟩, fun x H' y => ?_⟩
    obtain ⟨⟨rho3, F3, G3⟩, l3, r3, rv⟩ := hJ.yld _ S2 H2 i _ x H' l2z r2 st (List.getElem?_eq_getElem hlt) y
    have hG3 : G3 = upd w1.G D (.lst xs) := l3.G
    subst hG3
    have l23 : w1.le ⟨rho3, F3, w1.G⟩ := ⟨⟨(l2'.trans l3.1).rho, (l2'.trans l3.1).F⟩, rfl⟩
    have lp3 : Wd.le ⟨rho, F, w1.G⟩ ⟨rho3, F3, w1.G⟩ := ⟨⟨l3.rho, l3.F⟩, rfl⟩
    cases hgi : gi s.items[i] (wipeI Λ vs) with
    | none => rw [hgi] at p2; exact p2.elim
    | some L =>
      rw [hgi, orBad_some] at p2
      have sw : SR K ⟨rho3, F3, upd w1.G D (.lst xs)⟩ (wipe σ vs) (wipeI Λ vs) := s1.mono (l2'.trans l3.1)
      refine hg.run _ S2 H' _ _ x _ L _ r3 sw rv hgi fun σ' s' hw => ⟨by rw [hw, wipe_wipe fun _ hv => hv], ?_⟩
      refine ⟨_, S2, L, r3, s', noX_post (w' := ⟨rho, F, w1.G⟩) (fun b S3 e3 w4 H4 l4 r4 => ?_) fun hb => ?_⟩
      · rw [e3, Out.bind_ok] at p2
        obtain ⟨rho4, F4, G4⟩ := w4
        have hG4 : G4 = upd w1.G D (.lst xs) := l4.G
        subst hG4
        have lp4 : Wd.le ⟨rho, F, w1.G⟩ ⟨rho4, F4, w1.G⟩ := lp3.trans ⟨⟨l4.rho, l4.F⟩, rfl⟩
        cases b with
        | true =>
          rw [if_pos rfl] at p2 ⊢
          refine ⟨_, S3, L, r4, s'.up l4, noX_post (w' := ⟨rho, F, w1.G⟩) (fun y S5 e5 w5 H5 l5 r5 v5 rv5 => ?_) fun hb => ?_⟩
          · rw [e5, Out.bind_ok] at p2
            obtain ⟨rho5, F5, G5⟩ := w5
            have hG5 : G5 = upd w1.G D (.lst xs) := l5.G
            subst hG5
            have lp5 : Wd.le ⟨rho, F, w1.G⟩ ⟨rho5, F5, w1.G⟩ := lp4.trans ⟨⟨l5.rho, l5.F⟩, rfl⟩
            have hz : acc.length < sizeLine := by
              by_cases hz : acc.length < sizeLine
              · exact hz
              · rw [chk_neg hz] at p2; exact p2.elim
            rw [chk_pos hz] at p2
            refine ⟨xs, r5.G D _ upd_same, by rw [rl.length]; exact hz, hlt, rho5, F5, S5, xs ++ [v5], acc ++ [y], l2.trans lp5, R.ghostW (fun _ _ z => by cases z) r5, (rl.up lp5).append (.one (Rel.mono (w := ⟨rho5, F5, upd w1.G D (.lst xs)⟩) (w' := ⟨rho5, F5, w1.G⟩) ⟨⟨[], by simp⟩, Same.refl _⟩ _ _ rv5)), p2.up lp5⟩
          · rw [hb] at p2; exact p2.elim
        | false =>
          rw [if_neg Bool.false_ne_true] at p2 ⊢
          exact ⟨hlt, rho4, F4, S3, xs, acc, l2.trans lp4, r4, rl.up lp4, p2.up lp4⟩
      · rw [hb] at p2; exact p2.elim
  · have e : i = s.items.length := by omega
    subst e
    rw [List.drop_length] at p2
    have st : s.stay S2 := by
      by_cases hs : s.stay S2
      · exact hs
      · exact (show Post K W ⟨rho, F, w1.G⟩ ((chkP (s.stay S2) _).bind _) _ from p2) |> fun z => by rw [chkP_neg hs] at z; exact z.elim
    have p2 : Post K W ⟨rho, F, w1.G⟩ (mkL cell acc S2) (fun w' H' _ iv => ∀ v, Rel K w' v iv → Q v H') := by
      have z := (show Post K W ⟨rho, F, w1.G⟩ ((chkP (s.stay S2) _).bind _) _ from p2)
      rw [chkP_pos st] at z
      exact z
    refine .inl ⟨hJ.stop _ S2 H2 _ l2z r2 st (Nat.le_refl _), ?_⟩
    have hF : F D = none := r2.dis D _ upd_same
    cases cell with
    | true =>
      obtain ⟨h1, q⟩ := chk_post (show Post K W ⟨rho, F, w1.G⟩ (mkC acc S2) _ from p2)
      have r5 := R.ghostC (c := .lst acc) (fun _ _ z => by cases z) r2 hG fun w' l' => ⟨xs, r2.G D _ upd_same, RelL.mono (w := ⟨rho, F, w1.G⟩) ⟨l'.rho, l'.F⟩ _ _ rl⟩
      refine q ⟨rho ++ [D], F, w1.G⟩ H2 ⟨⟨⟨[D], rfl⟩, Same.refl _⟩, rfl⟩ r5 _ (.adr ?_)
      show (rho ++ [D])[S2.length]? = some D
      have hlen : rho.length = S2.length := r2.len
      rw [← hlen, List.getElem?_append_right (Nat.le_refl _), Nat.sub_self]
      rfl
    | false =>
      obtain ⟨h1, q⟩ := chk_post (show Post K W ⟨rho, F, w1.G⟩ (mkF acc S2) _ from p2)
      have lf : Wd.le ⟨rho, F, w1.G⟩ ⟨rho, upd F D (.lst xs), w1.G⟩ := ⟨⟨⟨[], by simp⟩, fun b u e => by
        show upd F D (.lst xs) b = some u
        rw [upd_ne (ne_of_none e hF)]; exact e⟩, rfl⟩
      exact q ⟨rho, upd F D (.lst xs), w1.G⟩ H2 lf (R.ghostF (fun _ _ z => by cases z) r2 hG) _ (.lst upd_same (rl.up lf))
section
variable {X : Cx} {W : WZ} {pos spos : Pos} {elt tg iter : Expr} {ifs : List Expr} {scope : Scope} {own : List (Str × Nat)} {ms : IW} {g : TG} {gi : IV → Slots → Option Slots} {tt : IT} {te : IE}
theorem dts_nil : DTs X W [] iYes := pts_nil.imp fun σ H Q ⟨w, S, Λ, r0, s0, p⟩ => p.now r0
theorem dts_one {c : Expr} {t : IT} (h : DT X W c t) : DTs X W [c] t := pts_one h
theorem de_lc (cell : Bool) (hc : X.calm = true) (hN : X.N.Nodup) (hi : DI X W tg iter ms) (ok : BlkOk X.N X.env.scope scope own)
    (hg : ∀ (s : Shared) (H : Hp) (C : Addr) (cl : List (Str × Addr)) (fp : List Addr), PG (X.blk s H scope (compEnvC scope cl C X.env) fp) tg g) (hgc : GC (kx X W) (own.map (·.2)) g gi) (ht : ∀ (s : Shared) (H : Hp) (C : Addr) (cl : List (Str × Addr)) (fp : List Addr), DTs (X.blk s H scope (compEnvC scope cl C X.env) fp) ⟨W0, W.ex⟩ ifs tt)
    (he : ∀ (s : Shared) (H : Hp) (C : Addr) (cl : List (Str × Addr)) (fp : List Addr), DE (X.blk s H scope (compEnvC scope cl C X.env) fp) ⟨W0, W.ex⟩ elt te) (hs : ∀ x, foldedSetIterable iter X.env x = pure x := by intro _; rfl) (hx : W.ex = none := by rfl) :
    DE X W (.ListComp elt [⟨tg, iter, ifs, 0⟩] scope pos) (iLc cell ms gi tt te (own.map (·.2))) :=
  (pe_lc hc hN hi ok hg ht he hs).imp fun σ H Q h => lc_M hgc hx h
theorem ds_setLc (cell : Bool) (i : Nat) {y : Str} {py : Pos} (hc : X.calm = true) (hN : X.N.Nodup) (hi : DI X W tg iter ms) (ok : BlkOk X.N X.env.scope scope own)
    (hg : ∀ (s : Shared) (H : Hp) (C : Addr) (cl : List (Str × Addr)) (fp : List Addr), PG (X.blk s H scope (compEnvC scope cl C X.env) fp) tg g) (hgc : GC (kx X W) (own.map (·.2)) g gi) (ht : ∀ (s : Shared) (H : Hp) (C : Addr) (cl : List (Str × Addr)) (fp : List Addr), DTs (X.blk s H scope (compEnvC scope cl C X.env) fp) ⟨W0, W.ex⟩ ifs tt)
    (he : ∀ (s : Shared) (H : Hp) (C : Addr) (cl : List (Str × Addr)) (fp : List Addr), DE (X.blk s H scope (compEnvC scope cl C X.env) fp) ⟨W0, W.ex⟩ elt te)
    (hy : X.N[i]? = some y := by rfl) (hyl : X.env.scope.names.lookup y = some .local := by rfl)
    (hsw : swapsWith (.ListComp elt [⟨tg, iter, ifs, 0⟩] scope pos) (some (.Name y py)) spos.line X.env = pure true := by exact sw_true rfl rfl rfl (by decide +kernel)) (hs : ∀ x, foldedSetIterable iter X.env x = pure x := by intro _; rfl) (hx : W.ex = none := by rfl) :
    DS X W (.Assign [.Name y py] (.ListComp elt [⟨tg, iter, ifs, 0⟩] scope pos) spos) (iSet i (iLc cell ms gi tt te (own.map (·.2)))) :=
  (ps_setLc hc hN hy hyl hsw hi ok hg ht he hs).imp fun D σ H ⟨w, S, Λ, r0, s0, p⟩ => lc_M (cell := cell) hgc hx ⟨w, S, Λ, r0, s0, p.bind.imp fun w1 H1 S1 ix l1 r1 p1 v1 rv1 => p1.now r1 _ ((s0.up l1).set i rv1)⟩
end

/-! ### a def -/
section
variable {P : Program} {w : World} {K : PySem.W.Frag} {mg : Str → Option Value} {base : Heap}
/-- what a def's body is shown in -/
abbrev DX (P : Program) (w : World) (K : PySem.W.Frag) (mg : Str → Option Value) (base : Heap) (N : List Str) (qual : Str) (sc : Scope) (f : Addr) (cdv : Value) (A : Around) (outer : List Env) (s : Shared) (H : Hp) (E : XK) : Cx :=
  cxOf (L2.CX P w) P w K mg base N qual sc f cdv A outer s H E
abbrev WEx (E : XK) : WX := fun c d _ H => E c d H
theorem start_sr {K : KX} {w : Wd} {N : List Str} {vs : List V} {ivs : List IV} (r : RelL K w vs ivs) (hx : K.ex = none) : SR K w (L2.start N vs) (ivs.map some ++ List.replicate (N.length - ivs.length) none) := by
  unfold L2.start
  rw [r.length]
  refine ⟨by simp [r.length], fun i iv e => ?_, fun i n a d e _ => by rw [hx] at e; cases e⟩
  by_cases hi : i < ivs.length
  · rw [List.getElem?_append_left (by simpa using hi), List.getElem?_map] at e
    obtain ⟨jv, e1, e2⟩ := Option.map_eq_some_iff.mp e
    cases e2
    obtain ⟨v, h1, h2⟩ := r.get e1
    exact ⟨v, by rw [List.getElem?_append_left (by rw [List.length_map, r.length]; exact hi), List.getElem?_map, h1]; rfl, h2⟩
  · rw [List.getElem?_append_right (by simpa using Nat.le_of_not_lt hi)] at e
    obtain ⟨h1, h2⟩ := List.getElem?_eq_some_iff.mp e
    rw [List.getElem_replicate] at h2
    cases h2
theorem ok_def {x qual : Str} {st : Stmt} {f : Addr} {fd : FuncData} {N ps : List Str} {k : Nat} {body : IS} (F : Fun K x qual st f fd) (Sc : FnScope N ps (defScope st))
    (hb : ∀ (cdv : Value) (A : Around) (outer : List Env) (s : Shared) (H : Hp) (E : XK), RmG k (A.deeper (envOfC qual (defScope st) s.heap.objs.size f cdv)) →
      Takes (DX P w K mg base N qual (defScope st) f cdv A outer s H E) (WEx E) → PassesOwn (model P w) (DX P w K mg base N qual (defScope st) f cdv A outer s H E).A (DX P w K mg base N qual (defScope st) f cdv A outer s H E).env (DX P w K mg base N qual (defScope st) f cdv A outer s H E).xe →
      DSs (DX P w K mg base N qual (defScope st) f cdv A outer s H E) ⟨WEx E, none⟩ (defBody st) body) : FnG P w K mg base (L2.CX P w) (k + 1) f fd ps (spM K mg ps.length (mDef N.length body)) := by
  refine okG F Sc (fun vs H Q E h => h.1) fun cdv A outer s H vs Q E hr h => ?_
  obtain ⟨hl, w0, S, ivs, r0, rl, p⟩ := h
  refine ⟨_, hb cdv A outer s H E hr (takes_of rfl rfl rfl rfl) (passes_of rfl), w0, S, _, r0, start_sr rl rfl, ?_⟩
  unfold mDef at p
  cases e : body (ivs.map some ++ List.replicate (N.length - ivs.length) none) S with
  | ok fl S' =>
    simp only [e] at p
    intro w' H' l r
    cases fl with
    | nx L => exact fun σ' s' => p w' H' l r _ .non
    | rt iv => exact p w' H' l r
    | bk L => exact p.elim
    | ct L => exact p.elim
  | exc C n L S' =>
    simp only [e] at p
    exact fun w' H' a σ' l r s' ea => p w' H' a [] l r sr_nil ea
  | bad =>
    simp only [e] at p
    exact p
/-- the same result told otherwise -/
theorem ok_eq {f : Addr} {fd : FuncData} {ps : List Str} {k np : Nat} {m m' : List IV → Sto → Out IV} (F : FnG P w K mg base (L2.CX P w) k f fd ps (spM K mg np m)) (h : ∀ xs S, xs.length = np → m' xs S ≠ .bad → m xs S = m' xs S) : FnG P w K mg base (L2.CX P w) k f fd ps (spM K mg np m') :=
  F.imp fun vs H Q E ⟨h1, w0, S, ivs, r0, rl, p⟩ => ⟨h1, w0, S, ivs, r0, rl, by
    rw [h ivs S (rl.length.symm.trans h1) fun z => by rw [z] at p; exact p.elim]
    exact p⟩
end
end Sm

namespace Sm
open PySem PySem.Spec PyProof.Rows L2

section
variable {X : Cx} {W : WZ} {p pos : Pos} {e : Expr} {es : List Expr} {ma : IA} {x : Str} {id T : String} {r : List V → Hp → VK → Prop} {f : List IV → Sto → Out IV}
theorem de_cb (hc : CallR X (.builtin id) r) (hs : CaS (kx X W) W.x r f) (hm : X.mg x = none) (hv : bootBuiltins x = some (.builtin id)) (ha : DA X W (e :: es) ma) (hg : Gl X x := by rfl) (hn : x ≠ "__name__" := by decide) (hdb : (x == ("__debug__" : Str)) = false := by decide)
    (he : starEach (e :: es) X.env = (false, eval e X.env) :: starEach es X.env := by rfl) (hpl : (backTo pos (starEach es X.env)).any (·.1) = false := by rfl) : DE X W (.Call (.Name x p) (e :: es) [] pos) (iCa f ma) :=
  (pe_callB hc hg hm hv ha hn hdb he hpl).imp fun σ H Q h => eM_ca hs h
theorem de_ct (hc : CallR X (.type T) r) (hs : CaS (kx X W) W.x r f) (hm : X.mg x = none) (hv : bootBuiltins x = some (.type T)) (ha : DA X W (e :: es) ma) (hg : Gl X x := by rfl) (hn : x ≠ "__name__" := by decide) (hdb : (x == ("__debug__" : Str)) = false := by decide)
    (he : starEach (e :: es) X.env = (false, eval e X.env) :: starEach es X.env := by rfl) (hpl : (backTo pos (starEach es X.env)).any (·.1) = false := by rfl) : DE X W (.Call (.Name x p) (e :: es) [] pos) (iCa f ma) :=
  (pe_callTy hc hg hm hv ha hn hdb he hpl).imp fun σ H Q h => eM_ca hs h
end

section
variable {K : KX} {W : WX} {w : Wd} {α : Type} {P : Wd → Hp → Sto → α → Prop}
/-- one argument, two arguments -/
def a1 {α : Type} (xs : List IV) (k : IV → Out α) : Out α := match xs with
  | [x] => k x
  | _ => .bad
def a2 {α : Type} (xs : List IV) (k : IV → IV → Out α) : Out α := match xs with
  | [x, y] => k x y
  | _ => .bad
theorem a1_post {xs : List IV} {vs : List V} {k : IV → Out α} (h : Post K W w (a1 xs k) P) (r : RelL K w vs xs) : ∃ v x, vs = [v] ∧ xs = [x] ∧ Rel K w v x ∧ Post K W w (k x) P := by
  unfold a1 at h
  split at h
  · cases r with
    | cons a b => cases b; exact ⟨_, _, rfl, rfl, a, h⟩
  · exact h.elim
theorem a2_post {xs : List IV} {vs : List V} {k : IV → IV → Out α} (h : Post K W w (a2 xs k) P) (r : RelL K w vs xs) : ∃ v x u y, vs = [v, u] ∧ xs = [x, y] ∧ Rel K w v x ∧ Rel K w u y ∧ Post K W w (k x y) P := by
  unfold a2 at h
  split at h
  · cases r with
    | cons a b =>
      cases b with
      | cons b c => cases c; exact ⟨_, _, _, _, rfl, rfl, a, b, h⟩
  · exact h.elim
end

/-! ### len, abs, int, max, min, list -/
def lenN (S : Sto) (x : IV) : Option Nat := match x with
  | .str s => if s.length ≤ sizeLine then some s.length else none
  | x => (seqOf S x).map List.length
theorem lenN_rel {K : KX} {w : Wd} {S : Sto} {H : Hp} {v : V} {x : IV} {n : Nat} (r : R K w S H) (rx : Rel K w v x) (e : lenN S x = some n) : LenV K.k v H n := by
  unfold lenN at e
  split at e
  · cases rx
    split at e
    · cases e; exact ⟨by assumption, rfl⟩
    · cases e
  · obtain ⟨ys, h1, h2⟩ := Option.map_eq_some_iff.mp e
    obtain ⟨a, xs, rfl, h3, h4⟩ := seqOf_sq h1 r rx
    rcases h3 with h3 | h3
    · exact .inl ⟨xs, h3, by rw [h4.length, h2]⟩
    · exact .inr ⟨xs, h3, by rw [h4.length, h2]⟩
def fLen (xs : List IV) (S : Sto) : Out IV := a1 xs fun x => orBad (lenN S x) fun n => .ok (.int n) S
theorem cs_len {K : KX} {W : WX} : CaS K W (fun xs H Q => ∃ x n, xs = [x] ∧ LenV K.k x H n ∧ Q (.int n) H) fLen := fun w S H xs ix Q r rx p => by
  obtain ⟨v, x, rfl, rfl, rv, p⟩ := a1_post p rx
  obtain ⟨n, e, p⟩ := orBad_post p
  exact ⟨v, n, rfl, lenN_rel r rv e, p.now r _ (.int _)⟩
def fAbs (xs : List IV) (S : Sto) : Out IV := a1 xs fun x => asI x fun i => .ok (.int (if i < 0 then -i else i)) S
theorem cs_abs {K : KX} {W : WX} : CaS K W (fun xs H Q => ∃ i, xs = [.int i] ∧ Q (.int (if i < 0 then -i else i)) H) fAbs := fun w S H xs ix Q r rx p => by
  obtain ⟨v, x, rfl, rfl, rv, p⟩ := a1_post p rx
  obtain ⟨i, rfl, rfl, p⟩ := asI_post p rv
  exact ⟨i, rfl, p.now r _ (.int _)⟩
def fInt (xs : List IV) (S : Sto) : Out IV := a1 xs fun x => match x with
  | .int i => .ok (.int i) S
  | .bl k => .ok (.int (if k then 1 else 0)) S
  | _ => .bad
theorem cs_int {K : KX} {W : WX} : CaS K W (fun xs H Q => (∃ i, xs = [.int i] ∧ Q (.int i) H) ∨ ∃ k, xs = [.bl k] ∧ Q (.int (if k then 1 else 0)) H) fInt := fun w S H xs ix Q r rx p => by
  obtain ⟨v, x, rfl, rfl, rv, p⟩ := a1_post p rx
  cases rv with
  | int i => exact .inl ⟨i, rfl, (show Post K W w (Out.ok (IV.int i) S) _ from p).now r _ (Rel.int _)⟩
  | bl k => exact .inr ⟨k, rfl, (show Post K W w (Out.ok (IV.int (if k then 1 else 0)) S) _ from p).now r _ (Rel.int _)⟩
  | _ => exact p.elim
def fMax2 (xs : List IV) (S : Sto) : Out IV := a2 xs fun x y => asI x fun i => asI y fun j => .ok (.int (if j > i then j else i)) S
def fMin2 (xs : List IV) (S : Sto) : Out IV := a2 xs fun x y => asI x fun i => asI y fun j => .ok (.int (if j < i then j else i)) S
theorem cs_max2 {K : KX} {W : WX} : CaS K W (fun xs H Q => ∃ i j, xs = [.int i, .int j] ∧ Q (.int (if j > i then j else i)) H) fMax2 := fun w S H xs ix Q r rx p => by
  obtain ⟨v, x, u, y, rfl, rfl, rv, ru, p⟩ := a2_post p rx
  obtain ⟨i, rfl, rfl, p⟩ := asI_post p rv
  obtain ⟨j, rfl, rfl, p⟩ := asI_post p ru
  exact ⟨i, j, rfl, p.now r _ (.int _)⟩
theorem cs_min2 {K : KX} {W : WX} : CaS K W (fun xs H Q => ∃ i j, xs = [.int i, .int j] ∧ Q (.int (if j < i then j else i)) H) fMin2 := fun w S H xs ix Q r rx p => by
  obtain ⟨v, x, u, y, rfl, rfl, rv, ru, p⟩ := a2_post p rx
  obtain ⟨i, rfl, rfl, p⟩ := asI_post p rv
  obtain ⟨j, rfl, rfl, p⟩ := asI_post p ru
  exact ⟨i, j, rfl, p.now r _ (.int _)⟩
def fList (cell : Bool) (xs : List IV) (S : Sto) : Out IV := a1 xs fun x => orBad (seqOf S x) fun ys => mkL cell ys S
theorem cs_list {K : KX} {W : WX} (cell : Bool) : CaS K W (fun xs H Q => ∃ p ys, xs = [.ref p] ∧ (SqL K.k H p ys ∨ SqT K.k H p ys) ∧ ∀ l, H l = none → Q (.ref l) (upd H l (.lst ys))) (fList cell) := fun w S H xs ix Q r rx p => by
  obtain ⟨v, x, rfl, rfl, rv, p⟩ := a1_post p rx
  obtain ⟨ys, e, p⟩ := orBad_post p
  obtain ⟨a, vs, rfl, h1, h2⟩ := seqOf_sq e r rv
  exact ⟨a, vs, rfl, h1, (mkL_post p r h2).2⟩

/-! ### isinstance of built-in classes -/
def tyN (S : Sto) (x : IV) : Option String := match x with
  | .non => some "NoneType"
  | .bl _ => some "bool"
  | .int _ => some "int"
  | .str _ => some "str"
  | .lst _ => some "list"
  | .tup _ => some "tuple"
  | .adr n => match S[n]? with
    | some (.lst _) => some "list"
    | some (.dic _) => some "dict"
    | _ => none
  | _ => none
theorem tyN_rel {K : KX} {w : Wd} {S : Sto} {H : Hp} {v : V} {x : IV} {t : String} (r : R K w S H) (rx : Rel K w v x) (e : tyN S x = some t) : TyX K.k H v (.type t) := by
  cases x with
  | non => cases rx; cases e; exact .base .non
  | bl b => cases rx; cases e; exact .base (.bl _)
  | int b => cases rx; cases e; exact .base (.int _)
  | str b => cases rx; cases e; exact .base (.str _)
  | lst ys =>
    cases e
    cases rx with
    | lst h1 h2 => exact .base (.lst (r.F _ _ h1))
  | tup ys =>
    cases e
    cases rx with
    | tup h1 h2 =>
      rcases same_t r.F h1 with (h | ⟨o, h⟩) | ⟨o, its, n, h, hc, _⟩
      · exact .base (.tup h)
      · exact .fTuple h
      · exact .kTuple h hc
  | adr n =>
    cases rx with
    | adr hrho =>
      unfold tyN at e
      cases q : S[n]? with
      | none => simp only [q] at e; cases e
      | some c =>
        simp only [q] at e
        cases c with
        | lst ys =>
          cases e
          obtain ⟨xs, h2, h3⟩ := r.cell n _ _ q hrho
          exact .base (.lst h2)
        | dic ys =>
          cases e
          obtain ⟨xs, h2, h3⟩ := r.cell n _ _ q hrho
          exact .base (.dK h2)
        | _ => cases e
  | _ => cases e
/-- the types that come up here -/
def kitN (t n : String) : Option Bool := kitB t n
def fIsi (xs : List IV) (S : Sto) : Out IV := a2 xs fun x c => match c with
  | .ty n => orBad (tyN S x) fun t => orBad (kitN t n) fun b => .ok (.bl b) S
  | _ => .bad
theorem cs_isi {K : KX} {W : WX} : CaS K W (rIsi K.k) fIsi := fun w S H xs ix Q r rx p => by
  obtain ⟨v, x, u, y, rfl, rfl, rv, ru, p⟩ := a2_post p rx
  cases ru with
  | ty n =>
    obtain ⟨t, e1, p⟩ := orBad_post p
    obtain ⟨b, e2, p⟩ := orBad_post p
    exact ⟨v, _, _, _, b, rfl, .ty n, tyN_rel r rv e1, kit_ty e2, p.now r _ (.bl _)⟩
  | _ => exact p.elim
theorem de_ty {X : Cx} {W : WZ} {x : Str} {pos : Pos} {T : String} (hm : X.mg x = none) (hv : bootBuiltins x = some (.type T)) (hg : Gl X x := by rfl) (hn : x ≠ "__name__" := by decide) (hd : (x == ("__debug__" : Str)) = false := by decide) : DE X W (.Name x pos) (iC (.ty T)) :=
  de_c (pe_bltn hg hm hv (v := .ty T) rfl hn hd) fun _ => .ty T
/-- a module's text -/
theorem de_gstr {X : Cx} {W : WZ} {x z : Str} {pos : Pos} {t : Tok} (hm : X.mg x = some (.str z t)) (hg : Gl X x := by rfl) (hd : (x == ("__debug__" : Str)) = false := by decide) : DE X W (.Name x pos) (iC (.str z)) :=
  de_c (pe_glob hg hm (v := .str z) ⟨t, rfl⟩ hd) fun _ => .str z
/-- a module's tuple of texts -/
theorem de_gtup {X : Cx} {W : WZ} {x : Str} {pos : Pos} {a : Addr} {o : Obj} {its : Array Value} {n : Nat} {zs : List Str} (hm : X.mg x = some (.ref a)) (hk : X.K.lookup a = some o) (hc : o.cls = .type "tuple") (hd' : o.data = .seq its n) (hz : its.size ≤ sizeLine) (hv : Vals (zs.map V.str) its.toList) (hg : Gl X x := by rfl) (hd : (x == ("__debug__" : Str)) = false := by decide) :
    DE X W (.Name x pos) (iC (.tup (zs.map IV.str))) :=
  de_c (pe_glob hg hm (v := .ref a) rfl hd) fun w => .tup (.inr ⟨o, its, n, hk, hc, hd', hz, hv⟩) (by
    clear hv
    induction zs with
    | nil => exact .nil
    | cons z zs ih => exact .cons (.str z) ih)

/-! ### methods of built-in types -/
def hasTy (T : String) (S : Sto) (x : IV) : Bool := match x with
  | .str _ => T == "str"
  | x => T == "list" && (lstOf S x).isSome
theorem hasTy_rel {K : KX} {w : Wd} {S : Sto} {H : Hp} {v : V} {x : IV} {T : String} (r : R K w S H) (rx : Rel K w v x) (e : hasTy T S x = true) : tyV K.k T v H := by
  unfold hasTy at e
  split at e
  · cases rx
    exact beq_iff_eq.mp e
  · obtain ⟨e1, e2⟩ := Bool.and_eq_true_iff.mp e
    obtain ⟨ys, h⟩ := Option.isSome_iff_exists.mp e2
    obtain ⟨a, xs, rfl, h3, h4⟩ := lstOf_sq h r rx
    exact .inl ⟨beq_iff_eq.mp e1, xs, h3⟩
def iBM (T : String) (f : IV → List IV → Sto → Out IV) (mo : IE) (ma : IA) : IE := fun Λ S => (mo Λ S).bind fun o S1 => chk (hasTy T S1 o = true) ((ma Λ S1).bind fun xs S2 => f o xs S2)
section
variable {X : Cx} {W : WZ} {pos apos : Pos} {o e : Expr} {es : List Expr} {mo : IE} {ma : IA} {T id : String} {name : Str} {r : V → List V → Hp → VK → Prop} {f : IV → List IV → Sto → Out IV}
theorem de_bm (pa : PlainAttrs T) (slot : Slot T name id) (hty : typeOf (.builtin id) = pure (.type "method_descriptor")) (hm : MtR X id r) (hs : MtS (kx X W) W.x r f) (ho : DE X W o mo) (ha : DA X W (e :: es) ma)
    (hbase : attributeBase o name X.env (eval o X.env) = eval o X.env := by rfl)
    (hfew : ((backTo pos (starEach (e :: es) X.env)).all (fun x => !x.1) && (backToKw pos (keywordEach [] X.env)).all (fun x => x.1.isSome)
      && decide ((e :: es).length + ([] : List Keyword).length + (if ([] : List Keyword).isEmpty then 0 else 1) < 30)) = true := by rfl)
    (hline : (apos.endLine == pos.line) = true := by rfl) (hst : starEach (e :: es) X.env = (false, eval e X.env) :: starEach es X.env := by rfl) (hplain : (backTo pos (starEach es X.env)).any (·.1) = false := by rfl) :
    DE X W (.Call (.Attribute o name apos) (e :: es) [] pos) (iBM T f mo ma) :=
  (pe_bm pa slot hty hm ho ha hbase hfew hline hst hplain).imp fun σ H Q ⟨w, S, Λ, r0, s0, p⟩ => ⟨w, S, Λ, r0, s0, p.bind.imp fun w1 H1 S1 ix l1 r1 p1 v1 rv1 => by
    obtain ⟨h1, p1⟩ := chk_post p1
    exact ⟨hasTy_rel r1 rv1 h1, w1, S1, Λ, r1, s0.up l1, p1.bind.imp fun w2 H2 S2 xs l2 r2 p2 vs rvs => hs w2 S2 H2 _ _ _ _ _ r2 (rv1.up l2) rvs p2⟩⟩
theorem de_bm0 (pa : PlainAttrs T) (slot : Slot T name id) (hty : typeOf (.builtin id) = pure (.type "method_descriptor")) (hm : MtR X id r) (hs : MtS (kx X W) W.x r f) (ho : DE X W o mo)
    (hbase : attributeBase o name X.env (eval o X.env) = eval o X.env := by rfl) (hline : (apos.endLine == pos.line) = true := by rfl) : DE X W (.Call (.Attribute o name apos) [] [] pos) (iBM T f mo iNil) :=
  (pe_bm0 pa slot hty hm ho hbase hline).imp fun σ H Q ⟨w, S, Λ, r0, s0, p⟩ => ⟨w, S, Λ, r0, s0, p.bind.imp fun w1 H1 S1 ix l1 r1 p1 v1 rv1 => by
    obtain ⟨h1, p1⟩ := chk_post p1
    exact ⟨hasTy_rel r1 rv1 h1, hs w1 S1 H1 _ _ _ _ _ r1 rv1 .nil p1⟩⟩
end
/-- a list in the store, to be changed -/
def onL {α : Type} (S : Sto) (x : IV) (k : Nat → List IV → Out α) : Out α := match x with
  | .adr n => (match S[n]? with
    | some (.lst xs) => k n xs
    | _ => .bad)
  | _ => .bad
theorem onL_post {α : Type} {K : KX} {W : WX} {w : Wd} {S : Sto} {H : Hp} {v : V} {x : IV} {k : Nat → List IV → Out α} {P : Wd → Hp → Sto → α → Prop} (h : Post K W w (onL S x k) P) (r : R K w S H) (rx : Rel K w v x) :
    ∃ n xs a vs, S[n]? = some (.lst xs) ∧ w.rho[n]? = some a ∧ v = .ref a ∧ H a = some (.lst vs) ∧ RelL K w vs xs ∧ Post K W w (k n xs) P := by
  unfold onL at h
  split at h
  · cases rx with
    | adr hrho =>
      split at h
      · rename_i q
        obtain ⟨vs, h2, h3⟩ := r.cell _ _ _ q hrho
        exact ⟨_, _, _, vs, q, hrho, rfl, h2, h3, h⟩
      · exact h.elim
  · exact h.elim
def fApp (o : IV) (xs : List IV) (S : Sto) : Out IV := a1 xs fun y => onL S o fun n ys => chk (ys.length < sizeLine) (.ok .non (S.set n (.lst (ys ++ [y]))))
theorem ms_app {K : KX} {W : WX} : MtS K W rAppend fApp := fun w S H x xs io ix Q r ro rx p => by
  obtain ⟨v, y, rfl, rfl, rv, p⟩ := a1_post p rx
  obtain ⟨n, ys, a, vs, h1, h2, rfl, h3, h4, p⟩ := onL_post p r ro
  obtain ⟨c, p⟩ := chk_post p
  exact ⟨a, vs, v, rfl, rfl, h3, by rw [h4.length]; exact c, p.now (r.write h2 ⟨_, upd_same, h4.append (.one rv)⟩ (fun _ e => by rw [h1] at e; cases e)) _ .non⟩
/-- xs.extend(ys) -/
def fExt (o : IV) (xs : List IV) (S : Sto) : Out IV := a1 xs fun y => onL S o fun n ys => orBad (lstX S y) fun zs => chk (ys.length + zs.length ≤ sizeLine) (.ok .non (S.set n (.lst (ys ++ zs))))
theorem ms_ext {K : KX} {W : WX} : MtS K W rExtend fExt := fun w S H x xs io ix Q r ro rx p => by
  obtain ⟨v, y, rfl, rfl, rv, p⟩ := a1_post p rx
  obtain ⟨n, ys, a, vs, h1, h2, rfl, h3, h4, p⟩ := onL_post p r ro
  obtain ⟨zs, e, p⟩ := orBad_post p
  obtain ⟨b, us, rfl, h5, h6⟩ := lstX_sq e r rv
  obtain ⟨c, p⟩ := chk_post p
  exact ⟨a, b, vs, us, rfl, rfl, h3, h5, by rw [h4.length, h6.length]; exact c, p.now (r.write h2 ⟨_, upd_same, h4.append h6⟩ (fun _ e => by rw [h1] at e; cases e)) _ .non⟩
def strsOf : List IV → Option (List Str)
  | [] => some []
  | .str s :: xs => (strsOf xs).map (s :: ·)
  | _ => none
theorem strsOf_rel {K : KX} {w : Wd} : ∀ {xs : List IV} {vs : List V} {ss : List Str}, strsOf xs = some ss → RelL K w vs xs → vs = ss.map V.str
  | [], _, _, e, r => by cases e; cases r; rfl
  | x :: xs, _, ss, e, r => by
    cases r with
    | cons a b =>
      cases x with
      | str s =>
        obtain ⟨ts, h1, h2⟩ := Option.map_eq_some_iff.mp (show (strsOf xs).map (s :: ·) = some ss from e)
        subst h2
        cases a
        rw [strsOf_rel h1 b]
        rfl
      | _ => cases e
def fJoin (o : IV) (xs : List IV) (S : Sto) : Out IV := asS o fun a => a1 xs fun y => orBad (seqOf S y) fun ys => orBad (strsOf ys) fun zs => chk ((zs.map (·.length)).sum + zs.length * a.length ≤ 16777216) (.ok (.str (PySem.Txt.join a zs)) S)
theorem ms_join {K : KX} {W : WX} : MtS K W (fun x xs H Q => ∃ a p ys, x = V.str a ∧ xs = [V.ref p] ∧ (SqL K.k H p (ys.map V.str) ∨ SqT K.k H p (ys.map V.str)) ∧ (ys.map fun x => x.length).sum + ys.length * a.length ≤ 16777216 ∧ Q (.str (PySem.Txt.join a ys)) H) fJoin := fun w S H x xs io ix Q r ro rx p => by
  obtain ⟨a, rfl, rfl, p⟩ := asS_post p ro
  obtain ⟨v, y, rfl, rfl, rv, p⟩ := a1_post p rx
  obtain ⟨ys, e1, p⟩ := orBad_post p
  obtain ⟨zs, e2, p⟩ := orBad_post p
  obtain ⟨c, p⟩ := chk_post p
  obtain ⟨b, vs, rfl, h1, h2⟩ := seqOf_sq e1 r rv
  have := strsOf_rel e2 h2
  subst this
  exact ⟨a, b, zs, rfl, rfl, h1, c, p.now r _ (.str _)⟩

/-! ### C.m(..), m a static method -/
structure SMet (K : PySem.W.Frag) (C : Addr) (m : Str) (p g : Addr) : Prop where
  ga : PySem.W.specialIn K (.ref C) "__getattribute__" = some (some (.builtin "type.__getattribute__"))
  ty : PySem.W.typeIn K (.ref C) = some (.type "type")
  rd : PySem.W.readsIn K C (.type "type") = true
  at_ : PySem.W.findCls K (.ref C) (.type "type") m = some (.get (.builtin "staticmethod.__get__") (.ref p) .none (.ref C))
  rc : ∃ rest, PySem.W.recIn K p "staticmethod" = some (.ref g :: rest)
section
variable {X : Cx} {W : WX} {pos apos p0 : Pos} {k : Nat} {C p f : Addr} {fd : FuncData} {ps : List Str} {mf : List IV → Sto → Out IV} {x m : Str} {e : Expr} {es : List Expr} {ma : IA} {np : Nat} {pl : Sem Bool}
theorem de_smeth (T : SMet X.K C m p f) (F : FnG X.prog X.w X.K X.mg X.base (L2.CX X.prog X.w) k f fd ps (spM X.K X.mg np mf)) (tk : Takes X W) (hr : RmG k X.A) (hm : X.mg x = some (.ref C)) (hk : PySem.W.keepIn X.K (.ref f) = true) (hb : Binds X.K fd ps [])
    (ha : DA X ⟨W, none⟩ (e :: es) ma) (hg : Gl X x := by rfl) (hdb : (x == ("__debug__" : Str)) = false := by decide)
    (hst : starEach (e :: es) X.env = (false, eval e X.env) :: starEach es X.env := by rfl) (hpl : (backTo pos (starEach es X.env)).any (·.1) = false := by rfl)
    (ht : eval (.Call (.Attribute (.Name x p0) m apos) (e :: es) [] pos) X.env = (do
      let ov ← eval (.Name x p0) X.env
      standAt apos.atName
      let (f, first) ← holding [ov] (getMethod ov m pl)
      callWith pos f first (backTo pos (starEach (e :: es) X.env)) (backToKw pos (keywordEach [] X.env))) := by rfl) :
    DE X ⟨W, none⟩ (.Call (.Attribute (.Name x p0) m apos) (e :: es) [] pos) (iCall np mf ma) := by
  refine ⟨fun pins s σ H Q I h => ?_⟩
  obtain ⟨w, S, Λ, r0, s0, p0⟩ := h
  refine PySem.W.methodCall_KW (pl := pl) (ld_glob I hg hm ?_ hdb) ht
  obtain ⟨m', fr⟩ := I.fr
  obtain ⟨rest, hrc⟩ := T.rc
  refine PySem.W.method_of_cls fr I.ok.mod.kin T.ga (PySem.W.cls_sm fr I.ok.mod.kin T.ty T.rd T.at_ hrc rfl ?_)
  have I1 := I.tok (s.toks + 1)
  have hq := ha.run pos pins _ σ H (fun vs H1 => spM X.K X.mg np mf vs H1 Q (WE W σ)) I1 ⟨w, S, Λ, r0, s0, p0.bind.imp fun w1 H1 S1 xs l1 r1 p1 vs rv => by
    obtain ⟨h1, q⟩ := chk_post p1
    exact ⟨rv.length.trans h1, w1, S1, xs, r1, rv, relab_post q (s0.up l1)⟩⟩
  refine PySem.W.callWith_K (h₀ := X.base) (first := []) I.ok.mod.kin hk (thn hq fun us s1 z => ?_) hst hpl
  obtain ⟨vs, H1, I2, r, q⟩ := z
  exact ⟨I2.kIn, run_fnG F hr hb (passAt tk σ) I2 r q⟩
end
end Sm

namespace Sm
open PySem PySem.Spec PyProof.Rows L2
section
variable {X : Cx} {W : WZ} {pos : Pos} {a b c : Expr} {ma mb mc : IE}
theorem dt_chain {op op' : CmpOp} {r r' : R2} {f g : IV → IV → Sto → Out IV} (ho : OpR X (compareOp op) r) (hs : OpS (kx X W) W.x r f) (ho' : OpR X (compareOp op') r') (hs' : OpS (kx X W) W.x r' g) (ha : DE X W a ma) (hb : DE X W b mb) (hc : DE X W c mc)
    (hm : lastMarks [op, op'] [b, c] = false := by with_unfolding_all rfl) : DT X W (.Compare a [op, op'] [b, c] pos) (iTest (iChain f g ma mb mc)) :=
  (pt_chain ho ho' ha hb hc hm).imp fun σ H Q ⟨w, S, Λ, r0, s0, p⟩ => eM_chain hs hs' ⟨w, S, Λ, r0, s0, p.bind.imp fun w1 H1 S1 ix l1 r1 p1 v1 rv1 => by
    obtain ⟨k, rfl, rfl, q⟩ := asB_post p1 rv1
    exact ⟨k, rfl, q.now r1⟩⟩
theorem de_chain {op op' : CmpOp} {r r' : R2} {f g : IV → IV → Sto → Out IV} (ho : OpR X (compareOp op) r) (hs : OpS (kx X W) W.x r f) (ho' : OpR X (compareOp op') r') (hs' : OpS (kx X W) W.x r' g) (ha : DE X W a ma) (hb : DE X W b mb) (hc : DE X W c mc)
    (hm : lastMarks [op, op'] [b, c] = false := by with_unfolding_all rfl) : DE X W (.Compare a [op, op'] [b, c] pos) (iChain f g ma mb mc) :=
  (pe_chain ho ho' ha hb hc hm).imp fun σ H Q h => eM_chain hs hs' h
end
section
variable {P : Program} {w : World} {K : PySem.W.Frag} {mg : Str → Option Value} {base : Heap}
/-- a def that stands at a global name, and keeps what m tells -/
def Cal (P : Program) (w : World) (K : PySem.W.Frag) (mg : Str → Option Value) (base : Heap) (x : Str) (k : Nat) (ps : List Str) (m : List IV → Sto → Out IV) : Prop :=
  ∃ (f : Addr) (fd : FuncData), mg x = some (.ref f) ∧ PySem.W.keepIn K (.ref f) = true ∧ L2.Binds K fd ps [] ∧ FnG P w K mg base (L2.CX P w) k f fd ps (spM K mg ps.length m)
def Loc (K : PySem.W.Frag) (mg : Str → Option Value) (x : Str) (st : Stmt) (ps : List Str) : Prop := ∃ (f : Addr) (fd : FuncData), mg x = some (.ref f) ∧ Fun K x x st f fd ∧ L2.Binds K fd ps []
theorem cal_def {x : Str} {st : Stmt} {N ps : List Str} {k : Nat} {body : IS} (L : Loc K mg x st ps) (Sc : FnScope N ps (defScope st))
    (hb : ∀ (f : Addr) (cdv : Value) (A : Around) (outer : List Env) (s : Shared) (H : Hp) (E : XK), RmG k (A.deeper (envOfC x (defScope st) s.heap.objs.size f cdv)) →
      Takes (DX P w K mg base N x (defScope st) f cdv A outer s H E) (WEx E) → PassesOwn (model P w) (DX P w K mg base N x (defScope st) f cdv A outer s H E).A (DX P w K mg base N x (defScope st) f cdv A outer s H E).env (DX P w K mg base N x (defScope st) f cdv A outer s H E).xe →
      DSs (DX P w K mg base N x (defScope st) f cdv A outer s H E) ⟨WEx E, none⟩ (defBody st) body) : Cal P w K mg base x (k + 1) ps (mDef N.length body) := by
  obtain ⟨f, fd, h1, h2, h3⟩ := L
  exact ⟨f, fd, h1, h2.kp, h3, ok_def h2 Sc (hb f)⟩
theorem Cal.eq {x : Str} {k : Nat} {ps : List Str} {m m' : List IV → Sto → Out IV} (c : Cal P w K mg base x k ps m) (h : ∀ xs S, xs.length = ps.length → m' xs S ≠ .bad → m xs S = m' xs S) : Cal P w K mg base x k ps m' := by
  obtain ⟨f, fd, h1, h2, h3, h4⟩ := c
  exact ⟨f, fd, h1, h2, h3, ok_eq h4 h⟩
end
section
variable {X : Cx} {W : WX} {pos p : Pos} {k : Nat} {ps : List Str} {mf : List IV → Sto → Out IV} {x : Str} {e : Expr} {es : List Expr} {ma : IA}
theorem de_callC {np : Nat} (c : Cal X.prog X.w X.K X.mg X.base x k ps mf) (tk : Takes X W) (hr : RmG k X.A) (ha : DA X ⟨W, none⟩ (e :: es) ma) (hg : Gl X x := by rfl) (hnp : ps.length = np := by rfl) (hdb : (x == ("__debug__" : Str)) = false := by decide)
    (he : starEach (e :: es) X.env = (false, eval e X.env) :: starEach es X.env := by rfl) (hpl : (backTo pos (starEach es X.env)).any (·.1) = false := by rfl) : DE X ⟨W, none⟩ (.Call (.Name x p) (e :: es) [] pos) (iCall np mf ma) := by
  obtain ⟨f, fd, h1, h2, h3, h4⟩ := c
  rw [← hnp]
  exact de_call h4 tk hr h1 h2 h3 ha hg hdb he hpl
theorem de_callC0 (c : Cal X.prog X.w X.K X.mg X.base x k [] mf) (tk : Takes X W) (hr : RmG k X.A) (hg : Gl X x := by rfl) (hdb : (x == ("__debug__" : Str)) = false := by decide) : DE X ⟨W, none⟩ (.Call (.Name x p) [] [] pos) (iCall0 mf) := by
  obtain ⟨f, fd, h1, h2, h3, h4⟩ := c
  exact de_call0 h4 tk hr h1 h2 h3 hg hdb
theorem takesW0 {X : Cx} : Takes X W0 := fun _ _ x => by
  obtain ⟨_, _, _, _, _, _, _, _, _, _, _, _, _, _, _, _, z⟩ := x
  exact z.elim
/-- a static method's promise -/
def SCal (P : Program) (w : World) (K : PySem.W.Frag) (mg : Str → Option Value) (base : Heap) (x m : Str) (k : Nat) (ps : List Str) (mf : List IV → Sto → Out IV) : Prop :=
  ∃ (C p f : Addr) (fd : FuncData), mg x = some (.ref C) ∧ SMet K C m p f ∧ PySem.W.keepIn K (.ref f) = true ∧ L2.Binds K fd ps [] ∧ FnG P w K mg base (L2.CX P w) k f fd ps (spM K mg ps.length mf)
theorem de_scal {np : Nat} {m : Str} {p0 apos : Pos} {pl : Sem Bool} (c : SCal X.prog X.w X.K X.mg X.base x m k ps mf) (tk : Takes X W) (hr : RmG k X.A) (ha : DA X ⟨W, none⟩ (e :: es) ma) (hg : Gl X x := by rfl) (hnp : ps.length = np := by rfl) (hdb : (x == ("__debug__" : Str)) = false := by decide)
    (hst : starEach (e :: es) X.env = (false, eval e X.env) :: starEach es X.env := by rfl) (hpl : (backTo pos (starEach es X.env)).any (·.1) = false := by rfl)
    (ht : eval (.Call (.Attribute (.Name x p0) m apos) (e :: es) [] pos) X.env = (do
      let ov ← eval (.Name x p0) X.env
      standAt apos.atName
      let (f, first) ← holding [ov] (getMethod ov m pl)
      callWith pos f first (backTo pos (starEach (e :: es) X.env)) (backToKw pos (keywordEach [] X.env))) := by rfl) :
    DE X ⟨W, none⟩ (.Call (.Attribute (.Name x p0) m apos) (e :: es) [] pos) (iCall np mf ma) := by
  obtain ⟨C, q, f, fd, h1, h2, h3, h4, h5⟩ := c
  rw [← hnp]
  exact de_smeth h2 h5 tk hr h1 h3 h4 ha hg hdb hst hpl ht
end
def SLoc (K : PySem.W.Frag) (mg : Str → Option Value) (x m : Str) (qual : Str) (st : Stmt) (ps : List Str) : Prop := ∃ (C p f : Addr) (fd : FuncData), mg x = some (.ref C) ∧ SMet K C m p f ∧ Fun K m qual st f fd ∧ L2.Binds K fd ps []
section
variable {P : Program} {w : World} {K : PySem.W.Frag} {mg : Str → Option Value} {base : Heap}
theorem scal_def {x m qual : Str} {st : Stmt} {N ps : List Str} {k : Nat} {body : IS} (L : SLoc K mg x m qual st ps) (Sc : FnScope N ps (defScope st))
    (hb : ∀ (f : Addr) (cdv : Value) (A : Around) (outer : List Env) (s : Shared) (H : Hp) (E : XK), RmG k (A.deeper (envOfC qual (defScope st) s.heap.objs.size f cdv)) →
      Takes (DX P w K mg base N qual (defScope st) f cdv A outer s H E) (WEx E) → PassesOwn (model P w) (DX P w K mg base N qual (defScope st) f cdv A outer s H E).A (DX P w K mg base N qual (defScope st) f cdv A outer s H E).env (DX P w K mg base N qual (defScope st) f cdv A outer s H E).xe →
      DSs (DX P w K mg base N qual (defScope st) f cdv A outer s H E) ⟨WEx E, none⟩ (defBody st) body) : SCal P w K mg base x m (k + 1) ps (mDef N.length body) := by
  obtain ⟨C, p, f, fd, h1, h2, h3, h4⟩ := L
  exact ⟨C, p, f, fd, h1, h2, h3.kp, h4, ok_def h3 Sc (hb f)⟩
end
/-- a module's tuple of texts -/
def GTup (K : PySem.W.Frag) (mg : Str → Option Value) (x : Str) (zs : List Str) : Prop :=
  ∃ (a : Addr) (o : Obj) (its : Array Value) (n : Nat), mg x = some (.ref a) ∧ K.lookup a = some o ∧ o.cls = .type "tuple" ∧ o.data = .seq its n ∧ its.size ≤ sizeLine ∧ Vals (zs.map V.str) its.toList
theorem de_gtupC {X : Cx} {W : WZ} {x : Str} {pos : Pos} {zs : List Str} (h : GTup X.K X.mg x zs) (hg : Gl X x := by rfl) (hd : (x == ("__debug__" : Str)) = false := by decide) : DE X W (.Name x pos) (iC (.tup (zs.map IV.str))) := by
  obtain ⟨a, o, its, n, h1, h2, h3, h4, h5, h6⟩ := h
  exact de_gtup h1 h2 h3 h4 h5 h6 hg hd
/-! ### a text, sign by sign -/
section
variable {X : Cx} {W : WZ} {tg e : Expr} {m : IE}
theorem di_str (h : DE X W e m) : DI X W tg e (iSrcS m) := (pi_str h).imp fun σ H Q ⟨w, S, Λ, r0, s0, p⟩ => ⟨w, S, Λ, r0, s0, p.bind.imp fun w1 H1 S1 ix l1 r1 p1 v1 rv1 => by
  obtain ⟨z, rfl, rfl, q⟩ := asS_post p1 rv1
  have hz : ∀ i : Nat, z.cps[i]? = z.cps.toList[i]? := fun i => by simp
  refine ⟨z, rfl, q.now r1 _ ⟨fun w' S' H' i l r' st hi => ?_, fun w' S' H' i l r' st hi => ?_, fun w' S' H' i iv x H2 l r' st hi hy => ?_⟩⟩
  · show i < z.cps.size
    simpa using hi
  · show z.cps.size ≤ i
    simpa using hi
  · obtain ⟨f1, c, f2, f3⟩ := hy
    subst f1 f3
    have hi : (z.cps.toList.map fun c => IV.str ⟨#[c]⟩)[i]? = some iv := hi
    rw [List.getElem?_map, ← hz, f2] at hi
    cases hi
    exact ⟨w', Wd.le.refl _, r', .str _⟩⟩
end
end Sm

/-! evaluation -/
namespace Sm
open PySem PySem.Spec PyProof.Rows L2
variable {Λ L : Slots} {S S' : Sto}
@[simp] theorem iVar_s {i : Nat} {x : IV} (h : Λ[i]? = some (some x)) : iVar i Λ S = .ok x S := by unfold iVar; rw [h]
@[simp] theorem iC_e (x : IV) : iC x Λ S = .ok x S := rfl
@[simp] theorem iBin_e (f : IV → IV → Sto → Out IV) (a b : IE) : iBin f a b Λ S = (a Λ S).bind fun x S1 => (b Λ S1).bind fun y S2 => f x y S2 := rfl
@[simp] theorem iUn_e (f : IV → Sto → Out IV) (a : IE) : iUn f a Λ S = (a Λ S).bind fun x S1 => f x S1 := rfl
@[simp] theorem iNil_e : iNil Λ S = .ok [] S := rfl
@[simp] theorem iCons_e (a : IE) (b : IA) : iCons a b Λ S = (a Λ S).bind fun x S1 => (b Λ S1).bind fun xs S2 => .ok (x :: xs) S2 := rfl
@[simp] theorem iCa_e (f : List IV → Sto → Out IV) (a : IA) : iCa f a Λ S = (a Λ S).bind fun x S1 => f x S1 := rfl
@[simp] theorem asI_i {α : Type} (i : Int) (k : Int → Out α) : asI (.int i) k = k i := rfl
@[simp] theorem asS_s {α : Type} (i : Str) (k : Str → Out α) : asS (.str i) k = k i := rfl
@[simp] theorem asB_b {α : Type} (i : Bool) (k : Bool → Out α) : asB (.bl i) k = k i := rfl
@[simp] theorem a1_1 {α : Type} (x : IV) (k : IV → Out α) : a1 [x] k = k x := rfl
@[simp] theorem a2_2 {α : Type} (x y : IV) (k : IV → IV → Out α) : a2 [x, y] k = k x y := rfl
@[simp] theorem iTest_e (m : IE) : iTest m Λ S = (m Λ S).bind fun x S1 => asB x fun b => .ok b S1 := rfl
@[simp] theorem iTru_e (m : IE) : iTru m Λ S = (m Λ S).bind fun x S1 => orBad (truB S1 x) fun b => .ok b S1 := rfl
@[simp] theorem truB_bl (b : Bool) : truB S (.bl b) = some b := rfl
@[simp] theorem truB_non : truB S .non = some false := rfl
@[simp] theorem iAnd_e (c d : IT) : iAnd c d Λ S = (c Λ S).bind fun b S1 => if b = true then d Λ S1 else .ok false S1 := rfl
@[simp] theorem iOr_e (c d : IT) : iOr c d Λ S = (c Λ S).bind fun b S1 => if b = true then .ok true S1 else d Λ S1 := rfl
@[simp] theorem iNot_e (c : IT) : iNot c Λ S = (c Λ S).bind fun b S1 => .ok (!b) S1 := rfl
@[simp] theorem iAndV_e (c d : IE) : iAndV c d Λ S = (c Λ S).bind fun x S1 => asB x fun b => if b = true then d Λ S1 else .ok (.bl false) S1 := rfl
@[simp] theorem iOrV_e (c d : IE) : iOrV c d Λ S = (c Λ S).bind fun x S1 => asB x fun b => if b = true then .ok (.bl true) S1 else d Λ S1 := rfl
@[simp] theorem iNotV_e (c : IE) : iNotV c Λ S = (c Λ S).bind fun x S1 => asB x fun b => .ok (.bl (!b)) S1 := rfl
@[simp] theorem iIf_e {α : Type} (c : IT) (a b : Slots → Sto → Out α) : iIf c a b Λ S = (c Λ S).bind fun k S1 => if k = true then a Λ S1 else b Λ S1 := rfl
@[simp] theorem iChain_e (f g : IV → IV → Sto → Out IV) (a b c : IE) : iChain f g a b c Λ S = (a Λ S).bind fun x S1 => (b Λ S1).bind fun y S2 => (f x y S2).bind fun z S3 => asB z fun k => if k = true then (c Λ S3).bind fun u S4 => g y u S4 else .ok (.bl false) S3 := rfl
@[simp] theorem iSl_e (cell : Bool) (m : IE) (ml mh : IO) : iSl cell m ml mh Λ S = (m Λ S).bind fun x S1 => (ml Λ S1).bind fun lo S2 => (mh Λ S2).bind fun hi S3 => fSl cell x lo hi S3 := rfl
@[simp] theorem iNoPart_e : iNoPart Λ S = .ok none S := rfl
@[simp] theorem iPart_e (m : IE) : iPart m Λ S = (m Λ S).bind fun x S1 => asI x fun i => .ok (some i) S1 := rfl
@[simp] theorem iLst_e (cell : Bool) (m : IA) : iLst cell m Λ S = (m Λ S).bind fun xs S1 => mkL cell xs S1 := rfl
@[simp] theorem iTup_e (m : IA) : iTup m Λ S = (m Λ S).bind fun xs S1 => mkT xs S1 := rfl
@[simp] theorem mkL_t (xs : List IV) : mkL true xs S = chk (xs.length ≤ sizeLine) (.ok (.adr S.length) (S ++ [.lst xs])) := rfl
@[simp] theorem mkL_f (xs : List IV) : mkL false xs S = chk (xs.length ≤ sizeLine) (.ok (.lst xs) S) := rfl
@[simp] theorem mkT_e (xs : List IV) : mkT xs S = chk (xs.length ≤ sizeLine) (.ok (.tup xs) S) := rfl
@[simp] theorem iNext_e : iNext Λ S = .ok (.nx Λ) S := rfl
@[simp] theorem iSeq_e (a b : IS) : iSeq a b Λ S = (a Λ S).bind fun fl S1 => fSeq b fl S1 := rfl
@[simp] theorem fSeq_nx (b : IS) : fSeq b (.nx L) S = b L S := rfl
@[simp] theorem fSeq_rt (b : IS) (v : IV) : fSeq b (.rt v) S = .ok (.rt v) S := rfl
@[simp] theorem fSeq_bk (b : IS) : fSeq b (.bk L) S = .ok (.bk L) S := rfl
@[simp] theorem fSeq_ct (b : IS) : fSeq b (.ct L) S = .ok (.ct L) S := rfl
@[simp] theorem iDrop_e (m : IE) : iDrop m Λ S = (m Λ S).bind fun _ S1 => .ok (.nx Λ) S1 := rfl
@[simp] theorem iRet_e (m : IE) : iRet m Λ S = (m Λ S).bind fun x S1 => .ok (.rt x) S1 := rfl
@[simp] theorem iRetN_e : iRetN Λ S = .ok (.rt .non) S := rfl
@[simp] theorem iBrk_e : iBrk Λ S = .ok (.bk Λ) S := rfl
@[simp] theorem iCnt_e : iCnt Λ S = .ok (.ct Λ) S := rfl
@[simp] theorem iName_e (i : Nat) (x : IV) : iName i x Λ S = .ok (Λ.set i (some x)) S := rfl
@[simp] theorem iAsg_e (m : IE) (g : IG) : iAsg m g Λ S = (m Λ S).bind fun x S1 => (g x Λ S1).bind fun L S2 => .ok (.nx L) S2 := rfl
@[simp] theorem iSet_e (i : Nat) (m : IE) : iSet i m Λ S = (m Λ S).bind fun x S1 => .ok (.nx (Λ.set i (some x))) S1 := rfl
@[simp] theorem iGSub_e (mo mi : IE) (x : IV) : iGSub mo mi x Λ S = (mo Λ S).bind fun o S1 => (mi Λ S1).bind fun i S2 => asI i fun k => onL S2 o fun n xs => orBad (ixN xs.length k) fun j => .ok Λ (S2.set n (.lst (xs.set j x))) := rfl
theorem onL_s {α : Type} {n : Nat} {xs : List IV} {k : Nat → List IV → Out α} (h : S[n]? = some (.lst xs)) : onL S (.adr n) k = k n xs := by unfold onL; simp only [h]
@[simp] theorem iFor_e (ms : IW) (g : IG) (b : IS) : iFor ms g b Λ S = (ms Λ S).bind fun s S1 => iIter s g b s.items Λ S1 := rfl
@[simp] theorem iSrcR1_e (m : IE) : iSrcR1 m Λ S = (m Λ S).bind fun x S1 => asI x fun j => chk (-(2 ^ 62) ≤ j ∧ j < 2 ^ 62) (.ok ⟨rangeI 0 j.toNat, none⟩ S1) := rfl
@[simp] theorem iSrcS_e (m : IE) : iSrcS m Λ S = (m Λ S).bind fun x S1 => asS x fun z => .ok ⟨z.cps.toList.map fun c => .str ⟨#[c]⟩, none⟩ S1 := rfl
@[simp] theorem iSrcL_e (m : IE) : iSrcL m Λ S = (m Λ S).bind fun x S1 => fSrcL x S1 := rfl
@[simp] theorem fSrcL_l (xs : List IV) : fSrcL (.lst xs) S = .ok ⟨xs, none⟩ S := rfl
@[simp] theorem fSrcL_w (xs : List IV) : fSrcL (.wls xs) S = .ok ⟨xs, none⟩ S := rfl
@[simp] theorem iLc_e (cell : Bool) (ms : IW) (gi : IV → Slots → Option Slots) (tt : IT) (te : IE) (vs : List Nat) : iLc cell ms gi tt te vs Λ S = (ms Λ S).bind fun s S1 => (iLcGo s gi tt te s.items (wipeI Λ vs) S1 []).bind fun acc S2 => mkL cell acc S2 := rfl
@[simp] theorem iYes_e : iYes Λ S = .ok true S := rfl
@[simp] theorem giN_e (j : Nat) (x : IV) : giN j x Λ = some (Λ.set j (some x)) := rfl
@[simp] theorem iCall_e (np : Nat) (mf : List IV → Sto → Out IV) (a : IA) : iCall np mf a Λ S = (a Λ S).bind fun xs S1 => chk (xs.length = np) (relab Λ (mf xs S1)) := rfl
@[simp] theorem relab_ok (v : IV) : relab Λ (.ok v S) = .ok v S := rfl
@[simp] theorem relab_bad : relab Λ .bad = .bad := rfl
theorem iCall0_ok {mf : List IV → Sto → Out IV} {v : IV} (h : mf [] S = .ok v S') : iCall0 mf Λ S = .ok v S' := by unfold iCall0; rw [h]
@[simp] theorem iBM_e (T : String) (f : IV → List IV → Sto → Out IV) (mo : IE) (ma : IA) : iBM T f mo ma Λ S = (mo Λ S).bind fun o S1 => chk (hasTy T S1 o = true) ((ma Λ S1).bind fun xs S2 => f o xs S2) := rfl
@[simp] theorem fI_i (C : Int → Int → Prop) [∀ i j, Decidable (C i j)] (g : Int → Int → Int) (i j : Int) : fI C g (.int i) (.int j) S = chk (C i j) (.ok (.int (g i j)) S) := rfl
@[simp] theorem fB_i (g : Int → Int → Bool) (i j : Int) : fB g (.int i) (.int j) S = .ok (.bl (g i j)) S := rfl
@[simp] theorem fAdd_i (i j : Int) : fAdd (.int i) (.int j) S = .ok (.int (i + j)) S := rfl
@[simp] theorem fAdd_s (a b : Str) : fAdd (.str a) (.str b) S = chk (a.length + b.length ≤ sizeLine) (.ok (.str (a ++ b)) S) := rfl
@[simp] theorem fAdd_l (a b : List IV) : fAdd (.lst a) (.lst b) S = mkF (a ++ b) S := rfl
@[simp] theorem mkF_e (a : List IV) : mkF a S = chk (a.length ≤ sizeLine) (.ok (.lst a) S) := rfl
@[simp] theorem fIx_l (xs : List IV) (i : Int) : fIx (.lst xs) (.int i) S = orBad (atI xs i) fun v => .ok v S := rfl
@[simp] theorem fIx_w (xs : List IV) (i : Int) : fIx (.wls xs) (.int i) S = orBad (atI xs i) fun v => .ok v S := rfl
@[simp] theorem fIx_t (xs : List IV) (i : Int) : fIx (.tup xs) (.int i) S = orBad (atI xs i) fun v => .ok v S := rfl
@[simp] theorem fIx_s (z : Str) (i : Int) : fIx (.str z) (.int i) S = chk (z.length ≤ sizeLine) (orBad (atI z.cps.toList i) fun c => .ok (.str ⟨#[c]⟩) S) := rfl
theorem fIx_a {n : Nat} {xs : List IV} {i : Int} (h : S[n]? = some (.lst xs)) : fIx (.adr n) (.int i) S = orBad (atI xs i) fun v => .ok v S := by
  show orBad (lstOf S (.adr n)) _ = _
  unfold lstOf
  simp only [h]
  rfl
@[simp] theorem fInt_i (i : Int) : fInt [.int i] S = .ok (.int i) S := rfl
@[simp] theorem fInt_b (i : Bool) : fInt [.bl i] S = .ok (.int (if i then 1 else 0)) S := rfl
@[simp] theorem fAbs_i (i : Int) : fAbs [.int i] S = .ok (.int (if i < 0 then -i else i)) S := rfl
@[simp] theorem fLen_e (x : IV) : fLen [x] S = orBad (lenN S x) fun n => .ok (.int n) S := rfl
@[simp] theorem lenN_s (s : Str) : lenN S (.str s) = if s.length ≤ sizeLine then some s.length else none := rfl
@[simp] theorem lenN_l (s : List IV) : lenN S (.lst s) = some s.length := rfl
@[simp] theorem lenN_w (s : List IV) : lenN S (.wls s) = some s.length := rfl
@[simp] theorem lenN_t (s : List IV) : lenN S (.tup s) = some s.length := rfl
@[simp] theorem fMax2_i (i j : Int) : fMax2 [.int i, .int j] S = .ok (.int (if j > i then j else i)) S := rfl
@[simp] theorem fMin2_i (i j : Int) : fMin2 [.int i, .int j] S = .ok (.int (if j < i then j else i)) S := rfl
@[simp] theorem fIsi_e (x : IV) (n : String) : fIsi [x, .ty n] S = orBad (tyN S x) fun t => orBad (kitN t n) fun b => .ok (.bl b) S := rfl
@[simp] theorem tyN_non : tyN S .non = some "NoneType" := rfl
@[simp] theorem tyN_bl (b : Bool) : tyN S (.bl b) = some "bool" := rfl
@[simp] theorem tyN_int (b : Int) : tyN S (.int b) = some "int" := rfl
@[simp] theorem tyN_str (b : Str) : tyN S (.str b) = some "str" := rfl
@[simp] theorem tyN_lst (b : List IV) : tyN S (.lst b) = some "list" := rfl
@[simp] theorem tyN_tup (b : List IV) : tyN S (.tup b) = some "tuple" := rfl
@[simp] theorem fIn_e (x y : IV) : fIn x y S = orBad (inB S x y) fun b => .ok (.bl b) S := rfl
@[simp] theorem fNotIn_e (x y : IV) : fNotIn x y S = orBad (inB S x y) fun b => .ok (.bl (!b)) S := rfl
@[simp] theorem fEq_e (x y : IV) : fEq x y S = orBad (eqB S x y) fun b => .ok (.bl b) S := rfl
@[simp] theorem fNe_e (x y : IV) : fNe x y S = orBad (eqB S x y) fun b => .ok (.bl (!b)) S := rfl
@[simp] theorem eqB_i (i j : Int) : eqB S (.int i) (.int j) = some (decide (i = j)) := rfl
@[simp] theorem eqB_s (i j : Str) : eqB S (.str i) (.str j) = some (decide (i = j)) := rfl
@[simp] theorem eqB_b (i j : Bool) : eqB S (.bl i) (.bl j) = some (decide (i = j)) := rfl
@[simp] theorem gIsN_e (x : IV) : gIsN x .non S = .ok (.bl (isN x)) S := rfl
@[simp] theorem gNotN_e (x : IV) : gNotN x .non S = .ok (.bl (!isN x)) S := rfl
@[simp] theorem fSl_s (cell : Bool) (z : Str) (lo hi : Option Int) : fSl cell (.str z) lo hi S = chk (z.length ≤ sizeLine) (.ok (.str (cutS z lo hi)) S) := rfl
@[simp] theorem fSl_l (cell : Bool) (z : List IV) (lo hi : Option Int) : fSl cell (.lst z) lo hi S = mkL cell (cutI z lo hi) S := rfl
theorem mDef_e (n : Nat) (b : IS) (xs : List IV) : mDef n b xs S = match b (xs.map some ++ List.replicate (n - xs.length) none) S with
  | .ok (.rt iv) S' => .ok iv S'
  | .ok (.nx _) S' => .ok .non S'
  | .ok _ _ => .bad
  | .exc C k _ S' => .exc C k [] S'
  | .bad => .bad := rfl
theorem mDef_rt {n : Nat} {b : IS} {xs : List IV} {v : IV} (h : b (xs.map some ++ List.replicate (n - xs.length) none) S = .ok (.rt v) S') : mDef n b xs S = .ok v S' := by unfold mDef; simp only [h]
theorem atI_n {α : Type} {xs : List α} {i : Nat} {v : α} (h : xs[i]? = some v) : atI xs (i : Int) = some v := atI_nat h
@[simp] theorem atI_0 {α : Type} (x : α) (xs : List α) : atI (x :: xs) 0 = some x := atI_nat (xs := x :: xs) (j := 0) rfl
@[simp] theorem atI_1 {α : Type} (x y : α) (xs : List α) : atI (x :: y :: xs) 1 = some y := atI_nat (xs := x :: y :: xs) (j := 1) rfl
@[simp] theorem atI_2 {α : Type} (x y z : α) (xs : List α) : atI (x :: y :: z :: xs) 2 = some z := atI_nat (xs := x :: y :: z :: xs) (j := 2) rfl
theorem atI_lt {α : Type} {xs : List α} {i : Int} (h0 : 0 ≤ i) (h : i < xs.length) : ∃ v, atI xs i = some v ∧ v ∈ xs := by
  obtain ⟨n, rfl⟩ := Int.eq_ofNat_of_zero_le h0
  have hn : n < xs.length := by exact_mod_cast h
  exact ⟨xs[n], atI_nat (List.getElem?_eq_getElem hn), List.getElem_mem hn⟩
@[simp] theorem ixN_0 (n : Nat) : ixN (n + 1) 0 = some 0 := by unfold ixN; rw [if_pos (by omega), if_pos (by omega)]; rfl
@[simp] theorem ixN_1 (n : Nat) : ixN (n + 2) 1 = some 1 := by unfold ixN; rw [if_pos (by omega), if_pos (by omega)]; rfl
@[simp] theorem ixN_2 (n : Nat) : ixN (n + 3) 2 = some 2 := by unfold ixN; rw [if_pos (by omega), if_pos (by omega)]; rfl
end Sm

/-! texts as lists of signs; == of lists of texts -/
namespace Sm
open PySem PySem.Spec PyProof.Rows L2
/-- the signs of a text -/
abbrev sg (s : Str) : List Nat := s.cps.toList
theorem sg_inj {a b : Str} (h : sg a = sg b) : a = b := by
  cases a; cases b
  exact congrArg Str.mk (Array.toList_inj.mp h)
theorem sg_len (s : Str) : (sg s).length = s.length := by simp [sg, Str.length]
theorem sg_app (a b : Str) : sg (a ++ b) = sg a ++ sg b := by
  show (a.cps ++ b.cps).toList = _
  simp [sg]
theorem len_app (a b : Str) : (a ++ b).length = a.length + b.length := by rw [← sg_len, sg_app, List.length_append, sg_len, sg_len]
theorem sg_one (c : Nat) : sg ⟨#[c]⟩ = [c] := rfl
theorem sg_mk (l : List Nat) : sg ⟨l.toArray⟩ = l := by simp [sg]
theorem sg_cut (z : Str) (lo hi : Option Int) : sg (cutS z lo hi) = ((sg z).drop (HT.sIx z.length 0 lo)).take (HT.sIx z.length z.length hi - HT.sIx z.length 0 lo) := by
  unfold cutS
  rw [sg_mk]
theorem mem_cut {z : Str} {lo hi : Option Int} {c : Nat} (h : c ∈ sg (cutS z lo hi)) : c ∈ sg z := by
  rw [sg_cut] at h
  exact List.mem_of_mem_drop (List.mem_of_mem_take h)
theorem len_cut (z : Str) (lo hi : Option Int) : (cutS z lo hi).length ≤ z.length := cutS_length z lo hi
theorem fold_glue : ∀ (zs : List Str) (acc : Array Nat), (zs.foldl (fun acc p => acc ++ (Str.mk #[]).cps ++ p.cps) acc).toList = acc.toList ++ (zs.map sg).flatten
  | [], acc => by simp
  | z :: zs, acc => by
    rw [List.foldl_cons, fold_glue zs, List.map_cons, List.flatten_cons]
    simp [sg]
theorem sg_join0 (zs : List Str) : sg (PySem.Txt.join ⟨#[]⟩ zs) = (zs.map sg).flatten := by
  show ((zs.drop 1).foldl _ (zs.headD Str.empty).cps).toList = _
  cases zs with
  | nil => rfl
  | cons z zs =>
    show (zs.foldl (fun acc p => acc ++ (Str.mk #[]).cps ++ p.cps) z.cps).toList = _
    rw [fold_glue]
    rfl
theorem empty_eq : ("" : Str) = ⟨#[]⟩ := by decide +kernel
/-- all signs are known ones -/
def okS (s : Str) : Prop := ∀ c ∈ sg s, c < 1114112
theorem okS_b {s : Str} (h : okS s) : PyData.strOk s = true := by
  unfold PyData.strOk
  rw [← Array.all_toList]
  exact List.all_eq_true.mpr fun c hc => decide_eq_true (h c hc)
theorem okS_app {a b : Str} (ha : okS a) (hb : okS b) : okS (a ++ b) := fun c hc => by
  rw [sg_app] at hc
  exact (List.mem_append.mp hc).elim (ha c) (hb c)
theorem okS_cut {z : Str} {lo hi : Option Int} (h : okS z) : okS (cutS z lo hi) := fun c hc => h c (mem_cut hc)
theorem okS_join0 {zs : List Str} (h : ∀ z ∈ zs, okS z) : okS (PySem.Txt.join ⟨#[]⟩ zs) := fun c hc => by
  rw [sg_join0] at hc
  obtain ⟨l, hl, hc⟩ := List.mem_flatten.mp hc
  obtain ⟨z, hz, e⟩ := List.mem_map.mp hl
  subst e
  exact h z hz c hc
/-! ### lists of texts as data -/
theorem viewL_strs {f : IV → Option PyData} (hf : ∀ s, f (.str s) = some (.str s)) : ∀ zs : List Str, viewL f (zs.map IV.str) = some (zs.map PyData.str)
  | [] => rfl
  | z :: zs => by
    show viewL f (.str z :: zs.map IV.str) = _
    unfold viewL
    rw [hf, viewL_strs hf zs]
    rfl
theorem canLay_strs : ∀ {zs : List Str}, (∀ z ∈ zs, okS z) → PyData.canLayAll0 (zs.map PyData.str) = true
  | [], _ => by simp [PyData.canLayAll0]
  | z :: zs, h => by
    show PyData.canLayAll0 (.str z :: zs.map PyData.str) = true
    rw [PyData.canLayAll0, PyData.canLay0, okS_b (h z List.mem_cons_self), canLay_strs fun y hy => h y (List.mem_cons_of_mem _ hy)]
    rfl
theorem depth_strs : ∀ zs : List Str, PyData.depthAll (zs.map PyData.str) = 0
  | [] => by simp [PyData.depthAll]
  | z :: zs => by
    show PyData.depthAll (.str z :: zs.map PyData.str) = 0
    rw [PyData.depthAll, PyData.depth, depth_strs zs]
    rfl
theorem eqv_strs : ∀ zs ys : List Str, PyData.eqvAll (zs.map PyData.str) (ys.map PyData.str) = decide (zs = ys)
  | [], [] => by simp [PyData.eqvAll]
  | [], y :: ys => by simp [PyData.eqvAll]
  | z :: zs, [] => by simp [PyData.eqvAll]
  | z :: zs, y :: ys => by
    show PyData.eqvAll (.str z :: zs.map PyData.str) (.str y :: ys.map PyData.str) = _
    rw [PyData.eqvAll, PyData.eqv, eqv_strs zs ys]
    by_cases h1 : z = y
    · subst h1
      by_cases h2 : zs = ys
      · subst h2; simp
      · simp [h2]
    · simp [h1]
theorem shaped_strs {zs : List Str} (h : ∀ z ∈ zs, okS z) : SeqAt.shaped (.list (zs.map PyData.str)) = true := by
  unfold SeqAt.shaped
  rw [PyData.canLay0, PyData.depth, canLay_strs h, depth_strs]
  rfl
theorem eqB_lst {S : Sto} {x y : List IV} {d e : PyData} (h1 : view 8 S (.lst x) = some d) (h2 : view 8 S (.lst y) = some e) (s1 : SeqAt.shaped d = true) (s2 : SeqAt.shaped e = true) : eqB S (.lst x) (.lst y) = some (PyData.eqv d e) := by
  show (match view 8 S (.lst x), view 8 S (.lst y) with
    | some d, some e => if SeqAt.shaped d = true ∧ SeqAt.shaped e = true then some (PyData.eqv d e) else none
    | _, _ => none) = _
  rw [h1, h2]
  show (if SeqAt.shaped d = true ∧ SeqAt.shaped e = true then some (PyData.eqv d e) else none) = _
  rw [if_pos ⟨s1, s2⟩]
theorem view_strs {S : Sto} (n : Nat) (zs : List Str) : view (n + 2) S (.lst (zs.map IV.str)) = some (.list (zs.map PyData.str)) := by
  show (viewL (view (n + 1) S) (zs.map IV.str)).map PyData.list = _
  rw [viewL_strs fun s => rfl]
  rfl
theorem eqB_strs {S : Sto} {zs ys : List Str} (hz : ∀ z ∈ zs, okS z) (hy : ∀ z ∈ ys, okS z) : eqB S (.lst (zs.map IV.str)) (.lst (ys.map IV.str)) = some (decide (zs = ys)) := by
  rw [eqB_lst (view_strs 6 zs) (view_strs 6 ys) (shaped_strs hz) (shaped_strs hy), PyData.eqv, eqv_strs]
/-! ### in a list of texts -/
theorem scVs_strs : ∀ zs : List Str, scVs (zs.map IV.str) = some (zs.map V.str)
  | [] => rfl
  | z :: zs => by
    show scVs (.str z :: zs.map IV.str) = _
    unfold scVs
    rw [scVs_strs zs]
    rfl
theorem inV_strs (s : Str) (zs : List Str) : inV (.str s) (zs.map V.str) = decide (s ∈ zs) := by
  unfold inV
  induction zs with
  | nil => rfl
  | cons z zs ih =>
    rw [List.map_cons, List.any_cons, ih]
    by_cases h : s = z
    · subst h; simp [eqV]
    · have : (z == s) = false := by simpa using fun e => h e.symm
      simp [eqV, this, h]
theorem inB_lst {S : Sto} (s : Str) (zs : List Str) : inB S (.str s) (.lst (zs.map IV.str)) = some (decide (s ∈ zs)) := by
  show ((scVs (zs.map IV.str)).map fun us => inV (.str s) us) = _
  rw [scVs_strs]
  show some (inV (.str s) (zs.map V.str)) = _
  rw [inV_strs]
theorem inB_tup {S : Sto} (s : Str) (zs : List Str) : inB S (.str s) (.tup (zs.map IV.str)) = some (decide (s ∈ zs)) := by
  show ((scVs (zs.map IV.str)).map fun us => inV (.str s) us) = _
  rw [scVs_strs]
  show some (inV (.str s) (zs.map V.str)) = _
  rw [inV_strs]
theorem inB_sg {S : Sto} (c : Nat) (z : Str) : inB S (.str ⟨#[c]⟩) (.str z) = some (decide (c ∈ sg z)) := rfl
/-! ### rangeI -/
theorem rangeI_len (lo : Int) (n : Nat) : (rangeI lo n).length = n := by simp [rangeI]
theorem chkP_true {α : Type} {p : Prop} {o : Out α} (h : p) : chkP p o = o := chkP_pos h
theorem stay_none (xs : List IV) (S : Sto) : (Src.mk xs none).stay S := trivial
end Sm

/-! the end of a law's proof -/
namespace Sm
open PySem PySem.Spec PyProof.Rows L2
section
variable {K : PySem.W.Frag} {mg : Str → Option Value} {h : Heap}
theorem loc_mk {x : Str} {st : Stmt} {ps : List Str} {f : Addr} {od an : Option Addr} {sl : Array (Option Value)} {oc kV dc pm cd ct : Value} (X : K.In h) (G : h.Ns mainGlobals mg)
    (a : PySem.W.nsIn K mainGlobals x = some (some (.ref f))) (l : K.lookup f = some ⟨oc, od, .func (PySem.W.fnOf x x (defArgs st) (defBody st) (defScope st) .none kV dc pm an cd ct), sl⟩) (c : PySem.W.codeIn K cd x = true) (k : PySem.W.keepIn K (.ref f) = true)
    (hb : ∀ (kV doc pm : Value) (an : Option Addr) (cdv ct : Value) (us : List Value), us.length = ps.length → bindArgs (PySem.W.fnOf x x (defArgs st) (defBody st) (defScope st) .none kV doc pm an cdv ct) ⟨us, []⟩ = pure (ps.zip us)) : Loc K mg x st ps :=
  have F := fun_mk (st := st) l c k
  ⟨f, _, PySem.W.mg_of X G a, F, F.binds hb⟩
theorem sloc_mk {x m qual : Str} {st : Stmt} {ps : List Str} {C p f : Addr} {od an : Option Addr} {sl : Array (Option Value)} {oc kV dc pm cd ct : Value} {rest : List Value} (X : K.In h) (G : h.Ns mainGlobals mg)
    (a : PySem.W.nsIn K mainGlobals x = some (some (.ref C))) (l : K.lookup f = some ⟨oc, od, .func (PySem.W.fnOf m qual (defArgs st) (defBody st) (defScope st) .none kV dc pm an cd ct), sl⟩) (c : PySem.W.codeIn K cd qual = true) (k : PySem.W.keepIn K (.ref f) = true)
    (ga : PySem.W.specialIn K (.ref C) "__getattribute__" = some (some (.builtin "type.__getattribute__"))) (ty : PySem.W.typeIn K (.ref C) = some (.type "type")) (rd : PySem.W.readsIn K C (.type "type") = true)
    (at_ : PySem.W.findCls K (.ref C) (.type "type") m = some (.get (.builtin "staticmethod.__get__") (.ref p) .none (.ref C))) (rc : PySem.W.recIn K p "staticmethod" = some (.ref f :: rest))
    (hb : ∀ (kV doc pm : Value) (an : Option Addr) (cdv ct : Value) (us : List Value), us.length = ps.length → bindArgs (PySem.W.fnOf m qual (defArgs st) (defBody st) (defScope st) .none kV doc pm an cdv ct) ⟨us, []⟩ = pure (ps.zip us)) : SLoc K mg x m qual st ps :=
  have F := fun_mk (st := st) l c k
  ⟨C, p, f, _, PySem.W.mg_of X G a, ⟨ga, ty, rd, at_, _, rc⟩, F, F.binds hb⟩
theorem gtup_mk {x : Str} {zs : List Str} {a : Addr} {od : Option Addr} {its : Array Value} {n : Nat} {sl : Array (Option Value)} (X : K.In h) (G : h.Ns mainGlobals mg) (ha : PySem.W.nsIn K mainGlobals x = some (some (.ref a)))
    (l : K.lookup a = some ⟨.type "tuple", od, .seq its n, sl⟩) (hz : its.size ≤ sizeLine) (v : Vals (zs.map V.str) its.toList) : GTup K mg x zs :=
  ⟨a, _, its, n, PySem.W.mg_of X G ha, l, rfl, rfl, hz, v⟩
end
def goodStrs : List Str → List Value → Bool
  | [], [] => true
  | z :: zs, .str x _ :: its => decide (z = x) && goodStrs zs its
  | _, _ => false
theorem vals_of_b : ∀ {zs : List Str} {its : List Value}, goodStrs zs its = true → Vals (zs.map V.str) its
  | [], [], _ => .nil
  | z :: zs, .str x t :: its, h => by
    obtain ⟨h1, h2⟩ := Bool.and_eq_true_iff.mp (show (decide (z = x) && goodStrs zs its) = true from h)
    have := of_decide_eq_true h1
    subst this
    exact .cons ⟨t, rfl⟩ (vals_of_b h2)
/-- a law's promise, from what its mirror tells of every script -/
theorem sp_law {K : PySem.W.Frag} {mg : Str → Option Value} {m : List IV → Sto → Out IV} {n : Nat} (hm : ∀ ns : List Int, ns.length ≤ n → ∃ S', m [.wls (ns.map IV.int)] [] = .ok (.bl true) S') {H : Hp} {a : Addr} {ns : List Int} {Q : VK} {E : XK} (hl : ns.length ≤ n) (hS : SqL K H a (ns.map V.int)) (hq : ∀ H', Q (.bl true) H') :
    spM K mg 1 m [.ref a] H Q E := by
  obtain ⟨S', e⟩ := hm ns hl
  have rl : ∀ {w : Wd} (l : List Int), RelL ⟨K, mg, none⟩ w (l.map V.int) (l.map IV.int) := fun {w} l => by
    induction l with
    | nil => exact .nil
    | cons x l ih => exact .cons (.int x) ih
  refine ⟨rfl, ⟨[], H, fun _ => none⟩, [], [.wls (ns.map IV.int)], ?_, .one (.wls hS (rl ns)), ?_⟩
  · refine ⟨rfl, List.nodup_nil, fun n c a h => ?_, fun n a h => ?_, Same.refl _, fun b o h => ?_, fun b o h => ?_⟩
    · simp at h
    · simp at h
    · have h : (none : Option HO) = some o := h
      cases h
    · have h : (none : Option HO) = some o := h
      cases h
  · rw [e]
    intro w' H' l r v rv
    cases rv
    exact hq H'
/-- what a law keeps: it answers True to every script of at most n numbers -/
def lawSp (K : PySem.W.Frag) (n : Nat) : Sp := fun vs H Q _ => ∃ (a : Addr) (ns : List Int), vs = [.ref a] ∧ ns.length ≤ n ∧ SqL K H a (ns.map V.int) ∧ ∀ H', Q (.bl true) H'
section
variable {K : PySem.W.Frag} {h : Heap} {mg : Str → Option Value}
/-- a def whose function is known -/
theorem law_mk {x y : Str} {st : Stmt} {f fa : Addr} {od an : Option Addr} {sl : Array (Option Value)} {oc kV dc pm cd ct : Value} (X : K.In h) (G : h.Ns mainGlobals mg) (hfa : mg x = some (.ref fa))
    (a : PySem.W.nsIn K mainGlobals x = some (some (.ref f))) (l : K.lookup f = some ⟨oc, od, .func (PySem.W.fnOf x x (defArgs st) (defBody st) (defScope st) .none kV dc pm an cd ct), sl⟩) (c : PySem.W.codeIn K cd x = true) (k : PySem.W.keepIn K (.ref f) = true)
    (hb : ∀ (kV doc pm : Value) (an : Option Addr) (cdv ct u : Value), bindArgs (PySem.W.fnOf x x (defArgs st) (defBody st) (defScope st) .none kV doc pm an cdv ct) ⟨[u], []⟩ = pure [(y, u)])
    {P : Program} {w : World} {n : Nat} {m : List IV → Sto → Out IV} (hm : ∀ ns : List Int, ns.length ≤ 63 → ∃ S', m [.wls (ns.map IV.int)] [] = .ok (.bl true) S') (H : ∀ (fd : FuncData), Fun K x x st fa fd → ∀ base : Heap, K.In base → base.Ns mainGlobals mg → FnG P w K mg base (L2.CX P w) n fa fd [y] (spM K mg 1 m)) :
    ∃ fd : FuncData, (∀ (s : Shared) (v : Value), BindsTo s fd ⟨[v], []⟩ [(y, v)]) ∧ ∀ base : Heap, K.In base → base.Ns mainGlobals mg → FnG P w K mg base (L2.CX P w) n fa fd [y] (lawSp K 63) := by
  have e := hfa.symm.trans (PySem.W.mg_of X G a)
  cases e
  have F := fun_mk (st := st) l c k
  exact ⟨_, fun s v => .of_eq (hb _ _ _ _ _ _ v), fun base kin ns => (H _ F base kin ns).imp fun vs H Q E ⟨a, xs, e, hl, hS, hq⟩ => by
    subst e
    exact sp_law hm hl hS hq⟩
end
end Sm

/-! own exceptions: made and raised, caught, their fields read -/
namespace Sm
open PySem PySem.Spec PyProof.Rows L2

/-- B.__init__(self, ..) of an own exception's own base that takes ValueError's -/
structure BaseC (K : PySem.W.Frag) (mg : Str → Option Value) (x : Str) : Prop where
  ex : ∃ C : Addr, mg x = some (.ref C) ∧ PySem.W.specialIn K (.ref C) "__getattribute__" = some (some (.builtin "type.__getattribute__")) ∧ PySem.W.typeIn K (.ref C) = some (.type "type") ∧
    PySem.W.readsIn K C (.type "type") = true ∧ PySem.W.findCls K (.ref C) (.type "type") "__init__" = some (.val (.builtin "ValueError.__init__"))
section
variable {X : Cx} {e : Expr} {es : List Expr} {ta : TA} {x : Str} {p1 p2 pos : Pos}
theorem pe_clsinit {pl : Sem Bool} (hg : Gl X x) (B : BaseC X.K X.mg x) (hdb : (x == ("__debug__" : Str)) = false) (ha : PA X (e :: es) ta)
    (hc : eval (.Call (.Attribute (.Name x p1) "__init__" p2) (e :: es) [] pos) X.env = (do
      let ov ← eval (.Name x p1) X.env
      standAt p2.atName
      let (f, first) ← holding [ov] (getMethod ov "__init__" pl)
      callWith pos f first (backTo pos (starEach (e :: es) X.env)) (backToKw pos (keywordEach [] X.env))) := by rfl)
    (he : starEach (e :: es) X.env = (false, eval e X.env) :: starEach es X.env := by rfl) (hpl : (backTo pos (starEach es X.env)).any (·.1) = false := by rfl) :
    PE X (.Call (.Attribute (.Name x p1) "__init__" p2) (e :: es) [] pos) (tVeI X.K ta) := by
  obtain ⟨C, hm, ga, ty, rd, fc⟩ := B.ex
  refine ⟨fun pins s σ H Q I h => ?_⟩
  refine PySem.W.methodCall_KW (ld_glob I hg hm ?_ hdb) hc
  obtain ⟨m, fr⟩ := I.fr
  refine PySem.W.method_of_cls fr I.ok.mod.kin ga (PySem.W.cls_val fr I.ok.mod.kin ty rd fc (by decide +kernel) ?_)
  show wpAny _ _ (callWith pos (Value.builtin "ValueError.__init__") [] (backTo pos (starEach (e :: es) X.env)) []) _ _ _
  refine PyProof.Rows.callWith_method1 (thn (ha.run pos pins _ σ H _ (I.tok _) h) fun us s1 ⟨vs, H1, I1, r1, a, C, ws, ev, hl, T, ea, q⟩ => ?_) he hpl
  subst ev
  cases r1 with
  | @cons _ u0 _ ur ra rw' =>
    obtain rfl : u0 = Value.ref a := ra
    have hlen : ur.length ≤ sizeLine := by
      rw [← Paired.length rw', sizeLine_eq]
      omega
    exact oinit_ok T I1 ea hlen fun s' J => ⟨.non, H1, J, rfl, q⟩
end
/-- what an exception's own __init__(self, v) keeps: its one field -/
def exSp (K : PySem.W.Frag) (f : Str) : Sp := fun vs H Q _ => ∃ (a C : Addr) (v : V), vs = [.ref a, v] ∧ OexC K C ∧ PySem.W.findIn K (.ref C) f = some none ∧ H a = some (exo a C none) ∧
  ∀ dx, H dx = none → dx ≠ a → Q .non (upd (upd H dx (exd dx [(f, v)])) a (exo a C (some dx)))
/-- an exception class of the module -/
structure EClsAt (K : PySem.W.Frag) (mg : Str → Option Value) (x : Str) (f : Str) (C : Addr) : Prop where
  m : mg x = some (.ref C)
  o : OexC K C
  nf : PySem.W.findIn K (.ref C) f = some none
structure ECal (P : Program) (w : World) (K : PySem.W.Frag) (mg : Str → Option Value) (base : Heap) (x f : Str) : Prop where
  ex : ∃ (C fI : Addr) (fd : FuncData) (a b : Str), EClsAt K mg x f C ∧ PySem.W.findIn K (.ref C) "__init__" = some (some (.ref fI)) ∧ PySem.W.typeIn K (.ref fI) = some (.type "function") ∧
    L2.Binds K fd [a, b] [] ∧ FnOk P w K mg base (L2.CX P w) 1 fI fd [a, b] (exSp K f)
section
variable {P : Program} {w : World} {K : PySem.W.Frag} {mg : Str → Option Value} {base : Heap}
def tInit (K : PySem.W.Frag) (f z : Str) : TS := tSeq (tDrop (tVeI K (tCons (tVar 0) (tCons (tC (.str z)) tNil)))) (tOst K f (tVar 0) (tVar 1))
theorem einit_ok {qual : Str} {st : Stmt} {fI : Addr} {fd : FuncData} {f a b z : Str} (F : Fun K "__init__" qual st fI fd) (Sc : FnScope [a, b] [a, b] (defScope st))
    (hb : ∀ (cdv : Value) (A : Around) (outer : List Env) (s : Shared) (H : Hp) (E : XK), PSs (DX P w K mg base [a, b] qual (defScope st) fI cdv A outer s H E) (defBody st) (tInit K f z)) : FnOk P w K mg base (L2.CX P w) 1 fI fd [a, b] (exSp K f) := by
  refine F.okX Sc (fun vs H Q E h => by obtain ⟨_, _, _, rfl, _⟩ := h; rfl) fun cdv A outer s H vs Q E hr h => ?_
  obtain ⟨e, C, v, rfl, T, nf, ha, q⟩ := h
  exact ⟨_, hb cdv A outer s H E, .ref e, rfl, e, C, [.str z], rfl, by simp, T, ha, v, rfl, .ref e, rfl, e, C, rfl, T, nf, .inl ⟨ha, fun dx hn hne => q dx hn hne⟩⟩
end
section
variable {X : Cx} {W : WZ} {e : Expr} {es : List Expr} {ma : IA} {x f : Str} {p pos rpos : Pos}
theorem exc_hp {H1 : Hp} {a dx : Addr} {o o' o'' o3 : HO} (ha : H1 a = none) (hne : dx ≠ a) : upd (del (upd (upd (upd H1 a o) dx o') a o'') a) dx o3 = upd H1 dx o3 := by
  funext b
  by_cases hb : b = dx
  · rw [hb, upd_same, upd_same]
  · rw [upd_ne hb, upd_ne hb]
    by_cases hc : b = a
    · rw [hc, del_same, ha]
    · rw [del_ne hc, upd_ne hc, upd_ne hb, upd_ne hc]
theorem pmk_e (c : ECal X.prog X.w X.K X.mg X.base x f) (tk : Takes X W.x) (hr : RmG 2 X.A) (hg : Gl X x) (ha : DA X W (e :: es) ma) (hdb : (x == ("__debug__" : Str)) = false)
    (he : starEach (e :: es) X.env = (false, eval e X.env) :: starEach es X.env) (hpl : (backTo pos (starEach es X.env)).any (·.1) = false) :
    PMk X (.Call (.Name x p) (e :: es) [] pos) (fun σ H Q => aM (kx X W) W.x ma σ H fun vs H' => ∃ v, vs = [v] ∧ ∀ d, H' d = none → Q (clsV X.mg x) (some d) (upd H' d (.xd [(f, v)]))) := by
  obtain ⟨C, fI, fd, a, b, ec, iC, tI, bi, F⟩ := c.ex
  have hcl : clsV X.mg x = .ref C := by unfold clsV; rw [ec.m]; rfl
  intro pins s σ H Q I h
  refine pmk_oex (ds := []) (dvs := []) ec.o iC tI F hr.toRoom bi .nil (passes_call tk fun _ _ _ _ z => z.elim) hg ec.m ha hdb he hpl pins s σ H Q I ?_
  obtain ⟨w, S, Λ, r0, s0, p⟩ := h
  refine ⟨w, S, Λ, r0, s0, p.imp fun w1 H1 S1 ivs l1 r1 p1 vs rv => ?_⟩
  obtain ⟨v, rfl, q⟩ := p1 vs rv
  refine ⟨by simp, fun e he => ⟨e, C, v, rfl, ec.o, ec.nf, upd_same, fun dx hdx hne => ⟨rfl, dx, [(f, v)], upd_same, by rw [upd_ne hne, upd_same], by rwa [upd_ne hne] at hdx, ?_⟩⟩⟩
  rw [exc_hp he hne, ← hcl]
  exact q dx (by rwa [upd_ne hne] at hdx)
/-- raise C(v), C with the one field f -/
def iRaise (x f : Str) (ma : IA) : IS := fun Λ S => (ma Λ S).bind fun xs S1 => a1 xs fun v => .exc x S1.length Λ (S1 ++ [.xd [(f, v)]])
theorem ds_raise (hc : X.calm = true) (tk : Takes X W.x) (hr : RmG 2 X.A) (c : ECal X.prog X.w X.K X.mg X.base x f) (ha : DA X W (e :: es) ma) (hg : Gl X x := by rfl) (hdb : (x == ("__debug__" : Str)) = false := by decide)
    (he : starEach (e :: es) X.env = (false, eval e X.env) :: starEach es X.env := by rfl) (hpl : (backTo pos (starEach es X.env)).any (·.1) = false := by rfl) (hx : W.ex = none := by rfl) :
    DS X W (.Raise (some (.Call (.Name x p) (e :: es) [] pos)) none rpos) (iRaise x f ma) :=
  (ps_raise hc tk (pmk_e c tk hr hg ha hdb he hpl)).imp fun D σ H ⟨w, S, Λ, r0, s0, p⟩ => ⟨w, S, Λ, r0, s0, p.bind.imp fun w1 H1 S1 xs l1 r1 p1 vs rv => by
    obtain ⟨v, y, rfl, rfl, rv, p1⟩ := a1_post p1 rv
    refine ⟨v, rfl, fun d hd => ?_⟩
    obtain ⟨l2, r2⟩ := r1.alloc (p := d) (o := .xd [(f, v)]) (c := .xd [(f, y)]) hd fun w' l' => ⟨_, upd_same, .cons ⟨rfl, rv.up l'⟩ .nil⟩
    exact p1 _ _ d σ l2 r2 ((s0.up l1).up l2) (by
      show (w1.rho ++ [d])[S1.length]? = some d
      rw [← r1.len]
      simp)⟩
end
/-- the slot i is let go -/
def Fl.gone (i : Nat) : Fl → Fl
  | .nx L => .nx (L.set i none)
  | .bk L => .bk (L.set i none)
  | .ct L => .ct (L.set i none)
  | .rt v => .rt v
/-- try: mb / except c as (slot i): ms; tab tells of each class that may come whether c takes it -/
def iTryAs (tab : List (Str × Bool)) (i : Nat) (mb : IS) (ms : Str → Nat → IS) : IS := fun Λ S => match mb Λ S with
  | .exc C n L S' => (match tab.lookup C with
    | some true => (noX (ms C n (L.set i none) S')).bind fun fl S2 => .ok (fl.gone i) S2
    | some false => .exc C n L S'
    | none => .bad)
  | o => o
section
variable {X : Cx} {W : WX} {x n : Str} {c : Value} {i : Nat} {body suite : List Stmt} {b₀ : Stmt} {np pos pos' : Pos} {mb : IS} {ms : Str → Nat → IS} {tab : List (Str × Bool)}
theorem sr_out {K K' : KX} {w : Wd} {σ : L2.St} {L : Slots} (i : Nat) (hk : K'.k = K.k) (hx : K.ex = none) (s : SR K' w σ L) : SR K w (σ.set i none) (L.set i none) := by
  refine ⟨by rw [List.length_set, List.length_set]; exact s.len, fun j jv e => ?_, fun j n a d e _ => by rw [hx] at e; cases e⟩
  by_cases hj : j = i
  · subst hj
    have hlt : j < L.length := by have := (List.getElem?_eq_some_iff.mp e).1; rwa [List.length_set] at this
    rw [List.getElem?_set_self hlt] at e
    cases e
  · rw [List.getElem?_set_ne (Ne.symm hj)] at e
    rw [List.getElem?_set_ne (Ne.symm hj)]
    obtain ⟨v, h1, h2⟩ := s.get j jv e
    exact ⟨v, h1, Rel.cx hk _ _ h2⟩
theorem sr_in {K : KX} {w : Wd} {σ : L2.St} {L : Slots} {i n : Nat} {a d : Addr} (hd : w.rho[n]? = some d) (s : SR K w σ L) : SR ⟨K.k, K.mg, some (i, n, a, d)⟩ w (σ.set i (some (.ref a))) (L.set i none) := by
  refine ⟨by rw [List.length_set, List.length_set]; exact s.len, fun j jv e => ?_, fun j n' a' d' e1 e2 => ?_⟩
  · by_cases hj : j = i
    · subst hj
      have hlt : j < L.length := by have := (List.getElem?_eq_some_iff.mp e).1; rwa [List.length_set] at this
      rw [List.getElem?_set_self hlt] at e
      cases e
    · rw [List.getElem?_set_ne (Ne.symm hj)] at e
      rw [List.getElem?_set_ne (Ne.symm hj)]
      obtain ⟨v, h1, h2⟩ := s.get j jv e
      exact ⟨v, h1, Rel.cx (K := K) (K' := ⟨K.k, K.mg, some (i, n, a, d)⟩) rfl _ _ h2⟩
  · have e1 : some (i, n, a, d) = some (j, n', a', d') := e1
    cases e1
    have hlt : i < L.length := by have := (List.getElem?_eq_some_iff.mp e2).1; rwa [List.length_set] at this
    exact ⟨by rw [List.getElem?_set_self (by rw [s.len]; exact hlt)], hd⟩
theorem ds_try (hs : X.stack = X.env :: X.outer) (hf : X.env.frame = some X.env.locals) (hN : X.N.Nodup) (i : Nat) (hi : X.N[i]? = some n) (hln : X.env.kindOf n = some .local) (hc : Names X x c) (tk : Takes X W)
    (hT : ∀ C b, tab.lookup C = some b → PySem.W.exmOne X.K (clsV X.mg C) c = some b)
    (hb : ∀ (W' : WX) (pn : List (Addr × Obj)) (xe : Value → Shared → Prop), Takes (X.tr pn xe) W' → PassesOwn (model X.prog X.w) X.A X.env xe → DSs (X.tr pn xe) ⟨W', none⟩ body mb)
    (hsu : ∀ (C : Str) (m : Nat) (a d : Addr) (oe : Obj) (pn : List (Addr × Obj)), tab.lookup C = some true → Zc (clsV X.mg C) (some d) oe → (∃ vs, oe.data = .fields vs) → DSs (X.suite a ((a, oe) :: pn)) ⟨W0, some (i, m, a, d)⟩ (b₀ :: suite) (ms C m)) :
    DS X ⟨W, none⟩ (.Try body [.ExceptHandler (some (.Name x np)) (some n) (b₀ :: suite) pos'] [] [] pos) (iTryAs tab i mb ms) := by
  have h1 := ps_try_as (X := X) (x := x) (n := n) (c := c) (i := i) (body := body) (suite := suite) (b₀ := b₀) (np := np) (pos := pos) (pos' := pos') (tb := fun W' => sM (kx X ⟨W', none⟩) W' mb)
    (ts := fun a cls d D σ H => ∃ C m dd, d = some dd ∧ cls = clsV X.mg C ∧ tab.lookup C = some true ∧ sM ⟨X.K, X.mg, some (i, m, a, dd)⟩ W0 (ms C m) D σ H) (Wout := W) hs hf hN hi hln hc tk
    (fun W' pn xe t po => hb W' pn xe t po) (fun a oe cls d pn hz hd => ⟨fun pins s σ H D I h => by
      obtain ⟨C, m, dd, rfl, rfl, ht, q⟩ := h
      exact (hsu C m a dd oe pn ht hz hd).run pins s σ H D I q⟩)
  refine h1.imp fun D σ H ⟨w, S, Λ, r0, s0, p⟩ => ⟨w, S, Λ, r0, s0, ?_⟩
  unfold iTryAs at p
  cases e : mb Λ S with
  | ok fl S' => rw [e] at p; exact p
  | bad => rw [e] at p; exact p
  | exc C m L S' =>
    rw [e] at p
    have p : Post (kx X ⟨W, none⟩) W w (match tab.lookup C with
      | some true => (noX (ms C m (L.set i none) S')).bind fun fl S2 => .ok (fl.gone i) S2
      | some false => .exc C m L S'
      | none => .bad) _ := p
    intro w' H' a' σ' l r s hr
    cases ht : tab.lookup C with
    | none => rw [ht] at p; exact p.elim
    | some b =>
      refine ⟨b, hT C b ht, fun hb => ?_, fun hb => ?_⟩
      · subst hb
        rw [ht] at p
        intro a ha
        refine ⟨C, m, a', rfl, rfl, ht, w', S', L.set i none, r.cx rfl rfl, sr_in hr s, ?_⟩
        have p : Post (kx X ⟨W, none⟩) W w ((noX (ms C m (L.set i none) S')).bind fun fl S2 => .ok (fl.gone i) S2) _ := p
        cases em : ms C m (L.set i none) S' with
        | ok fl S2 =>
          rw [em] at p
          intro w2 H2 l2 r2
          have p2 := p w2 H2 (l.trans l2) (r2.cx rfl rfl)
          cases fl with
          | nx L2 => exact fun σ2 s2 => p2 _ (sr_out (K := kx X ⟨W, none⟩) (K' := ⟨X.K, X.mg, some (i, m, a, a')⟩) i rfl rfl s2)
          | bk L2 => exact fun σ2 s2 => p2 _ (sr_out (K := kx X ⟨W, none⟩) (K' := ⟨X.K, X.mg, some (i, m, a, a')⟩) i rfl rfl s2)
          | ct L2 => exact fun σ2 s2 => p2 _ (sr_out (K := kx X ⟨W, none⟩) (K' := ⟨X.K, X.mg, some (i, m, a, a')⟩) i rfl rfl s2)
          | rt v => exact fun v' rv => p2 v' (Rel.cx (K := ⟨X.K, X.mg, some (i, m, a, a')⟩) (K' := kx X ⟨W, none⟩) rfl _ _ rv)
        | exc C2 m2 L2 S2 => rw [em] at p; exact p.elim
        | bad => rw [em] at p; exact p.elim
      · subst hb
        rw [ht] at p
        exact p w' H' a' σ' l r s hr
end
/-- e.f of the exception that is being handled -/
def iXf (i m : Nat) (f : Str) : IE := fun Λ S => match Λ[i]?, S[m]? with
  | some none, some (.xd fs) => (match fs.lookup f with
    | some v => .ok v S
    | none => .bad)
  | _, _ => .bad
theorem relKV_lookup {K : KX} {w : Wd} {f : Str} : ∀ {ps : List (Str × V)} {fs : List (Str × IV)} {iv : IV}, RelKV K w ps fs → fs.lookup f = some iv → ∃ v, ps.lookup f = some v ∧ Rel K w v iv
  | _, _, _, .nil, e => by cases e
  | (k, v) :: ps, (k', u) :: fs, iv, .cons ⟨h1, h2⟩ t, e => by
    have h1 : k = k' := h1
    subst h1
    unfold List.lookup at e ⊢
    cases hk : f == k with
    | true =>
      rw [hk] at e
      cases e
      exact ⟨v, rfl, h2⟩
    | false =>
      rw [hk] at e
      exact relKV_lookup t e
section
variable {X : Cx} {i m : Nat} {a d : Addr} {oe : Obj} {pn : List (Addr × Obj)} {n f C : Str} {p pos : Pos}
theorem de_xf (hz : Zc (clsV X.mg C) (some d) oe) (hf : ∃ vs, oe.data = .fields vs) (hC : ∃ Ca, X.mg C = some (.ref Ca) ∧ XfC X.K Ca ∧ PySem.W.findIn X.K (.ref Ca) f = some none)
    (hN : X.N[i]? = some n := by rfl) (hv : Vis X.env.scope n := by first | exact Or.inl rfl | exact Or.inr (Or.inl rfl) | exact Or.inr (Or.inr rfl)) (hd : (n == ("__debug__" : Str)) = false := by decide)
    (hcd : (n == ("__classdict__" : Str)) = false := by decide) (hb : attributeBase (.Name n p) f X.env (eval (.Name n p) X.env) = eval (.Name n p) X.env := by rfl) :
    DE (X.suite a ((a, oe) :: pn)) ⟨W0, some (i, m, a, d)⟩ (.Attribute (.Name n p) f pos) (iXf i m f) := by
  obtain ⟨Ca, hm, hxf, hno⟩ := hC
  have hcl : clsV X.mg C = .ref Ca := by unfold clsV; rw [hm]; rfl
  refine (pe_xf (X := X) (cls := clsV X.mg C) (d := some d) hxf hno hz hf (pe_var (X := X.suite a ((a, oe) :: pn)) hN hv hd hcd) hb).imp fun σ H Q ⟨w, S, Λ, r0, s0, p⟩ => ?_
  unfold iXf at p
  split at p
  · rename_i fs h1 h2
    obtain ⟨g1, g2⟩ := s0.ex i m a d rfl h1
    obtain ⟨ps, h3, h4⟩ := r0.cell m _ d h2 g2
    split at p
    · rename_i iv h5
      obtain ⟨v, h6, h7⟩ := relKV_lookup h4 h5
      exact ⟨.ref a, g1, rfl, hcl, d, ps, v, rfl, h3, h6, p.now r0 v h7⟩
    · exact p.elim
  · exact p.elim
end
end Sm

/-! instances of own classes: fields, methods, making -/
namespace Sm
open PySem PySem.Spec PyProof.Rows L2

/-- an instance of the class C in the store -/
def onI {α : Type} (S : Sto) (C : Str) (x : IV) (k : Nat → List (Str × IV) → Out α) : Out α := match x with
  | .adr n => (match S[n]? with
    | some (.ins D fs) => if D = C then k n fs else .bad
    | _ => .bad)
  | _ => .bad
theorem onI_s {α : Type} {S : Sto} {C : Str} {n : Nat} {fs : List (Str × IV)} {k : Nat → List (Str × IV) → Out α} (h : S[n]? = some (.ins C fs)) : onI S C (.adr n) k = k n fs := by
  unfold onI; simp only [h, if_pos]
theorem onI_post {α : Type} {K : KX} {W : WX} {w : Wd} {S : Sto} {H : Hp} {v : V} {x : IV} {C : Str} {k : Nat → List (Str × IV) → Out α} {P : Wd → Hp → Sto → α → Prop} (h : Post K W w (onI S C x k) P) (r : R K w S H) (rx : Rel K w v x) :
    ∃ n fs a Ca dx ps, S[n]? = some (.ins C fs) ∧ w.rho[n]? = some a ∧ v = .ref a ∧ K.mg C = some (.ref Ca) ∧ H a = some (.ins Ca dx ps) ∧ RelKV K w ps fs ∧ Post K W w (k n fs) P := by
  unfold onI at h
  split at h
  · cases rx with
    | adr hrho =>
      split at h
      · rename_i q
        split at h
        · rename_i hD
          subst hD
          obtain ⟨Ca, dx, ps, h0, h1, h2⟩ := r.cell _ _ _ q hrho
          exact ⟨_, _, _, Ca, dx, ps, q, hrho, rfl, h0, h1, h2, h⟩
        · exact h.elim
      · exact h.elim
  · exact h.elim
/-- what the text says of a class's field -/
def FC (K : PySem.W.Frag) (mg : Str → Option Value) (C f : Str) : Prop := ∃ Ca : Addr, mg C = some (.ref Ca) ∧ Cls K Ca ∧ NoAttr K Ca f
def putI (f : Str) (v : IV) : List (Str × IV) → List (Str × IV)
  | [] => [(f, v)]
  | (g, x) :: r => if g = f then (g, v) :: r else (g, x) :: putI f v r
theorem relKV_put {K : KX} {w : Wd} {f : Str} {y : V} {iv : IV} (ry : Rel K w y iv) : ∀ {ps : List (Str × V)} {fs : List (Str × IV)}, RelKV K w ps fs → RelKV K w (putF f y ps) (putI f iv fs)
  | _, _, .nil => .cons ⟨rfl, ry⟩ .nil
  | (g, v) :: ps, (g', u) :: fs, .cons ⟨h1, h2⟩ t => by
    have h1 : g = g' := h1
    subst h1
    unfold putF putI
    by_cases h : g = f
    · rw [if_pos h, if_pos h]; exact .cons ⟨rfl, ry⟩ t
    · rw [if_neg h, if_neg h]; exact .cons ⟨rfl, h2⟩ (relKV_put ry t)
theorem relKV_length {κ : Type} {K : KX} {w : Wd} : ∀ {ps : List (κ × V)} {fs : List (κ × IV)}, RelKV K w ps fs → ps.length = fs.length
  | _, _, .nil => rfl
  | _ :: _, _ :: _, .cons _ t => congrArg (· + 1) (relKV_length t)
theorem relKV_lookN {K : KX} {w : Wd} {f : Str} : ∀ {ps : List (Str × V)} {fs : List (Str × IV)}, RelKV K w ps fs → fs.lookup f = none → ps.lookup f = none
  | _, _, .nil, _ => rfl
  | (k, v) :: ps, (k', u) :: fs, .cons ⟨h1, h2⟩ t, e => by
    have h1 : k = k' := h1
    subst h1
    unfold List.lookup at e ⊢
    cases hk : f == k with
    | true => rw [hk] at e; cases e
    | false => rw [hk] at e; exact relKV_lookN t e
theorem RelKV.up {κ : Type} {K : KX} {w w' : Wd} {a : List (κ × V)} {b : List (κ × IV)} (h : RelKV K w a b) (l : w.le w') : RelKV K w' a b := h.mono l.1

/-! ### fields -/
def fFld (C f : Str) (x : IV) (S : Sto) : Out IV := onI S C x fun _ fs => orBad (fs.lookup f) fun v => .ok v S
def iSetF (C f : Str) (mo mv : IE) : IS := fun Λ S => (mv Λ S).bind fun y S1 => (mo Λ S1).bind fun x S2 => onI S2 C x fun n fs => chk (fs.length < 1000) (.ok (.nx Λ) (S2.set n (.ins C (putI f y fs))))
def iAugF (C f : Str) (mo mv : IE) : IS := fun Λ S => (mo Λ S).bind fun x S1 => onI S1 C x fun n fs => orBad (fs.lookup f) fun v => (mv Λ S1).bind fun y S2 => asI v fun i => asI y fun j => onI S2 C x fun m gs => chk (gs.length < 1000) (.ok (.nx Λ) (S2.set m (.ins C (putI f (.int (i + j)) gs))))
section
variable {X : Cx} {W : WZ} {e o value : Expr} {C f : Str} {pos pos' tpos : Pos} {m mo mv : IE}
theorem de_fld (c : FC X.K X.mg C f) (he : DE X W e m) (hb : attributeBase e f X.env (eval e X.env) = eval e X.env := by rfl) : DE X W (.Attribute e f pos) (iUn (fFld C f) m) := by
  obtain ⟨Ca, hm, hc, hn⟩ := c
  refine (pe_fld he hb).imp fun σ H Q ⟨w, S, Λ, r0, s0, p⟩ => ⟨w, S, Λ, r0, s0, p.bind.imp fun w1 H1 S1 ix l1 r1 p1 v1 rv1 => ?_⟩
  obtain ⟨n, fs, a, Cb, dx, ps, h1, h2, h3, h4, h5, h6, q⟩ := onI_post p1 r1 rv1
  obtain ⟨iv, h7, q⟩ := orBad_post q
  obtain ⟨v, h8, h9⟩ := relKV_lookup h6 h7
  have e4 := hm.symm.trans h4
  cases e4
  exact ⟨a, Ca, dx, ps, v, h3, h5, hc, hn, h8, q.now r1 v h9⟩
theorem ds_fld (c : FC X.K X.mg C f) (ho : DE X W o mo) (hv : DE X W value mv) (hs : swapsWith value (some (.Attribute o f pos')) pos.line X.env = pure false := by rfl) : DS X W (.Assign [.Attribute o f pos'] value pos) (iSetF C f mo mv) := by
  obtain ⟨Ca, hm, hc, hn⟩ := c
  refine (ps_fld ho hv hs).imp fun D σ H ⟨w, S, Λ, r0, s0, p⟩ => ⟨w, S, Λ, r0, s0, p.bind.imp fun w1 H1 S1 iy l1 r1 p1 y ry => ⟨w1, S1, Λ, r1, s0.up l1, p1.bind.imp fun w2 H2 S2 ix l2 r2 p2 v rv => ?_⟩⟩
  obtain ⟨n, fs, a, Cb, dx, ps, h1, h2, h3, h4, h5, h6, q⟩ := onI_post p2 r2 rv
  obtain ⟨hl, q⟩ := chk_post q
  have e4 := hm.symm.trans h4
  cases e4
  exact ⟨a, Ca, dx, ps, h3, h5, hc, hn, by rw [relKV_length h6]; exact hl, q.now (r2.write h2 ⟨Ca, dx, _, hm, upd_same, relKV_put (ry.up l2) h6⟩ (fun _ e => by rw [h1] at e; cases e)) σ ((s0.up l1).up l2)⟩
theorem ds_augf (c : FC X.K X.mg C f) (ho : DE X W o mo) (hv : DE X W value mv) : DS X W (.AugAssign (.Attribute o f tpos) .Add value pos) (iAugF C f mo mv) := by
  obtain ⟨Ca, hm, hc, hn⟩ := c
  refine (ps_fldaug ho hv in_add).imp fun D σ H ⟨w, S, Λ, r0, s0, p⟩ => ⟨w, S, Λ, r0, s0, p.bind.imp fun w1 H1 S1 ix l1 r1 p1 v rv => ?_⟩
  obtain ⟨n, fs, a, Cb, dx, ps, h1, h2, h3, h4, h5, h6, q⟩ := onI_post p1 r1 rv
  obtain ⟨iv, h7, q⟩ := orBad_post q
  obtain ⟨u, h8, h9⟩ := relKV_lookup h6 h7
  have e4 := hm.symm.trans h4
  cases e4
  refine ⟨a, Ca, dx, ps, u, h3, h5, hc, hn, h8, w1, S1, Λ, r1, s0.up l1, q.bind.imp fun w2 H2 S2 iy l2 r2 p2 y ry => ?_⟩
  obtain ⟨i, hi1, hi2, p2⟩ := asI_post p2 (h9.up l2)
  obtain ⟨j, hj1, hj2, p2⟩ := asI_post p2 ry
  refine ⟨i, j, hi2, hj2, ?_⟩
  obtain ⟨n', fs', a', Cb', dx', ps', g1, g2, g3, g4, g5, g6, q⟩ := onI_post p2 r2 (rv.up l2)
  obtain ⟨hl, q⟩ := chk_post q
  have e5 := hm.symm.trans g4
  cases e5
  rw [h3] at g3
  cases g3
  exact ⟨dx', ps', g5, by rw [relKV_length g6]; exact hl, q.now (r2.write g2 ⟨Ca, dx', _, hm, upd_same, relKV_put (.int (i + j)) g6⟩ (fun _ e => by rw [g1] at e; cases e)) σ ((s0.up l1).up l2)⟩
end

/-! ### methods -/
def MCal (P : Program) (w : World) (K : PySem.W.Frag) (mg : Str → Option Value) (base : Heap) (C m : Str) (k : Nat) (ps : List Str) (mf : List IV → Sto → Out IV) : Prop :=
  ∃ (Ca f : Addr) (fd : FuncData), mg C = some (.ref Ca) ∧ Cls K Ca ∧ Meth K Ca m f ∧ L2.Binds K fd ps [] ∧ FnG P w K mg base (L2.CX P w) k f fd ps (spM K mg ps.length mf)
def MLoc (K : PySem.W.Frag) (mg : Str → Option Value) (C m : Str) (qual : Str) (st : Stmt) (ps : List Str) : Prop := ∃ (Ca f : Addr) (fd : FuncData), mg C = some (.ref Ca) ∧ Cls K Ca ∧ Meth K Ca m f ∧ Fun K m qual st f fd ∧ L2.Binds K fd ps []
section
variable {P : Program} {w : World} {K : PySem.W.Frag} {mg : Str → Option Value} {base : Heap}
theorem mcal_def {C m qual : Str} {st : Stmt} {N ps : List Str} {k : Nat} {body : IS} (L : MLoc K mg C m qual st ps) (Sc : FnScope N ps (defScope st))
    (hb : ∀ (f : Addr) (cdv : Value) (A : Around) (outer : List Env) (s : Shared) (H : Hp) (E : XK), RmG k (A.deeper (envOfC qual (defScope st) s.heap.objs.size f cdv)) →
      Takes (DX P w K mg base N qual (defScope st) f cdv A outer s H E) (WEx E) → PassesOwn (model P w) (DX P w K mg base N qual (defScope st) f cdv A outer s H E).A (DX P w K mg base N qual (defScope st) f cdv A outer s H E).env (DX P w K mg base N qual (defScope st) f cdv A outer s H E).xe →
      DSs (DX P w K mg base N qual (defScope st) f cdv A outer s H E) ⟨WEx E, none⟩ (defBody st) body) : MCal P w K mg base C m (k + 1) ps (mDef N.length body) := by
  obtain ⟨Ca, f, fd, h1, h2, h3, h4, h5⟩ := L
  exact ⟨Ca, f, fd, h1, h2, h3, h5, ok_def h4 Sc (hb f)⟩
theorem MCal.eq {C x : Str} {k : Nat} {ps : List Str} {m m' : List IV → Sto → Out IV} (c : MCal P w K mg base C x k ps m) (h : ∀ xs S, xs.length = ps.length → m' xs S ≠ .bad → m xs S = m' xs S) : MCal P w K mg base C x k ps m' := by
  obtain ⟨Ca, f, fd, h1, h2, h3, h4, h5⟩ := c
  exact ⟨Ca, f, fd, h1, h2, h3, h4, ok_eq h5 h⟩
end
/-- o.m(..), o of class C -/
def iMeth (C m : Str) (np : Nat) (mf : List IV → Sto → Out IV) (mo : IE) (ma : IA) : IE := fun Λ S => (mo Λ S).bind fun x S1 => onI S1 C x fun _ fs => chk (fs.lookup m = none) ((ma Λ S1).bind fun xs S2 => chk (xs.length + 1 = np) (relab Λ (mf (x :: xs) S2)))
section
variable {X : Cx} {W : WX} {pos apos : Pos} {k : Nat} {ps : List Str} {mf : List IV → Sto → Out IV} {C m : Str} {o e : Expr} {es : List Expr} {mo : IE} {ma : IA}
theorem de_meth {np : Nat} {pl : Sem Bool} (c : MCal X.prog X.w X.K X.mg X.base C m k ps mf) (tk : Takes X W) (hr : RmG k X.A) (ho : DE X ⟨W, none⟩ o mo) (ha : DA X ⟨W, none⟩ (e :: es) ma) (hnp : ps.length = np := by rfl)
    (hst : starEach (e :: es) X.env = (false, eval e X.env) :: starEach es X.env := by rfl) (hpl : (backTo pos (starEach es X.env)).any (·.1) = false := by rfl)
    (ht : eval (.Call (.Attribute o m apos) (e :: es) [] pos) X.env = (do
      let ov ← eval o X.env
      standAt apos.atName
      let (f, first) ← holding [ov] (getMethod ov m pl)
      callWith pos f first (backTo pos (starEach (e :: es) X.env)) (backToKw pos (keywordEach [] X.env))) := by rfl) :
    DE X ⟨W, none⟩ (.Call (.Attribute o m apos) (e :: es) [] pos) (iMeth C m np mf mo ma) := by
  obtain ⟨Ca, f, fd, hm, hc, hM, hb, F⟩ := c
  subst hnp
  refine ⟨fun pins s σ H Q I h => ?_⟩
  obtain ⟨w, S, Λ, r0, s0, p0⟩ := h
  refine PySem.W.methodCall_KW (pl := pl) (thn (ho.run pins s σ H (fun v H1 => ∃ a dx fs, v = .ref a ∧ H1 a = some (.ins Ca dx fs) ∧ fs.lookup m = none ∧ aM (kx X ⟨W, none⟩) W ma σ H1 fun vs H2 => spM X.K X.mg ps.length mf (v :: vs) H2 Q (WE W σ)) I
    ⟨w, S, Λ, r0, s0, p0.bind.imp fun w1 H1 S1 ix l1 r1 p1 v rv => ?_⟩) fun u s1 ⟨x, H1, I1, rx, a, dx, fs, ex, ea, l, q⟩ => ?_) ht
  · obtain ⟨n, fs, a, Cb, dx, psf, h1, h2, h3, h4, h5, h6, q⟩ := onI_post p1 r1 rv
    obtain ⟨hl, q⟩ := chk_post q
    have e4 := hm.symm.trans h4
    cases e4
    refine ⟨a, dx, psf, h3, h5, relKV_lookN h6 hl, w1, S1, Λ, r1, s0.up l1, q.bind.imp fun w2 H2 S2 ivs l2 r2 p2 vs rvs => ?_⟩
    obtain ⟨hlen, q2⟩ := chk_post p2
    exact ⟨by rw [List.length_cons, rvs.length]; exact hlen, w2, S2, ix :: ivs, r2, .cons (rv.up l2) rvs, relab_post q2 ((s0.up l1).up l2)⟩
  · subst ex
    obtain rfl : u = Value.ref a := rx
    refine getmeth_ok I1 ea hc hM l ?_
    refine PySem.W.callWith_K (first := [.ref a]) (h₀ := X.base) I.ok.mod.kin hM.kp (thn (ha.run pos pins s1 σ H1 _ I1 q) fun us s2 ⟨vs, H2, I2, r, q2⟩ => ⟨I2.kIn, ?_⟩) hst hpl
    exact run_fnG (us := .ref a :: us) (vs := .ref a :: vs) F hr hb (passAt tk σ) I2 (.cons rfl r) q2
theorem de_meth0 {np : Nat} {pl : Sem Bool} (c : MCal X.prog X.w X.K X.mg X.base C m k ps mf) (tk : Takes X W) (hr : RmG k X.A) (ho : DE X ⟨W, none⟩ o mo) (hnp : ps.length = np := by rfl)
    (ht : eval (.Call (.Attribute o m apos) [] [] pos) X.env = (do
      let ov ← eval o X.env
      standAt apos.atName
      let (f, first) ← holding [ov] (getMethod ov m pl)
      callWith pos f first (backTo pos (starEach [] X.env)) (backToKw pos (keywordEach [] X.env))) := by rfl) :
    DE X ⟨W, none⟩ (.Call (.Attribute o m apos) [] [] pos) (iMeth C m np mf mo iNil) := by
  obtain ⟨Ca, f, fd, hm, hc, hM, hb, F⟩ := c
  subst hnp
  refine ⟨fun pins s σ H Q I h => ?_⟩
  obtain ⟨w, S, Λ, r0, s0, p0⟩ := h
  refine PySem.W.methodCall_KW (pl := pl) (thn (ho.run pins s σ H (fun v H1 => ∃ a dx fs, v = .ref a ∧ H1 a = some (.ins Ca dx fs) ∧ fs.lookup m = none ∧ spM X.K X.mg ps.length mf [v] H1 Q (WE W σ)) I
    ⟨w, S, Λ, r0, s0, p0.bind.imp fun w1 H1 S1 ix l1 r1 p1 v rv => ?_⟩) fun u s1 ⟨x, H1, I1, rx, a, dx, fs, ex, ea, l, q⟩ => ?_) ht
  · obtain ⟨n, fs, a, Cb, dx, psf, h1, h2, h3, h4, h5, h6, q⟩ := onI_post p1 r1 rv
    obtain ⟨hl, q⟩ := chk_post q
    have e4 := hm.symm.trans h4
    cases e4
    refine ⟨a, dx, psf, h3, h5, relKV_lookN h6 hl, ?_⟩
    have q : Post (kx X ⟨W, none⟩) W w1 (chk (([] : List IV).length + 1 = ps.length) (relab Λ (mf (ix :: []) S1))) _ := q
    obtain ⟨hlen, q2⟩ := chk_post q
    exact ⟨hlen, w1, S1, [ix], r1, .cons rv .nil, relab_post q2 (s0.up l1)⟩
  · subst ex
    obtain rfl : u = Value.ref a := rx
    refine getmeth_ok I1 ea hc hM l ?_
    exact PySem.W.callWith_K0 (first := [.ref a]) I1.kIn hM.kp (run_fnG (us := [.ref a]) (vs := [.ref a]) F hr hb (passAt tk σ) I1 (.cons rfl .nil) q)
end

/-! ### making -/
def KCal (P : Program) (w : World) (K : PySem.W.Frag) (mg : Str → Option Value) (base : Heap) (C : Str) (k : Nat) (ps : List Str) (mf : List IV → Sto → Out IV) : Prop :=
  ∃ (Ca f : Addr) (fd : FuncData), mg C = some (.ref Ca) ∧ Mk K Ca f ∧ L2.Binds K fd ps [] ∧ FnG P w K mg base (L2.CX P w) k f fd ps (spM K mg ps.length mf)
def KLoc (K : PySem.W.Frag) (mg : Str → Option Value) (C : Str) (qual : Str) (st : Stmt) (ps : List Str) : Prop := ∃ (Ca f : Addr) (fd : FuncData), mg C = some (.ref Ca) ∧ Mk K Ca f ∧ Fun K "__init__" qual st f fd ∧ L2.Binds K fd ps []
section
variable {P : Program} {w : World} {K : PySem.W.Frag} {mg : Str → Option Value} {base : Heap}
theorem kcal_def {C qual : Str} {st : Stmt} {N ps : List Str} {k : Nat} {body : IS} (L : KLoc K mg C qual st ps) (Sc : FnScope N ps (defScope st))
    (hb : ∀ (f : Addr) (cdv : Value) (A : Around) (outer : List Env) (s : Shared) (H : Hp) (E : XK), RmG k (A.deeper (envOfC qual (defScope st) s.heap.objs.size f cdv)) →
      Takes (DX P w K mg base N qual (defScope st) f cdv A outer s H E) (WEx E) → PassesOwn (model P w) (DX P w K mg base N qual (defScope st) f cdv A outer s H E).A (DX P w K mg base N qual (defScope st) f cdv A outer s H E).env (DX P w K mg base N qual (defScope st) f cdv A outer s H E).xe →
      DSs (DX P w K mg base N qual (defScope st) f cdv A outer s H E) ⟨WEx E, none⟩ (defBody st) body) : KCal P w K mg base C (k + 1) ps (mDef N.length body) := by
  obtain ⟨Ca, f, fd, h1, h2, h3, h4⟩ := L
  exact ⟨Ca, f, fd, h1, h2, h4, ok_def h3 Sc (hb f)⟩
theorem KCal.eq {C : Str} {k : Nat} {ps : List Str} {m m' : List IV → Sto → Out IV} (c : KCal P w K mg base C k ps m) (h : ∀ xs S, xs.length = ps.length → m' xs S ≠ .bad → m xs S = m' xs S) : KCal P w K mg base C k ps m' := by
  obtain ⟨Ca, f, fd, h1, h2, h3, h4⟩ := c
  exact ⟨Ca, f, fd, h1, h2, h3, ok_eq h4 h⟩
end
/-- C(..) -/
def iMake (C : Str) (np : Nat) (mf : List IV → Sto → Out IV) (ma : IA) : IE := fun Λ S => (ma Λ S).bind fun xs S1 => chk (xs.length + 1 = np) ((relab Λ (mf (.adr S1.length :: xs) (S1 ++ [.ins C []]))).bind fun v S2 => chk (isN v = true) (.ok (.adr S1.length) S2))
section
variable {X : Cx} {W : WX} {pos p : Pos} {k : Nat} {ps : List Str} {mf : List IV → Sto → Out IV} {C : Str} {e : Expr} {es : List Expr} {ma : IA}
theorem de_make {np : Nat} (c : KCal X.prog X.w X.K X.mg X.base C k ps mf) (tk : Takes X W) (hr : RmG (k + 1) X.A) (ha : DA X ⟨W, none⟩ (e :: es) ma) (hg : Gl X C := by rfl) (hnp : ps.length = np := by rfl) (hdb : (C == ("__debug__" : Str)) = false := by decide)
    (he : starEach (e :: es) X.env = (false, eval e X.env) :: starEach es X.env := by rfl) (hpl : (backTo pos (starEach es X.env)).any (·.1) = false := by rfl) :
    DE X ⟨W, none⟩ (.Call (.Name C p) (e :: es) [] pos) (iMake C np mf ma) := by
  obtain ⟨Ca, f, fd, hm, M, hb, F⟩ := c
  subst hnp
  refine ⟨fun pins s σ H Q I h => ?_⟩
  obtain ⟨w, S, Λ, r0, s0, p0⟩ := h
  refine wpAny_Call_Name_kw (ld_glob I hg hm ?_ hdb)
  have q0 := ha.run pos pins s σ H (fun vs H1 => ∀ x dx, H1 x = none → H1 dx = none → dx ≠ x → spM X.K X.mg ps.length mf (.ref x :: vs) (upd (upd H1 dx (.own x)) x (.ins Ca dx [])) (fun v H2 => v = .non ∧ Q (.ref x) H2) (WE W σ)) I
    ⟨w, S, Λ, r0, s0, p0.bind.imp fun w1 H1 S1 ivs l1 r1 p1 vs rvs => by
      intro x dx hx hdx hne
      obtain ⟨hlen, q⟩ := chk_post p1
      obtain ⟨l2, r2⟩ := r1.frz (o := .own x) hdx
      have hx2 : upd H1 dx (.own x) x = none := by rw [upd_ne (Ne.symm hne)]; exact hx
      obtain ⟨l3, r3⟩ := r2.alloc (p := x) (o := .ins Ca dx []) (c := .ins C []) hx2 fun w' l' => ⟨Ca, dx, [], hm, upd_same, .nil⟩
      have l13 := l2.trans l3
      have hrho : (w1.rho ++ [x])[S1.length]? = some x := by rw [← r1.len]; simp
      refine ⟨by rw [List.length_cons, rvs.length]; exact hlen, _, _, .adr S1.length :: ivs, r3, .cons (.adr hrho) (rvs.up l13), relab_post (?_ : Post (kx X ⟨W, none⟩) W _ (relab Λ (mf (.adr S1.length :: ivs) (S1 ++ [.ins C []]))) _) ((s0.up l1).up l13)⟩
      refine (q.up l13).bind.imp fun w4 H4 S4 iv l4 r4 p4 v rv => ?_
      obtain ⟨hn, p5⟩ := chk_post p4
      have hv : v = .non := by
        cases iv with
        | non => cases rv; rfl
        | _ => cases hn
      exact ⟨hv, p5.now r4 _ (.adr (l4.1.get hrho))⟩⟩
  refine PySem.W.callWith_K (h₀ := X.base) I.ok.mod.kin M.kp (thn q0 fun us s1 ⟨vs, H1, I1, r, q⟩ => ⟨I1.kIn, ?_⟩) he hpl
  -- the making
  have hq := q (s1.heap.objs.size + 1) s1.heap.objs.size (I1.hok.fresh (Nat.le_succ _)) (I1.hok.fresh (Nat.le_refl _)) (Nat.ne_of_lt (Nat.lt_succ_self _))
  have I2 := Inv.made (C := Ca) I1
  have r2 : Vals (V.ref (s1.heap.objs.size + 1) :: vs) (Value.ref (s1.heap.objs.size + 1) :: us) := .cons rfl r
  have hl : (Value.ref (s1.heap.objs.size + 1) :: us).length = ps.length := by
    have e := r2.length
    rw [F.len _ _ _ _ hq] at e
    exact e.symm
  have b := hb _ (Value.ref (s1.heap.objs.size + 1) :: us) I2.kIn (by rw [List.append_nil]; exact hl)
  rw [List.append_nil] at b
  refine wpAny_call (make_map (f := f) I1.kIn M.makes M.init (beq_iff_eq.mp M.fn) (codeAny_mono (F.run _ X.stack _ _ ⟨Value.ref (s1.heap.objs.size + 1) :: us, []⟩ (Value.ref (s1.heap.objs.size + 1) :: us) _ _ (WE W σ) (hr.make Ca us [])
    (I2.env0.make Ca us []) b r2 hq) fun r s' hq' => ?_))
  cases r with
  | error er => exact passAt tk σ pins _ _ er s' I2 hq'
  | ok fl =>
    cases fl with
    | ret u =>
      obtain ⟨v, H', I3, rv, ev, q3⟩ := I2.after hq'
      subst ev
      exact ⟨rv, ⟨V.ref (s1.heap.objs.size + 1), H', I3, rfl, q3⟩⟩
    | next => exact False.elim hq'
    | brk => exact False.elim hq'
    | cont => exact False.elim hq'
end
end Sm

/-! dicts, texts cut, f-strings, further statements -/
namespace Sm
open PySem PySem.Spec PyProof.Rows L2

/-! ### what is not told -/
def iBad {α : Type} : Slots → Sto → Out α := fun _ _ => .bad
section
variable {X : Cx} {W : WZ}
theorem de_bad {e : Expr} : DE X W e iBad := ⟨fun _ _ _ _ _ _ ⟨_, _, _, _, _, p⟩ => p.elim⟩
theorem ds_bad {e : Stmt} : DS X W e iBad := ⟨fun _ _ _ _ _ _ ⟨_, _, _, _, _, p⟩ => p.elim⟩
theorem dss_bad {e : List Stmt} : DSs X W e iBad := ⟨fun _ _ _ _ _ _ ⟨_, _, _, _, _, p⟩ => p.elim⟩
theorem dt_bad {e : Expr} : DT X W e iBad := ⟨fun _ _ _ _ _ _ ⟨_, _, _, _, _, p⟩ => p.elim⟩
end

/-! ### dicts -/
def keyI : IV → Option Key
  | .str s => some (.inr s)
  | .int i => some (.inl i)
  | _ => none
theorem keyI_rel {K : KX} {w : Wd} {v : V} {x : IV} {k : Key} (e : keyI x = some k) (r : Rel K w v x) : v = kV k := by
  cases x with
  | str s => cases e; cases r; rfl
  | int s => cases e; cases r; rfl
  | _ => cases e
def keyV : Key → IV
  | .inl i => .int i
  | .inr s => .str s
theorem keyV_rel {K : KX} {w : Wd} (k : Key) : Rel K w (kV k) (keyV k) := by
  cases k with
  | inl i => exact .int i
  | inr s => exact .str s
def valI (kvs : List (Key × IV)) (k : Key) : Option IV := (kvs.find? fun kv => decide (kv.1 = k)).map (·.2)
def putK' (kvs : List (Key × IV)) (k : Key) (v : IV) : List (Key × IV) :=
  if (kvs.any fun kv => decide (kv.1 = k)) = true then kvs.map (fun kv => if kv.1 = k then (kv.1, v) else kv) else kvs ++ [(k, v)]
theorem relKV_val {K : KX} {w : Wd} {k : Key} : ∀ {ps : List (Key × V)} {kvs : List (Key × IV)}, RelKV K w ps kvs → (valI kvs k = none ∧ valV ps k = none) ∨ ∃ iv v, valI kvs k = some iv ∧ valV ps k = some v ∧ Rel K w v iv
  | _, _, .nil => .inl ⟨rfl, rfl⟩
  | (a, v) :: ps, (a', u) :: kvs, .cons ⟨h1, h2⟩ t => by
    have h1 : a = a' := h1
    subst h1
    by_cases h : a = k
    · right
      refine ⟨u, v, ?_, ?_, h2⟩
      · simp [valI, List.find?_cons, h]
      · exact valV_pos h
    · have e1 : valI ((a, u) :: kvs) k = valI kvs k := by simp [valI, List.find?_cons, h]
      have e2 : valV ((a, v) :: ps) k = valV ps k := valV_neg h
      rw [e1, e2]
      exact relKV_val t
theorem relKV_any {K : KX} {w : Wd} {k : Key} : ∀ {ps : List (Key × V)} {kvs : List (Key × IV)}, RelKV K w ps kvs → (ps.any fun kv => decide (kv.1 = k)) = (kvs.any fun kv => decide (kv.1 = k))
  | _, _, .nil => rfl
  | (a, v) :: ps, (a', u) :: kvs, .cons ⟨h1, h2⟩ t => by
    have h1 : a = a' := h1
    subst h1
    rw [List.any_cons, List.any_cons, relKV_any t]
theorem relKV_map {K : KX} {w : Wd} {k : Key} {y : V} {iv : IV} (ry : Rel K w y iv) : ∀ {ps : List (Key × V)} {kvs : List (Key × IV)}, RelKV K w ps kvs → RelKV K w (ps.map fun kv => if kv.1 = k then (kv.1, y) else kv) (kvs.map fun kv => if kv.1 = k then (kv.1, iv) else kv)
  | _, _, .nil => .nil
  | (a, v) :: ps, (a', u) :: kvs, .cons ⟨h1, h2⟩ t => by
    have h1 : a = a' := h1
    subst h1
    refine .cons ?_ (relKV_map ry t)
    by_cases h : a = k
    · simp only [if_pos h]; exact ⟨trivial, ry⟩
    · simp only [if_neg h]; exact ⟨trivial, h2⟩
theorem relKV_append {κ : Type} {K : KX} {w : Wd} : ∀ {ps qs : List (κ × V)} {kvs ls : List (κ × IV)}, RelKV K w ps kvs → RelKV K w qs ls → RelKV K w (ps ++ qs) (kvs ++ ls)
  | _, _, _, _, .nil, s => s
  | _, _, _, _, .cons h t, s => .cons h (relKV_append t s)
theorem relKV_putK {K : KX} {w : Wd} {k : Key} {y : V} {iv : IV} (ry : Rel K w y iv) {ps : List (Key × V)} {kvs : List (Key × IV)} (r : RelKV K w ps kvs) : RelKV K w (putK ps k y) (putK' kvs k iv) := by
  unfold putK putK'
  rw [relKV_any r]
  split
  · exact relKV_map ry r
  · exact relKV_append r (.cons ⟨rfl, ry⟩ .nil)
/-- a dict in the store, to be read -/
def onD {α : Type} (S : Sto) (x : IV) (k : Nat → List (Key × IV) → Out α) : Out α := match x with
  | .adr n => (match S[n]? with
    | some (.dic kvs) => k n kvs
    | some (.dicL kvs) => k n kvs
    | _ => .bad)
  | _ => .bad
theorem onD_s {α : Type} {S : Sto} {n : Nat} {kvs : List (Key × IV)} {k : Nat → List (Key × IV) → Out α} (h : S[n]? = some (.dic kvs)) : onD S (.adr n) k = k n kvs := by
  unfold onD; simp only [h]
theorem onD_l {α : Type} {S : Sto} {n : Nat} {kvs : List (Key × IV)} {k : Nat → List (Key × IV) → Out α} (h : S[n]? = some (.dicL kvs)) : onD S (.adr n) k = k n kvs := by
  unfold onD; simp only [h]
theorem onD_post {α : Type} {K : KX} {W : WX} {w : Wd} {S : Sto} {H : Hp} {v : V} {x : IV} {k : Nat → List (Key × IV) → Out α} {P : Wd → Hp → Sto → α → Prop} (h : Post K W w (onD S x k) P) (r : R K w S H) (rx : Rel K w v x) :
    ∃ n kvs a ps, v = .ref a ∧ Rd H a (.dK ps) ∧ RelKV K w ps kvs ∧ Post K W w (k n kvs) P := by
  unfold onD at h
  split at h
  · cases rx with
    | adr hrho =>
      split at h
      · rename_i q
        obtain ⟨ps, h1, h2⟩ := r.cell _ _ _ q hrho
        exact ⟨_, _, _, ps, rfl, .inl h1, h2, h⟩
      · rename_i q
        obtain ⟨o, ps, h0, h1, h2⟩ := r.cell _ _ _ q hrho
        exact ⟨_, _, _, ps, rfl, .inr ⟨o, h1⟩, h2, h⟩
      · exact h.elim
  · exact h.elim
/-- .., to be written -/
def onDw {α : Type} (S : Sto) (x : IV) (k : Nat → List (Key × IV) → Out α) : Out α := match x with
  | .adr n => (match S[n]? with
    | some (.dic kvs) => k n kvs
    | _ => .bad)
  | _ => .bad
theorem onDw_s {α : Type} {S : Sto} {n : Nat} {kvs : List (Key × IV)} {k : Nat → List (Key × IV) → Out α} (h : S[n]? = some (.dic kvs)) : onDw S (.adr n) k = k n kvs := by
  unfold onDw; simp only [h]
theorem onDw_post {α : Type} {K : KX} {W : WX} {w : Wd} {S : Sto} {H : Hp} {v : V} {x : IV} {k : Nat → List (Key × IV) → Out α} {P : Wd → Hp → Sto → α → Prop} (h : Post K W w (onDw S x k) P) (r : R K w S H) (rx : Rel K w v x) :
    ∃ n kvs a ps, S[n]? = some (.dic kvs) ∧ w.rho[n]? = some a ∧ v = .ref a ∧ H a = some (.dK ps) ∧ RelKV K w ps kvs ∧ Post K W w (k n kvs) P := by
  unfold onDw at h
  split at h
  · cases rx with
    | adr hrho =>
      split at h
      · rename_i q
        obtain ⟨ps, h1, h2⟩ := r.cell _ _ _ q hrho
        exact ⟨_, _, _, ps, q, hrho, rfl, h1, h2, h⟩
      · exact h.elim
  · exact h.elim
def fDGet (x y : IV) (S : Sto) : Out IV := onD S x fun _ kvs => orBad (keyI y) fun k => orBad (valI kvs k) fun v => .ok v S
def fDIn (y x : IV) (S : Sto) : Out IV := onD S x fun _ kvs => orBad (keyI y) fun k => .ok (.bl (valI kvs k).isSome) S
def fDNotIn (y x : IV) (S : Sto) : Out IV := onD S x fun _ kvs => orBad (keyI y) fun k => .ok (.bl (!(valI kvs k).isSome)) S
def iDNew : IE := fun _ S => .ok (.adr S.length) (S ++ [.dic []])
def iDPut (md my mv : IE) : IS := fun Λ S => (mv Λ S).bind fun v S1 => (md Λ S1).bind fun x S2 => (my Λ S2).bind fun y S3 => onDw S3 x fun n kvs => orBad (keyI y) fun k => chk (kvs.length < sizeLine) (.ok (.nx Λ) (S3.set n (.dic (putK' kvs k v))))
section
variable {X : Cx} {W : WZ} {o i e value : Expr} {pos pos' : Pos} {mo mi me mv : IE}
theorem de_dget (hu : X.A.units + 1 < cLine) (ho : DE X W o mo) (hi : DE X W i mi) (hs : NoSl i := by exact fun _ _ => rfl) : DE X W (.Subscript o i pos) (iBin fDGet mo mi) :=
  (pe_dget hu ho hi hs).imp fun σ H Q ⟨w, S, Λ, r0, s0, p⟩ => ⟨w, S, Λ, r0, s0, p.bind.imp fun w1 H1 S1 ix l1 r1 p1 v1 rv1 => ⟨w1, S1, Λ, r1, s0.up l1, p1.bind.imp fun w2 H2 S2 iy l2 r2 p2 v2 rv2 => by
    obtain ⟨n, kvs, a, ps, e1, h1, h2, q⟩ := onD_post p2 r2 (rv1.up l2)
    obtain ⟨k, hk, q⟩ := orBad_post q
    obtain ⟨iv, hv, q⟩ := orBad_post q
    rcases relKV_val (k := k) h2 with ⟨z, _⟩ | ⟨iv', v, z1, z2, z3⟩
    · rw [z] at hv; cases hv
    · rw [z1] at hv
      cases hv
      exact ⟨a, v, e1, .inl ⟨ps, k, h1, keyI_rel hk rv2, z2.symm⟩, q.now r2 v z3⟩⟩⟩
theorem de_din (hu : X.A.units + 1 < cLine) (hi : DE X W i mi) (ho : DE X W o mo) (hb : behindInMarks .In o = false := by rfl) : DE X W (.Compare i [.In] [o] pos) (iBin fDIn mi mo) :=
  (pe_cmp (pc_din hu hi ho) hb).imp fun σ H Q ⟨w, S, Λ, r0, s0, p⟩ => ⟨w, S, Λ, r0, s0, p.bind.imp fun w1 H1 S1 iy l1 r1 p1 v1 rv1 => ⟨w1, S1, Λ, r1, s0.up l1, p1.bind.imp fun w2 H2 S2 ix l2 r2 p2 v2 rv2 => by
    obtain ⟨n, kvs, a, ps, e1, h1, h2, q⟩ := onD_post p2 r2 rv2
    obtain ⟨k, hk, q⟩ := orBad_post q
    rcases relKV_val (k := k) h2 with ⟨z, z'⟩ | ⟨iv', v, z1, z2, z3⟩
    · rw [z] at q
      exact ⟨a, none, e1, .inl ⟨ps, k, h1, keyI_rel hk (rv1.up l2), z'.symm⟩, q.now r2 _ (.bl _)⟩
    · rw [z1] at q
      exact ⟨a, some v, e1, .inl ⟨ps, k, h1, keyI_rel hk (rv1.up l2), z2.symm⟩, q.now r2 _ (.bl _)⟩⟩⟩
theorem de_dnotin (hu : X.A.units + 1 < cLine) (hi : DE X W i mi) (ho : DE X W o mo) (hb : behindInMarks .NotIn o = false := by rfl) : DE X W (.Compare i [.NotIn] [o] pos) (iBin fDNotIn mi mo) :=
  (pe_cmp (pc_dnotin hu hi ho) hb).imp fun σ H Q ⟨w, S, Λ, r0, s0, p⟩ => ⟨w, S, Λ, r0, s0, p.bind.imp fun w1 H1 S1 iy l1 r1 p1 v1 rv1 => ⟨w1, S1, Λ, r1, s0.up l1, p1.bind.imp fun w2 H2 S2 ix l2 r2 p2 v2 rv2 => by
    obtain ⟨n, kvs, a, ps, e1, h1, h2, q⟩ := onD_post p2 r2 rv2
    obtain ⟨k, hk, q⟩ := orBad_post q
    rcases relKV_val (k := k) h2 with ⟨z, z'⟩ | ⟨iv', v, z1, z2, z3⟩
    · rw [z] at q
      exact ⟨a, none, e1, .inl ⟨ps, k, h1, keyI_rel hk (rv1.up l2), z'.symm⟩, q.now r2 _ (.bl _)⟩
    · rw [z1] at q
      exact ⟨a, some v, e1, .inl ⟨ps, k, h1, keyI_rel hk (rv1.up l2), z2.symm⟩, q.now r2 _ (.bl _)⟩⟩⟩
theorem dt_of (m : IE) (h : DE X W e m) (hq : ∀ whole, isTrue e X.env whole = (do let v ← whole; standAt e.pos; holding [v] (truthy v)) := by intro _; rfl) : DT X W e (iTru m) := dt_tru h hq
theorem de_dnew : DE X W (.Dict [] [] pos) iDNew := pe_dnewK.imp fun σ H Q ⟨w, S, Λ, r0, s0, p⟩ => fun d hd => by
  obtain ⟨l, r'⟩ := r0.alloc (c := .dic []) (o := .dK []) hd fun w' l => ⟨[], upd_same, .nil⟩
  refine Post.ok (a := IV.adr S.length) (S := S ++ [Cell.dic []]) p l r' _ (.adr ?_)
  show (w.rho ++ [d])[S.length]? = some d
  rw [← r0.len, List.getElem?_append_right (Nat.le_refl _), Nat.sub_self]
  rfl
theorem ds_dput (hu : X.A.units + 1 < cLine) (ho : DE X W o mo) (hi : DE X W i mi) (hv : DE X W value mv) (hs : swapsWith value (some (.Subscript o i pos')) pos.line X.env = pure false := by rfl) : DS X W (.Assign [.Subscript o i pos'] value pos) (iDPut mo mi mv) :=
  (ps_dput hu ho hi hv hs).imp fun D σ H ⟨w, S, Λ, r0, s0, p⟩ => ⟨w, S, Λ, r0, s0, p.bind.imp fun w1 H1 S1 iy l1 r1 p1 y ry => ⟨w1, S1, Λ, r1, s0.up l1, p1.bind.imp fun w2 H2 S2 ix l2 r2 p2 x rx => ⟨w2, S2, Λ, r2, (s0.up l1).up l2, p2.bind.imp fun w3 H3 S3 ik l3 r3 p3 kk rk => by
    obtain ⟨n, kvs, a, ps, h1, h2, e1, h3, h4, q⟩ := onDw_post p3 r3 (rx.up l3)
    obtain ⟨k, hk, q⟩ := orBad_post q
    obtain ⟨hl, q⟩ := chk_post q
    exact ⟨a, _, e1, .inl ⟨ps, k, h3, keyI_rel hk rk, by rw [relKV_length h4]; exact hl, rfl⟩, q.now (r3.write h2 ⟨_, upd_same, relKV_putK (ry.up (l2.trans l3)) h4⟩ (fun _ e => by rw [h1] at e; cases e)) σ (((s0.up l1).up l2).up l3)⟩⟩⟩⟩
end

/-! ### for k in d -/
def unlD (n : Nat) (kvs : List (Key × IV)) : Out Fl → Out Fl
  | .ok fl S => (match S[n]? with
    | some (.dicL _) => .ok fl (S.set n (.dic kvs))
    | _ => .bad)
  | _ => .bad
noncomputable def iForD (md : IE) (g : IG) (b : IS) : IS := fun Λ S => match md Λ S with
  | .ok (.adr n) _ => (match S[n]? with
    | some (.dic kvs) => (match md Λ (S.set n (.dicL kvs)) with
      | .ok (.adr m) S1 => if m = n then unlD n kvs (iIter ⟨kvs.map fun kv => keyV kv.1, none⟩ g b (kvs.map fun kv => keyV kv.1) Λ S1) else .bad
      | _ => .bad)
    | _ => .bad)
  | _ => .bad
theorem relKV_get {κ : Type} {K : KX} {w : Wd} : ∀ {ps : List (κ × V)} {kvs : List (κ × IV)} {i : Nat}, RelKV K w ps kvs → (kvs[i]?).map (·.1) = (ps[i]?).map (·.1)
  | _, _, _, .nil => rfl
  | (a, v) :: ps, (a', u) :: kvs, 0, .cons ⟨h1, h2⟩ t => by
    have h1 : a = a' := h1
    subst h1
    rfl
  | (a, v) :: ps, (a', u) :: kvs, i + 1, .cons _ t => relKV_get (i := i) t
section
variable {X : Cx} {W : WZ} {pos : Pos} {tg iter : Expr} {body : List Stmt} {md : IE} {g : IG} {b : IS}
theorem ds_forD (hp : PassesOwn (model X.prog X.w) X.A X.env X.xe) (hc : X.calm = true) (hi : DE X W iter md) (hg : DG X W tg g) (hb : DSs X W body b) (hs : ∀ x, foldedSetIterable iter X.env x = pure x := by intro _; rfl) : DS X W (.For tg iter body [] pos) (iForD md g b) := by
  refine (ps_lock (ps_for hp hc (pi_keys hi) hg hb hs)).imp fun D σ H ⟨w, S, Λ, r0, s0, p⟩ => ?_
  unfold iForD at p
  cases e0 : md Λ S with
  | exc C k L S' => rw [e0] at p; exact p.elim
  | bad => rw [e0] at p; exact p.elim
  | ok x S' =>
    rw [e0] at p
    cases x with
    | adr n =>
      cases e1 : S[n]? with
      | none => simp only [e1] at p; exact p.elim
      | some c =>
        cases c with
        | dic kvs =>
          simp only [e1] at p
          obtain ⟨a, ha⟩ := r0.addr e1
          obtain ⟨ps, h1, h2⟩ := r0.cell _ _ _ e1 ha
          refine ⟨a, _, h1, True.intro, fun od => ?_⟩
          have rL := r0.lock (o := od) ha e1 h1 h2
          have l0 : Wd.lr w ⟨w.rho, w.F, upd w.G a (.frz od (.dK ps))⟩ := ⟨⟨[], by simp⟩, Same.refl _⟩
          have hG : w.G a = none := by
            rcases (r0.own n a ha).2 with z | ⟨k, z⟩
            · exact z
            · rw [e1] at z; cases z
          refine ⟨⟨w.rho, w.F, upd w.G a (.frz od (.dK ps))⟩, _, Λ, rL, s0.mono l0, ?_⟩
          cases e2 : md Λ (S.set n (.dicL kvs)) with
          | exc C k L S' => rw [e2] at p; exact p.elim
          | bad => rw [e2] at p; exact p.elim
          | ok x S1 =>
            rw [e2] at p
            cases x with
            | adr m =>
              by_cases hm : m = n
              · subst hm
                have p : Post (kx X W) W.x w (if m = m then unlD m kvs (iIter ⟨kvs.map fun kv => keyV kv.1, none⟩ g b (kvs.map fun kv => keyV kv.1) Λ S1) else .bad) _ := p
                rw [if_pos rfl] at p
                intro w1 H1 l1 r1 v rv
                have ha1 : w1.rho[m]? = some a := l1.1.get (w := ⟨w.rho, w.F, upd w.G a (.frz od (.dK ps))⟩) ha
                have hv : v = .ref a := by
                  cases rv with
                  | adr h => rw [ha1] at h; cases h; rfl
                have hG1 : w1.G = upd w.G a (.frz od (.dK ps)) := l1.G
                have gz : ∀ (w' : Wd) (S' : Sto) (H' : Hp), w1.lz w' → R (kx X W) w' S' H' → H' a = some (.frz od (.dK ps)) := fun w' S' H' l' r' => r'.G _ _ (l'.fz _ _ _ (by rw [hG1]; exact upd_same))
                refine ⟨a, od, hv, .inl ⟨ps, gz w1 S1 H1 (Wd.le.refl w1).lz r1, ?_⟩⟩
                have hJ : ItR (kx X W) w1 (Itk a od ps) ⟨kvs.map fun kv => keyV kv.1, none⟩ := by
                  have hlen := relKV_length h2
                  refine ⟨fun w' S' H' i l r' st hi => ⟨gz w' S' H' l r', ?_⟩, fun w' S' H' i l r' st hi => ⟨gz w' S' H' l r', ?_⟩, fun w' S' H' i iv x H2 l r' st hi hy => ?_⟩
                  · have hi : i < (kvs.map fun kv => keyV kv.1).length := hi
                    rw [List.length_map] at hi
                    omega
                  · have hi : (kvs.map fun kv => keyV kv.1).length ≤ i := hi
                    rw [List.length_map] at hi
                    omega
                  · obtain ⟨f1, k, u, f2, f3⟩ := hy
                    subst f1 f3
                    have hi : (kvs.map fun kv => keyV kv.1)[i]? = some iv := hi
                    rw [List.getElem?_map] at hi
                    have := relKV_get (i := i) h2
                    rw [f2] at this
                    cases hk : kvs[i]? with
                    | none => rw [hk] at this; cases this
                    | some q =>
                      rw [hk] at this hi
                      have : q.1 = k := Option.some.inj this
                      have hi : keyV q.1 = iv := Option.some.inj hi
                      rw [← hi, this]
                      exact ⟨w', Wd.le.refl _, r', keyV_rel k⟩
                have sw : SR (kx X W) w1 σ Λ := (s0.mono l0).up l1
                refine for_loop (D := ⟨fun σ' H' => H' a = some (.frz od (.dK ps)) ∧ D.nx σ' (upd H' a (.dK ps)), fun v H' => H' a = some (.frz od (.dK ps)) ∧ D.rt v (upd H' a (.dK ps)), fun σ' H' => H' a = some (.frz od (.dK ps)) ∧ D.bk σ' (upd H' a (.dK ps)), fun σ' H' => H' a = some (.frz od (.dK ps)) ∧ D.ct σ' (upd H' a (.dK ps))⟩) hJ r1 sw ?_
                show Post (kx X W) W.x w1 (iIter _ g b (kvs.map fun kv => keyV kv.1) Λ S1) _
                cases e3 : iIter ⟨kvs.map fun kv => keyV kv.1, none⟩ g b (kvs.map fun kv => keyV kv.1) Λ S1 with
                | exc C k L S' => rw [e3] at p; exact p.elim
                | bad => rw [e3] at p; exact p.elim
                | ok fl S2 =>
                  rw [e3] at p
                  have p : Post (kx X W) W.x w (match S2[m]? with
                    | some (.dicL _) => .ok fl (S2.set m (.dic kvs))
                    | _ => .bad) _ := p
                  cases e4 : S2[m]? with
                  | none => rw [e4] at p; exact p.elim
                  | some c2 =>
                    rw [e4] at p
                    cases c2 with
                    | dicL kvs2 =>
                      intro w2 H2 l2 r2
                      have p : Post (kx X W) W.x w (.ok fl (S2.set m (.dic kvs))) _ := p
                      obtain ⟨rho2, F2, G2⟩ := w2
                      have hG2 : G2 = upd w.G a (.frz od (.dK ps)) := l2.G.trans hG1
                      subst hG2
                      have ha2 : rho2[m]? = some a := l2.1.get ha1
                      have l02 : w.le ⟨rho2, F2, w.G⟩ := ⟨⟨(l0.trans (l1.1.trans l2.1)).rho, (l0.trans (l1.1.trans l2.1)).F⟩, rfl⟩
                      obtain ⟨g1, g2⟩ := r2.unlockK (kvs := kvs) ha2 e4 hG (h2.up l02)
                      have q := p _ _ l02 g2
                      have cv : Wd.lr ⟨rho2, F2, upd w.G a (.frz od (.dK ps))⟩ ⟨rho2, F2, w.G⟩ := ⟨⟨[], by simp⟩, Same.refl _⟩
                      cases fl with
                      | nx L => exact fun σ2 s2 => ⟨g1, q σ2 (s2.mono cv)⟩
                      | bk L => exact fun σ2 s2 => ⟨g1, q σ2 (s2.mono cv)⟩
                      | ct L => exact fun σ2 s2 => ⟨g1, q σ2 (s2.mono cv)⟩
                      | rt v => exact fun v' rv' => ⟨g1, q v' (Rel.mono cv _ _ rv')⟩
                    | _ => exact p.elim
              · have p : Post (kx X W) W.x w (if m = n then unlD n kvs (iIter ⟨kvs.map fun kv => keyV kv.1, none⟩ g b (kvs.map fun kv => keyV kv.1) Λ S1) else .bad) _ := p
                rw [if_neg hm] at p; exact p.elim
            | _ => exact p.elim
        | _ => simp only [e1] at p; exact p.elim
    | _ => exact p.elim
end
end Sm

/-! texts cut, lists shortened, f-strings, two targets, class constants, isinstance of what is handled -/
namespace Sm
open PySem PySem.Spec PyProof.Rows L2

/-! ### tuple(x) -/
def fTuple (xs : List IV) (S : Sto) : Out IV := a1 xs fun x => match x with
  | .tup ys => .ok (.tup ys) S
  | x => orBad (lstX S x) fun ys => mkT ys S
theorem cs_tuple {K : KX} {W : WX} : CaS K W (fun xs H Q => ∃ p ys, xs = [.ref p] ∧ ((SqL K.k H p ys ∧ ∀ l, H l = none → Q (.ref l) (upd H l (.tup ys))) ∨ (SqT K.k H p ys ∧ Q (.ref p) H))) fTuple := fun w S H xs ix Q r rx p => by
  obtain ⟨v, x, rfl, rfl, rv, p⟩ := a1_post p rx
  split at p
  · cases rv with
    | tup h1 h2 => exact ⟨_, _, rfl, .inr ⟨same_t r.F h1, p.now r _ (.tup h1 h2)⟩⟩
  · obtain ⟨ys, e, p⟩ := orBad_post p
    obtain ⟨a, vs, rfl, h1, h2⟩ := lstX_sq e r rv
    exact ⟨a, vs, rfl, .inl ⟨.of h1, (mkT_post p r h2).2⟩⟩
/-! ### texts -/
def fPart (o : IV) (xs : List IV) (S : Sto) : Out IV := asS o fun a => a1 xs fun y => asS y fun b => chk ((b.length == 0) = false ∧ a.length ≤ sizeLine) (.ok (.tup [.str (PySem.Txt.partition a b).1, .str (PySem.Txt.partition a b).2.1, .str (PySem.Txt.partition a b).2.2]) S)
theorem ms_part {K : KX} {W : WX} : MtS K W (fun x xs H Q => ∃ a b, x = .str a ∧ xs = [.str b] ∧ (b.length == 0) = false ∧ a.length ≤ sizeLine ∧
    ∀ p, H p = none → Q (.ref p) (upd H p (.tup [.str (Txt.partition a b).1, .str (Txt.partition a b).2.1, .str (Txt.partition a b).2.2]))) fPart := fun w S H x xs io ix Q r ro rx p => by
  obtain ⟨a, rfl, rfl, p⟩ := asS_post p ro
  obtain ⟨v, y, rfl, rfl, rv, p⟩ := a1_post p rx
  obtain ⟨b, rfl, rfl, p⟩ := asS_post p rv
  obtain ⟨c, p⟩ := chk_post p
  refine ⟨a, b, rfl, rfl, c.1, c.2, fun q hq => ?_⟩
  obtain ⟨l, r'⟩ := r.frz (o := .tup [.str (Txt.partition a b).1, .str (Txt.partition a b).2.1, .str (Txt.partition a b).2.2]) hq
  exact p.ok l r' _ (.tup (.of upd_same) (.cons (.str _) (.cons (.str _) (.cons (.str _) .nil))))
def fStarts (o : IV) (xs : List IV) (S : Sto) : Out IV := asS o fun a => a1 xs fun y => asS y fun b => .ok (.bl (Txt.startswith a b)) S
theorem ms_startsw {K : KX} {W : WX} : MtS K W (fun x xs H Q => ∃ a b, x = .str a ∧ xs = [.str b] ∧ Q (.bl (Txt.startswith a b)) H) fStarts := fun w S H x xs io ix Q r ro rx p => by
  obtain ⟨a, rfl, rfl, p⟩ := asS_post p ro
  obtain ⟨v, y, rfl, rfl, rv, p⟩ := a1_post p rx
  obtain ⟨b, rfl, rfl, p⟩ := asS_post p rv
  exact ⟨a, b, rfl, rfl, p.now r _ (.bl _)⟩
def fEnds (o : IV) (xs : List IV) (S : Sto) : Out IV := asS o fun a => a1 xs fun y => asS y fun b => .ok (.bl (Txt.endswith a b)) S
theorem ms_endsw {K : KX} {W : WX} : MtS K W (fun x xs H Q => ∃ a b, x = .str a ∧ xs = [.str b] ∧ Q (.bl (Txt.endswith a b)) H) fEnds := fun w S H x xs io ix Q r ro rx p => by
  obtain ⟨a, rfl, rfl, p⟩ := asS_post p ro
  obtain ⟨v, y, rfl, rfl, rv, p⟩ := a1_post p rx
  obtain ⟨b, rfl, rfl, p⟩ := asS_post p rv
  exact ⟨a, b, rfl, rfl, p.now r _ (.bl _)⟩
theorem relL_strs {K : KX} {w : Wd} : ∀ zs : List Str, RelL K w (zs.map V.str) (zs.map IV.str)
  | [] => .nil
  | z :: zs => .cons (.str z) (relL_strs zs)
def fSplit (cell : Bool) (o : IV) (xs : List IV) (S : Sto) : Out IV := asS o fun a => a1 xs fun y => asS y fun b => chk ((b.length == 0) = false ∧ a.length + 2 ≤ sizeLine) (mkL cell ((Txt.split a b).map IV.str) S)
theorem ms_split {K : KX} {W : WX} (cell : Bool) : MtS K W (fun x xs H Q => ∃ a b, x = .str a ∧ xs = [.str b] ∧ (b.length == 0) = false ∧ a.length + 2 ≤ sizeLine ∧ rNewStrs (Txt.split a b) H Q) (fSplit cell) := fun w S H x xs io ix Q r ro rx p => by
  obtain ⟨a, rfl, rfl, p⟩ := asS_post p ro
  obtain ⟨v, y, rfl, rfl, rv, p⟩ := a1_post p rx
  obtain ⟨b, rfl, rfl, p⟩ := asS_post p rv
  obtain ⟨c, p⟩ := chk_post p
  exact ⟨a, b, rfl, rfl, c.1, c.2, (mkL_post p r (relL_strs _)).2⟩
/-! ### xs.pop(), xs.pop(i) -/
def fPop (o : IV) (xs : List IV) (S : Sto) : Out IV := match xs with
  | [] => onL S o fun n ys => orBad (ys[ys.length - 1]?) fun y => .ok y (S.set n (.lst ys.dropLast))
  | _ => .bad
theorem relL_dropLast {K : KX} {w : Wd} {xs : List V} {us : List IV} (r : RelL K w xs us) : RelL K w xs.dropLast us.dropLast := by
  rw [List.dropLast_eq_take, List.dropLast_eq_take, r.length]
  exact r.take _
theorem ms_pop {K : KX} {W : WX} : MtS K W rPop fPop := fun w S H x xs io ix Q r ro rx p => by
  unfold fPop at p
  cases rx with
  | nil =>
    obtain ⟨n, ys, a, vs, h1, h2, rfl, h3, h4, p⟩ := onL_post p r ro
    obtain ⟨y, e, p⟩ := orBad_post p
    obtain ⟨v, h5, h6⟩ := h4.get e
    exact ⟨a, vs, v, rfl, rfl, h3, by rw [h4.length]; exact h5, p.now (r.write h2 ⟨_, upd_same, relL_dropLast h4⟩ (fun _ e => by rw [h1] at e; cases e)) v h6⟩
  | cons a b => exact p.elim
def fPopAt (o : IV) (xs : List IV) (S : Sto) : Out IV := a1 xs fun y => asI y fun i => onL S o fun n ys => chk (ys.length < 2 ^ 62) (orBad (ixN ys.length i) fun j => orBad (ys[j]?) fun v => .ok v (S.set n (.lst (ys.eraseIdx j))))
theorem ms_popAt {K : KX} {W : WX} : MtS K W rPopAt fPopAt := fun w S H x xs io ix Q r ro rx p => by
  obtain ⟨v, y, rfl, rfl, rv, p⟩ := a1_post p rx
  obtain ⟨i, rfl, rfl, p⟩ := asI_post p rv
  obtain ⟨n, ys, a, vs, h1, h2, rfl, h3, h4, p⟩ := onL_post p r ro
  obtain ⟨hz, p⟩ := chk_post p
  obtain ⟨j, ej, p⟩ := orBad_post p
  obtain ⟨v, ev, p⟩ := orBad_post p
  obtain ⟨u, h5, h6⟩ := h4.get ev
  obtain ⟨g1, g2, g3, g4⟩ := ixN_seq ej
  exact ⟨a, vs, i, j, u, rfl, rfl, h3, by omega, by omega, by rw [h4.length]; exact g1, h5, p.now (r.write h2 ⟨_, upd_same, h4.erase j⟩ (fun _ e => by rw [h1] at e; cases e)) u h6⟩
/-! ### xs * n -/
def fRep (cell : Bool) (x y : IV) (S : Sto) : Out IV := orBad (lstX S x) fun xs => asI y fun k => chk (-(2 ^ 63) ≤ k ∧ k < 2 ^ 63 ∧ xs.length * k.toNat ≤ sizeLine) (mkL cell (List.replicate k.toNat xs).flatten S)
theorem relL_flat {K : KX} {w : Wd} {xs : List V} {us : List IV} (r : RelL K w xs us) : ∀ n : Nat, RelL K w (List.replicate n xs).flatten (List.replicate n us).flatten
  | 0 => .nil
  | n + 1 => by
    rw [List.replicate_succ, List.replicate_succ, List.flatten_cons, List.flatten_cons]
    exact r.append (relL_flat r n)
/-! ### max of a list of ints -/
def intsOf : List IV → Option (List Int)
  | [] => some []
  | .int s :: xs => (intsOf xs).map (s :: ·)
  | _ => none
theorem intsOf_rel {K : KX} {w : Wd} : ∀ {xs : List IV} {vs : List V} {ss : List Int}, intsOf xs = some ss → RelL K w vs xs → vs = ss.map V.int
  | [], _, _, e, r => by cases e; cases r; rfl
  | x :: xs, _, ss, e, r => by
    cases r with
    | cons a b =>
      cases x with
      | int s =>
        obtain ⟨ts, h1, h2⟩ := Option.map_eq_some_iff.mp (show (intsOf xs).map (s :: ·) = some ss from e)
        subst h2
        cases a
        rw [intsOf_rel h1 b]
        rfl
      | _ => cases e
def maxL (ns : List Int) : Int := ns.foldl (fun a b => if b > a then b else a) (ns.headD 0)
theorem maxL_fold (ns : List Int) : ∀ m0 m : Int, m ∈ (m0 :: ns) → (∀ y, y ∈ (m0 :: ns) → y ≤ m) → ns.foldl (fun a b => if b > a then b else a) m0 = m := by
  induction ns with
  | nil => intro m0 m h _; exact (List.mem_singleton.mp h).symm
  | cons n ns ih =>
    intro m0 m h1 h2
    rw [List.foldl_cons]
    refine ih _ m ?_ fun y hy => ?_
    · rcases List.mem_cons.mp h1 with h | h
      · subst h
        rw [if_neg (by have := h2 n (by simp); omega)]
        exact List.mem_cons_self
      · rcases List.mem_cons.mp h with h | h
        · subst h
          by_cases q : m > m0
          · rw [if_pos q]; exact List.mem_cons_self
          · rw [if_neg q]
            have := h2 m0 List.mem_cons_self
            have : m = m0 := by omega
            rw [this]; exact List.mem_cons_self
        · exact List.mem_cons_of_mem _ h
    · rcases List.mem_cons.mp hy with h | h
      · subst h
        split
        · exact h2 n (by simp)
        · exact h2 m0 List.mem_cons_self
      · exact h2 y (by simp [h])
def fMaxL (xs : List IV) (S : Sto) : Out IV := a1 xs fun x => orBad (lstX S x) fun ys => orBad (intsOf ys) fun ns => chk (0 < ns.length) (.ok (.int (maxL ns)) S)
theorem cs_maxL {K : KX} {W : WX} : CaS K W (rMax K.k) fMaxL := fun w S H xs ix Q r rx p => by
  obtain ⟨v, x, rfl, rfl, rv, p⟩ := a1_post p rx
  obtain ⟨ys, e, p⟩ := orBad_post p
  obtain ⟨ns, e2, p⟩ := orBad_post p
  obtain ⟨hl, p⟩ := chk_post p
  obtain ⟨a, vs, rfl, h1, h2⟩ := lstX_sq e r rv
  have := intsOf_rel e2 h2
  subst this
  refine ⟨a, ns, rfl, .of h1, hl, fun m hm hy => ?_⟩
  have : maxL ns = m := by
    cases ns with
    | nil => cases hl
    | cons n ns =>
      show (n :: ns).foldl (fun a b => if b > a then b else a) n = m
      exact maxL_fold (n :: ns) n m (by simpa using hm) fun y h => hy y (by simpa using h)
  rw [← this]
  exact p.now r _ (.int _)
/-! ### any -/
def blsOf : List IV → Option (List Bool)
  | [] => some []
  | .bl s :: xs => (blsOf xs).map (s :: ·)
  | _ => none
theorem blsOf_rel {K : KX} {w : Wd} : ∀ {xs : List IV} {vs : List V} {ss : List Bool}, blsOf xs = some ss → RelL K w vs xs → vs = ss.map V.bl
  | [], _, _, e, r => by cases e; cases r; rfl
  | x :: xs, _, ss, e, r => by
    cases r with
    | cons a b =>
      cases x with
      | bl s =>
        obtain ⟨ts, h1, h2⟩ := Option.map_eq_some_iff.mp (show (blsOf xs).map (s :: ·) = some ss from e)
        subst h2
        cases a
        rw [blsOf_rel h1 b]
        rfl
      | _ => cases e
def fAny (xs : List IV) (S : Sto) : Out IV := a1 xs fun x => orBad (lstX S x) fun ys => orBad (blsOf ys) fun bs => .ok (.bl (bs.any id)) S
def fAll (xs : List IV) (S : Sto) : Out IV := a1 xs fun x => orBad (lstX S x) fun ys => orBad (blsOf ys) fun bs => .ok (.bl (bs.all id)) S
theorem cs_any {K : KX} {W : WX} : CaS K W (rAny K.k) fAny := fun w S H xs ix Q r rx p => by
  obtain ⟨v, x, rfl, rfl, rv, p⟩ := a1_post p rx
  obtain ⟨ys, e, p⟩ := orBad_post p
  obtain ⟨ns, e2, p⟩ := orBad_post p
  obtain ⟨a, vs, rfl, h1, h2⟩ := lstX_sq e r rv
  have := blsOf_rel e2 h2
  subst this
  exact ⟨a, ns, rfl, .of h1, p.now r _ (.bl _)⟩
theorem cs_all {K : KX} {W : WX} : CaS K W (rAll K.k) fAll := fun w S H xs ix Q r rx p => by
  obtain ⟨v, x, rfl, rfl, rv, p⟩ := a1_post p rx
  obtain ⟨ys, e, p⟩ := orBad_post p
  obtain ⟨ns, e2, p⟩ := orBad_post p
  obtain ⟨a, vs, rfl, h1, h2⟩ := lstX_sq e r rv
  have := blsOf_rel e2 h2
  subst this
  exact ⟨a, ns, rfl, .of h1, p.now r _ (.bl _)⟩
/-! ### f-strings of texts -/
def iJs : List IE → Str → Slots → Sto → Out Str
  | [], acc, _, S => .ok acc S
  | m :: ms, acc, Λ, S => (m Λ S).bind fun x S1 => asS x fun y => chk ((acc ++ y).length ≤ sizeLine ∧ y.length ≤ sizeLine) (iJs ms (acc ++ y) Λ S1)
def iJoined (ms : List IE) : IE := fun Λ S => (iJs ms Str.empty Λ S).bind fun s S1 => .ok (.str s) S1
/-- a part: a written text, or a text in braces -/
inductive DJ (X : Cx) (W : WZ) : List Expr → List IE → Prop where
  | nil : DJ X W [] []
  | lit {e : Expr} {m : IE} {es : List Expr} {ms : List IE} (h : DE X W e m) (r : DJ X W es ms) : DJ X W (e :: es) (m :: ms)
  | fmt {e : Expr} {pos : Pos} {m : IE} {es : List Expr} {ms : List IE} (h : DE X W e m) (r : DJ X W es ms) : DJ X W (.FormattedValue e (-1) none pos :: es) (m :: ms)
theorem djs {X : Cx} {W : WZ} {es : List Expr} {ms : List IE} (h : DJ X W es ms) : ∃ ts, PJ X es ts ∧ ∀ (acc : Str) (σ : L2.St) (H : Hp) (Q : Str → Hp → Prop), (∃ w S Λ, R (kx X W) w S H ∧ SR (kx X W) w σ Λ ∧ Post (kx X W) W.x w (iJs ms acc Λ S) fun _ H' _ s => Q s H') → tJs ts acc σ H Q := by
  induction h with
  | nil => exact ⟨[], .nil, fun acc σ H Q ⟨w, S, Λ, r0, s0, p⟩ => Post.now (a := acc) (S := S) p r0⟩
  | @lit e m es ms h r ih =>
    obtain ⟨ts, j, k⟩ := ih
    refine ⟨_ :: ts, .cons h j, fun acc σ H Q ⟨w, S, Λ, r0, s0, p⟩ => ⟨w, S, Λ, r0, s0, ?_⟩⟩
    refine (Post.bind (show Post (kx X W) W.x w ((m Λ S).bind _) _ from p)).imp fun w1 H1 S1 ix l1 r1 p1 v rv => ?_
    obtain ⟨y, rfl, rfl, p1⟩ := asS_post p1 rv
    obtain ⟨c, p1⟩ := chk_post p1
    exact ⟨y, rfl, c.1, k _ _ _ _ ⟨w1, S1, Λ, r1, s0.up l1, p1⟩⟩
  | @fmt e pos m es ms h r ih =>
    obtain ⟨ts, j, k⟩ := ih
    refine ⟨_ :: ts, .cons (pe_fmt h) j, fun acc σ H Q ⟨w, S, Λ, r0, s0, p⟩ => ⟨w, S, Λ, r0, s0, ?_⟩⟩
    refine (Post.bind (show Post (kx X W) W.x w ((m Λ S).bind _) _ from p)).imp fun w1 H1 S1 ix l1 r1 p1 v rv => ?_
    obtain ⟨y, rfl, rfl, p1⟩ := asS_post p1 rv
    obtain ⟨c, p1⟩ := chk_post p1
    exact .inl ⟨y, rfl, c.2, y, rfl, c.1, k _ _ _ _ ⟨w1, S1, Λ, r1, s0.up l1, p1⟩⟩
theorem de_joined {X : Cx} {W : WZ} {v1 v2 : Expr} {rest : List Expr} {ms : List IE} {pos : Pos} (h : DJ X W (v1 :: v2 :: rest) ms) : DE X W (.JoinedStr (v1 :: v2 :: rest) pos) (iJoined ms) := by
  obtain ⟨ts, j, k⟩ := djs h
  refine (pe_joined j).imp fun σ H Q ⟨w, S, Λ, r0, s0, p⟩ => k _ _ _ _ ⟨w, S, Λ, r0, s0, p.bind.imp fun w1 H1 S1 s l1 r1 p1 => p1.now r1 _ (.str s)⟩
/-! ### a = b = e -/
def iSet2 (i j : Nat) (m : IE) : IS := fun Λ S => (m Λ S).bind fun x S1 => .ok (.nx ((Λ.set i (some x)).set j (some x))) S1
theorem ds_set2 {X : Cx} {W : WZ} {e : Expr} {me : IE} {pos p1 p2 : Pos} (i j : Nat) {x y : Str} (hN : X.N.Nodup) (he : DE X W e me) (hi : X.N[i]? = some x := by rfl) (hj : X.N[j]? = some y := by rfl) (hx : L2.Loc X.env.scope x := by first | exact Or.inl rfl | exact Or.inr rfl) (hy : L2.Loc X.env.scope y := by first | exact Or.inl rfl | exact Or.inr rfl)
    (hf : X.fn x = true ∨ X.env.scope.names.lookup x = some .local := by first | exact .inl rfl | exact .inr rfl) (hf' : X.fn y = true ∨ X.env.scope.names.lookup y = some .local := by first | exact .inl rfl | exact .inr rfl)
    (h1 : (assignEach [.Name x p1, .Name y p2] X.env).map (·.2) = [assign (.Name x p1) X.env, assign (.Name y p2) X.env] := by rfl) (hw : swappedStores [.Name x p1, .Name y p2] e X.env = pure none := by rfl)
    (hs : swapsWithSole [.Name x p1, .Name y p2] e pos.line X.env = pure false := by rfl) :
    DS X W (.Assign [.Name x p1, .Name y p2] e pos) (iSet2 i j me) := by
  refine ⟨fun pins s σ H D I ⟨w, S, Λ, r0, s0, p⟩ => ?_⟩
  refine wpAny_Assign_stores (thn (he.run pins s σ H (fun v H1 => D.nx ((σ.set i (some v)).set j (some v)) H1) I ⟨w, S, Λ, r0, s0, p.bind.imp fun w1 H1 S1 ix l1 r1 p1 v rv => p1.now r1 _ (((s0.up l1).set i rv).set j rv)⟩) fun v s1 ⟨x1, H1, I1, rx, q⟩ => ?_) hs hw
  rw [h1]
  refine wpAny_bind (wpAny_holding ?_)
  refine wpAny_assign_Name (store_ok I1 hN hi hx rx (fun s2 I2 => ?_) hf)
  exact wpAny_assign_Name (store_ok I2 hN hj hy rx (fun s3 I3 => ⟨_, H1, I3, q⟩) hf')
/-! ### C.c, an int of the class -/
def CCon (K : PySem.W.Frag) (mg : Str → Option Value) (C f : Str) (i : Int) : Prop := ∃ (Ca : Addr) (t : Tok), mg C = some (.ref Ca) ∧ PySem.W.typeIn K (.ref Ca) = some (.type "type") ∧
  PySem.W.readsIn K Ca (.type "type") = true ∧ PySem.W.findCls K (.ref Ca) (.type "type") f = some (.val (.int i t))
theorem de_ccon {X : Cx} {W : WZ} {C f : Str} {i : Int} {p pos : Pos} (c : CCon X.K X.mg C f i) (hg : Gl X C := by rfl) (hdb : (C == ("__debug__" : Str)) = false := by decide) (hb : attributeBase (.Name C p) f X.env (eval (.Name C p) X.env) = eval (.Name C p) X.env := by rfl) :
    DE X W (.Attribute (.Name C p) f pos) (iC (.int i)) := by
  obtain ⟨Ca, t, hm, ty, rd, fc⟩ := c
  refine ⟨fun pins s σ H Q I ⟨w, S, Λ, r0, s0, p⟩ => ?_⟩
  refine attr_of hb (ld_glob I hg hm ?_ hdb)
  obtain ⟨m, fr⟩ := I.fr
  exact PySem.W.cls_val fr I.ok.mod.kin ty rd fc rfl ⟨.int i, H, I.tok _, ⟨t, rfl⟩, Post.now (a := IV.int i) (S := S) p r0 _ (.int i)⟩
/-! ### isinstance(e, C), e the exception that is being handled -/
def iXIs (i m : Nat) (b : Bool) : IE := fun Λ S => match Λ[i]?, S[m]? with
  | some none, some (.xd _) => .ok (.bl b) S
  | _, _ => .bad
theorem call_isX {X : Cx} {a d Ca : Addr} {oe : Obj} {pn : List (Addr × Obj)} (C : ExcC X.K Ca) (hz : Zc (.ref Ca) (some d) oe) (hf : ∃ vs, oe.data = .fields vs) :
    CallR (X.suite a ((a, oe) :: pn)) (.builtin "isinstance") (fun xs H Q => ∃ (c : V) (cv : Value) (b : Bool), xs = [.ref a, c] ∧ (∀ u, RelV c u → u = cv) ∧ PySem.W.kitOne X.K (.ref Ca) cv = some b ∧ (∃ fs, H d = some (.xd fs)) ∧ Q (.bl b) H) := by
  intro pins s σ H xs us Q I r h
  obtain ⟨c, cv, b, rfl, hcv, e, ⟨fs, hx⟩, q⟩ := h
  cases r with
  | cons rx rr =>
    cases rr with
    | cons rt rr =>
      cases rr
      cases rx
      have ec := hcv _ rt
      subst ec
      obtain ⟨hget, _⟩ := I.pin (a, oe) (List.mem_append.mpr (.inl List.mem_cons_self))
      obtain ⟨vs, hv⟩ := hf
      obtain ⟨mA, hns, hr⟩ := (show ObjOk X.prog X.w H s.heap d (.xd fs) from I.hok d _ hx)
      obtain ⟨od, ho, hl⟩ := lookIn_ns hns
      have J : PySem.W.InstAt s.heap a oe Ca (some od) := ⟨hget, hz.1, by unfold PySem.W.notCls; rw [hv] <;> rfl, by rw [hz.2]; exact ho⟩
      have hcl : (PySem.W.clsIn X.K Ca).isSome = true := by
        obtain ⟨cd, hc, _⟩ := PySem.W.any_some C.hd
        rw [hc]; rfl
      exact PySem.W.kia_one (PySem.W.kitx_exc hcl C.hg C.hk C.hs C.ha C.hn C.ht C.hm) I.kIn J e (fun z => nomatch z) fun tk => ⟨.bl b, H, I.kept (t' := tk) fun _ _ z => z, rfl, q⟩
section
variable {X : Cx} {i m : Nat} {a d : Addr} {oe : Obj} {pn : List (Addr × Obj)} {n C x : Str} {p q r pos : Pos}
/-- what a name of a class stands for -/
def ClsN (mg : Str → Option Value) (x : Str) (cv : Value) : Prop := (mg x = some cv ∧ ∃ A, cv = .ref A) ∨ (mg x = none ∧ bootBuiltins x = some cv ∧ ∃ T, cv = .type T)
theorem de_isX {b : Bool} {cv : Value} (hz : Zc (clsV X.mg C) (some d) oe) (hf : ∃ vs, oe.data = .fields vs) (hC : ∃ Ca, X.mg C = some (.ref Ca) ∧ ExcC X.K Ca ∧ PySem.W.kitOne X.K (.ref Ca) cv = some b) (hx : ClsN X.mg x cv)
    (hm : X.mg "isinstance" = none) (hgx : Gl X x := by rfl) (hg : Gl X "isinstance" := by rfl) (hxn : x ≠ "__name__" := by decide) (hdx : (x == ("__debug__" : Str)) = false := by decide)
    (hN : X.N[i]? = some n := by rfl) (hv : Vis X.env.scope n := by first | exact Or.inl rfl | exact Or.inr (Or.inl rfl) | exact Or.inr (Or.inr rfl)) (hd : (n == ("__debug__" : Str)) = false := by decide)
    (hcd : (n == ("__classdict__" : Str)) = false := by decide) (hst : starEach [.Name n q, .Name x r] X.env = (false, eval (.Name n q) X.env) :: starEach [.Name x r] X.env := by rfl) (hst2 : starEach [.Name x r] X.env = (false, eval (.Name x r) X.env) :: starEach [] X.env := by rfl)
    (hpl : (backTo pos (starEach [.Name x r] X.env)).any (·.1) = false := by rfl) :
    DE (X.suite a ((a, oe) :: pn)) ⟨W0, some (i, m, a, d)⟩ (.Call (.Name "isinstance" p) [.Name n q, .Name x r] [] pos) (iXIs i m b) := by
  obtain ⟨Ca, hmC, hE, hk⟩ := hC
  have hcl : clsV X.mg C = .ref Ca := by unfold clsV; rw [hmC]; rfl
  have key : ∃ c : V, (∀ u, RelV c u → u = cv) ∧ PE (X.suite a ((a, oe) :: pn)) (.Name x r) (tC c) := by
    rcases hx with ⟨h1, A, rfl⟩ | ⟨h1, h2, T, rfl⟩
    · exact ⟨.ref A, fun u ru => ru, pe_glob (X := X.suite a ((a, oe) :: pn)) hgx h1 (v := .ref A) rfl hdx⟩
    · exact ⟨.ty T, fun u ru => ru, pe_bltn (X := X.suite a ((a, oe) :: pn)) hgx h1 h2 (v := .ty T) rfl hxn hdx⟩
  obtain ⟨c, hcv, hpe⟩ := key
  have P1 := pe_callB (X := X.suite a ((a, oe) :: pn)) (x := "isinstance") (p := p) (pos := pos) (call_isX hE (hcl ▸ hz) hf) hg hm rfl
    (pa_cons (X := X.suite a ((a, oe) :: pn)) (pe_var (X := X.suite a ((a, oe) :: pn)) hN hv hd hcd) (pa_cons (X := X.suite a ((a, oe) :: pn)) hpe pa_nil hst2) hst) (by decide) (by decide) hst hpl
  refine P1.imp fun σ H Q ⟨w, S, Λ, r0, s0, p⟩ => ?_
  unfold iXIs at p
  split at p
  · rename_i fs h1 h2
    obtain ⟨g1, g2⟩ := s0.ex i m a d rfl h1
    obtain ⟨ps, h3, h4⟩ := r0.cell m _ d h2 g2
    exact ⟨.ref a, g1, c, cv, b, rfl, hcv, hk, ⟨ps, h3⟩, p.now r0 _ (.bl b)⟩
  · exact p.elim
end
end Sm

/-! the facts a walk asks of the written part, gathered -/
namespace Sm
open PySem PySem.Spec PyProof.Rows L2

/-- except x: tab tells of each class that may come whether x takes it -/
def TryT (K : PySem.W.Frag) (mg : Str → Option Value) (x : Str) (tab : List (Str × Bool)) : Prop := (∃ D : Addr, mg x = some (.ref D)) ∧ ∀ C b, tab.lookup C = some b → PySem.W.exmOne K (clsV mg C) (clsV mg x) = some b
def XfT (K : PySem.W.Frag) (mg : Str → Option Value) (tab : List (Str × Bool)) (f : Str) : Prop := ∀ C, tab.lookup C = some true → ∃ Ca : Addr, mg C = some (.ref Ca) ∧ XfC K Ca ∧ PySem.W.findIn K (.ref Ca) f = some none
def XiT (K : PySem.W.Frag) (mg : Str → Option Value) (tab : List (Str × Bool)) (x : Str) (ist : List (Str × Bool)) : Prop := ∃ cv : Value, ClsN mg x cv ∧ ∀ C, tab.lookup C = some true → ∀ b, ist.lookup C = some b → ∃ Ca : Addr, mg C = some (.ref Ca) ∧ ExcC K Ca ∧ PySem.W.kitOne K (.ref Ca) cv = some b
section
variable {X : Cx} {W : WX} {x n : Str} {body suite : List Stmt} {b₀ : Stmt} {np pos pos' : Pos} {mb : IS} {ms : Str → Nat → IS} {tab : List (Str × Bool)}
theorem ds_tryN (hs : X.stack = X.env :: X.outer) (hf : X.env.frame = some X.env.locals) (hN : X.N.Nodup) (i : Nat) (hT : TryT X.K X.mg x tab) (tk : Takes X W)
    (hb : ∀ (W' : WX) (pn : List (Addr × Obj)) (xe : Value → Shared → Prop), Takes (X.tr pn xe) W' → PassesOwn (model X.prog X.w) X.A X.env xe → DSs (X.tr pn xe) ⟨W', none⟩ body mb)
    (hsu : ∀ (C : Str) (m : Nat) (a d : Addr) (oe : Obj) (pn : List (Addr × Obj)), tab.lookup C = some true → Zc (clsV X.mg C) (some d) oe → (∃ vs, oe.data = .fields vs) → DSs (X.suite a ((a, oe) :: pn)) ⟨W0, some (i, m, a, d)⟩ (b₀ :: suite) (ms C m))
    (hi : X.N[i]? = some n := by rfl) (hln : X.env.kindOf n = some .local := by rfl) (hg : Gl X x := by rfl) (hd : (x == ("__debug__" : Str)) = false := by decide) :
    DS X ⟨W, none⟩ (.Try body [.ExceptHandler (some (.Name x np)) (some n) (b₀ :: suite) pos'] [] [] pos) (iTryAs tab i mb ms) := by
  obtain ⟨⟨D, hD⟩, hT⟩ := hT
  refine ds_try (c := clsV X.mg x) hs hf hN i hi hln ⟨hg, hd, .inl ?_⟩ tk hT hb hsu
  unfold clsV
  rw [hD]
  rfl
end
def iXIsT (i m : Nat) (ist : List (Str × Bool)) (C : Str) : IE := match ist.lookup C with
  | some b => iXIs i m b
  | none => iBad
section
variable {X : Cx} {i m : Nat} {a d : Addr} {oe : Obj} {pn : List (Addr × Obj)} {n C x f : Str} {p q r pos : Pos} {tab ist : List (Str × Bool)}
theorem de_isXT (h : XiT X.K X.mg tab x ist) (hC : tab.lookup C = some true) (hz : Zc (clsV X.mg C) (some d) oe) (hf : ∃ vs, oe.data = .fields vs)
    (hm : X.mg "isinstance" = none) (hgx : Gl X x := by rfl) (hg : Gl X "isinstance" := by rfl) (hxn : x ≠ "__name__" := by decide) (hdx : (x == ("__debug__" : Str)) = false := by decide)
    (hN : X.N[i]? = some n := by rfl) (hv : Vis X.env.scope n := by first | exact Or.inl rfl | exact Or.inr (Or.inl rfl) | exact Or.inr (Or.inr rfl)) (hd : (n == ("__debug__" : Str)) = false := by decide)
    (hcd : (n == ("__classdict__" : Str)) = false := by decide) (hst : starEach [.Name n q, .Name x r] X.env = (false, eval (.Name n q) X.env) :: starEach [.Name x r] X.env := by rfl) (hst2 : starEach [.Name x r] X.env = (false, eval (.Name x r) X.env) :: starEach [] X.env := by rfl)
    (hpl : (backTo pos (starEach [.Name x r] X.env)).any (·.1) = false := by rfl) :
    DE (X.suite a ((a, oe) :: pn)) ⟨W0, some (i, m, a, d)⟩ (.Call (.Name "isinstance" p) [.Name n q, .Name x r] [] pos) (iXIsT i m ist C) := by
  obtain ⟨cv, h1, h2⟩ := h
  unfold iXIsT
  split
  · rename_i b hb
    exact de_isX hz hf (h2 C hC b hb) h1 hm hgx hg hxn hdx hN hv hd hcd hst hst2 hpl
  · exact de_bad
theorem de_xfT (h : XfT X.K X.mg tab f) (hC : tab.lookup C = some true) (hz : Zc (clsV X.mg C) (some d) oe) (hf : ∃ vs, oe.data = .fields vs)
    (hN : X.N[i]? = some n := by rfl) (hv : Vis X.env.scope n := by first | exact Or.inl rfl | exact Or.inr (Or.inl rfl) | exact Or.inr (Or.inr rfl)) (hd : (n == ("__debug__" : Str)) = false := by decide)
    (hcd : (n == ("__classdict__" : Str)) = false := by decide) (hb : attributeBase (.Name n p) f X.env (eval (.Name n p) X.env) = eval (.Name n p) X.env := by rfl) :
    DE (X.suite a ((a, oe) :: pn)) ⟨W0, some (i, m, a, d)⟩ (.Attribute (.Name n p) f pos) (iXf i m f) := de_xf hz hf (h C hC) hN hv hd hcd hb
end

/-! ### from the written part -/
section
variable {K : PySem.W.Frag} {h : Heap} {mg : Str → Option Value}
theorem cls_mk {C : Addr} (pg : PySem.W.plainGet K C Str.empty = true) (hd : PySem.W.hasDictIn K C = true) (po : PySem.W.plainOver K C = true) (sa : PySem.W.findIn K (.ref C) "__setattr__" = some (some (.builtin "object.__setattr__"))) : Cls K C := ⟨pg, hd, po, sa⟩
theorem fc_mk {C f : Str} {Ca : Addr} (X : K.In h) (G : h.Ns mainGlobals mg) (m : PySem.W.nsIn K mainGlobals C = some (some (.ref Ca))) (c : Cls K Ca) (n : PySem.W.findIn K (.ref Ca) f = some none) : FC K mg C f := ⟨Ca, PySem.W.mg_of X G m, c, n⟩
theorem mloc_mk {C m qual : Str} {st : Stmt} {ps : List Str} {Ca f : Addr} {od an : Option Addr} {sl : Array (Option Value)} {oc kV dc pm cd ct : Value} (X : K.In h) (G : h.Ns mainGlobals mg) (hm : PySem.W.nsIn K mainGlobals C = some (some (.ref Ca))) (c : Cls K Ca)
    (at_ : PySem.W.findIn K (.ref Ca) m = some (some (.ref f))) (fn : PySem.W.isFn K (.ref f) = true) (k : PySem.W.keepIn K (.ref f) = true)
    (l : K.lookup f = some ⟨oc, od, .func (PySem.W.fnOf m qual (defArgs st) (defBody st) (defScope st) .none kV dc pm an cd ct), sl⟩) (cc : PySem.W.codeIn K cd qual = true)
    (hb : ∀ (kV doc pm : Value) (an : Option Addr) (cdv ct : Value) (us : List Value), us.length = ps.length → bindArgs (PySem.W.fnOf m qual (defArgs st) (defBody st) (defScope st) .none kV doc pm an cdv ct) ⟨us, []⟩ = pure (ps.zip us)) : MLoc K mg C m qual st ps :=
  have F := fun_mk (st := st) l cc k
  ⟨Ca, f, _, PySem.W.mg_of X G hm, c, ⟨at_, fn, k⟩, F, F.binds hb⟩
theorem kloc_mk {C qual : Str} {st : Stmt} {ps : List Str} {Ca f : Addr} {od an : Option Addr} {sl : Array (Option Value)} {oc kV dc pm cd ct : Value} (X : K.In h) (G : h.Ns mainGlobals mg) (hm : PySem.W.nsIn K mainGlobals C = some (some (.ref Ca)))
    (mk : PySem.W.makesIn K Ca = true) (at_ : PySem.W.findIn K (.ref Ca) "__init__" = some (some (.ref f))) (fn : PySem.W.isFn K (.ref f) = true) (kC : PySem.W.keepIn K (.ref Ca) = true) (k : PySem.W.keepIn K (.ref f) = true)
    (l : K.lookup f = some ⟨oc, od, .func (PySem.W.fnOf "__init__" qual (defArgs st) (defBody st) (defScope st) .none kV dc pm an cd ct), sl⟩) (cc : PySem.W.codeIn K cd qual = true)
    (hb : ∀ (kV doc pm : Value) (an : Option Addr) (cdv ct : Value) (us : List Value), us.length = ps.length → bindArgs (PySem.W.fnOf "__init__" qual (defArgs st) (defBody st) (defScope st) .none kV doc pm an cdv ct) ⟨us, []⟩ = pure (ps.zip us)) : KLoc K mg C qual st ps :=
  have F := fun_mk (st := st) l cc k
  ⟨Ca, f, _, PySem.W.mg_of X G hm, ⟨mk, at_, fn, kC⟩, F, F.binds hb⟩
theorem base_mk {x : Str} {Ca : Addr} (X : K.In h) (G : h.Ns mainGlobals mg) (hm : PySem.W.nsIn K mainGlobals x = some (some (.ref Ca))) (ga : PySem.W.specialIn K (.ref Ca) "__getattribute__" = some (some (.builtin "type.__getattribute__"))) (ty : PySem.W.typeIn K (.ref Ca) = some (.type "type"))
    (rd : PySem.W.readsIn K Ca (.type "type") = true) (fc : PySem.W.findCls K (.ref Ca) (.type "type") "__init__" = some (.val (.builtin "ValueError.__init__"))) : BaseC K mg x := ⟨Ca, PySem.W.mg_of X G hm, ga, ty, rd, fc⟩
def ELoc (K : PySem.W.Frag) (mg : Str → Option Value) (x f a b qual : Str) (st : Stmt) : Prop := ∃ (C fI : Addr) (fd : FuncData), EClsAt K mg x f C ∧ PySem.W.findIn K (.ref C) "__init__" = some (some (.ref fI)) ∧ PySem.W.typeIn K (.ref fI) = some (.type "function") ∧
  L2.Binds K fd [a, b] [] ∧ Fun K "__init__" qual st fI fd
theorem oex_mk {C : Addr} {nm q : Str} {N : Addr} {bs bm : List Value} {sn : List Str} {sub : List Value} {ab : Bool} {col : Option Bool} {dd : Option Addr} {k0 k1 k2 k3 k5 : Option Value} (lk : K.lookup C = some (excClassObj nm q C N bs bm true sn sub ab col dd k0 k1 k2 k3 k5 "ValueError.__new__"))
    (rv : PySem.HandSPX.refsVE bm = true) (sa : PySem.W.findIn K (.ref C) "__setattr__" = some (some (.builtin "object.__setattr__"))) (exC : PySem.W.subIn K (.ref C) (.type "BaseException") = some true) (tyC : PySem.W.typeIn K (.ref C) = some (.type "type")) (kC : PySem.W.keepIn K (.ref C) = true) : OexC K C :=
  ⟨⟨nm, q, N, bs, bm, sn, sub, ab, col, dd, k0, k1, k2, k3, k5, lk, rv⟩, sa, exC, tyC, kC⟩
theorem eloc_mk {x f a b qual : Str} {st : Stmt} {C fI : Addr} {od an : Option Addr} {sl : Array (Option Value)} {oc kV dc pm cd ct : Value} (X : K.In h) (G : h.Ns mainGlobals mg) (hm : PySem.W.nsIn K mainGlobals x = some (some (.ref C))) (o : OexC K C) (nf : PySem.W.findIn K (.ref C) f = some none)
    (iC : PySem.W.findIn K (.ref C) "__init__" = some (some (.ref fI))) (tI : PySem.W.typeIn K (.ref fI) = some (.type "function")) (k : PySem.W.keepIn K (.ref fI) = true)
    (l : K.lookup fI = some ⟨oc, od, .func (PySem.W.fnOf "__init__" qual (defArgs st) (defBody st) (defScope st) .none kV dc pm an cd ct), sl⟩) (cc : PySem.W.codeIn K cd qual = true)
    (hb : ∀ (kV doc pm : Value) (an : Option Addr) (cdv ct : Value) (us : List Value), us.length = [a, b].length → bindArgs (PySem.W.fnOf "__init__" qual (defArgs st) (defBody st) (defScope st) .none kV doc pm an cdv ct) ⟨us, []⟩ = pure ([a, b].zip us)) : ELoc K mg x f a b qual st :=
  have F := fun_mk (st := st) l cc k
  ⟨C, fI, _, ⟨PySem.W.mg_of X G hm, o, nf⟩, iC, tI, F.binds hb, F⟩
theorem ecal_def {P : Program} {w : World} {base : Heap} {x f a b qual z : Str} {st : Stmt} (L : ELoc K mg x f a b qual st) (Sc : FnScope [a, b] [a, b] (defScope st))
    (hb : ∀ (fI : Addr) (cdv : Value) (A : Around) (outer : List Env) (s : Shared) (H : Hp) (E : XK), PSs (DX P w K mg base [a, b] qual (defScope st) fI cdv A outer s H E) (defBody st) (tInit K f z)) : ECal P w K mg base x f := by
  obtain ⟨C, fI, fd, h1, h2, h3, h4, h5⟩ := L
  exact ⟨C, fI, fd, a, b, h1, h2, h3, h4, einit_ok h5 Sc (hb fI)⟩
theorem ccon_mk {C f : Str} {i : Int} {Ca : Addr} {t : Tok} (X : K.In h) (G : h.Ns mainGlobals mg) (hm : PySem.W.nsIn K mainGlobals C = some (some (.ref Ca))) (ty : PySem.W.typeIn K (.ref Ca) = some (.type "type")) (rd : PySem.W.readsIn K Ca (.type "type") = true)
    (fc : PySem.W.findCls K (.ref Ca) (.type "type") f = some (.val (.int i t))) : CCon K mg C f i := ⟨Ca, t, PySem.W.mg_of X G hm, ty, rd, fc⟩
theorem clsV_mk {C : Str} {Ca : Addr} (X : K.In h) (G : h.Ns mainGlobals mg) (hm : PySem.W.nsIn K mainGlobals C = some (some (.ref Ca))) : clsV mg C = .ref Ca := by
  unfold clsV
  rw [PySem.W.mg_of X G hm]
  rfl
/-- tables, class by class -/
def AllT (P : Str → Bool → Prop) : List (Str × Bool) → Prop
  | [] => True
  | (C, b) :: t => P C b ∧ AllT P t
theorem allT_of {P : Str → Bool → Prop} : ∀ {t : List (Str × Bool)}, AllT P t → ∀ C b, t.lookup C = some b → P C b
  | [], _, _, _, e => by cases e
  | (D, c) :: t, h, C, b, e => by
    unfold List.lookup at e
    cases hk : C == D with
    | true =>
      rw [hk] at e
      have := beq_iff_eq.mp hk
      subst this
      cases e
      exact h.1
    | false =>
      rw [hk] at e
      exact allT_of h.2 C b e
end
end Sm
namespace Sm
open PySem PySem.Spec PyProof.Rows L2
section
variable {X : Cx} {W : WZ} {o i : Expr} {pos : Pos} {mo mi : IE}
theorem eM_din {K : KX} {W : WX} {σ : L2.St} {H : Hp} {Q : VK} (h : eM K W (iBin fDIn mi mo) σ H Q) : tDIn (eM K W mi) (eM K W mo) σ H Q := by
  obtain ⟨w, S, Λ, r0, s0, p⟩ := h
  exact ⟨w, S, Λ, r0, s0, p.bind.imp fun w1 H1 S1 iy l1 r1 p1 v1 rv1 => ⟨w1, S1, Λ, r1, s0.up l1, p1.bind.imp fun w2 H2 S2 ix l2 r2 p2 v2 rv2 => by
    obtain ⟨n, kvs, a, ps, e1, h1, h2, q⟩ := onD_post p2 r2 rv2
    obtain ⟨k, hk, q⟩ := orBad_post q
    rcases relKV_val (k := k) h2 with ⟨z, z'⟩ | ⟨iv', v, z1, z2, z3⟩
    · rw [z] at q
      exact ⟨a, none, e1, .inl ⟨ps, k, h1, keyI_rel hk (rv1.up l2), z'.symm⟩, q.now r2 _ (.bl _)⟩
    · rw [z1] at q
      exact ⟨a, some v, e1, .inl ⟨ps, k, h1, keyI_rel hk (rv1.up l2), z2.symm⟩, q.now r2 _ (.bl _)⟩⟩⟩
theorem dt_din (hu : X.A.units + 1 < cLine) (hi : DE X W i mi) (ho : DE X W o mo) (hb : behindInMarks .In o = false := by rfl) : DT X W (.Compare i [.In] [o] pos) (iTest (iBin fDIn mi mo)) :=
  (pt_cmp (pc_din hu hi ho) hb).imp fun σ H Q ⟨w, S, Λ, r0, s0, p⟩ => eM_din ⟨w, S, Λ, r0, s0, p.bind.imp fun w1 H1 S1 ix l1 r1 p1 v1 rv1 => by
    obtain ⟨k, rfl, rfl, q⟩ := asB_post p1 rv1
    exact ⟨k, rfl, q.now r1⟩⟩
theorem eM_dnotin {K : KX} {W : WX} {σ : L2.St} {H : Hp} {Q : VK} (h : eM K W (iBin fDNotIn mi mo) σ H Q) : tDNotIn (eM K W mi) (eM K W mo) σ H Q := by
  obtain ⟨w, S, Λ, r0, s0, p⟩ := h
  exact ⟨w, S, Λ, r0, s0, p.bind.imp fun w1 H1 S1 iy l1 r1 p1 v1 rv1 => ⟨w1, S1, Λ, r1, s0.up l1, p1.bind.imp fun w2 H2 S2 ix l2 r2 p2 v2 rv2 => by
    obtain ⟨n, kvs, a, ps, e1, h1, h2, q⟩ := onD_post p2 r2 rv2
    obtain ⟨k, hk, q⟩ := orBad_post q
    rcases relKV_val (k := k) h2 with ⟨z, z'⟩ | ⟨iv', v, z1, z2, z3⟩
    · rw [z] at q
      exact ⟨a, none, e1, .inl ⟨ps, k, h1, keyI_rel hk (rv1.up l2), z'.symm⟩, q.now r2 _ (.bl _)⟩
    · rw [z1] at q
      exact ⟨a, some v, e1, .inl ⟨ps, k, h1, keyI_rel hk (rv1.up l2), z2.symm⟩, q.now r2 _ (.bl _)⟩⟩⟩
theorem dt_dnotin (hu : X.A.units + 1 < cLine) (hi : DE X W i mi) (ho : DE X W o mo) (hb : behindInMarks .NotIn o = false := by rfl) : DT X W (.Compare i [.NotIn] [o] pos) (iTest (iBin fDNotIn mi mo)) :=
  (pt_cmp (pc_dnotin hu hi ho) hb).imp fun σ H Q ⟨w, S, Λ, r0, s0, p⟩ => eM_dnotin ⟨w, S, Λ, r0, s0, p.bind.imp fun w1 H1 S1 ix l1 r1 p1 v1 rv1 => by
    obtain ⟨k, rfl, rfl, q⟩ := asB_post p1 rv1
    exact ⟨k, rfl, q.now r1⟩⟩
end
def fAddI (x y : IV) (S : Sto) : Out IV := asI x fun i => asI y fun j => .ok (.int (i + j)) S
theorem os_addI {K : KX} {W : WX} : OpS K W (ipI fun i j => i + j) fAddI := fun w S H x y ix iy Q r rx ry p => by
  obtain ⟨i, rfl, rfl, p⟩ := asI_post p rx
  obtain ⟨j, rfl, rfl, p⟩ := asI_post p ry
  exact ⟨i, j, rfl, rfl, p.now r _ (.int _)⟩
theorem iop_addP {X : Cx} : OpR X (inplaceOp .Add) (ipI fun i j => i + j) := ip_add
theorem lstX_lst {K : KX} {w : Wd} {S : Sto} {H : Hp} {v : V} {x : IV} {xs : List IV} (e : lstX S x = some xs) (r : R K w S H) (rx : Rel K w v x) : ∃ a vs, v = .ref a ∧ H a = some (.lst vs) ∧ RelL K w vs xs := lstX_sq e r rx
theorem os_rep {K : KX} {W : WX} (cell : Bool) : OpS K W rRep (fRep cell) := fun w S H x y ix iy Q r rx ry p => by
  obtain ⟨xs, e, p⟩ := orBad_post p
  obtain ⟨k, rfl, rfl, p⟩ := asI_post p ry
  obtain ⟨c, p⟩ := chk_post p
  obtain ⟨a, vs, rfl, h1, h2⟩ := lstX_lst e r rx
  exact ⟨a, k, vs, rfl, rfl, h1, c.1, c.2.1, by rw [h2.length]; exact c.2.2, (mkL_post p r (relL_flat h2 _)).2⟩
end Sm
namespace Sm
open PySem
theorem xi_of {tab ist : List (Str × Bool)} {P : Str → Bool → Prop} (h : ∀ C b, ist.lookup C = some b → tab.lookup C = some true → P C b) (C : Str) (hC : tab.lookup C = some true) (b : Bool) (hb : ist.lookup C = some b) : P C b := h C b hb hC
end Sm

/-! {k: v for x in xs} -/
namespace Sm
open PySem PySem.Spec PyProof.Rows L2
noncomputable def iDcGo (s : Src) (gi : IV → Slots → Option Slots) (tt : IT) (tk tv : IE) : List IV → Slots → Sto → List (Key × IV) → Out (List (Key × IV))
  | [], _, S, acc => chkP (s.stay S) (.ok acc S)
  | x :: xs, Λ, S, acc => chkP (s.stay S) (orBad (gi x Λ) fun L => (noX (tt L S)).bind fun b S1 => if b = true then (noX (tk L S1)).bind fun y S2 => (noX (tv L S2)).bind fun z S3 => orBad (keyI y) fun k => chk (acc.length < sizeLine) (iDcGo s gi tt tk tv xs Λ S3 (putK' acc k z)) else iDcGo s gi tt tk tv xs Λ S1 acc)
noncomputable def iDc (ms : IW) (gi : IV → Slots → Option Slots) (tt : IT) (tk tv : IE) (vs : List Nat) : IE := fun Λ S => (ms Λ S).bind fun s S1 => (iDcGo s gi tt tk tv s.items (wipeI Λ vs) S1 []).bind fun acc S2 => .ok (.adr S2.length) (S2 ++ [.dic acc])
theorem putK_len (kvs : List (Key × V)) (k : Key) (v : V) : (putK kvs k v).length ≤ kvs.length + 1 := by
  unfold putK
  split
  · rw [List.length_map]; omega
  · simp
theorem dc_M {K : KX} {W : WX} {ms : IW} {g : TG} {gi : IV → Slots → Option Slots} {tt : IT} {tk tv : IE} {vs : List Nat} {σ : L2.St} {H : Hp} {Q : VK} (hg : GC K vs g gi) (hx : K.ex = none) (h : eM K W (iDc ms gi tt tk tv vs) σ H Q) :
    tDc (wM K W ms) g (tM K W0 tt) (eM K W0 tk) (eM K W0 tv) vs σ H Q := by
  obtain ⟨w, S, Λ, r0, s0, p⟩ := h
  refine ⟨w, S, Λ, r0, s0, p.bind.imp fun w1 H1 S1 s l1 r1 p1 J hJ => ?_⟩
  intro D hD
  have hG : w1.G D = none := by
    cases q : w1.G D with
    | none => rfl
    | some u => rw [r1.G _ _ q] at hD; cases hD
  have s1 := sr_wipe (s0.up l1) hx vs
  let Z : Nat → Hp → Prop := fun i H => i ≤ s.items.length ∧ ∃ (rho : List Addr) (F : Hp) (S2 : Sto) (xs : List (Key × V)) (acc : List (Key × IV)), w1.le ⟨rho, F, w1.G⟩ ∧ R K ⟨rho, F, upd w1.G D (.dK xs)⟩ S2 H ∧ RelKV K ⟨rho, F, w1.G⟩ xs acc ∧
    Post K W ⟨rho, F, w1.G⟩ ((iDcGo s gi tt tk tv (s.items.drop i) (wipeI Λ vs) S2 acc).bind fun acc S2 => .ok (.adr S2.length) (S2 ++ [.dic acc])) fun w' H' _ iv => ∀ v, Rel K w' v iv → Q v H'
  refine ⟨fun i m H => m = s.items.length - i ∧ Z i H, ⟨s.items.length, by simp, Nat.zero_le _, w1.rho, w1.F, S1, [], [], Wd.le.refl w1, r1.ghost hD, .nil, by rw [List.drop_zero]; exact p1⟩, ?_⟩
  rintro i m H2 ⟨rfl, hi, rho, F, S2, xs, acc, l2, r2, rl, p2⟩
  have l2' : w1.lr ⟨rho, F, upd w1.G D (.dK xs)⟩ := ⟨l2.rho, l2.F⟩
  have l2z : w1.lz ⟨rho, F, upd w1.G D (.dK xs)⟩ := ⟨l2', fun a u v e => by
    show upd w1.G D (.dK xs) a = some (.frz u v)
    rw [upd_ne (ne_of_none e hG)]; exact e⟩
  have st : s.stay S2 := by
    by_cases hs : s.stay S2
    · exact hs
    · cases hd : s.items.drop i with
      | nil => rw [hd] at p2; exact (show Post K W ⟨rho, F, w1.G⟩ ((chkP (s.stay S2) _).bind _) _ from p2) |> fun z => by rw [chkP_neg hs] at z; exact z.elim
      | cons _ _ => rw [hd] at p2; exact (show Post K W ⟨rho, F, w1.G⟩ ((chkP (s.stay S2) _).bind _) _ from p2) |> fun z => by rw [chkP_neg hs] at z; exact z.elim
  by_cases hlt : i < s.items.length
  · rw [List.drop_eq_getElem_cons hlt] at p2
    have p2 : Post K W ⟨rho, F, w1.G⟩ ((orBad (gi s.items[i] (wipeI Λ vs)) fun L => (noX (tt L S2)).bind fun b S1 => if b = true then (noX (tk L S1)).bind fun y S2 => (noX (tv L S2)).bind fun z S3 => orBad (keyI y) fun k => chk (acc.length < sizeLine) (iDcGo s gi tt tk tv (s.items.drop (i + 1)) (wipeI Λ vs) S3 (putK' acc k z)) else iDcGo s gi tt tk tv (s.items.drop (i + 1)) (wipeI Λ vs) S1 acc).bind fun acc S2 => .ok (.adr S2.length) (S2 ++ [.dic acc])) (fun w' H' _ iv => ∀ v, Rel K w' v iv → Q v H') := by
      have z := (show Post K W ⟨rho, F, w1.G⟩ ((chkP (s.stay S2) _).bind _) _ from p2)
      rw [chkP_pos st] at z
      exact z
    refine .inr ⟨hJ.go _ S2 H2 i l2z r2 st hlt, Z (i + 1), fun H' z => ⟨s.items.length - (i + 1), by omega, rfl, z⟩, fun x H' y => ?_⟩
    obtain ⟨⟨rho3, F3, G3⟩, l3, r3, rv⟩ := hJ.yld _ S2 H2 i _ x H' l2z r2 st (List.getElem?_eq_getElem hlt) y
    have hG3 : G3 = upd w1.G D (.dK xs) := l3.G
    subst hG3
    have lp3 : Wd.le ⟨rho, F, w1.G⟩ ⟨rho3, F3, w1.G⟩ := ⟨⟨l3.rho, l3.F⟩, rfl⟩
    cases hgi : gi s.items[i] (wipeI Λ vs) with
    | none => rw [hgi] at p2; exact p2.elim
    | some L =>
      rw [hgi, orBad_some] at p2
      have sw : SR K ⟨rho3, F3, upd w1.G D (.dK xs)⟩ (wipe σ vs) (wipeI Λ vs) := s1.mono (l2'.trans l3.1)
      refine hg.run _ S2 H' _ _ x _ L _ r3 sw rv hgi fun σ' s' hw => ⟨by rw [hw, wipe_wipe fun _ hv => hv], ?_⟩
      refine ⟨_, S2, L, r3, s', noX_post (w' := ⟨rho, F, w1.G⟩) (fun b S3 e3 w4 H4 l4 r4 => ?_) fun hb => ?_⟩
      · rw [e3, Out.bind_ok] at p2
        obtain ⟨rho4, F4, G4⟩ := w4
        have hG4 : G4 = upd w1.G D (.dK xs) := l4.G
        subst hG4
        have lp4 : Wd.le ⟨rho, F, w1.G⟩ ⟨rho4, F4, w1.G⟩ := lp3.trans ⟨⟨l4.rho, l4.F⟩, rfl⟩
        cases b with
        | true =>
          rw [if_pos rfl] at p2 ⊢
          refine ⟨_, S3, L, r4, s'.up l4, noX_post (w' := ⟨rho, F, w1.G⟩) (fun y S5 e5 w5 H5 l5 r5 v5 rv5 => ?_) fun hb => ?_⟩
          · rw [e5, Out.bind_ok] at p2
            obtain ⟨rho5, F5, G5⟩ := w5
            have hG5 : G5 = upd w1.G D (.dK xs) := l5.G
            subst hG5
            have lp5 : Wd.le ⟨rho, F, w1.G⟩ ⟨rho5, F5, w1.G⟩ := lp4.trans ⟨⟨l5.rho, l5.F⟩, rfl⟩
            refine ⟨_, S5, L, r5, (s'.up l4).up l5, noX_post (w' := ⟨rho, F, w1.G⟩) (fun z S6 e6 w6 H6 l6 r6 v6 rv6 => ?_) fun hb => ?_⟩
            · rw [e6, Out.bind_ok] at p2
              obtain ⟨rho6, F6, G6⟩ := w6
              have hG6 : G6 = upd w1.G D (.dK xs) := l6.G
              subst hG6
              have lp6 : Wd.le ⟨rho, F, w1.G⟩ ⟨rho6, F6, w1.G⟩ := lp5.trans ⟨⟨l6.rho, l6.F⟩, rfl⟩
              cases hk : keyI y with
              | none => rw [hk] at p2; exact p2.elim
              | some k =>
                rw [hk, orBad_some] at p2
                have hz : acc.length < sizeLine := by
                  by_cases hz : acc.length < sizeLine
                  · exact hz
                  · rw [chk_neg hz] at p2; exact p2.elim
                rw [chk_pos hz] at p2
                have cv : Wd.lr ⟨rho6, F6, upd w1.G D (.dK xs)⟩ ⟨rho6, F6, w1.G⟩ := ⟨⟨[], by simp⟩, Same.refl _⟩
                exact ⟨xs, k, keyI_rel hk rv5, r6.G D _ upd_same, by rw [relKV_length rl]; exact hz, hlt, rho6, F6, S6, putK xs k v6, putK' acc k z, l2.trans lp6, R.ghostW (fun _ _ z => by cases z) r6, relKV_putK (Rel.mono cv _ _ rv6) (rl.up lp6), p2.up lp6⟩
            · rw [hb] at p2; exact p2.elim
          · rw [hb] at p2; exact p2.elim
        | false =>
          rw [if_neg Bool.false_ne_true] at p2 ⊢
          exact ⟨hlt, rho4, F4, S3, xs, acc, l2.trans lp4, r4, rl.up lp4, p2.up lp4⟩
      · rw [hb] at p2; exact p2.elim
  · have e : i = s.items.length := by omega
    subst e
    rw [List.drop_length] at p2
    have p2 : Post K W ⟨rho, F, w1.G⟩ (.ok (.adr S2.length) (S2 ++ [.dic acc])) (fun w' H' _ iv => ∀ v, Rel K w' v iv → Q v H') := by
      have z := (show Post K W ⟨rho, F, w1.G⟩ ((chkP (s.stay S2) _).bind _) _ from p2)
      rw [chkP_pos st] at z
      exact z
    refine .inl ⟨hJ.stop _ S2 H2 _ l2z r2 st (Nat.le_refl _), ?_⟩
    have r5 := R.ghostC (c := .dic acc) (fun _ _ z => by cases z) r2 hG fun w' l' => ⟨xs, r2.G D _ upd_same, rl.mono (w := ⟨rho, F, w1.G⟩) ⟨l'.rho, l'.F⟩⟩
    refine p2 ⟨rho ++ [D], F, w1.G⟩ H2 ⟨⟨⟨[D], rfl⟩, Same.refl _⟩, rfl⟩ r5 _ (.adr ?_)
    show (rho ++ [D])[S2.length]? = some D
    have hlen : rho.length = S2.length := r2.len
    rw [← hlen, List.getElem?_append_right (Nat.le_refl _), Nat.sub_self]
    rfl
section
variable {X : Cx} {W : WZ} {pos : Pos} {kx' vx tg iter : Expr} {ifs : List Expr} {scope : Scope} {own : List (Str × Nat)} {ms : IW} {g : TG} {gi : IV → Slots → Option Slots} {tt : IT} {tk tv : IE}
theorem de_dc (hc : X.calm = true) (hN : X.N.Nodup) (hi : DI X W tg iter ms) (ok : BlkOk X.N X.env.scope scope own)
    (hg : ∀ (s : Shared) (H : Hp) (C : Addr) (cl : List (Str × Addr)) (fp : List Addr), PG (X.blk s H scope (compEnvC scope cl C X.env) fp) tg g) (hgc : GC (kx X W) (own.map (·.2)) g gi) (ht : ∀ (s : Shared) (H : Hp) (C : Addr) (cl : List (Str × Addr)) (fp : List Addr), DTs (X.blk s H scope (compEnvC scope cl C X.env) fp) ⟨W0, W.ex⟩ ifs tt)
    (hk : ∀ (s : Shared) (H : Hp) (C : Addr) (cl : List (Str × Addr)) (fp : List Addr), DE (X.blk s H scope (compEnvC scope cl C X.env) fp) ⟨W0, W.ex⟩ kx' tk)
    (he : ∀ (s : Shared) (H : Hp) (C : Addr) (cl : List (Str × Addr)) (fp : List Addr), DE (X.blk s H scope (compEnvC scope cl C X.env) fp) ⟨W0, W.ex⟩ vx tv) (hs : ∀ x, foldedSetIterable iter X.env x = pure x := by intro _; rfl) (hx : W.ex = none := by rfl) :
    DE X W (.DictComp kx' vx [⟨tg, iter, ifs, 0⟩] scope pos) (iDc ms gi tt tk tv (own.map (·.2))) :=
  (pe_dc hc hN hi ok hg ht hk he hs).imp fun σ H Q h => dc_M hgc hx h
end
end Sm
namespace Sm
open PySem PySem.Spec PyProof.Rows L2
/-- a, b = x, y -/
def iPar (i j : Nat) (ma : IA) : IS := fun Λ S => (ma Λ S).bind fun xs S1 => a2 xs fun x y => .ok (.nx ((Λ.set i (some x)).set j (some y))) S1
theorem ds_par {X : Cx} {W : WZ} {pos : Pos} {x y : Str} {a b : Expr} {ma : IA} {px py pt : Pos} {kt k2 pt2} (i j : Nat) (hc : X.calm = true) (hN : X.N.Nodup) (ha : DA X W [a, b] ma) (hij : i ≠ j := by decide) (hi : X.N[i]? = some x := by rfl) (hj : X.N[j]? = some y := by rfl)
    (hx : X.env.scope.names.lookup x = some .local := by rfl) (hy : X.env.scope.names.lookup y = some .local := by rfl)
    (hw : swappedStores [.Tuple [.Name x px, .Name y py] kt pt] (.Tuple [a, b] k2 pt2) X.env = pure (some [x, y]) := by rfl)
    (hs : swapsWithSole [.Tuple [.Name x px, .Name y py] kt pt] (.Tuple [a, b] k2 pt2) pos.line X.env = pure false := by rfl) :
    DS X W (.Assign [.Tuple [.Name x px, .Name y py] kt pt] (.Tuple [a, b] k2 pt2) pos) (iPar i j ma) :=
  (ps_par hc hN hi hj hij hx hy ha hw hs).imp fun D σ H ⟨w, S, Λ, r0, s0, p⟩ => ⟨w, S, Λ, r0, s0, p.bind.imp fun w1 H1 S1 ix l1 r1 p1 vs rvs => by
    obtain ⟨v, x, u, y, rfl, rfl, rv, ru, q⟩ := a2_post p1 rvs
    exact ⟨v, u, rfl, q.now r1 _ (((s0.up l1).set i rv).set j ru)⟩⟩
end Sm
namespace Sm
open PySem PySem.Spec PyProof.Rows L2
theorem de_gint {X : Cx} {W : WZ} {x : Str} {z : Int} {pos : Pos} {t : Tok} (hm : X.mg x = some (.int z t)) (hg : Gl X x := by rfl) (hd : (x == ("__debug__" : Str)) = false := by decide) : DE X W (.Name x pos) (iC (.int z)) :=
  de_c (pe_glob hg hm (v := .int z) ⟨t, rfl⟩ hd) fun _ => .int z
end Sm
namespace Sm
open PySem PySem.Spec PyProof.Rows L2
section
variable {K : PySem.W.Frag} {t : Value} {D : Addr} {b : Bool}
theorem em_mk {cls : Value} (ex : PySem.W.subIn K (.ref D) (.type "BaseException") = some true) (hd : PySem.W.hasDictIn K D = true) (ty : PySem.W.typeIn K (.ref D) = some (.type "type")) (su : PySem.W.subIn K cls (.ref D) = some b) : PySem.W.exmOne K cls (.ref D) = some b := PySem.W.exm_ref ex hd ty su
theorem kit_mk (hd : PySem.W.hasDictIn K D = true) (ty : PySem.W.typeIn K (.ref D) = some (.type "type")) (su : PySem.W.subIn K t (.ref D) = some b) : PySem.W.kitCls K t (.ref D) = some b := by
  obtain ⟨cd, hc, _⟩ := PySem.W.any_some hd
  have e2 : ((PySem.W.clsIn K D).isSome && PySem.W.typeIn K (.ref D) == some (.type "type")) = true := by rw [hc, ty] <;> rfl
  show (if ((PySem.W.clsIn K D).isSome && PySem.W.typeIn K (.ref D) == some (.type "type")) = true then PySem.W.subIn K t (.ref D) else none) = some b
  rw [if_pos e2]
  exact su
theorem ko_t (hd : PySem.W.hasDictIn K D = true) (ty : PySem.W.typeIn K (.ref D) = some (.type "type")) (su : PySem.W.subIn K t (.ref D) = some true) : PySem.W.kitOne K t (.ref D) = some true := by
  unfold PySem.W.kitOne
  split
  · rfl
  · exact kit_mk hd ty su
theorem ko_f (hd : PySem.W.hasDictIn K D = true) (ty : PySem.W.typeIn K (.ref D) = some (.type "type")) (su : PySem.W.subIn K t (.ref D) = some false) (ne : (t == .ref D) = false) : PySem.W.kitOne K t (.ref D) = some false := by
  unfold PySem.W.kitOne
  rw [ne, if_neg Bool.false_ne_true]
  exact kit_mk hd ty su
theorem ko_ty {C : Addr} {T : String} (mt : PySem.W.kitMeta T = true) (su : PySem.W.subIn K (.ref C) (.type T) = some b) : PySem.W.kitOne K (.ref C) (.type T) = some b := by
  unfold PySem.W.kitOne
  rw [show ((Value.ref C) == Value.type T) = false from rfl, if_neg Bool.false_ne_true]
  show (if PySem.W.kitMeta T = true then PySem.W.subIn K (.ref C) (.type T) else none) = some b
  rw [if_pos mt]
  exact su
end
end Sm

/-! repr of data -/
namespace Sm
open PySem PySem.Spec PyProof.Rows L2
/-- data that may be shown -/
def okShow (d : PyData) : Bool := d.layable0 && d.intsShort 13 && d.showable
theorem call_reprD {X : Cx} {k : Nat} (hr : RmG k X.A) : CallR X (.builtin "repr") (fun xs H Q => ∃ p d, xs = [.ref p] ∧ Dp X.K H (.ref p) d ∧ okShow d = true ∧ Q (.str d.shown) H) := by
  intro pins s σ H xs us Q I r h
  obtain ⟨p, d, rfl, D, ok, q⟩ := h
  obtain ⟨u, rfl, ru⟩ := vals1 r
  obtain rfl : u = Value.ref p := ru
  obtain ⟨as, rd⟩ := Dp.reads I d _ _ D rfl
  obtain ⟨ok1, ok3⟩ := Bool.and_eq_true_iff.mp ok
  obtain ⟨ok1, ok2⟩ := Bool.and_eq_true_iff.mp ok1
  have hd : d.depth ≤ 64 := by
    have z : (PyData.canLay0 d && decide (PyData.depth d ≤ 64) && decide (PyData.weight d ≤ 2 ^ 20)) = true := ok1
    simp only [Bool.and_eq_true, decide_eq_true_eq] at z
    exact z.1.2
  have hu : X.A.units + (d.depth + 1) < cLine := by
    have := hr.un
    omega
  exact PySem.repr_of_reads' rd ok3 (PyData.noDict_hsm (PyData.hasDict_of_layable ok1)) hr.gd hu (fun _ _ e => e) (fun h' t tk hk => ⟨.str d.shown, H, I.kept hk, ⟨t, rfl⟩, q⟩) (PyData.shown_fits_of_layable0 (B := 13) (by decide) (by decide) ok1 ok2)
def isRf : IV → Bool
  | .lst _ => true
  | .wls _ => true
  | .tup _ => true
  | .adr _ => true
  | _ => false
def fRepr (xs : List IV) (S : Sto) : Out IV := a1 xs fun x => orBad (view 8 S x) fun d => chk (isRf x = true ∧ okShow d = true) (.ok (.str d.shown) S)
theorem cs_repr {K : KX} {W : WX} : CaS K W (fun xs H Q => ∃ p d, xs = [.ref p] ∧ Dp K.k H (.ref p) d ∧ okShow d = true ∧ Q (.str d.shown) H) fRepr := fun w S H xs ix Q r rx p => by
  obtain ⟨v, x, rfl, rfl, rv, p⟩ := a1_post p rx
  obtain ⟨d, e, p⟩ := orBad_post p
  obtain ⟨⟨c1, c2⟩, p⟩ := chk_post p
  have D := view_dp r 8 x d v e rv
  have : ∃ a, v = .ref a := by
    cases rv with
    | adr _ => exact ⟨_, rfl⟩
    | lst _ _ => exact ⟨_, rfl⟩
    | wls _ _ => exact ⟨_, rfl⟩
    | tup _ _ => exact ⟨_, rfl⟩
    | _ => cases c1
  obtain ⟨a, rfl⟩ := this
  exact ⟨a, d, rfl, D, c2, p.now r _ (.str _)⟩
/-- xs[::-1] -/
def fRev (x : IV) (S : Sto) : Out IV := orBad (lstOf S x) fun xs => mkF xs.reverse S
theorem de_rev {X : Cx} {W : WZ} {e : Expr} {m : IE} {k : Nat} {p1 p2 p3 pos : Pos} (he : DE X W e m) : DE X W (.Subscript e (.Slice none none (some (.UnaryOp .USub (.Constant (.int 1) k p1) p2)) p3) pos) (iUn fRev m) :=
  (pe_revL he).imp fun σ H Q ⟨w, S, Λ, r0, s0, p⟩ => ⟨w, S, Λ, r0, s0, p.bind.imp fun w1 H1 S1 ix l1 r1 p1 v1 rv1 => by
    obtain ⟨ys, e, q⟩ := orBad_post p1
    obtain ⟨a, xs, rfl, h1, h2⟩ := lstOf_sq e r1 rv1
    exact ⟨a, xs, rfl, h1, (mkL_post (cell := false) q r1 h2.reverse).2⟩⟩
end Sm

/-! tools for the mathematics: stores that grow, comprehensions, loops -/
namespace Sm
open PySem PySem.Spec PyProof.Rows L2
theorem szL : (sizeLine : Nat) = 16777216 := sizeLine_eq
/-- S' is S with new cells; of the old ones only those of ds may differ -/
def Ext (ds : List Nat) (S S' : Sto) : Prop := S.length ≤ S'.length ∧ ∀ m c, S[m]? = some c → m ∉ ds → S'[m]? = some c
section
variable {ds es : List Nat} {S S1 S2 : Sto} {n : Nat} {c : Cell}
theorem Ext.refl : Ext ds S S := ⟨Nat.le_refl _, fun _ _ h _ => h⟩
theorem Ext.get (h : Ext ds S S1) (e : S[n]? = some c) (hn : n ∉ ds := by simp) : S1[n]? = some c := h.2 n c e hn
theorem lt_some {α : Type} {xs : List α} {i : Nat} {x : α} (h : xs[i]? = some x) : i < xs.length := (List.getElem?_eq_some_iff.mp h).1
theorem Ext.trans' (h : Ext ds S S1) (k : Ext es S1 S2) (he : ∀ e ∈ es, e ∈ ds ∨ S.length ≤ e) : Ext ds S S2 :=
  ⟨Nat.le_trans h.1 k.1, fun m c e hm => k.2 m c (h.2 m c e hm) fun z => (he m z).elim hm fun l => absurd (lt_some e) (by omega)⟩
theorem Ext.trans (h : Ext ds S S1) (k : Ext ds S1 S2) : Ext ds S S2 := h.trans' k fun _ z => .inl z
theorem Ext.up (h : Ext ds S S1) (hs : ∀ e ∈ ds, e ∈ es) : Ext es S S1 := ⟨h.1, fun m c e hm => h.2 m c e fun z => hm (hs m z)⟩
theorem Ext.nil (h : Ext [] S S1) : Ext ds S S1 := h.up fun _ z => by cases z
theorem Ext.app (T : Sto) : Ext ds S (S ++ T) := ⟨by simp, fun m c e _ => by rw [List.getElem?_append_left (lt_some e)]; exact e⟩
theorem Ext.set (hn : n ∈ ds ∨ S.length ≤ n) : Ext ds S (S.set n c) := ⟨by simp, fun m d e hm => by
  have : n ≠ m := fun z => hn.elim (fun q => hm (z ▸ q)) fun q => absurd (lt_some e) (by omega)
  rw [List.getElem?_set_ne this]; exact e⟩
theorem get_new (S : Sto) (c : Cell) : (S ++ [c])[S.length]? = some c := by simp
theorem get_setS (h : S[n]? = some c) (d : Cell) : (S.set n d)[n]? = some d := List.getElem?_set_self (lt_some h)
end
/-! ### statements, one by one -/
section
variable {Λ Λ1 : Slots} {S S1 : Sto} {a b : IS} {m : IE} {v : IV} {i : Nat} {o : Out Fl} {c : IT}
theorem sq_ok (h : a Λ S = .ok (.nx Λ1) S1) : iSeq a b Λ S = b Λ1 S1 := by rw [iSeq_e, h]; rfl
theorem sq_rt (h : a Λ S = .ok (.rt v) S1) : iSeq a b Λ S = .ok (.rt v) S1 := by rw [iSeq_e, h]; rfl
theorem sq_bk (h : a Λ S = .ok (.bk Λ1) S1) : iSeq a b Λ S = .ok (.bk Λ1) S1 := by rw [iSeq_e, h]; rfl
theorem sq_ct (h : a Λ S = .ok (.ct Λ1) S1) : iSeq a b Λ S = .ok (.ct Λ1) S1 := by rw [iSeq_e, h]; rfl
theorem sq_ex {C : Str} {n : Nat} {L : Slots} (h : a Λ S = .exc C n L S1) : iSeq a b Λ S = .exc C n L S1 := by rw [iSeq_e, h]; rfl
theorem st_ok (h : m Λ S = .ok v S1) : iSet i m Λ S = .ok (.nx (Λ.set i (some v))) S1 := by rw [iSet_e, h]; rfl
theorem dr_ok (h : m Λ S = .ok v S1) : iDrop m Λ S = .ok (.nx Λ) S1 := by rw [iDrop_e, h]; rfl
theorem rt_ok (h : m Λ S = .ok v S1) : iRet m Λ S = .ok (.rt v) S1 := by rw [iRet_e, h]; rfl
theorem if_ff {α : Type} {a b : Slots → Sto → Out α} (h : c Λ S = .ok false S1) : iIf c a b Λ S = b Λ S1 := by rw [iIf_e, h]; rfl
theorem if_tt {α : Type} {a b : Slots → Sto → Out α} (h : c Λ S = .ok true S1) : iIf c a b Λ S = a Λ S1 := by rw [iIf_e, h]; rfl
theorem md_rt {n : Nat} {b : IS} {xs : List IV} (h : b (xs.map some ++ List.replicate (n - xs.length) none) S = .ok (.rt v) S1) : mDef n b xs S = .ok v S1 := mDef_rt h
theorem md_nx {n : Nat} {b : IS} {xs : List IV} (h : b (xs.map some ++ List.replicate (n - xs.length) none) S = .ok (.nx Λ1) S1) : mDef n b xs S = .ok .non S1 := by rw [mDef_e, h]
theorem md_ex {n : Nat} {b : IS} {xs : List IV} {C : Str} {k : Nat} {L : Slots} (h : b (xs.map some ++ List.replicate (n - xs.length) none) S = .exc C k L S1) : mDef n b xs S = .exc C k [] S1 := by rw [mDef_e, h]
end
/-! ### comprehensions -/
section
variable {α : Type} {cell : Bool} {ms : IW} {gi : IV → Slots → Option Slots} {tt : IT} {te : IE} {vs : List Nat} {Λ : Slots} {S S1 : Sto} {k : Option Nat}
theorem lcgo_map {s : Src} (e : α → IV) (T : α → Bool) (F : α → IV) (st : s.stay S) : ∀ (as : List α) (acc : List IV), (∀ a ∈ as, ∃ L, gi (e a) Λ = some L ∧ tt L S = .ok (T a) S ∧ (T a = true → te L S = .ok (F a) S)) → acc.length + as.length ≤ sizeLine →
    iLcGo s gi tt te (as.map e) Λ S acc = .ok (acc ++ (as.filter T).map F) S
  | [], acc, _, _ => by show iLcGo s gi tt te [] Λ S acc = _; unfold iLcGo; rw [chkP_pos st]; simp
  | a :: as, acc, h, hl => by
    obtain ⟨L, h1, h2, h3⟩ := h a List.mem_cons_self
    rw [List.length_cons] at hl
    show iLcGo s gi tt te (e a :: as.map e) Λ S acc = _
    unfold iLcGo
    rw [chkP_pos st, h1, orBad_some, h2, noX_ok, Out.bind_ok]
    cases hT : T a with
    | true =>
      rw [if_pos rfl, h3 hT, noX_ok, Out.bind_ok, chk_pos (by omega), lcgo_map e T F st as _ (fun b hb => h b (List.mem_cons_of_mem _ hb)) (by rw [List.length_append, List.length_singleton]; omega), List.filter_cons, hT]
      simp
    | false =>
      rw [if_neg Bool.false_ne_true, lcgo_map e T F st as _ (fun b hb => h b (List.mem_cons_of_mem _ hb)) (by omega), List.filter_cons, hT]
      simp
/-- a comprehension that changes nothing -/
theorem lc_map (as : List α) (e : α → IV) (T : α → Bool) (F : α → IV) (hs : ms Λ S = .ok ⟨as.map e, k⟩ S1) (st : Src.stay ⟨as.map e, k⟩ S1)
    (h : ∀ a ∈ as, ∃ L, gi (e a) (wipeI Λ vs) = some L ∧ tt L S1 = .ok (T a) S1 ∧ (T a = true → te L S1 = .ok (F a) S1)) (hl : as.length ≤ sizeLine) : iLc cell ms gi tt te vs Λ S = mkL cell ((as.filter T).map F) S1 := by
  rw [iLc_e, hs]
  simp only [Out.bind_ok]
  rw [lcgo_map e T F st as [] h (by simpa using hl)]
  rfl
theorem lcgo_inv {s : Src} (hk : s.keep = none) (e : α → IV) (I : Nat → Sto → Prop) (P : IV → Prop) : ∀ (as : List α) (i : Nat) (S : Sto) (acc : List IV), I i S → (∀ j S a, as[j]? = some a → I (i + j) S → ∃ L v S', gi (e a) Λ = some L ∧ te L S = .ok v S' ∧ P v ∧ I (i + j + 1) S') → acc.length + as.length ≤ sizeLine →
    ∃ ys S', iLcGo s gi iYes te (as.map e) Λ S acc = .ok (acc ++ ys) S' ∧ ys.length = as.length ∧ (∀ y ∈ ys, P y) ∧ I (i + as.length) S'
  | [], i, S, acc, h0, _, _ => ⟨[], S, by
      show iLcGo s gi iYes te [] Λ S acc = _
      unfold iLcGo
      rw [chkP_pos (by unfold Src.stay; rw [hk]; trivial)]
      simp, rfl, (fun _ z => by cases z), h0⟩
  | a :: as, i, S, acc, h0, h, hl => by
    obtain ⟨L, v, S1, h1, h2, h3, h4⟩ := h 0 S a rfl h0
    rw [List.length_cons] at hl
    obtain ⟨ys, S', e1, e2, e3, e4⟩ := lcgo_inv hk e I P as (i + 1) S1 (acc ++ [v]) h4 (fun j S b hb hI => by
      have := h (j + 1) S b (by simpa using hb)
      rw [show i + (j + 1) = i + 1 + j by omega] at this
      exact this hI) (by rw [List.length_append, List.length_singleton]; omega)
    refine ⟨v :: ys, S', ?_, by rw [List.length_cons, e2, List.length_cons], fun y hy => ?_, by rw [List.length_cons, show i + (as.length + 1) = i + 1 + as.length by omega]; exact e4⟩
    · show iLcGo s gi iYes te (e a :: as.map e) Λ S acc = _
      unfold iLcGo
      rw [chkP_pos (by unfold Src.stay; rw [hk]; trivial), h1, orBad_some]
      show ((noX (Out.ok true S)).bind _) = _
      rw [noX_ok, Out.bind_ok, if_pos rfl, h2, noX_ok, Out.bind_ok, chk_pos (by omega), e1]
      simp
    · rcases List.mem_cons.mp hy with rfl | hy
      · exact h3
      · exact e3 y hy
/-- a comprehension whose items change the store, kept by I -/
theorem lc_inv (as : List α) (e : α → IV) (I : Nat → Sto → Prop) (P : IV → Prop) (hs : ms Λ S = .ok ⟨as.map e, none⟩ S1) (h0 : I 0 S1)
    (h : ∀ i S a, as[i]? = some a → I i S → ∃ L v S', gi (e a) (wipeI Λ vs) = some L ∧ te L S = .ok v S' ∧ P v ∧ I (i + 1) S') (hl : as.length ≤ sizeLine) :
    ∃ ys S', iLc cell ms gi iYes te vs Λ S = mkL cell ys S' ∧ ys.length = as.length ∧ (∀ y ∈ ys, P y) ∧ I as.length S' := by
  obtain ⟨ys, S', e1, e2, e3, e4⟩ := lcgo_inv (s := ⟨as.map e, none⟩) (gi := gi) (te := te) (Λ := wipeI Λ vs) rfl e I P as 0 S1 [] h0 (fun j S a ha hI => by
    rw [Nat.zero_add] at hI
    have := h j S a ha hI
    rw [Nat.zero_add]
    exact this) (by simpa using hl)
  refine ⟨ys, S', ?_, e2, e3, by rw [Nat.zero_add] at e4; exact e4⟩
  rw [iLc_e, hs]
  simp only [Out.bind_ok]
  rw [e1]
  rfl
end
/-! ### loops -/
/-- a loop is left by its body: a value, an exception -/
inductive Left : Out Fl → Prop
  | rt (v : IV) (S : Sto) : Left (.ok (.rt v) S)
  | ex (C : Str) (n : Nat) (L : Slots) (S : Sto) : Left (.exc C n L S)
section
variable {α : Type} {ms : IW} {g : IG} {b : IS} {c : IT} {Λ : Slots} {S S1 : Sto} {k : Option Nat}
theorem iter_gen {s : Src} (e : α → IV) (I : Nat → Slots → Sto → Prop) (E : Out Fl → Prop) (st : ∀ i Λ S, I i Λ S → s.stay S) : ∀ (as : List α) (i : Nat) (Λ : Slots) (S : Sto), I i Λ S →
    (∀ j Λ S a, as[j]? = some a → I (i + j) Λ S → ∃ Λ1 S1, g (e a) Λ S = .ok Λ1 S1 ∧ ((∃ Λ2 S2, (b Λ1 S1 = .ok (.nx Λ2) S2 ∨ b Λ1 S1 = .ok (.ct Λ2) S2) ∧ I (i + j + 1) Λ2 S2) ∨ (Left (b Λ1 S1) ∧ E (b Λ1 S1)))) →
    (∃ Λ' S', iIter s g b (as.map e) Λ S = .ok (.nx Λ') S' ∧ I (i + as.length) Λ' S') ∨ (Left (iIter s g b (as.map e) Λ S) ∧ E (iIter s g b (as.map e) Λ S))
  | [], i, Λ, S, h0, _ => .inl ⟨Λ, S, by show iIter s g b [] Λ S = _; unfold iIter; rw [chkP_pos (st i Λ S h0)], h0⟩
  | a :: as, i, Λ, S, h0, h => by
    obtain ⟨Λ1, S1, h1, h2⟩ := h 0 Λ S a rfl h0
    have go : iIter s g b ((a :: as).map e) Λ S = (b Λ1 S1).bind fun fl S2 => match fl with
        | .nx L => iIter s g b (as.map e) L S2
        | .ct L => iIter s g b (as.map e) L S2
        | .bk L => .ok (.nx L) S2
        | .rt v => .ok (.rt v) S2 := by
      show iIter s g b (e a :: as.map e) Λ S = _
      rw [iIter, chkP_pos (st i Λ S h0), h1]
      rfl
    rcases h2 with ⟨Λ2, S2, h2, h3⟩ | ⟨h2, h3⟩
    · have go2 : iIter s g b ((a :: as).map e) Λ S = iIter s g b (as.map e) Λ2 S2 := by
        rw [go]
        rcases h2 with h2 | h2 <;> rw [h2] <;> rfl
      rw [go2]
      have := iter_gen e I E st as (i + 1) Λ2 S2 h3 fun j Λ S x hx hI => by
        have z := h (j + 1) Λ S x (by simpa using hx)
        rw [show i + (j + 1) = i + 1 + j by omega] at z
        exact z hI
      rw [show i + 1 + as.length = i + (a :: as).length by rw [List.length_cons]; omega] at this
      exact this
    · right
      have : iIter s g b ((a :: as).map e) Λ S = b Λ1 S1 := by
        rw [go]
        generalize b Λ1 S1 = o at h2
        cases h2 <;> rfl
      rw [this]
      exact ⟨h2, h3⟩
/-- a for with its invariant; E: what is told where the body leaves it -/
theorem for_gen (as : List α) (e : α → IV) (I : Nat → Slots → Sto → Prop) (E : Out Fl → Prop) (hs : ms Λ S = .ok ⟨as.map e, k⟩ S1) (h0 : I 0 Λ S1) (st : ∀ i Λ S, I i Λ S → Src.stay ⟨as.map e, k⟩ S)
    (h : ∀ i Λ S a, as[i]? = some a → I i Λ S → ∃ Λ1 S1, g (e a) Λ S = .ok Λ1 S1 ∧ ((∃ Λ2 S2, (b Λ1 S1 = .ok (.nx Λ2) S2 ∨ b Λ1 S1 = .ok (.ct Λ2) S2) ∧ I (i + 1) Λ2 S2) ∨ (Left (b Λ1 S1) ∧ E (b Λ1 S1)))) :
    (∃ Λ' S', iFor ms g b Λ S = .ok (.nx Λ') S' ∧ I as.length Λ' S') ∨ (Left (iFor ms g b Λ S) ∧ E (iFor ms g b Λ S)) := by
  have := iter_gen (s := ⟨as.map e, k⟩) (g := g) (b := b) e I E st as 0 Λ S1 h0 fun j Λ S a ha hI => by
    rw [Nat.zero_add] at hI ⊢
    exact h j Λ S a ha hI
  rw [iFor_e, hs, Out.bind_ok]
  rw [Nat.zero_add] at this
  exact this
/-- .. that is never left -/
theorem for_inv (as : List α) (e : α → IV) (I : Nat → Slots → Sto → Prop) (hs : ms Λ S = .ok ⟨as.map e, k⟩ S1) (h0 : I 0 Λ S1) (st : ∀ i Λ S, I i Λ S → Src.stay ⟨as.map e, k⟩ S)
    (h : ∀ i Λ S a, as[i]? = some a → I i Λ S → ∃ Λ1 S1 Λ2 S2, g (e a) Λ S = .ok Λ1 S1 ∧ b Λ1 S1 = .ok (.nx Λ2) S2 ∧ I (i + 1) Λ2 S2) :
    ∃ Λ' S', iFor ms g b Λ S = .ok (.nx Λ') S' ∧ I as.length Λ' S' := by
  rcases for_gen as e I (fun _ => False) hs h0 st (fun i Λ S a ha hI => by
    obtain ⟨Λ1, S1, Λ2, S2, h1, h2, h3⟩ := h i Λ S a ha hI
    exact ⟨Λ1, S1, h1, .inl ⟨Λ2, S2, .inl h2, h3⟩⟩) with z | ⟨_, z⟩
  · exact z
  · exact z.elim
theorem wh_ex {o : Out Fl} (h : iWhile c b Λ S = o) (hn : o ≠ .bad) : ∃ n, iWh c b n Λ S = o := by
  unfold iWhile at h
  split at h
  · exact ⟨_, h⟩
  · exact absurd h.symm hn
theorem wh_f (hc : c Λ S = .ok false S1) : iWhile c b Λ S = .ok (.nx Λ) S1 := iWhile_of (n := 1) (by unfold iWh; rw [hc]; rfl) (by simp)
theorem wh_t {L : Slots} {S2 : Sto} {o : Out Fl} (hc : c Λ S = .ok true S1) (hb : b Λ S1 = .ok (.nx L) S2) (h : iWhile c b L S2 = o) (hn : o ≠ .bad) : iWhile c b Λ S = o := by
  obtain ⟨n, e⟩ := wh_ex h hn
  exact iWhile_of (n := n + 1) (by unfold iWh; rw [hc, Out.bind_ok, if_pos rfl, hb]; exact e) hn
theorem wh_l (hc : c Λ S = .ok true S1) (hb : Left (b Λ S1)) : iWhile c b Λ S = b Λ S1 := by
  generalize e : b Λ S1 = o at hb
  cases hb with
  | rt v S2 => exact iWhile_of (n := 1) (by unfold iWh; rw [hc, Out.bind_ok, if_pos rfl, e]; rfl) (by simp)
  | ex C n L S2 => exact iWhile_of (n := 1) (by unfold iWh; rw [hc, Out.bind_ok, if_pos rfl, e]; rfl) (by simp)
/-- a while with its invariant and a number that falls -/
theorem while_gen (I : Nat → Slots → Sto → Prop) (E : Out Fl → Prop) (hE : ¬ E .bad)
    (h : ∀ n Λ S, I n Λ S → (∃ S1, c Λ S = .ok false S1 ∧ E (.ok (.nx Λ) S1)) ∨ ∃ S1, c Λ S = .ok true S1 ∧ ((∃ m Λ2 S2, m < n ∧ b Λ S1 = .ok (.nx Λ2) S2 ∧ I m Λ2 S2) ∨ (Left (b Λ S1) ∧ E (b Λ S1)))) :
    ∀ n Λ S, I n Λ S → E (iWhile c b Λ S) := by
  intro n
  induction n using Nat.strongRecOn with
  | ind n ih =>
    intro Λ S hI
    rcases h n Λ S hI with ⟨S1, h1, h2⟩ | ⟨S1, h1, ⟨m, Λ2, S2, h2, h3, h4⟩ | ⟨h2, h3⟩⟩
    · rw [wh_f h1]; exact h2
    · have z := ih m h2 Λ2 S2 h4
      rw [wh_t h1 h3 rfl (fun q => hE (q ▸ z))]
      exact z
    · rw [wh_l h1 h2]; exact h3
end
theorem rangeI_map (lo : Int) (n : Nat) : rangeI lo n = (List.range n).map fun i : Nat => IV.int (lo + i) := rfl
end Sm

set_option maxHeartbeats 1000000
/-! what the laws have in common: draws, sources, the walk over the script -/
namespace Lw
open PySem PySem.Spec PyProof.Rows L2 Sm
/-- the draws' state: a list of three ints at n; K bounds how often was drawn -/
def Dr (S : Sto) (n : Nat) (K : Nat) : Prop := ∃ a b c : Int, S[n]? = some (.lst [.int a, .int b, .int c]) ∧ 0 ≤ c ∧ c ≤ K
theorem Dr.up {S : Sto} {n K M : Nat} (h : Dr S n K) (l : K ≤ M) : Dr S n M := by
  obtain ⟨a, b, c, e, c0, c1⟩ := h
  exact ⟨a, b, c, e, c0, by omega⟩
theorem Dr.lt {S : Sto} {n K : Nat} (h : Dr S n K) : n < S.length := by
  obtain ⟨a, b, c, e, _⟩ := h
  exact lt_some e
theorem Dr.ext {S S' : Sto} {n K : Nat} {ds : List Nat} (h : Dr S n K) (x : Ext ds S S') (hn : n ∉ ds := by simp) : Dr S' n K := by
  obtain ⟨a, b, c, e, c0, c1⟩ := h
  exact ⟨a, b, c, x.get e hn, c0, c1⟩
def drawB (A B C M Hh N : Int) : IS := (iSeq (iIf (iTest (iBin fGt (iBin fIx (iVar 0) (iC (.int 0))) (iC (.int 0)))) (iSeq (iSet 2 (iBin fMod (iCa fInt (iCons (iBin fIx (iVar 0) (iC (.int 0))) iNil)) (iVar 1))) (iSeq (iAsg (iBin fDiv (iBin fIx (iVar 0) (iC (.int 0))) (iVar 1)) (iGSub (iVar 0) (iC (.int 0)))) (iRet (iVar 2)))) iNext)
  (iSeq (iAsg (iBin fAdd (iBin fIx (iVar 0) (iC (.int 2))) (iC (.int 1))) (iGSub (iVar 0) (iC (.int 2)))) (iSeq (iAsg (iBin fMod (iCa fInt (iCons (iBin fAdd (iBin fAdd (iBin fMul (iBin fIx (iVar 0) (iC (.int 1))) (iC (.int A))) (iBin fMul (iBin fMul (iBin fIx (iVar 0) (iC (.int 2))) (iBin fIx (iVar 0) (iC (.int 2)))) (iC (.int B)))) (iC (.int C))) iNil)) (iC (.int M))) (iGSub (iVar 0) (iC (.int 1))))
  (iSeq (iSet 3 (iBin fDiv (iBin fIx (iVar 0) (iC (.int 1))) (iC (.int Hh)))) (iRet (iBin fMod (iBin fMod (iCa fInt (iCons (iBin fAdd (iBin fMul (iVar 3) (iVar 3)) (iBin fIx (iVar 0) (iC (.int 1)))) iNil)) (iC (.int N))) (iVar 1)))))))
structure DrC (A B M Hh N : Int) : Prop where
  a : -(2 ^ 64) < A ∧ A < 2 ^ 64
  b : -(2 ^ 64) < B ∧ B < 2 ^ 64
  m : 0 < M
  m2 : M ≤ 2147483648
  h : 0 < Hh ∧ Hh < 1073741824
  n : 0 < N
theorem draw_ok {A B C M Hh N : Int} (k : DrC A B M Hh N) {S : Sto} {n K : Nat} {m : Int} (h : Dr S n K) (hN : K ≤ 1000000) (h0 : 0 < m) (h1 : m < 1073741824) :
    ∃ r S', mDef 4 (drawB A B C M Hh N) [.adr n, .int m] S = .ok (.int r) S' ∧ 0 ≤ r ∧ r < m ∧ Dr S' n (K + 1) ∧ Ext [n] S S' := by
  obtain ⟨a, b, c, e, c0, c1⟩ := h
  have hn : n < S.length := lt_some e
  have hd : CDiv a m := ⟨h0, h1⟩
  have ex : ∀ c, Ext [n] S (S.set n c) := fun c => Ext.set (.inl (by simp))
  by_cases ha : 0 < a
  · refine ⟨a % m, S.set n (.lst [.int (a / m), .int b, .int c]), mDef_rt ?_, Int.emod_nonneg _ (by omega), Int.emod_lt_of_pos _ h0, ⟨_, _, _, List.getElem?_set_self hn, c0, by omega⟩, ex _⟩
    unfold drawB
    simp [iVar_s, fIx_a e, ha, chk_pos, h0, hd, onL_s e]
  · have hm := k.m
    have hm2 := k.m2
    obtain ⟨hh0, hh1⟩ := k.h
    have hn0 := k.n
    generalize hy : (b * A + (c + 1) * (c + 1) * B + C) % M = y
    have y1 : y < M := hy ▸ Int.emod_lt_of_pos _ hm
    have y0 : 0 ≤ y := hy ▸ Int.emod_nonneg _ (by omega)
    have k1 : CMul b A := .inr ⟨k.a.1, k.a.2⟩
    have k2 : CMul (c + 1) (c + 1) := .inl ⟨by omega, by omega⟩
    have k3 : CMul ((c + 1) * (c + 1)) B := .inr ⟨k.b.1, k.b.2⟩
    have k4 : CDiv y Hh := ⟨hh0, hh1⟩
    have z0 : 0 ≤ y / Hh := Int.ediv_nonneg y0 (by omega)
    have z1 : y / Hh ≤ y := Int.ediv_le_self _ y0
    have k5 : CMul (y / Hh) (y / Hh) := .inl ⟨by omega, by omega⟩
    refine ⟨(y / Hh * (y / Hh) + y) % N % m, S.set n (.lst [.int a, .int y, .int (c + 1)]), mDef_rt ?_, Int.emod_nonneg _ (by omega), Int.emod_lt_of_pos _ h0, ⟨_, _, _, List.getElem?_set_self hn, by omega, by omega⟩, ex _⟩
    have e1 : (S.set n (.lst [.int a, .int b, .int (c + 1)]))[n]? = some (.lst [.int a, .int b, .int (c + 1)]) := List.getElem?_set_self hn
    have e2 : (S.set n (.lst [.int a, .int y, .int (c + 1)]))[n]? = some (.lst [.int a, .int y, .int (c + 1)]) := List.getElem?_set_self hn
    unfold drawB
    simp [iVar_s, fIx_a e, fIx_a e1, fIx_a e2, ha, chk_pos, h0, onL_s e, onL_s e1, k1, k2, k3, hy, k4, k5, hm, hn0]
/-! ### sources -/
def sourceB (P : Int) (cc : Int) (D : Int) : IS := (iSeq (iSet 2 (iIf (iTest (iBin fLt (iVar 1) (iCa fLen (iCons (iVar 0) iNil)))) (iBin fIx (iVar 0) (iVar 1)) (iC (.int 0)))) (iSeq (iSet 3 (iIf (iTest (iBin fGe (iCa fAbs (iCons (iVar 2) iNil)) (iBin fPow (iC (.int 10)) (iC (.int 18))))) (iCa fAbs (iCons (iVar 2) iNil)) (iC (.int 0))))
  (iRet (iLst true (iCons (iVar 3) (iCons (iBin fAdd (iBin fAdd (iBin fMod (iCa fInt (iCons (iVar 2) iNil)) (iC (.int P))) (iBin fMul (iC (.int cc)) (iVar 1))) (iC (.int D))) (iCons (iC (.int 0)) iNil)))))))
theorem source_ok {P cc D : Int} (hP : 0 < P) (hc : -(2 ^ 64) < cc ∧ cc < 2 ^ 64) {S : Sto} {ns : List Int} {i : Nat} : ∃ S', mDef 4 (sourceB P cc D) [.wls (ns.map IV.int), .int i] S = .ok (.adr S.length) S' ∧ Dr S' S.length 0 ∧ Ext [] S S' ∧ S'.length = S.length + 1 := by
  have z3 : (3 : Nat) ≤ sizeLine := by rw [szL]; decide
  have kp : CPow 10 18 := by decide
  have km : CMul cc (i : Int) := .inl ⟨hc.1, hc.2⟩
  obtain ⟨c, hc⟩ : ∃ c : Int, (iIf (iTest (iBin fLt (iVar 1) (iCa fLen (iCons (iVar 0) iNil)))) (iBin fIx (iVar 0) (iVar 1)) (iC (.int 0)) : IE) [some (.wls (ns.map IV.int)), some (.int i), none, none] S = .ok (.int c) S := by
    by_cases h : i < ns.length
    · refine ⟨ns[i], ?_⟩
      have e : atI (ns.map IV.int) (i : Int) = some (.int ns[i]) := atI_nat (by rw [List.getElem?_map, List.getElem?_eq_getElem h]; rfl)
      simp [iVar_s, h, e]
    · refine ⟨0, ?_⟩
      simp [iVar_s, h]
  let a : Int := if (10 : Int) ^ 18 ≤ (if c < 0 then -c else c) then (if c < 0 then -c else c) else 0
  refine ⟨S ++ [.lst [.int a, .int (c % P + cc * i + D), .int 0]], ?_, ⟨_, _, _, get_new _ _, Int.le_refl 0, Int.le_refl 0⟩, .app _, by simp⟩
  refine mDef_rt ?_
  unfold sourceB
  rw [iSeq_e, iSet_e]
  show ((Out.bind (iIf _ _ _ [some (.wls (ns.map IV.int)), some (.int i), none, none] S) _).bind _) = _
  rw [hc]
  by_cases h : (10 : Int) ^ 18 ≤ (if c < 0 then -c else c)
  · have ha : a = (if c < 0 then -c else c) := if_pos h
    have h' : (1000000000000000000 : Int) ≤ (if c < 0 then -c else c) := h
    simp [iVar_s, kp, chk_pos, km, z3, h', hP, ha]
  · have ha : a = 0 := if_neg h
    have h' : ¬ (1000000000000000000 : Int) ≤ (if c < 0 then -c else c) := h
    simp [iVar_s, kp, chk_pos, km, z3, h', hP, ha]
/-! ### range(max(1, min(t, len(script)))) -/
def turns (t : Int) (ns : List Int) : Nat := (if (if (ns.length : Int) < t then (ns.length : Int) else t) > 1 then (if (ns.length : Int) < t then (ns.length : Int) else t) else 1).toNat
def placesW (t : Int) : IW := iSrcR1 (iCa fMax2 (iCons (iC (.int 1)) (iCons (iCa fMin2 (iCons (iC (.int t)) (iCons (iCa fLen (iCons (iVar 0) iNil)) iNil))) iNil)))
theorem places_src {t : Int} (ht : t ≤ 1000) {ns : List Int} {Λ : Slots} {S : Sto} (h0 : Λ[0]? = some (some (.wls (ns.map IV.int)))) (hl : ns.length ≤ 63) : placesW t Λ S = .ok ⟨(List.range (turns t ns)).map fun i : Nat => IV.int i, none⟩ S := by
  unfold placesW turns
  have q : -(2 ^ 62) ≤ (if (if (ns.length : Int) < t then (ns.length : Int) else t) > 1 then (if (ns.length : Int) < t then (ns.length : Int) else t) else 1) ∧ (if (if (ns.length : Int) < t then (ns.length : Int) else t) > 1 then (if (ns.length : Int) < t then (ns.length : Int) else t) else 1) < 2 ^ 62 := by
    split <;> split <;> omega
  simp only [iSrcR1_e, iCa_e, iCons_e, iC_e, iNil_e, Out.bind_ok]
  rw [iVar_s h0]
  simp only [Out.bind_ok, fLen_e, lenN_w, orBad_some, List.length_map, fMin2_i, fMax2_i, asI_i]
  rw [chk_pos q, rangeI_map]
  simp only [Int.zero_add]
theorem src_range {Λ : Slots} {S S1 : Sto} {m : IE} {j : Int} (h : m Λ S = .ok (.int j) S1) (h0 : 0 ≤ j) (h1 : j < 1000000) : iSrcR1 m Λ S = .ok ⟨(List.range j.toNat).map fun i : Nat => IV.int i, none⟩ S1 := by
  rw [iSrcR1_e, h]
  simp only [Out.bind_ok, asI_i]
  rw [chk_pos (⟨by omega, by omega⟩ : -(2 ^ 62) ≤ j ∧ j < 2 ^ 62), rangeI_map]
  simp only [Int.zero_add]
end Lw

set_option maxHeartbeats 2000000
/-! names drawn by the laws -/
namespace Lw
open PySem PySem.Spec PyProof.Rows L2 Sm
def alpha : Str := "abcdefghijklmnopqrstuvwxyz"
theorem alpha_len : alpha.length = 26 := by decide +kernel
theorem alpha_lt {c : Nat} (h : c ∈ sg alpha) : c < 1114112 := by
  have h2 : (sg alpha).all (fun c => decide (c < 1114112)) = true := by decide +kernel
  exact of_decide_eq_true (List.all_eq_true.mp h2 c h)
/-- all signs are letters -/
def Abc (s : Str) : Prop := ∀ c ∈ sg s, c ∈ sg alpha
theorem Abc.ok {s : Str} (h : Abc s) : okS s := fun c hc => alpha_lt (h c hc)
theorem strsOf_map : ∀ zs : List Str, strsOf (zs.map IV.str) = some zs
  | [] => rfl
  | z :: zs => by
    show (strsOf (zs.map IV.str)).map (z :: ·) = _
    rw [strsOf_map zs]; rfl
theorem sum_ones : ∀ {l : List Str}, (∀ z ∈ l, z.length = 1) → (l.map (·.length)).sum = l.length
  | [], _ => rfl
  | z :: l, h => by
    rw [List.map_cons, List.sum_cons, sum_ones fun y hy => h y (List.mem_cons_of_mem _ hy), h z List.mem_cons_self, List.length_cons]
    omega
theorem join_len (zs : List Str) : (PySem.Txt.join ⟨#[]⟩ zs).length = (zs.map (·.length)).sum := by
  rw [← sg_len, sg_join0, List.length_flatten, List.map_map]
  exact congrArg List.sum (List.map_congr_left fun z _ => sg_len z)
theorem join_e {Λ : Slots} {S S1 : Sto} {ma : IE} {zs : List Str} (h : ma Λ S = .ok (.lst (zs.map IV.str)) S1) (h1 : ∀ z ∈ zs, z.length = 1) (hl : zs.length ≤ 1000000) :
    iBM "str" fJoin (iC (.str "")) (iCons ma iNil) Λ S = .ok (.str (PySem.Txt.join ⟨#[]⟩ zs)) S1 := by
  have q2 : (zs.map (·.length)).sum + zs.length * (Str.mk #[]).length ≤ 16777216 := by
    rw [sum_ones h1]
    show _ + _ * 0 ≤ _
    omega
  rw [iBM_e, iC_e, Out.bind_ok, empty_eq, chk_pos (show hasTy "str" S (.str ⟨#[]⟩) = true from rfl), iCons_e, h]
  simp only [Out.bind_ok, iNil_e]
  unfold fJoin
  have q5 : seqOf S1 (.lst (zs.map IV.str)) = some (zs.map IV.str) := rfl
  simp only [asS_s, a1_1, q5, orBad_some, strsOf_map]
  rw [chk_pos q2]
theorem inB_a {S : Sto} {n : Nat} (s : Str) (zs : List Str) (h : S[n]? = some (.lst (zs.map IV.str))) : inB S (.str s) (.adr n) = some (decide (s ∈ zs)) := by
  have e : seqOf S (.adr n) = seqOf S (.lst (zs.map IV.str)) := by
    unfold seqOf tupOf lstOf
    simp only [h]
  have e2 : inB S (.str s) (.adr n) = inB S (.str s) (.lst (zs.map IV.str)) := by
    unfold inB
    simp only [e]
  rw [e2, inB_lst]
theorem app_e {Λ : Slots} {S S1 S2 : Sto} {mo mv : IE} {n : Nat} {xs : List IV} {v : IV} (ho : mo Λ S = .ok (.adr n) S1) (hv : mv Λ S1 = .ok v S2) (h1 : S1[n]? = some (.lst xs)) (h : S2[n]? = some (.lst xs)) (hl : xs.length < 1000000) :
    iBM "list" fApp mo (iCons mv iNil) Λ S = .ok .non (S2.set n (.lst (xs ++ [v]))) := by
  have ht : hasTy "list" S1 (.adr n) = true := by
    unfold hasTy lstOf
    simp only [h1]
    rfl
  rw [iBM_e, ho, Out.bind_ok, chk_pos ht, iCons_e, hv]
  simp only [Out.bind_ok, iNil_e]
  show (a1 [v] fun y => onL S2 (.adr n) _) = _
  rw [a1_1, onL_s h, chk_pos (by rw [szL]; omega)]
theorem atI_sg {c : Int} {z : Str} (h0 : 0 ≤ c) (h1 : c < z.length) : ∃ d, atI z.cps.toList c = some d ∧ d ∈ sg z := atI_lt h0 (by rw [show z.cps.toList.length = z.length from sg_len z]; exact h1)
/-- the names of a pool -/
structure Pool (ps kept : List Str) : Prop where
  abc : ∀ p ∈ ps, Abc p
  len : ∀ p ∈ ps, 1 ≤ p.length ∧ p.length ≤ 5
  nk : ∀ p ∈ ps, p ∉ kept
  nd : ps.Nodup
def keptA : List Str := ["ahead", "all", "as", "at", "call", "class", "def", "end", "for", "from", "keep", "none", "often"]
def keptB : List Str := ["once", "or", "patch", "set", "stand", "start", "stop", "table", "test", "using", "with"]
def keptL : List Str := keptA ++ keptB
def spareS (k : Nat) : Str := ((⟨#[97 + k]⟩ : Str) ++ (⟨#[122 - k]⟩ : Str)) ++ "x"
def spareL : List Str := (List.range 26).map spareS
theorem spare_all : spareL.all (fun s => decide (s.length = 3) && (sg s).all (fun c => decide (c ∈ sg alpha)) && !decide (s ∈ keptL)) = true := by decide +kernel
theorem spare_nd : spareL.Nodup := by decide +kernel
theorem spare_mem {s : Str} (h : s ∈ spareL) : s.length = 3 ∧ Abc s ∧ s ∉ keptL := by
  have := List.all_eq_true.mp spare_all s h
  simp only [Bool.and_eq_true, decide_eq_true_eq, List.all_eq_true, Bool.not_eq_true', decide_eq_false_iff_not] at this
  exact ⟨this.1.1, this.1.2, this.2⟩
/-- of more names than those some is not among them -/
theorem one_free : ∀ (l xs : List Str), l.Nodup → xs.length < l.length → (l.filter fun s => !decide (s ∈ xs)) ≠ []
  | [], xs, _, h => by simp at h
  | s :: l, xs, hd, h => by
    by_cases hs : s ∈ xs
    · have h2 := one_free l (xs.erase s) (List.nodup_cons.mp hd).2 (by rw [List.length_erase_of_mem hs]; rw [List.length_cons] at h; have := List.length_pos_of_mem hs; omega)
      intro z
      rw [List.filter_cons] at z
      simp only [decide_eq_true hs, Bool.not_true, Bool.false_eq_true, if_false] at z
      apply h2
      rw [List.filter_eq_nil_iff] at z ⊢
      intro y hy
      have := z y hy
      simp only [Bool.not_eq_true', decide_eq_false_iff_not, Decidable.not_not] at this ⊢
      have ne : y ≠ s := fun e => (List.nodup_cons.mp hd).1 (e ▸ hy)
      exact (List.mem_erase_of_ne ne).mpr this
    · intro z
      rw [List.filter_cons] at z
      simp [hs] at z
/-! ### a pool of twelve names -/
/-- elt: a letter is drawn (as a text of one sign) -/
noncomputable def poolB (draw elt : IE) : IS := (iSeq (iSet 1 (iLst false (iCons (iC (.str "ahead")) (iCons (iC (.str "all")) (iCons (iC (.str "as")) (iCons (iC (.str "at")) (iCons (iC (.str "call")) (iCons (iC (.str "class")) (iCons (iC (.str "def")) (iCons (iC (.str "end")) (iCons (iC (.str "for")) (iCons (iC (.str "from")) (iCons (iC (.str "keep")) (iCons (iC (.str "none")) (iCons (iC (.str "often")) iNil)))))))))))))))
  (iSeq (iSet 1 (iBin fAdd (iVar 1) (iLst false (iCons (iC (.str "once")) (iCons (iC (.str "or")) (iCons (iC (.str "patch")) (iCons (iC (.str "set")) (iCons (iC (.str "stand")) (iCons (iC (.str "start")) (iCons (iC (.str "stop")) (iCons (iC (.str "table")) (iCons (iC (.str "test")) (iCons (iC (.str "using")) (iCons (iC (.str "with")) iNil))))))))))))))
  (iSeq (iSet 2 (iC (.str "abcdefghijklmnopqrstuvwxyz"))) (iSeq (iSet 3 (iLst true iNil)) (iSeq (iFor (iSrcR1 (iC (.int 12))) (iName 4) (iSeq (iSet 5 (iBin fAdd (iC (.int 1)) draw)) (iSeq (iSet 6 (iBM "str" fJoin (iC (.str "")) (iCons (iLc false (iSrcR1 (iVar 5)) (giN 8) iYes elt [8]) iNil)))
  (iSeq (iIf (iOr (iTest (iBin fIn (iVar 6) (iVar 1))) (iTest (iBin fIn (iVar 6) (iVar 3)))) (iSeq (iSet 7 (iLc false (iSrcR1 (iC (.int 26))) (giN 8) iYes (iBin fAdd (iBin fAdd (iBin fIx (iVar 2) (iVar 8)) (iBin fIx (iVar 2) (iBin fSub (iC (.int 25)) (iVar 8)))) (iC (.str "x"))) [8]))
  (iSet 6 (iBin fIx (iLc false (iSrcL (iVar 7)) (giN 9) (iTest (iBin fNotIn (iVar 9) (iVar 3))) (iVar 9) [9]) (iC (.int 0))))) iNext) (iDrop (iBM "list" fApp (iVar 3) (iCons (iVar 6) iNil))))))) (iRet (iVar 3)))))))
/-- what is asked of a drawing expression: an int below m -/
def DrawsI (m : Int) (n : Nat) (e : IE) : Prop := ∀ (Λ : Slots) (S : Sto) (K : Nat), Λ[0]? = some (some (.adr n)) → Dr S n K → K ≤ 1000000 → ∃ r S', e Λ S = .ok (.int r) S' ∧ 0 ≤ r ∧ r < m ∧ Dr S' n (K + 1) ∧ Ext [n] S S'
def DrawsL (n : Nat) (e : IE) : Prop := ∀ (Λ : Slots) (S : Sto) (K : Nat), Λ[0]? = some (some (.adr n)) → Λ[2]? = some (some (.str alpha)) → Dr S n K → K ≤ 1000000 → ∃ c S', e Λ S = .ok (.str ⟨#[c]⟩) S' ∧ c ∈ sg alpha ∧ Dr S' n (K + 1) ∧ Ext [n] S S'
theorem spare_e {S : Sto} {Λ : Slots} {k : Nat} (hk : k < 26) (h2 : Λ[2]? = some (some (.str alpha))) (h8 : Λ[8]? = some (some (.int k))) :
    (iBin fAdd (iBin fAdd (iBin fIx (iVar 2) (iVar 8)) (iBin fIx (iVar 2) (iBin fSub (iC (.int 25)) (iVar 8)))) (iC (.str "x")) : IE) Λ S = .ok (.str (spareS k)) S := by
  have z : alpha.length ≤ sizeLine := by rw [alpha_len, szL]; decide
  have e1 : atI (sg alpha) (k : Int) = some (97 + k) := by
    refine atI_nat ?_
    have : (List.range 26).all (fun k => (sg alpha)[k]? == some (97 + k)) = true := by decide +kernel
    exact beq_iff_eq.mp (List.all_eq_true.mp this k (List.mem_range.mpr hk))
  have e2 : atI (sg alpha) (25 - (k : Int)) = some (122 - k) := by
    rw [show (25 : Int) - k = ((25 - k : Nat) : Int) by omega]
    refine atI_nat ?_
    have : (List.range 26).all (fun k => (sg alpha)[25 - k]? == some (122 - k)) = true := by decide +kernel
    exact beq_iff_eq.mp (List.all_eq_true.mp this k (List.mem_range.mpr hk))
  have l1 : (Str.mk #[97 + k]).length + (Str.mk #[122 - k]).length ≤ sizeLine := by rw [szL]; show 1 + 1 ≤ _; decide
  have l2 : ((⟨#[97 + k]⟩ : Str) ++ (⟨#[122 - k]⟩ : Str)).length + ("x" : Str).length ≤ sizeLine := by rw [szL, len_app]; show (1 + 1) + 1 ≤ _; decide
  have c1 : (25 : Int) - k ≤ 2 ^ 62 := by omega
  unfold spareS
  simp [iVar_s h2, iVar_s h8, z, chk_pos, e1, e2, l1, l2]
theorem letters_e {n : Nat} {elt : IE} (he : DrawsL n elt) {Λ : Slots} {S : Sto} {K : Nat} {r : Int} (h0 : Λ[0]? = some (some (.adr n))) (h2 : Λ[2]? = some (some (.str alpha))) (h5 : Λ[5]? = some (some (.int r))) (r0 : 0 ≤ r) (r1 : r ≤ 1000) (hd : Dr S n K) (hK : K ≤ 900000) :
    ∃ w S', iBM "str" fJoin (iC (.str "")) (iCons (iLc false (iSrcR1 (iVar 5)) (giN 8) iYes elt [8]) iNil) Λ S = .ok (.str w) S' ∧ Abc w ∧ (w.length : Int) = r ∧ Dr S' n (K + r.toNat) ∧ Ext [n] S S' := by
  have src : iSrcR1 (iVar 5) Λ S = .ok ⟨(List.range r.toNat).map fun i : Nat => IV.int i, none⟩ S := src_range (iVar_s h5) r0 (by omega)
  obtain ⟨ys, S', e1, e2, e3, e4⟩ := lc_inv (cell := false) (gi := giN 8) (te := elt) (vs := [8]) (Λ := Λ) (List.range r.toNat) (fun i : Nat => IV.int i) (fun j S2 => Dr S2 n (K + j) ∧ Ext [n] S S2) (fun v => ∃ z : Str, v = .str z ∧ z.length = 1 ∧ Abc z) src ⟨hd, .refl⟩
    (fun i S2 a ha ⟨d2, x2⟩ => by
      have hi : i < (List.range r.toNat).length := lt_some ha
      rw [List.length_range] at hi
      have g0 : ((wipeI Λ [8]).set 8 (some (IV.int a)))[0]? = some (some (.adr n)) := by
        show ((Λ.set 8 none).set 8 _)[0]? = _
        rw [List.getElem?_set_ne (by decide), List.getElem?_set_ne (by decide)]; exact h0
      have g2 : ((wipeI Λ [8]).set 8 (some (IV.int a)))[2]? = some (some (.str alpha)) := by
        show ((Λ.set 8 none).set 8 _)[2]? = _
        rw [List.getElem?_set_ne (by decide), List.getElem?_set_ne (by decide)]; exact h2
      obtain ⟨c, S3, f1, f2, f3, f4⟩ := he _ S2 _ g0 g2 d2 (by omega)
      exact ⟨_, _, S3, rfl, f1, ⟨⟨#[c]⟩, rfl, rfl, fun d hd => by
        have : d = c := by simpa [sg] using hd
        subst this; exact f2⟩, f3, x2.trans f4⟩) (by rw [List.length_range, szL]; omega)
  obtain ⟨zs, rfl, hz⟩ : ∃ zs : List Str, ys = zs.map IV.str ∧ ∀ z ∈ zs, z.length = 1 ∧ Abc z := by
    clear e1 e2 e4
    induction ys with
    | nil => exact ⟨[], rfl, fun _ h => by cases h⟩
    | cons y ys ih =>
      obtain ⟨zs, rfl, h2⟩ := ih fun y hy => e3 y (List.mem_cons_of_mem _ hy)
      obtain ⟨z, rfl, h3, h4⟩ := e3 y List.mem_cons_self
      exact ⟨z :: zs, rfl, fun u hu => (List.mem_cons.mp hu).elim (fun e => e ▸ ⟨h3, h4⟩) (h2 u)⟩
  rw [List.length_map, List.length_range] at e2
  rw [List.length_range] at e4
  rw [mkL_f, chk_pos (by rw [List.length_map, szL]; omega)] at e1
  refine ⟨_, S', join_e e1 (fun z h => (hz z h).1) (by omega), fun c hc => ?_, ?_, e4.1, e4.2⟩
  · rw [sg_join0] at hc
    obtain ⟨l, hl, hc⟩ := List.mem_flatten.mp hc
    obtain ⟨z, hz1, rfl⟩ := List.mem_map.mp hl
    exact (hz z hz1).2 c hc
  · rw [join_len, sum_ones fun z h => (hz z h).1, e2]
    omega
theorem kept_e : keptA.map IV.str ++ keptB.map IV.str = keptL.map IV.str := by rw [← List.map_append]; rfl
theorem pool_ok {n : Nat} {draw elt : IE} (hd : DrawsI 5 n draw) (he : DrawsL n elt) {S : Sto} {K : Nat} (h : Dr S n K) (hK : K ≤ 800000) :
    ∃ ps S', mDef 10 (poolB draw elt) [.adr n] S = .ok (.adr S.length) S' ∧ S'[S.length]? = some (.lst (ps.map IV.str)) ∧ ps.length = 12 ∧ Pool ps keptL ∧ Dr S' n (K + 72) ∧ Ext [n] S S' := by
  have z13 : (13 : Nat) ≤ sizeLine := by rw [szL]; decide
  have z11 : (11 : Nat) ≤ sizeLine := by rw [szL]; decide
  have z24 : (24 : Nat) ≤ sizeLine := by rw [szL]; decide
  have hn := h.lt
  let p := S.length
  let Λs : Option IV → Option IV → Option IV → Option IV → Slots := fun a b c d => [some (.adr n), some (.lst (keptL.map IV.str)), some (.str alpha), some (.adr p), a, b, c, d, none, none]
  have src : iSrcR1 (iC (.int 12)) (Λs none none none none) (S ++ [.lst []]) = .ok ⟨(List.range 12).map fun i : Nat => IV.int i, none⟩ (S ++ [.lst []]) := src_range (j := 12) rfl (by decide) (by decide)
  obtain ⟨Λ', S', e1, ⟨a, b, c, d, rfl⟩, ps, g1, g2, g3, g4, g5⟩ := for_inv (Λ := Λs none none none none) (g := iName 4) (b := iSeq (iSet 5 (iBin fAdd (iC (.int 1)) draw)) (iSeq (iSet 6 (iBM "str" fJoin (iC (.str "")) (iCons (iLc false (iSrcR1 (iVar 5)) (giN 8) iYes elt [8]) iNil)))
      (iSeq (iIf (iOr (iTest (iBin fIn (iVar 6) (iVar 1))) (iTest (iBin fIn (iVar 6) (iVar 3)))) (iSeq (iSet 7 (iLc false (iSrcR1 (iC (.int 26))) (giN 8) iYes (iBin fAdd (iBin fAdd (iBin fIx (iVar 2) (iVar 8)) (iBin fIx (iVar 2) (iBin fSub (iC (.int 25)) (iVar 8)))) (iC (.str "x"))) [8]))
        (iSet 6 (iBin fIx (iLc false (iSrcL (iVar 7)) (giN 9) (iTest (iBin fNotIn (iVar 9) (iVar 3))) (iVar 9) [9]) (iC (.int 0))))) iNext) (iDrop (iBM "list" fApp (iVar 3) (iCons (iVar 6) iNil))))))
    (List.range 12) (fun i : Nat => IV.int i) (fun i Λ S1 => (∃ a b c d, Λ = Λs a b c d) ∧ ∃ ps, S1[p]? = some (.lst (ps.map IV.str)) ∧ ps.length = i ∧ Pool ps keptL ∧ Dr S1 n (K + 6 * i) ∧ Ext [n] S S1) src
    ⟨⟨_, _, _, _, rfl⟩, [], get_new _ _, rfl, ⟨fun _ z => (by cases z), fun _ z => (by cases z), fun _ z => (by cases z), List.nodup_nil⟩, h.ext (.app _) (ds := []), .app _⟩ (fun _ _ _ _ => trivial) (by
      rintro i Λ S1 x hx ⟨⟨a, b, c, d, rfl⟩, ps, g1, g2, g3, g4, g5⟩
      have hi : i < 12 := by have := lt_some hx; rwa [List.length_range] at this
      have pl : p < S1.length := lt_some g1
      have np : p ≠ n := by show S.length ≠ n; omega
      obtain ⟨r, S2, f1, r0, r1, d2, x2⟩ := hd (Λs (some (.int x)) b c d) S1 _ rfl g4 (by omega)
      have t5 : iBin fAdd (iC (.int 1)) draw (Λs (some (.int x)) b c d) S1 = .ok (.int (1 + r)) S2 := by simp [f1]
      obtain ⟨w, S3, f3, wa, wl, d3, x3⟩ := letters_e he (Λ := Λs (some (.int x)) (some (.int (1 + r))) c d) rfl rfl rfl (by omega) (by omega) d2 (by omega)
      have x13 := x2.trans x3
      have q3 := x13.get g1 (by simp [np])
      have hin : iOr (iTest (iBin fIn (iVar 6) (iVar 1))) (iTest (iBin fIn (iVar 6) (iVar 3))) (Λs (some (.int x)) (some (.int (1 + r))) (some (.str w)) d) S3 = .ok (decide (w ∈ keptL ∨ w ∈ ps)) S3 := by
        have i1 : iVar 6 (Λs (some (.int x)) (some (.int (1 + r))) (some (.str w)) d) S3 = .ok (.str w) S3 := iVar_s rfl
        have i2 : iVar 1 (Λs (some (.int x)) (some (.int (1 + r))) (some (.str w)) d) S3 = .ok (.lst (keptL.map IV.str)) S3 := iVar_s rfl
        have i3 : iVar 3 (Λs (some (.int x)) (some (.int (1 + r))) (some (.str w)) d) S3 = .ok (.adr p) S3 := iVar_s rfl
        simp only [iOr_e, iTest_e, iBin_e, i1, i2, i3, Out.bind_ok, fIn_e, inB_lst, inB_a w ps q3, orBad_some, asB_b]
        by_cases k1 : w ∈ keptL
        · simp [k1]
        · simp [k1]
      have fin : ∃ v Λ4, (iIf (iOr (iTest (iBin fIn (iVar 6) (iVar 1))) (iTest (iBin fIn (iVar 6) (iVar 3)))) (iSeq (iSet 7 (iLc false (iSrcR1 (iC (.int 26))) (giN 8) iYes (iBin fAdd (iBin fAdd (iBin fIx (iVar 2) (iVar 8)) (iBin fIx (iVar 2) (iBin fSub (iC (.int 25)) (iVar 8)))) (iC (.str "x"))) [8]))
          (iSet 6 (iBin fIx (iLc false (iSrcL (iVar 7)) (giN 9) (iTest (iBin fNotIn (iVar 9) (iVar 3))) (iVar 9) [9]) (iC (.int 0))))) iNext : IS) (Λs (some (.int x)) (some (.int (1 + r))) (some (.str w)) d) S3 = .ok (.nx Λ4) S3 ∧ (∃ d', Λ4 = Λs (some (.int x)) (some (.int (1 + r))) (some (.str v)) d') ∧ Abc v ∧ (1 ≤ v.length ∧ v.length ≤ 5) ∧ v ∉ keptL ∧ v ∉ ps := by
        by_cases hk : w ∈ keptL ∨ w ∈ ps
        · rw [decide_eq_true hk] at hin
          rw [if_tt hin]
          have m1 : iLc false (iSrcR1 (iC (.int 26))) (giN 8) iYes (iBin fAdd (iBin fAdd (iBin fIx (iVar 2) (iVar 8)) (iBin fIx (iVar 2) (iBin fSub (iC (.int 25)) (iVar 8)))) (iC (.str "x"))) [8] (Λs (some (.int x)) (some (.int (1 + r))) (some (.str w)) d) S3 = .ok (.lst (spareL.map IV.str)) S3 := by
            rw [lc_map (List.range 26) (fun i : Nat => IV.int i) (fun _ => true) (fun k => .str (spareS k)) (src_range (j := 26) rfl (by decide) (by decide)) trivial (fun k hk => ⟨_, rfl, rfl, fun _ => spare_e (List.mem_range.mp hk) rfl rfl⟩) (by rw [List.length_range, szL]; decide)]
            rw [mkL_f, chk_pos (by rw [List.length_map, szL]; decide)]
            congr 2
          have m2 : iLc false (iSrcL (iVar 7)) (giN 9) (iTest (iBin fNotIn (iVar 9) (iVar 3))) (iVar 9) [9] (Λs (some (.int x)) (some (.int (1 + r))) (some (.str w)) (some (.lst (spareL.map IV.str)))) S3 = .ok (.lst ((spareL.filter fun s => !decide (s ∈ ps)).map IV.str)) S3 := by
            rw [lc_map spareL IV.str (fun s => !decide (s ∈ ps)) IV.str (k := none) (S1 := S3) (by rw [iSrcL_e, iVar_s (x := .lst (spareL.map IV.str)) rfl]; rfl) trivial (fun s hs => ⟨_, rfl, by
              have i1 : iVar 9 ((wipeI (Λs (some (.int x)) (some (.int (1 + r))) (some (.str w)) (some (.lst (spareL.map IV.str)))) [9]).set 9 (some (.str s))) S3 = .ok (.str s) S3 := iVar_s rfl
              have i3 : iVar 3 ((wipeI (Λs (some (.int x)) (some (.int (1 + r))) (some (.str w)) (some (.lst (spareL.map IV.str)))) [9]).set 9 (some (.str s))) S3 = .ok (.adr p) S3 := iVar_s rfl
              simp only [iTest_e, iBin_e, i1, i3, Out.bind_ok, fNotIn_e, inB_a s ps q3, orBad_some, asB_b], fun _ => iVar_s rfl⟩) (by rw [szL]; decide)]
            rw [mkL_f, chk_pos (by rw [List.length_map, szL]; have := List.length_filter_le (fun s => !decide (s ∈ ps)) spareL; have : spareL.length = 26 := rfl; omega)]
          have ne := one_free spareL ps spare_nd (by rw [g2]; show i < 26; omega)
          cases hf : spareL.filter fun s => !decide (s ∈ ps) with
          | nil => exact absurd hf ne
          | cons v vs =>
            have hv : v ∈ spareL.filter fun s => !decide (s ∈ ps) := by rw [hf]; exact List.mem_cons_self
            obtain ⟨v1, v2⟩ := List.mem_filter.mp hv
            obtain ⟨s1, s2, s3⟩ := spare_mem v1
            refine ⟨v, Λs (some (.int x)) (some (.int (1 + r))) (some (.str v)) (some (.lst (spareL.map IV.str))), ?_, ⟨_, rfl⟩, s2, by omega, s3, by simpa using v2⟩
            rw [sq_ok (st_ok m1)]
            refine (st_ok (v := .str v) (S1 := S3) ?_).trans rfl
            rw [hf] at m2
            rw [iBin_e]
            show Out.bind (iLc false (iSrcL (iVar 7)) (giN 9) (iTest (iBin fNotIn (iVar 9) (iVar 3))) (iVar 9) [9] (Λs (some (.int x)) (some (.int (1 + r))) (some (.str w)) (some (.lst (spareL.map IV.str)))) S3) _ = _
            rw [m2]
            simp
        · rw [decide_eq_false hk] at hin
          rw [if_ff hin]
          exact ⟨w, _, rfl, ⟨d, rfl⟩, wa, by omega, fun z => hk (.inl z), fun z => hk (.inr z)⟩
      obtain ⟨v, Λ4, u1, ⟨d', rfl⟩, u3, u4, u5, u6⟩ := fin
      have i6 : iVar 6 (Λs (some (.int x)) (some (.int (1 + r))) (some (.str v)) d') S3 = .ok (.str v) S3 := iVar_s rfl
      have i3 : iVar 3 (Λs (some (.int x)) (some (.int (1 + r))) (some (.str v)) d') S3 = .ok (.adr p) S3 := iVar_s rfl
      have t8 := app_e i3 i6 q3 q3 (by rw [List.length_map]; omega)
      have x4 : Ext [n] S (S3.set p (.lst (ps.map IV.str ++ [.str v]))) := (g5.trans x13).trans' (.set (ds := [p]) (.inl (by simp))) fun e he => .inr (Nat.le_of_eq (List.mem_singleton.mp he).symm)
      refine ⟨_, S1, _, _, rfl, ((sq_ok (st_ok t5)).trans ((sq_ok (st_ok f3)).trans ((sq_ok u1).trans (dr_ok t8)))), ⟨_, _, _, _, rfl⟩, ps ++ [v], ?_, ?_, ⟨fun y hy => ?_, fun y hy => ?_, fun y hy => ?_, ?_⟩, ?_, x4⟩
      · rw [List.map_append]; exact get_setS q3 _
      · rw [List.length_append, g2, List.length_singleton]
      · exact (List.mem_append.mp hy).elim (g3.abc y) fun e => (List.mem_singleton.mp e) ▸ u3
      · exact (List.mem_append.mp hy).elim (g3.len y) fun e => (List.mem_singleton.mp e) ▸ u4
      · exact (List.mem_append.mp hy).elim (g3.nk y) fun e => (List.mem_singleton.mp e) ▸ u5
      · rw [List.nodup_append]
        exact ⟨g3.nd, by simp, fun a ha b hb => by rw [List.mem_singleton.mp hb]; exact fun e => u6 (e ▸ ha)⟩
      · exact (d3.up (by omega)).ext (.set (ds := [p]) (.inl (by simp))) (by simp [Ne.symm np]))
  rw [List.length_range] at g2 g4
  refine ⟨ps, S', ?_, g1, g2, g3, g4, g5⟩
  refine mDef_rt ?_
  have s1 : iLst false (iCons (iC (.str "ahead")) (iCons (iC (.str "all")) (iCons (iC (.str "as")) (iCons (iC (.str "at")) (iCons (iC (.str "call")) (iCons (iC (.str "class")) (iCons (iC (.str "def")) (iCons (iC (.str "end")) (iCons (iC (.str "for")) (iCons (iC (.str "from")) (iCons (iC (.str "keep")) (iCons (iC (.str "none")) (iCons (iC (.str "often")) iNil))))))))))))) [some (.adr n), none, none, none, none, none, none, none, none, none] S = .ok (.lst (keptA.map IV.str)) S := by
    simp only [iLst_e, iCons_e, iC_e, iNil_e, Out.bind_ok, mkL_f]
    rw [chk_pos (by exact z13)]
    rfl
  have s2 : iBin fAdd (iVar 1) (iLst false (iCons (iC (.str "once")) (iCons (iC (.str "or")) (iCons (iC (.str "patch")) (iCons (iC (.str "set")) (iCons (iC (.str "stand")) (iCons (iC (.str "start")) (iCons (iC (.str "stop")) (iCons (iC (.str "table")) (iCons (iC (.str "test")) (iCons (iC (.str "using")) (iCons (iC (.str "with")) iNil)))))))))))) [some (.adr n), some (.lst (keptA.map IV.str)), none, none, none, none, none, none, none, none] S = .ok (.lst (keptL.map IV.str)) S := by
    have i1 : iVar 1 [some (.adr n), some (.lst (keptA.map IV.str)), none, none, none, none, none, none, none, none] S = .ok (.lst (keptA.map IV.str)) S := iVar_s rfl
    simp only [iBin_e, i1, iLst_e, iCons_e, iC_e, iNil_e, Out.bind_ok, mkL_f]
    rw [chk_pos (by exact z11)]
    show mkF (keptA.map IV.str ++ keptB.map IV.str) S = _
    rw [kept_e, mkF_e, chk_pos (by exact z24)]
  show poolB draw elt [some (.adr n), none, none, none, none, none, none, none, none, none] S = _
  unfold poolB
  refine (sq_ok (st_ok s1)).trans ((sq_ok (st_ok s2)).trans ((sq_ok (st_ok (v := .str alpha) rfl)).trans ((sq_ok (Λ1 := Λs none none none none) (S1 := S ++ [.lst []]) (st_ok (v := .adr p) ?_)).trans ((sq_ok e1).trans (rt_ok (iVar_s rfl))))))
  simp only [iLst_e, iNil_e, Out.bind_ok, mkL_t]
  rw [chk_pos (by exact Nat.zero_le _)]
end Lw

set_option maxHeartbeats 2000000
/-! merging rows: the program's way and the law's -/
namespace Lw
open PySem PySem.Spec PyProof.Rows L2 Sm
def enR (r : List Str) : IV := .lst (r.map IV.str)
/-- a row that is not empty -/
abbrev NR := Str × List Str
def enN (p : NR) : IV := enR (p.1 :: p.2)
def toN : List (List Str) → List NR
  | [] => []
  | [] :: r => toN r
  | (h :: t) :: r => (h, t) :: toN r
def tailsIn (rs : List NR) (s : Str) : Bool := rs.any fun q => decide (s ∈ q.2)
def firstP (rs : List NR) : Option Str := (rs.find? fun p => !tailsIn rs p.1).map (·.1)
def cutP (f : Str) (p : NR) : List Str := if p.1 = f then p.2 else p.1 :: p.2
def stepR (f : Str) (rs : List NR) : List NR := toN (rs.map (cutP f))
def mergeP : Nat → List NR → List Str → List Str × List NR
  | 0, rs, acc => (acc, rs)
  | n + 1, rs, acc => if rs = [] then (acc, []) else match firstP rs with
    | none => (acc, rs)
    | some f => mergeP n (stepR f rs) (acc ++ [f])
def sizeP : List NR → Nat
  | [] => 0
  | p :: r => p.2.length + 1 + sizeP r
theorem toN_map (rs : List (List Str)) : (toN rs).map enN = (rs.filter fun r => decide (0 < r.length)).map enR := by
  induction rs with
  | nil => rfl
  | cons r rs ih =>
    cases r with
    | nil => rw [toN, ih]; rfl
    | cons h t =>
      rw [toN, List.map_cons, ih, List.filter_cons]
      rfl
theorem firstP_mem {rs : List NR} {f : Str} (h : firstP rs = some f) : ∃ t, (f, t) ∈ rs ∧ tailsIn rs f = false := by
  unfold firstP at h
  obtain ⟨p, h1, h2⟩ := Option.map_eq_some_iff.mp h
  have h3 := List.find?_some h1
  have h4 := List.mem_of_find?_eq_some h1
  obtain ⟨a, b⟩ := p
  have h2 : a = f := h2
  subst h2
  exact ⟨b, h4, by simpa using h3⟩
theorem sizeP_cut (f : Str) : ∀ rs : List NR, sizeP (toN (rs.map (cutP f))) ≤ sizeP rs ∧ ((∃ t, (f, t) ∈ rs) → sizeP (toN (rs.map (cutP f))) < sizeP rs)
  | [] => ⟨Nat.le_refl _, fun ⟨_, h⟩ => by cases h⟩
  | (a, t) :: rs => by
    obtain ⟨h1, h2⟩ := sizeP_cut f rs
    by_cases ha : a = f
    · have : sizeP (toN (((a, t) :: rs).map (cutP f))) ≤ t.length + sizeP rs := by
        rw [List.map_cons]
        unfold cutP
        rw [if_pos ha]
        cases t with
        | nil => rw [toN]; exact Nat.le_trans h1 (Nat.le_add_left _ _)
        | cons x xs => rw [toN, sizeP]; show xs.length + 1 + _ ≤ _; rw [List.length_cons]; exact Nat.add_le_add_left h1 _
      refine ⟨?_, fun _ => ?_⟩ <;> (show _ ≤ t.length + 1 + sizeP rs; omega)
    · have : sizeP (toN (((a, t) :: rs).map (cutP f))) = t.length + 1 + sizeP (toN (rs.map (cutP f))) := by
        rw [List.map_cons]
        conv => lhs; unfold cutP; rw [if_neg ha]
        rw [toN, sizeP]
        rfl
      refine ⟨by rw [this]; show _ ≤ t.length + 1 + sizeP rs; omega, fun ⟨u, hu⟩ => ?_⟩
      have hu : (f, u) ∈ rs := by
        rcases List.mem_cons.mp hu with e | e
        · cases e; exact absurd rfl ha
        · exact e
      have := h2 ⟨u, hu⟩
      rw [‹sizeP _ = _›]
      show _ < t.length + 1 + sizeP rs
      omega
theorem sizeP_step {f : Str} {rs : List NR} (h : firstP rs = some f) : sizeP (stepR f rs) < sizeP rs := by
  obtain ⟨t, h1, _⟩ := firstP_mem h
  exact (sizeP_cut f rs).2 ⟨t, h1⟩
theorem cut1 {α : Type} (x : α) (xs : List α) : HT.sIx (x :: xs).length 0 (some 1) = 1 := by
  show min 1 (xs.length + 1) = 1
  omega
theorem cutI1 (x : IV) (xs : List IV) : cutI (x :: xs) (some 1) none = xs := by
  unfold cutI
  rw [cut1]
  show (xs).take ((xs.length + 1) - 1) = xs
  rw [Nat.add_sub_cancel, List.take_length]
/-- sizes -/
structure RsOk (rs : List NR) : Prop where
  n : rs.length ≤ 100000
  r : ∀ p ∈ rs, p.2.length ≤ 100000 ∧ okS p.1 ∧ ∀ s ∈ p.2, okS s
theorem toN_mem {p : NR} : ∀ {rs : List (List Str)}, p ∈ toN rs → p.1 :: p.2 ∈ rs
  | [], h => by cases h
  | [] :: rs, h => List.mem_cons_of_mem _ (toN_mem (show p ∈ toN rs from h))
  | (a :: t) :: rs, h => by
    rcases List.mem_cons.mp (show p ∈ (a, t) :: toN rs from h) with e | e
    · subst e; exact List.mem_cons_self
    · exact List.mem_cons_of_mem _ (toN_mem e)
theorem toN_len : ∀ rs : List (List Str), (toN rs).length ≤ rs.length
  | [] => Nat.le_refl _
  | [] :: rs => Nat.le_succ_of_le (toN_len rs)
  | (a :: t) :: rs => Nat.succ_le_succ (toN_len rs)
theorem RsOk.step {rs : List NR} (h : RsOk rs) (f : Str) : RsOk (stepR f rs) := by
  refine ⟨Nat.le_trans (toN_len _) (by rw [List.length_map]; exact h.n), fun p hp => ?_⟩
  have := toN_mem hp
  obtain ⟨q, h1, h2⟩ := List.mem_map.mp this
  obtain ⟨g1, g2, g3⟩ := h.r q h1
  unfold cutP at h2
  split at h2
  · rw [h2] at g1 g3
    exact ⟨by rw [List.length_cons] at g1; omega, g3 _ List.mem_cons_self, fun s hs => g3 s (List.mem_cons_of_mem _ hs)⟩
  · injection h2 with e1 e2
    rw [← e1, ← e2]
    exact ⟨g1, g2, g3⟩
/-! ### the program: the first free item -/
noncomputable def ffB : IS := (iSeq (iFor (iSrcL (iVar 0)) (iName 1) (iIf (iNot (iTru (iCa fAny (iCons (iLc false (iSrcL (iVar 0)) (giN 2) iYes (iBin fIn (iBin fIx (iVar 1) (iC (.int 0))) (iSl false (iVar 2) (iPart (iC (.int 1))) iNoPart)) [2]) iNil)))) (iRet (iBin fIx (iVar 1) (iC (.int 0)))) iNext)) (iRet (iC .non)))
theorem blsOf_map : ∀ bs : List Bool, blsOf (bs.map IV.bl) = some bs
  | [] => rfl
  | b :: bs => by show (blsOf (bs.map IV.bl)).map (b :: ·) = _; rw [blsOf_map bs]; rfl
theorem src_cell {Λ : Slots} {S : Sto} {i l : Nat} {xs : List IV} (h : Λ[i]? = some (some (.adr l))) (hl : S[l]? = some (.lst xs)) : iSrcL (iVar i) Λ S = .ok ⟨xs, some l⟩ S := by
  rw [iSrcL_e, iVar_s h]
  show fSrcL (.adr l) S = _
  unfold fSrcL
  simp only [hl]
def ivO : Option Str → IV
  | none => .non
  | some s => .str s
theorem ff_ok {S : Sto} {l : Nat} {rs : List NR} (hl : S[l]? = some (.lst (rs.map enN))) (ok : RsOk rs) : mDef 3 ffB [.adr l] S = .ok (ivO (firstP rs)) S := by
  have turn : ∀ (p : NR), iIf (iNot (iTru (iCa fAny (iCons (iLc false (iSrcL (iVar 0)) (giN 2) iYes (iBin fIn (iBin fIx (iVar 1) (iC (.int 0))) (iSl false (iVar 2) (iPart (iC (.int 1))) iNoPart)) [2]) iNil)))) (iRet (iBin fIx (iVar 1) (iC (.int 0)))) iNext [some (.adr l), some (enN p), none] S =
      if tailsIn rs p.1 = true then .ok (.nx [some (.adr l), some (enN p), none]) S else .ok (.rt (.str p.1)) S := fun p => by
    have ix : ∀ u, iBin fIx (iVar 1) (iC (.int 0)) [some (.adr l), some (enN p), u] S = .ok (.str p.1) S := fun u => by
      have i1 : iVar 1 [some (.adr l), some (enN p), u] S = .ok (enN p) S := iVar_s rfl
      rw [iBin_e, i1]
      show orBad (atI ((p.1 :: p.2).map IV.str) 0) _ = _
      rw [List.map_cons, atI_0]
      rfl
    have lc : iLc false (iSrcL (iVar 0)) (giN 2) iYes (iBin fIn (iBin fIx (iVar 1) (iC (.int 0))) (iSl false (iVar 2) (iPart (iC (.int 1))) iNoPart)) [2] [some (.adr l), some (enN p), none] S = .ok (.lst ((rs.map fun q => decide (p.1 ∈ q.2)).map IV.bl)) S := by
      rw [lc_map rs enN (fun _ => true) (fun q => .bl (decide (p.1 ∈ q.2))) (src_cell rfl hl) hl (fun q hq => ⟨_, rfl, rfl, fun _ => by
        show iBin fIn _ _ [some (.adr l), some (enN p), some (enN q)] S = _
        have sl : iSl false (iVar 2) (iPart (iC (.int 1))) iNoPart [some (.adr l), some (enN p), some (enN q)] S = .ok (.lst (q.2.map IV.str)) S := by
          have i2 : iVar 2 [some (.adr l), some (enN p), some (enN q)] S = .ok (enN q) S := iVar_s rfl
          rw [iSl_e, i2]
          show fSl false (.lst ((q.1 :: q.2).map IV.str)) (some 1) none S = _
          rw [fSl_l, List.map_cons, cutI1, mkL_f, chk_pos (by rw [List.length_map, szL]; have := (ok.r q hq).1; omega)]
        rw [iBin_e, ix, Out.bind_ok, sl, Out.bind_ok, fIn_e, inB_lst]
        rfl⟩) (by rw [szL]; have := ok.n; omega)]
      rw [mkL_f, chk_pos (by rw [List.length_map, szL]; have := ok.n; have := List.length_filter_le (fun _ : NR => true) rs; omega)]
      rw [List.filter_eq_self.mpr fun _ _ => rfl, List.map_map]
      rfl
    have any : iNot (iTru (iCa fAny (iCons (iLc false (iSrcL (iVar 0)) (giN 2) iYes (iBin fIn (iBin fIx (iVar 1) (iC (.int 0))) (iSl false (iVar 2) (iPart (iC (.int 1))) iNoPart)) [2]) iNil))) [some (.adr l), some (enN p), none] S = .ok (!tailsIn rs p.1) S := by
      rw [iNot_e, iTru_e, iCa_e, iCons_e, lc]
      simp only [Out.bind_ok, iNil_e]
      unfold fAny
      rw [a1_1]
      show (Out.bind (Out.bind (orBad (blsOf ((rs.map fun q => decide (p.1 ∈ q.2)).map IV.bl)) _) _) _) = _
      rw [blsOf_map]
      simp only [orBad_some, Out.bind_ok, truB_bl]
      unfold tailsIn
      rw [List.any_map]
      rfl
    cases ht : tailsIn rs p.1 with
    | true => rw [ht] at any; rw [if_ff any]; rfl
    | false => rw [ht] at any; rw [if_tt any, rt_ok (ix none)]; rfl
  have src := src_cell (Λ := [some (.adr l), none, none]) (i := 0) rfl hl
  have go := for_gen (ms := iSrcL (iVar 0)) (g := iName 1) (b := iIf (iNot (iTru (iCa fAny (iCons (iLc false (iSrcL (iVar 0)) (giN 2) iYes (iBin fIn (iBin fIx (iVar 1) (iC (.int 0))) (iSl false (iVar 2) (iPart (iC (.int 1))) iNoPart)) [2]) iNil)))) (iRet (iBin fIx (iVar 1) (iC (.int 0)))) iNext)
    rs enN (fun i Λ S' => S' = S ∧ (∃ x, Λ = [some (.adr l), x, none]) ∧ ∀ j p, j < i → rs[j]? = some p → tailsIn rs p.1 = true) (fun o => ∃ f, o = .ok (.rt (.str f)) S ∧ firstP rs = some f) src ⟨rfl, ⟨_, rfl⟩, fun j p h => by omega⟩ (fun i Λ S' ⟨e, _⟩ => by subst e; exact hl)
    (by
      rintro i Λ S' p hp ⟨rfl, ⟨x, rfl⟩, hj⟩
      refine ⟨_, S', rfl, ?_⟩
      show _ ∨ (Left (iIf _ _ _ [some (.adr l), some (enN p), none] S') ∧ _)
      have t := turn p
      cases ht : tailsIn rs p.1 with
      | true =>
        left
        rw [ht, if_pos rfl] at t
        refine ⟨_, S', .inl t, rfl, ⟨_, rfl⟩, fun j q hlt hq => ?_⟩
        by_cases h : j = i
        · subst h; rw [hp] at hq; cases hq; exact ht
        · exact hj j q (by omega) hq
      | false =>
        right
        rw [ht, if_neg Bool.false_ne_true] at t
        have e : iName 1 (enN p) [some (.adr l), x, none] S' = .ok [some (.adr l), some (enN p), none] S' := rfl
        refine ⟨by show Left (iIf _ _ _ [some (.adr l), some (enN p), none] S'); rw [t]; exact .rt _ _, p.1, t, ?_⟩
        have : rs.find? (fun p => !tailsIn rs p.1) = some p := by
          rw [List.find?_eq_some_iff_getElem]
          refine ⟨by rw [ht]; rfl, i, (List.getElem?_eq_some_iff.mp hp).1, (List.getElem?_eq_some_iff.mp hp).2, fun j hlt => ?_⟩
          rw [hj j _ hlt (List.getElem?_eq_getElem _)]
          rfl
        unfold firstP
        rw [this]
        rfl)
  refine mDef_rt ?_
  show ffB [some (.adr l), none, none] S = _
  unfold ffB
  rcases go with ⟨Λ', S', e1, rfl, ⟨x, rfl⟩, h3⟩ | ⟨_, f, e1, e2⟩
  · rw [sq_ok e1]
    have : firstP rs = none := by
      unfold firstP
      rw [Option.map_eq_none_iff, List.find?_eq_none]
      intro p hp
      obtain ⟨j, hj⟩ := List.getElem?_of_mem hp
      rw [h3 j p (lt_some hj) hj]
      simp
    rw [this]
    rfl
  · rw [sq_rt e1, e2]
    rfl
/-! ### the program: merge -/
noncomputable def mgBody (ff : List IV → Sto → Out IV) : IS := (iSeq (iSet 3 (iCall 1 ff (iCons (iVar 1) iNil))) (iSeq (iIf (iTest (iBin gIsN (iVar 3) (iC .non))) (iRaise "NoOrder" "rows" (iCons (iVar 1) iNil)) iNext) (iSeq (iDrop (iBM "list" fApp (iVar 2) (iCons (iVar 3) iNil)))
  (iSeq (iSet 4 (iLc false (iSrcL (iVar 1)) (giN 5) iYes (iIf (iTest (iBin fEq (iBin fIx (iVar 5) (iC (.int 0))) (iVar 3))) (iSl false (iVar 5) (iPart (iC (.int 1))) iNoPart) (iVar 5)) [5])) (iSet 1 (iLc true (iSrcL (iVar 4)) (giN 5) (iTest (iBin fGt (iCa fLen (iCons (iVar 5) iNil)) (iC (.int 0)))) (iVar 5) [5]))))))
noncomputable def mgB (ff : List IV → Sto → Out IV) : IS := (iSeq (iSet 1 (iLc true (iSrcL (iVar 0)) (giN 5) (iTest (iBin fGt (iCa fLen (iCons (iVar 5) iNil)) (iC (.int 0)))) (iCa (fList false) (iCons (iVar 5) iNil)) [5])) (iSeq (iSet 2 (iLst true iNil)) (iSeq (iWhile (iTru (iVar 1)) (mgBody ff)) (iRet (iVar 2)))))
/-- where merging ends: the list, or the exception with the rows that are left; ds: the cells that stood before -/
def Ended (S0 : Sto) (R : List Str × List NR) (o : Out Fl) : Prop :=
  (R.2 = [] ∧ ∃ Λ' S' t, o = .ok (.nx Λ') S' ∧ Λ'[2]? = some (some (.adr t)) ∧ S'[t]? = some (.lst (R.1.map IV.str)) ∧ S0.length ≤ t ∧ Ext [] S0 S') ∨
  (R.2 ≠ [] ∧ ∃ n Λ' S' l, o = .exc "NoOrder" n Λ' S' ∧ S'[n]? = some (.xd [("rows", .adr l)]) ∧ S'[l]? = some (.lst (R.2.map enN)) ∧ S0.length ≤ l ∧ Ext [] S0 S')
theorem eqB_str {S : Sto} (a b : Str) : eqB S (.str a) (.str b) = some (decide (a = b)) := rfl
theorem enN_cut {S : Sto} {Λ : Slots} {f : Str} {q : NR} (h5 : Λ[5]? = some (some (enN q))) (h3 : Λ[3]? = some (some (.str f))) (hl : q.2.length ≤ 100000) :
    iIf (iTest (iBin fEq (iBin fIx (iVar 5) (iC (.int 0))) (iVar 3))) (iSl false (iVar 5) (iPart (iC (.int 1))) iNoPart) (iVar 5) Λ S = .ok (enR (cutP f q)) S := by
  have i5 : iVar 5 Λ S = .ok (enN q) S := iVar_s h5
  have t : iTest (iBin fEq (iBin fIx (iVar 5) (iC (.int 0))) (iVar 3)) Λ S = .ok (decide (q.1 = f)) S := by
    rw [iTest_e, iBin_e, iBin_e, i5]
    show Out.bind (Out.bind (orBad (atI ((q.1 :: q.2).map IV.str) 0) fun v => Out.ok v S) fun x S1 => (iVar 3 Λ S1).bind fun y S2 => fEq x y S2) _ = _
    rw [List.map_cons, atI_0, orBad_some, Out.bind_ok, iVar_s h3, Out.bind_ok, fEq_e, eqB_str]
    rfl
  unfold cutP
  by_cases hq : q.1 = f
  · rw [decide_eq_true hq] at t
    rw [if_tt t, if_pos hq, iSl_e, i5]
    show fSl false (.lst ((q.1 :: q.2).map IV.str)) (some 1) none S = _
    rw [fSl_l, List.map_cons, cutI1, mkL_f, chk_pos (by rw [List.length_map, szL]; omega)]
    rfl
  · rw [decide_eq_false hq] at t
    rw [if_ff t, if_neg hq, i5]
    rfl
theorem long_t {S : Sto} {Λ : Slots} {i : Nat} {r : List Str} (h : Λ[i]? = some (some (enR r))) : iTest (iBin fGt (iCa fLen (iCons (iVar i) iNil)) (iC (.int 0))) Λ S = .ok (decide (0 < r.length)) S := by
  have i5 : iVar i Λ S = .ok (enR r) S := iVar_s h
  rw [iTest_e, iBin_e, iCa_e, iCons_e, i5]
  simp only [Out.bind_ok, iNil_e, fLen_e, iC_e]
  show Out.bind (Out.bind (orBad (some (r.map IV.str).length) _) _) _ = _
  rw [orBad_some, Out.bind_ok]
  show Out.ok (decide ((0 : Int) < ((r.map IV.str).length : Int))) S = _
  rw [List.length_map]
  congr 1
  simp
theorem merge_while {ff : List IV → Sto → Out IV} (hff : ∀ (S : Sto) (l : Nat) (rs : List NR), S[l]? = some (.lst (rs.map enN)) → RsOk rs → ff [.adr l] S = .ok (ivO (firstP rs)) S) {S0 : Sto} {R : List Str × List NR} (m : Nat) (Λ : Slots) (S : Sto)
    (h : ∃ rs acc x0 l t x3 x4, Λ = [x0, some (.adr l), some (.adr t), x3, x4, none] ∧ S[l]? = some (.lst (rs.map enN)) ∧ S[t]? = some (.lst (acc.map IV.str)) ∧ l ≠ t ∧ sizeP rs = m ∧ RsOk rs ∧ acc.length + m ≤ 100000 ∧ S0.length ≤ l ∧ S0.length ≤ t ∧ Ext [] S0 S ∧ mergeP (m + 1) rs acc = R) :
    Ended S0 R (iWhile (iTru (iVar 1)) (mgBody ff) Λ S) := by
  refine while_gen (fun m Λ S => ∃ rs acc x0 l t x3 x4, Λ = [x0, some (.adr l), some (.adr t), x3, x4, none] ∧ S[l]? = some (.lst (rs.map enN)) ∧ S[t]? = some (.lst (acc.map IV.str)) ∧ l ≠ t ∧ sizeP rs = m ∧ RsOk rs ∧ acc.length + m ≤ 100000 ∧ S0.length ≤ l ∧ S0.length ≤ t ∧ Ext [] S0 S ∧ mergeP (m + 1) rs acc = R) (Ended S0 R)
    (fun z => by rcases z with ⟨_, _, _, _, z, _⟩ | ⟨_, _, _, _, _, z, _⟩ <;> cases z) ?_ m Λ S h
  rintro m Λ S ⟨rs, acc, x0, l, t, x3, x4, rfl, hl, ht, hne, hm, ok, hb, bl, bt, ex, hR⟩
  have tr : iTru (iVar 1) [x0, some (.adr l), some (.adr t), x3, x4, none] S = .ok (!rs.isEmpty) S := by
    rw [iTru_e, iVar_s (x := .adr l) rfl, Out.bind_ok]
    have : truB S (.adr l) = some (!rs.isEmpty) := by
      unfold truB
      simp only [hl]
      cases rs <;> rfl
    rw [this]
    rfl
  cases hrs : rs with
  | nil =>
    left
    subst hrs
    refine ⟨S, tr, .inl ?_⟩
    have : R = (acc, []) := by rw [← hR]; unfold mergeP; rw [if_pos rfl]
    subst this
    exact ⟨rfl, _, S, t, rfl, rfl, ht, bt, ex⟩
  | cons p0 rs0 =>
    right
    refine ⟨S, by rw [tr, hrs]; rfl, ?_⟩
    have rne : rs ≠ [] := by rw [hrs]; simp
    have c1 : iCall 1 ff (iCons (iVar 1) iNil) [x0, some (.adr l), some (.adr t), x3, x4, none] S = .ok (ivO (firstP rs)) S := by
      rw [iCall_e, iCons_e, iVar_s (x := .adr l) rfl]
      simp only [Out.bind_ok, iNil_e]
      rw [chk_pos (by rfl), hff S l rs hl ok]
      rfl
    have hR' : (match firstP rs with
      | none => (acc, rs)
      | some f => mergeP m (stepR f rs) (acc ++ [f])) = R := by
      rw [← hR]
      conv => rhs; unfold mergeP; rw [if_neg rne]
    cases hf : firstP rs with
    | none =>
      rw [hf] at hR' c1
      have hR' : (acc, rs) = R := hR'
      subst hR'
      right
      have t2 : iTest (iBin gIsN (iVar 3) (iC .non)) [x0, some (.adr l), some (.adr t), some .non, x4, none] S = .ok true S := by
        rw [iTest_e, iBin_e, iVar_s (x := .non) rfl]
        rfl
      have rz : iRaise "NoOrder" "rows" (iCons (iVar 1) iNil) [x0, some (.adr l), some (.adr t), some .non, x4, none] S = .exc "NoOrder" S.length [x0, some (.adr l), some (.adr t), some .non, x4, none] (S ++ [.xd [("rows", .adr l)]]) := by
        unfold iRaise
        rw [iCons_e, iVar_s (x := .adr l) rfl]
        rfl
      have bd : mgBody ff [x0, some (.adr l), some (.adr t), x3, x4, none] S = .exc "NoOrder" S.length [x0, some (.adr l), some (.adr t), some .non, x4, none] (S ++ [.xd [("rows", .adr l)]]) := by
        unfold mgBody
        exact (sq_ok (st_ok c1)).trans (sq_ex ((if_tt t2).trans rz))
      rw [bd]
      refine ⟨.ex _ _ _ _, .inr ⟨rne, _, _, _, l, rfl, get_new _ _, (Ext.app (ds := []) _).get hl, bl, ex.trans (.app _)⟩⟩
    | some f =>
      rw [hf] at hR' c1
      have hR' : mergeP m (stepR f rs) (acc ++ [f]) = R := hR'
      left
      have sz := sizeP_step hf
      have t2 : iTest (iBin gIsN (iVar 3) (iC .non)) [x0, some (.adr l), some (.adr t), some (.str f), x4, none] S = .ok false S := by
        rw [iTest_e, iBin_e, iVar_s (x := .str f) rfl]
        rfl
      have t3 := app_e (Λ := [x0, some (.adr l), some (.adr t), some (.str f), x4, none]) (S := S) (mo := iVar 2) (mv := iVar 3) (n := t) (v := .str f) (iVar_s rfl) (iVar_s rfl) ht ht (by rw [List.length_map]; omega)
      let S1 := S.set t (.lst (acc.map IV.str ++ [.str f]))
      have x1 : Ext [t] S S1 := .set (.inl (by simp))
      have hl1 : S1[l]? = some (.lst (rs.map enN)) := x1.get hl (by simpa using hne)
      have ht1 : S1[t]? = some (.lst ((acc ++ [f]).map IV.str)) := by rw [List.map_append]; exact get_setS ht _
      have t4 : iLc false (iSrcL (iVar 1)) (giN 5) iYes (iIf (iTest (iBin fEq (iBin fIx (iVar 5) (iC (.int 0))) (iVar 3))) (iSl false (iVar 5) (iPart (iC (.int 1))) iNoPart) (iVar 5)) [5] [x0, some (.adr l), some (.adr t), some (.str f), x4, none] S1 = .ok (.lst ((rs.map (cutP f)).map enR)) S1 := by
        rw [lc_map rs enN (fun _ => true) (fun q => enR (cutP f q)) (src_cell rfl hl1) hl1 (fun q hq => ⟨_, rfl, rfl, fun _ => enN_cut rfl rfl (ok.r q hq).1⟩) (by rw [szL]; have := ok.n; omega)]
        rw [mkL_f, chk_pos (by rw [List.length_map, szL]; have := ok.n; have := List.length_filter_le (fun _ : NR => true) rs; omega)]
        rw [List.filter_eq_self.mpr fun _ _ => rfl, List.map_map]
        rfl
      have t5 : iLc true (iSrcL (iVar 4)) (giN 5) (iTest (iBin fGt (iCa fLen (iCons (iVar 5) iNil)) (iC (.int 0)))) (iVar 5) [5] [x0, some (.adr l), some (.adr t), some (.str f), some (.lst ((rs.map (cutP f)).map enR)), none] S1 = .ok (.adr S1.length) (S1 ++ [.lst ((stepR f rs).map enN)]) := by
        rw [lc_map (rs.map (cutP f)) enR (fun r => decide (0 < r.length)) enR (k := none) (S1 := S1) (by rw [iSrcL_e, iVar_s (x := .lst ((rs.map (cutP f)).map enR)) rfl]; rfl) trivial (fun r hr => ⟨_, rfl, long_t rfl, fun _ => iVar_s rfl⟩) (by rw [List.length_map, szL]; have := ok.n; omega)]
        rw [mkL_t, chk_pos (by rw [List.length_map, szL]; have := ok.n; have := List.length_filter_le (fun r : List Str => decide (0 < r.length)) (rs.map (cutP f)); rw [List.length_map] at this; omega)]
        unfold stepR
        rw [toN_map]
      have x2 : Ext [] S1 (S1 ++ [.lst ((stepR f rs).map enN)]) := .app _
      have lt1 : t < S1.length := lt_some ht1
      have lS : S1.length = S.length := by simp [S1]
      refine ⟨sizeP (stepR f rs), _, _, hm ▸ sz, ?_, stepR f rs, acc ++ [f], x0, S1.length, t, some (.str f), some (.lst ((rs.map (cutP f)).map enR)), rfl, get_new _ _, x2.get ht1, Nat.ne_of_gt lt1, rfl, ok.step f, ?_, ?_, bt, ?_, ?_⟩
      · unfold mgBody
        exact (sq_ok (st_ok c1)).trans ((sq_ok (S1 := S) ((if_ff t2).trans rfl)).trans ((sq_ok (dr_ok t3)).trans ((sq_ok (st_ok t4)).trans (st_ok t5))))
      · rw [List.length_append, List.length_singleton]; omega
      · have := ex.1; omega
      · exact (ex.trans' x1 fun e he => .inr (by rw [List.mem_singleton.mp he]; exact bt)).trans x2
      · have mono : ∀ (n k : Nat) (rs : List NR) (acc : List Str), sizeP rs < n → n ≤ k → mergeP k rs acc = mergeP n rs acc := by
          intro n
          induction n with
          | zero => intro k rs acc h; omega
          | succ n ih =>
            intro k rs acc h hk
            cases k with
            | zero => omega
            | succ k =>
              unfold mergeP
              by_cases hr : rs = []
              · rw [if_pos hr, if_pos hr]
              · rw [if_neg hr, if_neg hr]
                cases hq : firstP rs with
                | none => rfl
                | some g => exact ih k (stepR g rs) _ (by have := sizeP_step hq; omega) (by omega)
        rw [← hR']
        exact (mono (sizeP (stepR f rs) + 1) m (stepR f rs) (acc ++ [f]) (Nat.lt_succ_self _) (by omega)).symm
def MergeEnd (S0 : Sto) (R : List Str × List NR) (o : Out IV) : Prop :=
  (R.2 = [] ∧ ∃ S' t, o = .ok (.adr t) S' ∧ S'[t]? = some (.lst (R.1.map IV.str)) ∧ S0.length ≤ t ∧ Ext [] S0 S') ∨
  (R.2 ≠ [] ∧ ∃ n S' l, o = .exc "NoOrder" n [] S' ∧ S'[n]? = some (.xd [("rows", .adr l)]) ∧ S'[l]? = some (.lst (R.2.map enN)) ∧ S0.length ≤ l ∧ Ext [] S0 S')
def mergeR (rows : List (List Str)) : List Str × List NR := mergeP (sizeP (toN rows) + 1) (toN rows) []
/-- sizes of rows -/
structure RowsOk (rows : List (List Str)) : Prop where
  n : rows.length ≤ 100000
  r : ∀ r ∈ rows, r.length ≤ 100000 ∧ ∀ s ∈ r, okS s
  z : sizeP (toN rows) ≤ 100000
theorem RowsOk.rs {rows : List (List Str)} (h : RowsOk rows) : RsOk (toN rows) := ⟨Nat.le_trans (toN_len _) h.n, fun p hp => by
  obtain ⟨h1, h2⟩ := h.r _ (toN_mem hp)
  exact ⟨by rw [List.length_cons] at h1; omega, h2 _ List.mem_cons_self, fun s hs => h2 s (List.mem_cons_of_mem _ hs)⟩⟩
theorem list_row {S : Sto} {Λ : Slots} {i : Nat} {r : List Str} (h : Λ[i]? = some (some (enR r))) (hl : r.length ≤ 100000) : iCa (fList false) (iCons (iVar i) iNil) Λ S = .ok (enR r) S := by
  rw [iCa_e, iCons_e, iVar_s h]
  simp only [Out.bind_ok, iNil_e]
  show mkL false (r.map IV.str) S = _
  rw [mkL_f, chk_pos (by rw [List.length_map, szL]; omega)]
  rfl
theorem merge_ok {ff : List IV → Sto → Out IV} (hff : ∀ (S : Sto) (l : Nat) (rs : List NR), S[l]? = some (.lst (rs.map enN)) → RsOk rs → ff [.adr l] S = .ok (ivO (firstP rs)) S) {S : Sto} {x : IV} {rows : List (List Str)} {k : Option Nat} (hs : fSrcL x S = .ok ⟨rows.map enR, k⟩ S) (st : Src.stay ⟨rows.map enR, k⟩ S) (ok : RowsOk rows) :
    MergeEnd S (mergeR rows) (mDef 6 (mgB ff) [x] S) := by
  have src : iSrcL (iVar 0) [some x, none, none, none, none, none] S = .ok ⟨rows.map enR, k⟩ S := by rw [iSrcL_e, iVar_s (x := x) rfl]; exact hs
  have hf := List.length_filter_le (fun r : List Str => decide (0 < r.length)) rows
  have t1 : iLc true (iSrcL (iVar 0)) (giN 5) (iTest (iBin fGt (iCa fLen (iCons (iVar 5) iNil)) (iC (.int 0)))) (iCa (fList false) (iCons (iVar 5) iNil)) [5] [some x, none, none, none, none, none] S = .ok (.adr S.length) (S ++ [.lst ((toN rows).map enN)]) := by
    rw [lc_map rows enR (fun r => decide (0 < r.length)) enR src st (fun r hr => ⟨_, rfl, long_t rfl, fun _ => list_row rfl (ok.r r hr).1⟩) (by rw [szL]; have := ok.n; omega)]
    rw [mkL_t, chk_pos (by rw [List.length_map, szL]; have := ok.n; omega), toN_map]
  have t2 : iLst true iNil [some x, some (.adr S.length), none, none, none, none] (S ++ [.lst ((toN rows).map enN)]) = .ok (.adr (S.length + 1)) (S ++ [.lst ((toN rows).map enN)] ++ [.lst []]) := by
    simp only [iLst_e, iNil_e, Out.bind_ok, mkL_t]
    rw [chk_pos (by exact Nat.zero_le _), List.length_append]
    rfl
  have e := merge_while hff (S0 := S) (R := mergeR rows) (sizeP (toN rows)) [some x, some (.adr S.length), some (.adr (S.length + 1)), none, none, none] (S ++ [.lst ((toN rows).map enN)] ++ [.lst []])
    ⟨toN rows, [], some x, S.length, S.length + 1, none, none, rfl, by simp, by simp, by omega, rfl, ok.rs, by have := ok.z; simpa using this, Nat.le_refl _, Nat.le_succ _, (Ext.app _).trans (.app _), rfl⟩
  have go : mgB ff [some x, none, none, none, none, none] S = iSeq (iWhile (iTru (iVar 1)) (mgBody ff)) (iRet (iVar 2)) [some x, some (.adr S.length), some (.adr (S.length + 1)), none, none, none] (S ++ [.lst ((toN rows).map enN)] ++ [.lst []]) := by
    unfold mgB
    exact (sq_ok (st_ok t1)).trans ((sq_ok (st_ok t2)).trans rfl)
  rcases e with ⟨h1, Λ', S', t, e1, e2, e3, e4, e5⟩ | ⟨h1, n, Λ', S', l, e1, e2, e3, e4, e5⟩
  · refine .inl ⟨h1, S', t, mDef_rt (go.trans ((sq_ok e1).trans (rt_ok (iVar_s e2)))), e3, e4, e5⟩
  · exact .inr ⟨h1, n, S', l, md_ex (go.trans (sq_ex e1)), e2, e3, e4, e5⟩
/-! ### the law's own way -/
noncomputable def mdBody : IS := (iSeq (iSet 3 (iLst true iNil)) (iSeq (iFor (iSrcL (iVar 2)) (iName 4) (iDrop (iBM "list" fExt (iVar 3) (iCons (iSl false (iVar 4) (iPart (iC (.int 1))) iNoPart) iNil)))) (iSeq (iSet 5 (iLc false (iSrcL (iVar 2)) (giN 4) (iTest (iBin fNotIn (iBin fIx (iVar 4) (iC (.int 0))) (iVar 3))) (iBin fIx (iVar 4) (iC (.int 0))) [4]))
  (iSeq (iIf (iTest (iBin fEq (iVar 5) (iLst false iNil))) (iRet (iTup (iCons (iVar 1) (iCons (iVar 2) iNil)))) iNext) (iSeq (iDrop (iBM "list" fApp (iVar 1) (iCons (iBin fIx (iVar 5) (iC (.int 0))) iNil))) (iSeq (iSet 6 (iLc false (iSrcL (iVar 2)) (giN 4) iYes (iIf (iTest (iBin fEq (iBin fIx (iVar 4) (iC (.int 0))) (iBin fIx (iVar 5) (iC (.int 0))))) (iSl false (iVar 4) (iPart (iC (.int 1))) iNoPart) (iVar 4)) [4]))
  (iSet 2 (iLc false (iSrcL (iVar 6)) (giN 4) (iTest (iBin fNe (iVar 4) (iLst false iNil))) (iVar 4) [4]))))))))
noncomputable def mdB : IS := (iSeq (iSet 1 (iLst true iNil)) (iSeq (iSet 2 (iLc false (iSrcL (iVar 0)) (giN 4) (iTest (iBin fNe (iVar 4) (iLst false iNil))) (iVar 4) [4])) (iSeq (iWhile (iTest (iBin fNe (iVar 2) (iLst false iNil))) mdBody) (iRet (iTup (iCons (iVar 1) (iCons (iLst false iNil) iNil)))))))
theorem viewL_rows {f : IV → Option PyData} (hf : ∀ r : List Str, f (enR r) = some (.list (r.map PyData.str))) : ∀ rows : List (List Str), viewL f (rows.map enR) = some (rows.map fun r => .list (r.map PyData.str))
  | [] => rfl
  | r :: rows => by
    show viewL f (enR r :: rows.map enR) = _
    unfold viewL
    rw [hf, viewL_rows hf rows]
    rfl
theorem view_row {S : Sto} (n : Nat) (r : List Str) : view (n + 2) S (enR r) = some (.list (r.map PyData.str)) := view_strs n r
theorem view_rows {S : Sto} (n : Nat) (rows : List (List Str)) : view (n + 3) S (.lst (rows.map enR)) = some (.list (rows.map fun r => .list (r.map PyData.str))) := by
  show (viewL (view (n + 2) S) (rows.map enR)).map PyData.list = _
  rw [viewL_rows fun r => view_row n r]
  rfl
theorem canLay_rows : ∀ {rows : List (List Str)}, (∀ r ∈ rows, ∀ s ∈ r, okS s) → PyData.canLayAll0 (rows.map fun r => .list (r.map PyData.str)) = true
  | [], _ => by simp [PyData.canLayAll0]
  | r :: rows, h => by
    show PyData.canLayAll0 (.list (r.map PyData.str) :: rows.map fun r => .list (r.map PyData.str)) = true
    rw [PyData.canLayAll0, PyData.canLay0, canLay_strs (h r List.mem_cons_self), canLay_rows fun q hq => h q (List.mem_cons_of_mem _ hq)]
    rfl
theorem depth_rows : ∀ rows : List (List Str), PyData.depthAll (rows.map fun r => .list (r.map PyData.str)) ≤ 1
  | [] => by simp [PyData.depthAll]
  | r :: rows => by
    show PyData.depthAll (.list (r.map PyData.str) :: rows.map fun r => .list (r.map PyData.str)) ≤ 1
    rw [PyData.depthAll, PyData.depth, depth_strs]
    have := depth_rows rows
    omega
theorem shaped_rows {rows : List (List Str)} (h : ∀ r ∈ rows, ∀ s ∈ r, okS s) : SeqAt.shaped (.list (rows.map fun r => .list (r.map PyData.str))) = true := by
  unfold SeqAt.shaped
  rw [PyData.canLay0, PyData.depth, canLay_rows h]
  have := depth_rows rows
  simp
  omega
theorem eqv_rows : ∀ a b : List (List Str), PyData.eqvAll (a.map fun r => .list (r.map PyData.str)) (b.map fun r => .list (r.map PyData.str)) = decide (a = b)
  | [], [] => by simp [PyData.eqvAll]
  | [], _ :: _ => by simp [PyData.eqvAll]
  | _ :: _, [] => by simp [PyData.eqvAll]
  | r :: a, q :: b => by
    show PyData.eqvAll (.list (r.map PyData.str) :: a.map fun r => .list (r.map PyData.str)) (.list (q.map PyData.str) :: b.map fun r => .list (r.map PyData.str)) = _
    rw [PyData.eqvAll, PyData.eqv, eqv_strs, eqv_rows a b]
    by_cases h1 : r = q
    · subst h1
      by_cases h2 : a = b
      · subst h2; simp
      · simp [h2]
    · simp [h1]
theorem eqB_rows {S : Sto} {a b : List (List Str)} (ha : ∀ r ∈ a, ∀ s ∈ r, okS s) (hb : ∀ r ∈ b, ∀ s ∈ r, okS s) : eqB S (.lst (a.map enR)) (.lst (b.map enR)) = some (decide (a = b)) := by
  rw [eqB_lst (view_rows 5 a) (view_rows 5 b) (shaped_rows ha) (shaped_rows hb), PyData.eqv, eqv_rows]
theorem firsts_head (rs : List NR) : ((rs.filter fun p => !tailsIn rs p.1).map (·.1)).head? = firstP rs := by
  unfold firstP
  rw [List.head?_map, List.head?_filter]
def flatT (rs : List NR) : List Str := (rs.map (·.2)).flatten
theorem flat_in (rs : List NR) (s : Str) : decide (s ∈ flatT rs) = tailsIn rs s := by
  unfold tailsIn flatT
  rw [Bool.eq_iff_iff, decide_eq_true_iff, List.any_eq_true]
  simp only [List.mem_flatten, List.mem_map, decide_eq_true_iff]
  exact ⟨fun ⟨l, ⟨p, h1, h2⟩, h3⟩ => ⟨p, h1, h2 ▸ h3⟩, fun ⟨p, h1, h2⟩ => ⟨p.2, ⟨p, h1, rfl⟩, h2⟩⟩
theorem flat_len : ∀ rs : List NR, (flatT rs).length ≤ sizeP rs
  | [] => Nat.le_refl _
  | p :: rs => by
    have := flat_len rs
    unfold flatT at this ⊢
    rw [List.map_cons, List.flatten_cons, List.length_append]
    show _ ≤ p.2.length + 1 + sizeP rs
    omega
theorem flat_take (rs : List NR) (i : Nat) (p : NR) (h : rs[i]? = some p) : flatT (rs.take (i + 1)) = flatT (rs.take i) ++ p.2 := by
  unfold flatT
  rw [List.take_add_one, h]
  simp
theorem size_take (rs : List NR) (i : Nat) : sizeP (rs.take i) ≤ sizeP rs := by
  induction rs generalizing i with
  | nil => simp
  | cons p rs ih =>
    cases i with
    | zero => exact Nat.zero_le _
    | succ i => rw [List.take_succ_cons]; exact Nat.add_le_add_left (ih i) _
theorem mergeP_mono : ∀ (n k : Nat) (rs : List NR) (acc : List Str), sizeP rs < n → n ≤ k → mergeP k rs acc = mergeP n rs acc
  | 0, k, rs, acc, h, _ => by omega
  | n + 1, 0, rs, acc, h, hk => by omega
  | n + 1, k + 1, rs, acc, h, hk => by
    unfold mergeP
    by_cases hr : rs = []
    · rw [if_pos hr, if_pos hr]
    · rw [if_neg hr, if_neg hr]
      cases hq : firstP rs with
      | none => rfl
      | some g => exact mergeP_mono n k (stepR g rs) _ (by have := sizeP_step hq; omega) (by omega)
theorem head_ix {S : Sto} {Λ : Slots} {i : Nat} {q : NR} (h : Λ[i]? = some (some (enN q))) : iBin fIx (iVar i) (iC (.int 0)) Λ S = .ok (.str q.1) S := by
  rw [iBin_e, iVar_s h]
  show orBad (atI ((q.1 :: q.2).map IV.str) 0) _ = _
  rw [List.map_cons, atI_0]
  rfl
theorem tail_sl {S : Sto} {Λ : Slots} {i : Nat} {q : NR} (h : Λ[i]? = some (some (enN q))) (hl : q.2.length ≤ 100000) : iSl false (iVar i) (iPart (iC (.int 1))) iNoPart Λ S = .ok (.lst (q.2.map IV.str)) S := by
  rw [iSl_e, iVar_s h]
  show fSl false (.lst ((q.1 :: q.2).map IV.str)) (some 1) none S = _
  rw [fSl_l, List.map_cons, cutI1, mkL_f, chk_pos (by rw [List.length_map, szL]; omega)]
def EndedL (S0 : Sto) (R : List Str × List NR) (o : Out Fl) : Prop :=
  (R.2 = [] ∧ ∃ Λ' S' t, o = .ok (.nx Λ') S' ∧ Λ'[1]? = some (some (.adr t)) ∧ S'[t]? = some (.lst (R.1.map IV.str)) ∧ S0.length ≤ t ∧ Ext [] S0 S') ∨
  (R.2 ≠ [] ∧ ∃ S' t, o = .ok (.rt (.tup [.adr t, .lst (R.2.map enN)])) S' ∧ S'[t]? = some (.lst (R.1.map IV.str)) ∧ S0.length ≤ t ∧ Ext [] S0 S')
theorem rs_rows (rs : List NR) : rs.map enN = (rs.map fun p => p.1 :: p.2).map enR := by rw [List.map_map]; rfl
theorem RsOk.ok {rs : List NR} (h : RsOk rs) : ∀ r ∈ rs.map (fun p : NR => p.1 :: p.2), ∀ s ∈ r, okS s := fun r hr s hs => by
  obtain ⟨p, hp, rfl⟩ := List.mem_map.mp hr
  obtain ⟨_, h2, h3⟩ := h.r p hp
  exact (List.mem_cons.mp hs).elim (fun e => e ▸ h2) (h3 s)
theorem set_last (S : Sto) (c d : Cell) : (S ++ [c]).set S.length d = S ++ [d] := by simp
theorem tup2 {S : Sto} (a b : IV) : mkT [a, b] S = .ok (.tup [a, b]) S := by rw [mkT_e, chk_pos (by rw [szL]; show 2 ≤ 16777216; decide)]
theorem empty_l {Λ : Slots} {S : Sto} : iLst false iNil Λ S = .ok (.lst []) S := by
  simp only [iLst_e, iNil_e, Out.bind_ok, mkL_f]
  rw [chk_pos (by exact Nat.zero_le _)]
theorem ne_nil_row {S : Sto} {Λ : Slots} {i : Nat} {r : List Str} (h : Λ[i]? = some (some (enR r))) (ok : ∀ s ∈ r, okS s) : iTest (iBin fNe (iVar i) (iLst false iNil)) Λ S = .ok (decide (0 < r.length)) S := by
  rw [iTest_e, iBin_e, iVar_s h, Out.bind_ok, empty_l, Out.bind_ok, fNe_e]
  have e : eqB S (enR r) (.lst []) = some (decide (r = [])) := eqB_strs (ys := []) ok fun _ z => by cases z
  rw [e, orBad_some, Out.bind_ok, asB_b]
  congr 1
  cases r <;> simp
theorem merged_while {S0 : Sto} {R : List Str × List NR} (m : Nat) (Λ : Slots) (S : Sto)
    (h : ∃ rs acc x0 t x3 x4 x5 x6, Λ = [x0, some (.adr t), some (.lst (rs.map enN)), x3, x4, x5, x6] ∧ S[t]? = some (.lst (acc.map IV.str)) ∧ sizeP rs = m ∧ RsOk rs ∧ acc.length + m ≤ 100000 ∧ S0.length ≤ t ∧ Ext [] S0 S ∧ mergeP (m + 1) rs acc = R) :
    EndedL S0 R (iWhile (iTest (iBin fNe (iVar 2) (iLst false iNil))) mdBody Λ S) := by
  refine while_gen (fun m Λ S => ∃ rs acc x0 t x3 x4 x5 x6, Λ = [x0, some (.adr t), some (.lst (rs.map enN)), x3, x4, x5, x6] ∧ S[t]? = some (.lst (acc.map IV.str)) ∧ sizeP rs = m ∧ RsOk rs ∧ acc.length + m ≤ 100000 ∧ S0.length ≤ t ∧ Ext [] S0 S ∧ mergeP (m + 1) rs acc = R) (EndedL S0 R)
    (fun z => by rcases z with ⟨_, _, _, _, z, _⟩ | ⟨_, _, _, z, _⟩ <;> cases z) ?_ m Λ S h
  rintro m Λ S ⟨rs, acc, x0, t, x3, x4, x5, x6, rfl, ht, hm, ok, hb, bt, ex, hR⟩
  have tr : iTest (iBin fNe (iVar 2) (iLst false iNil)) [x0, some (.adr t), some (.lst (rs.map enN)), x3, x4, x5, x6] S = .ok (!decide (rs = [])) S := by
    rw [iTest_e, iBin_e, iVar_s (x := .lst (rs.map enN)) rfl, Out.bind_ok, empty_l, Out.bind_ok, fNe_e]
    have e : eqB S (.lst (rs.map enN)) (.lst []) = some (decide (rs = [])) := by
      rw [rs_rows]
      have := eqB_rows (S := S) (a := rs.map fun p => p.1 :: p.2) (b := []) ok.ok fun _ z => by cases z
      rw [List.map_nil] at this
      rw [this]
      cases rs <;> simp
    rw [e, orBad_some, Out.bind_ok, asB_b]
  by_cases hrs : rs = []
  · left
    subst hrs
    refine ⟨S, tr, .inl ?_⟩
    have : R = (acc, []) := by rw [← hR]; unfold mergeP; rw [if_pos rfl]
    subst this
    exact ⟨rfl, _, S, t, rfl, rfl, ht, bt, ex⟩
  · right
    refine ⟨S, by rw [tr, decide_eq_false hrs]; rfl, ?_⟩
    have hR' : (match firstP rs with
      | none => (acc, rs)
      | some f => mergeP m (stepR f rs) (acc ++ [f])) = R := by
      rw [← hR]
      conv => rhs; unfold mergeP; rw [if_neg hrs]
    have lt := lt_some ht
    have t1 : iLst true iNil [x0, some (.adr t), some (.lst (rs.map enN)), x3, x4, x5, x6] S = .ok (.adr S.length) (S ++ [.lst []]) := by
      simp only [iLst_e, iNil_e, Out.bind_ok, mkL_t]
      rw [chk_pos (by exact Nat.zero_le _)]
    have hlen := ok.n
    obtain ⟨Λ2, S2, f1, ⟨y, rfl⟩, rfl⟩ := for_inv (ms := iSrcL (iVar 2)) (g := iName 4) (b := iDrop (iBM "list" fExt (iVar 3) (iCons (iSl false (iVar 4) (iPart (iC (.int 1))) iNoPart) iNil))) (Λ := [x0, some (.adr t), some (.lst (rs.map enN)), some (.adr S.length), x4, x5, x6]) (S := S ++ [.lst []]) (S1 := S ++ [.lst []]) (k := none)
      rs enN (fun i Λ S2 => (∃ y, Λ = [x0, some (.adr t), some (.lst (rs.map enN)), some (.adr S.length), y, x5, x6]) ∧ S2 = S ++ [.lst ((flatT (rs.take i)).map IV.str)]) (by rw [iSrcL_e, iVar_s (x := .lst (rs.map enN)) rfl]; rfl) ⟨⟨_, rfl⟩, rfl⟩ (fun _ _ _ _ => trivial) (by
        rintro i Λ S2 p hp ⟨⟨y, rfl⟩, rfl⟩
        have hp2 := (ok.r p (List.mem_of_getElem? hp)).1
        refine ⟨_, _, _, _, rfl, dr_ok (v := .non) (S1 := S ++ [.lst ((flatT (rs.take (i + 1))).map IV.str)]) ?_, ⟨_, rfl⟩, rfl⟩
        show iBM "list" fExt (iVar 3) _ [x0, some (.adr t), some (.lst (rs.map enN)), some (.adr S.length), some (enN p), x5, x6] _ = _
        have hg : (S ++ [Cell.lst ((flatT (rs.take i)).map IV.str)])[S.length]? = some (.lst ((flatT (rs.take i)).map IV.str)) := get_new _ _
        have hty : hasTy "list" (S ++ [Cell.lst ((flatT (rs.take i)).map IV.str)]) (.adr S.length) = true := by
          unfold hasTy lstOf
          simp only [hg]
          rfl
        rw [iBM_e, iVar_s (x := .adr S.length) rfl, Out.bind_ok, chk_pos hty, iCons_e, tail_sl (q := p) rfl hp2]
        simp only [Out.bind_ok, iNil_e]
        unfold fExt
        rw [a1_1, onL_s hg]
        show orBad (some (p.2.map IV.str)) _ = _
        have h1 := flat_len (rs.take (i + 1))
        have h2 := size_take rs (i + 1)
        rw [flat_take rs i p hp, List.length_append] at h1
        rw [orBad_some, chk_pos (by rw [List.length_map, List.length_map, szL]; omega), set_last, flat_take rs i p hp, List.map_append])
    rw [List.take_length] at f1
    have hg : (S ++ [Cell.lst ((flatT rs).map IV.str)])[S.length]? = some (.lst ((flatT rs).map IV.str)) := get_new _ _
    have t5 : iLc false (iSrcL (iVar 2)) (giN 4) (iTest (iBin fNotIn (iBin fIx (iVar 4) (iC (.int 0))) (iVar 3))) (iBin fIx (iVar 4) (iC (.int 0))) [4] [x0, some (.adr t), some (.lst (rs.map enN)), some (.adr S.length), y, x5, x6] (S ++ [.lst ((flatT rs).map IV.str)]) = .ok (.lst (((rs.filter fun p => !tailsIn rs p.1).map (·.1)).map IV.str)) (S ++ [.lst ((flatT rs).map IV.str)]) := by
      rw [lc_map rs enN (fun p => !tailsIn rs p.1) (fun p => .str p.1) (k := none) (S1 := S ++ [.lst ((flatT rs).map IV.str)]) (by rw [iSrcL_e, iVar_s (x := .lst (rs.map enN)) rfl]; rfl) trivial (fun p hp => ⟨_, rfl, by
        show iTest _ [x0, some (.adr t), some (.lst (rs.map enN)), some (.adr S.length), some (enN p), x5, x6] _ = _
        rw [iTest_e, iBin_e, head_ix (q := p) rfl, Out.bind_ok, iVar_s (x := .adr S.length) rfl, Out.bind_ok, fNotIn_e, inB_a p.1 (flatT rs) hg, orBad_some, Out.bind_ok, asB_b, flat_in], fun _ => head_ix (q := p) rfl⟩) (by rw [szL]; omega)]
      have := List.length_filter_le (fun p : NR => !tailsIn rs p.1) rs
      rw [mkL_f, chk_pos (by rw [List.length_map, szL]; omega), List.map_map]
      rfl
    have hd := firsts_head rs
    generalize hF : ((rs.filter fun p => !tailsIn rs p.1).map (·.1)) = F at t5 hd
    have okF : ∀ s ∈ F, okS s := fun s hs => by
      rw [← hF] at hs
      obtain ⟨p, hp, rfl⟩ := List.mem_map.mp hs
      exact (ok.r p (List.mem_filter.mp hp).1).2.1
    have t6 : iTest (iBin fEq (iVar 5) (iLst false iNil)) [x0, some (.adr t), some (.lst (rs.map enN)), some (.adr S.length), y, some (.lst (F.map IV.str)), x6] (S ++ [.lst ((flatT rs).map IV.str)]) = .ok (decide (F = [])) (S ++ [.lst ((flatT rs).map IV.str)]) := by
      rw [iTest_e, iBin_e, iVar_s (x := .lst (F.map IV.str)) rfl, Out.bind_ok, empty_l, Out.bind_ok, fEq_e]
      have e : eqB (S ++ [.lst ((flatT rs).map IV.str)]) (.lst (F.map IV.str)) (.lst []) = some (decide (F = [])) := eqB_strs (ys := []) okF fun _ z => by cases z
      rw [e, orBad_some, Out.bind_ok, asB_b]
    have x1 : Ext [] S (S ++ [.lst ((flatT rs).map IV.str)]) := .app _
    have front : ∀ {o : Out Fl} {G : IS}, G [x0, some (.adr t), some (.lst (rs.map enN)), some (.adr S.length), y, some (.lst (F.map IV.str)), x6] (S ++ [.lst ((flatT rs).map IV.str)]) = o →
        iSeq (iSet 3 (iLst true iNil)) (iSeq (iFor (iSrcL (iVar 2)) (iName 4) (iDrop (iBM "list" fExt (iVar 3) (iCons (iSl false (iVar 4) (iPart (iC (.int 1))) iNoPart) iNil)))) (iSeq (iSet 5 (iLc false (iSrcL (iVar 2)) (giN 4) (iTest (iBin fNotIn (iBin fIx (iVar 4) (iC (.int 0))) (iVar 3))) (iBin fIx (iVar 4) (iC (.int 0))) [4])) G)) [x0, some (.adr t), some (.lst (rs.map enN)), x3, x4, x5, x6] S = o :=
      fun h => (sq_ok (st_ok t1)).trans ((sq_ok f1).trans ((sq_ok (st_ok t5)).trans h))
    cases F with
    | nil =>
      right
      have hf : firstP rs = none := hd.symm
      rw [hf] at hR'
      have hR' : (acc, rs) = R := hR'
      subst hR'
      have bd : mdBody [x0, some (.adr t), some (.lst (rs.map enN)), x3, x4, x5, x6] S = .ok (.rt (.tup [.adr t, .lst (rs.map enN)])) (S ++ [.lst ((flatT rs).map IV.str)]) := by
        unfold mdBody
        refine front ?_
        refine sq_rt ((if_tt t6).trans (rt_ok ?_))
        rw [iTup_e, iCons_e, iVar_s (x := .adr t) rfl, Out.bind_ok, iCons_e, iVar_s (x := .lst (rs.map enN)) rfl]
        simp only [Out.bind_ok, iNil_e]
        exact tup2 _ _
      rw [bd]
      exact ⟨.rt _ _, .inr ⟨hrs, _, t, rfl, x1.get ht, bt, ex.trans x1⟩⟩
    | cons f F' =>
      left
      have hf : firstP rs = some f := hd.symm
      rw [hf] at hR'
      have hR' : mergeP m (stepR f rs) (acc ++ [f]) = R := hR'
      have sz := sizeP_step hf
      have ixF : ∀ (S : Sto) (a b c d e g : Option IV), iBin fIx (iVar 5) (iC (.int 0)) [a, b, c, d, e, some (.lst ((f :: F').map IV.str)), g] S = .ok (.str f) S := fun S a b c d e g => by
        rw [iBin_e, iVar_s (x := .lst ((f :: F').map IV.str)) rfl]
        show orBad (atI ((f :: F').map IV.str) 0) _ = _
        rw [List.map_cons, atI_0]
        rfl
      have ht1 := x1.get ht
      have t7 := app_e (Λ := [x0, some (.adr t), some (.lst (rs.map enN)), some (.adr S.length), y, some (.lst ((f :: F').map IV.str)), x6]) (S := S ++ [.lst ((flatT rs).map IV.str)]) (mo := iVar 1) (mv := iBin fIx (iVar 5) (iC (.int 0))) (n := t) (v := .str f) (iVar_s rfl) (ixF _ _ _ _ _ _ _) ht1 ht1 (by rw [List.length_map]; omega)
      generalize hS3 : (S ++ [Cell.lst ((flatT rs).map IV.str)]).set t (Cell.lst (acc.map IV.str ++ [IV.str f])) = S3 at t7
      have x2 : Ext [t] (S ++ [.lst ((flatT rs).map IV.str)]) S3 := hS3 ▸ .set (.inl (by simp))
      have ht3 : S3[t]? = some (.lst ((acc ++ [f]).map IV.str)) := by rw [List.map_append, ← hS3]; exact get_setS ht1 _
      have t8 : iLc false (iSrcL (iVar 2)) (giN 4) iYes (iIf (iTest (iBin fEq (iBin fIx (iVar 4) (iC (.int 0))) (iBin fIx (iVar 5) (iC (.int 0))))) (iSl false (iVar 4) (iPart (iC (.int 1))) iNoPart) (iVar 4)) [4] [x0, some (.adr t), some (.lst (rs.map enN)), some (.adr S.length), y, some (.lst ((f :: F').map IV.str)), x6] S3 = .ok (.lst ((rs.map (cutP f)).map enR)) S3 := by
        rw [lc_map rs enN (fun _ => true) (fun q => enR (cutP f q)) (k := none) (S1 := S3) (by rw [iSrcL_e, iVar_s (x := .lst (rs.map enN)) rfl]; rfl) trivial (fun q hq => ⟨_, rfl, rfl, fun _ => by
          show iIf _ _ _ [x0, some (.adr t), some (.lst (rs.map enN)), some (.adr S.length), some (enN q), some (.lst ((f :: F').map IV.str)), x6] S3 = _
          have tt : iTest (iBin fEq (iBin fIx (iVar 4) (iC (.int 0))) (iBin fIx (iVar 5) (iC (.int 0)))) [x0, some (.adr t), some (.lst (rs.map enN)), some (.adr S.length), some (enN q), some (.lst ((f :: F').map IV.str)), x6] S3 = .ok (decide (q.1 = f)) S3 := by
            rw [iTest_e, iBin_e, head_ix (q := q) rfl, Out.bind_ok, ixF, Out.bind_ok, fEq_e, eqB_str]
            rfl
          unfold cutP
          by_cases hq2 : q.1 = f
          · rw [decide_eq_true hq2] at tt
            rw [if_tt tt, if_pos hq2, tail_sl (q := q) rfl (ok.r q hq).1]
            rfl
          · rw [decide_eq_false hq2] at tt
            rw [if_ff tt, if_neg hq2, iVar_s (x := enN q) rfl]
            rfl⟩) (by rw [szL]; omega)]
        have := List.length_filter_le (fun _ : NR => true) rs
        rw [mkL_f, chk_pos (by rw [List.length_map, szL]; omega)]
        rw [List.filter_eq_self.mpr fun _ _ => rfl, List.map_map]
        rfl
      have okC : ∀ r ∈ rs.map (cutP f), ∀ s ∈ r, okS s := fun r hr s hs => by
        obtain ⟨q, hq, rfl⟩ := List.mem_map.mp hr
        obtain ⟨_, h2, h3⟩ := ok.r q hq
        unfold cutP at hs
        split at hs
        · exact h3 s hs
        · exact (List.mem_cons.mp hs).elim (fun e => e ▸ h2) (h3 s)
      have t9 : iLc false (iSrcL (iVar 6)) (giN 4) (iTest (iBin fNe (iVar 4) (iLst false iNil))) (iVar 4) [4] [x0, some (.adr t), some (.lst (rs.map enN)), some (.adr S.length), y, some (.lst ((f :: F').map IV.str)), some (.lst ((rs.map (cutP f)).map enR))] S3 = .ok (.lst ((stepR f rs).map enN)) S3 := by
        rw [lc_map (rs.map (cutP f)) enR (fun r => decide (0 < r.length)) enR (k := none) (S1 := S3) (by rw [iSrcL_e, iVar_s (x := .lst ((rs.map (cutP f)).map enR)) rfl]; rfl) trivial (fun r hr => ⟨_, rfl, ne_nil_row rfl (okC r hr), fun _ => iVar_s rfl⟩) (by rw [List.length_map, szL]; omega)]
        have := List.length_filter_le (fun r : List Str => decide (0 < r.length)) (rs.map (cutP f))
        rw [List.length_map] at this
        rw [mkL_f, chk_pos (by rw [List.length_map, szL]; omega)]
        unfold stepR
        rw [toN_map]
      refine ⟨sizeP (stepR f rs), _, S3, hm ▸ sz, ?_, stepR f rs, acc ++ [f], x0, t, some (.adr S.length), y, some (.lst ((f :: F').map IV.str)), some (.lst ((rs.map (cutP f)).map enR)), rfl, ht3, rfl, ok.step f, ?_, bt, ?_, ?_⟩
      · unfold mdBody
        refine front ?_
        exact (sq_ok ((if_ff t6).trans rfl)).trans ((sq_ok (dr_ok t7)).trans ((sq_ok (st_ok t8)).trans (st_ok t9)))
      · rw [List.length_append, List.length_singleton]; omega
      · exact (ex.trans x1).trans' x2 fun e he => .inr (by rw [List.mem_singleton.mp he]; exact bt)
      · rw [← hR']
        exact (mergeP_mono (sizeP (stepR f rs) + 1) m (stepR f rs) (acc ++ [f]) (Nat.lt_succ_self _) (by omega)).symm
theorem merged_ok {S : Sto} {rows : List (List Str)} (ok : RowsOk rows) : ∃ S' t, mDef 7 mdB [.lst (rows.map enR)] S = .ok (.tup [.adr t, .lst ((mergeR rows).2.map enN)]) S' ∧ S'[t]? = some (.lst ((mergeR rows).1.map IV.str)) ∧ S.length ≤ t ∧ Ext [] S S' := by
  have hf := List.length_filter_le (fun r : List Str => decide (0 < r.length)) rows
  have t1 : iLst true iNil [some (.lst (rows.map enR)), none, none, none, none, none, none] S = .ok (.adr S.length) (S ++ [.lst []]) := by
    simp only [iLst_e, iNil_e, Out.bind_ok, mkL_t]
    rw [chk_pos (by exact Nat.zero_le _)]
  have t2 : iLc false (iSrcL (iVar 0)) (giN 4) (iTest (iBin fNe (iVar 4) (iLst false iNil))) (iVar 4) [4] [some (.lst (rows.map enR)), some (.adr S.length), none, none, none, none, none] (S ++ [.lst []]) = .ok (.lst ((toN rows).map enN)) (S ++ [.lst []]) := by
    rw [lc_map rows enR (fun r => decide (0 < r.length)) enR (k := none) (S1 := S ++ [.lst []]) (by rw [iSrcL_e, iVar_s (x := .lst (rows.map enR)) rfl]; rfl) trivial (fun r hr => ⟨_, rfl, ne_nil_row rfl (ok.r r hr).2, fun _ => iVar_s rfl⟩) (by rw [szL]; have := ok.n; omega)]
    rw [mkL_f, chk_pos (by rw [List.length_map, szL]; have := ok.n; omega), toN_map]
  have e := merged_while (S0 := S) (R := mergeR rows) (sizeP (toN rows)) [some (.lst (rows.map enR)), some (.adr S.length), some (.lst ((toN rows).map enN)), none, none, none, none] (S ++ [.lst []])
    ⟨toN rows, [], _, S.length, none, none, none, none, rfl, by simp, rfl, ok.rs, by have := ok.z; simpa using this, Nat.le_refl _, .app _, rfl⟩
  have go : mdB [some (.lst (rows.map enR)), none, none, none, none, none, none] S = iSeq (iWhile (iTest (iBin fNe (iVar 2) (iLst false iNil))) mdBody) (iRet (iTup (iCons (iVar 1) (iCons (iLst false iNil) iNil)))) [some (.lst (rows.map enR)), some (.adr S.length), some (.lst ((toN rows).map enN)), none, none, none, none] (S ++ [.lst []]) := by
    unfold mdB
    exact (sq_ok (st_ok t1)).trans ((sq_ok (st_ok t2)).trans rfl)
  rcases e with ⟨h1, Λ', S', t, e1, e2, e3, e4, e5⟩ | ⟨h1, S', t, e1, e3, e4, e5⟩
  · refine ⟨S', t, mDef_rt (go.trans ((sq_ok e1).trans (rt_ok ?_))), e3, e4, e5⟩
    rw [iTup_e, iCons_e, iVar_s e2, Out.bind_ok, iCons_e, empty_l]
    simp only [Out.bind_ok, iNil_e]
    rw [tup2, h1]
    rfl
  · exact ⟨S', t, mDef_rt (go.trans (sq_rt e1)), e3, e4, e5⟩
end Lw

set_option maxHeartbeats 2000000
/-! what is told of merged rows, as data -/
namespace Lw
open PySem PySem.Spec PyProof.Rows L2 Sm
/-- == of the same data -/
theorem eqB_same {S : Sto} {x y : IV} {d : PyData} (hx : view 8 S x = some d) (hy : view 8 S y = some d) (hs : SeqAt.shaped d = true) (hr : isRf x = true) : eqB S x y = some true := by
  have e : eqB S x y = (match view 8 S x, view 8 S y with
    | some d, some e => if SeqAt.shaped d = true ∧ SeqAt.shaped e = true then some (PyData.eqv d e) else none
    | _, _ => none) := by
    cases x with
    | lst _ => rfl
    | wls _ => rfl
    | tup _ => rfl
    | adr _ => rfl
    | _ => cases hr
  rw [e, hx, hy]
  show (if SeqAt.shaped d = true ∧ SeqAt.shaped d = true then some (PyData.eqv d d) else none) = _
  rw [if_pos ⟨hs, hs⟩, PySem.SeqAt.eqv_refl d (SeqAt.canLay_of_shaped hs)]
/-- the strings of rows and of a list keep P through merging; sizes do not grow -/
theorem mergeP_keep (P : Str → Prop) : ∀ (n : Nat) (rs : List NR) (acc : List Str), (∀ p ∈ rs, P p.1 ∧ ∀ s ∈ p.2, P s) → (∀ s ∈ acc, P s) →
    (∀ p ∈ (mergeP n rs acc).2, P p.1 ∧ ∀ s ∈ p.2, P s) ∧ (∀ s ∈ (mergeP n rs acc).1, P s) ∧ (mergeP n rs acc).1.length + sizeP (mergeP n rs acc).2 ≤ acc.length + sizeP rs
  | 0, rs, acc, h1, h2 => ⟨h1, h2, Nat.le_refl _⟩
  | n + 1, rs, acc, h1, h2 => by
    unfold mergeP
    by_cases hr : rs = []
    · rw [if_pos hr]
      exact ⟨fun _ z => (by cases z), h2, Nat.add_le_add_left (Nat.zero_le _) _⟩
    · rw [if_neg hr]
      cases hf : firstP rs with
      | none => exact ⟨h1, h2, Nat.le_refl _⟩
      | some f =>
        have z := sizeP_step hf
        obtain ⟨t, hm, _⟩ := firstP_mem hf
        have hP : ∀ p ∈ stepR f rs, P p.1 ∧ ∀ s ∈ p.2, P s := fun p hp => by
          obtain ⟨q, hq, e⟩ := List.mem_map.mp (toN_mem hp)
          obtain ⟨g1, g2⟩ := h1 q hq
          unfold cutP at e
          split at e
          · rw [e] at g2
            exact ⟨g2 _ List.mem_cons_self, fun s hs => g2 s (List.mem_cons_of_mem _ hs)⟩
          · injection e with e1 e2
            rw [← e1, ← e2]
            exact ⟨g1, g2⟩
        obtain ⟨k1, k2, k3⟩ := mergeP_keep P n (stepR f rs) (acc ++ [f]) hP fun s hs => (List.mem_append.mp hs).elim (h2 s) fun e => (List.mem_singleton.mp e) ▸ (h1 _ hm).1
        exact ⟨k1, k2, by rw [List.length_append, List.length_singleton] at k3; show (mergeP n (stepR f rs) (acc ++ [f])).1.length + sizeP (mergeP n (stepR f rs) (acc ++ [f])).2 ≤ _; omega⟩
/-- the word and the list that are told -/
def outW (R : List Str × List NR) : Str := if R.2 = [] then "list" else "left"
def outL (R : List Str × List NR) : List IV := if R.2 = [] then R.1.map IV.str else R.2.map enN
def outD (R : List Str × List NR) : List PyData := if R.2 = [] then R.1.map PyData.str else R.2.map fun p => .list ((p.1 :: p.2).map PyData.str)
/-- what the result keeps to -/
structure ROk (R : List Str × List NR) : Prop where
  a : ∀ s ∈ R.1, okS s ∧ s.length ≤ 100
  b : ∀ p ∈ R.2, (okS p.1 ∧ p.1.length ≤ 100) ∧ ∀ s ∈ p.2, okS s ∧ s.length ≤ 100
  z : R.1.length + sizeP R.2 ≤ 5000
theorem mergeR_ok {rows : List (List Str)} (h : ∀ r ∈ rows, ∀ s ∈ r, okS s ∧ s.length ≤ 100) (hz : sizeP (toN rows) ≤ 5000) : ROk (mergeR rows) := by
  obtain ⟨a, b, c⟩ := mergeP_keep (fun s => okS s ∧ s.length ≤ 100) (sizeP (toN rows) + 1) (toN rows) [] (fun p hp => ⟨h _ (toN_mem hp) _ List.mem_cons_self, fun s hs => h _ (toN_mem hp) s (List.mem_cons_of_mem _ hs)⟩) fun _ z => by cases z
  exact ⟨b, a, by unfold mergeR; simpa using Nat.le_trans c (by simpa using hz)⟩
theorem viewL_out {S : Sto} (n : Nat) (R : List Str × List NR) : viewL (view (n + 2) S) (outL R) = some (outD R) := by
  unfold outL outD
  split
  · exact viewL_strs (fun s => rfl) R.1
  · rw [rs_rows, viewL_rows fun r => view_row n r, List.map_map]
    rfl
theorem strs_w : ∀ l : List Str, (∀ s ∈ l, s.length ≤ 100) → PyData.weightAll (l.map PyData.str) ≤ 101 * l.length
  | [], _ => by simp [PyData.weightAll]
  | s :: l, h => by
    have h1 := strs_w l fun x hx => h x (List.mem_cons_of_mem _ hx)
    have h2 := h s List.mem_cons_self
    have h3 : s.cps.size = s.length := rfl
    rw [List.map_cons, PyData.weightAll, PyData.weight, List.length_cons, h3]
    omega
theorem rows_w : ∀ l : List NR, (∀ p ∈ l, p.1.length ≤ 100 ∧ ∀ s ∈ p.2, s.length ≤ 100) → PyData.weightAll (l.map fun p : NR => .list ((p.1 :: p.2).map PyData.str)) ≤ 102 * sizeP l
  | [], _ => by simp [PyData.weightAll, sizeP]
  | p :: l, h => by
    have h1 := rows_w l fun x hx => h x (List.mem_cons_of_mem _ hx)
    obtain ⟨h2, h3⟩ := h p List.mem_cons_self
    have h4 := strs_w (p.1 :: p.2) fun s hs => (List.mem_cons.mp hs).elim (fun e => e ▸ h2) (h3 s)
    rw [List.map_cons, PyData.weightAll, PyData.weight, sizeP]
    rw [List.length_cons] at h4
    omega
theorem show_strs (l : List Str) : PyData.showableAll (l.map PyData.str) = true := by
  induction l with
  | nil => rfl
  | cons s l ih => rw [List.map_cons, PyData.showableAll, PyData.showable, ih]; rfl
theorem show_rows (l : List NR) : PyData.showableAll (l.map fun p : NR => .list ((p.1 :: p.2).map PyData.str)) = true := by
  induction l with
  | nil => rfl
  | cons p l ih => rw [List.map_cons, PyData.showableAll, PyData.showable, show_strs, ih]; rfl
theorem ints_rows (l : List NR) : PyData.intsShortAll 13 (l.map fun p : NR => .list ((p.1 :: p.2).map PyData.str)) = true := by
  induction l with
  | nil => rfl
  | cons p l ih => rw [List.map_cons, PyData.intsShortAll, PyData.intsShort, PyData.intsShortAll_strs, ih]; rfl
/-- the data that is told -/
def toldD (R : List Str × List NR) : PyData := .tuple [.str (outW R), .list (outD R)]
theorem w_ok (R : List Str × List NR) : okS (outW R) ∧ (outW R).length = 4 := by
  have h : ∀ s ∈ [("list" : Str), "left"], ((sg s).all (fun c => decide (c < 1114112)) && decide (s.length = 4)) = true := by decide +kernel
  have hm : outW R ∈ [("list" : Str), "left"] := by unfold outW; split <;> simp
  have := h _ hm
  simp only [Bool.and_eq_true, List.all_eq_true, decide_eq_true_eq] at this
  exact this
theorem outD_ok {R : List Str × List NR} (h : ROk R) : PyData.canLayAll0 (outD R) = true ∧ PyData.depthAll (outD R) ≤ 1 ∧ PyData.weightAll (outD R) ≤ 600000 ∧ PyData.showableAll (outD R) = true ∧ PyData.intsShortAll 13 (outD R) = true := by
  have hz := h.z
  unfold outD
  split
  · exact ⟨canLay_strs fun s hs => (h.a s hs).1, by rw [depth_strs]; omega, Nat.le_trans (strs_w R.1 fun s hs => (h.a s hs).2) (by omega), show_strs _, PyData.intsShortAll_strs 13 _⟩
  · refine ⟨?_, ?_, Nat.le_trans (rows_w R.2 fun p hp => ⟨(h.b p hp).1.2, fun s hs => ((h.b p hp).2 s hs).2⟩) (by omega), show_rows _, ints_rows _⟩
    · have := canLay_rows (rows := R.2.map fun p => p.1 :: p.2) fun r hr s hs => by
        obtain ⟨p, hp, rfl⟩ := List.mem_map.mp hr
        exact (List.mem_cons.mp hs).elim (fun e => e ▸ (h.b p hp).1.1) fun z => ((h.b p hp).2 s z).1
      rwa [List.map_map] at this
    · have := depth_rows (R.2.map fun p => p.1 :: p.2)
      rwa [List.map_map] at this
theorem toldD_shaped {R : List Str × List NR} (h : ROk R) : SeqAt.shaped (toldD R) = true := by
  obtain ⟨h1, h2, _⟩ := outD_ok h
  unfold SeqAt.shaped toldD
  rw [PyData.canLay0, PyData.canLayAll0, PyData.canLayAll0, PyData.canLayAll0, PyData.canLay0, PyData.canLay0, okS_b (w_ok R).1, h1, PyData.depth, PyData.depthAll, PyData.depthAll, PyData.depthAll, PyData.depth, PyData.depth]
  simp
  omega
theorem toldD_show {R : List Str × List NR} (h : ROk R) : okShow (toldD R) = true := by
  obtain ⟨h1, h2, h3, h4, h5⟩ := outD_ok h
  have sh := toldD_shaped h
  unfold SeqAt.shaped at sh
  obtain ⟨s1, s2⟩ := Bool.and_eq_true_iff.mp sh
  have w : PyData.weight (toldD R) ≤ 2 ^ 20 := by
    have hw : (outW R).cps.size = 4 := (w_ok R).2
    unfold toldD
    rw [PyData.weight, PyData.weightAll, PyData.weightAll, PyData.weightAll, PyData.weight, PyData.weight, hw]
    omega
  unfold okShow PyData.layable0
  rw [s1, s2, decide_eq_true w]
  unfold toldD
  rw [PyData.intsShort, PyData.intsShortAll, PyData.intsShortAll, PyData.intsShortAll, PyData.intsShort, PyData.intsShort, h5, PyData.showable, PyData.showableAll, PyData.showableAll, PyData.showableAll, PyData.showable, PyData.showable, h4]
  rfl
theorem view_found {S : Sto} {R : List Str × List NR} {q : Nat} (h : S[q]? = some (.lst (outL R))) : view 8 S (.tup [.str (outW R), .adr q]) = some (toldD R) := by
  have h7 : view 7 S (.adr q) = some (.list (outD R)) := by
    unfold view
    simp only [h]
    rw [show viewL (view 6 S) (outL R) = some (outD R) from viewL_out 4 R]
    rfl
  show (viewL (view 7 S) [.str (outW R), .adr q]).map PyData.tuple = _
  unfold viewL
  rw [show view 7 S (.str (outW R)) = some (.str (outW R)) from rfl]
  unfold viewL
  rw [h7]
  rfl
theorem view_lst {S : Sto} {R : List Str × List NR} : view 8 S (.tup [.str (outW R), .lst (outL R)]) = some (toldD R) := by
  have h7 : view 7 S (.lst (outL R)) = some (.list (outD R)) := by
    show (viewL (view 6 S) (outL R)).map PyData.list = _
    rw [show viewL (view 6 S) (outL R) = some (outD R) from viewL_out 4 R]
    rfl
  show (viewL (view 7 S) [.str (outW R), .lst (outL R)]).map PyData.tuple = _
  unfold viewL
  rw [show view 7 S (.str (outW R)) = some (.str (outW R)) from rfl]
  unfold viewL
  rw [h7]
  rfl
theorem repr_e {S : Sto} {x : IV} {d : PyData} (hx : view 8 S x = some d) (hr : isRf x = true) (hd : okShow d = true) : fRepr [x] S = .ok (.str d.shown) S := by
  unfold fRepr
  rw [a1_1, hx, orBad_some, chk_pos ⟨hr, hd⟩]
/-- the list in the store, too -/
theorem eqB_cell {S : Sto} {a : Nat} {rows : List (List Str)} (h : S[a]? = some (.lst (rows.map enR))) (ok : ∀ r ∈ rows, ∀ s ∈ r, okS s) : eqB S (.adr a) (.lst (rows.map enR)) = some true := by
  refine eqB_same ?_ (view_rows 5 rows) (shaped_rows ok) rfl
  unfold view
  simp only [h]
  rw [viewL_rows fun r => view_row 5 r]
  rfl
end Lw

set_option maxHeartbeats 4000000
namespace K17
open PySem PySem.Spec PyProof.Rows L2 Sm
def topS (i : Nat) : Stmt := PySem.Challenge.pw_patchedplaces_k17_rows_merged.main.body.getD i (.Pass ⟨0, 0, 0, 0⟩)
section
variable {P : Program} {w : World} {K : PySem.W.Frag} {mg : Str → Option Value} {base : Heap}
abbrev s_NoOrder___init__ : Stmt := inClass (topS 2) 0
theorem sc_NoOrder : FnScope ["self", "rows"] ["self", "rows"] (defScope s_NoOrder___init__) := ⟨rfl, rfl, rfl, by decide +kernel, rfl, by decide +kernel, by decide +kernel⟩
theorem ok_e_NoOrder (L : ELoc K mg "NoOrder" "rows" "self" "rows" "NoOrder.__init__" s_NoOrder___init__) (b_PatchedError : BaseC K mg "PatchedError") : ECal P w K mg base "NoOrder" "rows" :=
  ecal_def (z := "no order") L sc_NoOrder fun fI cdv A outer s H E => pss_cons (ps_expr (pe_clsinit rfl b_PatchedError (by decide) (pa_cons (pe_var (i := 0) rfl (Or.inl rfl)) (pa_cons pe_str pa_nil)))) (pss_one (ps_ost (pe_var (i := 0) rfl (Or.inl rfl)) (pe_var (i := 1) rfl (Or.inl rfl))))
abbrev s_first_free : Stmt := topS 4
abbrev n_first_free : List Str := ["rows", "row", "other"]
theorem sc_first_free : FnScope n_first_free ["rows"] (defScope s_first_free) := ⟨rfl, rfl, rfl, by decide +kernel, rfl, by decide +kernel, by decide +kernel⟩
noncomputable def b_first_free : IS := (iSeq (iFor (iSrcL (iVar 0)) (iName 1) (iIf (iNot (iTru (iCa fAny (iCons (iLc false (iSrcL (iVar 0)) (giN 2) iYes (iBin fIn (iBin fIx (iVar 1) (iC (.int 0))) (iSl false (iVar 2) (iPart (iC (.int 1))) iNoPart)) [2]) iNil)))) (iRet (iBin fIx (iVar 1) (iC (.int 0)))) iNext)) (iRet (iC .non)))
noncomputable def m_first_free : List IV → Sto → Out IV := mDef 3 b_first_free
theorem ok_first_free  (L : Loc K mg "first_free" s_first_free ["rows"]) (z_any : mg "any" = none) : Cal P w K mg base "first_free" 1 ["rows"] m_first_free :=
  cal_def (N := n_first_free) L sc_first_free fun f cdv A outer s H E hr tk po => (dss_cons (ds_for po rfl (di_list (de_var 0)) (dg_name 1 sc_first_free.nd) (dss_one (ds_if (dt_not (dt_tru (de_cb (cr_any rfl) cs_any z_any (by decide +kernel) (da_cons (de_lc (own := [("other", 2)]) false rfl sc_first_free.nd (di_list (de_var 0)) (blkOk_by (own := [("other", 2)]) (N := n_first_free) (sc := defScope s_first_free) (by decide +kernel)) (fun _ _ _ _ _ => pg_name (i := 2) sc_first_free.nd rfl (Or.inl rfl)) (gc_name (by decide)) (fun _ _ _ _ _ => dts_nil) (fun _ _ _ _ _ => (de_cmp op_inA os_in (de_ix (de_var 1) de_int) (de_slice false (de_var 2) (do_some de_int) do_none)))) da_nil)))) (dss_one (ds_ret (de_ix (de_var 1) de_int))) dss_nil))) (dss_one (ds_ret de_non)))
abbrev s_merge : Stmt := topS 5
abbrev n_merge : List Str := ["rows", "left", "merged", "first", "shorter", "row"]
theorem sc_merge : FnScope n_merge ["rows"] (defScope s_merge) := ⟨rfl, rfl, rfl, by decide +kernel, rfl, by decide +kernel, by decide +kernel⟩
noncomputable def b_merge : IS := (iSeq (iSet 1 (iLc true (iSrcL (iVar 0)) (giN 5) (iTest (iBin fGt (iCa fLen (iCons (iVar 5) iNil)) (iC (.int 0)))) (iCa (fList false) (iCons (iVar 5) iNil)) [5])) (iSeq (iSet 2 (iLst true iNil)) (iSeq (iWhile (iTru (iVar 1)) (iSeq (iSet 3 (iCall 1 m_first_free (iCons (iVar 1) iNil))) (iSeq (iIf (iTest (iBin gIsN (iVar 3) (iC .non))) (iRaise "NoOrder" "rows" (iCons (iVar 1) iNil)) iNext) (iSeq (iDrop (iBM "list" fApp (iVar 2) (iCons (iVar 3) iNil))) (iSeq (iSet 4 (iLc false (iSrcL (iVar 1)) (giN 5) iYes (iIf (iTest (iBin fEq (iBin fIx (iVar 5) (iC (.int 0))) (iVar 3))) (iSl false (iVar 5) (iPart (iC (.int 1))) iNoPart) (iVar 5)) [5])) (iSet 1 (iLc true (iSrcL (iVar 4)) (giN 5) (iTest (iBin fGt (iCa fLen (iCons (iVar 5) iNil)) (iC (.int 0)))) (iVar 5) [5]))))))) (iRet (iVar 2)))))
noncomputable def m_merge : List IV → Sto → Out IV := mDef 6 b_merge
theorem ok_merge  (L : Loc K mg "merge" s_merge ["rows"]) (z_len : mg "len" = none) (z_list : mg "list" = none) (e_NoOrder : ECal P w K mg base "NoOrder" "rows") (c_first_free : Cal P w K mg base "first_free" 1 ["rows"] m_first_free) : Cal P w K mg base "merge" 3 ["rows"] m_merge :=
  cal_def (N := n_merge) L sc_merge fun f cdv A outer s H E hr tk po => (dss_cons (ds_setLc (own := [("row", 5)]) true 1 rfl sc_merge.nd (di_list (de_var 0)) (blkOk_by (own := [("row", 5)]) (N := n_merge) (sc := defScope s_merge) (by decide +kernel)) (fun _ _ _ _ _ => pg_name (i := 5) sc_merge.nd rfl (Or.inl rfl)) (gc_name (by decide)) (fun _ _ _ _ _ => dts_one (dt_cmp op_gt os_B (de_cb call_len cs_len z_len (by decide +kernel) (da_cons (de_var 5) da_nil)) de_int)) (fun _ _ _ _ _ => (de_ct call_list_of (cs_list false) z_list (by decide +kernel) (da_cons (de_var 5) da_nil)))) (dss_cons (ds_set 2 sc_merge.nd (de_lst true da_nil)) (dss_cons (ds_while po (dt_tru (de_var 1)) (dss_cons (ds_set 3 sc_merge.nd (de_callC c_first_free tk (hr.mono (by decide)) (da_cons (de_var 1) da_nil))) (dss_cons (ds_if (dt_cmp op_isN os_isN (de_var 3) de_non) (dss_one (ds_raise rfl tk (hr.mono (by decide)) e_NoOrder (da_cons (de_var 1) da_nil))) dss_nil) (dss_cons (ds_expr (de_bm PySem.F.plainAttrs_list PySem.F.slot_list_append PySem.F.type_list_append mt_append ms_app (de_var 2) (da_cons (de_var 3) da_nil))) (dss_cons (ds_setLc (own := [("row", 5)]) false 4 rfl sc_merge.nd (di_list (de_var 1)) (blkOk_by (own := [("row", 5)]) (N := n_merge) (sc := defScope s_merge) (by decide +kernel)) (fun _ _ _ _ _ => pg_name (i := 5) sc_merge.nd rfl (Or.inl rfl)) (gc_name (by decide)) (fun _ _ _ _ _ => dts_nil) (fun _ _ _ _ _ => (de_if (dt_cmp (op_eqA hr.units) os_eq (de_ix (de_var 5) de_int) (de_var 3)) (de_slice false (de_var 5) (do_some de_int) do_none) (de_var 5)))) (dss_one (ds_setLc (own := [("row", 5)]) true 1 rfl sc_merge.nd (di_list (de_var 4)) (blkOk_by (own := [("row", 5)]) (N := n_merge) (sc := defScope s_merge) (by decide +kernel)) (fun _ _ _ _ _ => pg_name (i := 5) sc_merge.nd rfl (Or.inl rfl)) (gc_name (by decide)) (fun _ _ _ _ _ => dts_one (dt_cmp op_gt os_B (de_cb call_len cs_len z_len (by decide +kernel) (da_cons (de_var 5) da_nil)) de_int)) (fun _ _ _ _ _ => (de_var 5))))))))) (dss_one (ds_ret (de_var 2))))))
abbrev s__law_source : Stmt := topS 7
abbrev n__law_source : List Str := ["_law_script", "_law_at", "_law_cell", "_law_big"]
theorem sc__law_source : FnScope n__law_source ["_law_script", "_law_at"] (defScope s__law_source) := ⟨rfl, rfl, rfl, by decide +kernel, rfl, by decide +kernel, by decide +kernel⟩
noncomputable def b__law_source : IS := (iSeq (iSet 2 (iIf (iTest (iBin fLt (iVar 1) (iCa fLen (iCons (iVar 0) iNil)))) (iBin fIx (iVar 0) (iVar 1)) (iC (.int 0)))) (iSeq (iSet 3 (iIf (iTest (iBin fGe (iCa fAbs (iCons (iVar 2) iNil)) (iBin fPow (iC (.int 10)) (iC (.int 18))))) (iCa fAbs (iCons (iVar 2) iNil)) (iC (.int 0)))) (iRet (iLst true (iCons (iVar 3) (iCons (iBin fAdd (iBin fAdd (iBin fMod (iCa fInt (iCons (iVar 2) iNil)) (iC (.int 2147483587))) (iBin fMul (iC (.int 6007)) (iVar 1))) (iC (.int 1709))) (iCons (iC (.int 0)) iNil)))))))
noncomputable def m__law_source : List IV → Sto → Out IV := mDef 4 b__law_source
theorem ok__law_source  (L : Loc K mg "_law_source" s__law_source ["_law_script", "_law_at"]) (z_int : mg "int" = none) (z_abs : mg "abs" = none) (z_len : mg "len" = none) : Cal P w K mg base "_law_source" 1 ["_law_script", "_law_at"] m__law_source :=
  cal_def (N := n__law_source) L sc__law_source fun f cdv A outer s H E hr tk po => (dss_cons (ds_set 2 sc__law_source.nd (de_if (dt_cmp op_lt os_B (de_var 1) (de_cb call_len cs_len z_len (by decide +kernel) (da_cons (de_var 0) da_nil))) (de_ix (de_var 0) (de_var 1)) de_int)) (dss_cons (ds_set 3 sc__law_source.nd (de_if (dt_cmp op_ge os_B (de_cb call_abs cs_abs z_abs (by decide +kernel) (da_cons (de_var 2) da_nil)) (de_bin op_pow os_I de_int de_int)) (de_cb call_abs cs_abs z_abs (by decide +kernel) (da_cons (de_var 2) da_nil)) de_int)) (dss_one (ds_ret (de_lst true (da_cons (de_var 3) (da_cons (de_bin op_addA os_add (de_bin op_addA os_add (de_bin op_mod os_I (de_ct call_int1 cs_int z_int (by decide +kernel) (da_cons (de_var 2) da_nil)) de_int) (de_bin op_mul os_I de_int (de_var 1))) de_int) (da_cons de_int da_nil))))))))
abbrev s__law_draw : Stmt := topS 8
abbrev n__law_draw : List Str := ["_law_s", "_law_many", "_law_digit", "_law_mixed"]
theorem sc__law_draw : FnScope n__law_draw ["_law_s", "_law_many"] (defScope s__law_draw) := ⟨rfl, rfl, rfl, by decide +kernel, rfl, by decide +kernel, by decide +kernel⟩
noncomputable def b__law_draw : IS := (iSeq (iIf (iTest (iBin fGt (iBin fIx (iVar 0) (iC (.int 0))) (iC (.int 0)))) (iSeq (iSet 2 (iBin fMod (iCa fInt (iCons (iBin fIx (iVar 0) (iC (.int 0))) iNil)) (iVar 1))) (iSeq (iAsg (iBin fDiv (iBin fIx (iVar 0) (iC (.int 0))) (iVar 1)) (iGSub (iVar 0) (iC (.int 0)))) (iRet (iVar 2)))) iNext) (iSeq (iAsg (iBin fAdd (iBin fIx (iVar 0) (iC (.int 2))) (iC (.int 1))) (iGSub (iVar 0) (iC (.int 2)))) (iSeq (iAsg (iBin fMod (iCa fInt (iCons (iBin fAdd (iBin fAdd (iBin fMul (iBin fIx (iVar 0) (iC (.int 1))) (iC (.int 41077))) (iBin fMul (iBin fMul (iBin fIx (iVar 0) (iC (.int 2))) (iBin fIx (iVar 0) (iC (.int 2)))) (iC (.int 28001)))) (iC (.int 1709))) iNil)) (iC (.int 2147483549))) (iGSub (iVar 0) (iC (.int 1)))) (iSeq (iSet 3 (iBin fDiv (iBin fIx (iVar 0) (iC (.int 1))) (iC (.int 256)))) (iRet (iBin fMod (iBin fMod (iCa fInt (iCons (iBin fAdd (iBin fMul (iVar 3) (iVar 3)) (iBin fIx (iVar 0) (iC (.int 1)))) iNil)) (iC (.int 2147399873))) (iVar 1)))))))
noncomputable def m__law_draw : List IV → Sto → Out IV := mDef 4 b__law_draw
theorem ok__law_draw  (L : Loc K mg "_law_draw" s__law_draw ["_law_s", "_law_many"]) (z_int : mg "int" = none) : Cal P w K mg base "_law_draw" 1 ["_law_s", "_law_many"] m__law_draw :=
  cal_def (N := n__law_draw) L sc__law_draw fun f cdv A outer s H E hr tk po => (dss_cons (ds_if (dt_cmp op_gt os_B (de_ix (de_var 0) de_int) de_int) (dss_cons (ds_set 2 sc__law_draw.nd (de_bin op_mod os_I (de_ct call_int1 cs_int z_int (by decide +kernel) (da_cons (de_ix (de_var 0) de_int) da_nil)) (de_var 1))) (dss_cons (ds_asg (de_bin op_fdiv os_I (de_ix (de_var 0) de_int) (de_var 1)) (dg_sub (de_var 0) de_int)) (dss_one (ds_ret (de_var 2))))) dss_nil) (dss_cons (ds_asg (de_bin op_addA os_add (de_ix (de_var 0) de_int) de_int) (dg_sub (de_var 0) de_int)) (dss_cons (ds_asg (de_bin op_mod os_I (de_ct call_int1 cs_int z_int (by decide +kernel) (da_cons (de_bin op_addA os_add (de_bin op_addA os_add (de_bin op_mul os_I (de_ix (de_var 0) de_int) de_int) (de_bin op_mul os_I (de_bin op_mul os_I (de_ix (de_var 0) de_int) (de_ix (de_var 0) de_int)) de_int)) de_int) da_nil)) de_int) (dg_sub (de_var 0) de_int)) (dss_cons (ds_set 3 sc__law_draw.nd (de_bin op_fdiv os_I (de_ix (de_var 0) de_int) de_int)) (dss_one (ds_ret (de_bin op_mod os_I (de_bin op_mod os_I (de_ct call_int1 cs_int z_int (by decide +kernel) (da_cons (de_bin op_addA os_add (de_bin op_mul os_I (de_var 3) (de_var 3)) (de_ix (de_var 0) de_int)) da_nil)) de_int) (de_var 1))))))))
abbrev s__law_of : Stmt := topS 9
abbrev n__law_of : List Str := ["_law_s", "_law_some"]
theorem sc__law_of : FnScope n__law_of ["_law_s", "_law_some"] (defScope s__law_of) := ⟨rfl, rfl, rfl, by decide +kernel, rfl, by decide +kernel, by decide +kernel⟩
noncomputable def b__law_of : IS := (iRet (iBin fIx (iVar 1) (iCall 2 m__law_draw (iCons (iVar 0) (iCons (iCa fLen (iCons (iVar 1) iNil)) iNil)))))
noncomputable def m__law_of : List IV → Sto → Out IV := mDef 2 b__law_of
theorem ok__law_of  (L : Loc K mg "_law_of" s__law_of ["_law_s", "_law_some"]) (z_len : mg "len" = none) (c__law_draw : Cal P w K mg base "_law_draw" 1 ["_law_s", "_law_many"] m__law_draw) : Cal P w K mg base "_law_of" 2 ["_law_s", "_law_some"] m__law_of :=
  cal_def (N := n__law_of) L sc__law_of fun f cdv A outer s H E hr tk po => (dss_one (ds_ret (de_ix (de_var 1) (de_callC c__law_draw tk (hr.mono (by decide)) (da_cons (de_var 0) (da_cons (de_cb call_len cs_len z_len (by decide +kernel) (da_cons (de_var 1) da_nil)) da_nil))))))
abbrev s__law_pool : Stmt := topS 10
abbrev n__law_pool : List Str := ["_law_s", "_law_kept", "_law_letters", "_law_pool_here", "_law_turn", "_law_size", "_law_name", "_law_spare", "_law_k", "_law_one"]
theorem sc__law_pool : FnScope n__law_pool ["_law_s"] (defScope s__law_pool) := ⟨rfl, rfl, rfl, by decide +kernel, rfl, by decide +kernel, by decide +kernel⟩
noncomputable def b__law_pool : IS := (iSeq (iSet 1 (iLst false (iCons (iC (.str "ahead")) (iCons (iC (.str "all")) (iCons (iC (.str "as")) (iCons (iC (.str "at")) (iCons (iC (.str "call")) (iCons (iC (.str "class")) (iCons (iC (.str "def")) (iCons (iC (.str "end")) (iCons (iC (.str "for")) (iCons (iC (.str "from")) (iCons (iC (.str "keep")) (iCons (iC (.str "none")) (iCons (iC (.str "often")) iNil))))))))))))))) (iSeq (iSet 1 (iBin fAdd (iVar 1) (iLst false (iCons (iC (.str "once")) (iCons (iC (.str "or")) (iCons (iC (.str "patch")) (iCons (iC (.str "set")) (iCons (iC (.str "stand")) (iCons (iC (.str "start")) (iCons (iC (.str "stop")) (iCons (iC (.str "table")) (iCons (iC (.str "test")) (iCons (iC (.str "using")) (iCons (iC (.str "with")) iNil)))))))))))))) (iSeq (iSet 2 (iC (.str "abcdefghijklmnopqrstuvwxyz"))) (iSeq (iSet 3 (iLst true iNil)) (iSeq (iFor (iSrcR1 (iC (.int 12))) (iName 4) (iSeq (iSet 5 (iBin fAdd (iC (.int 1)) (iCall 2 m__law_draw (iCons (iVar 0) (iCons (iC (.int 5)) iNil))))) (iSeq (iSet 6 (iBM "str" fJoin (iC (.str "")) (iCons (iLc false (iSrcR1 (iVar 5)) (giN 8) iYes (iCall 2 m__law_of (iCons (iVar 0) (iCons (iVar 2) iNil))) [8]) iNil))) (iSeq (iIf (iOr (iTest (iBin fIn (iVar 6) (iVar 1))) (iTest (iBin fIn (iVar 6) (iVar 3)))) (iSeq (iSet 7 (iLc false (iSrcR1 (iC (.int 26))) (giN 8) iYes (iBin fAdd (iBin fAdd (iBin fIx (iVar 2) (iVar 8)) (iBin fIx (iVar 2) (iBin fSub (iC (.int 25)) (iVar 8)))) (iC (.str "x"))) [8])) (iSet 6 (iBin fIx (iLc false (iSrcL (iVar 7)) (giN 9) (iTest (iBin fNotIn (iVar 9) (iVar 3))) (iVar 9) [9]) (iC (.int 0))))) iNext) (iDrop (iBM "list" fApp (iVar 3) (iCons (iVar 6) iNil))))))) (iRet (iVar 3)))))))
noncomputable def m__law_pool : List IV → Sto → Out IV := mDef 10 b__law_pool
theorem ok__law_pool  (L : Loc K mg "_law_pool" s__law_pool ["_law_s"]) (z_range : mg "range" = none) (c__law_of : Cal P w K mg base "_law_of" 2 ["_law_s", "_law_some"] m__law_of) (c__law_draw : Cal P w K mg base "_law_draw" 1 ["_law_s", "_law_many"] m__law_draw) : Cal P w K mg base "_law_pool" 3 ["_law_s"] m__law_pool :=
  cal_def (N := n__law_pool) L sc__law_pool fun f cdv A outer s H E hr tk po => (dss_cons (ds_set 1 sc__law_pool.nd (de_lst false (da_cons de_str (da_cons de_str (da_cons de_str (da_cons de_str (da_cons de_str (da_cons de_str (da_cons de_str (da_cons de_str (da_cons de_str (da_cons de_str (da_cons de_str (da_cons de_str (da_cons de_str da_nil))))))))))))))) (dss_cons (ds_set 1 sc__law_pool.nd (de_bin op_addA os_add (de_var 1) (de_lst false (da_cons de_str (da_cons de_str (da_cons de_str (da_cons de_str (da_cons de_str (da_cons de_str (da_cons de_str (da_cons de_str (da_cons de_str (da_cons de_str (da_cons de_str da_nil)))))))))))))) (dss_cons (ds_set 2 sc__law_pool.nd de_str) (dss_cons (ds_set 3 sc__law_pool.nd (de_lst true da_nil)) (dss_cons (ds_for po rfl (di_range1 z_range (da_cons de_int da_nil)) (dg_name 4 sc__law_pool.nd) (dss_cons (ds_set 5 sc__law_pool.nd (de_bin op_addA os_add de_int (de_callC c__law_draw tk (hr.mono (by decide)) (da_cons (de_var 0) (da_cons de_int da_nil))))) (dss_cons (ds_set 6 sc__law_pool.nd (de_bm PySem.F.plainAttrs_str PySem.F.slot_str_join PySem.F.type_str_join mt_join ms_join de_str (da_cons (de_lc (own := [("_law_k", 8)]) false rfl sc__law_pool.nd (di_range1 z_range (da_cons (de_var 5) da_nil)) (blkOk_by (own := [("_law_k", 8)]) (N := n__law_pool) (sc := defScope s__law_pool) (by decide +kernel)) (fun _ _ _ _ _ => pg_name (i := 8) sc__law_pool.nd rfl (Or.inl rfl)) (gc_name (by decide)) (fun _ _ _ _ _ => dts_nil) (fun _ _ _ _ _ => (de_callC c__law_of takesW0 (hr.mono (by decide)) (da_cons (de_var 0) (da_cons (de_var 2) da_nil))))) da_nil))) (dss_cons (ds_if (dt_w (dw_or (dt_cmp op_inA os_in (de_var 6) (de_var 1)) (dw_or1 (dt_cmp op_inA os_in (de_var 6) (de_var 3))))) (dss_cons (ds_setLc (own := [("_law_k", 8)]) false 7 rfl sc__law_pool.nd (di_range1 z_range (da_cons de_int da_nil)) (blkOk_by (own := [("_law_k", 8)]) (N := n__law_pool) (sc := defScope s__law_pool) (by decide +kernel)) (fun _ _ _ _ _ => pg_name (i := 8) sc__law_pool.nd rfl (Or.inl rfl)) (gc_name (by decide)) (fun _ _ _ _ _ => dts_nil) (fun _ _ _ _ _ => (de_bin op_addA os_add (de_bin op_addA os_add (de_ix (de_var 2) (de_var 8)) (de_ix (de_var 2) (de_bin op_subT os_I de_int (de_var 8)))) de_str))) (dss_one (ds_set 6 sc__law_pool.nd (de_ix (de_lc (own := [("_law_one", 9)]) false rfl sc__law_pool.nd (di_list (de_var 7)) (blkOk_by (own := [("_law_one", 9)]) (N := n__law_pool) (sc := defScope s__law_pool) (by decide +kernel)) (fun _ _ _ _ _ => pg_name (i := 9) sc__law_pool.nd rfl (Or.inl rfl)) (gc_name (by decide)) (fun _ _ _ _ _ => dts_one (dt_cmp op_notInA os_notIn (de_var 9) (de_var 3))) (fun _ _ _ _ _ => (de_var 9))) de_int)))) dss_nil) (dss_one (ds_expr (de_bm PySem.F.plainAttrs_list PySem.F.slot_list_append PySem.F.type_list_append mt_append ms_app (de_var 3) (da_cons (de_var 6) da_nil)))))))) (dss_one (ds_ret (de_var 3))))))))
abbrev s__law_rows : Stmt := topS 11
abbrev n__law_rows : List Str := ["_law_s", "_law_pool_here", "_law_style", "_law_rows_here", "_law_turn", "_law_row", "_law_k", "_law_one"]
theorem sc__law_rows : FnScope n__law_rows ["_law_s"] (defScope s__law_rows) := ⟨rfl, rfl, rfl, by decide +kernel, rfl, by decide +kernel, by decide +kernel⟩
noncomputable def b__law_rows : IS := (iSeq (iSet 1 (iSl false (iCall 1 m__law_pool (iCons (iVar 0) iNil)) iNoPart (iPart (iC (.int 6))))) (iSeq (iSet 2 (iCall 2 m__law_draw (iCons (iVar 0) (iCons (iC (.int 3)) iNil)))) (iSeq (iSet 3 (iLst true iNil)) (iSeq (iFor (iSrcR1 (iCall 2 m__law_draw (iCons (iVar 0) (iCons (iC (.int 10)) iNil)))) (iName 4) (iSeq (iSet 5 (iLc false (iSrcR1 (iCall 2 m__law_draw (iCons (iVar 0) (iCons (iC (.int 8)) iNil)))) (giN 6) iYes (iCall 2 m__law_of (iCons (iVar 0) (iCons (iVar 1) iNil))) [6])) (iSeq (iIf (iTest (iBin fGt (iVar 2) (iC (.int 0)))) (iSet 5 (iLc false (iSrcL (iVar 1)) (giN 7) (iTest (iBin fIn (iVar 7) (iVar 5))) (iVar 7) [7])) iNext) (iSeq (iIf (iAnd (iTest (iBin fEq (iVar 2) (iC (.int 2)))) (iTest (iBin fEq (iCall 2 m__law_draw (iCons (iVar 0) (iCons (iC (.int 3)) iNil))) (iC (.int 0))))) (iSet 5 (iUn fRev (iVar 5))) iNext) (iDrop (iBM "list" fApp (iVar 3) (iCons (iVar 5) iNil))))))) (iRet (iVar 3))))))
noncomputable def m__law_rows : List IV → Sto → Out IV := mDef 8 b__law_rows
theorem ok__law_rows  (L : Loc K mg "_law_rows" s__law_rows ["_law_s"]) (z_range : mg "range" = none) (c__law_draw : Cal P w K mg base "_law_draw" 1 ["_law_s", "_law_many"] m__law_draw) (c__law_of : Cal P w K mg base "_law_of" 2 ["_law_s", "_law_some"] m__law_of) (c__law_pool : Cal P w K mg base "_law_pool" 3 ["_law_s"] m__law_pool) : Cal P w K mg base "_law_rows" 4 ["_law_s"] m__law_rows :=
  cal_def (N := n__law_rows) L sc__law_rows fun f cdv A outer s H E hr tk po => (dss_cons (ds_set 1 sc__law_rows.nd (de_slice false (de_callC c__law_pool tk (hr.mono (by decide)) (da_cons (de_var 0) da_nil)) do_none (do_some de_int))) (dss_cons (ds_set 2 sc__law_rows.nd (de_callC c__law_draw tk (hr.mono (by decide)) (da_cons (de_var 0) (da_cons de_int da_nil)))) (dss_cons (ds_set 3 sc__law_rows.nd (de_lst true da_nil)) (dss_cons (ds_for po rfl (di_range1 z_range (da_cons (de_callC c__law_draw tk (hr.mono (by decide)) (da_cons (de_var 0) (da_cons de_int da_nil))) da_nil)) (dg_name 4 sc__law_rows.nd) (dss_cons (ds_set 5 sc__law_rows.nd (de_lc (own := [("_law_k", 6)]) false rfl sc__law_rows.nd (di_range1 z_range (da_cons (de_callC c__law_draw tk (hr.mono (by decide)) (da_cons (de_var 0) (da_cons de_int da_nil))) da_nil)) (blkOk_by (own := [("_law_k", 6)]) (N := n__law_rows) (sc := defScope s__law_rows) (by decide +kernel)) (fun _ _ _ _ _ => pg_name (i := 6) sc__law_rows.nd rfl (Or.inl rfl)) (gc_name (by decide)) (fun _ _ _ _ _ => dts_nil) (fun _ _ _ _ _ => (de_callC c__law_of takesW0 (hr.mono (by decide)) (da_cons (de_var 0) (da_cons (de_var 1) da_nil)))))) (dss_cons (ds_if (dt_cmp op_gt os_B (de_var 2) de_int) (dss_one (ds_set 5 sc__law_rows.nd (de_lc (own := [("_law_one", 7)]) false rfl sc__law_rows.nd (di_list (de_var 1)) (blkOk_by (own := [("_law_one", 7)]) (N := n__law_rows) (sc := defScope s__law_rows) (by decide +kernel)) (fun _ _ _ _ _ => pg_name (i := 7) sc__law_rows.nd rfl (Or.inl rfl)) (gc_name (by decide)) (fun _ _ _ _ _ => dts_one (dt_cmp op_inA os_in (de_var 7) (de_var 5))) (fun _ _ _ _ _ => (de_var 7))))) dss_nil) (dss_cons (ds_if (dt_w (dw_and (dt_cmp (op_eqA hr.units) os_eq (de_var 2) de_int) (dw_and1 (dt_cmp (op_eqA hr.units) os_eq (de_callC c__law_draw tk (hr.mono (by decide)) (da_cons (de_var 0) (da_cons de_int da_nil))) de_int)))) (dss_one (ds_set 5 sc__law_rows.nd (de_rev (de_var 5)))) dss_nil) (dss_one (ds_expr (de_bm PySem.F.plainAttrs_list PySem.F.slot_list_append PySem.F.type_list_append mt_append ms_app (de_var 3) (da_cons (de_var 5) da_nil)))))))) (dss_one (ds_ret (de_var 3)))))))
abbrev s__law_merged : Stmt := topS 12
abbrev n__law_merged : List Str := ["_law_rows_here", "_law_taken", "_law_left", "_law_later", "_law_row", "_law_firsts", "_law_shorter"]
theorem sc__law_merged : FnScope n__law_merged ["_law_rows_here"] (defScope s__law_merged) := ⟨rfl, rfl, rfl, by decide +kernel, rfl, by decide +kernel, by decide +kernel⟩
noncomputable def b__law_merged : IS := (iSeq (iSet 1 (iLst true iNil)) (iSeq (iSet 2 (iLc false (iSrcL (iVar 0)) (giN 4) (iTest (iBin fNe (iVar 4) (iLst false iNil))) (iVar 4) [4])) (iSeq (iWhile (iTest (iBin fNe (iVar 2) (iLst false iNil))) (iSeq (iSet 3 (iLst true iNil)) (iSeq (iFor (iSrcL (iVar 2)) (iName 4) (iDrop (iBM "list" fExt (iVar 3) (iCons (iSl false (iVar 4) (iPart (iC (.int 1))) iNoPart) iNil)))) (iSeq (iSet 5 (iLc false (iSrcL (iVar 2)) (giN 4) (iTest (iBin fNotIn (iBin fIx (iVar 4) (iC (.int 0))) (iVar 3))) (iBin fIx (iVar 4) (iC (.int 0))) [4])) (iSeq (iIf (iTest (iBin fEq (iVar 5) (iLst false iNil))) (iRet (iTup (iCons (iVar 1) (iCons (iVar 2) iNil)))) iNext) (iSeq (iDrop (iBM "list" fApp (iVar 1) (iCons (iBin fIx (iVar 5) (iC (.int 0))) iNil))) (iSeq (iSet 6 (iLc false (iSrcL (iVar 2)) (giN 4) iYes (iIf (iTest (iBin fEq (iBin fIx (iVar 4) (iC (.int 0))) (iBin fIx (iVar 5) (iC (.int 0))))) (iSl false (iVar 4) (iPart (iC (.int 1))) iNoPart) (iVar 4)) [4])) (iSet 2 (iLc false (iSrcL (iVar 6)) (giN 4) (iTest (iBin fNe (iVar 4) (iLst false iNil))) (iVar 4) [4]))))))))) (iRet (iTup (iCons (iVar 1) (iCons (iLst false iNil) iNil)))))))
noncomputable def m__law_merged : List IV → Sto → Out IV := mDef 7 b__law_merged
theorem ok__law_merged  (L : Loc K mg "_law_merged" s__law_merged ["_law_rows_here"])  : Cal P w K mg base "_law_merged" 1 ["_law_rows_here"] m__law_merged :=
  cal_def (N := n__law_merged) L sc__law_merged fun f cdv A outer s H E hr tk po => (dss_cons (ds_set 1 sc__law_merged.nd (de_lst true da_nil)) (dss_cons (ds_setLc (own := [("_law_row", 4)]) false 2 rfl sc__law_merged.nd (di_list (de_var 0)) (blkOk_by (own := [("_law_row", 4)]) (N := n__law_merged) (sc := defScope s__law_merged) (by decide +kernel)) (fun _ _ _ _ _ => pg_name (i := 4) sc__law_merged.nd rfl (Or.inl rfl)) (gc_name (by decide)) (fun _ _ _ _ _ => dts_one (dt_cmp (op_neA hr.units) os_ne (de_var 4) (de_lst false da_nil))) (fun _ _ _ _ _ => (de_var 4))) (dss_cons (ds_while po (dt_cmp (op_neA hr.units) os_ne (de_var 2) (de_lst false da_nil)) (dss_cons (ds_set 3 sc__law_merged.nd (de_lst true da_nil)) (dss_cons (ds_for po rfl (di_list (de_var 2)) (dg_name 4 sc__law_merged.nd) (dss_one (ds_expr (de_bm PySem.F.plainAttrs_list PySem.F.slot_list_extend PySem.F.type_list_extend mt_extend ms_ext (de_var 3) (da_cons (de_slice false (de_var 4) (do_some de_int) do_none) da_nil))))) (dss_cons (ds_set 5 sc__law_merged.nd (de_lc (own := [("_law_row", 4)]) false rfl sc__law_merged.nd (di_list (de_var 2)) (blkOk_by (own := [("_law_row", 4)]) (N := n__law_merged) (sc := defScope s__law_merged) (by decide +kernel)) (fun _ _ _ _ _ => pg_name (i := 4) sc__law_merged.nd rfl (Or.inl rfl)) (gc_name (by decide)) (fun _ _ _ _ _ => dts_one (dt_cmp op_notInA os_notIn (de_ix (de_var 4) de_int) (de_var 3))) (fun _ _ _ _ _ => (de_ix (de_var 4) de_int)))) (dss_cons (ds_if (dt_cmp (op_eqA hr.units) os_eq (de_var 5) (de_lst false da_nil)) (dss_one (ds_ret (de_tup (da_cons (de_var 1) (da_cons (de_var 2) da_nil))))) dss_nil) (dss_cons (ds_expr (de_bm PySem.F.plainAttrs_list PySem.F.slot_list_append PySem.F.type_list_append mt_append ms_app (de_var 1) (da_cons (de_ix (de_var 5) de_int) da_nil))) (dss_cons (ds_setLc (own := [("_law_row", 4)]) false 6 rfl sc__law_merged.nd (di_list (de_var 2)) (blkOk_by (own := [("_law_row", 4)]) (N := n__law_merged) (sc := defScope s__law_merged) (by decide +kernel)) (fun _ _ _ _ _ => pg_name (i := 4) sc__law_merged.nd rfl (Or.inl rfl)) (gc_name (by decide)) (fun _ _ _ _ _ => dts_nil) (fun _ _ _ _ _ => (de_if (dt_cmp (op_eqA hr.units) os_eq (de_ix (de_var 4) de_int) (de_ix (de_var 5) de_int)) (de_slice false (de_var 4) (do_some de_int) do_none) (de_var 4)))) (dss_one (ds_setLc (own := [("_law_row", 4)]) false 2 rfl sc__law_merged.nd (di_list (de_var 6)) (blkOk_by (own := [("_law_row", 4)]) (N := n__law_merged) (sc := defScope s__law_merged) (by decide +kernel)) (fun _ _ _ _ _ => pg_name (i := 4) sc__law_merged.nd rfl (Or.inl rfl)) (gc_name (by decide)) (fun _ _ _ _ _ => dts_one (dt_cmp (op_neA hr.units) os_ne (de_var 4) (de_lst false da_nil))) (fun _ _ _ _ _ => (de_var 4))))))))))) (dss_one (ds_ret (de_tup (da_cons (de_var 1) (da_cons (de_lst false da_nil) da_nil))))))))
abbrev s__law_asked : Stmt := topS 13
abbrev n__law_asked : List Str := ["_law_rows_here", "e"]
theorem sc__law_asked : FnScope n__law_asked ["_law_rows_here"] (defScope s__law_asked) := ⟨rfl, rfl, rfl, by decide +kernel, rfl, by decide +kernel, by decide +kernel⟩
noncomputable def b__law_asked : IS := (iTryAs [("NoOrder", true)] 1 (iRet (iTup (iCons (iC (.str "list")) (iCons (iCall 1 m_merge (iCons (iVar 0) iNil)) iNil)))) (fun C m => (iRet (iTup (iCons (iC (.str "left")) (iCons (iXf 1 m "rows") iNil))))))
noncomputable def m__law_asked : List IV → Sto → Out IV := mDef 2 b__law_asked
theorem ok__law_asked  (L : Loc K mg "_law_asked" s__law_asked ["_law_rows_here"]) (tt__law_asked_0_NoOrder : TryT K mg "NoOrder" [("NoOrder", true)]) (xf__law_asked_0_rows : XfT K mg [("NoOrder", true)] "rows") (c_merge : Cal P w K mg base "merge" 3 ["rows"] m_merge) : Cal P w K mg base "_law_asked" 4 ["_law_rows_here"] m__law_asked :=
  cal_def (N := n__law_asked) L sc__law_asked fun f cdv A outer s H E hr tk po => (dss_one (ds_tryN rfl rfl sc__law_asked.nd 1 tt__law_asked_0_NoOrder tk (fun W' pn xe tk' po' => (dss_one (ds_ret (de_tup (da_cons de_str (da_cons (de_callC c_merge tk' (hr.mono (by decide)) (da_cons (de_var 0) da_nil)) da_nil)))))) (fun C m a d oe pn hC hz hf => (dss_one (ds_ret (de_tup (da_cons de_str (da_cons (de_xfT xf__law_asked_0_rows hC hz hf) da_nil))))))))
abbrev s__law_right : Stmt := topS 14
abbrev n__law_right : List Str := ["_law_s", "_law_rows_here", "_law_kept", "_law_taken", "_law_left", "_law_due", "_law_found", "e", "_law_row"]
theorem sc__law_right : FnScope n__law_right ["_law_s"] (defScope s__law_right) := ⟨rfl, rfl, rfl, by decide +kernel, rfl, by decide +kernel, by decide +kernel⟩
noncomputable def b__law_right : IS := (iSeq (iSet 1 (iCall 1 m__law_rows (iCons (iVar 0) iNil))) (iSeq (iSet 2 (iLc false (iSrcL (iVar 1)) (giN 8) iYes (iCa (fList false) (iCons (iVar 8) iNil)) [8])) (iSeq (iAsg (iCall 1 m__law_merged (iCons (iVar 2) iNil)) (iGTup 2 (iGCons (iName 3) (iGCons (iName 4) iGNil)))) (iSeq (iSet 5 (iIf (iTest (iBin fEq (iVar 4) (iLst false iNil))) (iTup (iCons (iC (.str "list")) (iCons (iVar 3) iNil))) (iTup (iCons (iC (.str "left")) (iCons (iVar 4) iNil))))) (iSeq (iSet 6 (iCall 1 m__law_asked (iCons (iVar 1) iNil))) (iSeq (iIf (iOr (iTest (iBin fNe (iVar 6) (iVar 5))) (iOr (iTest (iBin fNe (iCa fRepr (iCons (iVar 6) iNil)) (iCa fRepr (iCons (iVar 5) iNil)))) (iTest (iBin fNe (iVar 1) (iVar 2))))) (iRet (iC (.bl false))) iNext) (iSeq (iDrop (iBM "list" fApp (iBin fIx (iVar 6) (iC (.int 1))) (iCons (iC (.str "again")) iNil))) (iSeq (iIf (iOr (iTest (iBin fNe (iCall 1 m__law_asked (iCons (iVar 1) iNil)) (iVar 5))) (iTest (iBin fNe (iVar 1) (iVar 2)))) (iRet (iC (.bl false))) iNext) (iSeq (iTryAs [("NoOrder", true)] 7 (iDrop (iCall 1 m_merge (iCons (iBin fAdd (iLc false (iSrcL (iVar 1)) (giN 8) iYes (iCa (fList false) (iCons (iVar 8) iNil)) [8]) (iLst false (iCons (iLst false (iCons (iC (.str "x")) (iCons (iC (.str "y")) iNil))) (iCons (iLst false (iCons (iC (.str "y")) (iCons (iC (.str "x")) iNil))) iNil)))) iNil))) (fun C m => (iRet (iAndV (iXIsT 7 m [("NoOrder", true)] C) (iAndV (iXIsT 7 m [("NoOrder", true)] C) (iBin fGt (iCa fLen (iCons (iXf 7 m "rows") iNil)) (iC (.int 0)))))))) (iRet (iC (.bl false))))))))))))
noncomputable def m__law_right : List IV → Sto → Out IV := mDef 9 b__law_right
theorem ok__law_right  (L : Loc K mg "_law_right" s__law_right ["_law_s"]) (tt__law_right_0_PatchedError : TryT K mg "PatchedError" [("NoOrder", true)]) (z_list : mg "list" = none) (z_isinstance : mg "isinstance" = none) (xi__law_right_0_ValueError : XiT K mg [("NoOrder", true)] "ValueError" [("NoOrder", true)]) (xi__law_right_0_NoOrder : XiT K mg [("NoOrder", true)] "NoOrder" [("NoOrder", true)]) (xf__law_right_0_rows : XfT K mg [("NoOrder", true)] "rows") (z_len : mg "len" = none) (z_repr : mg "repr" = none) (c_merge : Cal P w K mg base "merge" 3 ["rows"] m_merge) (c__law_asked : Cal P w K mg base "_law_asked" 4 ["_law_rows_here"] m__law_asked) (c__law_merged : Cal P w K mg base "_law_merged" 1 ["_law_rows_here"] m__law_merged) (c__law_rows : Cal P w K mg base "_law_rows" 4 ["_law_s"] m__law_rows) : Cal P w K mg base "_law_right" 5 ["_law_s"] m__law_right :=
  cal_def (N := n__law_right) L sc__law_right fun f cdv A outer s H E hr tk po => (dss_cons (ds_set 1 sc__law_right.nd (de_callC c__law_rows tk (hr.mono (by decide)) (da_cons (de_var 0) da_nil))) (dss_cons (ds_setLc (own := [("_law_row", 8)]) false 2 rfl sc__law_right.nd (di_list (de_var 1)) (blkOk_by (own := [("_law_row", 8)]) (N := n__law_right) (sc := defScope s__law_right) (by decide +kernel)) (fun _ _ _ _ _ => pg_name (i := 8) sc__law_right.nd rfl (Or.inl rfl)) (gc_name (by decide)) (fun _ _ _ _ _ => dts_nil) (fun _ _ _ _ _ => (de_ct call_list_of (cs_list false) z_list (by decide +kernel) (da_cons (de_var 8) da_nil)))) (dss_cons (ds_asg (de_callC c__law_merged tk (hr.mono (by decide)) (da_cons (de_var 2) da_nil)) (dg_tup (n := 2) rfl (dgs_cons (dg_name 3 sc__law_right.nd) (dgs_cons (dg_name 4 sc__law_right.nd) dgs_nil)))) (dss_cons (ds_set 5 sc__law_right.nd (de_if (dt_cmp (op_eqA hr.units) os_eq (de_var 4) (de_lst false da_nil)) (de_tup (da_cons de_str (da_cons (de_var 3) da_nil))) (de_tup (da_cons de_str (da_cons (de_var 4) da_nil))))) (dss_cons (ds_set 6 sc__law_right.nd (de_callC c__law_asked tk (hr.mono (by decide)) (da_cons (de_var 1) da_nil))) (dss_cons (ds_if (dt_w (dw_or (dt_cmp (op_neA hr.units) os_ne (de_var 6) (de_var 5)) (dw_or (dt_cmp (op_neA hr.units) os_ne (de_cb (call_reprD hr) cs_repr z_repr (by decide +kernel) (da_cons (de_var 6) da_nil)) (de_cb (call_reprD hr) cs_repr z_repr (by decide +kernel) (da_cons (de_var 5) da_nil))) (dw_or1 (dt_cmp (op_neA hr.units) os_ne (de_var 1) (de_var 2)))))) (dss_one (ds_ret de_bl)) dss_nil) (dss_cons (ds_expr (de_bm PySem.F.plainAttrs_list PySem.F.slot_list_append PySem.F.type_list_append mt_append ms_app (de_ix (de_var 6) de_int) (da_cons de_str da_nil))) (dss_cons (ds_if (dt_w (dw_or (dt_cmp (op_neA hr.units) os_ne (de_callC c__law_asked tk (hr.mono (by decide)) (da_cons (de_var 1) da_nil)) (de_var 5)) (dw_or1 (dt_cmp (op_neA hr.units) os_ne (de_var 1) (de_var 2))))) (dss_one (ds_ret de_bl)) dss_nil) (dss_cons (ds_tryN rfl rfl sc__law_right.nd 7 tt__law_right_0_PatchedError tk (fun W' pn xe tk' po' => (dss_one (ds_expr (de_callC c_merge tk' (hr.mono (by decide)) (da_cons (de_bin op_addA os_add (de_lc (own := [("_law_row", 8)]) false rfl sc__law_right.nd (di_list (de_var 1)) (blkOk_by (own := [("_law_row", 8)]) (N := n__law_right) (sc := defScope s__law_right) (by decide +kernel)) (fun _ _ _ _ _ => pg_name (i := 8) sc__law_right.nd rfl (Or.inl rfl)) (gc_name (by decide)) (fun _ _ _ _ _ => dts_nil) (fun _ _ _ _ _ => (de_ct call_list_of (cs_list false) z_list (by decide +kernel) (da_cons (de_var 8) da_nil)))) (de_lst false (da_cons (de_lst false (da_cons de_str (da_cons de_str da_nil))) (da_cons (de_lst false (da_cons de_str (da_cons de_str da_nil))) da_nil)))) da_nil))))) (fun C m a d oe pn hC hz hf => (dss_one (ds_ret (de_and (de_isXT xi__law_right_0_ValueError hC hz hf z_isinstance) (de_and (de_isXT xi__law_right_0_NoOrder hC hz hf z_isinstance) (de_one (de_cmp op_gt os_B (de_cb call_len cs_len z_len (by decide +kernel) (da_cons (de_xfT xf__law_right_0_rows hC hz hf) da_nil)) de_int)))))))) (dss_one (ds_ret de_bl)))))))))))
abbrev s_law : Stmt := topS 15
abbrev n_law : List Str := ["_law_script", "_law_place", "_law_s", "_law_turn"]
theorem sc_law : FnScope n_law ["_law_script"] (defScope s_law) := ⟨rfl, rfl, rfl, by decide +kernel, rfl, by decide +kernel, by decide +kernel⟩
noncomputable def b_law : IS := (iSeq (iFor (iSrcR1 (iCa fMax2 (iCons (iC (.int 1)) (iCons (iCa fMin2 (iCons (iC (.int 8)) (iCons (iCa fLen (iCons (iVar 0) iNil)) iNil))) iNil)))) (iName 1) (iSeq (iSet 2 (iCall 2 m__law_source (iCons (iVar 0) (iCons (iVar 1) iNil)))) (iFor (iSrcR1 (iC (.int 3))) (iName 3) (iIf (iNot (iTru (iCall 1 m__law_right (iCons (iVar 2) iNil)))) (iRet (iC (.bl false))) iNext)))) (iRet (iC (.bl true))))
noncomputable def m_law : List IV → Sto → Out IV := mDef 4 b_law
theorem ok_law  {f : Addr} {fd : FuncData} (F : Fun K "law" "law" s_law f fd) (z_range : mg "range" = none) (z_len : mg "len" = none) (z_min : mg "min" = none) (z_max : mg "max" = none) (c__law_right : Cal P w K mg base "_law_right" 5 ["_law_s"] m__law_right) (c__law_source : Cal P w K mg base "_law_source" 1 ["_law_script", "_law_at"] m__law_source) : FnG P w K mg base (L2.CX P w) 6 f fd ["_law_script"] (spM K mg 1 m_law) :=
  ok_def (N := n_law) F sc_law fun cdv A outer s H E hr tk po => (dss_cons (ds_for po rfl (di_range1 z_range (da_cons (de_cb (call_max2 rfl) cs_max2 z_max (by decide +kernel) (da_cons de_int (da_cons (de_cb (call_min2 rfl) cs_min2 z_min (by decide +kernel) (da_cons de_int (da_cons (de_cb call_len cs_len z_len (by decide +kernel) (da_cons (de_var 0) da_nil)) da_nil))) da_nil))) da_nil)) (dg_name 1 sc_law.nd) (dss_cons (ds_set 2 sc_law.nd (de_callC c__law_source tk (hr.mono (by decide)) (da_cons (de_var 0) (da_cons (de_var 1) da_nil)))) (dss_one (ds_for po rfl (di_range1 z_range (da_cons de_int da_nil)) (dg_name 3 sc_law.nd) (dss_one (ds_if (dt_not (dt_tru (de_callC c__law_right tk (hr.mono (by decide)) (da_cons (de_var 2) da_nil)))) (dss_one (ds_ret de_bl)) dss_nil)))))) (dss_one (ds_ret de_bl)))
end
end K17

set_option maxHeartbeats 2000000
namespace K17
open PySem PySem.Spec PyProof.Rows L2 Sm Lw
theorem dc : DrC 41077 28001 2147483549 256 2147399873 := ⟨by decide, by decide, by decide, by decide, by decide, by decide⟩
theorem draw_ok {S : Sto} {n K : Nat} {m : Int} (h : Dr S n K) (hK : K ≤ 1000000) (h0 : 0 < m) (h1 : m < 1073741824) :
    ∃ r S', m__law_draw [.adr n, .int m] S = .ok (.int r) S' ∧ 0 ≤ r ∧ r < m ∧ Dr S' n (K + 1) ∧ Ext [n] S S' := Lw.draw_ok (C := 1709) dc h hK h0 h1
theorem draw_e {S : Sto} {n K : Nat} {m : Int} {Λ : Slots} (h : Dr S n K) (hK : K ≤ 1000000) (h0 : 0 < m) (h1 : m < 1073741824) (hn : Λ[0]? = some (some (.adr n))) :
    ∃ r S', iCall 2 m__law_draw (iCons (iVar 0) (iCons (iC (.int m)) iNil)) Λ S = .ok (.int r) S' ∧ 0 ≤ r ∧ r < m ∧ Dr S' n (K + 1) ∧ Ext [n] S S' := by
  obtain ⟨r, S', e, a, b, c, d⟩ := draw_ok h hK h0 h1
  refine ⟨r, S', ?_, a, b, c, d⟩
  rw [iCall_e, iCons_e, iVar_s hn]
  simp only [Out.bind_ok, iCons_e, iC_e, iNil_e]
  rw [chk_pos (by rfl), e]
  rfl
/-- one of a list -/
theorem of_lst {S : Sto} {n K : Nat} {xs : List IV} (h : Dr S n K) (hK : K ≤ 1000000) (h0 : xs ≠ []) (h1 : xs.length < 1000000) : ∃ v S', m__law_of [.adr n, .lst xs] S = .ok v S' ∧ v ∈ xs ∧ Dr S' n (K + 1) ∧ Ext [n] S S' := by
  have hp : 0 < xs.length := List.length_pos_iff.mpr h0
  obtain ⟨r, S', e, a, b, c, d⟩ := draw_ok (m := xs.length) h hK (by omega) (by omega)
  obtain ⟨v, hv, hm⟩ := atI_lt a b
  refine ⟨v, S', mDef_rt ?_, hm, c, d⟩
  show b__law_of [some (.adr n), some (.lst xs)] S = _
  unfold b__law_of
  simp [iVar_s, chk_pos, e, hv]
theorem of_str {S : Sto} {n K : Nat} (h : Dr S n K) (hK : K ≤ 1000000) : ∃ c S', m__law_of [.adr n, .str alpha] S = .ok (.str ⟨#[c]⟩) S' ∧ c ∈ sg alpha ∧ Dr S' n (K + 1) ∧ Ext [n] S S' := by
  obtain ⟨r, S', e, a, b, c, d⟩ := draw_ok (m := 26) h hK (by omega) (by omega)
  obtain ⟨v, hv, hm⟩ := atI_sg (z := alpha) a (by rw [alpha_len]; exact b)
  have z : (26 : Nat) ≤ sizeLine := by rw [szL]; decide
  refine ⟨v, S', mDef_rt ?_, hm, c, d⟩
  show b__law_of [some (.adr n), some (.str alpha)] S = _
  unfold b__law_of
  simp [iVar_s, chk_pos, z, alpha_len, e, hv]
theorem pool_ok {S : Sto} {n K : Nat} (h : Dr S n K) (hK : K ≤ 800000) :
    ∃ ps S', m__law_pool [.adr n] S = .ok (.adr S.length) S' ∧ S'[S.length]? = some (.lst (ps.map IV.str)) ∧ ps.length = 12 ∧ Pool ps keptL ∧ Dr S' n (K + 72) ∧ Ext [n] S S' :=
  Lw.pool_ok (n := n) (draw := iCall 2 m__law_draw (iCons (iVar 0) (iCons (iC (.int 5)) iNil))) (elt := iCall 2 m__law_of (iCons (iVar 0) (iCons (iVar 2) iNil)))
    (fun Λ S K h0 hd hk => draw_e hd hk (by decide) (by decide) h0)
    (fun Λ S K h0 h2 hd hk => by
      obtain ⟨c, S', e, a, b, x⟩ := of_str hd hk
      refine ⟨c, S', ?_, a, b, x⟩
      rw [iCall_e, iCons_e, iVar_s h0]
      simp only [Out.bind_ok, iCons_e, iNil_e]
      rw [iVar_s h2]
      simp only [Out.bind_ok]
      rw [chk_pos (by rfl), e]
      rfl) h hK
/-- what the rows keep to -/
structure RowG (qs : List Str) (r : List Str) : Prop where
  n : r.length ≤ 12
  m : ∀ s ∈ r, s ∈ qs
theorem take6 {S : Sto} {a : Nat} {ps : List Str} (h : S[a]? = some (.lst (ps.map IV.str))) (hl : ps.length = 12) : fSl false (.adr a) none (some 6) S = .ok (.lst ((ps.take 6).map IV.str)) S := by
  unfold fSl
  have e : lstOf S (.adr a) = some (ps.map IV.str) := by unfold lstOf; simp only [h]
  show orBad (lstOf S (.adr a)) _ = _
  rw [e, orBad_some, mkL_f]
  have : cutI (ps.map IV.str) none (some 6) = (ps.take 6).map IV.str := by
    unfold cutI
    rw [List.length_map, hl]
    show ((ps.map IV.str).drop 0).take (6 - 0) = _
    rw [List.drop_zero, List.map_take]
  rw [this, chk_pos (by rw [List.length_map, List.length_take, szL]; omega)]
/-- the slots of _law_rows -/
def rL (n p : Nat) (qs : List Str) (st : Int) (a b : Option IV) : Slots := [some (.adr n), some (.lst (qs.map IV.str)), some (.int st), some (.adr p), a, b, none, none]
noncomputable def rB : IS := (iSeq (iSet 5 (iLc false (iSrcR1 (iCall 2 m__law_draw (iCons (iVar 0) (iCons (iC (.int 8)) iNil)))) (giN 6) iYes (iCall 2 m__law_of (iCons (iVar 0) (iCons (iVar 1) iNil))) [6])) (iSeq (iIf (iTest (iBin fGt (iVar 2) (iC (.int 0)))) (iSet 5 (iLc false (iSrcL (iVar 1)) (giN 7) (iTest (iBin fIn (iVar 7) (iVar 5))) (iVar 7) [7])) iNext)
      (iSeq (iIf (iAnd (iTest (iBin fEq (iVar 2) (iC (.int 2)))) (iTest (iBin fEq (iCall 2 m__law_draw (iCons (iVar 0) (iCons (iC (.int 3)) iNil))) (iC (.int 0))))) (iSet 5 (iUn fRev (iVar 5))) iNext) (iDrop (iBM "list" fApp (iVar 3) (iCons (iVar 5) iNil))))))
theorem strs_of {qs : List Str} : ∀ {ys : List IV}, (∀ v ∈ ys, v ∈ qs.map IV.str) → ∃ r : List Str, ys = r.map IV.str ∧ ∀ s ∈ r, s ∈ qs
  | [], _ => ⟨[], rfl, fun _ z => by cases z⟩
  | v :: ys, h => by
    obtain ⟨r, rfl, h2⟩ := strs_of fun w hw => h w (List.mem_cons_of_mem _ hw)
    obtain ⟨s, hs, rfl⟩ := List.mem_map.mp (h v List.mem_cons_self)
    exact ⟨s :: r, rfl, fun w hw => (List.mem_cons.mp hw).elim (fun e => e ▸ hs) (h2 w)⟩
section
variable {n p : Nat} {qs : List Str} {st : Int} {S : Sto} {K : Nat}
theorem row_draw (ql : qs.length = 6) (a b : Option IV) (h : Dr S n K) (hK : K ≤ 900000) : ∃ (r : List Str) (S' : Sto), iLc false (iSrcR1 (iCall 2 m__law_draw (iCons (iVar 0) (iCons (iC (.int 8)) iNil)))) (giN 6) iYes (iCall 2 m__law_of (iCons (iVar 0) (iCons (iVar 1) iNil))) [6] (rL n p qs st a b) S = .ok (enR r) S' ∧ RowG qs r ∧ Dr S' n (K + 10) ∧ Ext [n] S S' := by
  obtain ⟨u, S5, e5, u0, u1, d5, x5⟩ := draw_e (m := 8) (Λ := rL n p qs st a b) h (by omega) (by decide) (by decide) rfl
  have step : ∀ (j : Nat) (S' : Sto) (c : Nat), (List.range u.toNat)[j]? = some c → Dr S' n (K + 1 + j) ∧ Ext [n] S5 S' → ∃ L v S'', giN 6 (IV.int c) (wipeI (rL n p qs st a b) [6]) = some L ∧ iCall 2 m__law_of (iCons (iVar 0) (iCons (iVar 1) iNil)) L S' = .ok v S'' ∧ v ∈ qs.map IV.str ∧ Dr S'' n (K + 1 + (j + 1)) ∧ Ext [n] S5 S'' := by
    intro j S' c hc ⟨dj, xj⟩
    have hj : j < 8 := by have := lt_some hc; rw [List.length_range] at this; omega
    obtain ⟨v, S'', o1, o2, o3, o4⟩ := of_lst (xs := qs.map IV.str) dj (by omega) (by intro z; have := congrArg List.length z; rw [List.length_map, ql] at this; cases this) (by rw [List.length_map, ql]; decide)
    refine ⟨_, v, S'', rfl, ?_, o2, o3, xj.trans o4⟩
    rw [iCall_e, iCons_e, iVar_s (x := .adr n) rfl]
    simp only [Out.bind_ok, iCons_e, iNil_e]
    rw [iVar_s (x := .lst (qs.map IV.str)) rfl]
    simp only [Out.bind_ok]
    rw [chk_pos (by rfl), o1]
    rfl
  obtain ⟨ys, S6, e6, y1, y2, y3⟩ := lc_inv (cell := false) (vs := [6]) (Λ := rL n p qs st a b) (S := S) (List.range u.toNat) (fun i : Nat => IV.int i) (fun j S' => Dr S' n (K + 1 + j) ∧ Ext [n] S5 S') (fun v => v ∈ qs.map IV.str) (src_range e5 u0 (by omega)) ⟨d5, .refl⟩ step (by rw [List.length_range, szL]; omega)
  obtain ⟨r, rfl, hr⟩ := strs_of y2
  rw [List.length_map, List.length_range] at y1
  rw [List.length_range] at y3
  rw [mkL_f, chk_pos (by rw [List.length_map, szL]; omega)] at e6
  exact ⟨r, S6, e6, ⟨by omega, hr⟩, y3.1.up (by omega), x5.trans y3.2⟩
theorem row_order (ql : qs.length = 6) (a : Option IV) {r : List Str} (R : RowG qs r) : ∃ r2, RowG qs r2 ∧ (iIf (iTest (iBin fGt (iVar 2) (iC (.int 0)))) (iSet 5 (iLc false (iSrcL (iVar 1)) (giN 7) (iTest (iBin fIn (iVar 7) (iVar 5))) (iVar 7) [7])) iNext : IS) (rL n p qs st a (some (enR r))) S = .ok (.nx (rL n p qs st a (some (enR r2)))) S := by
  have tt : iTest (iBin fGt (iVar 2) (iC (.int 0))) (rL n p qs st a (some (enR r))) S = .ok (decide (0 < st)) S := by
    rw [iTest_e, iBin_e, iVar_s (x := .int st) rfl]
    rfl
  by_cases h0 : 0 < st
  · rw [decide_eq_true h0] at tt
    have hl := List.length_filter_le (fun s => decide (s ∈ r)) qs
    have e : iLc false (iSrcL (iVar 1)) (giN 7) (iTest (iBin fIn (iVar 7) (iVar 5))) (iVar 7) [7] (rL n p qs st a (some (enR r))) S = .ok (enR (qs.filter fun s => decide (s ∈ r))) S := by
      rw [lc_map qs IV.str (fun s => decide (s ∈ r)) IV.str (k := none) (S1 := S) (by rw [iSrcL_e, iVar_s (x := .lst (qs.map IV.str)) rfl]; rfl) trivial (fun s hs => ⟨_, rfl, by
        rw [iTest_e, iBin_e, iVar_s (x := .str s) rfl, Out.bind_ok, iVar_s (x := .lst (r.map IV.str)) rfl, Out.bind_ok, fIn_e, inB_lst]
        rfl, fun _ => iVar_s rfl⟩) (by rw [ql, szL]; decide)]
      rw [mkL_f, chk_pos (by rw [List.length_map, szL]; omega)]
      rfl
    exact ⟨qs.filter fun s => decide (s ∈ r), ⟨by omega, fun s hs => (List.mem_filter.mp hs).1⟩, (if_tt tt).trans (st_ok e)⟩
  · rw [decide_eq_false h0] at tt
    exact ⟨r, R, (if_ff tt).trans rfl⟩
theorem row_turned (a : Option IV) {r : List Str} (R : RowG qs r) (h : Dr S n K) (hK : K ≤ 900000) : ∃ (r3 : List Str) (S7 : Sto), RowG qs r3 ∧ Dr S7 n (K + 1) ∧ Ext [n] S S7 ∧ (iIf (iAnd (iTest (iBin fEq (iVar 2) (iC (.int 2)))) (iTest (iBin fEq (iCall 2 m__law_draw (iCons (iVar 0) (iCons (iC (.int 3)) iNil))) (iC (.int 0))))) (iSet 5 (iUn fRev (iVar 5))) iNext : IS) (rL n p qs st a (some (enR r))) S = .ok (.nx (rL n p qs st a (some (enR r3)))) S7 := by
  have tt : iTest (iBin fEq (iVar 2) (iC (.int 2))) (rL n p qs st a (some (enR r))) S = .ok (decide (st = 2)) S := by
    rw [iTest_e, iBin_e, iVar_s (x := .int st) rfl]
    rfl
  by_cases h2 : st = 2
  · rw [decide_eq_true h2] at tt
    obtain ⟨v, S7, e7, v0, v1, d7, x7⟩ := draw_e (m := 3) (Λ := rL n p qs st a (some (enR r))) h (by omega) (by decide) (by decide) rfl
    have t2 : iAnd (iTest (iBin fEq (iVar 2) (iC (.int 2)))) (iTest (iBin fEq (iCall 2 m__law_draw (iCons (iVar 0) (iCons (iC (.int 3)) iNil))) (iC (.int 0)))) (rL n p qs st a (some (enR r))) S = .ok (decide (v = 0)) S7 := by
      rw [iAnd_e, tt, Out.bind_ok, if_pos rfl, iTest_e, iBin_e, e7]
      rfl
    by_cases hv : v = 0
    · rw [decide_eq_true hv] at t2
      have e : iUn fRev (iVar 5) (rL n p qs st a (some (enR r))) S7 = .ok (enR r.reverse) S7 := by
        show Out.bind (iVar 5 (rL n p qs st a (some (enR r))) S7) _ = _
        rw [iVar_s (x := enR r) rfl, Out.bind_ok]
        show orBad (some (r.map IV.str)) _ = _
        rw [orBad_some, mkF_e, chk_pos (by rw [List.length_reverse, List.length_map, szL]; have := R.n; omega), ← List.map_reverse]
        rfl
      exact ⟨r.reverse, S7, ⟨by rw [List.length_reverse]; exact R.n, fun s hs => R.m s (List.mem_reverse.mp hs)⟩, d7, x7, (if_tt t2).trans (st_ok e)⟩
    · rw [decide_eq_false hv] at t2
      exact ⟨r, S7, R, d7, x7, (if_ff t2).trans rfl⟩
  · rw [decide_eq_false h2] at tt
    have t2 : iAnd (iTest (iBin fEq (iVar 2) (iC (.int 2)))) (iTest (iBin fEq (iCall 2 m__law_draw (iCons (iVar 0) (iCons (iC (.int 3)) iNil))) (iC (.int 0)))) (rL n p qs st a (some (enR r))) S = .ok false S := by
      rw [iAnd_e, tt, Out.bind_ok, if_neg Bool.false_ne_true]
    exact ⟨r, S, R, h.up (by omega), .refl, (if_ff t2).trans rfl⟩
/-- one turn -/
theorem row_step (ql : qs.length = 6) (a b : Option IV) (h : Dr S n K) (hK : K ≤ 800000) {rows : List (List Str)} (hp : S[p]? = some (.lst (rows.map enR))) (np : p ≠ n) (hr : rows.length < 1000) :
    ∃ (r : List Str) (S' : Sto) (c : Option IV), rB (rL n p qs st a b) S = .ok (.nx (rL n p qs st a c)) S' ∧ RowG qs r ∧ S'[p]? = some (.lst ((rows ++ [r]).map enR)) ∧ Dr S' n (K + 20) ∧ Ext [n, p] S S' := by
  obtain ⟨r1, S1, e1, R1, d1, x1⟩ := row_draw (p := p) (st := st) ql a b h (by omega)
  obtain ⟨r2, R2, e2⟩ := row_order (n := n) (p := p) (st := st) (S := S1) ql a R1
  obtain ⟨r3, S3, R3, d3, x3, e3⟩ := row_turned (p := p) (st := st) a R2 d1 (by omega)
  have q3 := (x1.trans x3).get hp (by simp [np])
  have t := app_e (Λ := rL n p qs st a (some (enR r3))) (S := S3) (mo := iVar 3) (mv := iVar 5) (v := enR r3) (iVar_s rfl) (iVar_s rfl) q3 q3 (by rw [List.length_map]; omega)
  refine ⟨r3, _, _, (sq_ok (st_ok e1)).trans ((sq_ok e2).trans ((sq_ok e3).trans (dr_ok t))), R3, ?_, ?_, ?_⟩
  · rw [List.map_append]; exact get_setS q3 _
  · exact (d3.up (by omega)).ext (.set (ds := [p]) (.inl (by simp))) (by simp [Ne.symm np])
  · exact ((x1.trans x3).up (fun e he => by simp_all)).trans (.set (.inl (by simp)))
end
theorem rows_loop {S S3 : Sto} {n p K : Nat} {qs : List Str} {st t : Int} (ql : qs.length = 6) (np : p ≠ n) (e3 : iCall 2 m__law_draw (iCons (iVar 0) (iCons (iC (.int 10)) iNil)) (rL n p qs st none none) S = .ok (.int t) S3) (t0 : 0 ≤ t) (t1 : t < 10) (d3 : Dr S3 n K) (hK : K ≤ 700000) (g3 : S3[p]? = some (.lst [])) :
    ∃ (a b : Option IV) (rows : List (List Str)) (S' : Sto), iFor (iSrcR1 (iCall 2 m__law_draw (iCons (iVar 0) (iCons (iC (.int 10)) iNil)))) (iName 4) rB (rL n p qs st none none) S = .ok (.nx (rL n p qs st a b)) S' ∧ S'[p]? = some (.lst (rows.map enR)) ∧ rows.length ≤ 10 ∧ (∀ r ∈ rows, RowG qs r) ∧ Dr S' n (K + 200) ∧ Ext [n, p] S3 S' := by
  have step : ∀ (i : Nat) (Λ : Slots) (S : Sto) (y : Nat), (List.range t.toNat)[i]? = some y → ((∃ a b, Λ = rL n p qs st a b) ∧ ∃ rows : List (List Str), S[p]? = some (.lst (rows.map enR)) ∧ rows.length = i ∧ (∀ r ∈ rows, RowG qs r) ∧ Dr S n (K + 20 * i) ∧ Ext [n, p] S3 S) →
      ∃ Λ1 S1 Λ2 S2, iName 4 (IV.int y) Λ S = .ok Λ1 S1 ∧ rB Λ1 S1 = .ok (.nx Λ2) S2 ∧ ((∃ a b, Λ2 = rL n p qs st a b) ∧ ∃ rows : List (List Str), S2[p]? = some (.lst (rows.map enR)) ∧ rows.length = i + 1 ∧ (∀ r ∈ rows, RowG qs r) ∧ Dr S2 n (K + 20 * (i + 1)) ∧ Ext [n, p] S3 S2) := by
    rintro i Λ S4 y hy ⟨⟨a, b, rfl⟩, rows, g4, g5, g6, d4, x4⟩
    have hi : i < 10 := by have := lt_some hy; rw [List.length_range] at this; omega
    obtain ⟨r, S5, c, e5, R5, q5, d5, x5⟩ := row_step (st := st) ql (some (.int y)) b d4 (by omega) g4 np (by omega)
    exact ⟨rL n p qs st (some (.int y)) b, S4, _, S5, rfl, e5, ⟨_, _, rfl⟩, rows ++ [r], q5, by rw [List.length_append, g5, List.length_singleton], fun u hu => (List.mem_append.mp hu).elim (g6 u) fun e => (List.mem_singleton.mp e) ▸ R5, d5.up (by omega), x4.trans x5⟩
  have h0 : (∃ a b, rL n p qs st none none = rL n p qs st a b) ∧ ∃ rows : List (List Str), S3[p]? = some (.lst (rows.map enR)) ∧ rows.length = 0 ∧ (∀ r ∈ rows, RowG qs r) ∧ Dr S3 n (K + 20 * 0) ∧ Ext [n, p] S3 S3 :=
    ⟨⟨_, _, rfl⟩, [], g3, rfl, (fun _ z => by cases z), d3, .refl⟩
  have src := src_range e3 t0 (by omega)
  obtain ⟨Λ', S', f1, ⟨a, b, rfl⟩, rows, f2, f3, f4, f5, f6⟩ := for_inv (g := iName 4) (b := rB) (List.range t.toNat) (fun i : Nat => IV.int i) (fun i Λ S' => (∃ a b, Λ = rL n p qs st a b) ∧ ∃ rows : List (List Str), S'[p]? = some (.lst (rows.map enR)) ∧ rows.length = i ∧ (∀ r ∈ rows, RowG qs r) ∧ Dr S' n (K + 20 * i) ∧ Ext [n, p] S3 S') src h0 (fun _ _ _ _ => trivial) step
  rw [List.length_range] at f3 f5
  exact ⟨a, b, rows, S', f1, f2, by omega, f4, f5.up (by omega), f6⟩
theorem rows_ok {S : Sto} {n K : Nat} (h : Dr S n K) (hK : K ≤ 600000) :
    ∃ (qs : List Str) (rows : List (List Str)) (S' : Sto) (a : Nat), m__law_rows [.adr n] S = .ok (.adr a) S' ∧ S'[a]? = some (.lst (rows.map enR)) ∧ rows.length ≤ 10 ∧ (∀ r ∈ rows, RowG qs r) ∧ (∀ q ∈ qs, okS q ∧ q.length ≤ 5) ∧ Dr S' n (K + 1000) ∧ Ext [n] S S' ∧ S.length ≤ a := by
  have hn := h.lt
  obtain ⟨ps, S1, e1, g1, l1, P, d1, x1⟩ := pool_ok h (by omega)
  obtain ⟨st, S2, e2, s0, s1, d2, x2⟩ := draw_e (m := 3) (Λ := [some (.adr n), some (.lst ((ps.take 6).map IV.str)), none, none, none, none, none, none]) d1 (by omega) (by decide) (by decide) rfl
  have ql : (ps.take 6).length = 6 := by rw [List.length_take, l1]; rfl
  have hq : ∀ q ∈ ps.take 6, okS q ∧ q.length ≤ 5 := fun q hq => by
    have := List.mem_of_mem_take hq
    exact ⟨(P.abc q this).ok, (P.len q this).2⟩
  have t6 := take6 g1 l1
  generalize ps.take 6 = qs at e2 ql hq t6
  obtain ⟨t, S3, e3, t0, t1, d3, x3⟩ := draw_e (m := 10) (Λ := rL n S2.length qs st none none) (S := S2 ++ [.lst []]) (d2.ext (.app _) (ds := [])) (by omega) (by decide) (by decide) rfl
  have n2 := d2.lt
  have np : S2.length ≠ n := by omega
  have g3 : S3[S2.length]? = some (.lst []) := x3.get (get_new _ _) (by simp [np])
  have x12 := x1.trans x2
  obtain ⟨a, b, rows, S', f1, f2, f3, f4, f5, f6⟩ := rows_loop ql np e3 t0 t1 d3 (by omega) g3
  refine ⟨qs, rows, S', S2.length, ?_, f2, f3, f4, hq, f5.up (by omega), (x12.trans ((Ext.app _).trans x3)).trans' f6 fun e he => ?_, x12.1⟩
  · refine mDef_rt ?_
    show b__law_rows [some (.adr n), none, none, none, none, none, none, none] S = _
    have q1 : iSl false (iCall 1 m__law_pool (iCons (iVar 0) iNil)) iNoPart (iPart (iC (.int 6))) [some (.adr n), none, none, none, none, none, none, none] S = .ok (.lst (qs.map IV.str)) S1 := by
      rw [iSl_e, iCall_e, iCons_e, iVar_s (x := .adr n) rfl]
      simp only [Out.bind_ok, iNil_e]
      rw [chk_pos (by rfl), e1]
      simp only [relab_ok, Out.bind_ok, iNoPart_e, iPart_e, iC_e, asI_i]
      exact t6
    have q3 : iLst true iNil [some (.adr n), some (.lst (qs.map IV.str)), some (.int st), none, none, none, none, none] S2 = .ok (.adr S2.length) (S2 ++ [.lst []]) := by
      simp only [iLst_e, iNil_e, Out.bind_ok, mkL_t]
      rw [chk_pos (by exact Nat.zero_le _)]
    unfold b__law_rows
    exact (sq_ok (st_ok q1)).trans ((sq_ok (st_ok e2)).trans ((sq_ok (st_ok q3)).trans ((sq_ok f1).trans (rt_ok (iVar_s rfl)))))
  · rcases List.mem_cons.mp he with e1 | e1
    · exact .inl (by simp [e1])
    · exact .inr (by rw [List.mem_singleton.mp e1]; exact x12.1)
end K17

set_option maxHeartbeats 2000000
namespace K17
open PySem PySem.Spec PyProof.Rows L2 Sm Lw
theorem hff (S : Sto) (l : Nat) (rs : List NR) (h : S[l]? = some (.lst (rs.map enN))) (ok : RsOk rs) : m_first_free [.adr l] S = .ok (ivO (firstP rs)) S := ff_ok h ok
theorem merge_e {S : Sto} {x : IV} {rows : List (List Str)} {k : Option Nat} (hs : fSrcL x S = .ok ⟨rows.map enR, k⟩ S) (st : Src.stay ⟨rows.map enR, k⟩ S) (ok : RowsOk rows) : MergeEnd S (mergeR rows) (m_merge [x] S) := merge_ok (ff := m_first_free) hff hs st ok
theorem asked_ok {S : Sto} {a : Nat} {rows : List (List Str)} (h : S[a]? = some (.lst (rows.map enR))) (ok : RowsOk rows) :
    ∃ (S' : Sto) (q : Nat), m__law_asked [.adr a] S = .ok (.tup [.str (outW (mergeR rows)), .adr q]) S' ∧ S'[q]? = some (.lst (outL (mergeR rows))) ∧ S.length ≤ q ∧ Ext [] S S' := by
  have src : fSrcL (.adr a) S = .ok ⟨rows.map enR, some a⟩ S := by unfold fSrcL; simp only [h]
  have e := merge_e (x := .adr a) src h ok
  generalize mergeR rows = R at e
  have c : iCall 1 m_merge (iCons (iVar 0) iNil) [some (.adr a), none] S = relab [some (.adr a), none] (m_merge [.adr a] S) := by
    rw [iCall_e, iCons_e, iVar_s (x := .adr a) rfl]
    simp only [Out.bind_ok, iNil_e]
    rw [chk_pos (by rfl)]
  rcases e with ⟨h1, S', t, e1, e2, e3, e4⟩ | ⟨h1, n, S', l, e1, e2, e3, e4, e5⟩
  · refine ⟨S', t, mDef_rt ?_, by unfold outL; rw [if_pos h1]; exact e2, e3, e4⟩
    show b__law_asked [some (.adr a), none] S = _
    unfold b__law_asked iTryAs
    have : iRet (iTup (iCons (iC (.str "list")) (iCons (iCall 1 m_merge (iCons (iVar 0) iNil)) iNil))) [some (.adr a), none] S = .ok (.rt (.tup [.str "list", .adr t])) S' := by
      refine rt_ok ?_
      rw [iTup_e, iCons_e, iC_e, Out.bind_ok, iCons_e, c, e1]
      simp only [relab_ok, Out.bind_ok, iNil_e]
      exact tup2 _ _
    rw [this]
    unfold outW
    rw [if_pos h1]
  · refine ⟨S', l, mDef_rt ?_, by unfold outL; rw [if_neg h1]; exact e3, e4, e5⟩
    show b__law_asked [some (.adr a), none] S = _
    unfold b__law_asked iTryAs
    have : iRet (iTup (iCons (iC (.str "list")) (iCons (iCall 1 m_merge (iCons (iVar 0) iNil)) iNil))) [some (.adr a), none] S = .exc "NoOrder" n [some (.adr a), none] S' := by
      rw [iRet_e, iTup_e, iCons_e, iC_e, Out.bind_ok, iCons_e, c, e1]
      rfl
    rw [this]
    have x : iXf 1 n "rows" [some (.adr a), none] S' = .ok (.adr l) S' := by
      unfold iXf
      simp only [e2]
      rfl
    have r : iRet (iTup (iCons (iC (.str "left")) (iCons (iXf 1 n "rows") iNil))) [some (.adr a), none] S' = .ok (.rt (.tup [.str "left", .adr l])) S' := by
      refine rt_ok ?_
      rw [iTup_e, iCons_e, iC_e, Out.bind_ok, iCons_e, x]
      simp only [Out.bind_ok, iNil_e]
      exact tup2 _ _
    show Out.bind (noX (iRet (iTup (iCons (iC (.str "left")) (iCons (iXf 1 n "rows") iNil))) [some (.adr a), none] S')) _ = _
    rw [r]
    unfold outW
    rw [if_neg h1]
    rfl
theorem merged_e {S : Sto} {rows : List (List Str)} (ok : RowsOk rows) : ∃ (S' : Sto) (t : Nat), m__law_merged [.lst (rows.map enR)] S = .ok (.tup [.adr t, .lst ((mergeR rows).2.map enN)]) S' ∧ S'[t]? = some (.lst ((mergeR rows).1.map IV.str)) ∧ S.length ≤ t ∧ Ext [] S S' := merged_ok ok
/-! ### two rows that cannot be merged -/
theorem toN_app : ∀ a b : List (List Str), toN (a ++ b) = toN a ++ toN b
  | [], b => rfl
  | [] :: a, b => toN_app a b
  | (h :: t) :: a, b => by
    show (h, t) :: toN (a ++ b) = _
    rw [toN_app a b]
    rfl
theorem cyc (x y : Str) : ∀ (n : Nat) (init : List NR) (acc : List Str), (mergeP n (init ++ [(x, [y]), (y, [x])]) acc).2 ≠ []
  | 0, init, acc => by unfold mergeP; simp
  | n + 1, init, acc => by
    unfold mergeP
    rw [if_neg (by simp)]
    cases hf : firstP (init ++ [(x, [y]), (y, [x])]) with
    | none => simp
    | some f =>
      obtain ⟨t, _, h2⟩ := firstP_mem hf
      have hx : ¬ x = f := fun e => by
        have : tailsIn (init ++ [(x, [y]), (y, [x])]) x = true := by unfold tailsIn; simp
        rw [← e, this] at h2
        cases h2
      have hy : ¬ y = f := fun e => by
        have : tailsIn (init ++ [(x, [y]), (y, [x])]) y = true := by unfold tailsIn; simp
        rw [← e, this] at h2
        cases h2
      have e : stepR f (init ++ [(x, [y]), (y, [x])]) = toN (init.map (cutP f)) ++ [(x, [y]), (y, [x])] := by
        unfold stepR
        rw [List.map_append, toN_app]
        congr 1
        show toN [cutP f (x, [y]), cutP f (y, [x])] = _
        unfold cutP
        rw [if_neg hx, if_neg hy]
        rfl
      show (mergeP n (stepR f _) _).2 ≠ []
      rw [e]
      exact cyc x y n _ _
theorem size_toN : ∀ (rows : List (List Str)) (k : Nat), (∀ r ∈ rows, r.length ≤ k) → sizeP (toN rows) ≤ k * rows.length
  | [], k, _ => Nat.zero_le _
  | [] :: rows, k, h => by
    have := size_toN rows k fun r hr => h r (List.mem_cons_of_mem _ hr)
    show sizeP (toN rows) ≤ _
    rw [List.length_cons, Nat.mul_succ]
    omega
  | (a :: t) :: rows, k, h => by
    have := size_toN rows k fun r hr => h r (List.mem_cons_of_mem _ hr)
    have h2 := h (a :: t) List.mem_cons_self
    show t.length + 1 + sizeP (toN rows) ≤ _
    rw [List.length_cons] at h2
    rw [List.length_cons, Nat.mul_succ]
    omega
def xy : List (List Str) := [["x", "y"], ["y", "x"]]
theorem xy_ok : ∀ r ∈ xy, r.length ≤ 12 ∧ ∀ s ∈ r, okS s ∧ s.length ≤ 5 := by
  have : xy.all (fun r => decide (r.length ≤ 12) && r.all fun s => (sg s).all (fun c => decide (c < 1114112)) && decide (s.length ≤ 5)) = true := by decide +kernel
  intro r hr
  have := List.all_eq_true.mp this r hr
  simp only [Bool.and_eq_true, decide_eq_true_eq, List.all_eq_true] at this
  exact ⟨this.1, fun s hs => ⟨(this.2 s hs).1, (this.2 s hs).2⟩⟩
/-- what is drawn -/
structure Good (rows : List (List Str)) : Prop where
  n : rows.length ≤ 12
  r : ∀ r ∈ rows, r.length ≤ 12 ∧ ∀ s ∈ r, okS s ∧ s.length ≤ 5
theorem Good.rows {rows : List (List Str)} (h : Good rows) : RowsOk rows := ⟨by have := h.n; omega, fun r hr => ⟨by have := (h.r r hr).1; omega, fun s hs => ((h.r r hr).2 s hs).1⟩, by
  have := size_toN rows 12 fun r hr => (h.r r hr).1
  have := h.n
  omega⟩
theorem Good.R {rows : List (List Str)} (h : Good rows) : ROk (mergeR rows) := mergeR_ok (fun r hr s hs => ⟨((h.r r hr).2 s hs).1, by have := ((h.r r hr).2 s hs).2; omega⟩) (by
  have := size_toN rows 12 fun r hr => (h.r r hr).1
  have := h.n
  omega)
theorem kept_ok {S : Sto} {a : Nat} {rows : List (List Str)} {Λ : Slots} (h1 : Λ[1]? = some (some (.adr a))) (hΛ : 8 < Λ.length) (h : S[a]? = some (.lst (rows.map enR))) (g : Good rows) : iLc false (iSrcL (iVar 1)) (giN 8) iYes (iCa (fList false) (iCons (iVar 8) iNil)) [8] Λ S = .ok (.lst (rows.map enR)) S := by
  have hn := g.n
  rw [lc_map rows enR (fun _ => true) enR (src_cell h1 h) h (fun r hr => ⟨_, rfl, rfl, fun _ => list_row (by
    show ((Λ.set 8 none).set 8 _)[8]? = _
    rw [List.getElem?_set_self (by rw [List.length_set]; exact hΛ)]) (by have := (g.r r hr).1; omega)⟩) (by rw [szL]; omega)]
  have := List.length_filter_le (fun _ : List Str => true) rows
  rw [mkL_f, chk_pos (by rw [List.length_map, szL]; omega), List.filter_eq_self.mpr fun _ _ => rfl]
end K17

set_option maxHeartbeats 2000000
namespace K17
open PySem PySem.Spec PyProof.Rows L2 Sm Lw
section
variable {S : Sto} {rows : List (List Str)}
/-- the slots of _law_right -/
def wL (n a t : Nat) (rows : List (List Str)) (left due found : Option IV) : Slots := [some (.adr n), some (.adr a), some (.lst (rows.map enR)), some (.adr t), left, due, found, none, none]
theorem due_ok {n a t : Nat} {R : List Str × List NR} (h : ROk R) (ht : S[t]? = some (.lst (R.1.map IV.str))) : ∃ d, (iIf (iTest (iBin fEq (iVar 4) (iLst false iNil))) (iTup (iCons (iC (.str "list")) (iCons (iVar 3) iNil))) (iTup (iCons (iC (.str "left")) (iCons (iVar 4) iNil))) : IE) (wL n a t rows (some (.lst (R.2.map enN))) none none) S = .ok d S ∧ isRf d = true ∧
    ∀ S' : Sto, S'[t]? = some (.lst (R.1.map IV.str)) → view 8 S' d = some (toldD R) := by
  have tt : iTest (iBin fEq (iVar 4) (iLst false iNil)) (wL n a t rows (some (.lst (R.2.map enN))) none none) S = .ok (decide (R.2 = [])) S := by
    rw [iTest_e, iBin_e, iVar_s (x := .lst (R.2.map enN)) rfl, Out.bind_ok, empty_l, Out.bind_ok, fEq_e]
    have e : eqB S (.lst (R.2.map enN)) (.lst []) = some (decide (R.2 = [])) := by
      rw [rs_rows]
      have := eqB_rows (S := S) (a := R.2.map fun p => p.1 :: p.2) (b := []) (fun r hr s hs => by
        obtain ⟨p, hp, rfl⟩ := List.mem_map.mp hr
        exact (List.mem_cons.mp hs).elim (fun e => e ▸ (h.b p hp).1.1) fun z => ((h.b p hp).2 s z).1) fun _ z => by cases z
      rw [List.map_nil] at this
      rw [this]
      cases R.2 <;> simp
    rw [e, orBad_some, Out.bind_ok, asB_b]
  by_cases hR : R.2 = []
  · rw [decide_eq_true hR] at tt
    refine ⟨.tup [.str "list", .adr t], (if_tt tt).trans ?_, rfl, fun S' h' => ?_⟩
    · rw [iTup_e, iCons_e, iC_e, Out.bind_ok, iCons_e, iVar_s (x := .adr t) rfl]
      simp only [Out.bind_ok, iNil_e]
      exact tup2 _ _
    · have : outL R = R.1.map IV.str := by unfold outL; rw [if_pos hR]
      have v := view_found (S := S') (R := R) (q := t) (by rw [this]; exact h')
      unfold outW at v
      rw [if_pos hR] at v
      exact v
  · rw [decide_eq_false hR] at tt
    refine ⟨.tup [.str "left", .lst (R.2.map enN)], (if_ff tt).trans ?_, rfl, fun S' _ => ?_⟩
    · rw [iTup_e, iCons_e, iC_e, Out.bind_ok, iCons_e, iVar_s (x := .lst (R.2.map enN)) rfl]
      simp only [Out.bind_ok, iNil_e]
      exact tup2 _ _
    · have v := view_lst (S := S') (R := R)
      unfold outW outL at v
      rw [if_neg hR, if_neg hR] at v
      exact v
/-- found is due, shown alike, and the rows are what they were -/
theorem same_ok {n a t q : Nat} {R : List Str × List NR} {left d : IV} (h : ROk R) (g : Good rows) (ha : S[a]? = some (.lst (rows.map enR))) (hq : S[q]? = some (.lst (outL R))) (dr : isRf d = true) (hd : view 8 S d = some (toldD R)) :
    iOr (iTest (iBin fNe (iVar 6) (iVar 5))) (iOr (iTest (iBin fNe (iCa fRepr (iCons (iVar 6) iNil)) (iCa fRepr (iCons (iVar 5) iNil)))) (iTest (iBin fNe (iVar 1) (iVar 2)))) (wL n a t rows (some left) (some d) (some (.tup [.str (outW R), .adr q]))) S = .ok false S := by
  have i6 : iVar 6 (wL n a t rows (some left) (some d) (some (.tup [.str (outW R), .adr q]))) S = .ok (.tup [.str (outW R), .adr q]) S := iVar_s rfl
  have i5 : iVar 5 (wL n a t rows (some left) (some d) (some (.tup [.str (outW R), .adr q]))) S = .ok d S := iVar_s rfl
  have i1 : iVar 1 (wL n a t rows (some left) (some d) (some (.tup [.str (outW R), .adr q]))) S = .ok (.adr a) S := iVar_s rfl
  have i2 : iVar 2 (wL n a t rows (some left) (some d) (some (.tup [.str (outW R), .adr q]))) S = .ok (.lst (rows.map enR)) S := iVar_s rfl
  have v6 := view_found (S := S) hq
  have e1 := eqB_same v6 hd (toldD_shaped h) rfl
  have e3 := eqB_cell ha fun r hr s hs => ((g.r r hr).2 s hs).1
  have r6 := repr_e v6 rfl (toldD_show h)
  have r5 := repr_e hd dr (toldD_show h)
  have r1 : iTest (iBin fNe (iVar 6) (iVar 5)) (wL n a t rows (some left) (some d) (some (.tup [.str (outW R), .adr q]))) S = .ok false S := by
    rw [iTest_e, iBin_e, i6, Out.bind_ok, i5, Out.bind_ok, fNe_e, e1]; rfl
  have r2 : iTest (iBin fNe (iCa fRepr (iCons (iVar 6) iNil)) (iCa fRepr (iCons (iVar 5) iNil))) (wL n a t rows (some left) (some d) (some (.tup [.str (outW R), .adr q]))) S = .ok false S := by
    rw [iTest_e, iBin_e, iCa_e, iCons_e, i6]
    simp only [Out.bind_ok, iNil_e, r6, iCa_e, iCons_e, i5, r5, fNe_e, eqB_s, orBad_some, asB_b]
    simp
  have r3 : iTest (iBin fNe (iVar 1) (iVar 2)) (wL n a t rows (some left) (some d) (some (.tup [.str (outW R), .adr q]))) S = .ok false S := by
    rw [iTest_e, iBin_e, i1, Out.bind_ok, i2, Out.bind_ok, fNe_e, e3]; rfl
  rw [iOr_e, r1, Out.bind_ok, if_neg Bool.false_ne_true, iOr_e, r2, Out.bind_ok, if_neg Bool.false_ne_true, r3]
theorem again_ok {n a t q : Nat} {R : List Str × List NR} {left d found : IV} (h : ROk R) (g : Good rows) (hR : R = mergeR rows) (ha : S[a]? = some (.lst (rows.map enR))) (hd : ∀ S' : Sto, Ext [] S S' → view 8 S' d = some (toldD R)) :
    ∃ S', iOr (iTest (iBin fNe (iCall 1 m__law_asked (iCons (iVar 1) iNil)) (iVar 5))) (iTest (iBin fNe (iVar 1) (iVar 2))) (wL n a t rows (some left) (some d) (some found)) S = .ok false S' ∧ Ext [] S S' := by
  obtain ⟨S', q', e1, e2, e3, e4⟩ := asked_ok ha g.rows
  rw [← hR] at e1 e2
  have i5 : iVar 5 (wL n a t rows (some left) (some d) (some found)) S' = .ok d S' := iVar_s rfl
  have i1 : iVar 1 (wL n a t rows (some left) (some d) (some found)) S' = .ok (.adr a) S' := iVar_s rfl
  have i2 : iVar 2 (wL n a t rows (some left) (some d) (some found)) S' = .ok (.lst (rows.map enR)) S' := iVar_s rfl
  have v6 := view_found (S := S') e2
  have q1 := eqB_same v6 (hd S' e4) (toldD_shaped h) rfl
  have q3 := eqB_cell (e4.get ha) fun r hr s hs => ((g.r r hr).2 s hs).1
  have r1 : iTest (iBin fNe (iCall 1 m__law_asked (iCons (iVar 1) iNil)) (iVar 5)) (wL n a t rows (some left) (some d) (some found)) S = .ok false S' := by
    rw [iTest_e, iBin_e, iCall_e, iCons_e, iVar_s (x := .adr a) rfl]
    simp only [Out.bind_ok, iNil_e]
    rw [chk_pos (by rfl), e1]
    simp only [relab_ok, Out.bind_ok, i5, fNe_e, q1, orBad_some, asB_b]
    rfl
  have r3 : iTest (iBin fNe (iVar 1) (iVar 2)) (wL n a t rows (some left) (some d) (some found)) S' = .ok false S' := by
    rw [iTest_e, iBin_e, i1, Out.bind_ok, i2, Out.bind_ok, fNe_e, q3]; rfl
  exact ⟨S', by rw [iOr_e, r1, Out.bind_ok, if_neg Bool.false_ne_true, r3], e4⟩
noncomputable def lastB : IS := (iTryAs [("NoOrder", true)] 7 (iDrop (iCall 1 m_merge (iCons (iBin fAdd (iLc false (iSrcL (iVar 1)) (giN 8) iYes (iCa (fList false) (iCons (iVar 8) iNil)) [8]) (iLst false (iCons (iLst false (iCons (iC (.str "x")) (iCons (iC (.str "y")) iNil))) (iCons (iLst false (iCons (iC (.str "y")) (iCons (iC (.str "x")) iNil))) iNil)))) iNil)))
  (fun C m => (iRet (iAndV (iXIsT 7 m [("NoOrder", true)] C) (iAndV (iXIsT 7 m [("NoOrder", true)] C) (iBin fGt (iCa fLen (iCons (iXf 7 m "rows") iNil)) (iC (.int 0))))))))
theorem last_ok {n a t : Nat} {left d found : IV} (g : Good rows) (hn : rows.length ≤ 10) (ha : S[a]? = some (.lst (rows.map enR))) : ∃ S', lastB (wL n a t rows (some left) (some d) (some found)) S = .ok (.rt (.bl true)) S' ∧ Ext [] S S' := by
  have g2 : Good (rows ++ xy) := ⟨by rw [List.length_append]; show rows.length + 2 ≤ 12; omega, fun r hr => (List.mem_append.mp hr).elim (g.r r) (xy_ok r)⟩
  have e := merge_e (S := S) (x := .lst ((rows ++ xy).map enR)) (k := none) rfl trivial g2.rows
  have ne : (mergeR (rows ++ xy)).2 ≠ [] := by
    unfold mergeR
    rw [toN_app]
    exact cyc "x" "y" _ (toN rows) []
  generalize mergeR (rows ++ xy) = R at e ne
  rcases e with ⟨h1, _⟩ | ⟨h1, m, S', l, e1, e2, e3, e4, e5⟩
  · exact absurd h1 ne
  refine ⟨S', ?_, e5⟩
  have z2 : ∀ a b : IV, mkL false [a, b] S = .ok (.lst [a, b]) S := fun a b => by rw [mkL_f, chk_pos (by rw [szL]; show 2 ≤ 16777216; decide)]
  have l1 : iLst false (iCons (iLst false (iCons (iC (.str "x")) (iCons (iC (.str "y")) iNil))) (iCons (iLst false (iCons (iC (.str "y")) (iCons (iC (.str "x")) iNil))) iNil)) (wL n a t rows (some left) (some d) (some found)) S = .ok (.lst (xy.map enR)) S := by
    simp only [iLst_e, iCons_e, iC_e, iNil_e, Out.bind_ok, z2]
    rfl
  have k := kept_ok (Λ := wL n a t rows (some left) (some d) (some found)) (S := S) (a := a) rfl (by show 8 < 9; decide) ha g
  have c : iCall 1 m_merge (iCons (iBin fAdd (iLc false (iSrcL (iVar 1)) (giN 8) iYes (iCa (fList false) (iCons (iVar 8) iNil)) [8]) (iLst false (iCons (iLst false (iCons (iC (.str "x")) (iCons (iC (.str "y")) iNil))) (iCons (iLst false (iCons (iC (.str "y")) (iCons (iC (.str "x")) iNil))) iNil)))) iNil) (wL n a t rows (some left) (some d) (some found)) S = .exc "NoOrder" m (wL n a t rows (some left) (some d) (some found)) S' := by
    rw [iCall_e, iCons_e, iBin_e, k, Out.bind_ok, l1]
    simp only [Out.bind_ok, iNil_e, fAdd_l, mkF_e]
    rw [chk_pos (by rw [List.length_append, List.length_map, List.length_map, szL]; show rows.length + 2 ≤ _; omega)]
    simp only [Out.bind_ok]
    rw [chk_pos (by rfl), ← List.map_append, e1]
    rfl
  unfold lastB iTryAs
  have c2 : iDrop (iCall 1 m_merge (iCons (iBin fAdd (iLc false (iSrcL (iVar 1)) (giN 8) iYes (iCa (fList false) (iCons (iVar 8) iNil)) [8]) (iLst false (iCons (iLst false (iCons (iC (.str "x")) (iCons (iC (.str "y")) iNil))) (iCons (iLst false (iCons (iC (.str "y")) (iCons (iC (.str "x")) iNil))) iNil)))) iNil)) (wL n a t rows (some left) (some d) (some found)) S = .exc "NoOrder" m (wL n a t rows (some left) (some d) (some found)) S' := by
    rw [iDrop_e, c]; rfl
  rw [c2]
  have is : iXIsT 7 m [("NoOrder", true)] "NoOrder" ((wL n a t rows (some left) (some d) (some found)).set 7 none) S' = .ok (.bl true) S' := by
    show iXIs 7 m true _ S' = _
    unfold iXIs
    simp only [e2]
    rfl
  have xf : iXf 7 m "rows" ((wL n a t rows (some left) (some d) (some found)).set 7 none) S' = .ok (.adr l) S' := by
    unfold iXf
    simp only [e2]
    rfl
  have ll : lenN S' (.adr l) = some R.2.length := by
    unfold lenN seqOf tupOf lstOf
    simp only [e3]
    simp
  have pos : 0 < R.2.length := List.length_pos_iff.mpr ne
  have r : iRet (iAndV (iXIsT 7 m [("NoOrder", true)] "NoOrder") (iAndV (iXIsT 7 m [("NoOrder", true)] "NoOrder") (iBin fGt (iCa fLen (iCons (iXf 7 m "rows") iNil)) (iC (.int 0))))) ((wL n a t rows (some left) (some d) (some found)).set 7 none) S' = .ok (.rt (.bl true)) S' := by
    refine rt_ok ?_
    rw [iAndV_e, is]
    simp only [Out.bind_ok, asB_b, if_true]
    rw [iAndV_e, is]
    simp only [Out.bind_ok, asB_b, if_true]
    rw [iBin_e, iCa_e, iCons_e, xf]
    simp only [Out.bind_ok, iNil_e, fLen_e, ll, orBad_some, iC_e]
    show Out.ok (IV.bl (decide ((0 : Int) < (R.2.length : Int)))) S' = _
    rw [decide_eq_true (by omega)]
  show Out.bind (noX (iRet _ _ S')) _ = _
  rw [r]
  rfl
end
theorem right_ok {S : Sto} {n K : Nat} (h : Dr S n K) (hK : K ≤ 500000) : ∃ S', m__law_right [.adr n] S = .ok (.bl true) S' ∧ Dr S' n (K + 1000) ∧ Ext [n] S S' := by
  obtain ⟨qs, rows, S1, a, e1, g1, l1, r1, q1, d1, x1, b1⟩ := rows_ok h (by omega)
  have g : Good rows := ⟨by omega, fun r hr => ⟨(r1 r hr).n, fun s hs => q1 s ((r1 r hr).m s hs)⟩⟩
  have hn := d1.lt
  have hn0 := h.lt
  obtain ⟨S2, t, e2, g2, b2, x2⟩ := merged_e (S := S1) g.rows
  have R := g.R
  obtain ⟨S3, q, e3, g3, b3, x3⟩ := asked_ok (x2.get g1) g.rows
  generalize hRR : mergeR rows = RR at e2 g2 e3 g3 R
  obtain ⟨d, ed, rd, vd⟩ := due_ok (S := S2) (rows := rows) (n := n) (a := a) (t := t) R g2
  have la := lt_some g1
  have lt2 := lt_some g2
  have t3 : S3[t]? = some (.lst (RR.1.map IV.str)) := x3.get g2
  have a3 : S3[a]? = some (.lst (rows.map enR)) := x3.get (x2.get g1)
  have lq := lt_some g3
  have sm := same_ok (n := n) (t := t) (left := .lst (RR.2.map enN)) R g a3 g3 rd (vd S3 t3)
  -- "again" behind what was found
  have hL : (outL RR).length < 1000000 := by
    have := R.z
    unfold outL
    split
    · rw [List.length_map]; omega
    · rw [List.length_map]
      have : ∀ l : List NR, l.length ≤ sizeP l := fun l => by
        induction l with
        | nil => exact Nat.le_refl _
        | cons p l ih => rw [List.length_cons, sizeP]; omega
      have := this RR.2
      omega
  have fx : iBin fIx (iVar 6) (iC (.int 1)) (wL n a t rows (some (.lst (RR.2.map enN))) (some d) (some (.tup [.str (outW RR), .adr q]))) S3 = .ok (.adr q) S3 := by
    rw [iBin_e, iVar_s (x := .tup [.str (outW RR), .adr q]) rfl]
    simp
  have ap := app_e (Λ := wL n a t rows (some (.lst (RR.2.map enN))) (some d) (some (.tup [.str (outW RR), .adr q]))) (S := S3) (mo := iBin fIx (iVar 6) (iC (.int 1))) (mv := iC (.str "again")) (v := .str "again") fx rfl g3 g3 hL
  generalize hS4 : S3.set q (Cell.lst (outL RR ++ [IV.str "again"])) = S4 at ap
  have x4 : Ext [q] S3 S4 := hS4 ▸ .set (.inl (by simp))
  have tq : t ≠ q := by omega
  have aq : a ≠ q := by have := x2.1; omega
  have a4 : S4[a]? = some (.lst (rows.map enR)) := x4.get a3 (by simp [aq])
  have t4 : S4[t]? = some (.lst (RR.1.map IV.str)) := x4.get t3 (by simp [tq])
  obtain ⟨S5, e5, x5⟩ := again_ok (n := n) (t := t) (q := q) (left := .lst (RR.2.map enN)) (found := .tup [.str (outW RR), .adr q]) R g hRR.symm a4 (fun S' x => vd S' (x.get t4))
  obtain ⟨S6, e6, x6⟩ := last_ok (n := n) (t := t) (left := .lst (RR.2.map enN)) (d := d) (found := .tup [.str (outW RR), .adr q]) g l1 (x5.get a4)
  have nq : n ≠ q := by have := x2.1; omega
  refine ⟨S6, ?_, ((((d1.ext x2).ext x3).ext x4 (by simp [nq])).ext x5).ext x6, ((x1.trans (x2.nil.trans x3.nil)).trans' x4 fun e he => .inr (by rw [List.mem_singleton.mp he]; have := x1.1; have := x2.1; omega)).trans (x5.nil.trans x6.nil)⟩
  have k := kept_ok (Λ := [some (.adr n), some (.adr a), none, none, none, none, none, none, none]) (S := S1) (a := a) rfl (by show 8 < 9; decide) g1 g
  have c1 : iCall 1 m__law_rows (iCons (iVar 0) iNil) [some (.adr n), none, none, none, none, none, none, none, none] S = .ok (.adr a) S1 := by
    rw [iCall_e, iCons_e, iVar_s (x := .adr n) rfl]
    simp only [Out.bind_ok, iNil_e]
    rw [chk_pos (by rfl), e1]
    rfl
  have c2 : iAsg (iCall 1 m__law_merged (iCons (iVar 2) iNil)) (iGTup 2 (iGCons (iName 3) (iGCons (iName 4) iGNil))) [some (.adr n), some (.adr a), some (.lst (rows.map enR)), none, none, none, none, none, none] S1 = .ok (.nx (wL n a t rows (some (.lst (RR.2.map enN))) none none)) S2 := by
    rw [iAsg_e, iCall_e, iCons_e, iVar_s (x := .lst (rows.map enR)) rfl]
    simp only [Out.bind_ok, iNil_e]
    rw [chk_pos (by rfl), e2]
    rfl
  have c3 : iCall 1 m__law_asked (iCons (iVar 1) iNil) (wL n a t rows (some (.lst (RR.2.map enN))) (some d) none) S2 = .ok (.tup [.str (outW RR), .adr q]) S3 := by
    rw [iCall_e, iCons_e, iVar_s (x := .adr a) rfl]
    simp only [Out.bind_ok, iNil_e]
    rw [chk_pos (by rfl), e3]
    rfl
  refine mDef_rt ?_
  show b__law_right [some (.adr n), none, none, none, none, none, none, none, none] S = _
  unfold b__law_right
  refine (sq_ok (st_ok c1)).trans ((sq_ok (st_ok k)).trans ((sq_ok c2).trans ((sq_ok (Λ1 := wL n a t rows (some (.lst (RR.2.map enN))) (some d) none) (st_ok ed)).trans ((sq_ok (Λ1 := wL n a t rows (some (.lst (RR.2.map enN))) (some d) (some (.tup [.str (outW RR), .adr q]))) (st_ok c3)).trans ?_))))
  refine (sq_ok (S1 := S3) ((if_ff sm).trans rfl)).trans ((sq_ok (dr_ok ap)).trans ((sq_ok (S1 := S5) ((if_ff e5).trans rfl)).trans ?_))
  exact sq_rt e6
theorem source_ok {S : Sto} {ns : List Int} {i : Nat} : ∃ S', m__law_source [.wls (ns.map IV.int), .int i] S = .ok (.adr S.length) S' ∧ Dr S' S.length 0 ∧ Ext [] S S' ∧ S'.length = S.length + 1 :=
  Lw.source_ok (P := 2147483587) (cc := 6007) (D := 1709) (by decide) ⟨by decide, by decide⟩
theorem law_ok {ns : List Int} (h : ns.length ≤ 63) : ∃ S', m_law [.wls (ns.map IV.int)] [] = .ok (.bl true) S' := by
  have turn : ∀ (n : Nat) (i : Nat) (Λ : Slots) (S : Sto) (y : Nat), (List.range (3 : Int).toNat)[i]? = some y → ((∃ u v, Λ = [some (.wls (ns.map IV.int)), u, some (.adr n), v]) ∧ Dr S n (1000 * i)) →
      ∃ Λ1 S1 Λ2 S2, iName 3 (IV.int y) Λ S = .ok Λ1 S1 ∧ (iIf (iNot (iTru (iCall 1 m__law_right (iCons (iVar 2) iNil)))) (iRet (iC (.bl false))) iNext : IS) Λ1 S1 = .ok (.nx Λ2) S2 ∧ ((∃ u v, Λ2 = [some (.wls (ns.map IV.int)), u, some (.adr n), v]) ∧ Dr S2 n (1000 * (i + 1))) := by
    rintro n i Λ S y hy ⟨⟨u, v, rfl⟩, hd⟩
    have hi : i < 3 := by have := lt_some hy; simpa using this
    obtain ⟨S', e, d, _⟩ := right_ok hd (by omega)
    refine ⟨[some (.wls (ns.map IV.int)), u, some (.adr n), some (.int y)], S, [some (.wls (ns.map IV.int)), u, some (.adr n), some (.int y)], S', rfl, ?_, ⟨⟨_, _, rfl⟩, by rw [Nat.mul_succ]; exact d⟩⟩
    have tt : iNot (iTru (iCall 1 m__law_right (iCons (iVar 2) iNil))) [some (.wls (ns.map IV.int)), u, some (.adr n), some (.int y)] S = .ok false S' := by
      rw [iNot_e, iTru_e, iCall_e, iCons_e, iVar_s (x := .adr n) rfl]
      simp only [Out.bind_ok, iNil_e]
      rw [chk_pos (by rfl), e]
      rfl
    exact (if_ff tt).trans rfl
  have place : ∀ (i : Nat) (Λ : Slots) (S : Sto) (y : Nat), (List.range (turns 8 ns))[i]? = some y → (∃ u v w, Λ = [some (.wls (ns.map IV.int)), u, v, w]) →
      ∃ Λ1 S1 Λ2 S2, iName 1 (IV.int y) Λ S = .ok Λ1 S1 ∧ (iSeq (iSet 2 (iCall 2 m__law_source (iCons (iVar 0) (iCons (iVar 1) iNil)))) (iFor (iSrcR1 (iC (.int 3))) (iName 3) (iIf (iNot (iTru (iCall 1 m__law_right (iCons (iVar 2) iNil)))) (iRet (iC (.bl false))) iNext)) : IS) Λ1 S1 = .ok (.nx Λ2) S2 ∧ (∃ u v w, Λ2 = [some (.wls (ns.map IV.int)), u, v, w]) := by
    rintro i Λ S y hy ⟨u, v, w, rfl⟩
    obtain ⟨S1, e1, d1, x1, _⟩ := source_ok (S := S) (ns := ns) (i := y)
    have c : iCall 2 m__law_source (iCons (iVar 0) (iCons (iVar 1) iNil)) [some (.wls (ns.map IV.int)), some (.int y), v, w] S = .ok (.adr S.length) S1 := by
      rw [iCall_e, iCons_e, iVar_s (x := .wls (ns.map IV.int)) rfl]
      simp only [Out.bind_ok, iCons_e, iNil_e]
      rw [iVar_s (x := .int y) rfl]
      simp only [Out.bind_ok]
      rw [chk_pos (by rfl), e1]
      rfl
    have src : iSrcR1 (iC (.int 3)) [some (.wls (ns.map IV.int)), some (.int y), some (.adr S.length), w] S1 = .ok ⟨(List.range (3 : Int).toNat).map fun i : Nat => IV.int i, none⟩ S1 := src_range rfl (by decide) (by decide)
    obtain ⟨Λ', S', f1, ⟨a, b, rfl⟩, f2⟩ := for_inv (g := iName 3) (b := iIf (iNot (iTru (iCall 1 m__law_right (iCons (iVar 2) iNil)))) (iRet (iC (.bl false))) iNext) (List.range (3 : Int).toNat) (fun i : Nat => IV.int i) (fun i Λ S' => (∃ u v, Λ = [some (.wls (ns.map IV.int)), u, some (.adr S.length), v]) ∧ Dr S' S.length (1000 * i)) src ⟨⟨_, _, rfl⟩, d1⟩ (fun _ _ _ _ => trivial) (turn S.length)
    exact ⟨_, _, _, S', rfl, (sq_ok (st_ok c)).trans f1, _, _, _, rfl⟩
  have src := places_src (t := 8) (by decide) (ns := ns) (Λ := [some (.wls (ns.map IV.int)), none, none, none]) (S := []) rfl h
  obtain ⟨Λ', S', f1, _⟩ := for_inv (g := iName 1) (b := (iSeq (iSet 2 (iCall 2 m__law_source (iCons (iVar 0) (iCons (iVar 1) iNil)))) (iFor (iSrcR1 (iC (.int 3))) (iName 3) (iIf (iNot (iTru (iCall 1 m__law_right (iCons (iVar 2) iNil)))) (iRet (iC (.bl false))) iNext)) : IS)) (List.range (turns 8 ns)) (fun i : Nat => IV.int i) (fun _ Λ _ => ∃ u v w, Λ = [some (.wls (ns.map IV.int)), u, v, w]) src ⟨_, _, _, rfl⟩ (fun _ _ _ _ => trivial) place
  refine ⟨S', mDef_rt ?_⟩
  show b_law [some (.wls (ns.map IV.int)), none, none, none] [] = _
  unfold b_law
  exact (sq_ok f1).trans rfl
end K17

namespace K17
open PySem PySem.Spec PyProof.Rows L2 Sm
set_option maxHeartbeats 40000000 in
theorem all_mk {l : PySem.W.OpenLaw} {w : World} {K : PySem.W.Frag} {h : Heap} {mg : Str → Option Value} {fa : Addr} (X : K.In h) (G : h.Ns mainGlobals mg) (hfa : mg "law" = some (.ref fa))
    {A_NoOrder : Addr}
    {A_PatchedError : Addr}
    {nm_NoOrder qn_NoOrder : Str} {N_NoOrder : Addr} {bs_NoOrder bm_NoOrder : List Value} {sn_NoOrder : List Str} {sb_NoOrder : List Value} {ab_NoOrder : Bool} {co_NoOrder : Option Bool} {dd_NoOrder : Option Addr} {k0_NoOrder k1_NoOrder k2_NoOrder k3_NoOrder k5_NoOrder : Option Value}
    {f_NoOrder___init__ : Addr} {od_NoOrder___init__ an_NoOrder___init__ : Option Addr} {sl_NoOrder___init__ : Array (Option Value)} {oc_NoOrder___init__ kV_NoOrder___init__ dc_NoOrder___init__ pm_NoOrder___init__ cd_NoOrder___init__ ct_NoOrder___init__ : Value}
    {f_first_free : Addr} {od_first_free an_first_free : Option Addr} {sl_first_free : Array (Option Value)} {oc_first_free kV_first_free dc_first_free pm_first_free cd_first_free ct_first_free : Value}
    {f_merge : Addr} {od_merge an_merge : Option Addr} {sl_merge : Array (Option Value)} {oc_merge kV_merge dc_merge pm_merge cd_merge ct_merge : Value}
    {f__law_source : Addr} {od__law_source an__law_source : Option Addr} {sl__law_source : Array (Option Value)} {oc__law_source kV__law_source dc__law_source pm__law_source cd__law_source ct__law_source : Value}
    {f__law_draw : Addr} {od__law_draw an__law_draw : Option Addr} {sl__law_draw : Array (Option Value)} {oc__law_draw kV__law_draw dc__law_draw pm__law_draw cd__law_draw ct__law_draw : Value}
    {f__law_of : Addr} {od__law_of an__law_of : Option Addr} {sl__law_of : Array (Option Value)} {oc__law_of kV__law_of dc__law_of pm__law_of cd__law_of ct__law_of : Value}
    {f__law_pool : Addr} {od__law_pool an__law_pool : Option Addr} {sl__law_pool : Array (Option Value)} {oc__law_pool kV__law_pool dc__law_pool pm__law_pool cd__law_pool ct__law_pool : Value}
    {f__law_rows : Addr} {od__law_rows an__law_rows : Option Addr} {sl__law_rows : Array (Option Value)} {oc__law_rows kV__law_rows dc__law_rows pm__law_rows cd__law_rows ct__law_rows : Value}
    {f__law_merged : Addr} {od__law_merged an__law_merged : Option Addr} {sl__law_merged : Array (Option Value)} {oc__law_merged kV__law_merged dc__law_merged pm__law_merged cd__law_merged ct__law_merged : Value}
    {f__law_asked : Addr} {od__law_asked an__law_asked : Option Addr} {sl__law_asked : Array (Option Value)} {oc__law_asked kV__law_asked dc__law_asked pm__law_asked cd__law_asked ct__law_asked : Value}
    {f__law_right : Addr} {od__law_right an__law_right : Option Addr} {sl__law_right : Array (Option Value)} {oc__law_right kV__law_right dc__law_right pm__law_right cd__law_right ct__law_right : Value}
    {f_law : Addr} {od_law an_law : Option Addr} {sl_law : Array (Option Value)} {oc_law kV_law dc_law pm_law cd_law ct_law : Value}
    (z_any : PySem.W.nsIn K mainGlobals "any" = some none)
    (z_len : PySem.W.nsIn K mainGlobals "len" = some none)
    (z_list : PySem.W.nsIn K mainGlobals "list" = some none)
    (z_int : PySem.W.nsIn K mainGlobals "int" = some none)
    (z_abs : PySem.W.nsIn K mainGlobals "abs" = some none)
    (z_range : PySem.W.nsIn K mainGlobals "range" = some none)
    (m_NoOrder : PySem.W.nsIn K mainGlobals "NoOrder" = some (some (.ref A_NoOrder)))
    (ex_NoOrder : PySem.W.subIn K (.ref A_NoOrder) (.type "BaseException") = some true)
    (hd_NoOrder : PySem.W.hasDictIn K A_NoOrder = true)
    (ty_NoOrder : PySem.W.typeIn K (.ref A_NoOrder) = some (.type "type"))
    (su_NoOrder_NoOrder : PySem.W.subIn K (.ref A_NoOrder) (.ref A_NoOrder) = some true)
    (xg_NoOrder : PySem.W.findIn K (.ref A_NoOrder) "__getattribute__" = some (some (.builtin "BaseException.__getattribute__")))
    (xk_NoOrder : PySem.W.findIn K (.ref A_NoOrder) "__getattr__" = some none)
    (na_NoOrder_rows : PySem.W.findIn K (.ref A_NoOrder) "rows" = some none)
    (m_PatchedError : PySem.W.nsIn K mainGlobals "PatchedError" = some (some (.ref A_PatchedError)))
    (ex_PatchedError : PySem.W.subIn K (.ref A_PatchedError) (.type "BaseException") = some true)
    (hd_PatchedError : PySem.W.hasDictIn K A_PatchedError = true)
    (ty_PatchedError : PySem.W.typeIn K (.ref A_PatchedError) = some (.type "type"))
    (su_NoOrder_PatchedError : PySem.W.subIn K (.ref A_NoOrder) (.ref A_PatchedError) = some true)
    (z_isinstance : PySem.W.nsIn K mainGlobals "isinstance" = some none)
    (z_ValueError : PySem.W.nsIn K mainGlobals "ValueError" = some none)
    (xa_NoOrder : PySem.W.findIn K (.ref A_NoOrder) "__class__" = some (some (.builtin "object.__class__")))
    (xn : PySem.W.specialIn K (.builtin "object.__class__") "__get__" = some (some (.builtin "getset_descriptor.__get__")))
    (xt : PySem.W.takesIn K (.builtin "object.__class__") = some true)
    (xm_NoOrder : PySem.W.mroIn K A_NoOrder (.type "object") = some true)
    (su_NoOrder_ValueError : PySem.W.subIn K (.ref A_NoOrder) (.type "ValueError") = some true)
    (z_repr : PySem.W.nsIn K mainGlobals "repr" = some none)
    (z_min : PySem.W.nsIn K mainGlobals "min" = some none)
    (z_max : PySem.W.nsIn K mainGlobals "max" = some none)
    (kc_NoOrder : PySem.W.keepIn K (.ref A_NoOrder) = true)
    (sa_NoOrder : PySem.W.findIn K (.ref A_NoOrder) "__setattr__" = some (some (.builtin "object.__setattr__")))
    (lk_NoOrder : K.lookup A_NoOrder = some (excClassObj nm_NoOrder qn_NoOrder A_NoOrder N_NoOrder bs_NoOrder bm_NoOrder true sn_NoOrder sb_NoOrder ab_NoOrder co_NoOrder dd_NoOrder k0_NoOrder k1_NoOrder k2_NoOrder k3_NoOrder k5_NoOrder "ValueError.__new__"))
    (rv_NoOrder : PySem.HandSPX.refsVE bm_NoOrder = true)
    (ic_NoOrder : PySem.W.findIn K (.ref A_NoOrder) "__init__" = some (some (.ref f_NoOrder___init__)))
    (tI_NoOrder : PySem.W.typeIn K (.ref f_NoOrder___init__) = some (.type "function"))
    (l_NoOrder___init__ : K.lookup f_NoOrder___init__ = some ⟨oc_NoOrder___init__, od_NoOrder___init__, .func (PySem.W.fnOf "__init__" "NoOrder.__init__" (defArgs s_NoOrder___init__) (defBody s_NoOrder___init__) (defScope s_NoOrder___init__) .none kV_NoOrder___init__ dc_NoOrder___init__ pm_NoOrder___init__ an_NoOrder___init__ cd_NoOrder___init__ ct_NoOrder___init__), sl_NoOrder___init__⟩)
    (c_NoOrder___init__ : PySem.W.codeIn K cd_NoOrder___init__ "NoOrder.__init__" = true)
    (k_NoOrder___init__ : PySem.W.keepIn K (.ref f_NoOrder___init__) = true)
    (rd_PatchedError : PySem.W.readsIn K A_PatchedError (.type "type") = true)
    (ga_PatchedError : PySem.W.specialIn K (.ref A_PatchedError) "__getattribute__" = some (some (.builtin "type.__getattribute__")))
    (bi_PatchedError : PySem.W.findCls K (.ref A_PatchedError) (.type "type") "__init__" = some (.val (.builtin "ValueError.__init__")))
    (a_first_free : PySem.W.nsIn K mainGlobals "first_free" = some (some (.ref f_first_free)))
    (l_first_free : K.lookup f_first_free = some ⟨oc_first_free, od_first_free, .func (PySem.W.fnOf "first_free" "first_free" (defArgs s_first_free) (defBody s_first_free) (defScope s_first_free) .none kV_first_free dc_first_free pm_first_free an_first_free cd_first_free ct_first_free), sl_first_free⟩)
    (c_first_free : PySem.W.codeIn K cd_first_free "first_free" = true)
    (k_first_free : PySem.W.keepIn K (.ref f_first_free) = true)
    (a_merge : PySem.W.nsIn K mainGlobals "merge" = some (some (.ref f_merge)))
    (l_merge : K.lookup f_merge = some ⟨oc_merge, od_merge, .func (PySem.W.fnOf "merge" "merge" (defArgs s_merge) (defBody s_merge) (defScope s_merge) .none kV_merge dc_merge pm_merge an_merge cd_merge ct_merge), sl_merge⟩)
    (c_merge : PySem.W.codeIn K cd_merge "merge" = true)
    (k_merge : PySem.W.keepIn K (.ref f_merge) = true)
    (a__law_source : PySem.W.nsIn K mainGlobals "_law_source" = some (some (.ref f__law_source)))
    (l__law_source : K.lookup f__law_source = some ⟨oc__law_source, od__law_source, .func (PySem.W.fnOf "_law_source" "_law_source" (defArgs s__law_source) (defBody s__law_source) (defScope s__law_source) .none kV__law_source dc__law_source pm__law_source an__law_source cd__law_source ct__law_source), sl__law_source⟩)
    (c__law_source : PySem.W.codeIn K cd__law_source "_law_source" = true)
    (k__law_source : PySem.W.keepIn K (.ref f__law_source) = true)
    (a__law_draw : PySem.W.nsIn K mainGlobals "_law_draw" = some (some (.ref f__law_draw)))
    (l__law_draw : K.lookup f__law_draw = some ⟨oc__law_draw, od__law_draw, .func (PySem.W.fnOf "_law_draw" "_law_draw" (defArgs s__law_draw) (defBody s__law_draw) (defScope s__law_draw) .none kV__law_draw dc__law_draw pm__law_draw an__law_draw cd__law_draw ct__law_draw), sl__law_draw⟩)
    (c__law_draw : PySem.W.codeIn K cd__law_draw "_law_draw" = true)
    (k__law_draw : PySem.W.keepIn K (.ref f__law_draw) = true)
    (a__law_of : PySem.W.nsIn K mainGlobals "_law_of" = some (some (.ref f__law_of)))
    (l__law_of : K.lookup f__law_of = some ⟨oc__law_of, od__law_of, .func (PySem.W.fnOf "_law_of" "_law_of" (defArgs s__law_of) (defBody s__law_of) (defScope s__law_of) .none kV__law_of dc__law_of pm__law_of an__law_of cd__law_of ct__law_of), sl__law_of⟩)
    (c__law_of : PySem.W.codeIn K cd__law_of "_law_of" = true)
    (k__law_of : PySem.W.keepIn K (.ref f__law_of) = true)
    (a__law_pool : PySem.W.nsIn K mainGlobals "_law_pool" = some (some (.ref f__law_pool)))
    (l__law_pool : K.lookup f__law_pool = some ⟨oc__law_pool, od__law_pool, .func (PySem.W.fnOf "_law_pool" "_law_pool" (defArgs s__law_pool) (defBody s__law_pool) (defScope s__law_pool) .none kV__law_pool dc__law_pool pm__law_pool an__law_pool cd__law_pool ct__law_pool), sl__law_pool⟩)
    (c__law_pool : PySem.W.codeIn K cd__law_pool "_law_pool" = true)
    (k__law_pool : PySem.W.keepIn K (.ref f__law_pool) = true)
    (a__law_rows : PySem.W.nsIn K mainGlobals "_law_rows" = some (some (.ref f__law_rows)))
    (l__law_rows : K.lookup f__law_rows = some ⟨oc__law_rows, od__law_rows, .func (PySem.W.fnOf "_law_rows" "_law_rows" (defArgs s__law_rows) (defBody s__law_rows) (defScope s__law_rows) .none kV__law_rows dc__law_rows pm__law_rows an__law_rows cd__law_rows ct__law_rows), sl__law_rows⟩)
    (c__law_rows : PySem.W.codeIn K cd__law_rows "_law_rows" = true)
    (k__law_rows : PySem.W.keepIn K (.ref f__law_rows) = true)
    (a__law_merged : PySem.W.nsIn K mainGlobals "_law_merged" = some (some (.ref f__law_merged)))
    (l__law_merged : K.lookup f__law_merged = some ⟨oc__law_merged, od__law_merged, .func (PySem.W.fnOf "_law_merged" "_law_merged" (defArgs s__law_merged) (defBody s__law_merged) (defScope s__law_merged) .none kV__law_merged dc__law_merged pm__law_merged an__law_merged cd__law_merged ct__law_merged), sl__law_merged⟩)
    (c__law_merged : PySem.W.codeIn K cd__law_merged "_law_merged" = true)
    (k__law_merged : PySem.W.keepIn K (.ref f__law_merged) = true)
    (a__law_asked : PySem.W.nsIn K mainGlobals "_law_asked" = some (some (.ref f__law_asked)))
    (l__law_asked : K.lookup f__law_asked = some ⟨oc__law_asked, od__law_asked, .func (PySem.W.fnOf "_law_asked" "_law_asked" (defArgs s__law_asked) (defBody s__law_asked) (defScope s__law_asked) .none kV__law_asked dc__law_asked pm__law_asked an__law_asked cd__law_asked ct__law_asked), sl__law_asked⟩)
    (c__law_asked : PySem.W.codeIn K cd__law_asked "_law_asked" = true)
    (k__law_asked : PySem.W.keepIn K (.ref f__law_asked) = true)
    (a__law_right : PySem.W.nsIn K mainGlobals "_law_right" = some (some (.ref f__law_right)))
    (l__law_right : K.lookup f__law_right = some ⟨oc__law_right, od__law_right, .func (PySem.W.fnOf "_law_right" "_law_right" (defArgs s__law_right) (defBody s__law_right) (defScope s__law_right) .none kV__law_right dc__law_right pm__law_right an__law_right cd__law_right ct__law_right), sl__law_right⟩)
    (c__law_right : PySem.W.codeIn K cd__law_right "_law_right" = true)
    (k__law_right : PySem.W.keepIn K (.ref f__law_right) = true)
    (a_law : PySem.W.nsIn K mainGlobals "law" = some (some (.ref f_law)))
    (l_law : K.lookup f_law = some ⟨oc_law, od_law, .func (PySem.W.fnOf "law" "law" (defArgs s_law) (defBody s_law) (defScope s_law) .none kV_law dc_law pm_law an_law cd_law ct_law), sl_law⟩)
    (c_law : PySem.W.codeIn K cd_law "law" = true)
    (k_law : PySem.W.keepIn K (.ref f_law) = true)
    : ∃ fd : FuncData, (∀ (s : Shared) (v : Value), BindsTo s fd ⟨[v], []⟩ [("_law_script", v)]) ∧ ∀ base : Heap, K.In base → base.Ns mainGlobals mg → FnG l.prog w K mg base (L2.CX l.prog w) 6 fa fd ["_law_script"] (lawSp K 63) := by
  have z_any := PySem.W.mg_none_of X G z_any
  have z_len := PySem.W.mg_none_of X G z_len
  have z_list := PySem.W.mg_none_of X G z_list
  have z_int := PySem.W.mg_none_of X G z_int
  have z_abs := PySem.W.mg_none_of X G z_abs
  have z_range := PySem.W.mg_none_of X G z_range
  have em_NoOrder_NoOrder : PySem.W.exmOne K (.ref A_NoOrder) (.ref A_NoOrder) = some true := em_mk ex_NoOrder hd_NoOrder ty_NoOrder su_NoOrder_NoOrder
  have tt__law_asked_0_NoOrder : TryT K mg "NoOrder" [("NoOrder", true)] := ⟨⟨A_NoOrder, PySem.W.mg_of X G m_NoOrder⟩, fun C b e => allT_of (t := [("NoOrder", true)]) (P := fun C b => PySem.W.exmOne K (clsV mg C) (clsV mg "NoOrder") = some b) ⟨by show PySem.W.exmOne K (clsV mg "NoOrder") (clsV mg "NoOrder") = some true; rw [clsV_mk X G m_NoOrder]; exact em_NoOrder_NoOrder, trivial⟩ C b e⟩
  have xf__law_asked_0_rows : XfT K mg [("NoOrder", true)] "rows" := fun C hC => allT_of (t := [("NoOrder", true)]) (P := fun C b => b = true → ∃ Ca : Addr, mg C = some (.ref Ca) ∧ L2.XfC K Ca ∧ PySem.W.findIn K (.ref Ca) "rows" = some none) ⟨fun _ => ⟨A_NoOrder, PySem.W.mg_of X G m_NoOrder, ⟨xg_NoOrder, xk_NoOrder, ex_NoOrder, hd_NoOrder⟩, na_NoOrder_rows⟩, trivial⟩ C true hC rfl
  have em_NoOrder_PatchedError : PySem.W.exmOne K (.ref A_NoOrder) (.ref A_PatchedError) = some true := em_mk ex_PatchedError hd_PatchedError ty_PatchedError su_NoOrder_PatchedError
  have tt__law_right_0_PatchedError : TryT K mg "PatchedError" [("NoOrder", true)] := ⟨⟨A_PatchedError, PySem.W.mg_of X G m_PatchedError⟩, fun C b e => allT_of (t := [("NoOrder", true)]) (P := fun C b => PySem.W.exmOne K (clsV mg C) (clsV mg "PatchedError") = some b) ⟨by show PySem.W.exmOne K (clsV mg "NoOrder") (clsV mg "PatchedError") = some true; rw [clsV_mk X G m_NoOrder, clsV_mk X G m_PatchedError]; exact em_NoOrder_PatchedError, trivial⟩ C b e⟩
  have z_isinstance := PySem.W.mg_none_of X G z_isinstance
  have ko_NoOrder_ValueError : PySem.W.kitOne K (.ref A_NoOrder) (.type "ValueError") = some true := ko_ty (by decide +kernel) su_NoOrder_ValueError
  have xi__law_right_0_ValueError : XiT K mg [("NoOrder", true)] "ValueError" [("NoOrder", true)] := ⟨(.type "ValueError"), .inr ⟨PySem.W.mg_none_of X G z_ValueError, by decide +kernel, _, rfl⟩, fun C hC b hb => xi_of (tab := [("NoOrder", true)]) (fun C b => allT_of (t := [("NoOrder", true)]) (P := fun C b => ([("NoOrder", true)] : List (Str × Bool)).lookup C = some true → ∃ Ca : Addr, mg C = some (.ref Ca) ∧ L2.ExcC K Ca ∧ PySem.W.kitOne K (.ref Ca) (.type "ValueError") = some b) ⟨fun _ => ⟨A_NoOrder, PySem.W.mg_of X G m_NoOrder, ⟨xg_NoOrder, xk_NoOrder, ex_NoOrder, hd_NoOrder, xa_NoOrder, xn, xt, xm_NoOrder⟩, ko_NoOrder_ValueError⟩, trivial⟩ C b) C hC b hb⟩
  have ko_NoOrder_NoOrder : PySem.W.kitOne K (.ref A_NoOrder) (.ref A_NoOrder) = some true := ko_t hd_NoOrder ty_NoOrder su_NoOrder_NoOrder
  have xi__law_right_0_NoOrder : XiT K mg [("NoOrder", true)] "NoOrder" [("NoOrder", true)] := ⟨(.ref A_NoOrder), .inl ⟨PySem.W.mg_of X G m_NoOrder, _, rfl⟩, fun C hC b hb => xi_of (tab := [("NoOrder", true)]) (fun C b => allT_of (t := [("NoOrder", true)]) (P := fun C b => ([("NoOrder", true)] : List (Str × Bool)).lookup C = some true → ∃ Ca : Addr, mg C = some (.ref Ca) ∧ L2.ExcC K Ca ∧ PySem.W.kitOne K (.ref Ca) (.ref A_NoOrder) = some b) ⟨fun _ => ⟨A_NoOrder, PySem.W.mg_of X G m_NoOrder, ⟨xg_NoOrder, xk_NoOrder, ex_NoOrder, hd_NoOrder, xa_NoOrder, xn, xt, xm_NoOrder⟩, ko_NoOrder_NoOrder⟩, trivial⟩ C b) C hC b hb⟩
  have xf__law_right_0_rows : XfT K mg [("NoOrder", true)] "rows" := fun C hC => allT_of (t := [("NoOrder", true)]) (P := fun C b => b = true → ∃ Ca : Addr, mg C = some (.ref Ca) ∧ L2.XfC K Ca ∧ PySem.W.findIn K (.ref Ca) "rows" = some none) ⟨fun _ => ⟨A_NoOrder, PySem.W.mg_of X G m_NoOrder, ⟨xg_NoOrder, xk_NoOrder, ex_NoOrder, hd_NoOrder⟩, na_NoOrder_rows⟩, trivial⟩ C true hC rfl
  have z_repr := PySem.W.mg_none_of X G z_repr
  have z_min := PySem.W.mg_none_of X G z_min
  have z_max := PySem.W.mg_none_of X G z_max
  have b_PatchedError : BaseC K mg "PatchedError" := base_mk X G m_PatchedError ga_PatchedError ty_PatchedError rd_PatchedError bi_PatchedError
  have O_NoOrder := oex_mk lk_NoOrder rv_NoOrder sa_NoOrder ex_NoOrder ty_NoOrder kc_NoOrder
  have LE_NoOrder : ELoc K mg "NoOrder" "rows" "self" "rows" "NoOrder.__init__" s_NoOrder___init__ := eloc_mk X G m_NoOrder O_NoOrder na_NoOrder_rows ic_NoOrder tI_NoOrder k_NoOrder___init__ l_NoOrder___init__ c_NoOrder___init__ (fun _ _ _ _ _ _ us hl => match us, hl with | [_, _], _ => rfl)
  have L_first_free : Loc K mg "first_free" s_first_free ["rows"] := loc_mk X G a_first_free l_first_free c_first_free k_first_free (fun _ _ _ _ _ _ us hl => match us, hl with | [_], _ => rfl)
  have L_merge : Loc K mg "merge" s_merge ["rows"] := loc_mk X G a_merge l_merge c_merge k_merge (fun _ _ _ _ _ _ us hl => match us, hl with | [_], _ => rfl)
  have L__law_source : Loc K mg "_law_source" s__law_source ["_law_script", "_law_at"] := loc_mk X G a__law_source l__law_source c__law_source k__law_source (fun _ _ _ _ _ _ us hl => match us, hl with | [_, _], _ => rfl)
  have L__law_draw : Loc K mg "_law_draw" s__law_draw ["_law_s", "_law_many"] := loc_mk X G a__law_draw l__law_draw c__law_draw k__law_draw (fun _ _ _ _ _ _ us hl => match us, hl with | [_, _], _ => rfl)
  have L__law_of : Loc K mg "_law_of" s__law_of ["_law_s", "_law_some"] := loc_mk X G a__law_of l__law_of c__law_of k__law_of (fun _ _ _ _ _ _ us hl => match us, hl with | [_, _], _ => rfl)
  have L__law_pool : Loc K mg "_law_pool" s__law_pool ["_law_s"] := loc_mk X G a__law_pool l__law_pool c__law_pool k__law_pool (fun _ _ _ _ _ _ us hl => match us, hl with | [_], _ => rfl)
  have L__law_rows : Loc K mg "_law_rows" s__law_rows ["_law_s"] := loc_mk X G a__law_rows l__law_rows c__law_rows k__law_rows (fun _ _ _ _ _ _ us hl => match us, hl with | [_], _ => rfl)
  have L__law_merged : Loc K mg "_law_merged" s__law_merged ["_law_rows_here"] := loc_mk X G a__law_merged l__law_merged c__law_merged k__law_merged (fun _ _ _ _ _ _ us hl => match us, hl with | [_], _ => rfl)
  have L__law_asked : Loc K mg "_law_asked" s__law_asked ["_law_rows_here"] := loc_mk X G a__law_asked l__law_asked c__law_asked k__law_asked (fun _ _ _ _ _ _ us hl => match us, hl with | [_], _ => rfl)
  have L__law_right : Loc K mg "_law_right" s__law_right ["_law_s"] := loc_mk X G a__law_right l__law_right c__law_right k__law_right (fun _ _ _ _ _ _ us hl => match us, hl with | [_], _ => rfl)
  refine law_mk X G hfa a_law l_law c_law k_law (fun _ _ _ _ _ _ _ => rfl) (fun xs h => law_ok h) fun fd F base _ _ => ?_
  have E_NoOrder_ok := ok_e_NoOrder (P := l.prog) (w := w) (base := base) LE_NoOrder b_PatchedError
  have C_first_free_ok := ok_first_free (P := l.prog) (w := w) (base := base) L_first_free z_any
  have C_merge_ok := ok_merge (P := l.prog) (w := w) (base := base) L_merge z_len z_list E_NoOrder_ok C_first_free_ok
  have C__law_source_ok := ok__law_source (P := l.prog) (w := w) (base := base) L__law_source z_int z_abs z_len
  have C__law_draw_ok := ok__law_draw (P := l.prog) (w := w) (base := base) L__law_draw z_int
  have C__law_of_ok := ok__law_of (P := l.prog) (w := w) (base := base) L__law_of z_len C__law_draw_ok
  have C__law_pool_ok := ok__law_pool (P := l.prog) (w := w) (base := base) L__law_pool z_range C__law_of_ok C__law_draw_ok
  have C__law_rows_ok := ok__law_rows (P := l.prog) (w := w) (base := base) L__law_rows z_range C__law_draw_ok C__law_of_ok C__law_pool_ok
  have C__law_merged_ok := ok__law_merged (P := l.prog) (w := w) (base := base) L__law_merged 
  have C__law_asked_ok := ok__law_asked (P := l.prog) (w := w) (base := base) L__law_asked tt__law_asked_0_NoOrder xf__law_asked_0_rows C_merge_ok
  have C__law_right_ok := ok__law_right (P := l.prog) (w := w) (base := base) L__law_right tt__law_right_0_PatchedError z_list z_isinstance xi__law_right_0_ValueError xi__law_right_0_NoOrder xf__law_right_0_rows z_len z_repr C_merge_ok C__law_asked_ok C__law_merged_ok C__law_rows_ok
  exact ok_law F z_range z_len z_min z_max C__law_right_ok C__law_source_ok

end K17
open PySem PySem.W PyProof.Rows
set_option maxHeartbeats 0 in
theorem PySem.Challenge.cw_patchedplaces_k17_rows_merged_holds : PySem.Challenge.rw_patchedplaces_k17_rows_merged.Holds := by
  w_on; o_law; k_head; (case hw => w_witness2)
  k_fill
  refine Sm.walk_ofG (l := PySem.Challenge.rw_patchedplaces_k17_rows_merged) (n := 63) (k := 6) (x := "_law_script") (CX := fun w => L2.CX PySem.Challenge.rw_patchedplaces_k17_rows_merged.prog w) (sp := fun w => Sm.lawSp _ 63) rfl (by decide) rfl ⟨⟨rfl, by decide, by decide⟩, rfl⟩ (fun w h Y => PySem.W.kIn_of Y) ?F (fun _ _ a xs hl hS => ⟨a, xs, rfl, hl, hS, fun _ => rfl⟩) (fun _ _ _ _ _ h => by obtain ⟨_, _, _, _, _, _, _, _, _, _, _, _, z⟩ := h; exact z)
  case F =>
    intro w mg fa h KX G hmg
    refine' K17.all_mk KX G hmg ?z_any ?z_len ?z_list ?z_int ?z_abs ?z_range ?m_NoOrder ?ex_NoOrder ?hd_NoOrder ?ty_NoOrder ?su_NoOrder_NoOrder ?xg_NoOrder ?xk_NoOrder ?na_NoOrder_rows ?m_PatchedError ?ex_PatchedError ?hd_PatchedError ?ty_PatchedError ?su_NoOrder_PatchedError ?z_isinstance ?z_ValueError ?xa_NoOrder ?xn ?xt ?xm_NoOrder ?su_NoOrder_ValueError ?z_repr ?z_min ?z_max ?kc_NoOrder ?sa_NoOrder ?lk_NoOrder ?rv_NoOrder ?ic_NoOrder ?tI_NoOrder ?l_NoOrder___init__ ?c_NoOrder___init__ ?k_NoOrder___init__ ?rd_PatchedError ?ga_PatchedError ?bi_PatchedError ?a_first_free ?l_first_free ?c_first_free ?k_first_free ?a_merge ?l_merge ?c_merge ?k_merge ?a__law_source ?l__law_source ?c__law_source ?k__law_source ?a__law_draw ?l__law_draw ?c__law_draw ?k__law_draw ?a__law_of ?l__law_of ?c__law_of ?k__law_of ?a__law_pool ?l__law_pool ?c__law_pool ?k__law_pool ?a__law_rows ?l__law_rows ?c__law_rows ?k__law_rows ?a__law_merged ?l__law_merged ?c__law_merged ?k__law_merged ?a__law_asked ?l__law_asked ?c__law_asked ?k__law_asked ?a__law_right ?l__law_right ?c__law_right ?k__law_right ?a_law ?l_law ?c_law ?k_law
    (case z_any => k_is)
    (case z_len => k_is)
    (case z_list => k_is)
    (case z_int => k_is)
    (case z_abs => k_is)
    (case z_range => k_is)
    (case m_NoOrder => k_is)
    (case ex_NoOrder => k_is)
    (case hd_NoOrder => k_is)
    (case ty_NoOrder => k_is)
    (case su_NoOrder_NoOrder => k_is)
    (case xg_NoOrder => k_is)
    (case xk_NoOrder => k_is)
    (case na_NoOrder_rows => k_is)
    (case m_PatchedError => k_is)
    (case ex_PatchedError => k_is)
    (case hd_PatchedError => k_is)
    (case ty_PatchedError => k_is)
    (case su_NoOrder_PatchedError => k_is)
    (case z_isinstance => k_is)
    (case z_ValueError => k_is)
    (case xa_NoOrder => k_is)
    (case xn => k_is)
    (case xt => k_is)
    (case xm_NoOrder => k_is)
    (case su_NoOrder_ValueError => k_is)
    (case z_repr => k_is)
    (case z_min => k_is)
    (case z_max => k_is)
    (case kc_NoOrder => k_is)
    (case sa_NoOrder => k_is)
    (case lk_NoOrder => k_is)
    (case rv_NoOrder => decide +kernel)
    (case ic_NoOrder => k_is)
    (case tI_NoOrder => k_is)
    (case l_NoOrder___init__ => k_is)
    (case c_NoOrder___init__ => k_is)
    (case k_NoOrder___init__ => k_is)
    (case rd_PatchedError => k_is)
    (case ga_PatchedError => k_is)
    (case bi_PatchedError => k_is)
    (case a_first_free => k_is)
    (case l_first_free => k_is)
    (case c_first_free => k_is)
    (case k_first_free => k_is)
    (case a_merge => k_is)
    (case l_merge => k_is)
    (case c_merge => k_is)
    (case k_merge => k_is)
    (case a__law_source => k_is)
    (case l__law_source => k_is)
    (case c__law_source => k_is)
    (case k__law_source => k_is)
    (case a__law_draw => k_is)
    (case l__law_draw => k_is)
    (case c__law_draw => k_is)
    (case k__law_draw => k_is)
    (case a__law_of => k_is)
    (case l__law_of => k_is)
    (case c__law_of => k_is)
    (case k__law_of => k_is)
    (case a__law_pool => k_is)
    (case l__law_pool => k_is)
    (case c__law_pool => k_is)
    (case k__law_pool => k_is)
    (case a__law_rows => k_is)
    (case l__law_rows => k_is)
    (case c__law_rows => k_is)
    (case k__law_rows => k_is)
    (case a__law_merged => k_is)
    (case l__law_merged => k_is)
    (case c__law_merged => k_is)
    (case k__law_merged => k_is)
    (case a__law_asked => k_is)
    (case l__law_asked => k_is)
    (case c__law_asked => k_is)
    (case k__law_asked => k_is)
    (case a__law_right => k_is)
    (case l__law_right => k_is)
    (case c__law_right => k_is)
    (case k__law_right => k_is)
    (case a_law => k_is)
    (case l_law => k_is)
    (case c_law => k_is)
    (case k_law => k_is)
