import PyProof.Rows.All
import Wide.All
import OpenK.AllK
import Wide.FinOn
import HandS.ForMost
import HandS.ForExc
import HandS.ExcInit
import HandS.ExcField
import HandS.CallSlots
import HandS.Ends
import PyProof.ReprRoads
import PyProof.ReprLen
import HandS.Style
import PyProof.P3Eq
import HandS.NamedTupGet
import HandS.IsInst
import HandS.FStr
import HandS.Iter
import HandS.DictComp
import HandS.Dict
import HandS.ExcIs
import KE.KExcIs
import KE.OsRunLaw
import HandS.SetKeys
import HandS.Property
import HandS.More
import HandS.WordsDict
import HandS.TupAny
import PyProof.Rows.SortStr
import PyProof.NeKinds
import PyProof.Rows.SetFrom
import HandS.Strs
import KE.DataEq
import HandS.Set
import HandS.SetFor
import HandS.ReplaceLit
import HandS.ReplaceDef
import HandS.ReplaceList
import OpenK.KMeth
import KE.KCallOwn
import HandS.ClsMeth
import HandS.Star
import HandS.RaiseMore
import HandS.Dict
import HandS.Rev
import HandS.TryOnly
import HandS.Small
import PyProof.InstNe
import HandS.IsInst
import HandS.Style
import PySem.Challenge.RW_patchedplaces_k49_sets_of_places
set_option Elab.async false
set_option linter.all false
set_option maxRecDepth 100000
local macro_rules | `(tactic| k_head) => `(tactic| k_headL)
set_option maxHeartbeats 0 in
open_top HdX.top for PySem.Challenge.rw_patchedplaces_k49_sets_of_places
namespace Sm
open PySem PySem.Spec PyProof.Rows L2
structure RmG (k : Nat) (A : Around) : Prop extends Room k A where
  gd : A.guards = some []
section
variable {j k : Nat} {A : Around}
theorem RmG.mono (r : RmG k A) (h : j ≤ k) : RmG j A := ⟨r.toRoom.mono h, r.gd⟩
theorem RmG.deeper (r : RmG (k + 1) A) (e : Env) : RmG k (A.deeper e) := ⟨r.toRoom.deeper e, r.gd⟩
theorem RmG.make (r : RmG (k + 1) A) (C : Addr) (us : List Value) (kw : List (Str × Value)) : RmG k (A.under (.builtin "type.__call__" ⟨.ref C :: us, kw⟩)) :=
  ⟨r.toRoom.make C us kw, by
    have g : (Code.builtin "type.__call__" ⟨Value.ref C :: us, kw⟩).isGuard = false := by simp [Code.isGuard, guardIds]
    have e : (Code.builtin "type.__call__" ⟨Value.ref C :: us, kw⟩).guards = [] := by unfold Code.guards; rw [g]; rfl
    unfold Around.under
    simp only [e]
    exact r.gd⟩
theorem RmG.units (r : RmG k A) : A.units + 64 < cLine := r.toRoom.units
end
structure FnG (P : Program) (w : World) (K : PySem.W.Frag) (mg : Str → Option Value) (base : Heap) (CX : CXT) (k : Nat) (f : Addr) (fd : FuncData) (ps : List Str) (sp : Sp) : Prop where
  len : ∀ vs H Q E, sp vs H Q E → vs.length = ps.length
  run : ∀ (A : Around) (out : List Env) (s : Shared) (H : Hp) (as : Args) (us : List Value) (vs : List V) (Q : VK) (E : XK), RmG k A → Env0 P w K mg base A out s H → BindsTo s fd as (ps.zip us) → Vals vs us → sp vs H Q E →
    codeAny (model P w) A (.call (.ref f) as) (CR CX out P w H s Q E) s
section
variable {P : Program} {w : World} {K : PySem.W.Frag} {mg : Str → Option Value} {base : Heap} {CX : CXT} {k : Nat} {f : Addr} {fd : FuncData} {ps : List Str} {sp : Sp}
theorem FnG.imp {sp' : Sp} (F : FnG P w K mg base CX k f fd ps sp) (h : ∀ vs H Q E, sp' vs H Q E → sp vs H Q E) : FnG P w K mg base CX k f fd ps sp' :=
  ⟨fun vs H Q E q => F.len vs H Q E (h _ _ _ _ q), fun A out s H as us vs Q E a b c d e => F.run A out s H as us vs Q E a b c d (h _ _ _ _ e)⟩
theorem okG {x qual : Str} {st : Stmt} {N : List Str} (F : Fun K x qual st f fd) (S : FnScope N ps (defScope st)) (len : ∀ vs H Q E, sp vs H Q E → vs.length = ps.length)
    (hb : ∀ (cd : Value) (A : Around) (out : List Env) (s : Shared) (H : Hp) (vs : List V) (Q : VK) (E : XK), RmG k (A.deeper (envOfC qual (defScope st) s.heap.objs.size f cd)) → sp vs H Q E →
      ∃ t, PSs (cxOf CX P w K mg base N qual (defScope st) f cd A out s H E) (defBody st) t ∧ t { nx := fun _ H' => Q .non H', rt := Q } (start N vs) H) : FnG P w K mg base CX (k + 1) f fd ps sp := by
  obtain ⟨oc, od, kV, doc, pm, an, cd, ct, osl, rfl, lk, hc⟩ := F.ex
  constructor
  · exact len
  intro A out s H as us vs Q E room e0 bind val hsp
  have inS : K.In s.heap := e0.mod.kin.keeps fun b o z => (e0.bs b o z).1
  obtain ⟨t, ht, hq⟩ := hb cd A out s H vs Q E (room.deeper _) hsp
  have kinds : ∀ y ∈ ps.zip us, (defScope st).names.lookup y.1 = some .local ∨ ((defScope st).names.lookup y.1 = some .cell ∧ ((cellsFrom (s.heap.objs.size + 1) (defScope st).names []).lookup y.1).isSome = true) := by
    intro y hy
    obtain ⟨n, v⟩ := y
    exact (S.par n (List.of_mem_zip hy).1).imp id fun q => ⟨q, PySem.W.cellsFrom_some _ _ _ (.inl q)⟩
  apply codeAny_call_function room.toRoom.depth (inS _ _ lk) rfl S.co S.gen rfl (PySem.W.codeRec_of inS hc)
  apply bind
  apply wpAny_newFunctionEnv_cells S.kind kinds
  intro env henv s1 x
  subst henv
  have li : s.heap.NoLimit := e0.mod.nolimit.keeps fun b o z => (e0.bs b o z).1
  refine ⟨li.keeps x.toInCall.keep, codeAny_func (wpAny_mono (ht.run [] s1 (start N vs) H _ (inv_start S room.hd e0 (len _ _ _ _ hsp) val x) hq) (fun fl s2 z => ?_) fun _ _ z => z)⟩
  cases fl with
  | next =>
    obtain ⟨_, H2, J, q⟩ := z
    exact ⟨.non, H2, J.os, J.bare, J.base, J.hok, rfl, q⟩
  | ret u =>
    obtain ⟨v, _, H2, J, rv, q⟩ := z
    exact ⟨v, H2, J.os, J.bare, J.base, J.hok, rv, q⟩
  | brk => obtain ⟨_, _, _, q⟩ := z; exact q.elim
  | cont => obtain ⟨_, _, _, q⟩ := z; exact q.elim
end
section
variable {X : Cx} {CX : CXT} {k : Nat} {f : Addr} {fd : FuncData} {ps : List Str} {sp : Sp} {E : L2.St → XK}
theorem run_fnG {pins : List (Addr × Obj)} {σ : L2.St} {H : Hp} {s : Shared} {Q : VK} {us : List Value} {vs : List V} (F : FnG X.prog X.w X.K X.mg X.base CX k f fd ps sp) (hr : RmG k X.A) (hb : Binds X.K fd ps []) (hx : PassesAt CX X σ (E σ))
    (I : Inv X pins σ H s) (r : Vals vs us) (h : sp vs H Q (E σ)) : wpAny (model X.prog X.w) X.A (call (.ref f) us) (EP X pins σ Q) X.xe s := by
  have hl : us.length = ps.length := r.length.symm.trans (F.len _ _ _ _ h)
  have b := hb s us I.kIn (by simpa using hl)
  rw [List.append_nil] at b
  apply wpAny_call
  apply codeAny_mono (F.run X.A X.stack s H ⟨us, []⟩ us vs Q (E σ) hr I.env0 b r h)
  intro out s' z
  match out, z with
  | .error e, z => exact hx pins H s e s' I z
  | .ok (.ret u), z => exact I.after z
  | .ok .next, z => exact z.elim
  | .ok .brk, z => exact z.elim
  | .ok .cont, z => exact z.elim
theorem pe_callG {x : Str} {p pos : Pos} {e : Expr} {es : List Expr} {t : TA} (F : FnG X.prog X.w X.K X.mg X.base CX k f fd ps sp) (hr : RmG k X.A) (hg : Gl X x) (hm : X.mg x = some (.ref f)) (hk : PySem.W.keepIn X.K (.ref f) = true) (hb : Binds X.K fd ps [])
    (hx : ∀ σ, PassesAt CX X σ (E σ)) (ha : PA X (e :: es) t) (hd : (x == ("__debug__" : Str)) = false) (he : starEach (e :: es) X.env = (false, eval e X.env) :: starEach es X.env) (hp : (backTo pos (starEach es X.env)).any (·.1) = false) :
    PE X (.Call (.Name x p) (e :: es) [] pos) (tCallS sp E t) := by
  constructor
  intro pins s σ H Q I h
  apply wpAny_Call_Name_kw
  apply ld_glob I hg hm _ hd
  have go := ha.run pos pins s σ H _ I h
  exact PySem.W.callWith_K (h₀ := X.base) I.ok.mod.kin hk (thn go fun us s1 z => by
    obtain ⟨vs, H1, J, r, q⟩ := z
    exact ⟨J.kIn, run_fnG F hr hb (hx σ) J r q⟩) he hp
end
section
variable {P : Program} {w : World} {K : PySem.W.Frag} {mg mb : Str → Option Value} {CX : CXT} {k : Nat} {fa a : Addr} {fd : FuncData} {x : Str} {sp : Sp} {s0 : Shared} {us : List Value} {ns : List Int}
theorem law_at {H : Hp} {g : Obj} (KX : K.In s0.heap) (hn : s0.heap.Ns mainGlobals mg) (hb : s0.heap.Ns builtinsNs mb) (hbb : ∀ x : Str, x ≠ "__name__" → mb x = bootBuiltins x) (hl : s0.heap.NoLimit) (hg : s0.gens = #[])
    (ga : s0.heap.get? a = some g) (gl : ∀ es n, g.data ≠ .dict es n) (hr : RmG k callerA) (F : ∀ base : Heap, K.In base → base.Ns mainGlobals mg → FnG P w K mg base CX k fa fd [x] sp) (bi : ∀ (s : Shared) (u : Value), BindsTo s fd ⟨[u], []⟩ [(x, u)])
    (ok : HOk P w H s0.heap) (only : ∀ b, H b ≠ none → b = a ∧ K.lookup a = none ∧ ∃ o xs, H b = some (.frz o (.lst xs))) (hsp : sp [.ref a] H (fun v _ => v = .bl true) fun _ _ _ => False) (hC : ∀ e s', CX [] H s0 (fun _ _ _ => False) e s' → False) :
    codeAny (model P w) callerA (.call (.ref fa) ⟨[.ref a], []⟩) (fun r s' => r = .ok (.ret (.bool true)) ∧ OldK s0.heap s'.heap ∧ s'.os = s0.os ∧ AllBare s'.gens) s0 := by
  have fresh : ∀ b, b ≠ a → H b = none := fun b hb => by
    cases q : H b with
    | none => rfl
    | some u => exact absurd (only b (by rw [q]; exact fun z => by cases z)).1 hb
  have dictN : ∀ {b : Addr} {o : Obj} {es : Array DictEntry} {n : Nat}, s0.heap.get? b = some o → o.data = .dict es n → H b = none := fun {b o es n} e d => fresh b fun hb => by
    subst hb
    rw [ga] at e
    cases e
    exact gl es n d
  have low : ∀ {b : Addr} {m : Str → Option Value}, s0.heap.Ns b m → (hidT s0.heap H).Ns b m := fun {b m} ⟨o, es, n, e, d, r⟩ => ⟨o, es, n, hidT_get e (dictN e d), d, r⟩
  have KB : K.In (hidT s0.heap H) := fun b o e => hidT_get (KX b o e) (by
    cases q : H b with
    | none => rfl
    | some u =>
      obtain ⟨z1, z2, _⟩ := only b (by rw [q]; exact fun z => by cases z)
      subst z1
      rw [z2] at e
      cases e)
  obtain ⟨mc, l1, l2⟩ := hl
  have M : Mod K mg (hidT s0.heap H) := ⟨KB, low hn, ⟨mb, low hb, hbb⟩, ⟨mc, low l1, l2⟩⟩
  have nofr : ∀ b : Addr, b ∉ frs ([] : List Env) := fun b z => by cases z
  have e0 : Env0 P w K mg (hidT s0.heap H) callerA [] s0 H := ⟨rfl, M, fun b o e => of_hidT e, Nat.le_of_eq (hidT_size _ _), trivial, fun b hb => absurd hb (nofr b), ok, .of_eq hg⟩
  apply codeAny_mono ((F _ KB (low hn)).run callerA [] s0 H ⟨[.ref a], []⟩ [.ref a] [.ref a] _ _ hr e0 (bi s0 (.ref a)) (.cons rfl .nil) hsp)
  intro r s' z
  match r, z with
  | .error e, z => exact (hC e s' z).elim
  | .ok .next, z => exact z.elim
  | .ok .brk, z => exact z.elim
  | .ok .cont, z => exact z.elim
  | .ok (.ret u), z =>
    obtain ⟨v, H', hos, bare, un, ok', rv, hv⟩ := z
    cases hv
    obtain rfl : u = Value.bool true := rv
    refine ⟨rfl, OldK.of_keep fun b o e => ?_, hos, bare⟩
    cases q : H b with
    | none => exact un.keep b o e q (nofr b) (by simp)
    | some y =>
      obtain ⟨_, _, ob, xs, z⟩ := only b (by rw [q]; exact fun z => by cases z)
      obtain ⟨g1, _⟩ := ok b _ z
      obtain ⟨g2, _⟩ := ok' b _ (un.frzs b ob _ z)
      rw [e] at g1
      cases g1
      exact g2
theorem law_callG (KX : K.In s0.heap) (hn : s0.heap.Ns mainGlobals mg) (hb : s0.heap.Ns builtinsNs mb) (hbb : ∀ x : Str, x ≠ "__name__" → mb x = bootBuiltins x) (hl : s0.heap.NoLimit) (hg : s0.gens = #[])
    (ga : s0.heap.get? a = some { cls := .type "list", data := .seq us.toArray }) (hi : IntsAre us ns) (hz : ns.length ≤ sizeLine) (hr : RmG k callerA) (F : ∀ base : Heap, K.In base → base.Ns mainGlobals mg → FnG P w K mg base CX k fa fd [x] sp)
    (bi : ∀ (s : Shared) (u : Value), BindsTo s fd ⟨[u], []⟩ [(x, u)]) (hsp : ∀ H : Hp, SqL K H a (ns.map V.int) → sp [.ref a] H (fun v _ => v = .bl true) fun _ _ _ => False) (hC : ∀ H e s', CX [] H s0 (fun _ _ _ => False) e s' → False) :
    codeAny (model P w) callerA (.call (.ref fa) ⟨[.ref a], []⟩) (fun r s' => r = .ok (.ret (.bool true)) ∧ OldK s0.heap s'.heap ∧ s'.os = s0.os ∧ AllBare s'.gens) s0 := by
  have rv := vals_ints hi
  have ln := hi.length
  have nod : ∀ (es : Array DictEntry) (n : Nat), ({ cls := .type "list", data := .seq us.toArray } : Obj).data ≠ .dict es n := fun es n z => by
    have z : Data.seq us.toArray _ = Data.dict es n := z
    cases z
  rcases hk : K.lookup a with _ | o
  · let H : Hp := fun b => if b = a then some (.frz { cls := .type "list", data := .seq us.toArray } (.lst (ns.map V.int))) else none
    have hH : H a = some (.frz { cls := .type "list", data := .seq us.toArray } (.lst (ns.map V.int))) := if_pos rfl
    have hN : ∀ b, b ≠ a → H b = none := fun b hb => if_neg hb
    refine law_at (H := H) KX hn hb hbb hl hg ga nod hr F bi (fun b u z => ?_) (fun b z => ?_) (hsp H (.inl (.inr ⟨_, hH⟩))) (hC H)
    · by_cases e : b = a
      · subst e
        rw [hH] at z
        cases z
        exact ⟨ga, by rw [List.length_map]; exact hz, us, _, rv, ga⟩
      · rw [hN b e] at z; cases z
    · by_cases e : b = a
      · subst e; exact ⟨rfl, hk, _, _, hH⟩
      · exact absurd (hN b e) z
  · have e := KX a o hk
    rw [ga] at e
    cases e
    exact law_at (H := fun _ => none) KX hn hb hbb hl hg ga nod hr F bi (fun b u z => by have z : (none : Option HO) = some u := z; cases z) (fun b z => absurd rfl z)
      (hsp _ (.inr ⟨_, us.toArray, _, hk, rfl, rfl, rfl, by rw [List.size_toArray, ln]; exact hz, by simpa using rv⟩)) (hC _)
theorem walk_ofG {l : PySem.W.OpenLaw} {n : Nat} {q : Program} {loose : List Str} {XP : (Str → Option Value) → Heap → Prop} {YP : World → Heap → Prop} {d : DefRec} {K : Params → PySem.W.Frag} {CX : World → CXT} {sp : World → Sp}
    (hn : l.most = some n) (hz : n ≤ sizeLine) (hdf : d.params.defaults = []) (hr : RmG k callerA) (hY : ∀ (w : World) (h : Heap), YP w h → (K w.params).In h)
    (F : ∀ (w : World) (mg : Str → Option Value) (fa : Addr) (h : Heap), (K w.params).In h → h.Ns mainGlobals mg → mg d.name = some (.ref fa) → ∃ fd : FuncData, (∀ (s : Shared) (u : Value), BindsTo s fd ⟨[u], []⟩ [(x, u)]) ∧
        ∀ base : Heap, (K w.params).In base → base.Ns mainGlobals mg → FnG l.prog w (K w.params) mg base (CX w) k fa fd [x] (sp w))
    (hsp : ∀ (w : World) (H : Hp) (a : Addr) (ns : List Int), ns.length ≤ n → SqL (K w.params) H a (ns.map V.int) → sp w [.ref a] H (fun v _ => v = .bl true) fun _ _ _ => False)
    (hC : ∀ (w : World) (H : Hp) (s : Shared) (e : Value) (s' : Shared), CX w [] H s (fun _ _ _ => False) e s' → False) : PySem.W.WalkO q loose XP YP l.row.toRowW d [] (fun f vs => PySem.call f vs) := by
  apply Att.attach_call hn hdf
  intro w _ s1 mg mb fa _ _ _ _ a us ns G Y _ _ _ hm ho hi hl hg
  have KX := hY w _ Y
  obtain ⟨fd, bi, hF⟩ := F w mg fa _ KX G.T.g hm
  exact law_callG KX G.T.g G.T.b G.T.builtins G.T.nolimit hg ho hi (Nat.le_trans hl hz) hr hF bi (fun H hS => hsp w H a ns hl hS) fun H e s' => hC w H s1 e s'
end
structure KX where
  k : PySem.W.Frag
  mg : Str → Option Value
  ex : Option (Nat × Nat × Addr × Addr)
structure WZ where
  x : WX
  ex : Option (Nat × Nat × Addr × Addr) := none
def exOff (ex : Option (Nat × Nat × Addr × Addr)) (vs : List Nat) : Bool := match ex with
  | none => true
  | some (i, _) => !vs.contains i
def clsV (mg : Str → Option Value) (C : Str) : Value := (mg C).getD .none
inductive IV where
  | non | bl (b : Bool) | int (i : Int) | str (s : Str) | adr (n : Nat) | lst (xs : List IV) | wls (xs : List IV) | tup (xs : List IV) | ref (a : Addr) | ty (n : String)
  deriving Inhabited
inductive Cell where
  | lst (xs : List IV) | dic (kvs : List (Key × IV)) | dicL (kvs : List (Key × IV)) | ins (C : Str) (fs : List (Str × IV)) | xd (fs : List (Str × IV))
abbrev Sto := List Cell
abbrev Slots := List (Option IV)
inductive Out (α : Type) where
  | ok (a : α) (S : Sto)
  | exc (C : Str) (n : Nat) (L : Slots) (S : Sto)
  | bad
def Out.bind {α β : Type} : Out α → (α → Sto → Out β) → Out β
  | .ok a S, k => k a S
  | .exc C n L S, _ => .exc C n L S
  | .bad, _ => .bad
@[simp] theorem Out.bind_ok {α β : Type} (a : α) (S : Sto) (k : α → Sto → Out β) : (Out.ok a S).bind k = k a S := rfl
@[simp] theorem Out.bind_exc {α β : Type} (C n L) (S : Sto) (k : α → Sto → Out β) : (Out.exc C n L S).bind k = .exc C n L S := rfl
@[simp] theorem Out.bind_bad {α β : Type} (k : α → Sto → Out β) : (Out.bad).bind k = .bad := rfl
theorem Out.bind_assoc {α β γ : Type} (o : Out α) (k : α → Sto → Out β) (j : β → Sto → Out γ) : (o.bind k).bind j = o.bind fun a S => (k a S).bind j := by
  cases o <;> rfl
structure Wd where
  rho : List Addr
  F : Hp
  G : Hp
structure Wd.lr (w w' : Wd) : Prop where
  rho : ∃ more, w'.rho = w.rho ++ more
  F : Same w.F w'.F
structure Wd.le (w w' : Wd) : Prop extends Wd.lr w w' where
  G : w'.G = w.G
structure Wd.lz (w w' : Wd) : Prop extends Wd.lr w w' where
  fz : ∀ (a : Addr) (u : Obj) (v : HO), w.G a = some (.frz u v) → w'.G a = some (.frz u v)
theorem Wd.le.lz {w w' : Wd} (h : w.le w') : w.lz w' := ⟨h.1, fun a u v e => by rw [h.G]; exact e⟩
theorem Wd.lr.refl (w : Wd) : w.lr w := ⟨⟨[], by simp⟩, Same.refl _⟩
theorem Wd.lr.trans {a b c : Wd} (h : a.lr b) (k : b.lr c) : a.lr c := by
  obtain ⟨⟨m, e⟩, f⟩ := h
  obtain ⟨⟨m', e'⟩, f'⟩ := k
  exact ⟨⟨m ++ m', by rw [e', e, List.append_assoc]⟩, f.trans f'⟩
theorem Wd.le.refl (w : Wd) : w.le w := ⟨Wd.lr.refl w, rfl⟩
theorem Wd.le.trans {a b c : Wd} (h : a.le b) (k : b.le c) : a.le c := ⟨h.1.trans k.1, k.2.trans h.2⟩
theorem Wd.lr.get {w w' : Wd} (h : w.lr w') {n : Nat} {a : Addr} (e : w.rho[n]? = some a) : w'.rho[n]? = some a := by
  obtain ⟨m, e'⟩ := h.rho
  rw [e', List.getElem?_append_left (List.getElem?_eq_some_iff.mp e).1]
  exact e
mutual
inductive Rel (K : KX) (w : Wd) : V → IV → Prop
  | non : Rel K w .non .non
  | bl (b : Bool) : Rel K w (.bl b) (.bl b)
  | int (i : Int) : Rel K w (.int i) (.int i)
  | str (x : Str) : Rel K w (.str x) (.str x)
  | adr {n : Nat} {a : Addr} : w.rho[n]? = some a → Rel K w (.ref a) (.adr n)
  | lst {a : Addr} {xs : List V} {ivs : List IV} : w.F a = some (.lst xs) → RelL K w xs ivs → Rel K w (.ref a) (.lst ivs)
  | wls {a : Addr} {xs : List V} {ivs : List IV} : SqL K.k w.F a xs → RelL K w xs ivs → Rel K w (.ref a) (.wls ivs)
  | tup {a : Addr} {xs : List V} {ivs : List IV} : SqT K.k w.F a xs → RelL K w xs ivs → Rel K w (.ref a) (.tup ivs)
  | ref (a : Addr) : Rel K w (.ref a) (.ref a)
  | ty (n : String) : Rel K w (.ty n) (.ty n)
inductive RelL (K : KX) (w : Wd) : List V → List IV → Prop
  | nil : RelL K w [] []
  | cons {v : V} {vs : List V} {iv : IV} {ivs : List IV} : Rel K w v iv → RelL K w vs ivs → RelL K w (v :: vs) (iv :: ivs)
end
theorem same_t {K : PySem.W.Frag} {H H' : Hp} {a : Addr} {xs : List V} (e : Same H H') (h : SqT K H a xs) : SqT K H' a xs := by
  rcases h with (h | ⟨o, h⟩) | h
  · exact .inl (.inl (e _ _ h))
  · exact .inl (.inr ⟨o, e _ _ h⟩)
  · exact .inr h
section
variable {K : KX} {w w' : Wd}
mutual
theorem Rel.mono (l : w.lr w') : ∀ (iv : IV) (v : V), Rel K w v iv → Rel K w' v iv
  | .non, _, h => by cases h; exact .non
  | .bl b, _, h => by cases h; exact .bl b
  | .int b, _, h => by cases h; exact .int b
  | .str b, _, h => by cases h; exact .str b
  | .adr n, _, h => by
    cases h with
    | adr e => exact .adr (l.get e)
  | .lst ivs, _, h => by
    cases h with
    | lst e r => exact .lst (l.F _ _ e) (RelL.mono l ivs _ r)
  | .wls ivs, _, h => by
    cases h with
    | wls e r => exact .wls (l.F.seq e) (RelL.mono l ivs _ r)
  | .tup ivs, _, h => by
    cases h with
    | tup e r => exact .tup (same_t l.F e) (RelL.mono l ivs _ r)
  | .ref a, _, h => by cases h; exact .ref a
  | .ty n, _, h => by cases h; exact .ty n
theorem RelL.mono (l : w.lr w') : ∀ (ivs : List IV) (vs : List V), RelL K w vs ivs → RelL K w' vs ivs
  | [], _, h => by cases h; exact .nil
  | iv :: ivs, _, h => by
    cases h with
    | cons a b => exact .cons (Rel.mono l iv _ a) (RelL.mono l ivs _ b)
end
theorem Rel.up {v : V} {iv : IV} (h : Rel K w v iv) (l : w.le w') : Rel K w' v iv := Rel.mono l.1 _ _ h
theorem RelL.up {v : List V} {iv : List IV} (h : RelL K w v iv) (l : w.le w') : RelL K w' v iv := RelL.mono l.1 _ _ h
theorem RelL.length : ∀ {vs : List V} {ivs : List IV}, RelL K w vs ivs → vs.length = ivs.length
  | _, _, .nil => rfl
  | _, _, .cons _ h => by rw [List.length_cons, List.length_cons, RelL.length h]
theorem RelL.get : ∀ {vs : List V} {ivs : List IV} {i : Nat} {iv : IV}, RelL K w vs ivs → ivs[i]? = some iv → ∃ v, vs[i]? = some v ∧ Rel K w v iv
  | _, _, _, _, .nil, e => by simp at e
  | _, _, 0, _, .cons r _, e => by simp at e; subst e; exact ⟨_, rfl, r⟩
  | _, _, i + 1, iv, .cons _ t, e => by
    obtain ⟨u, h1, h2⟩ := RelL.get (i := i) (iv := iv) t (by simpa using e)
    exact ⟨u, by simpa using h1, h2⟩
theorem RelL.append : ∀ {xs ys : List V} {us ws : List IV}, RelL K w xs us → RelL K w ys ws → RelL K w (xs ++ ys) (us ++ ws)
  | _, _, _, _, .nil, s => s
  | _, _, _, _, .cons r t, s => .cons r (RelL.append t s)
theorem RelL.take : ∀ {xs : List V} {us : List IV} (n : Nat), RelL K w xs us → RelL K w (xs.take n) (us.take n)
  | _, _, 0, _ => .nil
  | _, _, _ + 1, .nil => .nil
  | _, _, n + 1, .cons r t => .cons r (RelL.take n t)
theorem RelL.drop : ∀ {xs : List V} {us : List IV} (n : Nat), RelL K w xs us → RelL K w (xs.drop n) (us.drop n)
  | _, _, 0, r => r
  | _, _, _ + 1, .nil => .nil
  | _, _, n + 1, .cons _ t => RelL.drop n t
theorem RelL.set {x : V} {u : IV} (r : Rel K w x u) : ∀ {xs : List V} {us : List IV} (i : Nat), RelL K w xs us → RelL K w (xs.set i x) (us.set i u)
  | _, _, _, .nil => .nil
  | _, _, 0, .cons _ t => .cons r t
  | _, _, i + 1, .cons q t => .cons q (RelL.set r i t)
theorem RelL.one {x : V} {u : IV} (r : Rel K w x u) : RelL K w [x] [u] := .cons r .nil
end
def RelKV {κ : Type} (K : KX) (w : Wd) : List (κ × V) → List (κ × IV) → Prop := Paired fun (p : κ × V) (q : κ × IV) => p.1 = q.1 ∧ Rel K w p.2 q.2
theorem RelKV.mono {κ : Type} {K : KX} {w w' : Wd} (l : w.lr w') {a : List (κ × V)} {b : List (κ × IV)} (h : RelKV K w a b) : RelKV K w' a b :=
  Paired.mapP h fun _ _ z => ⟨z.1, Rel.mono l _ _ z.2⟩
def CellOk (K : KX) (w : Wd) (H : Hp) (a : Addr) : Cell → Prop
  | .lst ivs => ∃ xs, H a = some (.lst xs) ∧ RelL K w xs ivs
  | .dic kvs => ∃ ps, H a = some (.dK ps) ∧ RelKV K w ps kvs
  | .dicL kvs => ∃ o ps, w.G a = some (.frz o (.dK ps)) ∧ H a = some (.frz o (.dK ps)) ∧ RelKV K w ps kvs
  | .ins C fs => ∃ (Ca : Addr) (dx : Addr) (ps : List (Str × V)), K.mg C = some (.ref Ca) ∧ H a = some (.ins Ca dx ps) ∧ RelKV K w ps fs
  | .xd fs => ∃ ps, H a = some (.xd ps) ∧ RelKV K w ps fs
theorem CellOk.mono {K : KX} {w w' : Wd} {H H' : Hp} {a : Addr} {c : Cell} (h : CellOk K w H a c) (l : w.lr w') (e : H' a = H a) (g : ∀ o, w.G a = some o → w'.G a = some o) : CellOk K w' H' a c := by
  cases c with
  | lst ivs => obtain ⟨xs, h1, h2⟩ := h; exact ⟨xs, e.trans h1, RelL.mono l _ _ h2⟩
  | dic ivs => obtain ⟨xs, h1, h2⟩ := h; exact ⟨xs, e.trans h1, h2.mono l⟩
  | dicL ivs => obtain ⟨o, xs, h0, h1, h2⟩ := h; exact ⟨o, xs, g _ h0, e.trans h1, h2.mono l⟩
  | ins C ivs => obtain ⟨Ca, dx, xs, h0, h1, h2⟩ := h; exact ⟨Ca, dx, xs, h0, e.trans h1, h2.mono l⟩
  | xd ivs => obtain ⟨xs, h1, h2⟩ := h; exact ⟨xs, e.trans h1, h2.mono l⟩
theorem CellOk.some {K : KX} {w : Wd} {H : Hp} {a : Addr} {c : Cell} (h : CellOk K w H a c) : ∃ o, H a = some o := by
  cases c with
  | lst ivs => obtain ⟨xs, h1, h2⟩ := h; exact ⟨_, h1⟩
  | dic ivs => obtain ⟨xs, h1, h2⟩ := h; exact ⟨_, h1⟩
  | dicL ivs => obtain ⟨o, xs, h0, h1, h2⟩ := h; exact ⟨_, h1⟩
  | ins C ivs => obtain ⟨Ca, dx, xs, h0, h1, h2⟩ := h; exact ⟨_, h1⟩
  | xd ivs => obtain ⟨xs, h1, h2⟩ := h; exact ⟨_, h1⟩
section
variable {K K' : KX} {w : Wd}
mutual
theorem Rel.cx (hk : K.k = K'.k) : ∀ (iv : IV) (v : V), Rel K w v iv → Rel K' w v iv
  | .non, _, h => by cases h; exact .non
  | .bl b, _, h => by cases h; exact .bl b
  | .int b, _, h => by cases h; exact .int b
  | .str b, _, h => by cases h; exact .str b
  | .adr n, _, h => by
    cases h with
    | adr e => exact .adr e
  | .lst ivs, _, h => by
    cases h with
    | lst e r => exact .lst e (RelL.cx hk ivs _ r)
  | .wls ivs, _, h => by
    cases h with
    | wls e r => exact .wls (hk ▸ e) (RelL.cx hk ivs _ r)
  | .tup ivs, _, h => by
    cases h with
    | tup e r => exact .tup (hk ▸ e) (RelL.cx hk ivs _ r)
  | .ref a, _, h => by cases h; exact .ref a
  | .ty n, _, h => by cases h; exact .ty n
theorem RelL.cx (hk : K.k = K'.k) : ∀ (ivs : List IV) (vs : List V), RelL K w vs ivs → RelL K' w vs ivs
  | [], _, h => by cases h; exact .nil
  | iv :: ivs, _, h => by
    cases h with
    | cons a b => exact .cons (Rel.cx hk iv _ a) (RelL.cx hk ivs _ b)
end
theorem RelKV.cx {κ : Type} (hk : K.k = K'.k) {a : List (κ × V)} {b : List (κ × IV)} (h : RelKV K w a b) : RelKV K' w a b :=
  Paired.mapP h fun _ _ z => ⟨z.1, Rel.cx hk _ _ z.2⟩
theorem CellOk.cx (hk : K.k = K'.k) (hm : K.mg = K'.mg) {H : Hp} {a : Addr} {c : Cell} (h : CellOk K w H a c) : CellOk K' w H a c := by
  cases c with
  | lst ivs => obtain ⟨xs, h1, h2⟩ := h; exact ⟨xs, h1, RelL.cx hk _ _ h2⟩
  | dic ivs => obtain ⟨xs, h1, h2⟩ := h; exact ⟨xs, h1, h2.cx hk⟩
  | dicL ivs => obtain ⟨o, xs, h0, h1, h2⟩ := h; exact ⟨o, xs, h0, h1, h2.cx hk⟩
  | ins C ivs => obtain ⟨Ca, dx, xs, h0, h1, h2⟩ := h; exact ⟨Ca, dx, xs, hm ▸ h0, h1, h2.cx hk⟩
  | xd ivs => obtain ⟨xs, h1, h2⟩ := h; exact ⟨xs, h1, h2.cx hk⟩
end
structure R (K : KX) (w : Wd) (S : Sto) (H : Hp) : Prop where
  len : w.rho.length = S.length
  nd : w.rho.Nodup
  cell : ∀ (n : Nat) (c : Cell) (a : Addr), S[n]? = some c → w.rho[n]? = some a → CellOk K w H a c
  own : ∀ (n : Nat) (a : Addr), w.rho[n]? = some a → w.F a = none ∧ (w.G a = none ∨ ∃ kvs, S[n]? = some (.dicL kvs))
  F : Same w.F H
  G : Same w.G H
  dis : ∀ (a : Addr) (o : HO), w.G a = some o → w.F a = none
theorem R.cx {K K' : KX} {w : Wd} {S : Sto} {H : Hp} (r : R K w S H) (hk : K.k = K'.k) (hm : K.mg = K'.mg) : R K' w S H :=
  ⟨r.len, r.nd, fun n c a h1 h2 => (r.cell n c a h1 h2).cx hk hm, r.own, r.F, r.G, r.dis⟩
section
variable {K : KX} {w : Wd} {S : Sto} {H : Hp}
theorem R.there (r : R K w S H) {n : Nat} {a : Addr} (h : w.rho[n]? = some a) : ∃ c, S[n]? = some c ∧ CellOk K w H a c := by
  have := (List.getElem?_eq_some_iff.mp h).1
  have e := List.getElem?_eq_getElem (l := S) (i := n) (by rw [← r.len]; exact this)
  exact ⟨_, e, r.cell n _ a e h⟩
theorem R.ne_new (r : R K w S H) {n : Nat} {a p : Addr} (h : w.rho[n]? = some a) (hp : H p = none) : a ≠ p := by
  obtain ⟨c, _, h2⟩ := r.there h
  obtain ⟨o, h3⟩ := h2.some
  exact ne_of_none h3 hp
theorem R.alloc (r : R K w S H) {p : Addr} {o : HO} {c : Cell} (hp : H p = none) (hc : ∀ w', w.le w' → CellOk K w' (upd H p o) p c) : w.le ⟨w.rho ++ [p], w.F, w.G⟩ ∧ R K ⟨w.rho ++ [p], w.F, w.G⟩ (S ++ [c]) (upd H p o) := by
  have l : w.le ⟨w.rho ++ [p], w.F, w.G⟩ := ⟨⟨⟨[p], rfl⟩, Same.refl _⟩, rfl⟩
  have key : ∀ {n : Nat} {a : Addr}, (w.rho ++ [p])[n]? = some a → (w.rho[n]? = some a ∧ n < w.rho.length) ∨ (n = w.rho.length ∧ a = p) := fun {n a} h => by
    by_cases hn : n < w.rho.length
    · rw [List.getElem?_append_left hn] at h; exact .inl ⟨h, hn⟩
    · have hlt := (List.getElem?_eq_some_iff.mp h).1
      rw [List.length_append, List.length_singleton] at hlt
      have e : n = w.rho.length := by omega
      subst e
      rw [List.getElem?_append_right (Nat.le_refl _), Nat.sub_self] at h
      exact .inr ⟨rfl, (Option.some.inj h).symm⟩
  refine ⟨l, ?_, ?_, fun n c' a h1 h2 => ?_, fun n a h => ?_, fun b u e => ?_, fun b u e => ?_, r.dis⟩
  · show (w.rho ++ [p]).length = (S ++ [c]).length
    rw [List.length_append, List.length_append, r.len]
    rfl
  · show (w.rho ++ [p]).Nodup
    rw [List.nodup_append]
    refine ⟨r.nd, by simp, fun a ha b hb => ?_⟩
    obtain ⟨n, h⟩ := List.getElem?_of_mem ha
    have : b = p := by simpa using hb
    rw [this]
    exact r.ne_new h hp
  · rcases key h2 with ⟨h, hn⟩ | ⟨h, e⟩
    · rw [List.getElem?_append_left (by rw [← r.len]; exact hn)] at h1
      exact (r.cell n c' a h1 h).mono l.1 (upd_ne (r.ne_new h hp)) fun _ z => z
    · subst e
      rw [h, r.len, List.getElem?_append_right (Nat.le_refl _), Nat.sub_self] at h1
      have : c = c' := Option.some.inj h1
      rw [← this]
      exact hc _ l
  · rcases key h with ⟨h, hn⟩ | ⟨h, e⟩
    · obtain ⟨g1, g2⟩ := r.own n a h
      refine ⟨g1, g2.imp id fun ⟨kvs, z⟩ => ⟨kvs, ?_⟩⟩
      rw [List.getElem?_append_left (List.getElem?_eq_some_iff.mp z).1]
      exact z
    · subst e
      constructor
      · cases q : w.F a with
        | none => rfl
        | some u => rw [r.F _ _ q] at hp; cases hp
      · left
        cases q : w.G a with
        | none => rfl
        | some u => rw [r.G _ _ q] at hp; cases hp
  · have := r.F _ _ e
    rw [upd_ne (ne_of_none this hp)]; exact this
  · have := r.G _ _ e
    rw [upd_ne (ne_of_none this hp)]; exact this
theorem R.frz (r : R K w S H) {p : Addr} {o : HO} (hp : H p = none) : w.le ⟨w.rho, upd w.F p o, w.G⟩ ∧ R K ⟨w.rho, upd w.F p o, w.G⟩ S (upd H p o) := by
  have nF : w.F p = none := by
    cases q : w.F p with
    | none => rfl
    | some u => rw [r.F _ _ q] at hp; cases hp
  have l : w.le ⟨w.rho, upd w.F p o, w.G⟩ := ⟨⟨⟨[], by simp⟩, fun b u e => by
    show upd w.F p o b = some u
    rw [upd_ne (ne_of_none e nF)]; exact e⟩, rfl⟩
  refine ⟨l, r.len, r.nd, fun n c a h1 h2 => (r.cell n c a h1 h2).mono l.1 (upd_ne (r.ne_new h2 hp)) (fun _ z => z), fun n a h => ⟨?_, (r.own n a h).2⟩, fun b u e => ?_, fun b u e => ?_, fun b u e => ?_⟩
  · show upd w.F p o a = none
    rw [upd_ne (r.ne_new h hp)]; exact (r.own n a h).1
  · have e : upd w.F p o b = some u := e
    by_cases hb : b = p
    · subst hb; rw [upd_same] at e; rw [upd_same]; exact e
    · rw [upd_ne hb] at e; rw [upd_ne hb]; exact r.F _ _ e
  · have := r.G _ _ e
    rw [upd_ne (ne_of_none this hp)]; exact this
  · show upd w.F p o b = none
    rw [upd_ne (ne_of_none (r.G _ _ e) hp)]; exact r.dis _ _ e
theorem R.write (r : R K w S H) {n : Nat} {a : Addr} {o : HO} {c : Cell} (h : w.rho[n]? = some a) (hc : CellOk K w (upd H a o) a c) (hnl : ∀ kvs, S[n]? ≠ some (.dicL kvs)) : R K w (S.set n c) (upd H a o) := by
  have hG : w.G a = none := (r.own n a h).2.elim id fun ⟨kvs, z⟩ => absurd z (hnl kvs)
  refine ⟨by rw [List.length_set]; exact r.len, r.nd, fun m c' b h1 h2 => ?_, fun m b hm => ?_, fun b u e => ?_, fun b u e => ?_, r.dis⟩
  · by_cases hm : m = n
    · subst hm
      rw [h] at h2; cases h2
      have hlt : m < S.length := by rw [← r.len]; exact (List.getElem?_eq_some_iff.mp h).1
      rw [List.getElem?_set_self hlt] at h1
      cases h1
      exact hc
    · rw [List.getElem?_set_ne (Ne.symm hm)] at h1
      have hb : b ≠ a := fun z => by
        subst z
        obtain ⟨i1, e1⟩ := List.getElem?_eq_some_iff.mp h
        obtain ⟨i2, e2⟩ := List.getElem?_eq_some_iff.mp h2
        exact hm ((List.getElem_inj r.nd).mp (e2.trans e1.symm))
      exact (r.cell m c' b h1 h2).mono (Wd.lr.refl w) (upd_ne hb) fun _ z => z
  · refine ⟨(r.own m b hm).1, ?_⟩
    rcases (r.own m b hm).2 with z | ⟨kvs, z⟩
    · exact .inl z
    · refine .inr ⟨kvs, ?_⟩
      by_cases hmn : m = n
      · subst hmn; exact absurd z (hnl kvs)
      · rw [List.getElem?_set_ne (Ne.symm hmn)]; exact z
  · rw [upd_ne (ne_of_none e (r.own n a h).1)]; exact r.F _ _ e
  · rw [upd_ne (ne_of_none e hG)]; exact r.G _ _ e
theorem R.ghost (r : R K w S H) {p : Addr} {o : HO} (hp : H p = none) : R K ⟨w.rho, w.F, upd w.G p o⟩ S (upd H p o) := by
  have nF : w.F p = none := by
    cases q : w.F p with
    | none => rfl
    | some u => rw [r.F _ _ q] at hp; cases hp
  refine ⟨r.len, r.nd, fun n c a h1 h2 => (r.cell n c a h1 h2).mono (Wd.lr.mk ⟨[], by simp⟩ (Same.refl _)) (upd_ne (r.ne_new h2 hp)) (fun o' z => by
    show upd w.G p o a = some o'
    rw [upd_ne (r.ne_new h2 hp)]; exact z), fun n a h => ⟨(r.own n a h).1, (r.own n a h).2.imp (fun z => ?_) id⟩, fun b u e => ?_, fun b u e => ?_, fun b u e => ?_⟩
  · show upd w.G p o a = none
    rw [upd_ne (r.ne_new h hp)]; exact z
  · have := r.F _ _ e
    rw [upd_ne (ne_of_none this hp)]; exact this
  · have e : upd w.G p o b = some u := e
    by_cases hb : b = p
    · subst hb; rw [upd_same] at e; rw [upd_same]; exact e
    · rw [upd_ne hb] at e; rw [upd_ne hb]; exact r.G _ _ e
  · have e : upd w.G p o b = some u := e
    by_cases hb : b = p
    · subst hb; exact nF
    · rw [upd_ne hb] at e; exact r.dis _ _ e
theorem R.ghostW {rho : List Addr} {F G : Hp} {p : Addr} {o o' : HO} (ho : ∀ u v, o ≠ .frz u v) (r : R K ⟨rho, F, upd G p o⟩ S H) : R K ⟨rho, F, upd G p o'⟩ S (upd H p o') := by
  have hF : F p = none := r.dis p o upd_same
  have hrho : ∀ n a, rho[n]? = some a → a ≠ p := fun n a h z => by
    subst z
    rcases (r.own n a h).2 with t | ⟨kvs, t⟩
    · have t : upd G a o a = none := t
      rw [upd_same] at t
      cases t
    · obtain ⟨o1, ps, h1, _⟩ := r.cell n _ a t h
      have h1 : upd G a o a = _ := h1
      rw [upd_same] at h1
      exact ho _ _ (Option.some.inj h1)
  refine ⟨r.len, r.nd, fun n c a h1 h2 => (r.cell n c a h1 h2).mono (Wd.lr.mk ⟨[], by simp⟩ (Same.refl _)) (upd_ne (hrho n a h2)) (fun o1 z => by
    have z : upd G p o a = some o1 := z
    show upd G p o' a = some o1
    rw [upd_ne (hrho n a h2)] at z ⊢; exact z), fun n a h => ⟨(r.own n a h).1, (r.own n a h).2.imp (fun z => ?_) id⟩, fun b u e => ?_, fun b u e => ?_, fun b u e => ?_⟩
  · show upd G p o' a = none
    rw [upd_ne (hrho n a h)]
    have t : upd G p o a = none := z
    rw [upd_ne (hrho n a h)] at t; exact t
  · have e : F b = some u := e
    rw [upd_ne (ne_of_none e hF)]; exact r.F _ _ e
  · have e : upd G p o' b = some u := e
    by_cases hb : b = p
    · subst hb; rw [upd_same] at e; rw [upd_same]; exact e
    · rw [upd_ne hb] at e; rw [upd_ne hb]; exact r.G b u (by show upd G p o b = some u; rw [upd_ne hb]; exact e)
  · have e : upd G p o' b = some u := e
    by_cases hb : b = p
    · subst hb; exact hF
    · rw [upd_ne hb] at e; exact r.dis b u (by show upd G p o b = some u; rw [upd_ne hb]; exact e)
theorem R.ghostF {rho : List Addr} {F G : Hp} {p : Addr} {o : HO} (ho : ∀ u v, o ≠ .frz u v) (r : R K ⟨rho, F, upd G p o⟩ S H) (hG : G p = none) : R K ⟨rho, upd F p o, G⟩ S H := by
  have hF : F p = none := r.dis p o upd_same
  have hrho : ∀ n a, rho[n]? = some a → a ≠ p := fun n a h z => by
    subst z
    rcases (r.own n a h).2 with t | ⟨kvs, t⟩
    · have t : upd G a o a = none := t
      rw [upd_same] at t
      cases t
    · obtain ⟨o1, ps, h1, _⟩ := r.cell n _ a t h
      have h1 : upd G a o a = _ := h1
      rw [upd_same] at h1
      exact ho _ _ (Option.some.inj h1)
  refine ⟨r.len, r.nd, fun n c a h1 h2 => (r.cell n c a h1 h2).mono ⟨⟨[], by simp⟩, fun b u e => ?_⟩ rfl (fun o1 z => by
    have z : upd G p o a = some o1 := z
    rw [upd_ne (hrho n a h2)] at z; exact z), fun n a h => ⟨?_, (r.own n a h).2.imp (fun z => ?_) id⟩, fun b u e => ?_, fun b u e => ?_, fun b u e => ?_⟩
  · have e : F b = some u := e
    show upd F p o b = some u
    rw [upd_ne (ne_of_none e hF)]; exact e
  · show upd F p o a = none
    rw [upd_ne (hrho n a h)]; exact (r.own n a h).1
  · have t : upd G p o a = none := z
    rw [upd_ne (hrho n a h)] at t; exact t
  · have e : upd F p o b = some u := e
    by_cases hb : b = p
    · subst hb; rw [upd_same] at e; exact r.G b u (by show upd G b o b = some u; rw [upd_same]; exact e)
    · rw [upd_ne hb] at e; exact r.F _ _ e
  · have e : G b = some u := e
    exact r.G b u (by show upd G p o b = some u; rw [upd_ne (ne_of_none e hG)]; exact e)
  · have e : G b = some u := e
    show upd F p o b = none
    rw [upd_ne (ne_of_none e hG)]
    exact r.dis b u (by show upd G p o b = some u; rw [upd_ne (ne_of_none e hG)]; exact e)
theorem R.ghostC {rho : List Addr} {F G : Hp} {p : Addr} {o : HO} {c : Cell} (ho : ∀ u v, o ≠ .frz u v) (r : R K ⟨rho, F, upd G p o⟩ S H) (hG : G p = none) (hc : ∀ w', Wd.lr ⟨rho, F, upd G p o⟩ w' → CellOk K w' H p c) : R K ⟨rho ++ [p], F, G⟩ (S ++ [c]) H := by
  have hF : F p = none := r.dis p o upd_same
  have hrho : ∀ n a, rho[n]? = some a → a ≠ p := fun n a h z => by
    subst z
    rcases (r.own n a h).2 with t | ⟨kvs, t⟩
    · have t : upd G a o a = none := t
      rw [upd_same] at t
      cases t
    · obtain ⟨o1, ps, h1, _⟩ := r.cell n _ a t h
      have h1 : upd G a o a = _ := h1
      rw [upd_same] at h1
      exact ho _ _ (Option.some.inj h1)
  have hlen : rho.length = S.length := r.len
  have l : Wd.lr ⟨rho, F, upd G p o⟩ ⟨rho ++ [p], F, G⟩ := ⟨⟨[p], rfl⟩, Same.refl _⟩
  have key : ∀ {n : Nat} {a : Addr}, (rho ++ [p])[n]? = some a → (rho[n]? = some a ∧ n < rho.length) ∨ (n = rho.length ∧ a = p) := fun {n a} h => by
    by_cases hn : n < rho.length
    · rw [List.getElem?_append_left hn] at h; exact .inl ⟨h, hn⟩
    · have hlt := (List.getElem?_eq_some_iff.mp h).1
      rw [List.length_append, List.length_singleton] at hlt
      have e : n = rho.length := by omega
      subst e
      rw [List.getElem?_append_right (Nat.le_refl _), Nat.sub_self] at h
      exact .inr ⟨rfl, (Option.some.inj h).symm⟩
  refine ⟨?_, ?_, fun n c' a h1 h2 => ?_, fun n a h => ?_, r.F, fun b u e => ?_, fun b u e => ?_⟩
  · show (rho ++ [p]).length = (S ++ [c]).length
    rw [List.length_append, List.length_append, hlen]
    rfl
  · show (rho ++ [p]).Nodup
    rw [List.nodup_append]
    refine ⟨r.nd, by simp, fun a ha b hb => ?_⟩
    obtain ⟨n, h⟩ := List.getElem?_of_mem ha
    have : b = p := by simpa using hb
    rw [this]
    exact hrho n a h
  · rcases key h2 with ⟨h, hn⟩ | ⟨h, e⟩
    · rw [List.getElem?_append_left (by rw [← hlen]; exact hn)] at h1
      exact (r.cell n c' a h1 h).mono l rfl fun o1 z => by
        have z : upd G p o a = some o1 := z
        rw [upd_ne (hrho n a h)] at z; exact z
    · subst e
      rw [h, hlen, List.getElem?_append_right (Nat.le_refl _), Nat.sub_self] at h1
      have : c = c' := Option.some.inj h1
      rw [← this]
      exact hc _ l
  · rcases key h with ⟨h, hn⟩ | ⟨h, e⟩
    · refine ⟨(r.own n a h).1, (r.own n a h).2.imp (fun z => ?_) fun ⟨kvs, z⟩ => ⟨kvs, ?_⟩⟩
      · have t : upd G p o a = none := z
        rw [upd_ne (hrho n a h)] at t; exact t
      · rw [List.getElem?_append_left (List.getElem?_eq_some_iff.mp z).1]; exact z
    · subst e
      exact ⟨hF, .inl hG⟩
  · have e : G b = some u := e
    exact r.G b u (by show upd G p o b = some u; rw [upd_ne (ne_of_none e hG)]; exact e)
  · have e : G b = some u := e
    exact r.dis b u (by show upd G p o b = some u; rw [upd_ne (ne_of_none e hG)]; exact e)
end
structure SR (K : KX) (w : Wd) (σ : L2.St) (Λ : Slots) : Prop where
  len : σ.length = Λ.length
  get : ∀ (i : Nat) (iv : IV), Λ[i]? = some (some iv) → ∃ v, σ[i]? = some (some v) ∧ Rel K w v iv
  ex : ∀ (i n : Nat) (a d : Addr), K.ex = some (i, n, a, d) → Λ[i]? = some none → σ[i]? = some (some (.ref a)) ∧ w.rho[n]? = some d
theorem SR.mono {K : KX} {w w' : Wd} {σ : L2.St} {Λ : Slots} (h : SR K w σ Λ) (l : w.lr w') : SR K w' σ Λ :=
  ⟨h.len, fun i iv e => let ⟨v, h1, h2⟩ := h.get i iv e; ⟨v, h1, Rel.mono l _ _ h2⟩, fun i n a d e1 e2 => ⟨(h.ex i n a d e1 e2).1, l.get (h.ex i n a d e1 e2).2⟩⟩
theorem SR.up {K : KX} {w w' : Wd} {σ : L2.St} {Λ : Slots} (h : SR K w σ Λ) (l : w.le w') : SR K w' σ Λ := h.mono l.1
theorem SR.set {K : KX} {w : Wd} {σ : L2.St} {Λ : Slots} (h : SR K w σ Λ) (i : Nat) {v : V} {iv : IV} (r : Rel K w v iv) : SR K w (σ.set i (some v)) (Λ.set i (some iv)) := by
  refine ⟨by rw [List.length_set, List.length_set]; exact h.len, fun j jv e => ?_, fun j n a d e1 e2 => ?_⟩
  · by_cases hj : j = i
    · subst hj
      have hlt : j < Λ.length := by have := (List.getElem?_eq_some_iff.mp e).1; rwa [List.length_set] at this
      rw [List.getElem?_set_self hlt] at e
      have : iv = jv := Option.some.inj (Option.some.inj e)
      rw [← this]
      exact ⟨v, by rw [List.getElem?_set_self (by rw [h.len]; exact hlt)], r⟩
    · rw [List.getElem?_set_ne (Ne.symm hj)] at e
      rw [List.getElem?_set_ne (Ne.symm hj)]
      exact h.get j jv e
  · by_cases hj : j = i
    · subst hj
      have hlt : j < Λ.length := by have := (List.getElem?_eq_some_iff.mp e2).1; rwa [List.length_set] at this
      rw [List.getElem?_set_self hlt] at e2
      cases e2
    · rw [List.getElem?_set_ne (Ne.symm hj)] at e2
      rw [List.getElem?_set_ne (Ne.symm hj)]
      exact h.ex j n a d e1 e2
theorem SR.setN {K : KX} {w : Wd} {σ : L2.St} {Λ : Slots} (h : SR K w σ Λ) (i : Nat) (u : Option V) (hx : exOff K.ex [i] = true) : SR K w (σ.set i u) (Λ.set i none) := by
  refine ⟨by rw [List.length_set, List.length_set]; exact h.len, fun j jv e => ?_, fun j n a d e1 e2 => ?_⟩
  · by_cases hj : j = i
    · subst hj
      have hlt : j < Λ.length := by have := (List.getElem?_eq_some_iff.mp e).1; rwa [List.length_set] at this
      rw [List.getElem?_set_self hlt] at e
      cases e
    · rw [List.getElem?_set_ne (Ne.symm hj)] at e
      rw [List.getElem?_set_ne (Ne.symm hj)]
      exact h.get j jv e
  · have hj : j ≠ i := fun z => by
      rw [e1, z] at hx
      simp [exOff] at hx
    rw [List.getElem?_set_ne (Ne.symm hj)] at e2
    rw [List.getElem?_set_ne (Ne.symm hj)]
    exact h.ex j n a d e1 e2
def Post {α : Type} (K : KX) (W : WX) (w : Wd) (o : Out α) (P : Wd → Hp → Sto → α → Prop) : Prop :=
  match o with
  | .ok a S' => ∀ w' H', w.le w' → R K w' S' H' → P w' H' S' a
  | .exc C n L S' => ∀ w' H' a σ', w.le w' → R K w' S' H' → SR K w' σ' L → w'.rho[n]? = some a → W (clsV K.mg C) (some a) σ' H'
  | .bad => False
section
variable {K : KX} {W : WX} {w : Wd} {α β : Type}
theorem Post.bind {o : Out α} {k : α → Sto → Out β} {P : Wd → Hp → Sto → β → Prop} (h : Post K W w (o.bind k) P) : Post K W w o fun w' H' S' a => Post K W w' (k a S') P := by
  cases o with
  | ok a S' =>
    intro w' H' l r
    have h : Post K W w (k a S') P := h
    show Post K W w' (k a S') P
    cases e : k a S' with
    | ok b S2 =>
      rw [e] at h
      exact fun w2 H2 l2 r2 => h w2 H2 (l.trans l2) r2
    | exc C n L S2 =>
      rw [e] at h
      exact fun w2 H2 a2 σ2 l2 r2 s2 g => h w2 H2 a2 σ2 (l.trans l2) r2 s2 g
    | bad =>
      rw [e] at h
      exact h
  | exc C n L S' => exact h
  | bad => exact h
theorem Post.imp {o : Out α} {P P' : Wd → Hp → Sto → α → Prop} (h : Post K W w o P) (f : ∀ w' H' S' a, w.le w' → R K w' S' H' → P w' H' S' a → P' w' H' S' a) : Post K W w o P' := by
  cases o with
  | ok a S' => exact fun w' H' l r => f w' H' S' a l r (h w' H' l r)
  | exc C n L S' => exact h
  | bad => exact h
theorem Post.now {a : α} {S : Sto} {H : Hp} {P : Wd → Hp → Sto → α → Prop} (h : Post K W w (.ok a S) P) (r : R K w S H) : P w H S a := h w H (Wd.le.refl w) r
theorem Post.ok {a : α} {S : Sto} {H : Hp} {w' : Wd} {P : Wd → Hp → Sto → α → Prop} (h : Post K W w (.ok a S) P) (l : w.le w') (r : R K w' S H) : P w' H S a := h w' H l r
end
abbrev IE := Slots → Sto → Out IV
abbrev IT := Slots → Sto → Out Bool
abbrev IA := Slots → Sto → Out (List IV)
inductive Fl where
  | nx (L : Slots) | rt (v : IV) | bk (L : Slots) | ct (L : Slots)
abbrev IS := Slots → Sto → Out Fl
abbrev IG := IV → Slots → Sto → Out Slots
def eM (K : KX) (W : WX) (m : IE) : TE := fun σ H Q => ∃ w S Λ, R K w S H ∧ SR K w σ Λ ∧ Post K W w (m Λ S) fun w' H' _ iv => ∀ v, Rel K w' v iv → Q v H'
def tM (K : KX) (W : WX) (m : IT) : TT := fun σ H Q => ∃ w S Λ, R K w S H ∧ SR K w σ Λ ∧ Post K W w (m Λ S) fun _ H' _ b => Q b H'
def aM (K : KX) (W : WX) (m : IA) : TA := fun σ H Q => ∃ w S Λ, R K w S H ∧ SR K w σ Λ ∧ Post K W w (m Λ S) fun w' H' _ ivs => ∀ vs, RelL K w' vs ivs → Q vs H'
def FlP (K : KX) (w : Wd) (D : Ends) (H : Hp) : Fl → Prop
  | .nx L => ∀ σ, SR K w σ L → D.nx σ H
  | .rt iv => ∀ v, Rel K w v iv → D.rt v H
  | .bk L => ∀ σ, SR K w σ L → D.bk σ H
  | .ct L => ∀ σ, SR K w σ L → D.ct σ H
def sM (K : KX) (W : WX) (m : IS) : TS := fun D σ H => ∃ w S Λ, R K w S H ∧ SR K w σ Λ ∧ Post K W w (m Λ S) fun w' H' _ fl => FlP K w' D H' fl
def gM (K : KX) (W : WX) (m : IG) : TG := fun v σ H Q => ∃ w S Λ iv, R K w S H ∧ SR K w σ Λ ∧ Rel K w v iv ∧ Post K W w (m iv Λ S) fun w' H' _ L => ∀ σ', SR K w' σ' L → Q σ' H'
theorem _root_.L2.PE.imp {X : Cx} {e : Expr} {t t' : TE} (h : PE X e t) (f : ∀ σ H Q, t' σ H Q → t σ H Q) : PE X e t' := ⟨fun pins s σ H Q I q => h.run pins s σ H Q I (f σ H Q q)⟩
theorem _root_.L2.PT.imp {X : Cx} {e : Expr} {t t' : TT} (h : PT X e t) (f : ∀ σ H Q, t' σ H Q → t σ H Q) : PT X e t' := ⟨fun pins s σ H Q I q => h.run pins s σ H Q I (f σ H Q q)⟩
theorem _root_.L2.PW.imp {X : Cx} {e : Expr} {t t' : TT} (h : PW X e t) (f : ∀ σ H Q, t' σ H Q → t σ H Q) : PW X e t' := ⟨fun wh pins s σ H Q I q => h.run wh pins s σ H Q I (f σ H Q q)⟩
theorem _root_.L2.PA.imp {X : Cx} {e : List Expr} {t t' : TA} (h : PA X e t) (f : ∀ σ H Q, t' σ H Q → t σ H Q) : PA X e t' := ⟨fun p pins s σ H Q I q => h.run p pins s σ H Q I (f σ H Q q)⟩
theorem _root_.L2.PS.imp {X : Cx} {e : Stmt} {t t' : TS} (h : PS X e t) (f : ∀ D σ H, t' D σ H → t D σ H) : PS X e t' := ⟨fun pins s σ H D I q => h.run pins s σ H D I (f D σ H q)⟩
theorem _root_.L2.PSs.imp {X : Cx} {e : List Stmt} {t t' : TS} (h : PSs X e t) (f : ∀ D σ H, t' D σ H → t D σ H) : PSs X e t' := ⟨fun pins s σ H D I q => h.run pins s σ H D I (f D σ H q)⟩
theorem _root_.L2.PG.imp {X : Cx} {e : Expr} {t t' : TG} (h : PG X e t) (f : ∀ v σ H Q, t' v σ H Q → t v σ H Q) : PG X e t' := ⟨fun pins s σ H v u Q I r q => h.run pins s σ H v u Q I r (f v σ H Q q)⟩
theorem _root_.L2.PTs.imp {X : Cx} {e : List Expr} {t t' : TT} (h : PTs X e t) (f : ∀ σ H Q, t' σ H Q → t σ H Q) : PTs X e t' := ⟨fun pins s σ H Q I q => h.run pins s σ H Q I (f σ H Q q)⟩
def chk {α : Type} (p : Prop) [Decidable p] (o : Out α) : Out α := if p then o else .bad
theorem chk_pos {α : Type} {p : Prop} [Decidable p] {o : Out α} (h : p) : chk p o = o := if_pos h
theorem chk_neg {α : Type} {p : Prop} [Decidable p] {o : Out α} (h : ¬ p) : chk p o = .bad := if_neg h
theorem chk_post {α : Type} {K : KX} {W : WX} {w : Wd} {p : Prop} [Decidable p] {o : Out α} {P : Wd → Hp → Sto → α → Prop} (h : Post K W w (chk p o) P) : p ∧ Post K W w o P := by
  by_cases hp : p
  · rw [chk_pos hp] at h; exact ⟨hp, h⟩
  · rw [chk_neg hp] at h; exact h.elim
abbrev kx (X : Cx) (W : WZ) : KX := ⟨X.K, X.mg, W.ex⟩
def iVar (i : Nat) : IE := fun Λ S => match Λ[i]? with
  | some (some iv) => .ok iv S
  | _ => .bad
def iC (iv : IV) : IE := fun _ S => .ok iv S
section
variable {X : Cx} {W : WZ} {pos : Pos}
abbrev DE (X : Cx) (W : WZ) (e : Expr) (m : IE) : Prop := PE X e (eM (kx X W) W.x m)
abbrev DT (X : Cx) (W : WZ) (e : Expr) (m : IT) : Prop := PT X e (tM (kx X W) W.x m)
abbrev DW (X : Cx) (W : WZ) (e : Expr) (m : IT) : Prop := PW X e (tM (kx X W) W.x m)
abbrev DA (X : Cx) (W : WZ) (e : List Expr) (m : IA) : Prop := PA X e (aM (kx X W) W.x m)
abbrev DS (X : Cx) (W : WZ) (e : Stmt) (m : IS) : Prop := PS X e (sM (kx X W) W.x m)
abbrev DSs (X : Cx) (W : WZ) (e : List Stmt) (m : IS) : Prop := PSs X e (sM (kx X W) W.x m)
abbrev DG (X : Cx) (W : WZ) (e : Expr) (m : IG) : Prop := PG X e (gM (kx X W) W.x m)
theorem de_var (i : Nat) {x : Str} (hN : X.N[i]? = some x := by rfl) (hv : Vis X.env.scope x := by first | exact Or.inl rfl | exact Or.inr (Or.inl rfl) | exact Or.inr (Or.inr rfl)) (hd : (x == ("__debug__" : Str)) = false := by decide)
    (hcd : (x == ("__classdict__" : Str)) = false := by decide) : DE X W (.Name x pos) (iVar i) :=
  (pe_var hN hv hd hcd).imp fun σ H Q ⟨w, S, Λ, r, s, p⟩ => by
    unfold iVar at p
    split at p
    · rename_i iv e
      obtain ⟨v, h1, h2⟩ := s.get i iv e
      exact ⟨v, h1, p.now r v h2⟩
    · exact p.elim
theorem de_c {e : Expr} {v : V} {iv : IV} (h : PE X e (tC v)) (hr : ∀ w, Rel (kx X W) w v iv) : DE X W e (iC iv) :=
  h.imp fun σ H Q ⟨w, S, Λ, r, s, p⟩ => p.now r v (hr w)
theorem de_int {i j} : DE X W (.Constant (.int i) j pos) (iC (.int i)) := de_c pe_int fun _ => .int i
theorem de_bl {i j} : DE X W (.Constant (.bool i) j pos) (iC (.bl i)) := de_c pe_bl fun _ => .bl i
theorem de_str {i j} : DE X W (.Constant (.str i) j pos) (iC (.str i)) := de_c pe_str fun _ => .str i
theorem de_non {j} : DE X W (.Constant .none j pos) (iC .non) := de_c pe_non fun _ => .non
end
def OpS (K : KX) (W : WX) (r : R2) (f : IV → IV → Sto → Out IV) : Prop := ∀ (w : Wd) (S : Sto) (H : Hp) (x y : V) (ix iy : IV) (Q : VK), R K w S H → Rel K w x ix → Rel K w y iy →
  Post K W w (f ix iy S) (fun w' H' _ iv => ∀ v, Rel K w' v iv → Q v H') → r x y H Q
def UnS (K : KX) (W : WX) (r : V → Hp → VK → Prop) (f : IV → Sto → Out IV) : Prop := ∀ (w : Wd) (S : Sto) (H : Hp) (x : V) (ix : IV) (Q : VK), R K w S H → Rel K w x ix →
  Post K W w (f ix S) (fun w' H' _ iv => ∀ v, Rel K w' v iv → Q v H') → r x H Q
def CaS (K : KX) (W : WX) (r : List V → Hp → VK → Prop) (f : List IV → Sto → Out IV) : Prop := ∀ (w : Wd) (S : Sto) (H : Hp) (xs : List V) (ix : List IV) (Q : VK), R K w S H → RelL K w xs ix →
  Post K W w (f ix S) (fun w' H' _ iv => ∀ v, Rel K w' v iv → Q v H') → r xs H Q
def MtS (K : KX) (W : WX) (r : V → List V → Hp → VK → Prop) (f : IV → List IV → Sto → Out IV) : Prop := ∀ (w : Wd) (S : Sto) (H : Hp) (x : V) (xs : List V) (io : IV) (ix : List IV) (Q : VK), R K w S H → Rel K w x io → RelL K w xs ix →
  Post K W w (f io ix S) (fun w' H' _ iv => ∀ v, Rel K w' v iv → Q v H') → r x xs H Q
def iBin (f : IV → IV → Sto → Out IV) (ma mb : IE) : IE := fun Λ S => (ma Λ S).bind fun x S1 => (mb Λ S1).bind fun y S2 => f x y S2
def iUn (f : IV → Sto → Out IV) (ma : IE) : IE := fun Λ S => (ma Λ S).bind fun x S1 => f x S1
def iNil : IA := fun _ S => .ok [] S
def iCons (ma : IE) (mr : IA) : IA := fun Λ S => (ma Λ S).bind fun x S1 => (mr Λ S1).bind fun xs S2 => .ok (x :: xs) S2
def iCa (f : List IV → Sto → Out IV) (ma : IA) : IE := fun Λ S => (ma Λ S).bind fun x S1 => f x S1
section
variable {K : KX} {W : WX} {σ : L2.St} {H : Hp} {Q : VK}
theorem eM_bin {r : R2} {f : IV → IV → Sto → Out IV} {ma mb : IE} (ho : OpS K W r f) (h : eM K W (iBin f ma mb) σ H Q) : tOp r (eM K W ma) (eM K W mb) σ H Q := by
  obtain ⟨w, S, Λ, r0, s0, p⟩ := h
  exact ⟨w, S, Λ, r0, s0, p.bind.imp fun w1 H1 S1 ix l1 r1 p1 v1 rv1 => ⟨w1, S1, Λ, r1, s0.up l1, p1.bind.imp fun w2 H2 S2 iy l2 r2 p2 v2 rv2 => ho w2 S2 H2 _ _ _ _ _ r2 (rv1.up l2) rv2 p2⟩⟩
theorem eM_un {r : V → Hp → VK → Prop} {f : IV → Sto → Out IV} {ma : IE} (ho : UnS K W r f) (h : eM K W (iUn f ma) σ H Q) : tUn r (eM K W ma) σ H Q := by
  obtain ⟨w, S, Λ, r0, s0, p⟩ := h
  exact ⟨w, S, Λ, r0, s0, p.bind.imp fun w1 H1 S1 ix l1 r1 p1 v1 rv1 => ho w1 S1 H1 _ _ _ r1 rv1 p1⟩
theorem eM_ca {r : List V → Hp → VK → Prop} {f : List IV → Sto → Out IV} {ma : IA} (ho : CaS K W r f) (h : eM K W (iCa f ma) σ H Q) : tCB r (aM K W ma) σ H Q := by
  obtain ⟨w, S, Λ, r0, s0, p⟩ := h
  exact ⟨w, S, Λ, r0, s0, p.bind.imp fun w1 H1 S1 ix l1 r1 p1 v1 rv1 => ho w1 S1 H1 _ _ _ r1 rv1 p1⟩
end
section
variable {X : Cx} {W : WZ} {pos : Pos} {a b c : Expr} {ma mb mc : IE} {e : Expr} {es : List Expr} {me : IE} {mr : IA}
theorem da_nil : DA X W [] iNil := pa_nil.imp fun σ H Q ⟨w, S, Λ, r0, s0, p⟩ => p.now r0 [] .nil
theorem da_cons (ha : DE X W e me) (hr : DA X W es mr) (hs : starEach (e :: es) X.env = (false, eval e X.env) :: starEach es X.env := by rfl) : DA X W (e :: es) (iCons me mr) :=
  (pa_cons ha hr hs).imp fun σ H Q ⟨w, S, Λ, r0, s0, p⟩ => ⟨w, S, Λ, r0, s0, p.bind.imp fun w1 H1 S1 ix l1 r1 p1 v1 rv1 => ⟨w1, S1, Λ, r1, s0.up l1, p1.bind.imp fun w2 H2 S2 iy l2 r2 p2 v2 rv2 => p2.now r2 _ (.cons (rv1.up l2) rv2)⟩⟩
theorem de_bin {op : Operator} {r : R2} {f : IV → IV → Sto → Out IV} (ho : OpR X (binaryOp op) r) (hs : OpS (kx X W) W.x r f) (ha : DE X W a ma) (hb : DE X W b mb) : DE X W (.BinOp a op b pos) (iBin f ma mb) :=
  (pe_op ho ha hb).imp fun _ _ _ h => eM_bin hs h
theorem de_un {op : UnaryOp} {r : V → Hp → VK → Prop} {f : IV → Sto → Out IV} (ho : UnR X (unaryOp op) r) (hs : UnS (kx X W) W.x r f) (ha : DE X W a ma) : DE X W (.UnaryOp op a pos) (iUn f ma) :=
  (pe_un ho ha).imp fun _ _ _ h => eM_un hs h
theorem de_cmp {op : CmpOp} {r : R2} {f : IV → IV → Sto → Out IV} (ho : OpR X (compareOp op) r) (hs : OpS (kx X W) W.x r f) (ha : DE X W a ma) (hb : DE X W b mb) (hm : behindInMarks op b = false := by first | exact nomark _ | rfl) : DE X W (.Compare a [op] [b] pos) (iBin f ma mb) :=
  (pe_cmpR ho ha hb hm).imp fun _ _ _ h => eM_bin hs h
def asB {α : Type} (x : IV) (k : Bool → Out α) : Out α := match x with
  | .bl b => k b
  | _ => .bad
def iTest (m : IE) : IT := fun Λ S => (m Λ S).bind fun x S1 => asB x fun b => .ok b S1
theorem asB_post {α : Type} {K : KX} {W : WX} {w : Wd} {x : IV} {v : V} {k : Bool → Out α} {P : Wd → Hp → Sto → α → Prop} (h : Post K W w (asB x k) P) (r : Rel K w v x) : ∃ b, x = .bl b ∧ v = .bl b ∧ Post K W w (k b) P := by
  unfold asB at h
  split at h
  · rename_i b
    cases r
    exact ⟨_, rfl, rfl, h⟩
  · exact h.elim
theorem dt_cmp {op : CmpOp} {r : R2} {f : IV → IV → Sto → Out IV} (ho : OpR X (compareOp op) r) (hs : OpS (kx X W) W.x r f) (ha : DE X W a ma) (hb : DE X W b mb) (hm : behindInMarks op b = false := by first | exact nomark _ | rfl) : DT X W (.Compare a [op] [b] pos) (iTest (iBin f ma mb)) :=
  (pt_cmpR ho ha hb hm).imp fun σ H Q ⟨w, S, Λ, r0, s0, p⟩ => eM_bin hs ⟨w, S, Λ, r0, s0, p.bind.imp fun w1 H1 S1 ix l1 r1 p1 v1 rv1 => by
    obtain ⟨b, rfl, rfl, q⟩ := asB_post p1 rv1
    exact ⟨b, rfl, q.now r1⟩⟩
def iChain (f g : IV → IV → Sto → Out IV) (ma mb mc : IE) : IE := fun Λ S => (ma Λ S).bind fun x S1 => (mb Λ S1).bind fun y S2 => (f x y S2).bind fun z S3 => asB z fun k => if k = true then (mc Λ S3).bind fun u S4 => g y u S4 else .ok (.bl false) S3
theorem eM_chain {K : KX} {W : WX} {σ : L2.St} {H : Hp} {Q : VK} {r r' : R2} {f g : IV → IV → Sto → Out IV} {ma mb mc : IE} (ho : OpS K W r f) (ho' : OpS K W r' g) (h : eM K W (iChain f g ma mb mc) σ H Q) : tChain r r' (eM K W ma) (eM K W mb) (eM K W mc) σ H Q := by
  obtain ⟨w, S, Λ, r0, s0, p⟩ := h
  refine ⟨w, S, Λ, r0, s0, p.bind.imp fun w1 H1 S1 ix l1 r1 p1 v1 rv1 => ⟨w1, S1, Λ, r1, s0.up l1, p1.bind.imp fun w2 H2 S2 iy l2 r2 p2 v2 rv2 => ?_⟩⟩
  refine ho w2 S2 H2 _ _ _ _ _ r2 (rv1.up l2) rv2 (p2.bind.imp fun w3 H3 S3 iz l3 r3 p3 v3 rv3 => ?_)
  obtain ⟨k, rfl, rfl, q⟩ := asB_post p3 rv3
  refine ⟨k, rfl, ?_⟩
  cases k with
  | true =>
    rw [if_pos rfl] at q ⊢
    exact ⟨w3, S3, Λ, r3, (s0.up l1).up (l2.trans l3), q.bind.imp fun w4 H4 S4 iu l4 r4 p4 v4 rv4 => ho' w4 S4 H4 _ _ _ _ _ r4 (rv2.up (l3.trans l4)) rv4 p4⟩
  | false =>
    rw [if_neg Bool.false_ne_true] at q ⊢
    exact q.now r3 _ (.bl false)
end
def asI {α : Type} (x : IV) (k : Int → Out α) : Out α := match x with
  | .int b => k b
  | _ => .bad
def asS {α : Type} (x : IV) (k : Str → Out α) : Out α := match x with
  | .str b => k b
  | _ => .bad
def lstOf (S : Sto) : IV → Option (List IV)
  | .lst xs => some xs
  | .wls xs => some xs
  | .adr n => match S[n]? with
    | some (.lst xs) => some xs
    | _ => none
  | _ => none
def lstX (S : Sto) : IV → Option (List IV)
  | .lst xs => some xs
  | .adr n => match S[n]? with
    | some (.lst xs) => some xs
    | _ => none
  | _ => none
def tupOf : IV → Option (List IV)
  | .tup xs => some xs
  | _ => none
section
variable {K : KX} {W : WX} {w : Wd} {S : Sto} {H : Hp} {α : Type} {P : Wd → Hp → Sto → α → Prop}
theorem asI_post {x : IV} {v : V} {k : Int → Out α} (h : Post K W w (asI x k) P) (r : Rel K w v x) : ∃ b, x = .int b ∧ v = .int b ∧ Post K W w (k b) P := by
  unfold asI at h
  split at h
  · rename_i b
    cases r
    exact ⟨_, rfl, rfl, h⟩
  · exact h.elim
theorem asS_post {x : IV} {v : V} {k : Str → Out α} (h : Post K W w (asS x k) P) (r : Rel K w v x) : ∃ b, x = .str b ∧ v = .str b ∧ Post K W w (k b) P := by
  unfold asS at h
  split at h
  · rename_i b
    cases r
    exact ⟨_, rfl, rfl, h⟩
  · exact h.elim
theorem lstOf_sq {iv : IV} {v : V} {ivs : List IV} (e : lstOf S iv = some ivs) (r : R K w S H) (rv : Rel K w v iv) : ∃ a xs, v = .ref a ∧ SqL K.k H a xs ∧ RelL K w xs ivs := by
  cases iv with
  | lst ys =>
    cases e
    cases rv with
    | lst h1 h2 => exact ⟨_, _, rfl, .of (r.F _ _ h1), h2⟩
  | wls ys =>
    cases e
    cases rv with
    | wls h1 h2 => exact ⟨_, _, rfl, r.F.seq h1, h2⟩
  | adr n =>
    cases rv with
    | adr h1 =>
      unfold lstOf at e
      cases q : S[n]? with
      | none => simp only [q] at e; cases e
      | some c =>
        simp only [q] at e
        cases c with
        | lst ys =>
          cases e
          obtain ⟨xs, h2, h3⟩ := r.cell n _ _ q h1
          exact ⟨_, _, rfl, .of h2, h3⟩
        | _ => cases e
  | _ => cases e
theorem lstX_sq {iv : IV} {v : V} {ivs : List IV} (e : lstX S iv = some ivs) (r : R K w S H) (rv : Rel K w v iv) : ∃ a xs, v = .ref a ∧ H a = some (.lst xs) ∧ RelL K w xs ivs := by
  cases iv with
  | lst ys =>
    cases e
    cases rv with
    | lst h1 h2 => exact ⟨_, _, rfl, (r.F _ _ h1), h2⟩
  | adr n =>
    cases rv with
    | adr h1 =>
      unfold lstX at e
      cases q : S[n]? with
      | none => simp only [q] at e; cases e
      | some c =>
        simp only [q] at e
        cases c with
        | lst ys =>
          cases e
          obtain ⟨xs, h2, h3⟩ := r.cell n _ _ q h1
          exact ⟨_, _, rfl, h2, h3⟩
        | _ => cases e
  | _ => cases e
theorem tupOf_sq {iv : IV} {v : V} {ivs : List IV} (e : tupOf iv = some ivs) (r : R K w S H) (rv : Rel K w v iv) : ∃ a xs, v = .ref a ∧ SqT K.k H a xs ∧ RelL K w xs ivs := by
  cases iv with
  | tup ys =>
    cases e
    cases rv with
    | tup h1 h2 => exact ⟨_, _, rfl, same_t r.F h1, h2⟩
  | _ => cases e
def orBad {β : Type} (o : Option β) (k : β → Out α) : Out α := match o with
  | some b => k b
  | none => .bad
theorem orBad_post {β : Type} {o : Option β} {k : β → Out α} (h : Post K W w (orBad o k) P) : ∃ b, o = some b ∧ Post K W w (k b) P := by
  unfold orBad at h
  split at h
  · exact ⟨_, rfl, h⟩
  · exact h.elim
@[simp] theorem orBad_some {β : Type} {b : β} {k : β → Out α} : orBad (some b) k = k b := rfl
end
def mkF (ivs : List IV) (S : Sto) : Out IV := chk (ivs.length ≤ sizeLine) (.ok (.lst ivs) S)
def mkC (ivs : List IV) (S : Sto) : Out IV := chk (ivs.length ≤ sizeLine) (.ok (.adr S.length) (S ++ [.lst ivs]))
def mkL (cell : Bool) (ivs : List IV) (S : Sto) : Out IV := if cell = true then mkC ivs S else mkF ivs S
def mkT (ivs : List IV) (S : Sto) : Out IV := chk (ivs.length ≤ sizeLine) (.ok (.tup ivs) S)
section
variable {K : KX} {W : WX} {w : Wd} {S : Sto} {H : Hp} {Q : VK}
theorem mkL_post {cell : Bool} {ivs : List IV} {xs : List V} (h : Post K W w (mkL cell ivs S) fun w' H' _ iv => ∀ v, Rel K w' v iv → Q v H') (r : R K w S H) (rx : RelL K w xs ivs) : xs.length ≤ sizeLine ∧ ∀ p, H p = none → Q (.ref p) (upd H p (.lst xs)) := by
  rw [rx.length]
  cases cell with
  | true =>
    obtain ⟨h1, h⟩ := chk_post (show Post K W w (mkC ivs S) _ from h)
    refine ⟨h1, fun p hp => ?_⟩
    obtain ⟨l, r'⟩ := r.alloc (c := .lst ivs) (o := .lst xs) hp fun w' l => ⟨xs, upd_same, rx.up l⟩
    refine h _ _ l r' _ (.adr ?_)
    show (w.rho ++ [p])[S.length]? = some p
    rw [← r.len, List.getElem?_append_right (Nat.le_refl _), Nat.sub_self]
    rfl
  | false =>
    obtain ⟨h1, h⟩ := chk_post (show Post K W w (mkF ivs S) _ from h)
    refine ⟨h1, fun p hp => ?_⟩
    obtain ⟨l, r'⟩ := r.frz (o := .lst xs) hp
    exact h _ _ l r' _ (.lst upd_same (rx.up l))
theorem mkT_post {ivs : List IV} {xs : List V} (h : Post K W w (mkT ivs S) fun w' H' _ iv => ∀ v, Rel K w' v iv → Q v H') (r : R K w S H) (rx : RelL K w xs ivs) : xs.length ≤ sizeLine ∧ ∀ p, H p = none → Q (.ref p) (upd H p (.tup xs)) := by
  rw [rx.length]
  obtain ⟨h1, h⟩ := chk_post h
  refine ⟨h1, fun p hp => ?_⟩
  obtain ⟨l, r'⟩ := r.frz (o := .tup xs) hp
  exact h _ _ l r' _ (.tup (.of upd_same) (rx.up l))
end
section
variable {X : Cx} {W : WZ} {pos : Pos} {es : List Expr} {m : IA}
def iLst (cell : Bool) (m : IA) : IE := iCa (mkL cell) m
def iTup (m : IA) : IE := iCa mkT m
theorem de_lst (cell : Bool) (h : DA X W es m) : DE X W (.List es pos) (iLst cell m) :=
  (pe_lst h).imp fun σ H Q ⟨w, S, Λ, r0, s0, p⟩ => ⟨w, S, Λ, r0, s0, p.bind.imp fun w1 H1 S1 ix l1 r1 p1 v1 rv1 => mkL_post p1 r1 rv1⟩
theorem de_tup {x1} (h : DA X W es m) : DE X W (.Tuple es x1 pos) (iTup m) :=
  (pe_tup h).imp fun σ H Q ⟨w, S, Λ, r0, s0, p⟩ => ⟨w, S, Λ, r0, s0, p.bind.imp fun w1 H1 S1 ix l1 r1 p1 v1 rv1 => mkT_post p1 r1 rv1⟩
end
instance (i j : Int) : Decidable (CMul i j) := by unfold CMul; infer_instance
instance (i j : Int) : Decidable (CDiv i j) := by unfold CDiv; infer_instance
instance (i j : Int) : Decidable (CPow i j) := by unfold CPow; infer_instance
def fI (C : Int → Int → Prop) [∀ i j, Decidable (C i j)] (g : Int → Int → Int) (x y : IV) (S : Sto) : Out IV := asI x fun i => asI y fun j => chk (C i j) (.ok (.int (g i j)) S)
def fB (g : Int → Int → Bool) (x y : IV) (S : Sto) : Out IV := asI x fun i => asI y fun j => .ok (.bl (g i j)) S
section
variable {K : KX} {W : WX}
theorem os_I {C : Int → Int → Prop} [∀ i j, Decidable (C i j)] {g : Int → Int → Int} : OpS K W (rI C fun i j => .int (g i j)) (fI C g) := fun w S H x y ix iy Q r rx ry p => by
  obtain ⟨i, rfl, rfl, p⟩ := asI_post p rx
  obtain ⟨j, rfl, rfl, p⟩ := asI_post p ry
  obtain ⟨c, p⟩ := chk_post p
  exact ⟨i, j, rfl, rfl, c, p.now r _ (.int _)⟩
theorem os_B {g : Int → Int → Bool} : OpS K W (rI0 fun i j => .bl (g i j)) (fB g) := fun w S H x y ix iy Q r rx ry p => by
  obtain ⟨i, rfl, rfl, p⟩ := asI_post p rx
  obtain ⟨j, rfl, rfl, p⟩ := asI_post p ry
  exact ⟨i, j, rfl, rfl, p.now r _ (.bl _)⟩
end
def fAdd (x y : IV) (S : Sto) : Out IV := match x, y with
  | .int i, .int j => .ok (.int (i + j)) S
  | .str a, .str b => chk (a.length + b.length ≤ sizeLine) (.ok (.str (a ++ b)) S)
  | a, b => orBad (lstX S a) fun xs => orBad (lstX S b) fun ys => mkF (xs ++ ys) S
abbrev rAddS : R2 := fun x y H Q => ∃ i j, x = .str i ∧ y = .str j ∧ i.length + j.length ≤ sizeLine ∧ Q (.str (i ++ j)) H
abbrev rAddI : R2 := rI0 fun i j => .int (i + j)
abbrev rAddA : R2 := fun x y H Q => rAddI x y H Q ∨ ((fun x y H Q => rAddS x y H Q ∨ rCat x y H Q) : R2) x y H Q
theorem op_addA {X : Cx} : OpR X (binaryOp .Add) rAddA := op_add.or (op_add_str.or op_cat)
theorem os_add {K : KX} {W : WX} : OpS K W rAddA fAdd := fun w S H x y ix iy Q r rx ry p => by
  unfold fAdd at p
  split at p
  · rename_i i j
    cases rx; cases ry
    exact .inl ⟨_, _, rfl, rfl, p.now r _ (.int _)⟩
  · rename_i i j
    cases rx; cases ry
    obtain ⟨c, p⟩ := chk_post p
    exact .inr (.inl ⟨_, _, rfl, rfl, c, p.now r _ (.str _)⟩)
  · obtain ⟨xs, e1, p⟩ := orBad_post p
    obtain ⟨ys, e2, p⟩ := orBad_post p
    obtain ⟨a, vs, rfl, h1, q1⟩ := lstX_sq e1 r rx
    obtain ⟨b, us, rfl, h2, q2⟩ := lstX_sq e2 r ry
    obtain ⟨c, k⟩ := mkL_post (cell := false) p r (q1.append q2)
    exact .inr (.inr ⟨_, _, _, _, rfl, rfl, h1, h2, by rw [List.length_append] at c; exact c, k⟩)
abbrev fSub := fI (fun _ _ => True) fun i j => i - j
abbrev fMul := fI CMul fun i j => i * j
abbrev fDiv := fI CDiv fun i j => i / j
abbrev fMod := fI (fun _ j => 0 < j) fun i j => i % j
abbrev fPow := fI CPow fun i j => i ^ j.toNat
def fNeg (x : IV) (S : Sto) : Out IV := asI x fun i => .ok (.int (-i)) S
theorem us_neg {K : KX} {W : WX} : UnS K W (rU fun i => .int (-i)) fNeg := fun w S H x ix Q r rx p => by
  obtain ⟨i, rfl, rfl, p⟩ := asI_post p rx
  exact ⟨i, rfl, p.now r _ (.int _)⟩
abbrev fLt := fB fun i j => decide (i < j)
abbrev fLe := fB fun i j => decide (i ≤ j)
abbrev fGt := fB fun i j => decide (j < i)
abbrev fGe := fB fun i j => decide (j ≤ i)
def viewL (f : IV → Option PyData) : List IV → Option (List PyData)
  | [] => some []
  | x :: xs => match f x, viewL f xs with
    | some d, some ds => some (d :: ds)
    | _, _ => none
def view : Nat → Sto → IV → Option PyData
  | 0, _, _ => none
  | n + 1, S, x => match x with
    | .non => some .none
    | .bl b => some (.bool b)
    | .int i => some (.int i)
    | .str s => some (.str s)
    | .lst xs => (viewL (view n S) xs).map .list
    | .wls xs => (viewL (view n S) xs).map .list
    | .tup xs => (viewL (view n S) xs).map .tuple
    | .adr m => match S[m]? with
      | some (.lst xs) => (viewL (view n S) xs).map .list
      | _ => none
    | _ => none
section
variable {K : KX} {w : Wd} {S : Sto} {H : Hp}
theorem viewL_dp {f : IV → Option PyData} (hf : ∀ x d v, f x = some d → Rel K w v x → Dp K.k H v d) : ∀ (xs : List IV) (ds : List PyData) (vs : List V), viewL f xs = some ds → RelL K w vs xs → DpAll K.k H vs ds
  | [], _, _, e, h => by
    cases h; cases e; exact .nil
  | x :: xs, ds, _, e, h => by
    cases h with
    | cons a b =>
      unfold viewL at e
      split at e
      · rename_i d ds' e1 e2
        cases e
        exact .cons (hf _ _ _ e1 a) (viewL_dp hf xs _ _ e2 b)
      · cases e
theorem view_dp (r : R K w S H) : ∀ (n : Nat) (x : IV) (d : PyData) (v : V), view n S x = some d → Rel K w v x → Dp K.k H v d
  | 0, _, _, _, e, _ => by cases e
  | n + 1, x, d, v, e, h => by
    have ih := view_dp r n
    unfold view at e
    cases x with
    | non => cases e; cases h; exact .non
    | bl b => cases e; cases h; exact .bl _
    | int b => cases e; cases h; exact .int _
    | str b => cases e; cases h; exact .str _
    | lst xs =>
      obtain ⟨ds, e1, e2⟩ := Option.map_eq_some_iff.mp e
      subst e2
      cases h with
      | lst h1 h2 => exact .lst (.of (r.F _ _ h1)) (viewL_dp ih xs ds _ e1 h2)
    | wls xs =>
      obtain ⟨ds, e1, e2⟩ := Option.map_eq_some_iff.mp e
      subst e2
      cases h with
      | wls h1 h2 => exact .lst (r.F.seq h1) (viewL_dp ih xs ds _ e1 h2)
    | tup xs =>
      obtain ⟨ds, e1, e2⟩ := Option.map_eq_some_iff.mp e
      subst e2
      cases h with
      | tup h1 h2 => exact .tup (same_t r.F h1) (viewL_dp ih xs ds _ e1 h2)
    | adr m =>
      cases h with
      | adr h1 =>
        cases q : S[m]? with
        | none => simp only [q] at e; cases e
        | some c =>
          simp only [q] at e
          cases c with
          | lst xs =>
            obtain ⟨ds, e1, e2⟩ := Option.map_eq_some_iff.mp e
            subst e2
            obtain ⟨vs, h2, h3⟩ := r.cell m _ _ q h1
            exact .lst (.of h2) (viewL_dp ih xs ds _ e1 h3)
          | _ => cases e
    | _ => cases e
end
def eqB (S : Sto) (x y : IV) : Option Bool := match x, y with
  | .int i, .int j => some (decide (i = j))
  | .str a, .str b => some (decide (a = b))
  | .bl a, .bl b => some (decide (a = b))
  | a, b => match view 8 S a, view 8 S b with
    | some d, some e => if SeqAt.shaped d = true ∧ SeqAt.shaped e = true then some (PyData.eqv d e) else none
    | _, _ => none
def fEq (x y : IV) (S : Sto) : Out IV := orBad (eqB S x y) fun b => .ok (.bl b) S
def fNe (x y : IV) (S : Sto) : Out IV := orBad (eqB S x y) fun b => .ok (.bl (!b)) S
abbrev rEqA (K : PySem.W.Frag) : R2 := fun x y H Q => rEq x y H Q ∨ rEqD K x y H Q
abbrev rNeA (K : PySem.W.Frag) : R2 := fun x y H Q => rNe x y H Q ∨ rNeD K x y H Q
theorem op_eqA {X : Cx} (hu : X.A.units + 64 < cLine) : OpR X (compareOp .Eq) (rEqA X.K) := op_eq.or (op_eqD hu)
theorem op_neA {X : Cx} (hu : X.A.units + 64 < cLine) : OpR X (compareOp .NotEq) (rNeA X.K) := op_ne.or (op_neD hu)
theorem eqB_cases {K : KX} {w : Wd} {S : Sto} {H : Hp} {x y : V} {ix iy : IV} {b : Bool} (r : R K w S H) (rx : Rel K w x ix) (ry : Rel K w y iy) (e : eqB S ix iy = some b) :
    (scal x y = true ∧ b = decide (x = y)) ∨ ∃ d e, Dp K.k H x d ∧ Dp K.k H y e ∧ SeqAt.shaped d = true ∧ SeqAt.shaped e = true ∧ b = PyData.eqv d e := by
  unfold eqB at e
  split at e
  · cases rx; cases ry; cases e
    exact .inl ⟨rfl, by simp⟩
  · cases rx; cases ry; cases e
    exact .inl ⟨rfl, by simp⟩
  · cases rx; cases ry; cases e
    exact .inl ⟨rfl, by simp⟩
  · split at e
    · rename_i d d' h1 h2
      split at e
      · rename_i hs
        cases e
        exact .inr ⟨d, d', view_dp r _ _ _ _ h1 rx, view_dp r _ _ _ _ h2 ry, hs.1, hs.2, rfl⟩
      · cases e
    · cases e
theorem os_eq {K : KX} {W : WX} : OpS K W (rEqA K.k) fEq := fun w S H x y ix iy Q r rx ry p => by
  obtain ⟨b, e, p⟩ := orBad_post p
  rcases eqB_cases r rx ry e with ⟨h1, h2⟩ | ⟨d, d', h1, h2, h3, h4, h5⟩
  · subst h2; exact .inl ⟨h1, p.now r _ (.bl _)⟩
  · subst h5; exact .inr ⟨d, d', h1, h2, h3, h4, p.now r _ (.bl _)⟩
theorem os_ne {K : KX} {W : WX} : OpS K W (rNeA K.k) fNe := fun w S H x y ix iy Q r rx ry p => by
  obtain ⟨b, e, p⟩ := orBad_post p
  rcases eqB_cases r rx ry e with ⟨h1, h2⟩ | ⟨d, d', h1, h2, h3, h4, h5⟩
  · subst h2; exact .inl ⟨h1, p.now r _ (.bl _)⟩
  · subst h5; exact .inr ⟨d, d', h1, h2, h3, h4, p.now r _ (.bl _)⟩
def isN : IV → Bool
  | .non => true
  | _ => false
theorem isN_rel {K : KX} {w : Wd} {x : V} {ix : IV} (rx : Rel K w x ix) : decide (x = .non) = isN ix := by
  cases rx <;> simp [isN]
theorem os_isN {K : KX} {W : WX} : OpS K W (fun x y H Q => y = .non ∧ Q (.bl (decide (x = .non))) H) (fun x y S => match y with | .non => .ok (.bl (isN x)) S | _ => .bad) := fun w S H x y ix iy Q r rx ry p => by
  cases ry with
  | non =>
    refine ⟨rfl, ?_⟩
    rw [isN_rel rx]
    exact (show Post K W w (Out.ok (IV.bl (isN ix)) S) (fun w' H' _ iv => ∀ v, Rel K w' v iv → Q v H') from p).now r _ (Rel.bl _)
  | _ => exact p.elim
theorem os_notN {K : KX} {W : WX} : OpS K W (fun x y H Q => y = .non ∧ Q (.bl (!decide (x = .non))) H) (fun x y S => match y with | .non => .ok (.bl (!isN x)) S | _ => .bad) := fun w S H x y ix iy Q r rx ry p => by
  cases ry with
  | non =>
    refine ⟨rfl, ?_⟩
    rw [isN_rel rx]
    exact (show Post K W w (Out.ok (IV.bl (!isN ix)) S) (fun w' H' _ iv => ∀ v, Rel K w' v iv → Q v H') from p).now r _ (Rel.bl _)
  | _ => exact p.elim
def gIsN : IV → IV → Sto → Out IV := fun x y S => match y with | .non => .ok (.bl (isN x)) S | _ => .bad
def gNotN : IV → IV → Sto → Out IV := fun x y S => match y with | .non => .ok (.bl (!isN x)) S | _ => .bad
def scV : IV → Option V
  | .non => some .non
  | .bl b => some (.bl b)
  | .int i => some (.int i)
  | .str s => some (.str s)
  | _ => none
def scVs : List IV → Option (List V)
  | [] => some []
  | x :: xs => match scV x, scVs xs with
    | some v, some vs => some (v :: vs)
    | _, _ => none
theorem scV_rel {K : KX} {w : Wd} {x : IV} {v u : V} (e : scV x = some u) (r : Rel K w v x) : v = u ∧ flatV u = true := by
  cases x <;> (first | (cases e; done) | (cases e; cases r; exact ⟨rfl, rfl⟩))
theorem scVs_rel {K : KX} {w : Wd} : ∀ {xs : List IV} {vs us : List V}, scVs xs = some us → RelL K w vs xs → vs = us ∧ us.all flatV = true
  | [], _, _, e, r => by cases e; cases r; exact ⟨rfl, rfl⟩
  | x :: xs, _, us, e, r => by
    cases r with
    | cons a b =>
      unfold scVs at e
      split at e
      · rename_i u us' e1 e2
        cases e
        obtain ⟨h1, h2⟩ := scV_rel e1 a
        obtain ⟨h3, h4⟩ := scVs_rel e2 b
        exact ⟨by rw [h1, h3], by rw [List.all_cons, h2, h4]; rfl⟩
      · cases e
def seqOf (S : Sto) (x : IV) : Option (List IV) := match tupOf x with
  | some xs => some xs
  | none => lstOf S x
theorem seqOf_sq {K : KX} {w : Wd} {S : Sto} {H : Hp} {iv : IV} {v : V} {ivs : List IV} (e : seqOf S iv = some ivs) (r : R K w S H) (rv : Rel K w v iv) : ∃ a xs, v = .ref a ∧ (SqL K.k H a xs ∨ SqT K.k H a xs) ∧ RelL K w xs ivs := by
  unfold seqOf at e
  split at e
  · rename_i xs h
    cases e
    obtain ⟨a, xs, h1, h2, h3⟩ := tupOf_sq h r rv
    exact ⟨a, xs, h1, .inr h2, h3⟩
  · obtain ⟨a, xs, h1, h2, h3⟩ := lstOf_sq e r rv
    exact ⟨a, xs, h1, .inl h2, h3⟩
def sgn (s : Str) : Option Nat := match s.cps.toList with
  | [c] => some c
  | _ => none
theorem sgn_eq {s : Str} {c : Nat} (h : sgn s = some c) : s = ⟨#[c]⟩ := by
  unfold sgn at h
  split at h
  · rename_i d e
    cases h
    cases s with
    | mk a =>
      have : a = #[c] := Array.toList_inj.mp e
      rw [this]
  · cases h
def inB (S : Sto) (x y : IV) : Option Bool := match y with
  | .str z => match x with
    | .str s => (sgn s).map fun c => decide (c ∈ z.cps.toList)
    | _ => none
  | y => match scV x, seqOf S y with
    | some u, some ys => (scVs ys).map fun us => inV u us
    | _, _ => none
def fIn (x y : IV) (S : Sto) : Out IV := orBad (inB S x y) fun b => .ok (.bl b) S
def fNotIn (x y : IV) (S : Sto) : Out IV := orBad (inB S x y) fun b => .ok (.bl (!b)) S
abbrev rInSg : R2 := fun x y H Q => ∃ (c : Nat) (z : Str), x = .str ⟨#[c]⟩ ∧ y = .str z ∧ Q (.bl (decide (c ∈ z.cps.toList))) H
abbrev rNotInSg : R2 := fun x y H Q => ∃ (c : Nat) (z : Str), x = .str ⟨#[c]⟩ ∧ y = .str z ∧ Q (.bl (!decide (c ∈ z.cps.toList))) H
theorem op_inA {X : Cx} : OpR X (compareOp .In) (fun x y H Q => rInSg x y H Q ∨ rIn X.K false x y H Q) := op_in_sign.or op_in_seq
theorem op_notInA {X : Cx} : OpR X (compareOp .NotIn) (fun x y H Q => rNotInSg x y H Q ∨ rIn X.K true x y H Q) := op_notIn_sign.or op_notIn_seq
theorem inB_cases {K : KX} {w : Wd} {S : Sto} {H : Hp} {x y : V} {ix iy : IV} {b : Bool} (r : R K w S H) (rx : Rel K w x ix) (ry : Rel K w y iy) (e : inB S ix iy = some b) :
    (∃ (c : Nat) (z : Str), x = .str ⟨#[c]⟩ ∧ y = .str z ∧ b = decide (c ∈ z.cps.toList)) ∨ ∃ p xs, y = .ref p ∧ (SqL K.k H p xs ∨ SqT K.k H p xs) ∧ flatV x = true ∧ xs.all flatV = true ∧ b = inV x xs := by
  unfold inB at e
  split at e
  · rename_i z
    cases ry
    split at e
    · rename_i t
      cases rx
      obtain ⟨c, h1, h2⟩ := Option.map_eq_some_iff.mp e
      have := sgn_eq h1
      subst this
      exact .inl ⟨c, z, rfl, rfl, h2.symm⟩
    · cases e
  · split at e
    · rename_i u ys e1 e2
      obtain ⟨us, e3, e4⟩ := Option.map_eq_some_iff.mp e
      obtain ⟨h1, h2⟩ := scV_rel e1 rx
      obtain ⟨p, xs, h3, h4, h5⟩ := seqOf_sq e2 r ry
      obtain ⟨h6, h7⟩ := scVs_rel e3 h5
      subst h1 h6
      exact .inr ⟨p, _, h3, h4, h2, h7, e4.symm⟩
    · cases e
theorem os_in {K : KX} {W : WX} : OpS K W (fun x y H Q => rInSg x y H Q ∨ rIn K.k false x y H Q) fIn := fun w S H x y ix iy Q r rx ry p => by
  obtain ⟨b, e, p⟩ := orBad_post p
  rcases inB_cases r rx ry e with ⟨c, z, rfl, rfl, rfl⟩ | ⟨a, xs, h1, h2, h3, h4, rfl⟩
  · exact .inl ⟨c, z, rfl, rfl, p.now r _ (.bl _)⟩
  · exact .inr ⟨a, xs, h1, h2, h3, h4, by rw [if_neg Bool.false_ne_true]; exact p.now r _ (.bl _)⟩
theorem os_notIn {K : KX} {W : WX} : OpS K W (fun x y H Q => rNotInSg x y H Q ∨ rIn K.k true x y H Q) fNotIn := fun w S H x y ix iy Q r rx ry p => by
  obtain ⟨b, e, p⟩ := orBad_post p
  rcases inB_cases r rx ry e with ⟨c, z, rfl, rfl, rfl⟩ | ⟨a, xs, h1, h2, h3, h4, rfl⟩
  · exact .inl ⟨c, z, rfl, rfl, p.now r _ (.bl _)⟩
  · exact .inr ⟨a, xs, h1, h2, h3, h4, by rw [if_pos rfl]; exact p.now r _ (.bl _)⟩
def truB (S : Sto) (x : IV) : Option Bool := match x with
  | .non => some false
  | .bl b => some b
  | .int i => some (i != 0)
  | .str y => if y.length ≤ sizeLine then some ((y.length : Int) != 0) else none
  | .tup xs => some (!xs.isEmpty)
  | .adr n => match S[n]? with
    | some (.lst xs) => some (!xs.isEmpty)
    | some (.dic kvs) => some (!kvs.isEmpty)
    | _ => none
  | x => (lstOf S x).map fun xs => !xs.isEmpty
theorem RelL.empty {K : KX} {w : Wd} {xs : List V} {ivs : List IV} (r : RelL K w xs ivs) : (!ivs.isEmpty) = !xs.isEmpty := by cases r <;> rfl
theorem truB_rel {K : KX} {w : Wd} {S : Sto} {H : Hp} {x : V} {ix : IV} {b : Bool} (r : R K w S H) (rx : Rel K w x ix) (e : truB S ix = some b) : TruV K.k x H b := by
  have lst : ∀ {ys}, lstOf S ix = some ys → b = (!ys.isEmpty) → TruV K.k x H b := fun {ys} h1 h2 => by
    obtain ⟨a, xs, rfl, h3, h4⟩ := lstOf_sq h1 r rx
    exact .inl ⟨xs, h3, by rw [h2, h4.empty]⟩
  unfold truB at e
  split at e
  · cases rx; cases e; rfl
  · cases rx; cases e; rfl
  · cases rx; cases e; rfl
  · cases rx
    split at e
    · cases e
      exact ⟨by assumption, rfl⟩
    · cases e
  · cases rx with
    | tup h1 h2 =>
      cases e
      exact .inr (.inl ⟨_, same_t r.F h1, by rw [h2.empty]⟩)
  · cases rx with
    | adr h1 =>
      split at e
      · rename_i q
        cases e
        obtain ⟨xs, h2, h3⟩ := r.cell _ _ _ q h1
        exact .inl ⟨xs, .of h2, by rw [h3.empty]⟩
      · rename_i q
        cases e
        obtain ⟨xs, h2, h3⟩ := r.cell _ _ _ q h1
        refine .inr (.inr ⟨xs, h2, ?_⟩)
        cases h3 <;> rfl
      · cases e
  · obtain ⟨ys, h1, h2⟩ := Option.map_eq_some_iff.mp e
    exact lst h1 h2.symm
def iTru (m : IE) : IT := fun Λ S => (m Λ S).bind fun x S1 => orBad (truB S1 x) fun b => .ok b S1
def iAnd (c d : IT) : IT := fun Λ S => (c Λ S).bind fun b S1 => if b = true then d Λ S1 else .ok false S1
def iOr (c d : IT) : IT := fun Λ S => (c Λ S).bind fun b S1 => if b = true then .ok true S1 else d Λ S1
def iNot (c : IT) : IT := fun Λ S => (c Λ S).bind fun b S1 => .ok (!b) S1
def iAndV (c d : IE) : IE := fun Λ S => (c Λ S).bind fun x S1 => asB x fun b => if b = true then d Λ S1 else .ok (.bl false) S1
def iOrV (c d : IE) : IE := fun Λ S => (c Λ S).bind fun x S1 => asB x fun b => if b = true then .ok (.bl true) S1 else d Λ S1
def iNotV (c : IE) : IE := fun Λ S => (c Λ S).bind fun x S1 => asB x fun b => .ok (.bl (!b)) S1
def iIf {α : Type} (c : IT) (a b : Slots → Sto → Out α) : Slots → Sto → Out α := fun Λ S => (c Λ S).bind fun k S1 => if k = true then a Λ S1 else b Λ S1
section
variable {X : Cx} {W : WZ} {pos : Pos} {a b c : Expr} {rest : List Expr} {ma mb : IE} {ta tb tc : IT}
theorem dt_tru (ha : DE X W a ma) (he : ∀ whole, isTrue a X.env whole = (do let v ← whole; standAt a.pos; holding [v] (truthy v)) := by intro _; rfl) : DT X W a (iTru ma) :=
  (pt_truth ha he).imp fun σ H Q ⟨w, S, Λ, r0, s0, p⟩ => ⟨w, S, Λ, r0, s0, p.bind.imp fun w1 H1 S1 ix l1 r1 p1 v1 rv1 => by
    obtain ⟨b, e, q⟩ := orBad_post p1
    exact ⟨b, truB_rel r1 rv1 e, q.now r1⟩⟩
theorem dt_w (h : DW X W a ta) : DT X W a ta := PW.pt h
theorem dw_and1 (h : DT X W a ta) : DW X W (.BoolOp .And [a] pos) ta := pw_and1 h
theorem dw_or1 (h : DT X W a ta) : DW X W (.BoolOp .Or [a] pos) ta := pw_or1 h
theorem dw_and (ha : DT X W a ta) (hb : DW X W (.BoolOp .And (b :: rest) pos) tb) : DW X W (.BoolOp .And (a :: b :: rest) pos) (iAnd ta tb) :=
  (pw_and ha hb).imp fun σ H Q ⟨w, S, Λ, r0, s0, p⟩ => ⟨w, S, Λ, r0, s0, p.bind.imp fun w1 H1 S1 k l1 r1 p1 => by
    cases k with
    | true => rw [if_pos rfl] at p1 ⊢; exact ⟨w1, S1, Λ, r1, s0.up l1, p1⟩
    | false => rw [if_neg Bool.false_ne_true] at p1 ⊢; exact p1.now r1⟩
theorem dw_or (ha : DT X W a ta) (hb : DW X W (.BoolOp .Or (b :: rest) pos) tb) : DW X W (.BoolOp .Or (a :: b :: rest) pos) (iOr ta tb) :=
  (pw_or ha hb).imp fun σ H Q ⟨w, S, Λ, r0, s0, p⟩ => ⟨w, S, Λ, r0, s0, p.bind.imp fun w1 H1 S1 k l1 r1 p1 => by
    cases k with
    | true => rw [if_pos rfl] at p1 ⊢; exact p1.now r1
    | false => rw [if_neg Bool.false_ne_true] at p1 ⊢; exact ⟨w1, S1, Λ, r1, s0.up l1, p1⟩⟩
theorem dt_not (ha : DT X W a ta) : DT X W (.UnaryOp .Not a pos) (iNot ta) :=
  (pt_not ha).imp fun σ H Q ⟨w, S, Λ, r0, s0, p⟩ => ⟨w, S, Λ, r0, s0, p.bind.imp fun w1 H1 S1 k l1 r1 p1 => p1.now r1⟩
theorem de_one {op} (h : DE X W a ma) : DE X W (.BoolOp op [a] pos) ma := pe_one h
theorem de_and (ha : DE X W a ma) (hb : DE X W (.BoolOp .And (b :: rest) pos) mb) : DE X W (.BoolOp .And (a :: b :: rest) pos) (iAndV ma mb) :=
  (pe_and ha hb).imp fun σ H Q ⟨w, S, Λ, r0, s0, p⟩ => ⟨w, S, Λ, r0, s0, p.bind.imp fun w1 H1 S1 ix l1 r1 p1 v1 rv1 => by
    obtain ⟨k, rfl, rfl, p1⟩ := asB_post p1 rv1
    refine ⟨k, rfl, ?_⟩
    cases k with
    | true => rw [if_pos rfl] at p1 ⊢; exact ⟨w1, S1, Λ, r1, s0.up l1, p1⟩
    | false => rw [if_neg Bool.false_ne_true] at p1 ⊢; exact p1.now r1 _ (.bl _)⟩
theorem de_not (ha : DE X W a ma) : DE X W (.UnaryOp .Not a pos) (iNotV ma) :=
  (pe_not ha).imp fun σ H Q ⟨w, S, Λ, r0, s0, p⟩ => ⟨w, S, Λ, r0, s0, p.bind.imp fun w1 H1 S1 ix l1 r1 p1 v1 rv1 => by
    obtain ⟨k, rfl, rfl, p1⟩ := asB_post p1 rv1
    exact ⟨k, rfl, p1.now r1 _ (.bl _)⟩⟩
theorem de_if (hc : DT X W c tc) (ha : DE X W a ma) (hb : DE X W b mb) : DE X W (.IfExp c a b pos) (iIf tc ma mb) :=
  (pe_ifExp hc ha hb).imp fun σ H Q ⟨w, S, Λ, r0, s0, p⟩ => ⟨w, S, Λ, r0, s0, p.bind.imp fun w1 H1 S1 k l1 r1 p1 => by
    cases k with
    | true => rw [if_pos rfl] at p1 ⊢; exact ⟨w1, S1, Λ, r1, s0.up l1, p1⟩
    | false => rw [if_neg Bool.false_ne_true] at p1 ⊢; exact ⟨w1, S1, Λ, r1, s0.up l1, p1⟩⟩
end
theorem atI_rel {K : KX} {w : Wd} {xs : List V} {ivs : List IV} {i : Int} {iv : IV} (r : RelL K w xs ivs) (e : atI ivs i = some iv) : ∃ v, atI xs i = some v ∧ Rel K w v iv := by
  unfold atI at e ⊢
  rw [r.length]
  cases h : ixN ivs.length i with
  | none => rw [h] at e; cases e
  | some j =>
    rw [h] at e
    exact r.get e
def fIx (x y : IV) (S : Sto) : Out IV := asI y fun i => match x with
  | .str z => chk (z.length ≤ sizeLine) (orBad (atI z.cps.toList i) fun c => .ok (.str ⟨#[c]⟩) S)
  | .tup xs => orBad (atI xs i) fun v => .ok v S
  | x => orBad (lstOf S x) fun xs => orBad (atI xs i) fun v => .ok v S
theorem os_ix {K : KX} {W : WX} : OpS K W (rIx K.k) fIx := fun w S H x y ix iy Q r rx ry p => by
  obtain ⟨i, rfl, rfl, p⟩ := asI_post p ry
  split at p
  · cases rx
    obtain ⟨h1, p⟩ := chk_post p
    obtain ⟨c, h2, p⟩ := orBad_post p
    exact .inr (.inr ⟨_, _, _, rfl, rfl, h1, h2, p.now r _ (.str _)⟩)
  · cases rx with
    | tup h1 h2 =>
      obtain ⟨c, h3, p⟩ := orBad_post p
      obtain ⟨v, h4, h5⟩ := atI_rel h2 h3
      exact .inr (.inl ⟨_, _, _, v, rfl, rfl, same_t r.F h1, h4, p.now r _ h5⟩)
  · obtain ⟨ivs, h0, p⟩ := orBad_post p
    obtain ⟨c, h3, p⟩ := orBad_post p
    obtain ⟨a, xs, rfl, h1, h2⟩ := lstOf_sq h0 r rx
    obtain ⟨v, h4, h5⟩ := atI_rel h2 h3
    exact .inl ⟨_, _, _, v, rfl, rfl, h1, h4, p.now r _ h5⟩
abbrev IO := Slots → Sto → Out (Option Int)
def oM (K : KX) (W : WX) (m : IO) : TO := fun σ H Q => ∃ w S Λ, R K w S H ∧ SR K w σ Λ ∧ Post K W w (m Λ S) fun _ H' _ o => Q o H'
def iNoPart : IO := fun _ S => .ok none S
def iPart (m : IE) : IO := fun Λ S => (m Λ S).bind fun x S1 => asI x fun i => .ok (some i) S1
abbrev DO (X : Cx) (W : WZ) (e : Option Expr) (m : IO) : Prop := PO X e (oM (kx X W) W.x m)
theorem _root_.L2.PO.imp {X : Cx} {e : Option Expr} {t t' : TO} (h : PO X e t) (f : ∀ σ H Q, t' σ H Q → t σ H Q) : PO X e t' := ⟨fun pins s σ H Q I q => h.run pins s σ H Q I (f σ H Q q)⟩
def cutI (xs : List IV) (lo hi : Option Int) : List IV := (xs.drop (HT.sIx xs.length 0 lo)).take (HT.sIx xs.length xs.length hi - HT.sIx xs.length 0 lo)
theorem cut_rel {K : KX} {w : Wd} {xs : List V} {ivs : List IV} (r : RelL K w xs ivs) (lo hi : Option Int) : RelL K w (cutV xs lo hi) (cutI ivs lo hi) := by
  unfold cutV cutI
  rw [r.length]
  exact (r.drop _).take _
def fSl (cell : Bool) (x : IV) (lo hi : Option Int) (S : Sto) : Out IV := match x with
  | .str z => chk (z.length ≤ sizeLine) (.ok (.str (cutS z lo hi)) S)
  | x => orBad (lstOf S x) fun xs => mkL cell (cutI xs lo hi) S
def iSl (cell : Bool) (m : IE) (ml mh : IO) : IE := fun Λ S => (m Λ S).bind fun x S1 => (ml Λ S1).bind fun lo S2 => (mh Λ S2).bind fun hi S3 => fSl cell x lo hi S3
section
variable {X : Cx} {W : WZ} {pos p2 : Pos} {a b e : Expr} {ma mb me : IE} {lo hi : Option Expr} {ml mh : IO}
theorem de_ix (ha : DE X W a ma) (hb : DE X W b mb) (hs : PlainIx b := by exact fun _ _ => rfl) : DE X W (.Subscript a b pos) (iBin fIx ma mb) :=
  (pe_ix ix_seq ha hb hs).imp fun _ _ _ h => eM_bin os_ix h
theorem do_none : DO X W none iNoPart := po_none.imp fun σ H Q ⟨w, S, Λ, r0, s0, p⟩ => p.now r0
theorem do_some (h : DE X W e me) : DO X W (some e) (iPart me) := (po_some h).imp fun σ H Q ⟨w, S, Λ, r0, s0, p⟩ => ⟨w, S, Λ, r0, s0, p.bind.imp fun w1 H1 S1 ix l1 r1 p1 v1 rv1 => by
  obtain ⟨i, rfl, rfl, q⟩ := asI_post p1 rv1
  exact ⟨i, rfl, q.now r1⟩⟩
theorem de_slice (cell : Bool) (he : DE X W e me) (hl : DO X W lo ml) (hh : DO X W hi mh) : DE X W (.Subscript e (.Slice lo hi none p2) pos) (iSl cell me ml mh) :=
  (pe_slice (SlR.or sl_str sl_list) he hl hh).imp fun σ H Q ⟨w, S, Λ, r0, s0, p⟩ => ⟨w, S, Λ, r0, s0, p.bind.imp fun w1 H1 S1 ix l1 r1 p1 v1 rv1 =>
    ⟨w1, S1, Λ, r1, s0.up l1, p1.bind.imp fun w2 H2 S2 o1 l2 r2 p2 => ⟨w2, S2, Λ, r2, s0.up (l1.trans l2), p2.bind.imp fun w3 H3 S3 o2 l3 r3 p3 => by
      have rv3 := rv1.up (l2.trans l3)
      unfold fSl at p3
      split at p3
      · cases rv3
        obtain ⟨h1, q⟩ := chk_post p3
        exact .inl ⟨_, rfl, h1, q.now r3 _ (.str _)⟩
      · obtain ⟨ys, h1, q⟩ := orBad_post p3
        obtain ⟨a, xs, rfl, h2, h3⟩ := lstOf_sq h1 r3 rv3
        exact .inr ⟨a, xs, rfl, h2, (mkL_post q r3 (cut_rel h3 _ _)).2⟩⟩⟩⟩
end
def spM (K : PySem.W.Frag) (mg : Str → Option Value) (np : Nat) (mf : List IV → Sto → Out IV) : Sp := fun vs H Q E => vs.length = np ∧ ∃ w S ivs, R ⟨K, mg, none⟩ w S H ∧ RelL ⟨K, mg, none⟩ w vs ivs ∧ Post ⟨K, mg, none⟩ (fun c d _ H => E c d H) w (mf ivs S) fun w' H' _ iv => ∀ v, Rel ⟨K, mg, none⟩ w' v iv → Q v H'
def mDef (n : Nat) (body : IS) : List IV → Sto → Out IV := fun ivs S => match body (ivs.map some ++ List.replicate (n - ivs.length) none) S with
  | .ok (.rt iv) S' => .ok iv S'
  | .ok (.nx _) S' => .ok .non S'
  | .ok _ _ => .bad
  | .exc C k _ S' => .exc C k [] S'
  | .bad => .bad
def relab (Λ : Slots) : Out IV → Out IV
  | .exc C n _ S => .exc C n Λ S
  | o => o
def iCall (np : Nat) (mf : List IV → Sto → Out IV) (ma : IA) : IE := fun Λ S => (ma Λ S).bind fun xs S1 => chk (xs.length = np) (relab Λ (mf xs S1))
theorem relab_post {K : KX} {W : WX} {w : Wd} {Λ : Slots} {σ : L2.St} {o : Out IV} {P : Wd → Hp → Sto → IV → Prop} (h : Post K W w (relab Λ o) P) (s : SR K w σ Λ) : Post K (fun c d _ H => W c d σ H) w o P := by
  cases o with
  | ok iv S2 => exact h
  | exc C n L S2 => exact fun w2 H2 a σ2 l2 r2 s2 e => h w2 H2 a σ l2 r2 (s.up l2) e
  | bad => exact h
def iCall0 (mf : List IV → Sto → Out IV) : IE := fun _ S => match mf [] S with
  | .ok iv S2 => .ok iv S2
  | _ => .bad
section
variable {X : Cx} {W : WX} {pos p : Pos} {k : Nat} {f : Addr} {fd : FuncData} {ps : List Str} {mf : List IV → Sto → Out IV} {x : Str} {e : Expr} {es : List Expr} {ma : IA} {np : Nat}
theorem sr_nil {K : KX} {w : Wd} : SR K w [] [] := ⟨rfl, fun i iv e => by simp at e, fun i n a d _ e => by simp at e⟩
theorem de_call (F : FnG X.prog X.w X.K X.mg X.base (L2.CX X.prog X.w) k f fd ps (spM X.K X.mg np mf)) (tk : Takes X W) (hr : RmG k X.A) (hm : X.mg x = some (.ref f)) (hk : PySem.W.keepIn X.K (.ref f) = true) (hb : Binds X.K fd ps [])
    (ha : DA X ⟨W, none⟩ (e :: es) ma) (hg : Gl X x := by rfl) (hdb : (x == ("__debug__" : Str)) = false := by decide) (he : starEach (e :: es) X.env = (false, eval e X.env) :: starEach es X.env := by rfl) (hpl : (backTo pos (starEach es X.env)).any (·.1) = false := by rfl) :
    DE X ⟨W, none⟩ (.Call (.Name x p) (e :: es) [] pos) (iCall np mf ma) :=
  (pe_callG F hr hg hm hk hb (E := WE W) (fun σ => passAt tk σ) ha hdb he hpl).imp fun σ H Q ⟨w, S, Λ, r0, s0, p⟩ => ⟨w, S, Λ, r0, s0, p.bind.imp fun w1 H1 S1 xs l1 r1 p1 vs rv => by
    obtain ⟨h1, q⟩ := chk_post p1
    exact ⟨rv.length.trans h1, w1, S1, xs, r1, rv, relab_post q (s0.up l1)⟩⟩
end
theorem Post.up {K : KX} {W : WX} {w w' : Wd} {α : Type} {o : Out α} {P : Wd → Hp → Sto → α → Prop} (h : Post K W w o P) (l : w.le w') : Post K W w' o P := by
  cases o with
  | ok a S' => exact fun w2 H2 l2 r2 => h w2 H2 (l.trans l2) r2
  | exc C n L S' => exact fun w2 H2 a σ l2 r2 s2 e => h w2 H2 a σ (l.trans l2) r2 s2 e
  | bad => exact h
def iNext : IS := fun Λ S => .ok (.nx Λ) S
def fSeq (b : IS) (fl : Fl) (S : Sto) : Out Fl := match fl with
  | .nx L => b L S
  | o => .ok o S
def iSeq (a b : IS) : IS := fun Λ S => (a Λ S).bind fun fl S1 => fSeq b fl S1
def iDrop (m : IE) : IS := fun Λ S => (m Λ S).bind fun _ S1 => .ok (.nx Λ) S1
def iRet (m : IE) : IS := fun Λ S => (m Λ S).bind fun x S1 => .ok (.rt x) S1
def iRetN : IS := fun _ S => .ok (.rt .non) S
def iBrk : IS := fun Λ S => .ok (.bk Λ) S
def iCnt : IS := fun Λ S => .ok (.ct Λ) S
def iName (i : Nat) : IG := fun x Λ S => .ok (Λ.set i (some x)) S
def iAsg (m : IE) (g : IG) : IS := fun Λ S => (m Λ S).bind fun x S1 => (g x Λ S1).bind fun L S2 => .ok (.nx L) S2
def iSet (i : Nat) (m : IE) : IS := fun Λ S => (m Λ S).bind fun x S1 => .ok (.nx (Λ.set i (some x))) S1
section
variable {X : Cx} {W : WZ} {pos pos' : Pos} {st : Stmt} {rest : List Stmt} {m u : IS} {e : Expr} {me : IE} {g : IG}
theorem dss_nil : DSs X W [] iNext := pss_nil.imp fun D σ H ⟨w, S, Λ, r0, s0, p⟩ => p.now r0 σ s0
theorem dss_cons (h1 : DS X W st m) (h2 : DSs X W rest u) : DSs X W (st :: rest) (iSeq m u) :=
  (pss_cons h1 h2).imp fun D σ H ⟨w, S, Λ, r0, s0, p⟩ => ⟨w, S, Λ, r0, s0, p.bind.imp fun w1 H1 S1 fl l1 r1 p1 => by
    cases fl with
    | nx L => exact fun σ' s' => ⟨w1, S1, L, r1, s', p1⟩
    | rt iv => exact p1.now r1
    | bk L => exact p1.now r1
    | ct L => exact p1.now r1⟩
theorem dss_one (h1 : DS X W st m) : DSs X W [st] m := pss_one h1
theorem ds_expr (he : DE X W e me) (hs : swapsWith e none pos.line X.env = pure false := by rfl) : DS X W (.Expr e pos) (iDrop me) :=
  (ps_expr he hs).imp fun D σ H ⟨w, S, Λ, r0, s0, p⟩ => ⟨w, S, Λ, r0, s0, p.bind.imp fun w1 H1 S1 ix l1 r1 p1 v1 rv1 => p1.now r1 σ (s0.up l1)⟩
theorem ds_ret (he : DE X W e me) : DS X W (.Return (some e) pos) (iRet me) :=
  (ps_ret he).imp fun D σ H ⟨w, S, Λ, r0, s0, p⟩ => ⟨w, S, Λ, r0, s0, p.bind.imp fun w1 H1 S1 ix l1 r1 p1 v1 rv1 => p1.now r1 v1 rv1⟩
theorem ds_if {c : Expr} {a b : List Stmt} {tc : IT} (hc : DT X W c tc) (ha : DSs X W a m) (hb : DSs X W b u) : DS X W (.If c a b pos) (iIf tc m u) :=
  (ps_if hc ha hb).imp fun D σ H ⟨w, S, Λ, r0, s0, p⟩ => ⟨w, S, Λ, r0, s0, p.bind.imp fun w1 H1 S1 k l1 r1 p1 => by
    cases k with
    | true => rw [if_pos rfl] at p1 ⊢; exact ⟨w1, S1, Λ, r1, s0.up l1, p1⟩
    | false => rw [if_neg Bool.false_ne_true] at p1 ⊢; exact ⟨w1, S1, Λ, r1, s0.up l1, p1⟩⟩
theorem dg_name (i : Nat) {x : Str} (hN : X.N.Nodup) (hi : X.N[i]? = some x := by rfl) (hx : Loc X.env.scope x := by first | exact Or.inl rfl | exact Or.inr rfl) (hf : X.fn x = true ∨ X.env.scope.names.lookup x = some .local := by first | exact .inl rfl | exact .inr rfl) : DG X W (.Name x pos) (iName i) :=
  (pg_name hN hi hx hf).imp fun v σ H Q ⟨w, S, Λ, iv, r0, s0, rv, p⟩ => p.now r0 _ (s0.set i rv)
theorem ds_set (i : Nat) {x : Str} (hN : X.N.Nodup) (he : DE X W e me) (hi : X.N[i]? = some x := by rfl) (hx : Loc X.env.scope x := by first | exact Or.inl rfl | exact Or.inr rfl) (hs : swapsWith e (some (.Name x pos')) pos.line X.env = pure false := by rfl)
    (hf : X.fn x = true ∨ X.env.scope.names.lookup x = some .local := by first | exact .inl rfl | exact .inr rfl) : DS X W (.Assign [.Name x pos'] e pos) (iSet i me) :=
  (ps_set hN hi hx he hs hf).imp fun D σ H ⟨w, S, Λ, r0, s0, p⟩ => ⟨w, S, Λ, r0, s0, p.bind.imp fun w1 H1 S1 ix l1 r1 p1 v1 rv1 => p1.now r1 _ ((s0.up l1).set i rv1)⟩
theorem ds_asg {tg : Expr} (he : DE X W e me) (hg : DG X W tg g) (hs : swapsWithSole [tg] e pos.line X.env = pure false := by rfl) (hw : swappedStores [tg] e X.env = pure none := by rfl)
    (h1 : (assignEach [tg] X.env).map (·.2) = [assign tg X.env] := by rfl) : DS X W (.Assign [tg] e pos) (iAsg me g) :=
  (ps_asg he hg hs hw h1).imp fun D σ H ⟨w, S, Λ, r0, s0, p⟩ => ⟨w, S, Λ, r0, s0, p.bind.imp fun w1 H1 S1 ix l1 r1 p1 v1 rv1 => ⟨w1, S1, Λ, ix, r1, s0.up l1, rv1, p1.bind.imp fun w2 H2 S2 L l2 r2 p2 => p2.now r2⟩⟩
def iAug (i : Nat) (f : IV → IV → Sto → Out IV) (m : IE) : IS := fun Λ S => (iVar i Λ S).bind fun x S0 => (m Λ S0).bind fun y S1 => (f x y S1).bind fun z S2 => .ok (.nx (Λ.set i (some z))) S2
theorem ds_aug (i : Nat) {x : Str} {op : Operator} {r : R2} {f : IV → IV → Sto → Out IV} (hN : X.N.Nodup) (ho : OpR X (inplaceOp op) r) (hs : OpS (kx X W) W.x r f) (he : DE X W e me) (hi : X.N[i]? = some x := by rfl) (hx : Loc X.env.scope x := by first | exact Or.inl rfl | exact Or.inr rfl)
    (hf : X.fn x = true ∨ X.env.scope.names.lookup x = some .local := by first | exact .inl rfl | exact .inr rfl) : DS X W (.AugAssign (.Name x pos') op e pos) (iAug i f me) :=
  (ps_aug hN hi hx he (ti := r) ho hf).imp fun D σ H ⟨w, S, Λ, r0, s0, p⟩ => by
    unfold iAug iVar at p
    split at p
    · rename_i iv el
      obtain ⟨v, h1, h2⟩ := s0.get i iv el
      have p : Post (kx X W) W.x w ((me Λ S).bind fun y S1 => (f iv y S1).bind fun z S2 => Out.ok (Fl.nx (Λ.set i (some z))) S2) (fun w' H' _ fl => FlP (kx X W) w' D H' fl) := p
      exact ⟨v, h1, w, S, Λ, r0, s0, p.bind.imp fun w1 H1 S1 iy l1 r1 p1 v1 rv1 => hs w1 S1 H1 _ _ _ _ _ r1 (h2.up l1) rv1 (p1.bind.imp fun w2 H2 S2 iz l2 r2 p2 v2 rv2 => p2.now r2 _ ((s0.up (l1.trans l2)).set i rv2))⟩
    · exact p.elim
abbrev IGs := List IV → Slots → Sto → Out Slots
def iGNil : IGs := fun xs Λ S => match xs with
  | [] => .ok Λ S
  | _ => .bad
def iGCons (g : IG) (r : IGs) : IGs := fun xs Λ S => match xs with
  | x :: xs => (g x Λ S).bind fun L S1 => r xs L S1
  | [] => .bad
def gsM (K : KX) (W : WX) (m : IGs) : TGs := fun vs σ H Q => ∃ w S Λ ivs, R K w S H ∧ SR K w σ Λ ∧ RelL K w vs ivs ∧ Post K W w (m ivs Λ S) fun w' H' _ L => ∀ σ', SR K w' σ' L → Q σ' H'
theorem _root_.L2.PGs.imp {X : Cx} {e : List Expr} {t t' : TGs} (h : PGs X e t) (f : ∀ v σ H Q, t' v σ H Q → t v σ H Q) : PGs X e t' := ⟨fun pins s σ H v u Q I r q => h.run pins s σ H v u Q I r (f v σ H Q q)⟩
abbrev DGs (X : Cx) (W : WZ) (e : List Expr) (m : IGs) : Prop := PGs X e (gsM (kx X W) W.x m)
theorem dgs_nil : DGs X W [] iGNil := pgs_nil.imp fun v σ H Q ⟨w, S, Λ, ivs, r0, s0, rv, p⟩ => by
  cases rv with
  | nil => exact ⟨rfl, Post.now (show Post (kx X W) W.x w (Out.ok Λ S) _ from p) r0 σ s0⟩
  | cons a b => exact p.elim
theorem dgs_cons {es : List Expr} {r : IGs} (h1 : DG X W e g) (h2 : DGs X W es r) (hs : (assignEach (e :: es) X.env).map (·.2) = assign e X.env :: (assignEach es X.env).map (·.2) := by rfl) : DGs X W (e :: es) (iGCons g r) :=
  (pgs_cons h1 h2 hs).imp fun v σ H Q ⟨w, S, Λ, ivs, r0, s0, rv, p⟩ => by
    cases rv with
    | nil => exact p.elim
    | cons a b =>
      have p : Post (kx X W) W.x w ((g _ Λ S).bind fun L S1 => r _ L S1) (fun w' H' _ L => ∀ σ', SR (kx X W) w' σ' L → Q σ' H') := p
      exact ⟨_, _, rfl, w, S, Λ, _, r0, s0, a, p.bind.imp fun w1 H1 S1 L l1 r1 p1 σ' s' => ⟨w1, S1, L, _, r1, s', b.up l1, p1⟩⟩
def iGTup (n : Nat) (gs : IGs) : IG := fun x Λ S => orBad (tupOf x) fun xs => chk (xs.length = n) (gs xs Λ S)
theorem dg_tup {es : List Expr} {k n : Nat} {gs : IGs} (hc : X.calm = true) (h : DGs X W es gs) (hn : (assignEach es X.env).length = n := by rfl) (hst : (assignEach es X.env).findIdx? (·.1) = none := by rfl) : DG X W (.Tuple es k pos) (iGTup n gs) :=
  (pg_tup hc h hn hst).imp fun v σ H Q ⟨w, S, Λ, iv, r0, s0, rv, p⟩ => by
    obtain ⟨ivs, h1, p⟩ := orBad_post p
    obtain ⟨h2, p⟩ := chk_post p
    obtain ⟨a, xs, e1, e2, e3⟩ := tupOf_sq h1 r0 rv
    exact ⟨a, xs, e1, e2, e3.length.trans h2, w, S, Λ, ivs, r0, s0, e3, p⟩
def iGSub (mo mi : IE) : IG := fun x Λ S => (mo Λ S).bind fun o S1 => (mi Λ S1).bind fun i S2 => asI i fun k => match o with
  | .adr n => (match S2[n]? with
    | some (.lst xs) => orBad (ixN xs.length k) fun j => .ok Λ (S2.set n (.lst (xs.set j x)))
    | _ => .bad)
  | _ => .bad
theorem dg_sub {o i : Expr} {mo mi : IE} (ho : DE X W o mo) (hi : DE X W i mi)
    (ha : ∀ v, assign (.Subscript o i pos) X.env v = (do
      let ov ← holding [v] (eval o X.env)
      let iv ← holding [v, ov] (eval i X.env)
      standAt pos
      holding [v, ov, iv] (setItem ov iv v)
      release [v, ov, iv] []) := by intro _; rfl) : DG X W (.Subscript o i pos) (iGSub mo mi) :=
  (pg_sub ho hi set_list ha).imp fun v σ H Q ⟨w, S, Λ, iv, r0, s0, rv, p⟩ => ⟨w, S, Λ, r0, s0, p.bind.imp fun w1 H1 S1 o1 l1 r1 p1 v1 rv1 => ⟨w1, S1, Λ, r1, s0.up l1, p1.bind.imp fun w2 H2 S2 i2 l2 r2 p2 v2 rv2 => by
    obtain ⟨k, rfl, rfl, q⟩ := asI_post p2 rv2
    have rv1 := rv1.up l2
    cases rv1 with
    | adr hrho =>
      rename_i n a
      cases hq : S2[n]? with
      | none => simp only [hq] at q; exact q.elim
      | some c =>
        simp only [hq] at q
        cases c with
        | lst xs =>
          obtain ⟨j, hj, q⟩ := orBad_post q
          obtain ⟨vs, h1, h2⟩ := r2.cell n _ a hq hrho
          have rw' : R (kx X W) w2 (S2.set n (.lst (xs.set j iv))) (upd H2 a (.lst (vs.set j v))) := r2.write hrho ⟨_, upd_same, h2.set (rv.up (l1.trans l2)) j⟩ (fun _ e => by rw [hq] at e; cases e)
          exact ⟨a, vs, k, j, rfl, rfl, h1, by rw [h2.length]; exact hj, q.now rw' σ (s0.up (l1.trans l2))⟩
        | _ => exact q.elim
    | _ => exact q.elim⟩⟩
end
structure Src where
  items : List IV
  keep : Option Nat
def Src.stay (s : Src) (S : Sto) : Prop := match s.keep with
  | none => True
  | some n => S[n]? = some (.lst s.items)
open Classical in
noncomputable def chkP {α : Type} (p : Prop) (o : Out α) : Out α := if p then o else .bad
theorem chkP_pos {α : Type} {p : Prop} {o : Out α} (h : p) : chkP p o = o := if_pos h
theorem chkP_neg {α : Type} {p : Prop} {o : Out α} (h : ¬ p) : chkP p o = .bad := if_neg h
theorem chkP_post {α : Type} {K : KX} {W : WX} {w : Wd} {p : Prop} {o : Out α} {P : Wd → Hp → Sto → α → Prop} (h : Post K W w (chkP p o) P) : p ∧ Post K W w o P := by
  by_cases hp : p
  · rw [chkP_pos hp] at h; exact ⟨hp, h⟩
  · rw [chkP_neg hp] at h; exact h.elim
structure ItR (K : KX) (w0 : Wd) (J : It) (s : Src) : Prop where
  go : ∀ (w : Wd) (S : Sto) (H : Hp) (i : Nat), w0.lz w → R K w S H → s.stay S → i < s.items.length → J.go i H
  stop : ∀ (w : Wd) (S : Sto) (H : Hp) (i : Nat), w0.lz w → R K w S H → s.stay S → s.items.length ≤ i → J.stop i H
  yld : ∀ (w : Wd) (S : Sto) (H : Hp) (i : Nat) (iv : IV) (x : V) (H' : Hp), w0.lz w → R K w S H → s.stay S → s.items[i]? = some iv → J.yld i H x H' → ∃ w', w.le w' ∧ R K w' S H' ∧ Rel K w' x iv
abbrev IW := Slots → Sto → Out Src
def wM (K : KX) (W : WX) (m : IW) : TI := fun σ H Rr => ∃ w S Λ, R K w S H ∧ SR K w σ Λ ∧ Post K W w (m Λ S) fun w' H' S' s => ∀ J, ItR K w' J s → Rr J H'
abbrev DI (X : Cx) (W : WZ) (tg e : Expr) (m : IW) : Prop := PI X tg e (wM (kx X W) W.x m)
theorem _root_.L2.PI.imp {X : Cx} {tg e : Expr} {t t' : TI} (h : PI X tg e t) (f : ∀ σ H Q, t' σ H Q → t σ H Q) : PI X tg e t' := ⟨fun pins s σ H Q I q => h.run pins s σ H Q I (f σ H Q q)⟩
def fSrcL (x : IV) (S : Sto) : Out Src := match x with
  | .adr n => (match S[n]? with
    | some (.lst xs) => .ok ⟨xs, some n⟩ S
    | _ => .bad)
  | x => orBad (lstOf S x) fun xs => .ok ⟨xs, none⟩ S
def iSrcL (m : IE) : IW := fun Λ S => (m Λ S).bind fun x S1 => fSrcL x S1
theorem fSrcL_cases {K : KX} {W : WX} {w : Wd} {S : Sto} {H : Hp} {x : V} {ix : IV} {P : Wd → Hp → Sto → Src → Prop} (h : Post K W w (fSrcL ix S) P) (r : R K w S H) (rx : Rel K w x ix) :
    ∃ a s, x = .ref a ∧ (∃ xs, SqL K.k H a xs) ∧ Post K W w (.ok s S) P ∧ ItR K w (Itl K.k a) s := by
  have mk : ∀ {a : Addr} {s : Src}, (∀ w' S' H', w.lr w' → R K w' S' H' → s.stay S' → ∃ xs, SqL K.k H' a xs ∧ RelL K w' xs s.items) → ItR K w (Itl K.k a) s := fun {a s} f => by
    refine ⟨fun w' S' H' i l r' st hi => ?_, fun w' S' H' i l r' st hi => ?_, fun w' S' H' i iv x H2 l r' st hi hy => ?_⟩
    · obtain ⟨xs, h1, h2⟩ := f w' S' H' l.1 r' st
      obtain ⟨v, h3, _⟩ := h2.get (List.getElem?_eq_getElem hi)
      exact ⟨xs, v, h1, h3⟩
    · obtain ⟨xs, h1, h2⟩ := f w' S' H' l.1 r' st
      exact ⟨xs, h1, by rw [h2.length]; exact hi⟩
    · obtain ⟨xs, h1, h2⟩ := f w' S' H' l.1 r' st
      obtain ⟨e1, e2⟩ := hy
      subst e1
      obtain ⟨v, h3, h4⟩ := h2.get hi
      have := (e2 xs h1).symm.trans h3
      cases this
      exact ⟨w', Wd.le.refl _, r', h4⟩
  unfold fSrcL at h
  split at h
  · cases rx with
    | adr hrho =>
      split at h
      · rename_i n xs hq
        rename_i a _ _
        obtain ⟨vs, h1, h2⟩ := r.cell _ _ _ hq hrho
        refine ⟨_, _, rfl, ⟨vs, .of h1⟩, h, mk fun w' S' H' l r' st => ?_⟩
        obtain ⟨us, h3, h4⟩ := r'.cell _ _ _ (show S'[_]? = some (.lst xs) from st) (l.get hrho)
        exact ⟨us, .of h3, h4⟩
      · exact h.elim
  · rename_i hn
    obtain ⟨xs, e, h⟩ := orBad_post h
    cases ix with
    | lst ys =>
      cases e
      cases rx with
      | lst h1 h2 => exact ⟨_, _, rfl, ⟨_, .of (r.F _ _ h1)⟩, h, mk fun w' S' H' l r' st => ⟨_, .of (r'.F _ _ (l.F _ _ h1)), RelL.mono l _ _ h2⟩⟩
    | wls ys =>
      cases e
      cases rx with
      | wls h1 h2 => exact ⟨_, _, rfl, ⟨_, r.F.seq h1⟩, h, mk fun w' S' H' l r' st => ⟨_, r'.F.seq (l.F.seq h1), RelL.mono l _ _ h2⟩⟩
    | adr n => exact absurd rfl (hn n)
    | _ => cases e
def rangeI (lo : Int) (n : Nat) : List IV := (List.range n).map fun (i : Nat) => .int (lo + i)
theorem itR_range {K : KX} {w : Wd} {lo : Int} {n : Nat} : ItR K w (Itr lo n) ⟨rangeI lo n, none⟩ := by
  refine ⟨fun w' S' H' i l r' st hi => ?_, fun w' S' H' i l r' st hi => ?_, fun w' S' H' i iv x H2 l r' st hi hy => ?_⟩
  · show i < n
    simpa [rangeI] using hi
  · show n ≤ i
    simpa [rangeI] using hi
  · obtain ⟨e1, e2⟩ := hy
    subst e1 e2
    refine ⟨w', Wd.le.refl _, r', ?_⟩
    have hi : (rangeI lo n)[i]? = some iv := hi
    unfold rangeI at hi
    rw [List.getElem?_map] at hi
    obtain ⟨j, h1, h2⟩ := Option.map_eq_some_iff.mp hi
    obtain ⟨hj, h3⟩ := List.getElem?_eq_some_iff.mp h1
    rw [List.getElem_range] at h3
    subst h3 h2
    exact .int _
instance (j : Int) : Decidable (-(2 ^ 62) ≤ j ∧ j < 2 ^ 62) := by infer_instance
def iSrcR1 (m : IE) : IW := fun Λ S => (m Λ S).bind fun x S1 => asI x fun j => chk (-(2 ^ 62) ≤ j ∧ j < 2 ^ 62) (.ok ⟨rangeI 0 j.toNat, none⟩ S1)
def iSrcR2 (m m' : IE) : IW := fun Λ S => (m Λ S).bind fun x S1 => (m' Λ S1).bind fun y S2 => asI x fun i => asI y fun j => chk (-(2 ^ 62) ≤ i ∧ i < 2 ^ 62 ∧ -(2 ^ 62) ≤ j ∧ j < 2 ^ 62) (.ok ⟨rangeI i (j - i).toNat, none⟩ S2)
def iSrcS (m : IE) : IW := fun Λ S => (m Λ S).bind fun x S1 => asS x fun z => .ok ⟨z.cps.toList.map fun c => .str ⟨#[c]⟩, none⟩ S1
def iSrcT (m : IE) : IW := fun Λ S => (m Λ S).bind fun x S1 => orBad (tupOf x) fun xs => .ok ⟨xs, none⟩ S1
section
variable {X : Cx} {W : WZ} {tg e e' : Expr} {m m' : IE} {p pos : Pos}
theorem di_list (h : DE X W e m) : DI X W tg e (iSrcL m) := (pi_list h).imp fun σ H Q ⟨w, S, Λ, r0, s0, p⟩ => ⟨w, S, Λ, r0, s0, p.bind.imp fun w1 H1 S1 ix l1 r1 p1 v1 rv1 => by
  obtain ⟨a, s, h1, h2, h3, h4⟩ := fSrcL_cases p1 r1 rv1
  exact ⟨a, h1, h2, h3.now r1 _ h4⟩⟩
theorem di_tup (h : DE X W e m) : DI X W tg e (iSrcT m) := (pi_tup h).imp fun σ H Q ⟨w, S, Λ, r0, s0, p⟩ => ⟨w, S, Λ, r0, s0, p.bind.imp fun w1 H1 S1 ix l1 r1 p1 v1 rv1 => by
  obtain ⟨ivs, h1, q⟩ := orBad_post p1
  obtain ⟨a, xs, e1, e2, e3⟩ := tupOf_sq h1 r1 rv1
  have hF : SqT X.K w1.F a xs ∨ True := .inr trivial
  cases ix with
  | tup ys =>
    cases h1
    cases rv1 with
    | tup k1 k2 =>
      cases e1
      refine ⟨_, rfl, ⟨_, e2⟩, q.now r1 _ ⟨fun w' S' H' i l r' st hi => ?_, fun w' S' H' i l r' st hi => ?_, fun w' S' H' i iv x H2 l r' st hi hy => ?_⟩⟩
      · obtain ⟨v, h3, _⟩ := k2.get (List.getElem?_eq_getElem hi)
        exact ⟨_, v, same_t r'.F (same_t l.F k1), h3⟩
      · exact ⟨_, same_t r'.F (same_t l.F k1), by rw [k2.length]; exact hi⟩
      · obtain ⟨f1, f2⟩ := hy
        subst f1
        obtain ⟨v, h3, h4⟩ := k2.get hi
        have := (f2 _ (same_t r'.F (same_t l.F k1))).symm.trans h3
        cases this
        exact ⟨w', Wd.le.refl _, r', Rel.mono l.1 _ _ h4⟩
  | _ => cases h1⟩
theorem di_range1 (hm : X.mg "range" = none) (ha : DA X W [e] (iCons m iNil)) (hg : Gl X "range" := by rfl) (hs : starEach [e] X.env = [(false, eval e X.env)] := by rfl) : DI X W tg (.Call (.Name "range" p) [e] [] pos) (iSrcR1 m) :=
  (pi_range1 hg hm ha hs).imp fun σ H Q ⟨w, S, Λ, r0, s0, p⟩ => ⟨w, S, Λ, r0, s0, by
    unfold iCons iNil
    cases h : m Λ S with
    | ok x S1 =>
      unfold iSrcR1 at p
      rw [h] at p
      intro w1 H1 l1 r1 vs rv
      cases rv with
      | cons a b =>
        cases b
        obtain ⟨j, rfl, rfl, q⟩ := asI_post (p.up l1) a
        obtain ⟨hj, q⟩ := chk_post q
        exact ⟨j, rfl, hj.1, hj.2, q.now r1 _ itR_range⟩
    | exc C n L S1 => unfold iSrcR1 at p; rw [h] at p; exact p
    | bad => unfold iSrcR1 at p; rw [h] at p; exact p⟩
end
noncomputable def iIter (s : Src) (g : IG) (b : IS) : List IV → Slots → Sto → Out Fl
  | [], Λ, S => chkP (s.stay S) (.ok (.nx Λ) S)
  | x :: xs, Λ, S => chkP (s.stay S) ((g x Λ S).bind fun Λ1 S1 => (b Λ1 S1).bind fun fl S2 => match fl with
    | .nx L => iIter s g b xs L S2
    | .ct L => iIter s g b xs L S2
    | .bk L => .ok (.nx L) S2
    | .rt v => .ok (.rt v) S2)
noncomputable def iFor (ms : IW) (g : IG) (b : IS) : IS := fun Λ S => (ms Λ S).bind fun s S1 => iIter s g b s.items Λ S1
theorem for_loop {K : KX} {W : WX} {g : IG} {b : IS} {D : Ends} {σ : L2.St} {H1 : Hp} {J : It} {s : Src} {w1 : Wd} {S1 : Sto} {Λ : Slots} (hJ : ItR K w1 J s) (r1 : R K w1 S1 H1) (s0 : SR K w1 σ Λ) (p1 : Post K W w1 (iIter s g b s.items Λ S1) fun w' H' _ fl => FlP K w' D H' fl) : tFor (fun _ H Rr => Rr J H) (gM K W g) (sM K W b) D σ H1 := by
  refine ⟨fun i m σ H => m = s.items.length - i ∧ i ≤ s.items.length ∧ ∃ w2 S2 L, w1.le w2 ∧ R K w2 S2 H ∧ SR K w2 σ L ∧ Post K W w2 (iIter s g b (s.items.drop i) L S2) fun w' H' _ fl => FlP K w' D H' fl,
    ⟨s.items.length, by simp, Nat.zero_le _, w1, S1, Λ, Wd.le.refl _, r1, s0, by rw [List.drop_zero]; exact p1⟩, ?_⟩
  rintro i m σ2 H2 ⟨rfl, hi, w2, S2, L, l2, r2, s2, p2⟩
  by_cases hlt : i < s.items.length
  · rw [List.drop_eq_getElem_cons hlt] at p2
    obtain ⟨st, p2⟩ := chkP_post (show Post K W w2 (chkP (s.stay S2) _) _ from p2)
    refine .inr ⟨hJ.go w2 S2 H2 i l2.lz r2 st hlt, fun σ' H' => i + 1 ≤ s.items.length ∧ ∃ w3 S3 L3, w1.le w3 ∧ R K w3 S3 H' ∧ SR K w3 σ' L3 ∧ Post K W w3 (iIter s g b (s.items.drop (i + 1)) L3 S3) fun w' H' _ fl => FlP K w' D H' fl,
      fun σ' H' h' => ⟨s.items.length - (i + 1), by omega, rfl, h'.1, h'.2⟩, fun x H' y => ?_⟩
    obtain ⟨w3, l3, r3, rv⟩ := hJ.yld w2 S2 H2 i _ x H' l2.lz r2 st (List.getElem?_eq_getElem hlt) y
    refine ⟨w3, S2, L, _, r3, s2.up l3, rv, (p2.up l3).bind.imp fun w4 H4 S4 L4 l4 r4 p4 σ4 s4 => ⟨w4, S4, L4, r4, s4, p4.bind.imp fun w5 H5 S5 fl l5 r5 p5 => ?_⟩⟩
    have lA := l2.trans (l3.trans (l4.trans l5))
    cases fl with
    | nx L5 => exact fun σ5 s5 => ⟨hlt, w5, S5, L5, lA, r5, s5, p5⟩
    | ct L5 => exact fun σ5 s5 => ⟨hlt, w5, S5, L5, lA, r5, s5, p5⟩
    | bk L5 => exact Post.now (show Post K W w5 (Out.ok (Fl.nx L5) S5) (fun w' H' _ fl => FlP K w' D H' fl) from p5) r5
    | rt v => exact Post.now (show Post K W w5 (Out.ok (Fl.rt v) S5) (fun w' H' _ fl => FlP K w' D H' fl) from p5) r5
  · have e : i = s.items.length := by omega
    subst e
    rw [List.drop_length] at p2
    obtain ⟨st, p2⟩ := chkP_post (show Post K W w2 (chkP (s.stay S2) _) _ from p2)
    exact .inl ⟨hJ.stop w2 S2 H2 _ l2.lz r2 st (Nat.le_refl _), p2.now r2 σ2 s2⟩
theorem for_M {K : KX} {W : WX} {ms : IW} {g : IG} {b : IS} {D : Ends} {σ : L2.St} {H : Hp} (h : sM K W (iFor ms g b) D σ H) : tFor (wM K W ms) (gM K W g) (sM K W b) D σ H := by
  obtain ⟨w, S, Λ, r0, s0, p⟩ := h
  exact ⟨w, S, Λ, r0, s0, p.bind.imp fun w1 H1 S1 s l1 r1 p1 J hJ => for_loop hJ r1 (s0.up l1) p1⟩
section
variable {X : Cx} {W : WZ} {pos : Pos} {tg iter : Expr} {body : List Stmt} {ms : IW} {g : IG} {b : IS}
theorem ds_for (hp : PassesOwn (model X.prog X.w) X.A X.env X.xe) (hc : X.calm = true) (hi : DI X W tg iter ms) (hg : DG X W tg g) (hb : DSs X W body b) (hs : ∀ x, foldedSetIterable iter X.env x = pure x := by intro _; rfl) : DS X W (.For tg iter body [] pos) (iFor ms g b) :=
  (ps_for hp hc hi hg hb hs).imp fun D σ H h => for_M h
end
def iWh (c : IT) (b : IS) : Nat → Slots → Sto → Out Fl
  | 0, _, _ => .bad
  | n + 1, Λ, S => (c Λ S).bind fun k S1 => if k = true then (b Λ S1).bind fun fl S2 => match fl with
      | .nx L => iWh c b n L S2
      | .ct L => iWh c b n L S2
      | .bk L => .ok (.nx L) S2
      | .rt v => .ok (.rt v) S2
    else .ok (.nx Λ) S1
open Classical in
noncomputable def iWhile (c : IT) (b : IS) : IS := fun Λ S => if h : ∃ n, iWh c b n Λ S ≠ .bad then iWh c b h.choose Λ S else .bad
theorem iWh_mono {c : IT} {b : IS} : ∀ (n m : Nat) (Λ : Slots) (S : Sto), iWh c b n Λ S ≠ .bad → n ≤ m → iWh c b m Λ S = iWh c b n Λ S
  | 0, _, _, _, h, _ => absurd rfl h
  | n + 1, 0, _, _, _, l => by omega
  | n + 1, m + 1, Λ, S, h, l => by
    unfold iWh at h ⊢
    cases hc : c Λ S with
    | ok k S1 =>
      rw [hc] at h
      simp only [Out.bind_ok] at h ⊢
      cases k with
      | true =>
        rw [if_pos rfl] at h ⊢
        cases hb : b Λ S1 with
        | ok fl S2 =>
          rw [hb] at h
          simp only [Out.bind_ok] at h ⊢
          cases fl with
          | nx L => exact iWh_mono n m L S2 h (by omega)
          | ct L => exact iWh_mono n m L S2 h (by omega)
          | bk L => rfl
          | rt v => rfl
        | exc C k L S2 => rfl
        | bad => rfl
      | false => rfl
    | exc C k L S1 => rfl
    | bad => rfl
theorem iWhile_of {c : IT} {b : IS} {n : Nat} {Λ : Slots} {S : Sto} {o : Out Fl} (h : iWh c b n Λ S = o) (hb : o ≠ .bad) : iWhile c b Λ S = o := by
  have hx : ∃ n, iWh c b n Λ S ≠ .bad := ⟨n, by rw [h]; exact hb⟩
  unfold iWhile
  rw [dif_pos hx]
  have h1 := hx.choose_spec
  rcases Nat.le_total n hx.choose with l | l
  · rw [iWh_mono n _ Λ S (by rw [h]; exact hb) l, h]
  · rw [← iWh_mono _ n Λ S h1 l, h]
theorem while_M {K : KX} {W : WX} {c : IT} {b : IS} {D : Ends} {σ : L2.St} {H : Hp} (h : sM K W (iWhile c b) D σ H) : tWhile (tM K W c) (sM K W b) D σ H := by
  obtain ⟨w, S, Λ, r0, s0, p⟩ := h
  unfold iWhile at p
  split at p
  · rename_i hx
    generalize hx.choose = n at p
    refine ⟨fun m σ H => ∃ w2 S2 L, R K w2 S2 H ∧ SR K w2 σ L ∧ Post K W w2 (iWh c b m L S2) fun w' H' _ fl => FlP K w' D H' fl, ⟨n, w, S, Λ, r0, s0, p⟩, ?_⟩
    rintro m σ2 H2 ⟨w2, S2, L, r2, s2, p2⟩
    cases m with
    | zero => exact p2.elim
    | succ m =>
      unfold iWh at p2
      refine ⟨w2, S2, L, r2, s2, p2.bind.imp fun w3 H3 S3 k l3 r3 p3 => ?_⟩
      cases k with
      | true =>
        rw [if_pos rfl] at p3 ⊢
        refine ⟨fun σ' H' => ∃ w4 S4 L4, R K w4 S4 H' ∧ SR K w4 σ' L4 ∧ Post K W w4 (iWh c b m L4 S4) fun w' H' _ fl => FlP K w' D H' fl, fun σ' H' h' => ⟨m, Nat.lt_succ_self m, h'⟩,
          w3, S3, L, r3, s2.up l3, p3.bind.imp fun w5 H5 S5 fl l5 r5 p5 => ?_⟩
        cases fl with
        | nx L5 => exact fun σ5 s5 => ⟨w5, S5, L5, r5, s5, p5⟩
        | ct L5 => exact fun σ5 s5 => ⟨w5, S5, L5, r5, s5, p5⟩
        | bk L5 => exact Post.now (show Post K W w5 (Out.ok (Fl.nx L5) S5) (fun w' H' _ fl => FlP K w' D H' fl) from p5) r5
        | rt v => exact Post.now (show Post K W w5 (Out.ok (Fl.rt v) S5) (fun w' H' _ fl => FlP K w' D H' fl) from p5) r5
      | false =>
        rw [if_neg Bool.false_ne_true] at p3 ⊢
        exact p3.now r3 σ2 (s2.up l3)
  · exact p.elim
section
variable {X : Cx} {W : WZ} {pos : Pos} {c : Expr} {body : List Stmt} {tc : IT} {b : IS}
theorem ds_while (hp : PassesOwn (model X.prog X.w) X.A X.env X.xe) (hc : DT X W c tc) (hb : DSs X W body b) : DS X W (.While c body [] pos) (iWhile tc b) :=
  (ps_while hp hc hb).imp fun D σ H h => while_M h
end
def W0 : WX := fun _ _ _ _ => False
def noX {α : Type} : Out α → Out α
  | .exc _ _ _ _ => .bad
  | o => o
@[simp] theorem noX_ok {α : Type} (a : α) (S : Sto) : noX (.ok a S) = .ok a S := rfl
@[simp] theorem noX_bad {α : Type} : noX (.bad : Out α) = .bad := rfl
def wipeI (Λ : Slots) : List Nat → Slots
  | [] => Λ
  | v :: vs => (wipeI Λ vs).set v none
theorem sr_wipe {K : KX} {w : Wd} {σ : L2.St} {Λ : Slots} (s : SR K w σ Λ) (hx : K.ex = none) : ∀ vs : List Nat, SR K w (wipe σ vs) (wipeI Λ vs)
  | [] => s
  | v :: vs => (sr_wipe s hx vs).setN v none (by rw [hx]; rfl)
theorem wipe_get {σ : L2.St} {j : Nat} : ∀ {vs : List Nat}, (wipe σ vs)[j]? = if j ∈ vs then σ[j]?.map (fun _ => none) else σ[j]?
  | [] => by simp [wipe]
  | v :: vs => by
    unfold wipe
    by_cases h : v = j
    · subst h
      rw [if_pos List.mem_cons_self]
      by_cases hl : v < (wipe σ vs).length
      · rw [List.getElem?_set_self hl]
        rw [wipe_length] at hl
        rw [List.getElem?_eq_getElem hl]
        rfl
      · have hl' := hl
        rw [wipe_length] at hl'
        rw [List.getElem?_eq_none (by rw [List.length_set]; omega), List.getElem?_eq_none (by omega)]
        rfl
    · rw [List.getElem?_set_ne h, wipe_get (vs := vs)]
      have : (j ∈ v :: vs) ↔ j ∈ vs := by
        rw [List.mem_cons]
        exact ⟨fun z => z.elim (fun e => absurd e.symm h) id, .inr⟩
      by_cases hj : j ∈ vs
      · rw [if_pos hj, if_pos (this.mpr hj)]
      · rw [if_neg hj, if_neg fun z => hj (this.mp z)]
theorem wipe_set {σ : L2.St} {i : Nat} {u : Option V} {vs : List Nat} (h : i ∈ vs) : wipe (σ.set i u) vs = wipe σ vs := by
  refine List.ext_getElem? fun j => ?_
  rw [wipe_get, wipe_get]
  by_cases hj : j ∈ vs
  · rw [if_pos hj, if_pos hj]
    by_cases e : i = j
    · subst e
      by_cases hl : i < σ.length
      · rw [List.getElem?_set_self hl, List.getElem?_eq_getElem hl]; rfl
      · rw [List.getElem?_eq_none (by rw [List.length_set]; omega), List.getElem?_eq_none (by omega)]
    · rw [List.getElem?_set_ne e]
  · rw [if_neg hj, if_neg hj]
    have e : i ≠ j := fun e => hj (e ▸ h)
    rw [List.getElem?_set_ne e]
theorem wipe_wipe {σ : L2.St} : ∀ {vs ws : List Nat}, (∀ v ∈ ws, v ∈ vs) → wipe (wipe σ ws) vs = wipe σ vs
  | vs, [], _ => rfl
  | vs, w :: ws, h => by
    show wipe ((wipe σ ws).set w none) vs = wipe σ vs
    rw [wipe_set (h w List.mem_cons_self), wipe_wipe fun v hv => h v (List.mem_cons_of_mem _ hv)]
structure GC (K : KX) (vs : List Nat) (g : TG) (gi : IV → Slots → Option Slots) : Prop where
  run : ∀ (w : Wd) (S : Sto) (H : Hp) (σ : L2.St) (Λ : Slots) (x : V) (ix : IV) (L : Slots) (Q : L2.St → Hp → Prop), R K w S H → SR K w σ Λ → Rel K w x ix → gi ix Λ = some L → (∀ σ', SR K w σ' L → wipe σ' vs = wipe σ vs → Q σ' H) → g x σ H Q
def giN (j : Nat) (x : IV) (Λ : Slots) : Option Slots := some (Λ.set j (some x))
theorem gc_name {K : KX} {vs : List Nat} {j : Nat} (h : j ∈ vs) : GC K vs (gName j) (giN j) :=
  ⟨fun w S H σ Λ x ix L Q r s rx e k => by
    cases e
    exact k _ (s.set j rx) (wipe_set h)⟩
noncomputable def iLcGo (s : Src) (gi : IV → Slots → Option Slots) (tt : IT) (te : IE) : List IV → Slots → Sto → List IV → Out (List IV)
  | [], _, S, acc => chkP (s.stay S) (.ok acc S)
  | x :: xs, Λ, S, acc => chkP (s.stay S) (orBad (gi x Λ) fun L => (noX (tt L S)).bind fun b S1 => if b = true then (noX (te L S1)).bind fun y S2 => chk (acc.length < sizeLine) (iLcGo s gi tt te xs Λ S2 (acc ++ [y])) else iLcGo s gi tt te xs Λ S1 acc)
noncomputable def iLc (cell : Bool) (ms : IW) (gi : IV → Slots → Option Slots) (tt : IT) (te : IE) (vs : List Nat) : IE := fun Λ S => (ms Λ S).bind fun s S1 => (iLcGo s gi tt te s.items (wipeI Λ vs) S1 []).bind fun acc S2 => mkL cell acc S2
def iYes : IT := fun _ S => .ok true S
abbrev DTs (X : Cx) (W : WZ) (e : List Expr) (m : IT) : Prop := PTs X e (tM (kx X W) W.x m)
theorem noX_post {α : Type} {K : KX} {w w' : Wd} {o : Out α} {P : Wd → Hp → Sto → α → Prop} (h : ∀ a S, noX o = .ok a S → ∀ w2 H2, w.le w2 → R K w2 S H2 → P w2 H2 S a) (hb : noX o ≠ .bad) : Post K W0 w o P := by
  cases o with
  | ok a S => exact h a S rfl
  | exc C n L S => exact absurd rfl hb
  | bad => exact absurd rfl hb
theorem lc_M {K : KX} {W : WX} {cell : Bool} {ms : IW} {g : TG} {gi : IV → Slots → Option Slots} {tt : IT} {te : IE} {vs : List Nat} {σ : L2.St} {H : Hp} {Q : VK} (hg : GC K vs g gi) (hx : K.ex = none) (h : eM K W (iLc cell ms gi tt te vs) σ H Q) :
    tLc (wM K W ms) g (tM K W0 tt) (eM K W0 te) vs σ H Q := by
  obtain ⟨w, S, Λ, r0, s0, p⟩ := h
  refine ⟨w, S, Λ, r0, s0, p.bind.imp fun w1 H1 S1 s l1 r1 p1 J hJ => ?_⟩
  intro D hD
  have hG : w1.G D = none := by
    cases q : w1.G D with
    | none => rfl
    | some u => rw [r1.G _ _ q] at hD; cases hD
  have s1 := sr_wipe (s0.up l1) hx vs
  -- the word at turn i: the new list at D is a ghost
  let Z : Nat → Hp → Prop := fun i H => i ≤ s.items.length ∧ ∃ (rho : List Addr) (F : Hp) (S2 : Sto) (xs : List V) (acc : List IV), w1.le ⟨rho, F, w1.G⟩ ∧ R K ⟨rho, F, upd w1.G D (.lst xs)⟩ S2 H ∧ RelL K ⟨rho, F, w1.G⟩ xs acc ∧
    Post K W ⟨rho, F, w1.G⟩ ((iLcGo s gi tt te (s.items.drop i) (wipeI Λ vs) S2 acc).bind fun acc S2 => mkL cell acc S2) fun w' H' _ iv => ∀ v, Rel K w' v iv → Q v H'
  refine ⟨fun i m H => m = s.items.length - i ∧ Z i H, ⟨s.items.length, by simp, Nat.zero_le _, w1.rho, w1.F, S1, [], [], Wd.le.refl w1, r1.ghost hD, .nil, by rw [List.drop_zero]; exact p1⟩, ?_⟩
  rintro i m H2 ⟨rfl, hi, rho, F, S2, xs, acc, l2, r2, rl, p2⟩
  have l2' : w1.lr ⟨rho, F, upd w1.G D (.lst xs)⟩ := ⟨l2.rho, l2.F⟩
  have l2z : w1.lz ⟨rho, F, upd w1.G D (.lst xs)⟩ := ⟨l2', fun a u v e => by
    show upd w1.G D (.lst xs) a = some (.frz u v)
    rw [upd_ne (ne_of_none e hG)]; exact e⟩
  by_cases hlt : i < s.items.length
  · rw [List.drop_eq_getElem_cons hlt] at p2
    have st : s.stay S2 := by
      by_cases hs : s.stay S2
      · exact hs
      · exact (show Post K W ⟨rho, F, w1.G⟩ ((chkP (s.stay S2) _).bind _) _ from p2) |> fun z => by rw [chkP_neg hs] at z; exact z.elim
    have p2 : Post K W ⟨rho, F, w1.G⟩ ((orBad (gi s.items[i] (wipeI Λ vs)) fun L => (noX (tt L S2)).bind fun b S1 => if b = true then (noX (te L S1)).bind fun y S2 => chk (acc.length < sizeLine) (iLcGo s gi tt te (s.items.drop (i + 1)) (wipeI Λ vs) S2 (acc ++ [y])) else iLcGo s gi tt te (s.items.drop (i + 1)) (wipeI Λ vs) S1 acc).bind fun acc S2 => mkL cell acc S2) (fun w' H' _ iv => ∀ v, Rel K w' v iv → Q v H') := by
      have z := (show Post K W ⟨rho, F, w1.G⟩ ((chkP (s.stay S2) _).bind _) _ from p2)
      rw [chkP_pos st] at z
      exact z
    refine .inr ⟨hJ.go _ S2 H2 i l2z r2 st hlt, Z (i + 1), fun H' z => ⟨s.items.length - (i + 1), by omega, rfl, z⟩, fun x H' y => ?_⟩
    obtain ⟨⟨rho3, F3, G3⟩, l3, r3, rv⟩ := hJ.yld _ S2 H2 i _ x H' l2z r2 st (List.getElem?_eq_getElem hlt) y
    have hG3 : G3 = upd w1.G D (.lst xs) := l3.G
    subst hG3
    have l23 : w1.le ⟨rho3, F3, w1.G⟩ := ⟨⟨(l2'.trans l3.1).rho, (l2'.trans l3.1).F⟩, rfl⟩
    have lp3 : Wd.le ⟨rho, F, w1.G⟩ ⟨rho3, F3, w1.G⟩ := ⟨⟨l3.rho, l3.F⟩, rfl⟩
    cases hgi : gi s.items[i] (wipeI Λ vs) with
    | none => rw [hgi] at p2; exact p2.elim
    | some L =>
      rw [hgi, orBad_some] at p2
      have sw : SR K ⟨rho3, F3, upd w1.G D (.lst xs)⟩ (wipe σ vs) (wipeI Λ vs) := s1.mono (l2'.trans l3.1)
      refine hg.run _ S2 H' _ _ x _ L _ r3 sw rv hgi fun σ' s' hw => ⟨by rw [hw, wipe_wipe fun _ hv => hv], ?_⟩
      refine ⟨_, S2, L, r3, s', noX_post (w' := ⟨rho, F, w1.G⟩) (fun b S3 e3 w4 H4 l4 r4 => ?_) fun hb => ?_⟩
      · rw [e3, Out.bind_ok] at p2
        obtain ⟨rho4, F4, G4⟩ := w4
        have hG4 : G4 = upd w1.G D (.lst xs) := l4.G
        subst hG4
        have lp4 : Wd.le ⟨rho, F, w1.G⟩ ⟨rho4, F4, w1.G⟩ := lp3.trans ⟨⟨l4.rho, l4.F⟩, rfl⟩
        cases b with
        | true =>
          rw [if_pos rfl] at p2 ⊢
          refine ⟨_, S3, L, r4, s'.up l4, noX_post (w' := ⟨rho, F, w1.G⟩) (fun y S5 e5 w5 H5 l5 r5 v5 rv5 => ?_) fun hb => ?_⟩
          · rw [e5, Out.bind_ok] at p2
            obtain ⟨rho5, F5, G5⟩ := w5
            have hG5 : G5 = upd w1.G D (.lst xs) := l5.G
            subst hG5
            have lp5 : Wd.le ⟨rho, F, w1.G⟩ ⟨rho5, F5, w1.G⟩ := lp4.trans ⟨⟨l5.rho, l5.F⟩, rfl⟩
            have hz : acc.length < sizeLine := by
              by_cases hz : acc.length < sizeLine
              · exact hz
              · rw [chk_neg hz] at p2; exact p2.elim
            rw [chk_pos hz] at p2
            refine ⟨xs, r5.G D _ upd_same, by rw [rl.length]; exact hz, hlt, rho5, F5, S5, xs ++ [v5], acc ++ [y], l2.trans lp5, R.ghostW (fun _ _ z => by cases z) r5, (rl.up lp5).append (.one (Rel.mono (w := ⟨rho5, F5, upd w1.G D (.lst xs)⟩) (w' := ⟨rho5, F5, w1.G⟩) ⟨⟨[], by simp⟩, Same.refl _⟩ _ _ rv5)), p2.up lp5⟩
          · rw [hb] at p2; exact p2.elim
        | false =>
          rw [if_neg Bool.false_ne_true] at p2 ⊢
          exact ⟨hlt, rho4, F4, S3, xs, acc, l2.trans lp4, r4, rl.up lp4, p2.up lp4⟩
      · rw [hb] at p2; exact p2.elim
  · have e : i = s.items.length := by omega
    subst e
    rw [List.drop_length] at p2
    have st : s.stay S2 := by
      by_cases hs : s.stay S2
      · exact hs
      · exact (show Post K W ⟨rho, F, w1.G⟩ ((chkP (s.stay S2) _).bind _) _ from p2) |> fun z => by rw [chkP_neg hs] at z; exact z.elim
    have p2 : Post K W ⟨rho, F, w1.G⟩ (mkL cell acc S2) (fun w' H' _ iv => ∀ v, Rel K w' v iv → Q v H') := by
      have z := (show Post K W ⟨rho, F, w1.G⟩ ((chkP (s.stay S2) _).bind _) _ from p2)
      rw [chkP_pos st] at z
      exact z
    refine .inl ⟨hJ.stop _ S2 H2 _ l2z r2 st (Nat.le_refl _), ?_⟩
    have hF : F D = none := r2.dis D _ upd_same
    cases cell with
    | true =>
      obtain ⟨h1, q⟩ := chk_post (show Post K W ⟨rho, F, w1.G⟩ (mkC acc S2) _ from p2)
      have r5 := R.ghostC (c := .lst acc) (fun _ _ z => by cases z) r2 hG fun w' l' => ⟨xs, r2.G D _ upd_same, RelL.mono (w := ⟨rho, F, w1.G⟩) ⟨l'.rho, l'.F⟩ _ _ rl⟩
      refine q ⟨rho ++ [D], F, w1.G⟩ H2 ⟨⟨⟨[D], rfl⟩, Same.refl _⟩, rfl⟩ r5 _ (.adr ?_)
      show (rho ++ [D])[S2.length]? = some D
      have hlen : rho.length = S2.length := r2.len
      rw [← hlen, List.getElem?_append_right (Nat.le_refl _), Nat.sub_self]
      rfl
    | false =>
      obtain ⟨h1, q⟩ := chk_post (show Post K W ⟨rho, F, w1.G⟩ (mkF acc S2) _ from p2)
      have lf : Wd.le ⟨rho, F, w1.G⟩ ⟨rho, upd F D (.lst xs), w1.G⟩ := ⟨⟨⟨[], by simp⟩, fun b u e => by
        show upd F D (.lst xs) b = some u
        rw [upd_ne (ne_of_none e hF)]; exact e⟩, rfl⟩
      exact q ⟨rho, upd F D (.lst xs), w1.G⟩ H2 lf (R.ghostF (fun _ _ z => by cases z) r2 hG) _ (.lst upd_same (rl.up lf))
section
variable {X : Cx} {W : WZ} {pos spos : Pos} {elt tg iter : Expr} {ifs : List Expr} {scope : Scope} {own : List (Str × Nat)} {ms : IW} {g : TG} {gi : IV → Slots → Option Slots} {tt : IT} {te : IE}
theorem dts_nil : DTs X W [] iYes := pts_nil.imp fun σ H Q ⟨w, S, Λ, r0, s0, p⟩ => p.now r0
theorem dts_one {c : Expr} {t : IT} (h : DT X W c t) : DTs X W [c] t := pts_one h
theorem de_lc (cell : Bool) (hc : X.calm = true) (hN : X.N.Nodup) (hi : DI X W tg iter ms) (ok : BlkOk X.N X.env.scope scope own)
    (hg : ∀ (s : Shared) (H : Hp) (C : Addr) (cl : List (Str × Addr)) (fp : List Addr), PG (X.blk s H scope (compEnvC scope cl C X.env) fp) tg g) (hgc : GC (kx X W) (own.map (·.2)) g gi) (ht : ∀ (s : Shared) (H : Hp) (C : Addr) (cl : List (Str × Addr)) (fp : List Addr), DTs (X.blk s H scope (compEnvC scope cl C X.env) fp) ⟨W0, W.ex⟩ ifs tt)
    (he : ∀ (s : Shared) (H : Hp) (C : Addr) (cl : List (Str × Addr)) (fp : List Addr), DE (X.blk s H scope (compEnvC scope cl C X.env) fp) ⟨W0, W.ex⟩ elt te) (hs : ∀ x, foldedSetIterable iter X.env x = pure x := by intro _; rfl) (hx : W.ex = none := by rfl) :
    DE X W (.ListComp elt [⟨tg, iter, ifs, 0⟩] scope pos) (iLc cell ms gi tt te (own.map (·.2))) :=
  (pe_lc hc hN hi ok hg ht he hs).imp fun σ H Q h => lc_M hgc hx h
theorem ds_setLc (cell : Bool) (i : Nat) {y : Str} {py : Pos} (hc : X.calm = true) (hN : X.N.Nodup) (hi : DI X W tg iter ms) (ok : BlkOk X.N X.env.scope scope own)
    (hg : ∀ (s : Shared) (H : Hp) (C : Addr) (cl : List (Str × Addr)) (fp : List Addr), PG (X.blk s H scope (compEnvC scope cl C X.env) fp) tg g) (hgc : GC (kx X W) (own.map (·.2)) g gi) (ht : ∀ (s : Shared) (H : Hp) (C : Addr) (cl : List (Str × Addr)) (fp : List Addr), DTs (X.blk s H scope (compEnvC scope cl C X.env) fp) ⟨W0, W.ex⟩ ifs tt)
    (he : ∀ (s : Shared) (H : Hp) (C : Addr) (cl : List (Str × Addr)) (fp : List Addr), DE (X.blk s H scope (compEnvC scope cl C X.env) fp) ⟨W0, W.ex⟩ elt te)
    (hy : X.N[i]? = some y := by rfl) (hyl : X.env.scope.names.lookup y = some .local := by rfl)
    (hsw : swapsWith (.ListComp elt [⟨tg, iter, ifs, 0⟩] scope pos) (some (.Name y py)) spos.line X.env = pure true := by exact sw_true rfl rfl rfl (by decide +kernel)) (hs : ∀ x, foldedSetIterable iter X.env x = pure x := by intro _; rfl) (hx : W.ex = none := by rfl) :
    DS X W (.Assign [.Name y py] (.ListComp elt [⟨tg, iter, ifs, 0⟩] scope pos) spos) (iSet i (iLc cell ms gi tt te (own.map (·.2)))) :=
  (ps_setLc hc hN hy hyl hsw hi ok hg ht he hs).imp fun D σ H ⟨w, S, Λ, r0, s0, p⟩ => lc_M (cell := cell) hgc hx ⟨w, S, Λ, r0, s0, p.bind.imp fun w1 H1 S1 ix l1 r1 p1 v1 rv1 => p1.now r1 _ ((s0.up l1).set i rv1)⟩
end
section
variable {P : Program} {w : World} {K : PySem.W.Frag} {mg : Str → Option Value} {base : Heap}
abbrev DX (P : Program) (w : World) (K : PySem.W.Frag) (mg : Str → Option Value) (base : Heap) (N : List Str) (qual : Str) (sc : Scope) (f : Addr) (cdv : Value) (A : Around) (outer : List Env) (s : Shared) (H : Hp) (E : XK) : Cx :=
  cxOf (L2.CX P w) P w K mg base N qual sc f cdv A outer s H E
abbrev WEx (E : XK) : WX := fun c d _ H => E c d H
theorem start_sr {K : KX} {w : Wd} {N : List Str} {vs : List V} {ivs : List IV} (r : RelL K w vs ivs) (hx : K.ex = none) : SR K w (L2.start N vs) (ivs.map some ++ List.replicate (N.length - ivs.length) none) := by
  unfold L2.start
  rw [r.length]
  refine ⟨by simp [r.length], fun i iv e => ?_, fun i n a d e _ => by rw [hx] at e; cases e⟩
  by_cases hi : i < ivs.length
  · rw [List.getElem?_append_left (by simpa using hi), List.getElem?_map] at e
    obtain ⟨jv, e1, e2⟩ := Option.map_eq_some_iff.mp e
    cases e2
    obtain ⟨v, h1, h2⟩ := r.get e1
    exact ⟨v, by rw [List.getElem?_append_left (by rw [List.length_map, r.length]; exact hi), List.getElem?_map, h1]; rfl, h2⟩
  · rw [List.getElem?_append_right (by simpa using Nat.le_of_not_lt hi)] at e
    obtain ⟨h1, h2⟩ := List.getElem?_eq_some_iff.mp e
    rw [List.getElem_replicate] at h2
    cases h2
theorem ok_def {x qual : Str} {st : Stmt} {f : Addr} {fd : FuncData} {N ps : List Str} {k : Nat} {body : IS} (F : Fun K x qual st f fd) (Sc : FnScope N ps (defScope st))
    (hb : ∀ (cdv : Value) (A : Around) (outer : List Env) (s : Shared) (H : Hp) (E : XK), RmG k (A.deeper (envOfC qual (defScope st) s.heap.objs.size f cdv)) →
      Takes (DX P w K mg base N qual (defScope st) f cdv A outer s H E) (WEx E) → PassesOwn (model P w) (DX P w K mg base N qual (defScope st) f cdv A outer s H E).A (DX P w K mg base N qual (defScope st) f cdv A outer s H E).env (DX P w K mg base N qual (defScope st) f cdv A outer s H E).xe →
      DSs (DX P w K mg base N qual (defScope st) f cdv A outer s H E) ⟨WEx E, none⟩ (defBody st) body) : FnG P w K mg base (L2.CX P w) (k + 1) f fd ps (spM K mg ps.length (mDef N.length body)) := by
  refine okG F Sc (fun vs H Q E h => h.1) fun cdv A outer s H vs Q E hr h => ?_
  obtain ⟨hl, w0, S, ivs, r0, rl, p⟩ := h
  refine ⟨_, hb cdv A outer s H E hr (takes_of rfl rfl rfl rfl) (passes_of rfl), w0, S, _, r0, start_sr rl rfl, ?_⟩
  unfold mDef at p
  cases e : body (ivs.map some ++ List.replicate (N.length - ivs.length) none) S with
  | ok fl S' =>
    simp only [e] at p
    intro w' H' l r
    cases fl with
    | nx L => exact fun σ' s' => p w' H' l r _ .non
    | rt iv => exact p w' H' l r
    | bk L => exact p.elim
    | ct L => exact p.elim
  | exc C n L S' =>
    simp only [e] at p
    exact fun w' H' a σ' l r s' ea => p w' H' a [] l r sr_nil ea
  | bad =>
    simp only [e] at p
    exact p
end
section
variable {X : Cx} {W : WZ} {p pos : Pos} {e : Expr} {es : List Expr} {ma : IA} {x : Str} {id T : String} {r : List V → Hp → VK → Prop} {f : List IV → Sto → Out IV}
theorem de_cb (hc : CallR X (.builtin id) r) (hs : CaS (kx X W) W.x r f) (hm : X.mg x = none) (hv : bootBuiltins x = some (.builtin id)) (ha : DA X W (e :: es) ma) (hg : Gl X x := by rfl) (hn : x ≠ "__name__" := by decide) (hdb : (x == ("__debug__" : Str)) = false := by decide)
    (he : starEach (e :: es) X.env = (false, eval e X.env) :: starEach es X.env := by rfl) (hpl : (backTo pos (starEach es X.env)).any (·.1) = false := by rfl) : DE X W (.Call (.Name x p) (e :: es) [] pos) (iCa f ma) :=
  (pe_callB hc hg hm hv ha hn hdb he hpl).imp fun σ H Q h => eM_ca hs h
theorem de_ct (hc : CallR X (.type T) r) (hs : CaS (kx X W) W.x r f) (hm : X.mg x = none) (hv : bootBuiltins x = some (.type T)) (ha : DA X W (e :: es) ma) (hg : Gl X x := by rfl) (hn : x ≠ "__name__" := by decide) (hdb : (x == ("__debug__" : Str)) = false := by decide)
    (he : starEach (e :: es) X.env = (false, eval e X.env) :: starEach es X.env := by rfl) (hpl : (backTo pos (starEach es X.env)).any (·.1) = false := by rfl) : DE X W (.Call (.Name x p) (e :: es) [] pos) (iCa f ma) :=
  (pe_callTy hc hg hm hv ha hn hdb he hpl).imp fun σ H Q h => eM_ca hs h
end
section
variable {K : KX} {W : WX} {w : Wd} {α : Type} {P : Wd → Hp → Sto → α → Prop}
def a1 {α : Type} (xs : List IV) (k : IV → Out α) : Out α := match xs with
  | [x] => k x
  | _ => .bad
def a2 {α : Type} (xs : List IV) (k : IV → IV → Out α) : Out α := match xs with
  | [x, y] => k x y
  | _ => .bad
theorem a1_post {xs : List IV} {vs : List V} {k : IV → Out α} (h : Post K W w (a1 xs k) P) (r : RelL K w vs xs) : ∃ v x, vs = [v] ∧ xs = [x] ∧ Rel K w v x ∧ Post K W w (k x) P := by
  unfold a1 at h
  split at h
  · cases r with
    | cons a b => cases b; exact ⟨_, _, rfl, rfl, a, h⟩
  · exact h.elim
theorem a2_post {xs : List IV} {vs : List V} {k : IV → IV → Out α} (h : Post K W w (a2 xs k) P) (r : RelL K w vs xs) : ∃ v x u y, vs = [v, u] ∧ xs = [x, y] ∧ Rel K w v x ∧ Rel K w u y ∧ Post K W w (k x y) P := by
  unfold a2 at h
  split at h
  · cases r with
    | cons a b =>
      cases b with
      | cons b c => cases c; exact ⟨_, _, _, _, rfl, rfl, a, b, h⟩
  · exact h.elim
end
def lenN (S : Sto) (x : IV) : Option Nat := match x with
  | .str s => if s.length ≤ sizeLine then some s.length else none
  | x => (seqOf S x).map List.length
theorem lenN_rel {K : KX} {w : Wd} {S : Sto} {H : Hp} {v : V} {x : IV} {n : Nat} (r : R K w S H) (rx : Rel K w v x) (e : lenN S x = some n) : LenV K.k v H n := by
  unfold lenN at e
  split at e
  · cases rx
    split at e
    · cases e; exact ⟨by assumption, rfl⟩
    · cases e
  · obtain ⟨ys, h1, h2⟩ := Option.map_eq_some_iff.mp e
    obtain ⟨a, xs, rfl, h3, h4⟩ := seqOf_sq h1 r rx
    rcases h3 with h3 | h3
    · exact .inl ⟨xs, h3, by rw [h4.length, h2]⟩
    · exact .inr ⟨xs, h3, by rw [h4.length, h2]⟩
def fLen (xs : List IV) (S : Sto) : Out IV := a1 xs fun x => orBad (lenN S x) fun n => .ok (.int n) S
theorem cs_len {K : KX} {W : WX} : CaS K W (fun xs H Q => ∃ x n, xs = [x] ∧ LenV K.k x H n ∧ Q (.int n) H) fLen := fun w S H xs ix Q r rx p => by
  obtain ⟨v, x, rfl, rfl, rv, p⟩ := a1_post p rx
  obtain ⟨n, e, p⟩ := orBad_post p
  exact ⟨v, n, rfl, lenN_rel r rv e, p.now r _ (.int _)⟩
def fAbs (xs : List IV) (S : Sto) : Out IV := a1 xs fun x => asI x fun i => .ok (.int (if i < 0 then -i else i)) S
theorem cs_abs {K : KX} {W : WX} : CaS K W (fun xs H Q => ∃ i, xs = [.int i] ∧ Q (.int (if i < 0 then -i else i)) H) fAbs := fun w S H xs ix Q r rx p => by
  obtain ⟨v, x, rfl, rfl, rv, p⟩ := a1_post p rx
  obtain ⟨i, rfl, rfl, p⟩ := asI_post p rv
  exact ⟨i, rfl, p.now r _ (.int _)⟩
def fInt (xs : List IV) (S : Sto) : Out IV := a1 xs fun x => match x with
  | .int i => .ok (.int i) S
  | .bl k => .ok (.int (if k then 1 else 0)) S
  | _ => .bad
theorem cs_int {K : KX} {W : WX} : CaS K W (fun xs H Q => (∃ i, xs = [.int i] ∧ Q (.int i) H) ∨ ∃ k, xs = [.bl k] ∧ Q (.int (if k then 1 else 0)) H) fInt := fun w S H xs ix Q r rx p => by
  obtain ⟨v, x, rfl, rfl, rv, p⟩ := a1_post p rx
  cases rv with
  | int i => exact .inl ⟨i, rfl, (show Post K W w (Out.ok (IV.int i) S) _ from p).now r _ (Rel.int _)⟩
  | bl k => exact .inr ⟨k, rfl, (show Post K W w (Out.ok (IV.int (if k then 1 else 0)) S) _ from p).now r _ (Rel.int _)⟩
  | _ => exact p.elim
def fMax2 (xs : List IV) (S : Sto) : Out IV := a2 xs fun x y => asI x fun i => asI y fun j => .ok (.int (if j > i then j else i)) S
def fMin2 (xs : List IV) (S : Sto) : Out IV := a2 xs fun x y => asI x fun i => asI y fun j => .ok (.int (if j < i then j else i)) S
theorem cs_max2 {K : KX} {W : WX} : CaS K W (fun xs H Q => ∃ i j, xs = [.int i, .int j] ∧ Q (.int (if j > i then j else i)) H) fMax2 := fun w S H xs ix Q r rx p => by
  obtain ⟨v, x, u, y, rfl, rfl, rv, ru, p⟩ := a2_post p rx
  obtain ⟨i, rfl, rfl, p⟩ := asI_post p rv
  obtain ⟨j, rfl, rfl, p⟩ := asI_post p ru
  exact ⟨i, j, rfl, p.now r _ (.int _)⟩
theorem cs_min2 {K : KX} {W : WX} : CaS K W (fun xs H Q => ∃ i j, xs = [.int i, .int j] ∧ Q (.int (if j < i then j else i)) H) fMin2 := fun w S H xs ix Q r rx p => by
  obtain ⟨v, x, u, y, rfl, rfl, rv, ru, p⟩ := a2_post p rx
  obtain ⟨i, rfl, rfl, p⟩ := asI_post p rv
  obtain ⟨j, rfl, rfl, p⟩ := asI_post p ru
  exact ⟨i, j, rfl, p.now r _ (.int _)⟩
def fList (cell : Bool) (xs : List IV) (S : Sto) : Out IV := a1 xs fun x => orBad (seqOf S x) fun ys => mkL cell ys S
theorem cs_list {K : KX} {W : WX} (cell : Bool) : CaS K W (fun xs H Q => ∃ p ys, xs = [.ref p] ∧ (SqL K.k H p ys ∨ SqT K.k H p ys) ∧ ∀ l, H l = none → Q (.ref l) (upd H l (.lst ys))) (fList cell) := fun w S H xs ix Q r rx p => by
  obtain ⟨v, x, rfl, rfl, rv, p⟩ := a1_post p rx
  obtain ⟨ys, e, p⟩ := orBad_post p
  obtain ⟨a, vs, rfl, h1, h2⟩ := seqOf_sq e r rv
  exact ⟨a, vs, rfl, h1, (mkL_post p r h2).2⟩
def tyN (S : Sto) (x : IV) : Option String := match x with
  | .non => some "NoneType"
  | .bl _ => some "bool"
  | .int _ => some "int"
  | .str _ => some "str"
  | .lst _ => some "list"
  | .tup _ => some "tuple"
  | .adr n => match S[n]? with
    | some (.lst _) => some "list"
    | some (.dic _) => some "dict"
    | _ => none
  | _ => none
theorem tyN_rel {K : KX} {w : Wd} {S : Sto} {H : Hp} {v : V} {x : IV} {t : String} (r : R K w S H) (rx : Rel K w v x) (e : tyN S x = some t) : TyX K.k H v (.type t) := by
  cases x with
  | non => cases rx; cases e; exact .base .non
  | bl b => cases rx; cases e; exact .base (.bl _)
  | int b => cases rx; cases e; exact .base (.int _)
  | str b => cases rx; cases e; exact .base (.str _)
  | lst ys =>
    cases e
    cases rx with
    | lst h1 h2 => exact .base (.lst (r.F _ _ h1))
  | tup ys =>
    cases e
    cases rx with
    | tup h1 h2 =>
      rcases same_t r.F h1 with (h | ⟨o, h⟩) | ⟨o, its, n, h, hc, _⟩
      · exact .base (.tup h)
      · exact .fTuple h
      · exact .kTuple h hc
  | adr n =>
    cases rx with
    | adr hrho =>
      unfold tyN at e
      cases q : S[n]? with
      | none => simp only [q] at e; cases e
      | some c =>
        simp only [q] at e
        cases c with
        | lst ys =>
          cases e
          obtain ⟨xs, h2, h3⟩ := r.cell n _ _ q hrho
          exact .base (.lst h2)
        | dic ys =>
          cases e
          obtain ⟨xs, h2, h3⟩ := r.cell n _ _ q hrho
          exact .base (.dK h2)
        | _ => cases e
  | _ => cases e
def kitN (t n : String) : Option Bool := kitB t n
def fIsi (xs : List IV) (S : Sto) : Out IV := a2 xs fun x c => match c with
  | .ty n => orBad (tyN S x) fun t => orBad (kitN t n) fun b => .ok (.bl b) S
  | _ => .bad
theorem cs_isi {K : KX} {W : WX} : CaS K W (rIsi K.k) fIsi := fun w S H xs ix Q r rx p => by
  obtain ⟨v, x, u, y, rfl, rfl, rv, ru, p⟩ := a2_post p rx
  cases ru with
  | ty n =>
    obtain ⟨t, e1, p⟩ := orBad_post p
    obtain ⟨b, e2, p⟩ := orBad_post p
    exact ⟨v, _, _, _, b, rfl, .ty n, tyN_rel r rv e1, kit_ty e2, p.now r _ (.bl _)⟩
  | _ => exact p.elim
theorem de_ty {X : Cx} {W : WZ} {x : Str} {pos : Pos} {T : String} (hm : X.mg x = none) (hv : bootBuiltins x = some (.type T)) (hg : Gl X x := by rfl) (hn : x ≠ "__name__" := by decide) (hd : (x == ("__debug__" : Str)) = false := by decide) : DE X W (.Name x pos) (iC (.ty T)) :=
  de_c (pe_bltn hg hm hv (v := .ty T) rfl hn hd) fun _ => .ty T
theorem de_gstr {X : Cx} {W : WZ} {x z : Str} {pos : Pos} {t : Tok} (hm : X.mg x = some (.str z t)) (hg : Gl X x := by rfl) (hd : (x == ("__debug__" : Str)) = false := by decide) : DE X W (.Name x pos) (iC (.str z)) :=
  de_c (pe_glob hg hm (v := .str z) ⟨t, rfl⟩ hd) fun _ => .str z
theorem de_gtup {X : Cx} {W : WZ} {x : Str} {pos : Pos} {a : Addr} {o : Obj} {its : Array Value} {n : Nat} {zs : List Str} (hm : X.mg x = some (.ref a)) (hk : X.K.lookup a = some o) (hc : o.cls = .type "tuple") (hd' : o.data = .seq its n) (hz : its.size ≤ sizeLine) (hv : Vals (zs.map V.str) its.toList) (hg : Gl X x := by rfl) (hd : (x == ("__debug__" : Str)) = false := by decide) :
    DE X W (.Name x pos) (iC (.tup (zs.map IV.str))) :=
  de_c (pe_glob hg hm (v := .ref a) rfl hd) fun w => .tup (.inr ⟨o, its, n, hk, hc, hd', hz, hv⟩) (by
    clear hv
    induction zs with
    | nil => exact .nil
    | cons z zs ih => exact .cons (.str z) ih)
def hasTy (T : String) (S : Sto) (x : IV) : Bool := match x with
  | .str _ => T == "str"
  | x => T == "list" && (lstOf S x).isSome
theorem hasTy_rel {K : KX} {w : Wd} {S : Sto} {H : Hp} {v : V} {x : IV} {T : String} (r : R K w S H) (rx : Rel K w v x) (e : hasTy T S x = true) : tyV K.k T v H := by
  unfold hasTy at e
  split at e
  · cases rx
    exact beq_iff_eq.mp e
  · obtain ⟨e1, e2⟩ := Bool.and_eq_true_iff.mp e
    obtain ⟨ys, h⟩ := Option.isSome_iff_exists.mp e2
    obtain ⟨a, xs, rfl, h3, h4⟩ := lstOf_sq h r rx
    exact .inl ⟨beq_iff_eq.mp e1, xs, h3⟩
def iBM (T : String) (f : IV → List IV → Sto → Out IV) (mo : IE) (ma : IA) : IE := fun Λ S => (mo Λ S).bind fun o S1 => chk (hasTy T S1 o = true) ((ma Λ S1).bind fun xs S2 => f o xs S2)
section
variable {X : Cx} {W : WZ} {pos apos : Pos} {o e : Expr} {es : List Expr} {mo : IE} {ma : IA} {T id : String} {name : Str} {r : V → List V → Hp → VK → Prop} {f : IV → List IV → Sto → Out IV}
theorem de_bm (pa : PlainAttrs T) (slot : Slot T name id) (hty : typeOf (.builtin id) = pure (.type "method_descriptor")) (hm : MtR X id r) (hs : MtS (kx X W) W.x r f) (ho : DE X W o mo) (ha : DA X W (e :: es) ma)
    (hbase : attributeBase o name X.env (eval o X.env) = eval o X.env := by rfl)
    (hfew : ((backTo pos (starEach (e :: es) X.env)).all (fun x => !x.1) && (backToKw pos (keywordEach [] X.env)).all (fun x => x.1.isSome)
      && decide ((e :: es).length + ([] : List Keyword).length + (if ([] : List Keyword).isEmpty then 0 else 1) < 30)) = true := by rfl)
    (hline : (apos.endLine == pos.line) = true := by rfl) (hst : starEach (e :: es) X.env = (false, eval e X.env) :: starEach es X.env := by rfl) (hplain : (backTo pos (starEach es X.env)).any (·.1) = false := by rfl) :
    DE X W (.Call (.Attribute o name apos) (e :: es) [] pos) (iBM T f mo ma) :=
  (pe_bm pa slot hty hm ho ha hbase hfew hline hst hplain).imp fun σ H Q ⟨w, S, Λ, r0, s0, p⟩ => ⟨w, S, Λ, r0, s0, p.bind.imp fun w1 H1 S1 ix l1 r1 p1 v1 rv1 => by
    obtain ⟨h1, p1⟩ := chk_post p1
    exact ⟨hasTy_rel r1 rv1 h1, w1, S1, Λ, r1, s0.up l1, p1.bind.imp fun w2 H2 S2 xs l2 r2 p2 vs rvs => hs w2 S2 H2 _ _ _ _ _ r2 (rv1.up l2) rvs p2⟩⟩
theorem de_bm0 (pa : PlainAttrs T) (slot : Slot T name id) (hty : typeOf (.builtin id) = pure (.type "method_descriptor")) (hm : MtR X id r) (hs : MtS (kx X W) W.x r f) (ho : DE X W o mo)
    (hbase : attributeBase o name X.env (eval o X.env) = eval o X.env := by rfl) (hline : (apos.endLine == pos.line) = true := by rfl) : DE X W (.Call (.Attribute o name apos) [] [] pos) (iBM T f mo iNil) :=
  (pe_bm0 pa slot hty hm ho hbase hline).imp fun σ H Q ⟨w, S, Λ, r0, s0, p⟩ => ⟨w, S, Λ, r0, s0, p.bind.imp fun w1 H1 S1 ix l1 r1 p1 v1 rv1 => by
    obtain ⟨h1, p1⟩ := chk_post p1
    exact ⟨hasTy_rel r1 rv1 h1, hs w1 S1 H1 _ _ _ _ _ r1 rv1 .nil p1⟩⟩
end
def onL {α : Type} (S : Sto) (x : IV) (k : Nat → List IV → Out α) : Out α := match x with
  | .adr n => (match S[n]? with
    | some (.lst xs) => k n xs
    | _ => .bad)
  | _ => .bad
theorem onL_post {α : Type} {K : KX} {W : WX} {w : Wd} {S : Sto} {H : Hp} {v : V} {x : IV} {k : Nat → List IV → Out α} {P : Wd → Hp → Sto → α → Prop} (h : Post K W w (onL S x k) P) (r : R K w S H) (rx : Rel K w v x) :
    ∃ n xs a vs, S[n]? = some (.lst xs) ∧ w.rho[n]? = some a ∧ v = .ref a ∧ H a = some (.lst vs) ∧ RelL K w vs xs ∧ Post K W w (k n xs) P := by
  unfold onL at h
  split at h
  · cases rx with
    | adr hrho =>
      split at h
      · rename_i q
        obtain ⟨vs, h2, h3⟩ := r.cell _ _ _ q hrho
        exact ⟨_, _, _, vs, q, hrho, rfl, h2, h3, h⟩
      · exact h.elim
  · exact h.elim
def fApp (o : IV) (xs : List IV) (S : Sto) : Out IV := a1 xs fun y => onL S o fun n ys => chk (ys.length < sizeLine) (.ok .non (S.set n (.lst (ys ++ [y]))))
theorem ms_app {K : KX} {W : WX} : MtS K W rAppend fApp := fun w S H x xs io ix Q r ro rx p => by
  obtain ⟨v, y, rfl, rfl, rv, p⟩ := a1_post p rx
  obtain ⟨n, ys, a, vs, h1, h2, rfl, h3, h4, p⟩ := onL_post p r ro
  obtain ⟨c, p⟩ := chk_post p
  exact ⟨a, vs, v, rfl, rfl, h3, by rw [h4.length]; exact c, p.now (r.write h2 ⟨_, upd_same, h4.append (.one rv)⟩ (fun _ e => by rw [h1] at e; cases e)) _ .non⟩
def fExt (o : IV) (xs : List IV) (S : Sto) : Out IV := a1 xs fun y => onL S o fun n ys => orBad (lstX S y) fun zs => chk (ys.length + zs.length ≤ sizeLine) (.ok .non (S.set n (.lst (ys ++ zs))))
def strsOf : List IV → Option (List Str)
  | [] => some []
  | .str s :: xs => (strsOf xs).map (s :: ·)
  | _ => none
theorem strsOf_rel {K : KX} {w : Wd} : ∀ {xs : List IV} {vs : List V} {ss : List Str}, strsOf xs = some ss → RelL K w vs xs → vs = ss.map V.str
  | [], _, _, e, r => by cases e; cases r; rfl
  | x :: xs, _, ss, e, r => by
    cases r with
    | cons a b =>
      cases x with
      | str s =>
        obtain ⟨ts, h1, h2⟩ := Option.map_eq_some_iff.mp (show (strsOf xs).map (s :: ·) = some ss from e)
        subst h2
        cases a
        rw [strsOf_rel h1 b]
        rfl
      | _ => cases e
def fJoin (o : IV) (xs : List IV) (S : Sto) : Out IV := asS o fun a => a1 xs fun y => orBad (seqOf S y) fun ys => orBad (strsOf ys) fun zs => chk ((zs.map (·.length)).sum + zs.length * a.length ≤ 16777216) (.ok (.str (PySem.Txt.join a zs)) S)
theorem ms_join {K : KX} {W : WX} : MtS K W (fun x xs H Q => ∃ a p ys, x = V.str a ∧ xs = [V.ref p] ∧ (SqL K.k H p (ys.map V.str) ∨ SqT K.k H p (ys.map V.str)) ∧ (ys.map fun x => x.length).sum + ys.length * a.length ≤ 16777216 ∧ Q (.str (PySem.Txt.join a ys)) H) fJoin := fun w S H x xs io ix Q r ro rx p => by
  obtain ⟨a, rfl, rfl, p⟩ := asS_post p ro
  obtain ⟨v, y, rfl, rfl, rv, p⟩ := a1_post p rx
  obtain ⟨ys, e1, p⟩ := orBad_post p
  obtain ⟨zs, e2, p⟩ := orBad_post p
  obtain ⟨c, p⟩ := chk_post p
  obtain ⟨b, vs, rfl, h1, h2⟩ := seqOf_sq e1 r rv
  have := strsOf_rel e2 h2
  subst this
  exact ⟨a, b, zs, rfl, rfl, h1, c, p.now r _ (.str _)⟩
section
variable {X : Cx} {W : WZ} {pos : Pos} {a b c : Expr} {ma mb mc : IE}
theorem dt_chain {op op' : CmpOp} {r r' : R2} {f g : IV → IV → Sto → Out IV} (ho : OpR X (compareOp op) r) (hs : OpS (kx X W) W.x r f) (ho' : OpR X (compareOp op') r') (hs' : OpS (kx X W) W.x r' g) (ha : DE X W a ma) (hb : DE X W b mb) (hc : DE X W c mc)
    (hm : lastMarks [op, op'] [b, c] = false := by with_unfolding_all rfl) : DT X W (.Compare a [op, op'] [b, c] pos) (iTest (iChain f g ma mb mc)) :=
  (pt_chain ho ho' ha hb hc hm).imp fun σ H Q ⟨w, S, Λ, r0, s0, p⟩ => eM_chain hs hs' ⟨w, S, Λ, r0, s0, p.bind.imp fun w1 H1 S1 ix l1 r1 p1 v1 rv1 => by
    obtain ⟨k, rfl, rfl, q⟩ := asB_post p1 rv1
    exact ⟨k, rfl, q.now r1⟩⟩
end
section
variable {P : Program} {w : World} {K : PySem.W.Frag} {mg : Str → Option Value} {base : Heap}
def Cal (P : Program) (w : World) (K : PySem.W.Frag) (mg : Str → Option Value) (base : Heap) (x : Str) (k : Nat) (ps : List Str) (m : List IV → Sto → Out IV) : Prop :=
  ∃ (f : Addr) (fd : FuncData), mg x = some (.ref f) ∧ PySem.W.keepIn K (.ref f) = true ∧ L2.Binds K fd ps [] ∧ FnG P w K mg base (L2.CX P w) k f fd ps (spM K mg ps.length m)
def Loc (K : PySem.W.Frag) (mg : Str → Option Value) (x : Str) (st : Stmt) (ps : List Str) : Prop := ∃ (f : Addr) (fd : FuncData), mg x = some (.ref f) ∧ Fun K x x st f fd ∧ L2.Binds K fd ps []
theorem cal_def {x : Str} {st : Stmt} {N ps : List Str} {k : Nat} {body : IS} (L : Loc K mg x st ps) (Sc : FnScope N ps (defScope st))
    (hb : ∀ (f : Addr) (cdv : Value) (A : Around) (outer : List Env) (s : Shared) (H : Hp) (E : XK), RmG k (A.deeper (envOfC x (defScope st) s.heap.objs.size f cdv)) →
      Takes (DX P w K mg base N x (defScope st) f cdv A outer s H E) (WEx E) → PassesOwn (model P w) (DX P w K mg base N x (defScope st) f cdv A outer s H E).A (DX P w K mg base N x (defScope st) f cdv A outer s H E).env (DX P w K mg base N x (defScope st) f cdv A outer s H E).xe →
      DSs (DX P w K mg base N x (defScope st) f cdv A outer s H E) ⟨WEx E, none⟩ (defBody st) body) : Cal P w K mg base x (k + 1) ps (mDef N.length body) := by
  obtain ⟨f, fd, h1, h2, h3⟩ := L
  exact ⟨f, fd, h1, h2.kp, h3, ok_def h2 Sc (hb f)⟩
end
section
variable {X : Cx} {W : WX} {pos p : Pos} {k : Nat} {ps : List Str} {mf : List IV → Sto → Out IV} {x : Str} {e : Expr} {es : List Expr} {ma : IA}
theorem de_callC {np : Nat} (c : Cal X.prog X.w X.K X.mg X.base x k ps mf) (tk : Takes X W) (hr : RmG k X.A) (ha : DA X ⟨W, none⟩ (e :: es) ma) (hg : Gl X x := by rfl) (hnp : ps.length = np := by rfl) (hdb : (x == ("__debug__" : Str)) = false := by decide)
    (he : starEach (e :: es) X.env = (false, eval e X.env) :: starEach es X.env := by rfl) (hpl : (backTo pos (starEach es X.env)).any (·.1) = false := by rfl) : DE X ⟨W, none⟩ (.Call (.Name x p) (e :: es) [] pos) (iCall np mf ma) := by
  obtain ⟨f, fd, h1, h2, h3, h4⟩ := c
  rw [← hnp]
  exact de_call h4 tk hr h1 h2 h3 ha hg hdb he hpl
theorem takesW0 {X : Cx} : Takes X W0 := fun _ _ x => by
  obtain ⟨_, _, _, _, _, _, _, _, _, _, _, _, _, _, _, _, z⟩ := x
  exact z.elim
end
def GTup (K : PySem.W.Frag) (mg : Str → Option Value) (x : Str) (zs : List Str) : Prop :=
  ∃ (a : Addr) (o : Obj) (its : Array Value) (n : Nat), mg x = some (.ref a) ∧ K.lookup a = some o ∧ o.cls = .type "tuple" ∧ o.data = .seq its n ∧ its.size ≤ sizeLine ∧ Vals (zs.map V.str) its.toList
theorem de_gtupC {X : Cx} {W : WZ} {x : Str} {pos : Pos} {zs : List Str} (h : GTup X.K X.mg x zs) (hg : Gl X x := by rfl) (hd : (x == ("__debug__" : Str)) = false := by decide) : DE X W (.Name x pos) (iC (.tup (zs.map IV.str))) := by
  obtain ⟨a, o, its, n, h1, h2, h3, h4, h5, h6⟩ := h
  exact de_gtup h1 h2 h3 h4 h5 h6 hg hd
section
variable {X : Cx} {W : WZ} {tg e : Expr} {m : IE}
theorem di_str (h : DE X W e m) : DI X W tg e (iSrcS m) := (pi_str h).imp fun σ H Q ⟨w, S, Λ, r0, s0, p⟩ => ⟨w, S, Λ, r0, s0, p.bind.imp fun w1 H1 S1 ix l1 r1 p1 v1 rv1 => by
  obtain ⟨z, rfl, rfl, q⟩ := asS_post p1 rv1
  have hz : ∀ i : Nat, z.cps[i]? = z.cps.toList[i]? := fun i => by simp
  refine ⟨z, rfl, q.now r1 _ ⟨fun w' S' H' i l r' st hi => ?_, fun w' S' H' i l r' st hi => ?_, fun w' S' H' i iv x H2 l r' st hi hy => ?_⟩⟩
  · show i < z.cps.size
    simpa using hi
  · show z.cps.size ≤ i
    simpa using hi
  · obtain ⟨f1, c, f2, f3⟩ := hy
    subst f1 f3
    have hi : (z.cps.toList.map fun c => IV.str ⟨#[c]⟩)[i]? = some iv := hi
    rw [List.getElem?_map, ← hz, f2] at hi
    cases hi
    exact ⟨w', Wd.le.refl _, r', .str _⟩⟩
end
variable {Λ L : Slots} {S S' : Sto}
@[simp] theorem iVar_s {i : Nat} {x : IV} (h : Λ[i]? = some (some x)) : iVar i Λ S = .ok x S := by unfold iVar; rw [h]
@[simp] theorem iC_e (x : IV) : iC x Λ S = .ok x S := rfl
@[simp] theorem iBin_e (f : IV → IV → Sto → Out IV) (a b : IE) : iBin f a b Λ S = (a Λ S).bind fun x S1 => (b Λ S1).bind fun y S2 => f x y S2 := rfl
@[simp] theorem iUn_e (f : IV → Sto → Out IV) (a : IE) : iUn f a Λ S = (a Λ S).bind fun x S1 => f x S1 := rfl
@[simp] theorem iNil_e : iNil Λ S = .ok [] S := rfl
@[simp] theorem iCons_e (a : IE) (b : IA) : iCons a b Λ S = (a Λ S).bind fun x S1 => (b Λ S1).bind fun xs S2 => .ok (x :: xs) S2 := rfl
@[simp] theorem iCa_e (f : List IV → Sto → Out IV) (a : IA) : iCa f a Λ S = (a Λ S).bind fun x S1 => f x S1 := rfl
@[simp] theorem asI_i {α : Type} (i : Int) (k : Int → Out α) : asI (.int i) k = k i := rfl
@[simp] theorem asS_s {α : Type} (i : Str) (k : Str → Out α) : asS (.str i) k = k i := rfl
@[simp] theorem asB_b {α : Type} (i : Bool) (k : Bool → Out α) : asB (.bl i) k = k i := rfl
@[simp] theorem a1_1 {α : Type} (x : IV) (k : IV → Out α) : a1 [x] k = k x := rfl
@[simp] theorem a2_2 {α : Type} (x y : IV) (k : IV → IV → Out α) : a2 [x, y] k = k x y := rfl
@[simp] theorem iTest_e (m : IE) : iTest m Λ S = (m Λ S).bind fun x S1 => asB x fun b => .ok b S1 := rfl
@[simp] theorem iTru_e (m : IE) : iTru m Λ S = (m Λ S).bind fun x S1 => orBad (truB S1 x) fun b => .ok b S1 := rfl
@[simp] theorem truB_bl (b : Bool) : truB S (.bl b) = some b := rfl
@[simp] theorem truB_non : truB S .non = some false := rfl
@[simp] theorem iAnd_e (c d : IT) : iAnd c d Λ S = (c Λ S).bind fun b S1 => if b = true then d Λ S1 else .ok false S1 := rfl
@[simp] theorem iOr_e (c d : IT) : iOr c d Λ S = (c Λ S).bind fun b S1 => if b = true then .ok true S1 else d Λ S1 := rfl
@[simp] theorem iNot_e (c : IT) : iNot c Λ S = (c Λ S).bind fun b S1 => .ok (!b) S1 := rfl
@[simp] theorem iAndV_e (c d : IE) : iAndV c d Λ S = (c Λ S).bind fun x S1 => asB x fun b => if b = true then d Λ S1 else .ok (.bl false) S1 := rfl
@[simp] theorem iOrV_e (c d : IE) : iOrV c d Λ S = (c Λ S).bind fun x S1 => asB x fun b => if b = true then .ok (.bl true) S1 else d Λ S1 := rfl
@[simp] theorem iNotV_e (c : IE) : iNotV c Λ S = (c Λ S).bind fun x S1 => asB x fun b => .ok (.bl (!b)) S1 := rfl
@[simp] theorem iIf_e {α : Type} (c : IT) (a b : Slots → Sto → Out α) : iIf c a b Λ S = (c Λ S).bind fun k S1 => if k = true then a Λ S1 else b Λ S1 := rfl
@[simp] theorem iChain_e (f g : IV → IV → Sto → Out IV) (a b c : IE) : iChain f g a b c Λ S = (a Λ S).bind fun x S1 => (b Λ S1).bind fun y S2 => (f x y S2).bind fun z S3 => asB z fun k => if k = true then (c Λ S3).bind fun u S4 => g y u S4 else .ok (.bl false) S3 := rfl
@[simp] theorem iSl_e (cell : Bool) (m : IE) (ml mh : IO) : iSl cell m ml mh Λ S = (m Λ S).bind fun x S1 => (ml Λ S1).bind fun lo S2 => (mh Λ S2).bind fun hi S3 => fSl cell x lo hi S3 := rfl
@[simp] theorem iNoPart_e : iNoPart Λ S = .ok none S := rfl
@[simp] theorem iPart_e (m : IE) : iPart m Λ S = (m Λ S).bind fun x S1 => asI x fun i => .ok (some i) S1 := rfl
@[simp] theorem iLst_e (cell : Bool) (m : IA) : iLst cell m Λ S = (m Λ S).bind fun xs S1 => mkL cell xs S1 := rfl
@[simp] theorem iTup_e (m : IA) : iTup m Λ S = (m Λ S).bind fun xs S1 => mkT xs S1 := rfl
@[simp] theorem mkL_t (xs : List IV) : mkL true xs S = chk (xs.length ≤ sizeLine) (.ok (.adr S.length) (S ++ [.lst xs])) := rfl
@[simp] theorem mkL_f (xs : List IV) : mkL false xs S = chk (xs.length ≤ sizeLine) (.ok (.lst xs) S) := rfl
@[simp] theorem mkT_e (xs : List IV) : mkT xs S = chk (xs.length ≤ sizeLine) (.ok (.tup xs) S) := rfl
@[simp] theorem iNext_e : iNext Λ S = .ok (.nx Λ) S := rfl
@[simp] theorem iSeq_e (a b : IS) : iSeq a b Λ S = (a Λ S).bind fun fl S1 => fSeq b fl S1 := rfl
@[simp] theorem fSeq_nx (b : IS) : fSeq b (.nx L) S = b L S := rfl
@[simp] theorem fSeq_rt (b : IS) (v : IV) : fSeq b (.rt v) S = .ok (.rt v) S := rfl
@[simp] theorem fSeq_bk (b : IS) : fSeq b (.bk L) S = .ok (.bk L) S := rfl
@[simp] theorem fSeq_ct (b : IS) : fSeq b (.ct L) S = .ok (.ct L) S := rfl
@[simp] theorem iDrop_e (m : IE) : iDrop m Λ S = (m Λ S).bind fun _ S1 => .ok (.nx Λ) S1 := rfl
@[simp] theorem iRet_e (m : IE) : iRet m Λ S = (m Λ S).bind fun x S1 => .ok (.rt x) S1 := rfl
@[simp] theorem iRetN_e : iRetN Λ S = .ok (.rt .non) S := rfl
@[simp] theorem iBrk_e : iBrk Λ S = .ok (.bk Λ) S := rfl
@[simp] theorem iCnt_e : iCnt Λ S = .ok (.ct Λ) S := rfl
@[simp] theorem iName_e (i : Nat) (x : IV) : iName i x Λ S = .ok (Λ.set i (some x)) S := rfl
@[simp] theorem iAsg_e (m : IE) (g : IG) : iAsg m g Λ S = (m Λ S).bind fun x S1 => (g x Λ S1).bind fun L S2 => .ok (.nx L) S2 := rfl
@[simp] theorem iSet_e (i : Nat) (m : IE) : iSet i m Λ S = (m Λ S).bind fun x S1 => .ok (.nx (Λ.set i (some x))) S1 := rfl
@[simp] theorem iGSub_e (mo mi : IE) (x : IV) : iGSub mo mi x Λ S = (mo Λ S).bind fun o S1 => (mi Λ S1).bind fun i S2 => asI i fun k => onL S2 o fun n xs => orBad (ixN xs.length k) fun j => .ok Λ (S2.set n (.lst (xs.set j x))) := rfl
theorem onL_s {α : Type} {n : Nat} {xs : List IV} {k : Nat → List IV → Out α} (h : S[n]? = some (.lst xs)) : onL S (.adr n) k = k n xs := by unfold onL; simp only [h]
@[simp] theorem iFor_e (ms : IW) (g : IG) (b : IS) : iFor ms g b Λ S = (ms Λ S).bind fun s S1 => iIter s g b s.items Λ S1 := rfl
@[simp] theorem iSrcR1_e (m : IE) : iSrcR1 m Λ S = (m Λ S).bind fun x S1 => asI x fun j => chk (-(2 ^ 62) ≤ j ∧ j < 2 ^ 62) (.ok ⟨rangeI 0 j.toNat, none⟩ S1) := rfl
@[simp] theorem iSrcS_e (m : IE) : iSrcS m Λ S = (m Λ S).bind fun x S1 => asS x fun z => .ok ⟨z.cps.toList.map fun c => .str ⟨#[c]⟩, none⟩ S1 := rfl
@[simp] theorem iSrcL_e (m : IE) : iSrcL m Λ S = (m Λ S).bind fun x S1 => fSrcL x S1 := rfl
@[simp] theorem fSrcL_l (xs : List IV) : fSrcL (.lst xs) S = .ok ⟨xs, none⟩ S := rfl
@[simp] theorem fSrcL_w (xs : List IV) : fSrcL (.wls xs) S = .ok ⟨xs, none⟩ S := rfl
@[simp] theorem iLc_e (cell : Bool) (ms : IW) (gi : IV → Slots → Option Slots) (tt : IT) (te : IE) (vs : List Nat) : iLc cell ms gi tt te vs Λ S = (ms Λ S).bind fun s S1 => (iLcGo s gi tt te s.items (wipeI Λ vs) S1 []).bind fun acc S2 => mkL cell acc S2 := rfl
@[simp] theorem iYes_e : iYes Λ S = .ok true S := rfl
@[simp] theorem giN_e (j : Nat) (x : IV) : giN j x Λ = some (Λ.set j (some x)) := rfl
@[simp] theorem iCall_e (np : Nat) (mf : List IV → Sto → Out IV) (a : IA) : iCall np mf a Λ S = (a Λ S).bind fun xs S1 => chk (xs.length = np) (relab Λ (mf xs S1)) := rfl
@[simp] theorem relab_ok (v : IV) : relab Λ (.ok v S) = .ok v S := rfl
@[simp] theorem relab_bad : relab Λ .bad = .bad := rfl
@[simp] theorem iBM_e (T : String) (f : IV → List IV → Sto → Out IV) (mo : IE) (ma : IA) : iBM T f mo ma Λ S = (mo Λ S).bind fun o S1 => chk (hasTy T S1 o = true) ((ma Λ S1).bind fun xs S2 => f o xs S2) := rfl
@[simp] theorem fI_i (C : Int → Int → Prop) [∀ i j, Decidable (C i j)] (g : Int → Int → Int) (i j : Int) : fI C g (.int i) (.int j) S = chk (C i j) (.ok (.int (g i j)) S) := rfl
@[simp] theorem fB_i (g : Int → Int → Bool) (i j : Int) : fB g (.int i) (.int j) S = .ok (.bl (g i j)) S := rfl
@[simp] theorem fAdd_i (i j : Int) : fAdd (.int i) (.int j) S = .ok (.int (i + j)) S := rfl
@[simp] theorem fAdd_s (a b : Str) : fAdd (.str a) (.str b) S = chk (a.length + b.length ≤ sizeLine) (.ok (.str (a ++ b)) S) := rfl
@[simp] theorem fAdd_l (a b : List IV) : fAdd (.lst a) (.lst b) S = mkF (a ++ b) S := rfl
@[simp] theorem mkF_e (a : List IV) : mkF a S = chk (a.length ≤ sizeLine) (.ok (.lst a) S) := rfl
@[simp] theorem fIx_l (xs : List IV) (i : Int) : fIx (.lst xs) (.int i) S = orBad (atI xs i) fun v => .ok v S := rfl
@[simp] theorem fIx_w (xs : List IV) (i : Int) : fIx (.wls xs) (.int i) S = orBad (atI xs i) fun v => .ok v S := rfl
@[simp] theorem fIx_t (xs : List IV) (i : Int) : fIx (.tup xs) (.int i) S = orBad (atI xs i) fun v => .ok v S := rfl
@[simp] theorem fIx_s (z : Str) (i : Int) : fIx (.str z) (.int i) S = chk (z.length ≤ sizeLine) (orBad (atI z.cps.toList i) fun c => .ok (.str ⟨#[c]⟩) S) := rfl
theorem fIx_a {n : Nat} {xs : List IV} {i : Int} (h : S[n]? = some (.lst xs)) : fIx (.adr n) (.int i) S = orBad (atI xs i) fun v => .ok v S := by
  show orBad (lstOf S (.adr n)) _ = _
  unfold lstOf
  simp only [h]
  rfl
@[simp] theorem fInt_i (i : Int) : fInt [.int i] S = .ok (.int i) S := rfl
@[simp] theorem fInt_b (i : Bool) : fInt [.bl i] S = .ok (.int (if i then 1 else 0)) S := rfl
@[simp] theorem fAbs_i (i : Int) : fAbs [.int i] S = .ok (.int (if i < 0 then -i else i)) S := rfl
@[simp] theorem fLen_e (x : IV) : fLen [x] S = orBad (lenN S x) fun n => .ok (.int n) S := rfl
@[simp] theorem lenN_s (s : Str) : lenN S (.str s) = if s.length ≤ sizeLine then some s.length else none := rfl
@[simp] theorem lenN_l (s : List IV) : lenN S (.lst s) = some s.length := rfl
@[simp] theorem lenN_w (s : List IV) : lenN S (.wls s) = some s.length := rfl
@[simp] theorem lenN_t (s : List IV) : lenN S (.tup s) = some s.length := rfl
@[simp] theorem fMax2_i (i j : Int) : fMax2 [.int i, .int j] S = .ok (.int (if j > i then j else i)) S := rfl
@[simp] theorem fMin2_i (i j : Int) : fMin2 [.int i, .int j] S = .ok (.int (if j < i then j else i)) S := rfl
@[simp] theorem fIsi_e (x : IV) (n : String) : fIsi [x, .ty n] S = orBad (tyN S x) fun t => orBad (kitN t n) fun b => .ok (.bl b) S := rfl
@[simp] theorem tyN_non : tyN S .non = some "NoneType" := rfl
@[simp] theorem tyN_bl (b : Bool) : tyN S (.bl b) = some "bool" := rfl
@[simp] theorem tyN_int (b : Int) : tyN S (.int b) = some "int" := rfl
@[simp] theorem tyN_str (b : Str) : tyN S (.str b) = some "str" := rfl
@[simp] theorem tyN_lst (b : List IV) : tyN S (.lst b) = some "list" := rfl
@[simp] theorem tyN_tup (b : List IV) : tyN S (.tup b) = some "tuple" := rfl
@[simp] theorem fIn_e (x y : IV) : fIn x y S = orBad (inB S x y) fun b => .ok (.bl b) S := rfl
@[simp] theorem fNotIn_e (x y : IV) : fNotIn x y S = orBad (inB S x y) fun b => .ok (.bl (!b)) S := rfl
@[simp] theorem fEq_e (x y : IV) : fEq x y S = orBad (eqB S x y) fun b => .ok (.bl b) S := rfl
@[simp] theorem fNe_e (x y : IV) : fNe x y S = orBad (eqB S x y) fun b => .ok (.bl (!b)) S := rfl
@[simp] theorem eqB_i (i j : Int) : eqB S (.int i) (.int j) = some (decide (i = j)) := rfl
@[simp] theorem eqB_s (i j : Str) : eqB S (.str i) (.str j) = some (decide (i = j)) := rfl
@[simp] theorem eqB_b (i j : Bool) : eqB S (.bl i) (.bl j) = some (decide (i = j)) := rfl
@[simp] theorem gIsN_e (x : IV) : gIsN x .non S = .ok (.bl (isN x)) S := rfl
@[simp] theorem gNotN_e (x : IV) : gNotN x .non S = .ok (.bl (!isN x)) S := rfl
@[simp] theorem fSl_s (cell : Bool) (z : Str) (lo hi : Option Int) : fSl cell (.str z) lo hi S = chk (z.length ≤ sizeLine) (.ok (.str (cutS z lo hi)) S) := rfl
@[simp] theorem fSl_l (cell : Bool) (z : List IV) (lo hi : Option Int) : fSl cell (.lst z) lo hi S = mkL cell (cutI z lo hi) S := rfl
theorem mDef_e (n : Nat) (b : IS) (xs : List IV) : mDef n b xs S = match b (xs.map some ++ List.replicate (n - xs.length) none) S with
  | .ok (.rt iv) S' => .ok iv S'
  | .ok (.nx _) S' => .ok .non S'
  | .ok _ _ => .bad
  | .exc C k _ S' => .exc C k [] S'
  | .bad => .bad := rfl
theorem mDef_rt {n : Nat} {b : IS} {xs : List IV} {v : IV} (h : b (xs.map some ++ List.replicate (n - xs.length) none) S = .ok (.rt v) S') : mDef n b xs S = .ok v S' := by unfold mDef; simp only [h]
theorem atI_n {α : Type} {xs : List α} {i : Nat} {v : α} (h : xs[i]? = some v) : atI xs (i : Int) = some v := atI_nat h
@[simp] theorem atI_0 {α : Type} (x : α) (xs : List α) : atI (x :: xs) 0 = some x := atI_nat (xs := x :: xs) (j := 0) rfl
@[simp] theorem atI_1 {α : Type} (x y : α) (xs : List α) : atI (x :: y :: xs) 1 = some y := atI_nat (xs := x :: y :: xs) (j := 1) rfl
@[simp] theorem atI_2 {α : Type} (x y z : α) (xs : List α) : atI (x :: y :: z :: xs) 2 = some z := atI_nat (xs := x :: y :: z :: xs) (j := 2) rfl
@[simp] theorem ixN_0 (n : Nat) : ixN (n + 1) 0 = some 0 := by unfold ixN; rw [if_pos (by omega), if_pos (by omega)]; rfl
@[simp] theorem ixN_1 (n : Nat) : ixN (n + 2) 1 = some 1 := by unfold ixN; rw [if_pos (by omega), if_pos (by omega)]; rfl
@[simp] theorem ixN_2 (n : Nat) : ixN (n + 3) 2 = some 2 := by unfold ixN; rw [if_pos (by omega), if_pos (by omega)]; rfl
abbrev sg (s : Str) : List Nat := s.cps.toList
theorem sg_inj {a b : Str} (h : sg a = sg b) : a = b := by
  cases a; cases b
  exact congrArg Str.mk (Array.toList_inj.mp h)
theorem sg_len (s : Str) : (sg s).length = s.length := by simp [sg, Str.length]
theorem sg_app (a b : Str) : sg (a ++ b) = sg a ++ sg b := by
  show (a.cps ++ b.cps).toList = _
  simp [sg]
theorem len_app (a b : Str) : (a ++ b).length = a.length + b.length := by rw [← sg_len, sg_app, List.length_append, sg_len, sg_len]
theorem sg_mk (l : List Nat) : sg ⟨l.toArray⟩ = l := by simp [sg]
theorem sg_cut (z : Str) (lo hi : Option Int) : sg (cutS z lo hi) = ((sg z).drop (HT.sIx z.length 0 lo)).take (HT.sIx z.length z.length hi - HT.sIx z.length 0 lo) := by
  unfold cutS
  rw [sg_mk]
theorem len_cut (z : Str) (lo hi : Option Int) : (cutS z lo hi).length ≤ z.length := cutS_length z lo hi
theorem fold_glue : ∀ (zs : List Str) (acc : Array Nat), (zs.foldl (fun acc p => acc ++ (Str.mk #[]).cps ++ p.cps) acc).toList = acc.toList ++ (zs.map sg).flatten
  | [], acc => by simp
  | z :: zs, acc => by
    rw [List.foldl_cons, fold_glue zs, List.map_cons, List.flatten_cons]
    simp [sg]
theorem sg_join0 (zs : List Str) : sg (PySem.Txt.join ⟨#[]⟩ zs) = (zs.map sg).flatten := by
  show ((zs.drop 1).foldl _ (zs.headD Str.empty).cps).toList = _
  cases zs with
  | nil => rfl
  | cons z zs =>
    show (zs.foldl (fun acc p => acc ++ (Str.mk #[]).cps ++ p.cps) z.cps).toList = _
    rw [fold_glue]
    rfl
theorem empty_eq : ("" : Str) = ⟨#[]⟩ := by decide +kernel
def okS (s : Str) : Prop := ∀ c ∈ sg s, c < 1114112
theorem okS_b {s : Str} (h : okS s) : PyData.strOk s = true := by
  unfold PyData.strOk
  rw [← Array.all_toList]
  exact List.all_eq_true.mpr fun c hc => decide_eq_true (h c hc)
theorem viewL_strs {f : IV → Option PyData} (hf : ∀ s, f (.str s) = some (.str s)) : ∀ zs : List Str, viewL f (zs.map IV.str) = some (zs.map PyData.str)
  | [] => rfl
  | z :: zs => by
    show viewL f (.str z :: zs.map IV.str) = _
    unfold viewL
    rw [hf, viewL_strs hf zs]
    rfl
theorem canLay_strs : ∀ {zs : List Str}, (∀ z ∈ zs, okS z) → PyData.canLayAll0 (zs.map PyData.str) = true
  | [], _ => by simp [PyData.canLayAll0]
  | z :: zs, h => by
    show PyData.canLayAll0 (.str z :: zs.map PyData.str) = true
    rw [PyData.canLayAll0, PyData.canLay0, okS_b (h z List.mem_cons_self), canLay_strs fun y hy => h y (List.mem_cons_of_mem _ hy)]
    rfl
theorem depth_strs : ∀ zs : List Str, PyData.depthAll (zs.map PyData.str) = 0
  | [] => by simp [PyData.depthAll]
  | z :: zs => by
    show PyData.depthAll (.str z :: zs.map PyData.str) = 0
    rw [PyData.depthAll, PyData.depth, depth_strs zs]
    rfl
theorem eqv_strs : ∀ zs ys : List Str, PyData.eqvAll (zs.map PyData.str) (ys.map PyData.str) = decide (zs = ys)
  | [], [] => by simp [PyData.eqvAll]
  | [], y :: ys => by simp [PyData.eqvAll]
  | z :: zs, [] => by simp [PyData.eqvAll]
  | z :: zs, y :: ys => by
    show PyData.eqvAll (.str z :: zs.map PyData.str) (.str y :: ys.map PyData.str) = _
    rw [PyData.eqvAll, PyData.eqv, eqv_strs zs ys]
    by_cases h1 : z = y
    · subst h1
      by_cases h2 : zs = ys
      · subst h2; simp
      · simp [h2]
    · simp [h1]
theorem shaped_strs {zs : List Str} (h : ∀ z ∈ zs, okS z) : SeqAt.shaped (.list (zs.map PyData.str)) = true := by
  unfold SeqAt.shaped
  rw [PyData.canLay0, PyData.depth, canLay_strs h, depth_strs]
  rfl
theorem eqB_lst {S : Sto} {x y : List IV} {d e : PyData} (h1 : view 8 S (.lst x) = some d) (h2 : view 8 S (.lst y) = some e) (s1 : SeqAt.shaped d = true) (s2 : SeqAt.shaped e = true) : eqB S (.lst x) (.lst y) = some (PyData.eqv d e) := by
  show (match view 8 S (.lst x), view 8 S (.lst y) with
    | some d, some e => if SeqAt.shaped d = true ∧ SeqAt.shaped e = true then some (PyData.eqv d e) else none
    | _, _ => none) = _
  rw [h1, h2]
  show (if SeqAt.shaped d = true ∧ SeqAt.shaped e = true then some (PyData.eqv d e) else none) = _
  rw [if_pos ⟨s1, s2⟩]
theorem view_strs {S : Sto} (n : Nat) (zs : List Str) : view (n + 2) S (.lst (zs.map IV.str)) = some (.list (zs.map PyData.str)) := by
  show (viewL (view (n + 1) S) (zs.map IV.str)).map PyData.list = _
  rw [viewL_strs fun s => rfl]
  rfl
theorem eqB_strs {S : Sto} {zs ys : List Str} (hz : ∀ z ∈ zs, okS z) (hy : ∀ z ∈ ys, okS z) : eqB S (.lst (zs.map IV.str)) (.lst (ys.map IV.str)) = some (decide (zs = ys)) := by
  rw [eqB_lst (view_strs 6 zs) (view_strs 6 ys) (shaped_strs hz) (shaped_strs hy), PyData.eqv, eqv_strs]
theorem scVs_strs : ∀ zs : List Str, scVs (zs.map IV.str) = some (zs.map V.str)
  | [] => rfl
  | z :: zs => by
    show scVs (.str z :: zs.map IV.str) = _
    unfold scVs
    rw [scVs_strs zs]
    rfl
theorem inV_strs (s : Str) (zs : List Str) : inV (.str s) (zs.map V.str) = decide (s ∈ zs) := by
  unfold inV
  induction zs with
  | nil => rfl
  | cons z zs ih =>
    rw [List.map_cons, List.any_cons, ih]
    by_cases h : s = z
    · subst h; simp [eqV]
    · have : (z == s) = false := by simpa using fun e => h e.symm
      simp [eqV, this, h]
theorem inB_lst {S : Sto} (s : Str) (zs : List Str) : inB S (.str s) (.lst (zs.map IV.str)) = some (decide (s ∈ zs)) := by
  show ((scVs (zs.map IV.str)).map fun us => inV (.str s) us) = _
  rw [scVs_strs]
  show some (inV (.str s) (zs.map V.str)) = _
  rw [inV_strs]
theorem inB_tup {S : Sto} (s : Str) (zs : List Str) : inB S (.str s) (.tup (zs.map IV.str)) = some (decide (s ∈ zs)) := by
  show ((scVs (zs.map IV.str)).map fun us => inV (.str s) us) = _
  rw [scVs_strs]
  show some (inV (.str s) (zs.map V.str)) = _
  rw [inV_strs]
theorem stay_none (xs : List IV) (S : Sto) : (Src.mk xs none).stay S := trivial
section
variable {K : PySem.W.Frag} {mg : Str → Option Value} {h : Heap}
theorem loc_mk {x : Str} {st : Stmt} {ps : List Str} {f : Addr} {od an : Option Addr} {sl : Array (Option Value)} {oc kV dc pm cd ct : Value} (X : K.In h) (G : h.Ns mainGlobals mg)
    (a : PySem.W.nsIn K mainGlobals x = some (some (.ref f))) (l : K.lookup f = some ⟨oc, od, .func (PySem.W.fnOf x x (defArgs st) (defBody st) (defScope st) .none kV dc pm an cd ct), sl⟩) (c : PySem.W.codeIn K cd x = true) (k : PySem.W.keepIn K (.ref f) = true)
    (hb : ∀ (kV doc pm : Value) (an : Option Addr) (cdv ct : Value) (us : List Value), us.length = ps.length → bindArgs (PySem.W.fnOf x x (defArgs st) (defBody st) (defScope st) .none kV doc pm an cdv ct) ⟨us, []⟩ = pure (ps.zip us)) : Loc K mg x st ps :=
  have F := fun_mk (st := st) l c k
  ⟨f, _, PySem.W.mg_of X G a, F, F.binds hb⟩
theorem gtup_mk {x : Str} {zs : List Str} {a : Addr} {od : Option Addr} {its : Array Value} {n : Nat} {sl : Array (Option Value)} (X : K.In h) (G : h.Ns mainGlobals mg) (ha : PySem.W.nsIn K mainGlobals x = some (some (.ref a)))
    (l : K.lookup a = some ⟨.type "tuple", od, .seq its n, sl⟩) (hz : its.size ≤ sizeLine) (v : Vals (zs.map V.str) its.toList) : GTup K mg x zs :=
  ⟨a, _, its, n, PySem.W.mg_of X G ha, l, rfl, rfl, hz, v⟩
end
def goodStrs : List Str → List Value → Bool
  | [], [] => true
  | z :: zs, .str x _ :: its => decide (z = x) && goodStrs zs its
  | _, _ => false
theorem vals_of_b : ∀ {zs : List Str} {its : List Value}, goodStrs zs its = true → Vals (zs.map V.str) its
  | [], [], _ => .nil
  | z :: zs, .str x t :: its, h => by
    obtain ⟨h1, h2⟩ := Bool.and_eq_true_iff.mp (show (decide (z = x) && goodStrs zs its) = true from h)
    have := of_decide_eq_true h1
    subst this
    exact .cons ⟨t, rfl⟩ (vals_of_b h2)
theorem sp_law {K : PySem.W.Frag} {mg : Str → Option Value} {m : List IV → Sto → Out IV} {n : Nat} (hm : ∀ ns : List Int, ns.length ≤ n → ∃ S', m [.wls (ns.map IV.int)] [] = .ok (.bl true) S') {H : Hp} {a : Addr} {ns : List Int} {Q : VK} {E : XK} (hl : ns.length ≤ n) (hS : SqL K H a (ns.map V.int)) (hq : ∀ H', Q (.bl true) H') :
    spM K mg 1 m [.ref a] H Q E := by
  obtain ⟨S', e⟩ := hm ns hl
  have rl : ∀ {w : Wd} (l : List Int), RelL ⟨K, mg, none⟩ w (l.map V.int) (l.map IV.int) := fun {w} l => by
    induction l with
    | nil => exact .nil
    | cons x l ih => exact .cons (.int x) ih
  refine ⟨rfl, ⟨[], H, fun _ => none⟩, [], [.wls (ns.map IV.int)], ?_, .one (.wls hS (rl ns)), ?_⟩
  · refine ⟨rfl, List.nodup_nil, fun n c a h => ?_, fun n a h => ?_, Same.refl _, fun b o h => ?_, fun b o h => ?_⟩
    · simp at h
    · simp at h
    · have h : (none : Option HO) = some o := h
      cases h
    · have h : (none : Option HO) = some o := h
      cases h
  · rw [e]
    intro w' H' l r v rv
    cases rv
    exact hq H'
def lawSp (K : PySem.W.Frag) (n : Nat) : Sp := fun vs H Q _ => ∃ (a : Addr) (ns : List Int), vs = [.ref a] ∧ ns.length ≤ n ∧ SqL K H a (ns.map V.int) ∧ ∀ H', Q (.bl true) H'
section
variable {K : PySem.W.Frag} {h : Heap} {mg : Str → Option Value}
theorem law_mk {x y : Str} {st : Stmt} {f fa : Addr} {od an : Option Addr} {sl : Array (Option Value)} {oc kV dc pm cd ct : Value} (X : K.In h) (G : h.Ns mainGlobals mg) (hfa : mg x = some (.ref fa))
    (a : PySem.W.nsIn K mainGlobals x = some (some (.ref f))) (l : K.lookup f = some ⟨oc, od, .func (PySem.W.fnOf x x (defArgs st) (defBody st) (defScope st) .none kV dc pm an cd ct), sl⟩) (c : PySem.W.codeIn K cd x = true) (k : PySem.W.keepIn K (.ref f) = true)
    (hb : ∀ (kV doc pm : Value) (an : Option Addr) (cdv ct u : Value), bindArgs (PySem.W.fnOf x x (defArgs st) (defBody st) (defScope st) .none kV doc pm an cdv ct) ⟨[u], []⟩ = pure [(y, u)])
    {P : Program} {w : World} {n : Nat} {m : List IV → Sto → Out IV} (hm : ∀ ns : List Int, ns.length ≤ 63 → ∃ S', m [.wls (ns.map IV.int)] [] = .ok (.bl true) S') (H : ∀ (fd : FuncData), Fun K x x st fa fd → ∀ base : Heap, K.In base → base.Ns mainGlobals mg → FnG P w K mg base (L2.CX P w) n fa fd [y] (spM K mg 1 m)) :
    ∃ fd : FuncData, (∀ (s : Shared) (v : Value), BindsTo s fd ⟨[v], []⟩ [(y, v)]) ∧ ∀ base : Heap, K.In base → base.Ns mainGlobals mg → FnG P w K mg base (L2.CX P w) n fa fd [y] (lawSp K 63) := by
  have e := hfa.symm.trans (PySem.W.mg_of X G a)
  cases e
  have F := fun_mk (st := st) l c k
  exact ⟨_, fun s v => .of_eq (hb _ _ _ _ _ _ v), fun base kin ns => (H _ F base kin ns).imp fun vs H Q E ⟨a, xs, e, hl, hS, hq⟩ => by
    subst e
    exact sp_law hm hl hS hq⟩
end
structure BaseC (K : PySem.W.Frag) (mg : Str → Option Value) (x : Str) : Prop where
  ex : ∃ C : Addr, mg x = some (.ref C) ∧ PySem.W.specialIn K (.ref C) "__getattribute__" = some (some (.builtin "type.__getattribute__")) ∧ PySem.W.typeIn K (.ref C) = some (.type "type") ∧
    PySem.W.readsIn K C (.type "type") = true ∧ PySem.W.findCls K (.ref C) (.type "type") "__init__" = some (.val (.builtin "ValueError.__init__"))
section
variable {X : Cx} {e : Expr} {es : List Expr} {ta : TA} {x : Str} {p1 p2 pos : Pos}
theorem pe_clsinit {pl : Sem Bool} (hg : Gl X x) (B : BaseC X.K X.mg x) (hdb : (x == ("__debug__" : Str)) = false) (ha : PA X (e :: es) ta)
    (hc : eval (.Call (.Attribute (.Name x p1) "__init__" p2) (e :: es) [] pos) X.env = (do
      let ov ← eval (.Name x p1) X.env
      standAt p2.atName
      let (f, first) ← holding [ov] (getMethod ov "__init__" pl)
      callWith pos f first (backTo pos (starEach (e :: es) X.env)) (backToKw pos (keywordEach [] X.env))) := by rfl)
    (he : starEach (e :: es) X.env = (false, eval e X.env) :: starEach es X.env := by rfl) (hpl : (backTo pos (starEach es X.env)).any (·.1) = false := by rfl) :
    PE X (.Call (.Attribute (.Name x p1) "__init__" p2) (e :: es) [] pos) (tVeI X.K ta) := by
  obtain ⟨C, hm, ga, ty, rd, fc⟩ := B.ex
  refine ⟨fun pins s σ H Q I h => ?_⟩
  refine PySem.W.methodCall_KW (ld_glob I hg hm ?_ hdb) hc
  obtain ⟨m, fr⟩ := I.fr
  refine PySem.W.method_of_cls fr I.ok.mod.kin ga (PySem.W.cls_val fr I.ok.mod.kin ty rd fc (by decide +kernel) ?_)
  show wpAny _ _ (callWith pos (Value.builtin "ValueError.__init__") [] (backTo pos (starEach (e :: es) X.env)) []) _ _ _
  refine PyProof.Rows.callWith_method1 (thn (ha.run pos pins _ σ H _ (I.tok _) h) fun us s1 ⟨vs, H1, I1, r1, a, C, ws, ev, hl, T, ea, q⟩ => ?_) he hpl
  subst ev
  cases r1 with
  | @cons _ u0 _ ur ra rw' =>
    obtain rfl : u0 = Value.ref a := ra
    have hlen : ur.length ≤ sizeLine := by
      rw [← Paired.length rw', sizeLine_eq]
      omega
    exact oinit_ok T I1 ea hlen fun s' J => ⟨.non, H1, J, rfl, q⟩
end
def exSp (K : PySem.W.Frag) (f : Str) : Sp := fun vs H Q _ => ∃ (a C : Addr) (v : V), vs = [.ref a, v] ∧ OexC K C ∧ PySem.W.findIn K (.ref C) f = some none ∧ H a = some (exo a C none) ∧
  ∀ dx, H dx = none → dx ≠ a → Q .non (upd (upd H dx (exd dx [(f, v)])) a (exo a C (some dx)))
structure EClsAt (K : PySem.W.Frag) (mg : Str → Option Value) (x : Str) (f : Str) (C : Addr) : Prop where
  m : mg x = some (.ref C)
  o : OexC K C
  nf : PySem.W.findIn K (.ref C) f = some none
structure ECal (P : Program) (w : World) (K : PySem.W.Frag) (mg : Str → Option Value) (base : Heap) (x f : Str) : Prop where
  ex : ∃ (C fI : Addr) (fd : FuncData) (a b : Str), EClsAt K mg x f C ∧ PySem.W.findIn K (.ref C) "__init__" = some (some (.ref fI)) ∧ PySem.W.typeIn K (.ref fI) = some (.type "function") ∧
    L2.Binds K fd [a, b] [] ∧ FnOk P w K mg base (L2.CX P w) 1 fI fd [a, b] (exSp K f)
section
variable {P : Program} {w : World} {K : PySem.W.Frag} {mg : Str → Option Value} {base : Heap}
def tInit (K : PySem.W.Frag) (f z : Str) : TS := tSeq (tDrop (tVeI K (tCons (tVar 0) (tCons (tC (.str z)) tNil)))) (tOst K f (tVar 0) (tVar 1))
theorem einit_ok {qual : Str} {st : Stmt} {fI : Addr} {fd : FuncData} {f a b z : Str} (F : Fun K "__init__" qual st fI fd) (Sc : FnScope [a, b] [a, b] (defScope st))
    (hb : ∀ (cdv : Value) (A : Around) (outer : List Env) (s : Shared) (H : Hp) (E : XK), PSs (DX P w K mg base [a, b] qual (defScope st) fI cdv A outer s H E) (defBody st) (tInit K f z)) : FnOk P w K mg base (L2.CX P w) 1 fI fd [a, b] (exSp K f) := by
  refine F.okX Sc (fun vs H Q E h => by obtain ⟨_, _, _, rfl, _⟩ := h; rfl) fun cdv A outer s H vs Q E hr h => ?_
  obtain ⟨e, C, v, rfl, T, nf, ha, q⟩ := h
  exact ⟨_, hb cdv A outer s H E, .ref e, rfl, e, C, [.str z], rfl, by simp, T, ha, v, rfl, .ref e, rfl, e, C, rfl, T, nf, .inl ⟨ha, fun dx hn hne => q dx hn hne⟩⟩
end
section
variable {X : Cx} {W : WZ} {e : Expr} {es : List Expr} {ma : IA} {x f : Str} {p pos rpos : Pos}
theorem exc_hp {H1 : Hp} {a dx : Addr} {o o' o'' o3 : HO} (ha : H1 a = none) (hne : dx ≠ a) : upd (del (upd (upd (upd H1 a o) dx o') a o'') a) dx o3 = upd H1 dx o3 := by
  funext b
  by_cases hb : b = dx
  · rw [hb, upd_same, upd_same]
  · rw [upd_ne hb, upd_ne hb]
    by_cases hc : b = a
    · rw [hc, del_same, ha]
    · rw [del_ne hc, upd_ne hc, upd_ne hb, upd_ne hc]
theorem pmk_e (c : ECal X.prog X.w X.K X.mg X.base x f) (tk : Takes X W.x) (hr : RmG 2 X.A) (hg : Gl X x) (ha : DA X W (e :: es) ma) (hdb : (x == ("__debug__" : Str)) = false)
    (he : starEach (e :: es) X.env = (false, eval e X.env) :: starEach es X.env) (hpl : (backTo pos (starEach es X.env)).any (·.1) = false) :
    PMk X (.Call (.Name x p) (e :: es) [] pos) (fun σ H Q => aM (kx X W) W.x ma σ H fun vs H' => ∃ v, vs = [v] ∧ ∀ d, H' d = none → Q (clsV X.mg x) (some d) (upd H' d (.xd [(f, v)]))) := by
  obtain ⟨C, fI, fd, a, b, ec, iC, tI, bi, F⟩ := c.ex
  have hcl : clsV X.mg x = .ref C := by unfold clsV; rw [ec.m]; rfl
  intro pins s σ H Q I h
  refine pmk_oex (ds := []) (dvs := []) ec.o iC tI F hr.toRoom bi .nil (passes_call tk fun _ _ _ _ z => z.elim) hg ec.m ha hdb he hpl pins s σ H Q I ?_
  obtain ⟨w, S, Λ, r0, s0, p⟩ := h
  refine ⟨w, S, Λ, r0, s0, p.imp fun w1 H1 S1 ivs l1 r1 p1 vs rv => ?_⟩
  obtain ⟨v, rfl, q⟩ := p1 vs rv
  refine ⟨by simp, fun e he => ⟨e, C, v, rfl, ec.o, ec.nf, upd_same, fun dx hdx hne => ⟨rfl, dx, [(f, v)], upd_same, by rw [upd_ne hne, upd_same], by rwa [upd_ne hne] at hdx, ?_⟩⟩⟩
  rw [exc_hp he hne, ← hcl]
  exact q dx (by rwa [upd_ne hne] at hdx)
def iRaise (x f : Str) (ma : IA) : IS := fun Λ S => (ma Λ S).bind fun xs S1 => a1 xs fun v => .exc x S1.length Λ (S1 ++ [.xd [(f, v)]])
theorem ds_raise (hc : X.calm = true) (tk : Takes X W.x) (hr : RmG 2 X.A) (c : ECal X.prog X.w X.K X.mg X.base x f) (ha : DA X W (e :: es) ma) (hg : Gl X x := by rfl) (hdb : (x == ("__debug__" : Str)) = false := by decide)
    (he : starEach (e :: es) X.env = (false, eval e X.env) :: starEach es X.env := by rfl) (hpl : (backTo pos (starEach es X.env)).any (·.1) = false := by rfl) (hx : W.ex = none := by rfl) :
    DS X W (.Raise (some (.Call (.Name x p) (e :: es) [] pos)) none rpos) (iRaise x f ma) :=
  (ps_raise hc tk (pmk_e c tk hr hg ha hdb he hpl)).imp fun D σ H ⟨w, S, Λ, r0, s0, p⟩ => ⟨w, S, Λ, r0, s0, p.bind.imp fun w1 H1 S1 xs l1 r1 p1 vs rv => by
    obtain ⟨v, y, rfl, rfl, rv, p1⟩ := a1_post p1 rv
    refine ⟨v, rfl, fun d hd => ?_⟩
    obtain ⟨l2, r2⟩ := r1.alloc (p := d) (o := .xd [(f, v)]) (c := .xd [(f, y)]) hd fun w' l' => ⟨_, upd_same, .cons ⟨rfl, rv.up l'⟩ .nil⟩
    exact p1 _ _ d σ l2 r2 ((s0.up l1).up l2) (by
      show (w1.rho ++ [d])[S1.length]? = some d
      rw [← r1.len]
      simp)⟩
end
def iXf (i m : Nat) (f : Str) : IE := fun Λ S => match Λ[i]?, S[m]? with
  | some none, some (.xd fs) => (match fs.lookup f with
    | some v => .ok v S
    | none => .bad)
  | _, _ => .bad
theorem relKV_lookup {K : KX} {w : Wd} {f : Str} : ∀ {ps : List (Str × V)} {fs : List (Str × IV)} {iv : IV}, RelKV K w ps fs → fs.lookup f = some iv → ∃ v, ps.lookup f = some v ∧ Rel K w v iv
  | _, _, _, .nil, e => by cases e
  | (k, v) :: ps, (k', u) :: fs, iv, .cons ⟨h1, h2⟩ t, e => by
    have h1 : k = k' := h1
    subst h1
    unfold List.lookup at e ⊢
    cases hk : f == k with
    | true =>
      rw [hk] at e
      cases e
      exact ⟨v, rfl, h2⟩
    | false =>
      rw [hk] at e
      exact relKV_lookup t e
def onI {α : Type} (S : Sto) (C : Str) (x : IV) (k : Nat → List (Str × IV) → Out α) : Out α := match x with
  | .adr n => (match S[n]? with
    | some (.ins D fs) => if D = C then k n fs else .bad
    | _ => .bad)
  | _ => .bad
theorem onI_s {α : Type} {S : Sto} {C : Str} {n : Nat} {fs : List (Str × IV)} {k : Nat → List (Str × IV) → Out α} (h : S[n]? = some (.ins C fs)) : onI S C (.adr n) k = k n fs := by
  unfold onI; simp only [h, if_pos]
theorem onI_post {α : Type} {K : KX} {W : WX} {w : Wd} {S : Sto} {H : Hp} {v : V} {x : IV} {C : Str} {k : Nat → List (Str × IV) → Out α} {P : Wd → Hp → Sto → α → Prop} (h : Post K W w (onI S C x k) P) (r : R K w S H) (rx : Rel K w v x) :
    ∃ n fs a Ca dx ps, S[n]? = some (.ins C fs) ∧ w.rho[n]? = some a ∧ v = .ref a ∧ K.mg C = some (.ref Ca) ∧ H a = some (.ins Ca dx ps) ∧ RelKV K w ps fs ∧ Post K W w (k n fs) P := by
  unfold onI at h
  split at h
  · cases rx with
    | adr hrho =>
      split at h
      · rename_i q
        split at h
        · rename_i hD
          subst hD
          obtain ⟨Ca, dx, ps, h0, h1, h2⟩ := r.cell _ _ _ q hrho
          exact ⟨_, _, _, Ca, dx, ps, q, hrho, rfl, h0, h1, h2, h⟩
        · exact h.elim
      · exact h.elim
  · exact h.elim
def FC (K : PySem.W.Frag) (mg : Str → Option Value) (C f : Str) : Prop := ∃ Ca : Addr, mg C = some (.ref Ca) ∧ Cls K Ca ∧ NoAttr K Ca f
def putI (f : Str) (v : IV) : List (Str × IV) → List (Str × IV)
  | [] => [(f, v)]
  | (g, x) :: r => if g = f then (g, v) :: r else (g, x) :: putI f v r
theorem relKV_put {K : KX} {w : Wd} {f : Str} {y : V} {iv : IV} (ry : Rel K w y iv) : ∀ {ps : List (Str × V)} {fs : List (Str × IV)}, RelKV K w ps fs → RelKV K w (putF f y ps) (putI f iv fs)
  | _, _, .nil => .cons ⟨rfl, ry⟩ .nil
  | (g, v) :: ps, (g', u) :: fs, .cons ⟨h1, h2⟩ t => by
    have h1 : g = g' := h1
    subst h1
    unfold putF putI
    by_cases h : g = f
    · rw [if_pos h, if_pos h]; exact .cons ⟨rfl, ry⟩ t
    · rw [if_neg h, if_neg h]; exact .cons ⟨rfl, h2⟩ (relKV_put ry t)
theorem relKV_length {κ : Type} {K : KX} {w : Wd} : ∀ {ps : List (κ × V)} {fs : List (κ × IV)}, RelKV K w ps fs → ps.length = fs.length
  | _, _, .nil => rfl
  | _ :: _, _ :: _, .cons _ t => congrArg (· + 1) (relKV_length t)
theorem relKV_lookN {K : KX} {w : Wd} {f : Str} : ∀ {ps : List (Str × V)} {fs : List (Str × IV)}, RelKV K w ps fs → fs.lookup f = none → ps.lookup f = none
  | _, _, .nil, _ => rfl
  | (k, v) :: ps, (k', u) :: fs, .cons ⟨h1, h2⟩ t, e => by
    have h1 : k = k' := h1
    subst h1
    unfold List.lookup at e ⊢
    cases hk : f == k with
    | true => rw [hk] at e; cases e
    | false => rw [hk] at e; exact relKV_lookN t e
def fFld (C f : Str) (x : IV) (S : Sto) : Out IV := onI S C x fun _ fs => orBad (fs.lookup f) fun v => .ok v S
def iSetF (C f : Str) (mo mv : IE) : IS := fun Λ S => (mv Λ S).bind fun y S1 => (mo Λ S1).bind fun x S2 => onI S2 C x fun n fs => chk (fs.length < 1000) (.ok (.nx Λ) (S2.set n (.ins C (putI f y fs))))
section
variable {X : Cx} {W : WZ} {e o value : Expr} {C f : Str} {pos pos' tpos : Pos} {m mo mv : IE}
theorem de_fld (c : FC X.K X.mg C f) (he : DE X W e m) (hb : attributeBase e f X.env (eval e X.env) = eval e X.env := by rfl) : DE X W (.Attribute e f pos) (iUn (fFld C f) m) := by
  obtain ⟨Ca, hm, hc, hn⟩ := c
  refine (pe_fld he hb).imp fun σ H Q ⟨w, S, Λ, r0, s0, p⟩ => ⟨w, S, Λ, r0, s0, p.bind.imp fun w1 H1 S1 ix l1 r1 p1 v1 rv1 => ?_⟩
  obtain ⟨n, fs, a, Cb, dx, ps, h1, h2, h3, h4, h5, h6, q⟩ := onI_post p1 r1 rv1
  obtain ⟨iv, h7, q⟩ := orBad_post q
  obtain ⟨v, h8, h9⟩ := relKV_lookup h6 h7
  have e4 := hm.symm.trans h4
  cases e4
  exact ⟨a, Ca, dx, ps, v, h3, h5, hc, hn, h8, q.now r1 v h9⟩
theorem ds_fld (c : FC X.K X.mg C f) (ho : DE X W o mo) (hv : DE X W value mv) (hs : swapsWith value (some (.Attribute o f pos')) pos.line X.env = pure false := by rfl) : DS X W (.Assign [.Attribute o f pos'] value pos) (iSetF C f mo mv) := by
  obtain ⟨Ca, hm, hc, hn⟩ := c
  refine (ps_fld ho hv hs).imp fun D σ H ⟨w, S, Λ, r0, s0, p⟩ => ⟨w, S, Λ, r0, s0, p.bind.imp fun w1 H1 S1 iy l1 r1 p1 y ry => ⟨w1, S1, Λ, r1, s0.up l1, p1.bind.imp fun w2 H2 S2 ix l2 r2 p2 v rv => ?_⟩⟩
  obtain ⟨n, fs, a, Cb, dx, ps, h1, h2, h3, h4, h5, h6, q⟩ := onI_post p2 r2 rv
  obtain ⟨hl, q⟩ := chk_post q
  have e4 := hm.symm.trans h4
  cases e4
  exact ⟨a, Ca, dx, ps, h3, h5, hc, hn, by rw [relKV_length h6]; exact hl, q.now (r2.write h2 ⟨Ca, dx, _, hm, upd_same, relKV_put (ry.up l2) h6⟩ (fun _ e => by rw [h1] at e; cases e)) σ ((s0.up l1).up l2)⟩
end
def MCal (P : Program) (w : World) (K : PySem.W.Frag) (mg : Str → Option Value) (base : Heap) (C m : Str) (k : Nat) (ps : List Str) (mf : List IV → Sto → Out IV) : Prop :=
  ∃ (Ca f : Addr) (fd : FuncData), mg C = some (.ref Ca) ∧ Cls K Ca ∧ Meth K Ca m f ∧ L2.Binds K fd ps [] ∧ FnG P w K mg base (L2.CX P w) k f fd ps (spM K mg ps.length mf)
def MLoc (K : PySem.W.Frag) (mg : Str → Option Value) (C m : Str) (qual : Str) (st : Stmt) (ps : List Str) : Prop := ∃ (Ca f : Addr) (fd : FuncData), mg C = some (.ref Ca) ∧ Cls K Ca ∧ Meth K Ca m f ∧ Fun K m qual st f fd ∧ L2.Binds K fd ps []
section
variable {P : Program} {w : World} {K : PySem.W.Frag} {mg : Str → Option Value} {base : Heap}
theorem mcal_def {C m qual : Str} {st : Stmt} {N ps : List Str} {k : Nat} {body : IS} (L : MLoc K mg C m qual st ps) (Sc : FnScope N ps (defScope st))
    (hb : ∀ (f : Addr) (cdv : Value) (A : Around) (outer : List Env) (s : Shared) (H : Hp) (E : XK), RmG k (A.deeper (envOfC qual (defScope st) s.heap.objs.size f cdv)) →
      Takes (DX P w K mg base N qual (defScope st) f cdv A outer s H E) (WEx E) → PassesOwn (model P w) (DX P w K mg base N qual (defScope st) f cdv A outer s H E).A (DX P w K mg base N qual (defScope st) f cdv A outer s H E).env (DX P w K mg base N qual (defScope st) f cdv A outer s H E).xe →
      DSs (DX P w K mg base N qual (defScope st) f cdv A outer s H E) ⟨WEx E, none⟩ (defBody st) body) : MCal P w K mg base C m (k + 1) ps (mDef N.length body) := by
  obtain ⟨Ca, f, fd, h1, h2, h3, h4, h5⟩ := L
  exact ⟨Ca, f, fd, h1, h2, h3, h5, ok_def h4 Sc (hb f)⟩
end
def iMeth (C m : Str) (np : Nat) (mf : List IV → Sto → Out IV) (mo : IE) (ma : IA) : IE := fun Λ S => (mo Λ S).bind fun x S1 => onI S1 C x fun _ fs => chk (fs.lookup m = none) ((ma Λ S1).bind fun xs S2 => chk (xs.length + 1 = np) (relab Λ (mf (x :: xs) S2)))
section
variable {X : Cx} {W : WX} {pos apos : Pos} {k : Nat} {ps : List Str} {mf : List IV → Sto → Out IV} {C m : Str} {o e : Expr} {es : List Expr} {mo : IE} {ma : IA}
theorem de_meth {np : Nat} {pl : Sem Bool} (c : MCal X.prog X.w X.K X.mg X.base C m k ps mf) (tk : Takes X W) (hr : RmG k X.A) (ho : DE X ⟨W, none⟩ o mo) (ha : DA X ⟨W, none⟩ (e :: es) ma) (hnp : ps.length = np := by rfl)
    (hst : starEach (e :: es) X.env = (false, eval e X.env) :: starEach es X.env := by rfl) (hpl : (backTo pos (starEach es X.env)).any (·.1) = false := by rfl)
    (ht : eval (.Call (.Attribute o m apos) (e :: es) [] pos) X.env = (do
      let ov ← eval o X.env
      standAt apos.atName
      let (f, first) ← holding [ov] (getMethod ov m pl)
      callWith pos f first (backTo pos (starEach (e :: es) X.env)) (backToKw pos (keywordEach [] X.env))) := by rfl) :
    DE X ⟨W, none⟩ (.Call (.Attribute o m apos) (e :: es) [] pos) (iMeth C m np mf mo ma) := by
  obtain ⟨Ca, f, fd, hm, hc, hM, hb, F⟩ := c
  subst hnp
  refine ⟨fun pins s σ H Q I h => ?_⟩
  obtain ⟨w, S, Λ, r0, s0, p0⟩ := h
  refine PySem.W.methodCall_KW (pl := pl) (thn (ho.run pins s σ H (fun v H1 => ∃ a dx fs, v = .ref a ∧ H1 a = some (.ins Ca dx fs) ∧ fs.lookup m = none ∧ aM (kx X ⟨W, none⟩) W ma σ H1 fun vs H2 => spM X.K X.mg ps.length mf (v :: vs) H2 Q (WE W σ)) I
    ⟨w, S, Λ, r0, s0, p0.bind.imp fun w1 H1 S1 ix l1 r1 p1 v rv => ?_⟩) fun u s1 ⟨x, H1, I1, rx, a, dx, fs, ex, ea, l, q⟩ => ?_) ht
  · obtain ⟨n, fs, a, Cb, dx, psf, h1, h2, h3, h4, h5, h6, q⟩ := onI_post p1 r1 rv
    obtain ⟨hl, q⟩ := chk_post q
    have e4 := hm.symm.trans h4
    cases e4
    refine ⟨a, dx, psf, h3, h5, relKV_lookN h6 hl, w1, S1, Λ, r1, s0.up l1, q.bind.imp fun w2 H2 S2 ivs l2 r2 p2 vs rvs => ?_⟩
    obtain ⟨hlen, q2⟩ := chk_post p2
    exact ⟨by rw [List.length_cons, rvs.length]; exact hlen, w2, S2, ix :: ivs, r2, .cons (rv.up l2) rvs, relab_post q2 ((s0.up l1).up l2)⟩
  · subst ex
    obtain rfl : u = Value.ref a := rx
    refine getmeth_ok I1 ea hc hM l ?_
    refine PySem.W.callWith_K (first := [.ref a]) (h₀ := X.base) I.ok.mod.kin hM.kp (thn (ha.run pos pins s1 σ H1 _ I1 q) fun us s2 ⟨vs, H2, I2, r, q2⟩ => ⟨I2.kIn, ?_⟩) hst hpl
    exact run_fnG (us := .ref a :: us) (vs := .ref a :: vs) F hr hb (passAt tk σ) I2 (.cons rfl r) q2
theorem de_meth0 {np : Nat} {pl : Sem Bool} (c : MCal X.prog X.w X.K X.mg X.base C m k ps mf) (tk : Takes X W) (hr : RmG k X.A) (ho : DE X ⟨W, none⟩ o mo) (hnp : ps.length = np := by rfl)
    (ht : eval (.Call (.Attribute o m apos) [] [] pos) X.env = (do
      let ov ← eval o X.env
      standAt apos.atName
      let (f, first) ← holding [ov] (getMethod ov m pl)
      callWith pos f first (backTo pos (starEach [] X.env)) (backToKw pos (keywordEach [] X.env))) := by rfl) :
    DE X ⟨W, none⟩ (.Call (.Attribute o m apos) [] [] pos) (iMeth C m np mf mo iNil) := by
  obtain ⟨Ca, f, fd, hm, hc, hM, hb, F⟩ := c
  subst hnp
  refine ⟨fun pins s σ H Q I h => ?_⟩
  obtain ⟨w, S, Λ, r0, s0, p0⟩ := h
  refine PySem.W.methodCall_KW (pl := pl) (thn (ho.run pins s σ H (fun v H1 => ∃ a dx fs, v = .ref a ∧ H1 a = some (.ins Ca dx fs) ∧ fs.lookup m = none ∧ spM X.K X.mg ps.length mf [v] H1 Q (WE W σ)) I
    ⟨w, S, Λ, r0, s0, p0.bind.imp fun w1 H1 S1 ix l1 r1 p1 v rv => ?_⟩) fun u s1 ⟨x, H1, I1, rx, a, dx, fs, ex, ea, l, q⟩ => ?_) ht
  · obtain ⟨n, fs, a, Cb, dx, psf, h1, h2, h3, h4, h5, h6, q⟩ := onI_post p1 r1 rv
    obtain ⟨hl, q⟩ := chk_post q
    have e4 := hm.symm.trans h4
    cases e4
    refine ⟨a, dx, psf, h3, h5, relKV_lookN h6 hl, ?_⟩
    have q : Post (kx X ⟨W, none⟩) W w1 (chk (([] : List IV).length + 1 = ps.length) (relab Λ (mf (ix :: []) S1))) _ := q
    obtain ⟨hlen, q2⟩ := chk_post q
    exact ⟨hlen, w1, S1, [ix], r1, .cons rv .nil, relab_post q2 (s0.up l1)⟩
  · subst ex
    obtain rfl : u = Value.ref a := rx
    refine getmeth_ok I1 ea hc hM l ?_
    exact PySem.W.callWith_K0 (first := [.ref a]) I1.kIn hM.kp (run_fnG (us := [.ref a]) (vs := [.ref a]) F hr hb (passAt tk σ) I1 (.cons rfl .nil) q)
end
def KCal (P : Program) (w : World) (K : PySem.W.Frag) (mg : Str → Option Value) (base : Heap) (C : Str) (k : Nat) (ps : List Str) (mf : List IV → Sto → Out IV) : Prop :=
  ∃ (Ca f : Addr) (fd : FuncData), mg C = some (.ref Ca) ∧ Mk K Ca f ∧ L2.Binds K fd ps [] ∧ FnG P w K mg base (L2.CX P w) k f fd ps (spM K mg ps.length mf)
def KLoc (K : PySem.W.Frag) (mg : Str → Option Value) (C : Str) (qual : Str) (st : Stmt) (ps : List Str) : Prop := ∃ (Ca f : Addr) (fd : FuncData), mg C = some (.ref Ca) ∧ Mk K Ca f ∧ Fun K "__init__" qual st f fd ∧ L2.Binds K fd ps []
section
variable {P : Program} {w : World} {K : PySem.W.Frag} {mg : Str → Option Value} {base : Heap}
theorem kcal_def {C qual : Str} {st : Stmt} {N ps : List Str} {k : Nat} {body : IS} (L : KLoc K mg C qual st ps) (Sc : FnScope N ps (defScope st))
    (hb : ∀ (f : Addr) (cdv : Value) (A : Around) (outer : List Env) (s : Shared) (H : Hp) (E : XK), RmG k (A.deeper (envOfC qual (defScope st) s.heap.objs.size f cdv)) →
      Takes (DX P w K mg base N qual (defScope st) f cdv A outer s H E) (WEx E) → PassesOwn (model P w) (DX P w K mg base N qual (defScope st) f cdv A outer s H E).A (DX P w K mg base N qual (defScope st) f cdv A outer s H E).env (DX P w K mg base N qual (defScope st) f cdv A outer s H E).xe →
      DSs (DX P w K mg base N qual (defScope st) f cdv A outer s H E) ⟨WEx E, none⟩ (defBody st) body) : KCal P w K mg base C (k + 1) ps (mDef N.length body) := by
  obtain ⟨Ca, f, fd, h1, h2, h3, h4⟩ := L
  exact ⟨Ca, f, fd, h1, h2, h4, ok_def h3 Sc (hb f)⟩
end
def iMake (C : Str) (np : Nat) (mf : List IV → Sto → Out IV) (ma : IA) : IE := fun Λ S => (ma Λ S).bind fun xs S1 => chk (xs.length + 1 = np) ((relab Λ (mf (.adr S1.length :: xs) (S1 ++ [.ins C []]))).bind fun v S2 => chk (isN v = true) (.ok (.adr S1.length) S2))
section
variable {X : Cx} {W : WX} {pos p : Pos} {k : Nat} {ps : List Str} {mf : List IV → Sto → Out IV} {C : Str} {e : Expr} {es : List Expr} {ma : IA}
theorem de_make {np : Nat} (c : KCal X.prog X.w X.K X.mg X.base C k ps mf) (tk : Takes X W) (hr : RmG (k + 1) X.A) (ha : DA X ⟨W, none⟩ (e :: es) ma) (hg : Gl X C := by rfl) (hnp : ps.length = np := by rfl) (hdb : (C == ("__debug__" : Str)) = false := by decide)
    (he : starEach (e :: es) X.env = (false, eval e X.env) :: starEach es X.env := by rfl) (hpl : (backTo pos (starEach es X.env)).any (·.1) = false := by rfl) :
    DE X ⟨W, none⟩ (.Call (.Name C p) (e :: es) [] pos) (iMake C np mf ma) := by
  obtain ⟨Ca, f, fd, hm, M, hb, F⟩ := c
  subst hnp
  refine ⟨fun pins s σ H Q I h => ?_⟩
  obtain ⟨w, S, Λ, r0, s0, p0⟩ := h
  refine wpAny_Call_Name_kw (ld_glob I hg hm ?_ hdb)
  have q0 := ha.run pos pins s σ H (fun vs H1 => ∀ x dx, H1 x = none → H1 dx = none → dx ≠ x → spM X.K X.mg ps.length mf (.ref x :: vs) (upd (upd H1 dx (.own x)) x (.ins Ca dx [])) (fun v H2 => v = .non ∧ Q (.ref x) H2) (WE W σ)) I
    ⟨w, S, Λ, r0, s0, p0.bind.imp fun w1 H1 S1 ivs l1 r1 p1 vs rvs => by
      intro x dx hx hdx hne
      obtain ⟨hlen, q⟩ := chk_post p1
      obtain ⟨l2, r2⟩ := r1.frz (o := .own x) hdx
      have hx2 : upd H1 dx (.own x) x = none := by rw [upd_ne (Ne.symm hne)]; exact hx
      obtain ⟨l3, r3⟩ := r2.alloc (p := x) (o := .ins Ca dx []) (c := .ins C []) hx2 fun w' l' => ⟨Ca, dx, [], hm, upd_same, .nil⟩
      have l13 := l2.trans l3
      have hrho : (w1.rho ++ [x])[S1.length]? = some x := by rw [← r1.len]; simp
      refine ⟨by rw [List.length_cons, rvs.length]; exact hlen, _, _, .adr S1.length :: ivs, r3, .cons (.adr hrho) (rvs.up l13), relab_post (?_ : Post (kx X ⟨W, none⟩) W _ (relab Λ (mf (.adr S1.length :: ivs) (S1 ++ [.ins C []]))) _) ((s0.up l1).up l13)⟩
      refine (q.up l13).bind.imp fun w4 H4 S4 iv l4 r4 p4 v rv => ?_
      obtain ⟨hn, p5⟩ := chk_post p4
      have hv : v = .non := by
        cases iv with
        | non => cases rv; rfl
        | _ => cases hn
      exact ⟨hv, p5.now r4 _ (.adr (l4.1.get hrho))⟩⟩
  refine PySem.W.callWith_K (h₀ := X.base) I.ok.mod.kin M.kp (thn q0 fun us s1 ⟨vs, H1, I1, r, q⟩ => ⟨I1.kIn, ?_⟩) he hpl
  -- the making
  have hq := q (s1.heap.objs.size + 1) s1.heap.objs.size (I1.hok.fresh (Nat.le_succ _)) (I1.hok.fresh (Nat.le_refl _)) (Nat.ne_of_lt (Nat.lt_succ_self _))
  have I2 := Inv.made (C := Ca) I1
  have r2 : Vals (V.ref (s1.heap.objs.size + 1) :: vs) (Value.ref (s1.heap.objs.size + 1) :: us) := .cons rfl r
  have hl : (Value.ref (s1.heap.objs.size + 1) :: us).length = ps.length := by
    have e := r2.length
    rw [F.len _ _ _ _ hq] at e
    exact e.symm
  have b := hb _ (Value.ref (s1.heap.objs.size + 1) :: us) I2.kIn (by rw [List.append_nil]; exact hl)
  rw [List.append_nil] at b
  refine wpAny_call (make_map (f := f) I1.kIn M.makes M.init (beq_iff_eq.mp M.fn) (codeAny_mono (F.run _ X.stack _ _ ⟨Value.ref (s1.heap.objs.size + 1) :: us, []⟩ (Value.ref (s1.heap.objs.size + 1) :: us) _ _ (WE W σ) (hr.make Ca us [])
    (I2.env0.make Ca us []) b r2 hq) fun r s' hq' => ?_))
  cases r with
  | error er => exact passAt tk σ pins _ _ er s' I2 hq'
  | ok fl =>
    cases fl with
    | ret u =>
      obtain ⟨v, H', I3, rv, ev, q3⟩ := I2.after hq'
      subst ev
      exact ⟨rv, ⟨V.ref (s1.heap.objs.size + 1), H', I3, rfl, q3⟩⟩
    | next => exact False.elim hq'
    | brk => exact False.elim hq'
    | cont => exact False.elim hq'
end
def iBad {α : Type} : Slots → Sto → Out α := fun _ _ => .bad
def keyI : IV → Option Key
  | .str s => some (.inr s)
  | .int i => some (.inl i)
  | _ => none
def valI (kvs : List (Key × IV)) (k : Key) : Option IV := (kvs.find? fun kv => decide (kv.1 = k)).map (·.2)
def putK' (kvs : List (Key × IV)) (k : Key) (v : IV) : List (Key × IV) :=
  if (kvs.any fun kv => decide (kv.1 = k)) = true then kvs.map (fun kv => if kv.1 = k then (kv.1, v) else kv) else kvs ++ [(k, v)]
def onD {α : Type} (S : Sto) (x : IV) (k : Nat → List (Key × IV) → Out α) : Out α := match x with
  | .adr n => (match S[n]? with
    | some (.dic kvs) => k n kvs
    | some (.dicL kvs) => k n kvs
    | _ => .bad)
  | _ => .bad
def fDGet (x y : IV) (S : Sto) : Out IV := onD S x fun _ kvs => orBad (keyI y) fun k => orBad (valI kvs k) fun v => .ok v S
def fDIn (y x : IV) (S : Sto) : Out IV := onD S x fun _ kvs => orBad (keyI y) fun k => .ok (.bl (valI kvs k).isSome) S
def fTuple (xs : List IV) (S : Sto) : Out IV := a1 xs fun x => match x with
  | .tup ys => .ok (.tup ys) S
  | x => orBad (lstX S x) fun ys => mkT ys S
theorem cs_tuple {K : KX} {W : WX} : CaS K W (fun xs H Q => ∃ p ys, xs = [.ref p] ∧ ((SqL K.k H p ys ∧ ∀ l, H l = none → Q (.ref l) (upd H l (.tup ys))) ∨ (SqT K.k H p ys ∧ Q (.ref p) H))) fTuple := fun w S H xs ix Q r rx p => by
  obtain ⟨v, x, rfl, rfl, rv, p⟩ := a1_post p rx
  split at p
  · cases rv with
    | tup h1 h2 => exact ⟨_, _, rfl, .inr ⟨same_t r.F h1, p.now r _ (.tup h1 h2)⟩⟩
  · obtain ⟨ys, e, p⟩ := orBad_post p
    obtain ⟨a, vs, rfl, h1, h2⟩ := lstX_sq e r rv
    exact ⟨a, vs, rfl, .inl ⟨.of h1, (mkT_post p r h2).2⟩⟩
def fPart (o : IV) (xs : List IV) (S : Sto) : Out IV := asS o fun a => a1 xs fun y => asS y fun b => chk ((b.length == 0) = false ∧ a.length ≤ sizeLine) (.ok (.tup [.str (PySem.Txt.partition a b).1, .str (PySem.Txt.partition a b).2.1, .str (PySem.Txt.partition a b).2.2]) S)
theorem ms_part {K : KX} {W : WX} : MtS K W (fun x xs H Q => ∃ a b, x = .str a ∧ xs = [.str b] ∧ (b.length == 0) = false ∧ a.length ≤ sizeLine ∧
    ∀ p, H p = none → Q (.ref p) (upd H p (.tup [.str (Txt.partition a b).1, .str (Txt.partition a b).2.1, .str (Txt.partition a b).2.2]))) fPart := fun w S H x xs io ix Q r ro rx p => by
  obtain ⟨a, rfl, rfl, p⟩ := asS_post p ro
  obtain ⟨v, y, rfl, rfl, rv, p⟩ := a1_post p rx
  obtain ⟨b, rfl, rfl, p⟩ := asS_post p rv
  obtain ⟨c, p⟩ := chk_post p
  refine ⟨a, b, rfl, rfl, c.1, c.2, fun q hq => ?_⟩
  obtain ⟨l, r'⟩ := r.frz (o := .tup [.str (Txt.partition a b).1, .str (Txt.partition a b).2.1, .str (Txt.partition a b).2.2]) hq
  exact p.ok l r' _ (.tup (.of upd_same) (.cons (.str _) (.cons (.str _) (.cons (.str _) .nil))))
def fEnds (o : IV) (xs : List IV) (S : Sto) : Out IV := asS o fun a => a1 xs fun y => asS y fun b => .ok (.bl (Txt.endswith a b)) S
theorem ms_endsw {K : KX} {W : WX} : MtS K W (fun x xs H Q => ∃ a b, x = .str a ∧ xs = [.str b] ∧ Q (.bl (Txt.endswith a b)) H) fEnds := fun w S H x xs io ix Q r ro rx p => by
  obtain ⟨a, rfl, rfl, p⟩ := asS_post p ro
  obtain ⟨v, y, rfl, rfl, rv, p⟩ := a1_post p rx
  obtain ⟨b, rfl, rfl, p⟩ := asS_post p rv
  exact ⟨a, b, rfl, rfl, p.now r _ (.bl _)⟩
theorem relL_strs {K : KX} {w : Wd} : ∀ zs : List Str, RelL K w (zs.map V.str) (zs.map IV.str)
  | [] => .nil
  | z :: zs => .cons (.str z) (relL_strs zs)
def fSplit (cell : Bool) (o : IV) (xs : List IV) (S : Sto) : Out IV := asS o fun a => a1 xs fun y => asS y fun b => chk ((b.length == 0) = false ∧ a.length + 2 ≤ sizeLine) (mkL cell ((Txt.split a b).map IV.str) S)
theorem ms_split {K : KX} {W : WX} (cell : Bool) : MtS K W (fun x xs H Q => ∃ a b, x = .str a ∧ xs = [.str b] ∧ (b.length == 0) = false ∧ a.length + 2 ≤ sizeLine ∧ rNewStrs (Txt.split a b) H Q) (fSplit cell) := fun w S H x xs io ix Q r ro rx p => by
  obtain ⟨a, rfl, rfl, p⟩ := asS_post p ro
  obtain ⟨v, y, rfl, rfl, rv, p⟩ := a1_post p rx
  obtain ⟨b, rfl, rfl, p⟩ := asS_post p rv
  obtain ⟨c, p⟩ := chk_post p
  exact ⟨a, b, rfl, rfl, c.1, c.2, (mkL_post p r (relL_strs _)).2⟩
def blsOf : List IV → Option (List Bool)
  | [] => some []
  | .bl s :: xs => (blsOf xs).map (s :: ·)
  | _ => none
theorem blsOf_rel {K : KX} {w : Wd} : ∀ {xs : List IV} {vs : List V} {ss : List Bool}, blsOf xs = some ss → RelL K w vs xs → vs = ss.map V.bl
  | [], _, _, e, r => by cases e; cases r; rfl
  | x :: xs, _, ss, e, r => by
    cases r with
    | cons a b =>
      cases x with
      | bl s =>
        obtain ⟨ts, h1, h2⟩ := Option.map_eq_some_iff.mp (show (blsOf xs).map (s :: ·) = some ss from e)
        subst h2
        cases a
        rw [blsOf_rel h1 b]
        rfl
      | _ => cases e
def fAny (xs : List IV) (S : Sto) : Out IV := a1 xs fun x => orBad (lstX S x) fun ys => orBad (blsOf ys) fun bs => .ok (.bl (bs.any id)) S
def fAll (xs : List IV) (S : Sto) : Out IV := a1 xs fun x => orBad (lstX S x) fun ys => orBad (blsOf ys) fun bs => .ok (.bl (bs.all id)) S
theorem cs_any {K : KX} {W : WX} : CaS K W (rAny K.k) fAny := fun w S H xs ix Q r rx p => by
  obtain ⟨v, x, rfl, rfl, rv, p⟩ := a1_post p rx
  obtain ⟨ys, e, p⟩ := orBad_post p
  obtain ⟨ns, e2, p⟩ := orBad_post p
  obtain ⟨a, vs, rfl, h1, h2⟩ := lstX_sq e r rv
  have := blsOf_rel e2 h2
  subst this
  exact ⟨a, ns, rfl, .of h1, p.now r _ (.bl _)⟩
theorem cs_all {K : KX} {W : WX} : CaS K W (rAll K.k) fAll := fun w S H xs ix Q r rx p => by
  obtain ⟨v, x, rfl, rfl, rv, p⟩ := a1_post p rx
  obtain ⟨ys, e, p⟩ := orBad_post p
  obtain ⟨ns, e2, p⟩ := orBad_post p
  obtain ⟨a, vs, rfl, h1, h2⟩ := lstX_sq e r rv
  have := blsOf_rel e2 h2
  subst this
  exact ⟨a, ns, rfl, .of h1, p.now r _ (.bl _)⟩
def iJs : List IE → Str → Slots → Sto → Out Str
  | [], acc, _, S => .ok acc S
  | m :: ms, acc, Λ, S => (m Λ S).bind fun x S1 => asS x fun y => chk ((acc ++ y).length ≤ sizeLine ∧ y.length ≤ sizeLine) (iJs ms (acc ++ y) Λ S1)
def iJoined (ms : List IE) : IE := fun Λ S => (iJs ms Str.empty Λ S).bind fun s S1 => .ok (.str s) S1
inductive DJ (X : Cx) (W : WZ) : List Expr → List IE → Prop where
  | nil : DJ X W [] []
  | lit {e : Expr} {m : IE} {es : List Expr} {ms : List IE} (h : DE X W e m) (r : DJ X W es ms) : DJ X W (e :: es) (m :: ms)
  | fmt {e : Expr} {pos : Pos} {m : IE} {es : List Expr} {ms : List IE} (h : DE X W e m) (r : DJ X W es ms) : DJ X W (.FormattedValue e (-1) none pos :: es) (m :: ms)
theorem djs {X : Cx} {W : WZ} {es : List Expr} {ms : List IE} (h : DJ X W es ms) : ∃ ts, PJ X es ts ∧ ∀ (acc : Str) (σ : L2.St) (H : Hp) (Q : Str → Hp → Prop), (∃ w S Λ, R (kx X W) w S H ∧ SR (kx X W) w σ Λ ∧ Post (kx X W) W.x w (iJs ms acc Λ S) fun _ H' _ s => Q s H') → tJs ts acc σ H Q := by
  induction h with
  | nil => exact ⟨[], .nil, fun acc σ H Q ⟨w, S, Λ, r0, s0, p⟩ => Post.now (a := acc) (S := S) p r0⟩
  | @lit e m es ms h r ih =>
    obtain ⟨ts, j, k⟩ := ih
    refine ⟨_ :: ts, .cons h j, fun acc σ H Q ⟨w, S, Λ, r0, s0, p⟩ => ⟨w, S, Λ, r0, s0, ?_⟩⟩
    refine (Post.bind (show Post (kx X W) W.x w ((m Λ S).bind _) _ from p)).imp fun w1 H1 S1 ix l1 r1 p1 v rv => ?_
    obtain ⟨y, rfl, rfl, p1⟩ := asS_post p1 rv
    obtain ⟨c, p1⟩ := chk_post p1
    exact ⟨y, rfl, c.1, k _ _ _ _ ⟨w1, S1, Λ, r1, s0.up l1, p1⟩⟩
  | @fmt e pos m es ms h r ih =>
    obtain ⟨ts, j, k⟩ := ih
    refine ⟨_ :: ts, .cons (pe_fmt h) j, fun acc σ H Q ⟨w, S, Λ, r0, s0, p⟩ => ⟨w, S, Λ, r0, s0, ?_⟩⟩
    refine (Post.bind (show Post (kx X W) W.x w ((m Λ S).bind _) _ from p)).imp fun w1 H1 S1 ix l1 r1 p1 v rv => ?_
    obtain ⟨y, rfl, rfl, p1⟩ := asS_post p1 rv
    obtain ⟨c, p1⟩ := chk_post p1
    exact .inl ⟨y, rfl, c.2, y, rfl, c.1, k _ _ _ _ ⟨w1, S1, Λ, r1, s0.up l1, p1⟩⟩
theorem de_joined {X : Cx} {W : WZ} {v1 v2 : Expr} {rest : List Expr} {ms : List IE} {pos : Pos} (h : DJ X W (v1 :: v2 :: rest) ms) : DE X W (.JoinedStr (v1 :: v2 :: rest) pos) (iJoined ms) := by
  obtain ⟨ts, j, k⟩ := djs h
  refine (pe_joined j).imp fun σ H Q ⟨w, S, Λ, r0, s0, p⟩ => k _ _ _ _ ⟨w, S, Λ, r0, s0, p.bind.imp fun w1 H1 S1 s l1 r1 p1 => p1.now r1 _ (.str s)⟩
def iXIs (i m : Nat) (b : Bool) : IE := fun Λ S => match Λ[i]?, S[m]? with
  | some none, some (.xd _) => .ok (.bl b) S
  | _, _ => .bad
def iXIsT (i m : Nat) (ist : List (Str × Bool)) (C : Str) : IE := match ist.lookup C with
  | some b => iXIs i m b
  | none => iBad
section
variable {K : PySem.W.Frag} {h : Heap} {mg : Str → Option Value}
theorem cls_mk {C : Addr} (pg : PySem.W.plainGet K C Str.empty = true) (hd : PySem.W.hasDictIn K C = true) (po : PySem.W.plainOver K C = true) (sa : PySem.W.findIn K (.ref C) "__setattr__" = some (some (.builtin "object.__setattr__"))) : Cls K C := ⟨pg, hd, po, sa⟩
theorem fc_mk {C f : Str} {Ca : Addr} (X : K.In h) (G : h.Ns mainGlobals mg) (m : PySem.W.nsIn K mainGlobals C = some (some (.ref Ca))) (c : Cls K Ca) (n : PySem.W.findIn K (.ref Ca) f = some none) : FC K mg C f := ⟨Ca, PySem.W.mg_of X G m, c, n⟩
theorem mloc_mk {C m qual : Str} {st : Stmt} {ps : List Str} {Ca f : Addr} {od an : Option Addr} {sl : Array (Option Value)} {oc kV dc pm cd ct : Value} (X : K.In h) (G : h.Ns mainGlobals mg) (hm : PySem.W.nsIn K mainGlobals C = some (some (.ref Ca))) (c : Cls K Ca)
    (at_ : PySem.W.findIn K (.ref Ca) m = some (some (.ref f))) (fn : PySem.W.isFn K (.ref f) = true) (k : PySem.W.keepIn K (.ref f) = true)
    (l : K.lookup f = some ⟨oc, od, .func (PySem.W.fnOf m qual (defArgs st) (defBody st) (defScope st) .none kV dc pm an cd ct), sl⟩) (cc : PySem.W.codeIn K cd qual = true)
    (hb : ∀ (kV doc pm : Value) (an : Option Addr) (cdv ct : Value) (us : List Value), us.length = ps.length → bindArgs (PySem.W.fnOf m qual (defArgs st) (defBody st) (defScope st) .none kV doc pm an cdv ct) ⟨us, []⟩ = pure (ps.zip us)) : MLoc K mg C m qual st ps :=
  have F := fun_mk (st := st) l cc k
  ⟨Ca, f, _, PySem.W.mg_of X G hm, c, ⟨at_, fn, k⟩, F, F.binds hb⟩
theorem kloc_mk {C qual : Str} {st : Stmt} {ps : List Str} {Ca f : Addr} {od an : Option Addr} {sl : Array (Option Value)} {oc kV dc pm cd ct : Value} (X : K.In h) (G : h.Ns mainGlobals mg) (hm : PySem.W.nsIn K mainGlobals C = some (some (.ref Ca)))
    (mk : PySem.W.makesIn K Ca = true) (at_ : PySem.W.findIn K (.ref Ca) "__init__" = some (some (.ref f))) (fn : PySem.W.isFn K (.ref f) = true) (kC : PySem.W.keepIn K (.ref Ca) = true) (k : PySem.W.keepIn K (.ref f) = true)
    (l : K.lookup f = some ⟨oc, od, .func (PySem.W.fnOf "__init__" qual (defArgs st) (defBody st) (defScope st) .none kV dc pm an cd ct), sl⟩) (cc : PySem.W.codeIn K cd qual = true)
    (hb : ∀ (kV doc pm : Value) (an : Option Addr) (cdv ct : Value) (us : List Value), us.length = ps.length → bindArgs (PySem.W.fnOf "__init__" qual (defArgs st) (defBody st) (defScope st) .none kV doc pm an cdv ct) ⟨us, []⟩ = pure (ps.zip us)) : KLoc K mg C qual st ps :=
  have F := fun_mk (st := st) l cc k
  ⟨Ca, f, _, PySem.W.mg_of X G hm, ⟨mk, at_, fn, kC⟩, F, F.binds hb⟩
theorem base_mk {x : Str} {Ca : Addr} (X : K.In h) (G : h.Ns mainGlobals mg) (hm : PySem.W.nsIn K mainGlobals x = some (some (.ref Ca))) (ga : PySem.W.specialIn K (.ref Ca) "__getattribute__" = some (some (.builtin "type.__getattribute__"))) (ty : PySem.W.typeIn K (.ref Ca) = some (.type "type"))
    (rd : PySem.W.readsIn K Ca (.type "type") = true) (fc : PySem.W.findCls K (.ref Ca) (.type "type") "__init__" = some (.val (.builtin "ValueError.__init__"))) : BaseC K mg x := ⟨Ca, PySem.W.mg_of X G hm, ga, ty, rd, fc⟩
def ELoc (K : PySem.W.Frag) (mg : Str → Option Value) (x f a b qual : Str) (st : Stmt) : Prop := ∃ (C fI : Addr) (fd : FuncData), EClsAt K mg x f C ∧ PySem.W.findIn K (.ref C) "__init__" = some (some (.ref fI)) ∧ PySem.W.typeIn K (.ref fI) = some (.type "function") ∧
  L2.Binds K fd [a, b] [] ∧ Fun K "__init__" qual st fI fd
theorem oex_mk {C : Addr} {nm q : Str} {N : Addr} {bs bm : List Value} {sn : List Str} {sub : List Value} {ab : Bool} {col : Option Bool} {dd : Option Addr} {k0 k1 k2 k3 k5 : Option Value} (lk : K.lookup C = some (excClassObj nm q C N bs bm true sn sub ab col dd k0 k1 k2 k3 k5 "ValueError.__new__"))
    (rv : PySem.HandSPX.refsVE bm = true) (sa : PySem.W.findIn K (.ref C) "__setattr__" = some (some (.builtin "object.__setattr__"))) (exC : PySem.W.subIn K (.ref C) (.type "BaseException") = some true) (tyC : PySem.W.typeIn K (.ref C) = some (.type "type")) (kC : PySem.W.keepIn K (.ref C) = true) : OexC K C :=
  ⟨⟨nm, q, N, bs, bm, sn, sub, ab, col, dd, k0, k1, k2, k3, k5, lk, rv⟩, sa, exC, tyC, kC⟩
theorem eloc_mk {x f a b qual : Str} {st : Stmt} {C fI : Addr} {od an : Option Addr} {sl : Array (Option Value)} {oc kV dc pm cd ct : Value} (X : K.In h) (G : h.Ns mainGlobals mg) (hm : PySem.W.nsIn K mainGlobals x = some (some (.ref C))) (o : OexC K C) (nf : PySem.W.findIn K (.ref C) f = some none)
    (iC : PySem.W.findIn K (.ref C) "__init__" = some (some (.ref fI))) (tI : PySem.W.typeIn K (.ref fI) = some (.type "function")) (k : PySem.W.keepIn K (.ref fI) = true)
    (l : K.lookup fI = some ⟨oc, od, .func (PySem.W.fnOf "__init__" qual (defArgs st) (defBody st) (defScope st) .none kV dc pm an cd ct), sl⟩) (cc : PySem.W.codeIn K cd qual = true)
    (hb : ∀ (kV doc pm : Value) (an : Option Addr) (cdv ct : Value) (us : List Value), us.length = [a, b].length → bindArgs (PySem.W.fnOf "__init__" qual (defArgs st) (defBody st) (defScope st) .none kV doc pm an cdv ct) ⟨us, []⟩ = pure ([a, b].zip us)) : ELoc K mg x f a b qual st :=
  have F := fun_mk (st := st) l cc k
  ⟨C, fI, _, ⟨PySem.W.mg_of X G hm, o, nf⟩, iC, tI, F.binds hb, F⟩
theorem ecal_def {P : Program} {w : World} {base : Heap} {x f a b qual z : Str} {st : Stmt} (L : ELoc K mg x f a b qual st) (Sc : FnScope [a, b] [a, b] (defScope st))
    (hb : ∀ (fI : Addr) (cdv : Value) (A : Around) (outer : List Env) (s : Shared) (H : Hp) (E : XK), PSs (DX P w K mg base [a, b] qual (defScope st) fI cdv A outer s H E) (defBody st) (tInit K f z)) : ECal P w K mg base x f := by
  obtain ⟨C, fI, fd, h1, h2, h3, h4, h5⟩ := L
  exact ⟨C, fI, fd, a, b, h1, h2, h3, h4, einit_ok h5 Sc (hb fI)⟩
end
def fAddI (x y : IV) (S : Sto) : Out IV := asI x fun i => asI y fun j => .ok (.int (i + j)) S
theorem os_addI {K : KX} {W : WX} : OpS K W (ipI fun i j => i + j) fAddI := fun w S H x y ix iy Q r rx ry p => by
  obtain ⟨i, rfl, rfl, p⟩ := asI_post p rx
  obtain ⟨j, rfl, rfl, p⟩ := asI_post p ry
  exact ⟨i, j, rfl, rfl, p.now r _ (.int _)⟩
theorem iop_addP {X : Cx} : OpR X (inplaceOp .Add) (ipI fun i j => i + j) := ip_add
theorem lstX_lst {K : KX} {w : Wd} {S : Sto} {H : Hp} {v : V} {x : IV} {xs : List IV} (e : lstX S x = some xs) (r : R K w S H) (rx : Rel K w v x) : ∃ a vs, v = .ref a ∧ H a = some (.lst vs) ∧ RelL K w vs xs := lstX_sq e r rx
end Sm
namespace Sm
open PySem
end Sm
namespace Sm
open PySem PySem.Spec PyProof.Rows L2
def iPar (i j : Nat) (ma : IA) : IS := fun Λ S => (ma Λ S).bind fun xs S1 => a2 xs fun x y => .ok (.nx ((Λ.set i (some x)).set j (some y))) S1
theorem ds_par {X : Cx} {W : WZ} {pos : Pos} {x y : Str} {a b : Expr} {ma : IA} {px py pt : Pos} {kt k2 pt2} (i j : Nat) (hc : X.calm = true) (hN : X.N.Nodup) (ha : DA X W [a, b] ma) (hij : i ≠ j := by decide) (hi : X.N[i]? = some x := by rfl) (hj : X.N[j]? = some y := by rfl)
    (hx : X.env.scope.names.lookup x = some .local := by rfl) (hy : X.env.scope.names.lookup y = some .local := by rfl)
    (hw : swappedStores [.Tuple [.Name x px, .Name y py] kt pt] (.Tuple [a, b] k2 pt2) X.env = pure (some [x, y]) := by rfl)
    (hs : swapsWithSole [.Tuple [.Name x px, .Name y py] kt pt] (.Tuple [a, b] k2 pt2) pos.line X.env = pure false := by rfl) :
    DS X W (.Assign [.Tuple [.Name x px, .Name y py] kt pt] (.Tuple [a, b] k2 pt2) pos) (iPar i j ma) :=
  (ps_par hc hN hi hj hij hx hy ha hw hs).imp fun D σ H ⟨w, S, Λ, r0, s0, p⟩ => ⟨w, S, Λ, r0, s0, p.bind.imp fun w1 H1 S1 ix l1 r1 p1 vs rvs => by
    obtain ⟨v, x, u, y, rfl, rfl, rv, ru, q⟩ := a2_post p1 rvs
    exact ⟨v, u, rfl, q.now r1 _ (((s0.up l1).set i rv).set j ru)⟩⟩
theorem szL : (sizeLine : Nat) = 16777216 := sizeLine_eq
def Ext (ds : List Nat) (S S' : Sto) : Prop := S.length ≤ S'.length ∧ ∀ m c, S[m]? = some c → m ∉ ds → S'[m]? = some c
section
variable {ds es : List Nat} {S S1 S2 : Sto} {n : Nat} {c : Cell}
theorem Ext.get (h : Ext ds S S1) (e : S[n]? = some c) (hn : n ∉ ds := by simp) : S1[n]? = some c := h.2 n c e hn
theorem lt_some {α : Type} {xs : List α} {i : Nat} {x : α} (h : xs[i]? = some x) : i < xs.length := (List.getElem?_eq_some_iff.mp h).1
theorem Ext.trans' (h : Ext ds S S1) (k : Ext es S1 S2) (he : ∀ e ∈ es, e ∈ ds ∨ S.length ≤ e) : Ext ds S S2 :=
  ⟨Nat.le_trans h.1 k.1, fun m c e hm => k.2 m c (h.2 m c e hm) fun z => (he m z).elim hm fun l => absurd (lt_some e) (by omega)⟩
theorem Ext.trans (h : Ext ds S S1) (k : Ext ds S1 S2) : Ext ds S S2 := h.trans' k fun _ z => .inl z
theorem Ext.app (T : Sto) : Ext ds S (S ++ T) := ⟨by simp, fun m c e _ => by rw [List.getElem?_append_left (lt_some e)]; exact e⟩
theorem Ext.set (hn : n ∈ ds ∨ S.length ≤ n) : Ext ds S (S.set n c) := ⟨by simp, fun m d e hm => by
  have : n ≠ m := fun z => hn.elim (fun q => hm (z ▸ q)) fun q => absurd (lt_some e) (by omega)
  rw [List.getElem?_set_ne this]; exact e⟩
theorem get_new (S : Sto) (c : Cell) : (S ++ [c])[S.length]? = some c := by simp
end
section
variable {Λ Λ1 : Slots} {S S1 : Sto} {a b : IS} {m : IE} {v : IV} {i : Nat} {o : Out Fl} {c : IT}
theorem sq_ok (h : a Λ S = .ok (.nx Λ1) S1) : iSeq a b Λ S = b Λ1 S1 := by rw [iSeq_e, h]; rfl
theorem md_rt {n : Nat} {b : IS} {xs : List IV} (h : b (xs.map some ++ List.replicate (n - xs.length) none) S = .ok (.rt v) S1) : mDef n b xs S = .ok v S1 := mDef_rt h
theorem md_nx {n : Nat} {b : IS} {xs : List IV} (h : b (xs.map some ++ List.replicate (n - xs.length) none) S = .ok (.nx Λ1) S1) : mDef n b xs S = .ok .non S1 := by rw [mDef_e, h]
end
section
variable {α : Type} {cell : Bool} {ms : IW} {gi : IV → Slots → Option Slots} {tt : IT} {te : IE} {vs : List Nat} {Λ : Slots} {S S1 : Sto} {k : Option Nat}
theorem lcgo_map {s : Src} (e : α → IV) (T : α → Bool) (F : α → IV) (st : s.stay S) : ∀ (as : List α) (acc : List IV), (∀ a ∈ as, ∃ L, gi (e a) Λ = some L ∧ tt L S = .ok (T a) S ∧ (T a = true → te L S = .ok (F a) S)) → acc.length + as.length ≤ sizeLine →
    iLcGo s gi tt te (as.map e) Λ S acc = .ok (acc ++ (as.filter T).map F) S
  | [], acc, _, _ => by show iLcGo s gi tt te [] Λ S acc = _; unfold iLcGo; rw [chkP_pos st]; simp
  | a :: as, acc, h, hl => by
    obtain ⟨L, h1, h2, h3⟩ := h a List.mem_cons_self
    rw [List.length_cons] at hl
    show iLcGo s gi tt te (e a :: as.map e) Λ S acc = _
    unfold iLcGo
    rw [chkP_pos st, h1, orBad_some, h2, noX_ok, Out.bind_ok]
    cases hT : T a with
    | true =>
      rw [if_pos rfl, h3 hT, noX_ok, Out.bind_ok, chk_pos (by omega), lcgo_map e T F st as _ (fun b hb => h b (List.mem_cons_of_mem _ hb)) (by rw [List.length_append, List.length_singleton]; omega), List.filter_cons, hT]
      simp
    | false =>
      rw [if_neg Bool.false_ne_true, lcgo_map e T F st as _ (fun b hb => h b (List.mem_cons_of_mem _ hb)) (by omega), List.filter_cons, hT]
      simp
theorem lc_map (as : List α) (e : α → IV) (T : α → Bool) (F : α → IV) (hs : ms Λ S = .ok ⟨as.map e, k⟩ S1) (st : Src.stay ⟨as.map e, k⟩ S1)
    (h : ∀ a ∈ as, ∃ L, gi (e a) (wipeI Λ vs) = some L ∧ tt L S1 = .ok (T a) S1 ∧ (T a = true → te L S1 = .ok (F a) S1)) (hl : as.length ≤ sizeLine) : iLc cell ms gi tt te vs Λ S = mkL cell ((as.filter T).map F) S1 := by
  rw [iLc_e, hs]
  simp only [Out.bind_ok]
  rw [lcgo_map e T F st as [] h (by simpa using hl)]
  rfl
end
theorem rangeI_map (lo : Int) (n : Nat) : rangeI lo n = (List.range n).map fun i : Nat => IV.int (lo + i) := rfl
end Sm
set_option maxHeartbeats 2000000
namespace PySem
open Sem (wp)
end PySem
set_option maxHeartbeats 2000000
namespace L2
open PySem PySem.Spec PyProof.Rows
set_option maxHeartbeats 2000000
end L2
namespace Sm
open PySem PySem.Spec PyProof.Rows L2
noncomputable def iLcGoX (s : Src) (gi : IV → Slots → Option Slots) (tt : IT) (te : IE) (Λ0 : Slots) : List IV → Slots → Sto → List IV → Out (List IV)
  | [], _, S, acc => chkP (s.stay S) (.ok acc S)
  | x :: xs, Λ, S, acc => chkP (s.stay S) (orBad (gi x Λ) fun L => (noX (tt L S)).bind fun b S1 => if b = true then (relab Λ0 (te L S1)).bind fun y S2 => chk (acc.length < sizeLine) (iLcGoX s gi tt te Λ0 xs Λ S2 (acc ++ [y])) else iLcGoX s gi tt te Λ0 xs Λ S1 acc)
noncomputable def iLcX (cell : Bool) (ms : IW) (gi : IV → Slots → Option Slots) (tt : IT) (te : IE) (vs : List Nat) : IE := fun Λ S => (ms Λ S).bind fun s S1 => (iLcGoX s gi tt te Λ s.items (wipeI Λ vs) S1 []).bind fun acc S2 => mkL cell acc S2
@[simp] theorem iLcX_e (cell : Bool) (ms : IW) (gi : IV → Slots → Option Slots) (tt : IT) (te : IE) (vs : List Nat) (Λ : Slots) (S : Sto) : iLcX cell ms gi tt te vs Λ S = (ms Λ S).bind fun s S1 => (iLcGoX s gi tt te Λ s.items (wipeI Λ vs) S1 []).bind fun acc S2 => mkL cell acc S2 := rfl
end Sm
namespace Sm
open PySem PySem.Spec PyProof.Rows L2 NwS
theorem RmG.in1 {k : Nat} {A : Around} (r : RmG (k + 1) A) : RmG k A.in1 := ⟨r.toRoom.in1, r.gd⟩
section
variable {X : Cx} {CX : CXT} {k : Nat} {f : Addr} {fd : FuncData} {ps : List Str} {sp : Sp} {E : L2.St → XK}
theorem run_fnIn {pins : List (Addr × Obj)} {σ : L2.St} {H : Hp} {s : Shared} {Q : VK} {us : List Value} {vs : List V} {A : Around} (hA : A.frames = X.A.frames) (F : FnG X.prog X.w X.K X.mg X.base CX k f fd ps sp) (hr : RmG k A) (hb : Binds X.K fd ps []) (hx : PassesAt CX X σ (E σ))
    (I : Inv X pins σ H s) (r : Vals vs us) (h : sp vs H Q (E σ)) : wpAny (model X.prog X.w) A (call (.ref f) us) (EP X pins σ Q) X.xe s := by
  have hl : us.length = ps.length := r.length.symm.trans (F.len _ _ _ _ h)
  have b := hb s us I.kIn (by simpa using hl)
  rw [List.append_nil] at b
  have e0 : Env0 X.prog X.w X.K X.mg X.base A X.stack s H := by
    have e := I.env0
    exact ⟨by rw [hA]; exact e.frames, e.mod, e.bs, e.bsz, e.funs, e.frf, e.hok, e.bare⟩
  apply wpAny_call
  apply codeAny_mono (F.run A X.stack s H ⟨us, []⟩ us vs Q (E σ) hr e0 b r h)
  intro out s' z
  match out, z with
  | .error e, z => exact hx pins H s e s' I z
  | .ok (.ret u), z => exact I.after z
  | .ok .next, z => exact z.elim
  | .ok .brk, z => exact z.elim
  | .ok .cont, z => exact z.elim
end
def fLenO (C : Str) (mf : List IV → Sto → Out IV) (xs : List IV) (S : Sto) : Out IV := a1 xs fun x => onI S C x fun _ _ => (noX (mf [x] S)).bind fun v S2 => asI v fun i => chk (0 ≤ i ∧ i < 2 ^ 62) (.ok (.int i) S2)
abbrev rLenO (X : Cx) (C : Str) (mf : List IV → Sto → Out IV) : List V → Hp → VK → Prop := fun xs H Q => ∃ (a Ca dx : Addr) (fs : List (Str × V)), xs = [.ref a] ∧ X.mg C = some (.ref Ca) ∧ H a = some (.ins Ca dx fs) ∧ spM X.K X.mg 1 mf [.ref a] H (fun v H' => ∃ i : Int, v = .int i ∧ 0 ≤ i ∧ i < 2 ^ 62 ∧ Q (.int i) H') fun _ _ _ => False
theorem call_lenO {X : Cx} {C : Str} {k : Nat} {p : Str} {mf : List IV → Sto → Out IV} (c : MCal X.prog X.w X.K X.mg X.base C "__len__" k [p] mf) (hr : RmG (k + 1) X.A) : CallR X (.builtin "len") (rLenO X C mf) := by
  intro pins s σ H xs us Q I r h
  obtain ⟨a, Ca, dx, fs, rfl, hm, ha, q⟩ := h
  obtain ⟨u, rfl, ru⟩ := vals1 r
  obtain rfl : u = Value.ref a := ru
  obtain ⟨Cb, f, fd, hm2, hc, hM, hb, F⟩ := c
  have e := hm.symm.trans hm2
  cases e
  obtain ⟨mA, J, _⟩ := ins_get I.hok ha
  obtain ⟨od, J, _⟩ := J.look
  refine Calls.call_function_entry kind_len plain_len entry_len (args_len1 _) ?_
  unfold Builtin.«len»
  refine wpAny_bind (m := oneArg "len" _) (wpAny_pure ?_)
  have go := run_fnIn (A := X.A.in1) (E := WE W0) (us := [.ref a]) (vs := [.ref a]) rfl F hr.in1 hb (passAt takesW0 σ) I (.cons rfl .nil) (Q := fun v H' => ∃ i : Int, v = .int i ∧ 0 ≤ i ∧ i < 2 ^ 62 ∧ Q (.int i) H') q
  refine wpAny_bind (m := callSpecial? (.ref a) (PySem.Str.ofString "__len__")) (PySem.W.special_fn I.kIn J hM.at_ (beq_iff_eq.mp hM.fn) (wpAny_mono go (fun v s1 z => ?_) fun _ _ z => z))
  obtain ⟨x, H1, I1, rx, i, rfl, i0, i1, q1⟩ := z
  obtain ⟨t, rfl⟩ := rx
  refine wpAny_bind (wpAny_holding (wpAny_pure ?_))
  refine wpAny_bind (wpAny_letGo ?_)
  show wpAny _ _ (if i < 0 then _ else _) _ _ _
  rw [if_neg (by omega)]
  show wpAny _ _ (if i ≥ 2 ^ 63 then _ else _) _ _ _
  rw [if_neg (by omega)]
  exact wpAny_bind (wpAny_mkInt (wpAny_pure ⟨_, rfl, .int i, H1, I1.tok _, ⟨_, rfl⟩, q1⟩))
theorem cs_lenO {X : Cx} {W : WZ} {C : Str} {mf : List IV → Sto → Out IV} : CaS (kx X W) W.x (rLenO X C mf) (fLenO C mf) := fun w S H xs ix Q r rx p => by
  obtain ⟨v, x, rfl, rfl, rv, p⟩ := a1_post p rx
  obtain ⟨n, fs, a, Ca, dx, ps, h1, h2, rfl, hm, h4, h5, p⟩ := onI_post p r rv
  refine ⟨a, Ca, dx, ps, rfl, hm, h4, rfl, w, S, [x], r.cx rfl rfl, .cons (Rel.cx (K := kx X W) (K' := ⟨X.K, X.mg, none⟩) rfl x (.ref a) rv) .nil, ?_⟩
  cases hf : mf [x] S with
  | ok iv S2 =>
    rw [hf] at p
    intro w' H' l r' v rv'
    have p0 := Post.bind (o := Out.ok iv S2) (k := fun v S2 => asI v fun i => chk (0 ≤ i ∧ i < 2 ^ 62) (Out.ok (IV.int i) S2)) p
    have p1 := p0 w' H' l (r'.cx rfl rfl)
    obtain ⟨i, rfl, rfl, p1⟩ := asI_post p1 (Rel.cx (K := ⟨X.K, X.mg, none⟩) (K' := kx X W) rfl iv v rv')
    obtain ⟨c, p1⟩ := chk_post p1
    exact ⟨i, rfl, c.1, c.2, p1.now (r'.cx rfl rfl) _ (Rel.int i)⟩
  | exc C n L S2 => rw [hf] at p; exact p.elim
  | bad => rw [hf] at p; exact p.elim
end Sm
namespace Sm
open PySem PySem.Spec PyProof.Rows L2
def leT (a b : Str) : Bool := !ltCps b.cps.toList a.cps.toList
def insT (x : Str) : List Str → List Str
  | [] => [x]
  | y :: ys => if leT x y = true then x :: y :: ys else y :: insT x ys
def srt : List Str → List Str
  | [] => []
  | x :: xs => insT x (srt xs)
theorem leT_iff (a b : Str) : leT a b = true ↔ ¬ b.cps.toList < a.cps.toList := by
  unfold leT
  rw [ltCps_eq]
  simp
theorem leT_total (a b : Str) : leT a b = true ∨ leT b a = true := by
  rw [leT_iff, leT_iff]
  by_cases h : b.cps.toList < a.cps.toList
  · exact .inr (fun z => List.lt_asymm h z)
  · exact .inl h
theorem leT_trans {a b c : Str} (h : leT a b = true) (g : leT b c = true) : leT a c = true := by
  rw [leT_iff] at *
  exact List.le_trans (l₁ := a.cps.toList) (l₂ := b.cps.toList) (l₃ := c.cps.toList) h g
theorem cps_inj {a b : Str} (h : a.cps.toList = b.cps.toList) : a = b := by
  cases a; cases b
  simp only [Str.mk.injEq]
  exact Array.toList_inj.mp h
theorem leT_antisymm {a b : Str} (h : leT a b = true) (g : leT b a = true) : a = b := by
  rw [leT_iff] at *
  exact cps_inj (List.le_antisymm (as := a.cps.toList) (bs := b.cps.toList) h g)
theorem insT_perm (x : Str) : ∀ l : List Str, (insT x l).Perm (x :: l)
  | [] => .refl _
  | y :: ys => by
    unfold insT
    split
    · exact .refl _
    · exact ((insT_perm x ys).cons y).trans (.swap x y ys)
theorem srt_perm : ∀ l : List Str, (srt l).Perm l
  | [] => .refl _
  | x :: xs => (insT_perm x _).trans ((srt_perm xs).cons x)
abbrev SrtP (l : List Str) : Prop := l.Pairwise fun a b => leT a b = true
theorem insT_srt (x : Str) : ∀ l : List Str, SrtP l → SrtP (insT x l)
  | [], _ => List.pairwise_singleton _ _
  | y :: ys, h => by
    obtain ⟨h1, h2⟩ := List.pairwise_cons.mp h
    unfold insT
    split
    · rename_i hx
      exact List.pairwise_cons.mpr ⟨fun z hz => (List.mem_cons.mp hz).elim (fun e => e ▸ hx) fun hz => leT_trans hx (h1 z hz), h⟩
    · rename_i hx
      refine List.pairwise_cons.mpr ⟨fun z hz => ?_, insT_srt x ys h2⟩
      rcases List.mem_cons.mp ((insT_perm x ys).mem_iff.mp hz) with e | hz
      · rw [e]; exact (leT_total x y).resolve_left hx
      · exact h1 z hz
theorem srt_srt : ∀ l : List Str, SrtP (srt l)
  | [] => .nil
  | x :: xs => insT_srt x _ (srt_srt xs)
theorem rising_pw : ∀ (l : List Str) (p : Str), risingS p l = true → SrtP (p :: l)
  | [], p, _ => List.pairwise_singleton _ _
  | x :: r, p, h => by
    unfold risingS at h
    obtain ⟨h1, h2⟩ := Bool.and_eq_true_iff.mp h
    have ih := rising_pw r x h2
    refine List.pairwise_cons.mpr ⟨fun z hz => ?_, ih⟩
    rcases List.mem_cons.mp hz with e | hz
    · rw [e]; exact h1
    · exact leT_trans h1 ((List.pairwise_cons.mp ih).1 z hz)
theorem sorted_pw : ∀ {l : List Str}, sortedS l = true → SrtP l
  | [], _ => .nil
  | x :: r, h => rising_pw r x h
theorem sorted_srt {ys xs : List Str} (h : ys.Perm xs) (hs : sortedS ys = true) : ys = srt xs :=
  (h.trans (srt_perm xs).symm).eq_of_pairwise (fun a b _ _ h1 h2 => leT_antisymm h1 h2) (sorted_pw hs) (srt_srt xs)
def keyT : Key → Option Str
  | .inr s => some s
  | .inl _ => none
def keysT : List (Key × IV) → Option (List Str)
  | [] => some []
  | kv :: kvs => match keyT kv.1, keysT kvs with
    | some k, some ks => some (k :: ks)
    | _, _ => none
noncomputable def iIterE (s : Src) (g : IG) (b : IS) : Nat → List IV → Slots → Sto → Out Fl
  | _, [], Λ, S => chkP (s.stay S) (.ok (.nx Λ) S)
  | i, x :: xs, Λ, S => chkP (s.stay S) ((g (.tup [.int i, x]) Λ S).bind fun Λ1 S1 => (b Λ1 S1).bind fun fl S2 => match fl with
    | .nx L => iIterE s g b (i + 1) xs L S2
    | .ct L => iIterE s g b (i + 1) xs L S2
    | .bk L => .ok (.nx L) S2
    | .rt v => .ok (.rt v) S2)
noncomputable def iForE (m : IE) (g : IG) (b : IS) : IS := fun Λ S => (m Λ S).bind fun x S1 => (fSrcL x S1).bind fun s S2 => iIterE s g b 0 s.items Λ S2
structure ItRE (K : KX) (w0 : Wd) (J : It) (s : Src) : Prop where
  go : ∀ (w : Wd) (S : Sto) (H : Hp) (i : Nat), w0.lz w → R K w S H → s.stay S → i < s.items.length → J.go i H
  stop : ∀ (w : Wd) (S : Sto) (H : Hp) (i : Nat), w0.lz w → R K w S H → s.stay S → s.items.length ≤ i → J.stop i H
  yld : ∀ (w : Wd) (S : Sto) (H : Hp) (i : Nat) (iv : IV) (x : V) (H' : Hp), w0.lz w → R K w S H → s.stay S → s.items[i]? = some iv → J.yld i H x H' → ∃ w', w.le w' ∧ R K w' S H' ∧ Rel K w' x (.tup [.int i, iv])
theorem for_loopE {K : KX} {W : WX} {g : IG} {b : IS} {D : Ends} {σ : L2.St} {H1 : Hp} {J : It} {s : Src} {w1 : Wd} {S1 : Sto} {Λ : Slots} (hJ : ItRE K w1 J s) (r1 : R K w1 S1 H1) (s0 : SR K w1 σ Λ) (p1 : Post K W w1 (iIterE s g b 0 s.items Λ S1) fun w' H' _ fl => FlP K w' D H' fl) : tFor (fun _ H Rr => Rr J H) (gM K W g) (sM K W b) D σ H1 := by
  refine ⟨fun i m σ H => m = s.items.length - i ∧ i ≤ s.items.length ∧ ∃ w2 S2 L, w1.le w2 ∧ R K w2 S2 H ∧ SR K w2 σ L ∧ Post K W w2 (iIterE s g b i (s.items.drop i) L S2) fun w' H' _ fl => FlP K w' D H' fl,
    ⟨s.items.length, by simp, Nat.zero_le _, w1, S1, Λ, Wd.le.refl _, r1, s0, by rw [List.drop_zero]; exact p1⟩, ?_⟩
  rintro i m σ2 H2 ⟨rfl, hi, w2, S2, L, l2, r2, s2, p2⟩
  by_cases hlt : i < s.items.length
  · rw [List.drop_eq_getElem_cons hlt] at p2
    obtain ⟨st, p2⟩ := chkP_post (show Post K W w2 (chkP (s.stay S2) _) _ from p2)
    refine .inr ⟨hJ.go w2 S2 H2 i l2.lz r2 st hlt, fun σ' H' => i + 1 ≤ s.items.length ∧ ∃ w3 S3 L3, w1.le w3 ∧ R K w3 S3 H' ∧ SR K w3 σ' L3 ∧ Post K W w3 (iIterE s g b (i + 1) (s.items.drop (i + 1)) L3 S3) fun w' H' _ fl => FlP K w' D H' fl,
      fun σ' H' h' => ⟨s.items.length - (i + 1), by omega, rfl, h'.1, h'.2⟩, fun x H' y => ?_⟩
    obtain ⟨w3, l3, r3, rv⟩ := hJ.yld w2 S2 H2 i _ x H' l2.lz r2 st (List.getElem?_eq_getElem hlt) y
    refine ⟨w3, S2, L, _, r3, s2.up l3, rv, (p2.up l3).bind.imp fun w4 H4 S4 L4 l4 r4 p4 σ4 s4 => ⟨w4, S4, L4, r4, s4, p4.bind.imp fun w5 H5 S5 fl l5 r5 p5 => ?_⟩⟩
    have lA := l2.trans (l3.trans (l4.trans l5))
    cases fl with
    | nx L5 => exact fun σ5 s5 => ⟨hlt, w5, S5, L5, lA, r5, s5, p5⟩
    | ct L5 => exact fun σ5 s5 => ⟨hlt, w5, S5, L5, lA, r5, s5, p5⟩
    | bk L5 => exact Post.now (show Post K W w5 (Out.ok (Fl.nx L5) S5) (fun w' H' _ fl => FlP K w' D H' fl) from p5) r5
    | rt v => exact Post.now (show Post K W w5 (Out.ok (Fl.rt v) S5) (fun w' H' _ fl => FlP K w' D H' fl) from p5) r5
  · have e : i = s.items.length := by omega
    subst e
    rw [List.drop_length] at p2
    obtain ⟨st, p2⟩ := chkP_post (show Post K W w2 (chkP (s.stay S2) _) _ from p2)
    exact .inl ⟨hJ.stop w2 S2 H2 _ l2.lz r2 st (Nat.le_refl _), p2.now r2 σ2 s2⟩
theorem fSrcE_cases {K : KX} {W : WX} {w : Wd} {S : Sto} {H : Hp} {x : V} {ix : IV} {P : Wd → Hp → Sto → Src → Prop} (h : Post K W w (fSrcL ix S) P) (r : R K w S H) (rx : Rel K w x ix) :
    ∃ a s, x = .ref a ∧ (∃ xs, SqL K.k H a xs) ∧ Post K W w (.ok s S) P ∧ ItRE K w (Ite K.k a) s := by
  obtain ⟨a, s, h1, h2, h3, h4⟩ := fSrcL_cases h r rx
  refine ⟨a, s, h1, h2, h3, ⟨h4.go, h4.stop, fun w' S' H' i iv x H2 l r' st hi hy => ?_⟩⟩
  obtain ⟨T, x', rfl, hT, rfl, hx⟩ := hy
  obtain ⟨w2, l2, r2, rv⟩ := h4.yld w' S' H' i iv x' H' l r' st hi ⟨rfl, hx⟩
  obtain ⟨l3, r3⟩ := r2.frz (o := .tup [.int (i : Nat), x']) hT
  exact ⟨_, l2.trans l3, r3, .tup (.of upd_same) (.cons (.int _) (.cons (rv.up l3) .nil))⟩
section
variable {X : Cx} {W : WZ} {pos p tpos : Pos} {kk : Nat} {elts : List Expr} {e : Expr} {body : List Stmt} {m : IE} {g : IG} {b : IS}
theorem ds_forE (hp : PassesOwn (model X.prog X.w) X.A X.env X.xe) (hc : X.calm = true) (hm : X.mg "enumerate" = none) (hi : DE X W e m) (hg : DG X W (.Tuple elts kk tpos) g) (hb : DSs X W body b) (hgl : Gl X "enumerate" := by rfl) (hs : ∀ x, foldedSetIterable (.Call (.Name "enumerate" p) [e] [] pos) X.env x = pure x := by intro _; rfl)
    (hst : starEach [e] X.env = [(false, eval e X.env)] := by rfl) {pos' : Pos} : DS X W (.For (.Tuple elts kk tpos) (.Call (.Name "enumerate" p) [e] [] pos) body [] pos') (iForE m g b) := by
  refine (ps_for hp hc (pi_enum hgl hm (pa_cons hi pa_nil hst) hst) hg hb hs).imp fun D σ H h => ?_
  obtain ⟨w, S, Λ, r0, s0, p⟩ := h
  refine ⟨w, S, Λ, r0, s0, p.bind.imp fun w1 H1 S1 ix l1 r1 p1 v rv => ?_⟩
  obtain ⟨a, s, h1, ⟨xs, h2⟩, h3, h4⟩ := fSrcE_cases p1.bind r1 rv
  subst h1
  exact ⟨a, xs, rfl, h2, for_loopE h4 r1 (s0.up l1) (h3.now r1)⟩
end
end Sm
namespace SetL
open PySem PySem.Spec PyProof.Rows
def firsts (xs : List Str) (i : Nat) : List Str := (xs.take i).foldl step_dedup []
theorem firsts_succ (xs : List Str) {i : Nat} (h : i < xs.length) : firsts xs (i + 1) = step_dedup (firsts xs i) (xs.getD i Str.empty) := by
  unfold firsts
  rw [← List.take_append_getElem h, List.foldl_append]
  simp [List.getD, h]
theorem step_has (σ : List Str) (v k : Str) : (step_dedup σ v).any (· == k) = (σ.any (· == k) || decide (k = v)) := by
  unfold step_dedup
  by_cases h : σ.any (· == v) = true
  · rw [if_pos h]
    by_cases e : k = v
    · subst e; simp [h]
    · simp [e]
  · rw [if_neg h, List.any_append]
    congr 1
    by_cases e : k = v
    · subst e; simp
    · have : ¬ v = k := fun h => e h.symm
      simp [e, this]
theorem step_len (σ : List Str) (v : Str) : (step_dedup σ v).length = if σ.any (· == v) then σ.length else σ.length + 1 := by
  unfold step_dedup; split <;> simp
theorem firsts_le (xs : List Str) : ∀ i, i ≤ xs.length → (firsts xs i).length ≤ i
  | 0, _ => by simp [firsts]
  | i + 1, h => by
    have := firsts_le xs i (by omega)
    rw [firsts_succ xs (by omega), step_len]
    split <;> omega
section
variable {prog : Program} {w : World} {A : Around} {R : Result → Shared → Prop} {I : Addr} {fp wr : List Addr} {G : Array GenState → Array GenState → Prop} {n : Nat} {P : Nat → Value → Prop} {St : Nat → Shared → Prop}
theorem loop_texts (W : WalksS prog w A.in1 I fp wr G n P St) (S : Addr) (hSf : S ∉ fp) (xs : List Str) (hn : xs.length = n)
    (hval : ∀ i v, P i v → ∃ t, v = .str (xs.getD i Str.empty) t) (hb : n + 1 < scanBound) :
    ∀ (k i : Nat) (s : Shared), n - i = k → i ≤ n → St i s → s.heap.SetOf (PySem.strKind prog w) S (fun k' => (firsts xs i).any (· == k')) (firsts xs i).length →
      (∀ s', Moved (S :: wr) G s s' → s'.heap.SetOf (PySem.strKind prog w) S (fun k' => (firsts xs n).any (· == k')) (firsts xs n).length → R (.ok (.ret .none)) s') →
      codeAny (model prog w) A (.builtin "set.update.loop" ⟨[.ref S, .ref I], []⟩) R s := by
  have hSw : S ∉ wr := fun h => hSf (W.sub _ h)
  have moved : ∀ {s s' : Shared} {T : Str → Bool} {m : Nat}, Moved wr G s s' → s.heap.SetOf (PySem.strKind prog w) S T m → s'.heap.SetOf (PySem.strKind prog w) S T m := fun hm hS => by
    obtain ⟨o, es, ep, t, ho, rest⟩ := hS
    exact ⟨o, es, ep, t, hm.heap S _ hSw ho, rest⟩
  intro k
  induction k with
  | zero =>
    intro i s hk hi hst hS hR
    obtain rfl : i = n := by omega
    refine codeAny_builtin PyProof.Rows.F.entry_set_update_loop ?_
    rw [Around.under_plainId PyProof.Rows.F.plain_set_update_loop _]
    show wpAny _ A.in1 (pyNext (.ref I) >>= _) _ _ s
    refine wpAny_bind (W.done s _ _ hst fun s' hm => ?_)
    show wpAny _ A.in1 (ret Value.none) _ _ s'
    exact wpAny_pure (hR s' (hm.mono fun b hb => List.mem_cons_of_mem _ hb) (moved hm hS))
  | succ k ih =>
    intro i s hk hi hst hS hR
    have hlt : i < n := by omega
    refine codeAny_builtin PyProof.Rows.F.entry_set_update_loop ?_
    rw [Around.under_plainId PyProof.Rows.F.plain_set_update_loop _]
    show wpAny _ A.in1 (pyNext (.ref I) >>= _) _ _ s
    refine wpAny_bind (W.item i s _ _ hlt hst fun v s' hP hst' hm => ?_)
    obtain ⟨t, rfl⟩ := hval i v hP
    show wpAny _ A.in1 (holding [Value.str (xs.getD i Str.empty) t] (setAdd S (.str (xs.getD i Str.empty) t)) >>= _) _ _ s'
    refine wpAny_bind (wpAny_holding ?_)
    unfold setAdd
    refine wpAny_holding ?_
    refine wpAny_bind ((PySem.strKind prog w).pyHash (k := xs.getD i Str.empty) (strKind_is _ _ _ _) ?_)
    have hroom : (firsts xs i).length + 1 < scanBound := by have := firsts_le xs i (by omega); omega
    refine wpAny_setAddHashed_of (knd := PySem.strKind prog w) (s := { s' with toks := s'.toks + 1 }) (strKind_is _ _ _ _) rfl (show s'.heap.SetOf (PySem.strKind prog w) S _ _ from moved hm hS) hroom fun h' hsb hS2 => ?_
    have hSi : h'.SetOf (PySem.strKind prog w) S (fun k' => (firsts xs (i + 1)).any (· == k')) (firsts xs (i + 1)).length :=
      SetOf_congr hS2 (fun k' => by rw [firsts_succ xs (by omega), step_has]) (by rw [firsts_succ xs (by omega), step_len])
    refine wpAny_pure ⟨plainId_quiet PyProof.Rows.F.plain_set_update_loop _, ih (i + 1) _ (by omega) hlt (W.frame _ s' _ _ hst' (Nat.le_succ _) fun b hb o e => ?_) hSi fun s'' hm'' hS'' => ?_⟩
    · rw [hsb.2 b (fun h : b = S => hSf (by rw [← h]; exact hb))]; exact e
    · refine hR s'' (Moved.trans W.gtrans ((hm.mono fun b hb => List.mem_cons_of_mem _ hb).then_heap (Nat.le_succ _) fun b o hb e => ?_) hm'') hS''
      rw [hsb.2 b (fun h : b = S => hb (by rw [h]; exact List.mem_cons_self))]; exact e
end
section
variable {prog : Program} {w : World} {A : Around} {E : Value → Shared → Prop} {s : Shared}
theorem text_at : ∀ {vs : List Value} {xs : List Str}, StrsAre vs xs → ∀ (i : Nat) (v : Value), vs[i]? = some v → ∃ t, v = .str (xs.getD i Str.empty) t
  | _, _, .nil, i, v, h => by simp at h
  | _, _, .cons y k r, 0, v, h => by simp at h; exact ⟨k, h.symm⟩
  | _, _, .cons y k r, i + 1, v, h => by
    obtain ⟨t, e⟩ := text_at r i v (by simpa using h)
    exact ⟨t, by simpa using e⟩
set_option maxHeartbeats 3200000 in
theorem call_set_texts {l : Addr} {items : Array Value} {xs : List Str} {Q : Value → Shared → Prop}
    (hh : A.handled = none) (hl : s.heap.IsList l items) (hi : StrsAre items.toList xs) (hsz : xs.length = items.size) (hb : items.size + 1 < scanBound)
    (h : ∀ (h' : Heap) (tk : Nat), h'.SetOf (PySem.strKind prog w) s.heap.objs.size (fun k' => (firsts xs items.size).any (· == k')) (firsts xs items.size).length →
      (∀ b o, b < s.heap.objs.size → s.heap.get? b = some o → h'.get? b = some o) → Q (.ref s.heap.objs.size) { s with heap := h', toks := tk }) :
    wpAny (model prog w) A (call (.type "set") [.ref l]) Q E s := by
  obtain ⟨c, tl, hmro⟩ := PySem.F.called_set.mro
  have hmade := PySem.F.called_set.made
  have hsub := PySem.F.called_set.sub
  refine wpAny_call (codeAny_of_tree ?_)
  show wpAny _ _ (callAny (.type "set") _) _ _ _
  refine wpAny_pure ⟨Code.quiet_builtin _ (by decide +kernel), codeAny_builtin PySem.F.entry_type_call ?_⟩
  rw [Around.under_plain (weight_type_call_type "set" [.ref l] []) rfl]
  have h1 := PySem.F.called_set.notType
  have h2 := PySem.F.called_set.canCreate
  have hct := PySem.F.typeCall_set_1 (.ref l)
  repeat (any_goals (first | assumption | wp_step))
  refine codeAny_mono (code_set_new_1 (.ref l) (E := E) (Q₁ := fun obj s₁ => ∃ led : Bool, obj = .ref s.heap.objs.size ∧ s₁ = { s with heap := s.heap.push { cls := .type "set", dict := none, data := .set #[] 0 (.fresh 0 0 led) } }) fun led => ⟨led, rfl, rfl⟩) fun r s₁ hr => ?_
  cases r with
  | error e => exact hr
  | ok fl =>
    cases fl with
    | ret obj =>
      obtain ⟨led, rfl, rfl⟩ := hr
      have hS : (s.heap.push { cls := .type "set", dict := none, data := .set #[] 0 (.fresh 0 0 led) }).get? s.heap.objs.size = some { cls := .type "set", dict := none, data := .set #[] 0 (.fresh 0 0 led) } := Heap.get?_push_size _ rfl
      have hT : Shared.TypeIs { s with heap := s.heap.push { cls := .type "set", dict := none, data := .set #[] 0 (.fresh 0 0 led) } } (.ref s.heap.objs.size) "set" := ⟨_, hS, rfl⟩
      have hli := PySem.F.called_set.init.lookup
      have hbi := PySem.F.called_set.init.bind (.ref s.heap.objs.size)
      repeat (any_goals (first | assumption | wp_step))
      refine codeAny_mono (codeAny_call_builtin (R := wants (fun r s₂ => r = .none ∧ ∃ h' tk, s₂ = { s with heap := h', toks := tk } ∧
          h'.SetOf (PySem.strKind prog w) s.heap.objs.size (fun k' => (firsts xs items.size).any (· == k')) (firsts xs items.size).length ∧
          (∀ b o, b < s.heap.objs.size → s.heap.get? b = some o → h'.get? b = some o)) E) PySem.F.called_set.init.plain PySem.F.entry_set_init (check_set_init_1 hT ?_)) fun r₂ s₂ hr₂ => ?_
      · obtain ⟨⟨ocls, odict, odata, oslots⟩, hol, hcl, nl, hdl⟩ := hl
        simp only at hcl hdl
        subst hcl; subst hdl
        have hol' : (s.heap.push { cls := .type "set", dict := none, data := .set #[] 0 (.fresh 0 0 led) }).get? l = some { cls := .type "list", dict := odict, data := .seq items nl, slots := oslots } := Heap.get?_push_of_some _ hol
        have hsls := PySem.F.sub_list_set
        have hslf := PySem.F.sub_list_frozenset
        have hne : (Value.type "list" == Value.type "dict") = false := by decide
        have hl1 : (s.heap.push { cls := .type "set", dict := none, data := .set #[] 0 (.fresh 0 0 led) }).IsList l items := ⟨_, hol', rfl, nl, rfl⟩
        unfold Builtin.«set.__init__» noKeywords Builtin.Frozenset.updateFrom
        generalize hPI : pyIter = PI
        wp_walk
        subst hPI
        refine wpAny_pyIter_list hl1 ?_
        refine wpAny_bind (wpAny_runValue ?_)
        have hlS : l < s.heap.objs.size := Heap.lt_size hol
        have hsz' : (s.heap.push { cls := .type "set", dict := none, data := .set #[] 0 (.fresh 0 0 led) }).objs.size = s.heap.objs.size + 1 := Heap.size_push _ _
        have hh3 : A.in1.in1.in1.handled = none := by simp [hh]
        have hneI : l ≠ (s.heap.push { cls := .type "set", dict := none, data := .set #[] 0 (.fresh 0 0 led) }).objs.size := by rw [hsz']; exact Nat.ne_of_lt (Nat.lt_succ_of_lt hlS)
        have hSf : s.heap.objs.size ∉ [(s.heap.push { cls := .type "set", dict := none, data := .set #[] 0 (.fresh 0 0 led) }).objs.size, l] := by
          rw [hsz']; simp only [List.mem_cons, List.not_mem_nil, or_false, not_or]
          exact ⟨Nat.ne_of_lt (Nat.lt_succ_self _), Nat.ne_of_gt hlS⟩
        refine loop_texts ((Walks.list hh3 _ l hneI items).toS) s.heap.objs.size hSf xs hsz (fun i v hv => text_at hi i v (by rw [Array.getElem?_toList]; exact hv)) hb (items.size - 0) 0 _ (by omega) (Nat.zero_le _)
          ⟨⟨_, Heap.get?_push_size _ rfl, rfl, rfl⟩, (hl1.push _)⟩ ?hS0 ?hR
        case hS0 =>
          have hget : ((s.heap.push { cls := .type "set", dict := none, data := .set #[] 0 (.fresh 0 0 led) }).push { cls := .type "list_iterator", data := .fields #[.ref l, .int 0 0] }).get? s.heap.objs.size
              = some { cls := .type "set", dict := none, data := .set #[] 0 (.fresh 0 0 led) } := Heap.get?_push_of_some _ hS
          exact SetOf_congr ((setObjOf_fresh (knd := PySem.strKind prog w) led).setOf hget (by unfold scanBound; omega)) (fun _ => rfl) rfl
        case hR =>
          intro s' hm hS'
          obtain ⟨h', g', d', tk', os'⟩ := s'
          have eg : g' = s.gens := hm.gens
          have ed : d' = s.drawn := hm.drawn
          have eo : os' = s.os := hm.os
          subst eg; subst ed; subst eo
          show wpAny _ _ _ _ _ _
          refine wpAny_pure ?_
          show wpAny _ _ (ret Value.none) _ _ _
          refine wpAny_pure ⟨rfl, h', tk', rfl, hS', fun b o hb e => ?_⟩
          exact hm.heap b o (by rw [hsz']; simp only [List.mem_cons, List.not_mem_nil, or_false, not_or]; exact ⟨Nat.ne_of_lt hb, Nat.ne_of_lt (Nat.lt_succ_of_lt hb)⟩) (Heap.get?_push_of_some _ (Heap.get?_push_of_some _ e))
      · cases r₂ with
        | error e => exact hr₂
        | ok fl₂ =>
          cases fl₂ with
          | ret r =>
            obtain ⟨rfl, h', tk, rfl, hS', hk'⟩ := hr₂
            repeat (any_goals (first | assumption | wp_step))
            exact h _ _ hS' hk'
          | _ => exact hr₂.elim
    | _ => exact hr.elim
end
end SetL
namespace Sm
open PySem PySem.Spec PyProof.Rows L2
def tLenT (K : PySem.W.Frag) (ta : TE) : TE := fun σ H Q => ta σ H fun x H1 => ∃ l, ∃ xs : List Str, x = .ref l ∧ SqL K H1 l (xs.map V.str) ∧ xs.length ≤ 4000 ∧ Q (.int ((SetL.firsts xs xs.length).length : Nat)) H1
theorem pe_lenT {X : Cx} {a : Expr} {ta : TE} {p p2 q pos : Pos} (hc : X.calm = true) (ha : PE X a ta) (hm : X.mg "len" = none) (hm2 : X.mg "set" = none) (hg : Gl X "len" := by rfl) (hg2 : Gl X "set" := by rfl)
    (na : starEach [a] X.env = (false, eval a X.env) :: starEach [] X.env := by rfl) : PE X (.Call (.Name "len" p) [.Call (.Name "set" p2) [a] [] q] [] pos) (tLenT X.K ta) := by
  refine ⟨fun pins s σ H Q I h => ?_⟩
  refine Call_ (ld_blt I hg hm boot_len ?_)
  refine PyProof.Rows.callWith_builtin1 (PyProof.Rows.args_cons ?_ rfl) rfl rfl
  refine Call_ (ld_blt I hg2 hm2 boot_set ?_)
  refine PyProof.Rows.callWith_type1 (PyProof.Rows.args_cons (thn (ha.run pins s σ H _ I h) fun v s1 ⟨x, H1, I1, r1, q1⟩ => PyProof.Rows.args_nil ?_) na) na rfl
  obtain ⟨l, xs, rfl, hq, hl, q1⟩ := q1
  cases r1
  obtain ⟨its, r, pl, hz⟩ := I1.list hq
  have hlen : its.toArray.size = xs.length := by rw [List.size_toArray, ← r.length, List.length_map]
  have hle := SetL.firsts_le xs xs.length (Nat.le_refl _)
  refine SetL.call_set_texts (xs := xs) (I1.ok.hd hc) pl.isList (by simpa using strsAre_of r) hlen.symm (by rw [hlen]; unfold scanBound; omega) fun h' tk hS hk => ?_
  refine PyProof.Rows.args_nil ?_
  rw [hlen] at hS
  obtain ⟨o, es, ep, t, ho, hex, hd, _, _, _, hf, hn⟩ := hS
  have I2 : Inv X pins σ H1 { s1 with heap := h', toks := tk } := I1.kept fun b o e => hk b o (Heap.lt_size e) e
  exact call_len_set ho hex hd hf (by rw [hn] <;> omega) ⟨.int ((SetL.firsts xs xs.length).length : Nat), H1, I2.tok _, ⟨_, by rw [hn]⟩, q1⟩
def iLenT (m : IE) : IE := fun Λ S => (m Λ S).bind fun x S1 => orBad (lstOf S1 x) fun ys => orBad (strsOf ys) fun zs => chk (zs.length ≤ 4000) (.ok (.int ((SetL.firsts zs zs.length).length : Nat)) S1)
theorem de_lenT {X : Cx} {W : WZ} {a : Expr} {m : IE} {p p2 q pos : Pos} (hc : X.calm = true) (ha : DE X W a m) (hm : X.mg "len" = none) (hm2 : X.mg "set" = none) (hg : Gl X "len" := by rfl) (hg2 : Gl X "set" := by rfl)
    (na : starEach [a] X.env = (false, eval a X.env) :: starEach [] X.env := by rfl) : DE X W (.Call (.Name "len" p) [.Call (.Name "set" p2) [a] [] q] [] pos) (iLenT m) :=
  (pe_lenT hc ha hm hm2 hg hg2 na).imp fun σ H Q ⟨w, S, Λ, r0, s0, h⟩ => ⟨w, S, Λ, r0, s0, h.bind.imp fun w1 H1 S1 ix l1 r1 p1 v1 rv1 => by
    obtain ⟨ys, e1, p1⟩ := orBad_post p1
    obtain ⟨zs, e2, p1⟩ := orBad_post p1
    obtain ⟨c, p1⟩ := chk_post p1
    obtain ⟨b, vs, rfl, h1, h2⟩ := lstOf_sq e1 r1 rv1
    have := strsOf_rel e2 h2
    subst this
    exact ⟨b, zs, rfl, h1, c, p1.now r1 _ (.int _)⟩⟩
end Sm
namespace Sm
open PySem PySem.Spec PyProof.Rows L2 NwS
def fOwn2 (C : Str) (mf : List IV → Sto → Out IV) (neg : Bool) (o x : IV) (S : Sto) : Out IV := onI S C o fun _ _ => (noX (mf [o, x] S)).bind fun v S2 => asB v fun b => .ok (.bl (b != neg)) S2
def fInO (C : Str) (mf : List IV → Sto → Out IV) (neg : Bool) (x o : IV) (S : Sto) : Out IV := fOwn2 C mf neg o x S
abbrev rOwn2 (X : Cx) (C : Str) (mf : List IV → Sto → Out IV) (neg : Bool) : R2 := fun y x H Q => ∃ (a Ca dx : Addr) (fs : List (Str × V)), y = .ref a ∧ X.mg C = some (.ref Ca) ∧ H a = some (.ins Ca dx fs) ∧ spM X.K X.mg 2 mf [.ref a, x] H (fun v H' => ∃ b : Bool, v = .bl b ∧ Q (.bl (b != neg)) H') fun _ _ _ => False
abbrev rInO (X : Cx) (C : Str) (mf : List IV → Sto → Out IV) (neg : Bool) : R2 := fun x y H Q => rOwn2 X C mf neg y x H Q
theorem own2_s {X : Cx} {W : WZ} {C : Str} {mf : List IV → Sto → Out IV} {neg : Bool} : OpS (kx X W) W.x (rOwn2 X C mf neg) (fOwn2 C mf neg) := fun w S H y x iy ix Q r ry rx p => by
  obtain ⟨n, fs, a, Ca, dx, ps, h1, h2, rfl, hm, h4, h5, p⟩ := onI_post p r ry
  refine ⟨a, Ca, dx, ps, rfl, hm, h4, rfl, w, S, [iy, ix], r.cx rfl rfl, .cons (Rel.cx (K := kx X W) (K' := ⟨X.K, X.mg, none⟩) rfl iy (.ref a) ry) (.cons (Rel.cx (K := kx X W) (K' := ⟨X.K, X.mg, none⟩) rfl ix x rx) .nil), ?_⟩
  cases hf : mf [iy, ix] S with
  | ok iv S2 =>
    rw [hf] at p
    intro w' H' l r' v rv'
    have p0 := Post.bind (o := Out.ok iv S2) (k := fun v S2 => asB v fun b => Out.ok (IV.bl (b != neg)) S2) p
    have p1 := p0 w' H' l (r'.cx rfl rfl)
    obtain ⟨b, rfl, rfl, p1⟩ := asB_post p1 (Rel.cx (K := ⟨X.K, X.mg, none⟩) (K' := kx X W) rfl iv v rv')
    exact ⟨b, rfl, p1.now (r'.cx rfl rfl) _ (Rel.bl (b != neg))⟩
  | exc D n L S2 => rw [hf] at p; exact p.elim
  | bad => rw [hf] at p; exact p.elim
theorem os_inO {X : Cx} {W : WZ} {C : Str} {mf : List IV → Sto → Out IV} {neg : Bool} : OpS (kx X W) W.x (rInO X C mf neg) (fInO C mf neg) := fun w S H x y ix iy Q r rx ry p => own2_s w S H y x iy ix Q r ry rx p
section
variable {X : Cx} {C : Str} {k : Nat} {p1 p2 : Str} {mf : List IV → Sto → Out IV}
theorem run_own2 {m : Str} {neg : Bool} {pins : List (Addr × Obj)} {σ : L2.St} {H : Hp} {s : Shared} {Q : VK} {x : V} {v : Value} {a Ca dx : Addr} {fs : List (Str × V)} (c : MCal X.prog X.w X.K X.mg X.base C m k [p1, p2] mf) (hr : RmG k X.A) (I : Inv X pins σ H s) (rx : RelV x v)
    (hm : X.mg C = some (.ref Ca)) (ha : H a = some (.ins Ca dx fs)) (q : spM X.K X.mg 2 mf [.ref a, x] H (fun v H' => ∃ b : Bool, v = .bl b ∧ Q (.bl (b != neg)) H') fun _ _ _ => False) :
    ∃ (f : Addr) (ox od : Obj), PySem.W.InstAt s.heap a ox Ca (some od) ∧ PySem.W.findIn X.K (.ref Ca) m = some (some (.ref f)) ∧ PySem.W.isFn X.K (.ref f) = true ∧
      wpAny (model X.prog X.w) X.A (call (.ref f) [.ref a, v]) (fun r s' => ∃ (b : Bool) (H' : Hp), r = .bool b ∧ Inv X pins σ H' s' ∧ Q (.bl (b != neg)) H') X.xe s := by
  obtain ⟨Cb, f, fd, hm2, hc, hM, hb, F⟩ := c
  have e := hm.symm.trans hm2
  cases e
  obtain ⟨mA, J, _⟩ := ins_get I.hok ha
  obtain ⟨od, J, _⟩ := J.look
  refine ⟨f, _, _, J, hM.at_, hM.fn, ?_⟩
  have go := run_fnIn (A := X.A) (E := WE W0) (us := [.ref a, v]) (vs := [.ref a, x]) rfl F hr hb (passAt takesW0 σ) I (.cons rfl (.cons rx .nil)) (Q := fun v H' => ∃ b : Bool, v = .bl b ∧ Q (.bl (b != neg)) H') q
  refine wpAny_mono go (fun r s1 z => ?_) fun _ _ z => z
  obtain ⟨y, H1, I1, ry, b, rfl, q1⟩ := z
  cases ry
  exact ⟨b, H1, rfl, I1, q1⟩
theorem op_inO (c : MCal X.prog X.w X.K X.mg X.base C "__contains__" k [p1, p2] mf) (hr : RmG k X.A) : OpR X (compareOp .In) (rInO X C mf false) := by
  intro pins s σ H x y v u Q I rx ry h
  obtain ⟨a, Ca, dx, fs, rfl, hm, ha, q⟩ := h
  obtain rfl : u = Value.ref a := ry
  obtain ⟨f, ox, od, J, h1, h2, go⟩ := run_own2 c hr I rx hm ha q
  obtain ⟨m, hF⟩ := I.fr
  refine PySem.W.in_K hF I.ok.mod.kin J h1 h2 (wpAny_mono go (fun r s1 z => ?_) fun _ _ z => z)
  obtain ⟨b, H1, rfl, I1, q1⟩ := z
  exact wpAny_truthy_bool ⟨.bl b, H1, I1, rfl, by simpa using q1⟩
end
def EqOk (C : Str) (S : Sto) (y : IV) : Bool := match y with
  | .str _ => true
  | .adr n => (match S[n]? with
    | some (.ins D _) => decide (D = C)
    | _ => false)
  | _ => false
def fStrO (C : Str) (mf : List IV → Sto → Out IV) (xs : List IV) (S : Sto) : Out IV := a1 xs fun x => onI S C x fun _ _ => (noX (mf [x] S)).bind fun v S2 => asS v fun t => .ok (.str t) S2
abbrev rStrO (X : Cx) (C : Str) (mf : List IV → Sto → Out IV) : List V → Hp → VK → Prop := fun xs H Q => ∃ (a Ca dx : Addr) (fs : List (Str × V)), xs = [.ref a] ∧ X.mg C = some (.ref Ca) ∧ H a = some (.ins Ca dx fs) ∧ spM X.K X.mg 1 mf [.ref a] H (fun v H' => ∃ t : Str, v = .str t ∧ Q (.str t) H') fun _ _ _ => False
theorem cs_strO {X : Cx} {W : WZ} {C : Str} {mf : List IV → Sto → Out IV} : CaS (kx X W) W.x (rStrO X C mf) (fStrO C mf) := fun w S H xs ix Q r rx p => by
  obtain ⟨v, x, rfl, rfl, rv, p⟩ := a1_post p rx
  obtain ⟨n, fs, a, Ca, dx, ps, h1, h2, rfl, hm, h4, h5, p⟩ := onI_post p r rv
  refine ⟨a, Ca, dx, ps, rfl, hm, h4, rfl, w, S, [x], r.cx rfl rfl, .cons (Rel.cx (K := kx X W) (K' := ⟨X.K, X.mg, none⟩) rfl x (.ref a) rv) .nil, ?_⟩
  cases hf : mf [x] S with
  | ok iv S2 =>
    rw [hf] at p
    intro w' H' l r' v rv'
    have p0 := Post.bind (o := Out.ok iv S2) (k := fun v S2 => asS v fun t => Out.ok (IV.str t) S2) p
    have p1 := p0 w' H' l (r'.cx rfl rfl)
    obtain ⟨t, rfl, rfl, p1⟩ := asS_post p1 (Rel.cx (K := ⟨X.K, X.mg, none⟩) (K' := kx X W) rfl iv v rv')
    exact ⟨t, rfl, p1.now (r'.cx rfl rfl) _ (Rel.str t)⟩
  | exc D n L S2 => rw [hf] at p; exact p.elim
  | bad => rw [hf] at p; exact p.elim
theorem pe_makeV {X : Cx} {W : WX} {pos p : Pos} {k np i : Nat} {ps : List Str} {mf : List IV → Sto → Out IV} {C x : Str} {e : Expr} {es : List Expr} {ma : IA} {Ca : Addr} (c : KCal X.prog X.w X.K X.mg X.base C k ps mf) (hmC : X.mg C = some (.ref Ca)) (tk : Takes X W) (hr : RmG (k + 1) X.A)
    (hN : X.N[i]? = some x) (hv : Vis X.env.scope x) (ha : DA X ⟨W, none⟩ (e :: es) ma) (hnp : ps.length = np := by rfl) (hdb : (x == ("__debug__" : Str)) = false := by decide) (hcd : (x == ("__classdict__" : Str)) = false := by decide)
    (he : starEach (e :: es) X.env = (false, eval e X.env) :: starEach es X.env := by rfl) (hpl : (backTo pos (starEach es X.env)).any (·.1) = false := by rfl) :
    PE X (.Call (.Name x p) (e :: es) [] pos) (fun σ H Q => σ[i]? = some (some (.ref Ca)) ∧ eM (kx X ⟨W, none⟩) W (iMake C np mf ma) σ H Q) := by
  obtain ⟨Cb, f, fd, hm, M, hb, F⟩ := c
  have e0 := hmC.symm.trans hm
  cases e0
  subst hnp
  refine ⟨fun pins s σ H Q I h => ?_⟩
  obtain ⟨hs, w, S, Λ, r0, s0, p0⟩ := h
  refine wpAny_Call_Name_kw (thn ((pe_var (pos := p) hN hv hdb hcd).run pins s σ H (fun v H1 => v = .ref Ca ∧ H1 = H) I ⟨.ref Ca, hs, rfl, rfl⟩) fun u s0' ⟨v, H0, I0, r1, q1⟩ => ?_)
  obtain ⟨rfl, rfl⟩ := q1
  cases r1
  have q0 := ha.run pos pins s0' σ H0 (fun vs H1 => ∀ x dx, H1 x = none → H1 dx = none → dx ≠ x → spM X.K X.mg ps.length mf (.ref x :: vs) (upd (upd H1 dx (.own x)) x (.ins Ca dx [])) (fun v H2 => v = .non ∧ Q (.ref x) H2) (WE W σ)) I0
    ⟨w, S, Λ, r0, s0, p0.bind.imp fun w1 H1 S1 ivs l1 r1 p1 vs rvs => by
      intro x dx hx hdx hne
      obtain ⟨hlen, q⟩ := chk_post p1
      obtain ⟨l2, r2⟩ := r1.frz (o := .own x) hdx
      have hx2 : upd H1 dx (.own x) x = none := by rw [upd_ne (Ne.symm hne)]; exact hx
      obtain ⟨l3, r3⟩ := r2.alloc (p := x) (o := .ins Ca dx []) (c := .ins C []) hx2 fun w' l' => ⟨Ca, dx, [], hm, upd_same, .nil⟩
      have l13 := l2.trans l3
      have hrho : (w1.rho ++ [x])[S1.length]? = some x := by rw [← r1.len]; simp
      refine ⟨by rw [List.length_cons, rvs.length]; exact hlen, _, _, .adr S1.length :: ivs, r3, .cons (.adr hrho) (rvs.up l13), relab_post (?_ : Post (kx X ⟨W, none⟩) W _ (relab Λ (mf (.adr S1.length :: ivs) (S1 ++ [.ins C []]))) _) ((s0.up l1).up l13)⟩
      refine (q.up l13).bind.imp fun w4 H4 S4 iv l4 r4 p4 v rv => ?_
      obtain ⟨hn, p5⟩ := chk_post p4
      have hv : v = .non := by
        cases iv with
        | non => cases rv; rfl
        | _ => cases hn
      exact ⟨hv, p5.now r4 _ (.adr (l4.1.get hrho))⟩⟩
  refine PySem.W.callWith_K (h₀ := X.base) I0.ok.mod.kin M.kp (thn q0 fun us s1 ⟨vs, H1, I1, r, q⟩ => ⟨I1.kIn, ?_⟩) he hpl
  have hq := q (s1.heap.objs.size + 1) s1.heap.objs.size (I1.hok.fresh (Nat.le_succ _)) (I1.hok.fresh (Nat.le_refl _)) (Nat.ne_of_lt (Nat.lt_succ_self _))
  have I2 := Inv.made (C := Ca) I1
  have r2 : Vals (V.ref (s1.heap.objs.size + 1) :: vs) (Value.ref (s1.heap.objs.size + 1) :: us) := .cons rfl r
  have hl : (Value.ref (s1.heap.objs.size + 1) :: us).length = ps.length := by
    have e := r2.length
    rw [F.len _ _ _ _ hq] at e
    exact e.symm
  have b := hb _ (Value.ref (s1.heap.objs.size + 1) :: us) I2.kIn (by rw [List.append_nil]; exact hl)
  rw [List.append_nil] at b
  refine wpAny_call (make_map (f := f) I1.kIn M.makes M.init (beq_iff_eq.mp M.fn) (codeAny_mono (F.run _ X.stack _ _ ⟨Value.ref (s1.heap.objs.size + 1) :: us, []⟩ (Value.ref (s1.heap.objs.size + 1) :: us) _ _ (WE W σ) (hr.make Ca us [])
    (I2.env0.make Ca us []) b r2 hq) fun r s' hq' => ?_))
  cases r with
  | error er => exact passAt tk σ pins _ _ er s' I2 hq'
  | ok fl =>
    cases fl with
    | ret u =>
      obtain ⟨v, H', I3, rv, ev, q3⟩ := I2.after hq'
      subst ev
      exact ⟨rv, ⟨V.ref (s1.heap.objs.size + 1), H', I3, rfl, q3⟩⟩
    | next => exact False.elim hq'
    | brk => exact False.elim hq'
    | cont => exact False.elim hq'
def FnRG (P : Program) (w : World) (K : PySem.W.Frag) (mg : Str → Option Value) (base : Heap) (CX : CXT) (k : Nat) (f : Addr) (sp : Sp) : Prop :=
  ∀ (A : Around) (outer : List Env) (s : Shared) (H : Hp) (us : List Value) (vs : List V) (Q : VK) (E : XK), RmG k A → Env0 P w K mg base A outer s H → Vals vs us → sp vs H Q E →
    codeAny (model P w) A (.call (.ref f) ⟨us, []⟩) (CR CX outer P w H s Q E) s
section
variable {P : Program} {w : World} {K : PySem.W.Frag} {mg : Str → Option Value} {base : Heap} {CX : CXT} {k : Nat} {f : Addr} {name qual : Str} {params : Arguments} {body : List Stmt} {scope : Scope} {dV kV doc pm cdv ct oc : Value} {an od : Option Addr}
  {osl : Array (Option Value)} {N ps : List Str} {sp : Sp}
theorem fn_starG {pv : Str} (lk : K.lookup f = some ⟨oc, od, .func (PySem.W.fnOf name qual params body scope dV kV doc pm an cdv ct), osl⟩) (hcd : PySem.W.codeIn K cdv qual = true) (S : FnScope N (ps ++ [pv]) scope) (hCX : StX.CXUp CX)
    (hb : ∀ us rest : List Value, us.length = ps.length → bindArgs (PySem.W.fnOf name qual params body scope dV kV doc pm an cdv ct) ⟨us ++ rest, []⟩ = (newTuple rest >>= fun t => pure (ps.zip us ++ [(pv, t)])))
    (hbody : ∀ (A : Around) (outer : List Env) (s : Shared) (H : Hp) (vs : List V) (Q : VK) (E : XK), RmG k (A.deeper (envOfC qual scope s.heap.objs.size f cdv)) → sp vs H Q E →
      ∃ t, PSs (cxOf CX P w K mg base N qual scope f cdv A outer s H E) body t ∧ t { nx := fun _ H' => Q .non H', rt := Q } (start N vs) H) :
    FnRG P w K mg base CX (k + 1) f (fun vs H Q E => ∃ ws rest, vs = ws ++ rest ∧ ws.length = ps.length ∧ rest.length ≤ sizeLine ∧ ∀ p, H p = Option.none → sp (ws ++ [V.ref p]) (upd H p (.tup rest)) Q E) := by
  intro A outer s H us vs Q E hr e0 r hsp
  obtain ⟨ws, rest, ev, hl, hz, hq⟩ := hsp
  subst ev
  obtain ⟨u1, u2, eu, r1, r2⟩ := StX.vals_split r
  subst eu
  have hn : H s.heap.objs.size = Option.none := e0.hok.fresh (Nat.le_refl _)
  have hl1 : u1.length = ps.length := by rw [← r1.length]; exact hl
  have hl2 : u2.length ≤ sizeLine := by rw [← r2.length]; exact hz
  refine StX.run_bnd lk hcd S hr.toRoom e0 (G := fun xs H2 => ∃ p, H p = Option.none ∧ xs = ws ++ [V.ref p] ∧ H2 = upd H p (.tup rest)) (fun A' Ex Q' h => ?_) fun s2 H2 xs ⟨p, hp, ex, eH⟩ hr' => ?_
  · rw [hb u1 u2 hl1]
    refine wpAny_bind (wpAny_newTuple (wpAny_pure ?_) hl2)
    have new : ObjOk P w (upd H s.heap.objs.size (.tup rest)) (s.heap.push ({ cls := .type "tuple", data := .seq u2.toArray } : Obj)) s.heap.objs.size (.tup rest) := ⟨hz, u2, r2, ⟨_, Heap.get?_push_size _ rfl, rfl, _, rfl⟩⟩
    have un := StX.un_laid (fs := frs outer) (s := s) (o := ({ cls := .type "tuple", data := .seq u2.toArray } : Obj)) (u := .tup rest) hn
    have z := h _ _ (ws ++ [V.ref s.heap.objs.size]) (u1 ++ [Value.ref s.heap.objs.size]) (StX.env0_laid e0 new) un rfl (fun e s' => hCX outer s H _ _ E e s' un (fun b o q => Heap.get?_push_of_some _ q) rfl) (r1.append (.cons rfl .nil))
      (by rw [List.length_append, List.length_append, hl] <;> rfl) ⟨_, hn, rfl, rfl⟩
    rw [List.zip_append hl1.symm] at z
    exact z
  · subst ex eH
    exact hbody A outer s2 _ _ Q E (hr.deeper _) (hq p hp)
end
def cSlots (nf n : Nat) (ivs : List IV) : Slots := none :: ((ivs.take nf).map some ++ (some (.tup (ivs.drop nf)) :: List.replicate n none))
def cDef (nf n : Nat) (mb : IE) (ivs : List IV) (S : Sto) : Out IV := relab [] (mb (cSlots nf n ivs) S)
def spC (K : PySem.W.Frag) (mg : Str → Option Value) (Ca : Addr) (nf n : Nat) (mb : IE) : Sp := fun vs H Q E => ∃ ws, vs = .ref Ca :: ws ∧ nf ≤ ws.length ∧ ws.length ≤ sizeLine ∧ ∃ w S ivs, R ⟨K, mg, none⟩ w S H ∧ RelL ⟨K, mg, none⟩ w ws ivs ∧
  Post ⟨K, mg, none⟩ (fun c d _ H => E c d H) w (cDef nf n mb ivs S) fun w' H' _ iv => ∀ v, Rel ⟨K, mg, none⟩ w' v iv → Q v H'
def CCal (P : Program) (w : World) (K : PySem.W.Frag) (mg : Str → Option Value) (base : Heap) (C m : Str) (k nf n : Nat) (mb : IE) : Prop :=
  ∃ (Ca p g : Addr), mg C = some (.ref Ca) ∧ ClX.CRead K Ca (.type "type") ∧ ClX.CMet K Ca (.type "type") m p g ∧ FnRG P w K mg base (L2.CX P w) k g (spC K mg Ca nf n mb)
def CLoc (K : PySem.W.Frag) (mg : Str → Option Value) (C m : Str) (qual : Str) (st : Stmt) : Prop :=
  ∃ (Ca p g : Addr) (fd : FuncData), mg C = some (.ref Ca) ∧ ClX.CRead K Ca (.type "type") ∧ ClX.CMet K Ca (.type "type") m p g ∧ Fun K m qual st g fd
theorem SR.wipe0 {K : KX} {w : Wd} {σ : L2.St} {x : Option IV} {T : Slots} (h : SR K w σ (x :: T)) (hx : K.ex = none) : SR K w σ (none :: T) :=
  ⟨by rw [h.len, List.length_cons, List.length_cons], fun i iv e => by
    cases i with
    | zero => simp at e
    | succ i => exact h.get (i + 1) iv (by simpa using e), fun i n a d e _ => by rw [hx] at e; cases e⟩
section
variable {P : Program} {w : World} {K : PySem.W.Frag} {mg : Str → Option Value} {base : Heap}
theorem ccal_def {C m qual : Str} {st : Stmt} {N fixed : List Str} {pc pv : Str} {k n : Nat} {mb : IE} (L : CLoc K mg C m qual st) (Sc : FnScope N ((pc :: fixed) ++ [pv]) (defScope st)) (hN : N.length = fixed.length + 2 + n)
    (hbind : ∀ (kV doc pm : Value) (an : Option Addr) (cdv ct : Value) (us rest : List Value), us.length = (pc :: fixed).length → bindArgs (PySem.W.fnOf m qual (defArgs st) (defBody st) (defScope st) .none kV doc pm an cdv ct) ⟨us ++ rest, []⟩ = (newTuple rest >>= fun t => pure ((pc :: fixed).zip us ++ [(pv, t)])))
    (hb : ∀ (Ca : Addr), mg C = some (.ref Ca) → ∀ (f : Addr) (cdv : Value) (A : Around) (outer : List Env) (s : Shared) (H : Hp) (E : XK), RmG k (A.deeper (envOfC qual (defScope st) s.heap.objs.size f cdv)) →
      Takes (DX P w K mg base N qual (defScope st) f cdv A outer s H E) (WEx E) →
      PSs (DX P w K mg base N qual (defScope st) f cdv A outer s H E) (defBody st) (tRet fun σ H Q => σ[0]? = some (some (.ref Ca)) ∧ eM ⟨K, mg, none⟩ (WEx E) mb σ H Q)) : CCal P w K mg base C m (k + 1) fixed.length n mb := by
  obtain ⟨Ca, p, g, fd, h1, h2, h3, F⟩ := L
  obtain ⟨oc, od, kV, doc, pm, an, cdv, ct, osl, rfl, lk, hcd⟩ := F.ex
  refine ⟨Ca, p, g, h1, h2, h3, ?_⟩
  have Z := fn_starG (k := k) (sp := fun vs H Q E => (L2.start N vs)[0]? = some (some (V.ref Ca)) ∧ eM ⟨K, mg, none⟩ (WEx E) mb (L2.start N vs) H Q) lk hcd Sc (StX.cxUp (P := P) (w := w)) (hbind kV doc pm an cdv ct)
    (fun A outer s H vs Q E hr q => ⟨_, hb Ca h1 g cdv A outer s H E hr (takes_of rfl rfl rfl rfl), q⟩)
  intro A outer s H us vs Q E hr e0 r hsp
  refine Z A outer s H us vs Q E hr e0 r ?_
  obtain ⟨ws, rfl, hl, hz, w0, S, ivs, r0, rl, p0⟩ := hsp
  refine ⟨.ref Ca :: ws.take fixed.length, ws.drop fixed.length, by rw [List.cons_append, List.take_append_drop], by rw [List.length_cons, List.length_take, List.length_cons]; omega, by rw [List.length_drop]; omega, fun q hq => ?_⟩
  have hlen := rl.length
  obtain ⟨l1, r1⟩ := r0.frz (o := .tup (ws.drop fixed.length)) hq
  have rl1 := rl.up l1
  have hT : Rel ⟨K, mg, none⟩ ⟨w0.rho, upd w0.F q (.tup (ws.drop fixed.length)), w0.G⟩ (.ref q) (.tup (ivs.drop fixed.length)) := .tup (.inl (.inl upd_same)) (rl1.drop _)
  have rv : RelL ⟨K, mg, none⟩ ⟨w0.rho, upd w0.F q (.tup (ws.drop fixed.length)), w0.G⟩ (.ref Ca :: ws.take fixed.length ++ [V.ref q]) (.ref Ca :: ivs.take fixed.length ++ [.tup (ivs.drop fixed.length)]) := (RelL.cons (.ref Ca) (rl1.take _)).append (.one hT)
  have sr := start_sr (N := N) rv rfl
  have e1 : ((IV.ref Ca :: ivs.take fixed.length ++ [IV.tup (ivs.drop fixed.length)]).map some ++ List.replicate (N.length - (IV.ref Ca :: ivs.take fixed.length ++ [IV.tup (ivs.drop fixed.length)]).length) none : Slots) =
      some (.ref Ca) :: ((ivs.take fixed.length).map some ++ (some (.tup (ivs.drop fixed.length)) :: List.replicate n none)) := by
    have : N.length - (IV.ref Ca :: ivs.take fixed.length ++ [IV.tup (ivs.drop fixed.length)]).length = n := by
      rw [List.length_append, List.length_cons, List.length_take, List.length_singleton, hN]
      omega
    rw [this]
    simp
  rw [e1] at sr
  refine ⟨by unfold L2.start; simp, _, S, cSlots fixed.length n ivs, r1, sr.wipe0 rfl, ?_⟩
  have p1 := p0.up l1
  unfold cDef at p1
  cases e : mb (cSlots fixed.length n ivs) S with
  | ok iv S2 => rw [e] at p1; exact p1
  | exc D d L S2 =>
    rw [e] at p1
    exact fun w' H' a σ' l r s' ea => p1 w' H' a [] l r sr_nil ea
  | bad => rw [e] at p1; exact p1
end
def iClsm (nf n : Nat) (mb : IE) (ma : IA) : IE := fun Λ S => (ma Λ S).bind fun xs S1 => chk (nf ≤ xs.length ∧ xs.length ≤ sizeLine) (relab Λ (cDef nf n mb xs S1))
section
variable {X : Cx} {W : WX} {pos apos p0 : Pos} {k nf n : Nat} {C m : Str} {e : Expr} {es : List Expr} {ma : IA} {mb : IE} {pl : Sem Bool}
theorem de_clsm (c : CCal X.prog X.w X.K X.mg X.base C m k nf n mb) (tk : Takes X W) (hr : RmG k X.A) (ha : DA X ⟨W, none⟩ (e :: es) ma) (hg : Gl X C := by rfl) (hdb : (C == ("__debug__" : Str)) = false := by decide)
    (hst : starEach (e :: es) X.env = (false, eval e X.env) :: starEach es X.env := by rfl) (hpl : (backTo pos (starEach es X.env)).any (·.1) = false := by rfl)
    (ht : eval (.Call (.Attribute (.Name C p0) m apos) (e :: es) [] pos) X.env = (do
      let ov ← eval (.Name C p0) X.env
      standAt apos.atName
      let (f, first) ← holding [ov] (getMethod ov m pl)
      callWith pos f first (backTo pos (starEach (e :: es) X.env)) (backToKw pos (keywordEach [] X.env))) := by rfl) :
    DE X ⟨W, none⟩ (.Call (.Attribute (.Name C p0) m apos) (e :: es) [] pos) (iClsm nf n mb ma) := by
  obtain ⟨Ca, p, g, hm, hR, hM, F⟩ := c
  refine ⟨fun pins s σ H Q I h => ?_⟩
  obtain ⟨w, S, Λ, r0, s0, p0⟩ := h
  refine PySem.W.methodCall_KW (pl := pl) (ld_glob I hg hm ?_ hdb) ht
  refine ClX.getmethcm_ok I hR hM fun s2 I2 => ?_
  have hq := ha.run pos _ s2 σ H (fun vs H1 => spC X.K X.mg Ca nf n mb (.ref Ca :: vs) H1 Q (WE W σ)) I2 ⟨w, S, Λ, r0, s0, p0.bind.imp fun w1 H1 S1 xs l1 r1 p1 vs rv => by
    obtain ⟨c, q⟩ := chk_post p1
    exact ⟨vs, rfl, by rw [rv.length]; exact c.1, by rw [rv.length]; exact c.2, w1, S1, xs, r1, rv, relab_post q (s0.up l1)⟩⟩
  refine ClX.callwith_cm I2 (ClX.base_none I (Nat.le_refl _)) hM.fi (thn hq fun us s3 ⟨vs, H2, I3, rv, q2⟩ => ⟨⟨ClX.pin_at I3, I3.kIn⟩, ?_⟩) hst hpl
  have z : wpAny (model X.prog X.w) X.A (call (.ref s.heap.objs.size) us) (EP X ((s.heap.objs.size, PySem.W.methodObj (.ref g) (.ref Ca)) :: pins) σ Q) X.xe s3 := by
    refine wpAny_call (PySem.W.method_call (ClX.pin_at I3) (codeAny_mono (F X.A X.stack s3 H2 (.ref Ca :: us) (.ref Ca :: vs) Q (WE W σ) hr I3.env0 (.cons rfl rv) q2) fun r s' hq' => ?_))
    cases r with
    | error er => exact passAt tk σ _ _ _ er s' I3 hq'
    | ok fl =>
      cases fl with
      | ret u => exact I3.after hq'
      | next => exact False.elim hq'
      | brk => exact False.elim hq'
      | cont => exact False.elim hq'
  exact thn z fun _ _ y => ClX.unpinE y
end
def fClear (o : IV) (xs : List IV) (S : Sto) : Out IV := match xs with
  | [] => onL S o fun n _ => .ok .non (S.set n (.lst []))
  | _ => .bad
theorem ms_clear {K : KX} {W : WX} : MtS K W rClear fClear := fun w S H x xs io ix Q r ro rx p => by
  unfold fClear at p
  cases rx with
  | nil =>
    obtain ⟨n, ys, a, vs, h1, h2, rfl, h3, h4, p⟩ := onL_post p r ro
    exact ⟨a, vs, rfl, rfl, h3, p.now (r.write h2 ⟨_, upd_same, .nil⟩ (fun _ e => by rw [h1] at e; cases e)) _ .non⟩
  | cons a b => exact p.elim
structure IsA (K : PySem.W.Frag) (Ca : Addr) : Prop where
  ic : PySem.W.isClsIn K Ca = true
  ty : PySem.W.typeIn K (.ref Ca) = some (.type "type")
  cl : Cls K Ca
  ha : PySem.W.findIn K (.ref Ca) "__class__" = some (some (.builtin "object.__class__"))
  hn : PySem.W.specialIn K (.builtin "object.__class__") "__get__" = some (some (.builtin "getset_descriptor.__get__"))
  ht : PySem.W.takesIn K (.builtin "object.__class__") = some true
  hm : PySem.W.mroIn K Ca (.type "object") = some true
def IsC (K : PySem.W.Frag) (mg : Str → Option Value) (C : Str) : Prop := ∃ Ca : Addr, mg C = some (.ref Ca) ∧ IsA K Ca
section
variable {K : PySem.W.Frag} {h : Heap} {mg : Str → Option Value}
theorem isC_mk {C : Str} {Ca : Addr} (X : K.In h) (G : h.Ns mainGlobals mg) (a : PySem.W.nsIn K mainGlobals C = some (some (.ref Ca))) (i : IsA K Ca) : IsC K mg C := ⟨Ca, PySem.W.mg_of X G a, i⟩
theorem cloc_mk {C m qual : Str} {st : Stmt} {Ca p f : Addr} {od an : Option Addr} {sl : Array (Option Value)} {oc kV dc pm cd ct : Value} {rest : List Value} (X : K.In h) (G : h.Ns mainGlobals mg) (a : PySem.W.nsIn K mainGlobals C = some (some (.ref Ca)))
    (ga : PySem.W.specialIn K (.ref Ca) "__getattribute__" = some (some (.builtin "type.__getattribute__"))) (rd : PySem.W.readsIn K Ca (.type "type") = true)
    (at_ : PySem.W.findCls K (.ref Ca) (.type "type") m = some (.get (.builtin "classmethod.__get__") (.ref p) .none (.ref Ca))) (rc : PySem.W.recIn K p "classmethod" = some (.ref f :: rest)) (fi : PySem.W.fnIn K f = true)
    (k : PySem.W.keepIn K (.ref f) = true) (l : K.lookup f = some ⟨oc, od, .func (PySem.W.fnOf m qual (defArgs st) (defBody st) (defScope st) .none kV dc pm an cd ct), sl⟩) (c : PySem.W.codeIn K cd qual = true) : CLoc K mg C m qual st :=
  ⟨Ca, p, f, _, PySem.W.mg_of X G a, ⟨rd, ga⟩, ⟨at_, ⟨_, rc⟩, fi⟩, fun_mk (st := st) l c k⟩
end
end Sm
namespace Sm
open PySem PySem.Spec PyProof.Rows L2
end Sm
set_option maxHeartbeats 1000000
namespace Lw
open PySem PySem.Spec PyProof.Rows L2 Sm
def Dr (S : Sto) (n : Nat) (K : Nat) : Prop := ∃ a b c : Int, S[n]? = some (.lst [.int a, .int b, .int c]) ∧ 0 ≤ c ∧ c ≤ K
theorem Dr.up {S : Sto} {n K M : Nat} (h : Dr S n K) (l : K ≤ M) : Dr S n M := by
  obtain ⟨a, b, c, e, c0, c1⟩ := h
  exact ⟨a, b, c, e, c0, by omega⟩
theorem Dr.lt {S : Sto} {n K : Nat} (h : Dr S n K) : n < S.length := by
  obtain ⟨a, b, c, e, _⟩ := h
  exact lt_some e
theorem Dr.ext {S S' : Sto} {n K : Nat} {ds : List Nat} (h : Dr S n K) (x : Ext ds S S') (hn : n ∉ ds := by simp) : Dr S' n K := by
  obtain ⟨a, b, c, e, c0, c1⟩ := h
  exact ⟨a, b, c, x.get e hn, c0, c1⟩
structure DrC (A B M Hh N : Int) : Prop where
  a : -(2 ^ 64) < A ∧ A < 2 ^ 64
  b : -(2 ^ 64) < B ∧ B < 2 ^ 64
  m : 0 < M
  m2 : M ≤ 2147483648
  h : 0 < Hh ∧ Hh < 1073741824
  n : 0 < N
def sourceB (P : Int) (cc : Int) (D : Int) : IS := (iSeq (iSet 2 (iIf (iTest (iBin fLt (iVar 1) (iCa fLen (iCons (iVar 0) iNil)))) (iBin fIx (iVar 0) (iVar 1)) (iC (.int 0)))) (iSeq (iSet 3 (iIf (iTest (iBin fGe (iCa fAbs (iCons (iVar 2) iNil)) (iBin fPow (iC (.int 10)) (iC (.int 18))))) (iCa fAbs (iCons (iVar 2) iNil)) (iC (.int 0))))
  (iRet (iLst true (iCons (iVar 3) (iCons (iBin fAdd (iBin fAdd (iBin fMod (iCa fInt (iCons (iVar 2) iNil)) (iC (.int P))) (iBin fMul (iC (.int cc)) (iVar 1))) (iC (.int D))) (iCons (iC (.int 0)) iNil)))))))
theorem source_ok {P cc D : Int} (hP : 0 < P) (hc : -(2 ^ 64) < cc ∧ cc < 2 ^ 64) {S : Sto} {ns : List Int} {i : Nat} : ∃ S', mDef 4 (sourceB P cc D) [.wls (ns.map IV.int), .int i] S = .ok (.adr S.length) S' ∧ Dr S' S.length 0 ∧ Ext [] S S' ∧ S'.length = S.length + 1 := by
  have z3 : (3 : Nat) ≤ sizeLine := by rw [szL]; decide
  have kp : CPow 10 18 := by decide
  have km : CMul cc (i : Int) := .inl ⟨hc.1, hc.2⟩
  obtain ⟨c, hc⟩ : ∃ c : Int, (iIf (iTest (iBin fLt (iVar 1) (iCa fLen (iCons (iVar 0) iNil)))) (iBin fIx (iVar 0) (iVar 1)) (iC (.int 0)) : IE) [some (.wls (ns.map IV.int)), some (.int i), none, none] S = .ok (.int c) S := by
    by_cases h : i < ns.length
    · refine ⟨ns[i], ?_⟩
      have e : atI (ns.map IV.int) (i : Int) = some (.int ns[i]) := atI_nat (by rw [List.getElem?_map, List.getElem?_eq_getElem h]; rfl)
      simp [iVar_s, h, e]
    · refine ⟨0, ?_⟩
      simp [iVar_s, h]
  let a : Int := if (10 : Int) ^ 18 ≤ (if c < 0 then -c else c) then (if c < 0 then -c else c) else 0
  refine ⟨S ++ [.lst [.int a, .int (c % P + cc * i + D), .int 0]], ?_, ⟨_, _, _, get_new _ _, Int.le_refl 0, Int.le_refl 0⟩, .app _, by simp⟩
  refine mDef_rt ?_
  unfold sourceB
  rw [iSeq_e, iSet_e]
  show ((Out.bind (iIf _ _ _ [some (.wls (ns.map IV.int)), some (.int i), none, none] S) _).bind _) = _
  rw [hc]
  by_cases h : (10 : Int) ^ 18 ≤ (if c < 0 then -c else c)
  · have ha : a = (if c < 0 then -c else c) := if_pos h
    have h' : (1000000000000000000 : Int) ≤ (if c < 0 then -c else c) := h
    simp [iVar_s, kp, chk_pos, km, z3, h', hP, ha]
  · have ha : a = 0 := if_neg h
    have h' : ¬ (1000000000000000000 : Int) ≤ (if c < 0 then -c else c) := h
    simp [iVar_s, kp, chk_pos, km, z3, h', hP, ha]
def turns (t : Int) (ns : List Int) : Nat := (if (if (ns.length : Int) < t then (ns.length : Int) else t) > 1 then (if (ns.length : Int) < t then (ns.length : Int) else t) else 1).toNat
def placesW (t : Int) : IW := iSrcR1 (iCa fMax2 (iCons (iC (.int 1)) (iCons (iCa fMin2 (iCons (iC (.int t)) (iCons (iCa fLen (iCons (iVar 0) iNil)) iNil))) iNil)))
theorem places_src {t : Int} (ht : t ≤ 1000) {ns : List Int} {Λ : Slots} {S : Sto} (h0 : Λ[0]? = some (some (.wls (ns.map IV.int)))) (hl : ns.length ≤ 63) : placesW t Λ S = .ok ⟨(List.range (turns t ns)).map fun i : Nat => IV.int i, none⟩ S := by
  unfold placesW turns
  have q : -(2 ^ 62) ≤ (if (if (ns.length : Int) < t then (ns.length : Int) else t) > 1 then (if (ns.length : Int) < t then (ns.length : Int) else t) else 1) ∧ (if (if (ns.length : Int) < t then (ns.length : Int) else t) > 1 then (if (ns.length : Int) < t then (ns.length : Int) else t) else 1) < 2 ^ 62 := by
    split <;> split <;> omega
  simp only [iSrcR1_e, iCa_e, iCons_e, iC_e, iNil_e, Out.bind_ok]
  rw [iVar_s h0]
  simp only [Out.bind_ok, fLen_e, lenN_w, orBad_some, List.length_map, fMin2_i, fMax2_i, asI_i]
  rw [chk_pos q, rangeI_map]
  simp only [Int.zero_add]
set_option maxHeartbeats 2000000
def alpha : Str := "abcdefghijklmnopqrstuvwxyz"
def Abc (s : Str) : Prop := ∀ c ∈ sg s, c ∈ sg alpha
theorem strsOf_map : ∀ zs : List Str, strsOf (zs.map IV.str) = some zs
  | [] => rfl
  | z :: zs => by
    show (strsOf (zs.map IV.str)).map (z :: ·) = _
    rw [strsOf_map zs]; rfl
theorem join_len (zs : List Str) : (PySem.Txt.join ⟨#[]⟩ zs).length = (zs.map (·.length)).sum := by
  rw [← sg_len, sg_join0, List.length_flatten, List.map_map]
  exact congrArg List.sum (List.map_congr_left fun z _ => sg_len z)
theorem inB_a {S : Sto} {n : Nat} (s : Str) (zs : List Str) (h : S[n]? = some (.lst (zs.map IV.str))) : inB S (.str s) (.adr n) = some (decide (s ∈ zs)) := by
  have e : seqOf S (.adr n) = seqOf S (.lst (zs.map IV.str)) := by
    unfold seqOf tupOf lstOf
    simp only [h]
  have e2 : inB S (.str s) (.adr n) = inB S (.str s) (.lst (zs.map IV.str)) := by
    unfold inB
    simp only [e]
  rw [e2, inB_lst]
structure Pool (ps kept : List Str) : Prop where
  abc : ∀ p ∈ ps, Abc p
  len : ∀ p ∈ ps, 1 ≤ p.length ∧ p.length ≤ 5
  nk : ∀ p ∈ ps, p ∉ kept
  nd : ps.Nodup
def keptA : List Str := ["ahead", "all", "as", "at", "call", "class", "def", "end", "for", "from", "keep", "none", "often"]
def keptB : List Str := ["once", "or", "patch", "set", "stand", "start", "stop", "table", "test", "using", "with"]
def keptL : List Str := keptA ++ keptB
set_option maxHeartbeats 2000000
abbrev NR := Str × List Str
def toN : List (List Str) → List NR
  | [] => []
  | [] :: r => toN r
  | (h :: t) :: r => (h, t) :: toN r
def cutP (f : Str) (p : NR) : List Str := if p.1 = f then p.2 else p.1 :: p.2
def stepR (f : Str) (rs : List NR) : List NR := toN (rs.map (cutP f))
structure RsOk (rs : List NR) : Prop where
  n : rs.length ≤ 100000
  r : ∀ p ∈ rs, p.2.length ≤ 100000 ∧ okS p.1 ∧ ∀ s ∈ p.2, okS s
set_option maxHeartbeats 2000000
end Lw
set_option maxHeartbeats 4000000
namespace RD
open PySem PySem.Spec PyProof.Rows L2 Sm
def c_LETTERS : Str := "abcdefghijklmnopqrstuvwxyz"
def c_KEYWORDS : List Str := ["ahead", "all", "as", "at", "call", "class", "def", "either", "end", "for", "from", "\x69mport", "keep", "module", "none", "often", "once", "or", "outside", "patch", "set", "stand", "start", "stop", "table", "test", "using", "with"]
noncomputable def b_is_word : IS := (iSeq (iIf (iOr (iNot (iTru (iCa fIsi (iCons (iVar 0) (iCons (iC (.ty "str")) iNil))))) (iNot (iTest (iChain fLe fLe (iC (.int 1)) (iCa fLen (iCons (iVar 0) iNil)) (iC (.int 8)))))) (iRet (iC (.bl false))) iNext) (iSeq (iFor (iSrcS (iVar 0)) (iName 1) (iIf (iTest (iBin fNotIn (iVar 1) (iC (.str c_LETTERS)))) (iRet (iC (.bl false))) iNext)) (iRet (iC (.bl true)))))
noncomputable def m_is_word : List IV → Sto → Out IV := mDef 2 b_is_word
noncomputable def b_name_fits : IS := (iRet (iAndV (iCall 1 m_is_word (iCons (iVar 0) iNil)) (iBin fNotIn (iVar 0) (iC (.tup (c_KEYWORDS.map IV.str))))))
noncomputable def m_name_fits : List IV → Sto → Out IV := mDef 1 b_name_fits
noncomputable def b_read_step : IS := (iSeq (iIf (iTest (iBin fEq (iBin fIx (iVar 0) (iC (.int 0))) (iC (.str "[")))) (iSeq (iAsg (iBM "str" fPart (iSl false (iVar 0) (iPart (iC (.int 1))) iNoPart) (iCons (iC (.str "]")) iNil)) (iGTup 3 (iGCons (iName 1) (iGCons (iName 2) (iGCons (iName 3) iGNil))))) (iSeq (iIf (iOr (iTest (iBin fEq (iVar 2) (iC (.str "")))) (iNot (iTru (iCall 1 m_name_fits (iCons (iVar 1) iNil))))) (iRet (iC .non)) iNext) (iRet (iTup (iCons (iC (.str "[")) (iCons (iVar 1) (iCons (iVar 3) iNil))))))) iNext) (iSeq (iIf (iTest (iBin fNe (iBin fIx (iVar 0) (iC (.int 0))) (iC (.str ".")))) (iRet (iC .non)) iNext) (iSeq (iSet 4 (iC (.int 1))) (iSeq (iWhile (iAnd (iTest (iBin fLt (iVar 4) (iCa fLen (iCons (iVar 0) iNil)))) (iTest (iBin fIn (iBin fIx (iVar 0) (iVar 4)) (iC (.str c_LETTERS))))) (iAug 4 fAddI (iC (.int 1)))) (iSeq (iIf (iNot (iTru (iCall 1 m_name_fits (iCons (iSl false (iVar 0) (iPart (iC (.int 1))) (iPart (iVar 4))) iNil)))) (iRet (iC .non)) iNext) (iRet (iTup (iCons (iC (.str ".")) (iCons (iSl false (iVar 0) (iPart (iC (.int 1))) (iPart (iVar 4))) (iCons (iSl false (iVar 0) (iPart (iVar 4)) iNoPart) iNil))))))))))
noncomputable def m_read_step : List IV → Sto → Out IV := mDef 5 b_read_step
noncomputable def b_read_path : IS := (iSeq (iIf (iNot (iTru (iCa fIsi (iCons (iVar 0) (iCons (iC (.ty "str")) iNil))))) (iRet (iC .non)) iNext) (iSeq (iSet 1 (iC (.int 0))) (iSeq (iWhile (iAnd (iTest (iBin fLt (iVar 1) (iCa fLen (iCons (iVar 0) iNil)))) (iTest (iBin fIn (iBin fIx (iVar 0) (iVar 1)) (iC (.str c_LETTERS))))) (iAug 1 fAddI (iC (.int 1)))) (iSeq (iSet 2 (iSl false (iVar 0) iNoPart (iPart (iVar 1)))) (iSeq (iIf (iNot (iTru (iCall 1 m_name_fits (iCons (iVar 2) iNil)))) (iRet (iC .non)) iNext) (iSeq (iSet 3 (iLst true iNil)) (iSeq (iSet 4 (iSl false (iVar 0) (iPart (iVar 1)) iNoPart)) (iSeq (iWhile (iTest (iBin fNe (iVar 4) (iC (.str "")))) (iSeq (iSet 5 (iCall 1 m_read_step (iCons (iVar 4) iNil))) (iSeq (iIf (iOr (iTest (iBin gIsN (iVar 5) (iC .non))) (iTest (iBin fEq (iCa fLen (iCons (iVar 3) iNil)) (iC (.int 3))))) (iRet (iC .non)) iNext) (iSeq (iDrop (iBM "list" fApp (iVar 3) (iCons (iTup (iCons (iBin fIx (iVar 5) (iC (.int 0))) (iCons (iBin fIx (iVar 5) (iC (.int 1))) iNil))) iNil))) (iSet 4 (iBin fIx (iVar 5) (iC (.int 2)))))))) (iRet (iTup (iCons (iVar 0) (iCons (iVar 2) (iCons (iCa fTuple (iCons (iVar 3) iNil)) iNil)))))))))))))
noncomputable def m_read_path : List IV → Sto → Out IV := mDef 6 b_read_path
set_option maxHeartbeats 2000000
theorem szl : (sizeLine : Nat) = 16777216 := sizeLine_eq
def alpha : Str := "abcdefghijklmnopqrstuvwxyz"
def abc (s : Str) : Bool := (sg s).all (fun c => decide (c ∈ sg alpha))
def nameB (s : Str) : Bool := decide (1 ≤ s.length ∧ s.length ≤ 8) && abc s && !decide (s ∈ c_KEYWORDS)
def wordB : IS := iIf (iTest (iBin fNotIn (iVar 1) (iC (.str c_LETTERS)))) (iRet (iC (.bl false))) iNext
theorem word_step {S : Sto} {x : IV} {c : Nat} : wordB [some x, some (.str ⟨#[c]⟩)] S = if c ∈ sg alpha then .ok (.nx [some x, some (.str ⟨#[c]⟩)]) S else .ok (.rt (.bl false)) S := by
  have hi : inB S (.str ⟨#[c]⟩) (.str c_LETTERS) = some (decide (c ∈ sg alpha)) := rfl
  unfold wordB
  by_cases h : c ∈ sg alpha
  · rw [if_pos h]; simp [iVar_s, hi, h]
  · rw [if_neg h]; simp [iVar_s, hi, h]
theorem word_t {S : Sto} {all : List IV} {x : IV} : ∀ (cs : List Nat) (u : Option IV), (∀ c ∈ cs, c ∈ sg alpha) → ∃ u', iIter ⟨all, none⟩ (iName 1) wordB (cs.map fun c => .str ⟨#[c]⟩) [some x, u] S = .ok (.nx [some x, u']) S
  | [], u, _ => ⟨u, by unfold iIter; exact chkP_pos (stay_none _ _)⟩
  | c :: cs, u, h => by
    obtain ⟨u', e⟩ := word_t cs (some (.str ⟨#[c]⟩)) fun d hd => h d (List.mem_cons_of_mem _ hd)
    refine ⟨u', ?_⟩
    rw [List.map_cons]
    unfold iIter
    rw [chkP_pos (stay_none _ _)]
    simp only [iName_e, Out.bind_ok, List.set_cons_succ, List.set_cons_zero]
    rw [word_step, if_pos (h c List.mem_cons_self)]
    exact e
theorem word_f {S : Sto} {all : List IV} {x : IV} : ∀ (cs : List Nat) (u : Option IV), ¬ (∀ c ∈ cs, c ∈ sg alpha) → iIter ⟨all, none⟩ (iName 1) wordB (cs.map fun c => .str ⟨#[c]⟩) [some x, u] S = .ok (.rt (.bl false)) S
  | [], u, h => absurd (fun _ z => by cases z) h
  | c :: cs, u, h => by
    rw [List.map_cons]
    unfold iIter
    rw [chkP_pos (stay_none _ _)]
    simp only [iName_e, Out.bind_ok, List.set_cons_succ, List.set_cons_zero]
    rw [word_step]
    by_cases hc : c ∈ sg alpha
    · rw [if_pos hc]
      exact word_f cs (some (.str ⟨#[c]⟩)) fun q => h fun d hd => (List.mem_cons.mp hd).elim (fun e => e ▸ hc) (q d)
    · rw [if_neg hc]
      rfl
theorem abc_iff {s : Str} : abc s = true ↔ ∀ c ∈ sg s, c ∈ sg alpha := by
  unfold abc
  rw [List.all_eq_true]
  exact ⟨fun h c hc => of_decide_eq_true (h c hc), fun h c hc => decide_eq_true (h c hc)⟩
theorem is_word_ok {S : Sto} {s : Str} (hs : s.length ≤ 1000000) : m_is_word [.str s] S = .ok (.bl (decide (1 ≤ s.length ∧ s.length ≤ 8) && abc s)) S := by
  unfold m_is_word
  refine mDef_rt ?_
  have q0 : s.length ≤ sizeLine := by rw [szl]; omega
  have k1 : kitN "str" "str" = some true := by decide +kernel
  show (iSeq _ (iSeq (iFor (iSrcS (iVar 0)) (iName 1) wordB) (iRet (iC (.bl true)))) : IS) _ _ = _
  by_cases h1 : 1 ≤ s.length
  · have g1 : (1 : Int) ≤ s.length := by omega
    by_cases h2 : s.length ≤ 8
    · have g2 : (s.length : Int) ≤ 8 := by omega
      by_cases h3 : abc s = true
      · obtain ⟨u', e⟩ := word_t (S := S) (all := (sg s).map fun c => .str ⟨#[c]⟩) (x := .str s) (sg s) none (abc_iff.mp h3)
        simp [iVar_s, q0, k1, g1, g2, h1, h2, h3, e]
      · have e := word_f (S := S) (all := (sg s).map fun c => .str ⟨#[c]⟩) (x := .str s) (sg s) none (fun z => h3 (abc_iff.mpr z))
        simp [iVar_s, q0, k1, g1, g2, h1, h2, h3, e]
    · have g2 : ¬ (s.length : Int) ≤ 8 := by omega
      simp [iVar_s, q0, k1, g1, g2, h1, h2]
  · have g1 : ¬ (1 : Int) ≤ s.length := by omega
    simp [iVar_s, q0, k1, g1, h1]
theorem fits_ok {S : Sto} {s : Str} (hs : s.length ≤ 1000000) : m_name_fits [.str s] S = .ok (.bl (nameB s)) S := by
  unfold m_name_fits
  refine mDef_rt ?_
  unfold b_name_fits
  simp [iVar_s, is_word_ok hs, chk_pos, inB_tup, nameB]
  by_cases q : (1 ≤ s.length ∧ s.length ≤ 8) ∧ abc s = true
  · simp [q.1, q.2]
  · simp [q]
section
variable {B : Sto} {r : Nat} {L : List Str} {S : Sto} {q : RQ}
@[simp] theorem iUn_fld {C f : Str} {m : IE} {Λ : Slots} : iUn (fFld C f) m Λ S = (m Λ S).bind fun x S1 => fFld C f x S1 := rfl
end
set_option maxHeartbeats 2000000
section
variable {B : Sto} {r : Nat} {L : List Str} {S : Sto} {q : RQ}
@[simp] theorem fNeg_i (i : Int) : fNeg (.int i) S = .ok (.int (-i)) S := rfl
theorem hasTy_a {n : Nat} {xs : List IV} (h : S[n]? = some (.lst xs)) : hasTy "list" S (.adr n) = true := by
  unfold hasTy lstOf
  simp only [h]
  rfl
theorem app_s {n : Nat} {xs : List IV} {v : IV} (h : S[n]? = some (.lst xs)) (hl : xs.length < sizeLine) : fApp (.adr n) [v] S = .ok .non (S.set n (.lst (xs ++ [v]))) := by
  unfold fApp
  rw [a1_1, onL_s h, chk_pos hl]
end
set_option maxHeartbeats 2000000
section
variable {B : Sto} {c : IT} {b : IS} {Λ L : Slots} {S S1 S2 : Sto} {o : Out Fl}
theorem iWhile_ex (h : iWhile c b Λ S = o) (hn : o ≠ .bad) : ∃ n, iWh c b n Λ S = o := by
  unfold iWhile at h
  split at h
  · exact ⟨_, h⟩
  · exact absurd h.symm hn
theorem iWhile_f (hc : c Λ S = .ok false S1) : iWhile c b Λ S = .ok (.nx Λ) S1 := iWhile_of (n := 1) (by unfold iWh; rw [hc]; rfl) (by simp)
theorem iWhile_t (hc : c Λ S = .ok true S1) (hb : b Λ S1 = .ok (.nx L) S2) (h : iWhile c b L S2 = o) (hn : o ≠ .bad) : iWhile c b Λ S = o := by
  obtain ⟨n, e⟩ := iWhile_ex h hn
  refine iWhile_of (n := n + 1) ?_ hn
  unfold iWh
  rw [hc, Out.bind_ok, if_pos rfl, hb, Out.bind_ok]
  exact e
theorem iWhile_r {v : IV} (hc : c Λ S = .ok true S1) (hb : b Λ S1 = .ok (.rt v) S2) : iWhile c b Λ S = .ok (.rt v) S2 := iWhile_of (n := 1) (by unfold iWh; rw [hc, Out.bind_ok, if_pos rfl, hb]; rfl) (by simp)
end
def isL (c : Nat) : Bool := decide (c ∈ sg alpha)
def lets (cs : List Nat) : Nat := (cs.takeWhile isL).length
theorem lets_le (cs : List Nat) : lets cs ≤ cs.length := (List.takeWhile_sublist _).length_le
def letT (j : Nat) : IT := iAnd (iTest (iBin fLt (iVar j) (iCa fLen (iCons (iVar 0) iNil)))) (iTest (iBin fIn (iBin fIx (iVar 0) (iVar j)) (iC (.str c_LETTERS))))
def letB (j : Nat) : IS := iAug j fAddI (iC (.int 1))
theorem lt_get {xs : Slots} {i : Nat} {x : Option IV} (h : xs[i]? = some x) : i < xs.length := (List.getElem?_eq_some_iff.mp h).1
theorem letters_while {s : Str} {j : Nat} (hj : j ≠ 0) (hs : s.length ≤ 1000000) {S : Sto} : ∀ (cs : List Nat) (k : Nat) (Λ : Slots), (sg s).drop k = cs → Λ[0]? = some (some (.str s)) → Λ[j]? = some (some (.int k)) →
    iWhile (letT j) (letB j) Λ S = .ok (.nx (Λ.set j (some (.int ((k + lets cs : Nat) : Int))))) S
  | [], k, Λ, hd, h0, hj' => by
    have hk : s.length ≤ k := by
      have := congrArg List.length hd
      rw [List.length_drop, sg_len] at this
      simp at this
      omega
    have q0 : s.length ≤ sizeLine := by rw [szl]; omega
    have e1 : ¬ ((k : Int) < (s.length : Int)) := by omega
    have e : letT j Λ S = .ok false S := by
      unfold letT
      simp [iVar_s h0, iVar_s hj', q0, e1]
    rw [iWhile_f e]
    have : Λ.set j (some (.int ((k + lets [] : Nat) : Int))) = Λ := by
      refine List.ext_getElem? fun i => ?_
      by_cases hi : i = j
      · subst hi
        rw [List.getElem?_set_self (lt_get hj'), hj']
        rfl
      · rw [List.getElem?_set_ne (Ne.symm hi)]
    rw [this]
  | c :: cs, k, Λ, hd, h0, hj' => by
    have hk : k < s.length := by
      have := congrArg List.length hd
      rw [List.length_drop, sg_len] at this
      simp at this
      omega
    have q0 : s.length ≤ sizeLine := by rw [szl]; omega
    have hc : (sg s)[k]? = some c := by
      have := congrArg (fun l => l[0]?) hd
      simpa using this
    have e1 : (k : Int) < (s.length : Int) := by omega
    have e2 : atI (sg s) (k : Int) = some c := atI_n hc
    have e2' : atI s.cps.toList (k : Int) = some c := e2
    have hi : inB S (.str ⟨#[c]⟩) (.str c_LETTERS) = some (isL c) := rfl
    have e : letT j Λ S = .ok (isL c) S := by
      unfold letT
      simp [iVar_s h0, iVar_s hj', q0, e1, e2', chk_pos, hi]
    cases hl : isL c with
    | false =>
      rw [hl] at e
      rw [iWhile_f e]
      have hz : lets (c :: cs) = 0 := by unfold lets; rw [List.takeWhile_cons, hl]; rfl
      have : Λ.set j (some (.int ((k + lets (c :: cs) : Nat) : Int))) = Λ := by
        rw [hz]
        refine List.ext_getElem? fun i => ?_
        by_cases hi : i = j
        · subst hi
          rw [List.getElem?_set_self (lt_get hj'), hj']
          rfl
        · rw [List.getElem?_set_ne (Ne.symm hi)]
      rw [this]
    | true =>
      rw [hl] at e
      have hz : lets (c :: cs) = lets cs + 1 := by unfold lets; rw [List.takeWhile_cons, hl]; simp
      have hb : letB j Λ S = .ok (.nx (Λ.set j (some (.int ((k + 1 : Nat) : Int))))) S := by
        unfold letB iAug
        rw [iVar_s hj']
        simp [fAddI]
      have ih := letters_while hj hs (S := S) cs (k + 1) (Λ.set j (some (.int ((k + 1 : Nat) : Int)))) (by
        have : (sg s).drop (k + 1) = ((sg s).drop k).drop 1 := by rw [List.drop_drop]
        rw [this, hd]; rfl) (by rw [List.getElem?_set_ne hj]; exact h0) (List.getElem?_set_self (lt_get hj'))
      rw [List.set_set] at ih
      rw [iWhile_t e hb ih (by simp), hz]
      rw [show k + 1 + lets cs = k + (lets cs + 1) by omega]
def stepP (s : Str) : Option (Str × Str × Str) := match sg s with
  | [] => none
  | c :: cs => if c = 91 then (if (Txt.partition (cutS s (some 1) none) "]").2.1 = "" ∨ nameB (Txt.partition (cutS s (some 1) none) "]").1 = false then none else some ("[", (Txt.partition (cutS s (some 1) none) "]").1, (Txt.partition (cutS s (some 1) none) "]").2.2))
    else if c = 46 then (if nameB (cutS s (some 1) (some ((1 + lets cs : Nat) : Int))) = true then some (".", cutS s (some 1) (some ((1 + lets cs : Nat) : Int)), cutS s (some ((1 + lets cs : Nat) : Int)) none) else none)
    else none
def ivStep (o : Option (Str × Str × Str)) : IV := match o with
  | none => .non
  | some (a, b, c) => .tup [.str a, .str b, .str c]
theorem one_inj {c d : Nat} (h : (⟨#[c]⟩ : Str) = ⟨#[d]⟩) : c = d := by
  have := congrArg sg h
  simpa [sg] using this
theorem part_len (s y : Str) : (Txt.partition s y).1.length ≤ s.length ∧ (Txt.partition s y).2.2.length ≤ s.length := by
  unfold Txt.partition
  split
  · exact ⟨le_strSub _ _ _, le_strSub _ _ _⟩
  · exact ⟨Nat.le_refl _, Nat.zero_le _⟩
theorem one_eq (c d : Nat) (y : Str) (h : y = ⟨#[d]⟩) : ((⟨#[c]⟩ : Str) = y) = (c = d) := by
  subst h
  exact propext ⟨one_inj, fun e => by rw [e]⟩
@[simp] theorem tupOf_t (xs : List IV) : tupOf (.tup xs) = some xs := rfl
@[simp] theorem iGTup_e (n : Nat) (g : IGs) (v : IV) (Λ : Slots) (S : Sto) : iGTup n g v Λ S = orBad (tupOf v) fun xs => chk (xs.length = n) (g xs Λ S) := rfl
@[simp] theorem iGCons_e (g : IG) (r : IGs) (x : IV) (xs : List IV) (Λ : Slots) (S : Sto) : iGCons g r (x :: xs) Λ S = (g x Λ S).bind fun L S1 => r xs L S1 := rfl
@[simp] theorem iGNil_e (Λ : Slots) (S : Sto) : iGNil [] Λ S = .ok Λ S := rfl
theorem read_step_ok {S : Sto} {s : Str} (hs : s.length ≤ 1000000) (h0 : 0 < s.length) : m_read_step [.str s] S = .ok (ivStep (stepP s)) S := by
  unfold m_read_step
  refine mDef_rt ?_
  have q0 : s.length ≤ sizeLine := by rw [szl]; omega
  cases hc : sg s with
  | nil => have := sg_len s; rw [hc] at this; simp at this; omega
  | cons c cs =>
    have e0 : fIx (.str s) (.int 0) S = .ok (.str ⟨#[c]⟩) S := by
      have : s.cps.toList = c :: cs := hc
      rw [fIx_s, chk_pos q0, this]; simp
    have oL := one_eq c 91 "[" (by decide +kernel)
    have oD := one_eq c 46 "." (by decide +kernel)
    have eR : ((("]" : Str).length == 0) = false) := by decide +kernel
    have q1 : (cutS s (some 1) none).length ≤ 1000000 := Nat.le_trans (len_cut _ _ _) hs
    have q2 : (cutS s (some 1) none).length ≤ sizeLine := by rw [szl]; omega
    have q3 := part_len (cutS s (some 1) none) "]"
    have three : (3 : Nat) ≤ sizeLine := by rw [szl]; omega
    have eP : fPart (.str (cutS s (some 1) none)) [.str "]"] S = .ok (.tup [.str (Txt.partition (cutS s (some 1) none) "]").1, .str (Txt.partition (cutS s (some 1) none) "]").2.1, .str (Txt.partition (cutS s (some 1) none) "]").2.2]) S := by
      show chk _ _ = _
      rw [chk_pos ⟨eR, q2⟩]
    have eT : hasTy "str" S (.str (cutS s (some 1) none)) = true := rfl
    unfold stepP
    rw [hc]
    simp only []
    by_cases h1 : c = 91
    · have dL : (⟨#[c]⟩ : Str) = "[" := by rw [oL]; exact h1
      rw [dL] at e0
      have eF := fits_ok (S := S) (s := (Txt.partition (cutS s (some 1) none) "]").1) (by omega)
      rw [if_pos h1]
      by_cases h2 : (Txt.partition (cutS s (some 1) none) "]").2.1 = ""
      · rw [if_pos (.inl h2)]
        unfold b_read_step
        simp [iVar_s, q0, e0, chk_pos, eT, eP, h2, ivStep]
      · cases h3 : nameB (Txt.partition (cutS s (some 1) none) "]").1 with
        | false =>
          rw [if_pos (.inr rfl)]
          unfold b_read_step
          simp [iVar_s, q0, e0, chk_pos, eT, eP, h2, ivStep, eF, h3]
        | true =>
          rw [if_neg (by simp [h2])]
          unfold b_read_step
          simp [iVar_s, q0, e0, chk_pos, eT, eP, h2, ivStep, eF, h3, three]
    · have dL : ¬ (⟨#[c]⟩ : Str) = "[" := by rw [oL]; exact h1
      rw [if_neg h1]
      by_cases h2 : c = 46
      · have dD : (⟨#[c]⟩ : Str) = "." := by rw [oD]; exact h2
        have dLD : ¬ ("." : Str) = "[" := by decide +kernel
        rw [dD] at e0
        rw [if_pos h2]
        have eW := letters_while (s := s) (j := 4) (by decide) hs (S := S) cs 1 [some (.str s), none, none, none, some (.int 1)] (by rw [hc]; rfl) rfl rfl
        have eW' : iWhile (iAnd (iTest (iBin fLt (iVar 4) (iCa fLen (iCons (iVar 0) iNil)))) (iTest (iBin fIn (iBin fIx (iVar 0) (iVar 4)) (iC (.str c_LETTERS))))) (iAug 4 fAddI (iC (.int 1))) [some (.str s), none, none, none, some (.int 1)] S = .ok (.nx [some (.str s), none, none, none, some (.int ((1 + lets cs : Nat) : Int))]) S := eW
        have eF := fits_ok (S := S) (s := cutS s (some 1) (some ((1 + lets cs : Nat) : Int))) (Nat.le_trans (len_cut _ _ _) hs)
        generalize ((1 + lets cs : Nat) : Int) = k at *
        cases h3 : nameB (cutS s (some 1) (some k)) with
        | false =>
          rw [if_neg Bool.false_ne_true]
          unfold b_read_step
          simp [iVar_s, q0, e0, chk_pos, dLD, ivStep, eW', eF, h3]
        | true =>
          rw [if_pos rfl]
          unfold b_read_step
          simp [iVar_s, q0, e0, chk_pos, dLD, ivStep, eW', eF, h3, three]
      · have dD : ¬ (⟨#[c]⟩ : Str) = "." := by rw [oD]; exact h2
        rw [if_neg h2]
        unfold b_read_step
        simp [iVar_s, q0, e0, chk_pos, dL, dD, ivStep]
set_option maxHeartbeats 2000000
theorem eq_empty {s : Str} (h : s.length = 0) : s = "" := by
  rw [empty_eq]
  refine sg_inj ?_
  have := sg_len s
  rw [h] at this
  rw [List.length_eq_zero_iff.mp this]
  try rfl
theorem len_pos {s : Str} (h : s ≠ "") : 0 < s.length := Nat.pos_of_ne_zero fun e => h (eq_empty e)
theorem stepP_len {s a b r : Str} (h : stepP s = some (a, b, r)) : r.length ≤ s.length := by
  unfold stepP at h
  split at h
  · cases h
  · split at h
    · split at h
      · cases h
      · cases h
        exact Nat.le_trans (part_len _ _).2 (len_cut _ _ _)
    · split at h
      · split at h
        · cases h
          exact len_cut _ _ _
        · cases h
      · cases h
def stepsP : Nat → Str → List (Str × Str) → Option (List (Str × Str))
  | 0, _, _ => none
  | n + 1, rest, acc => if rest = "" then some acc else match stepP rest with
    | none => none
    | some (a, b, r) => if acc.length = 3 then none else stepsP n r (acc ++ [(a, b)])
def pathP (s : Str) : Option (Str × List (Str × Str)) :=
  if nameB (cutS s none (some (lets (sg s) : Int))) = true then (stepsP 5 (cutS s (some (lets (sg s) : Int)) none) []).map fun st => (cutS s none (some (lets (sg s) : Int)), st) else none
def ivSt (p : Str × Str) : IV := .tup [.str p.1, .str p.2]
def ivPath (s : Str) : Option (Str × List (Str × Str)) → IV
  | none => .non
  | some (hd, st) => .tup [.str s, .str hd, .tup (st.map ivSt)]
noncomputable def pathT : IT := iTest (iBin fNe (iVar 4) (iC (.str "")))
noncomputable def pathB : IS := iSeq (iSet 5 (iCall 1 m_read_step (iCons (iVar 4) iNil))) (iSeq (iIf (iOr (iTest (iBin gIsN (iVar 5) (iC .non))) (iTest (iBin fEq (iCa fLen (iCons (iVar 3) iNil)) (iC (.int 3))))) (iRet (iC .non)) iNext) (iSeq (iDrop (iBM "list" fApp (iVar 3) (iCons (iTup (iCons (iBin fIx (iVar 5) (iC (.int 0))) (iCons (iBin fIx (iVar 5) (iC (.int 1))) iNil))) iNil))) (iSet 4 (iBin fIx (iVar 5) (iC (.int 2))))))
theorem lenN_a {S : Sto} {n : Nat} {xs : List IV} (h : S[n]? = some (.lst xs)) : lenN S (.adr n) = some xs.length := by
  unfold lenN seqOf tupOf lstOf
  simp only [h]
  rfl
theorem steps_while {S0 : Sto} {s hd : IV} {k : IV} : ∀ (n : Nat) (rest : Str) (acc : List (Str × Str)) (x : Option IV), acc.length ≤ 3 → 5 ≤ n + acc.length → rest.length ≤ 1000000 →
    (∀ st, stepsP n rest acc = some st → ∃ x', iWhile pathT pathB [some s, some k, some hd, some (.adr S0.length), some (.str rest), x] (S0 ++ [.lst (acc.map ivSt)]) = .ok (.nx [some s, some k, some hd, some (.adr S0.length), some (.str ""), x']) (S0 ++ [.lst (st.map ivSt)])) ∧
    (stepsP n rest acc = none → ∃ T, iWhile pathT pathB [some s, some k, some hd, some (.adr S0.length), some (.str rest), x] (S0 ++ [.lst (acc.map ivSt)]) = .ok (.rt .non) (S0 ++ T))
  | 0, rest, acc, x, h1, h2, h3 => by omega
  | n + 1, rest, acc, x, h1, h2, h3 => by
    by_cases hr : rest = ""
    · have e : pathT [some s, some k, some hd, some (.adr S0.length), some (.str rest), x] (S0 ++ [.lst (acc.map ivSt)]) = .ok false (S0 ++ [.lst (acc.map ivSt)]) := by
        unfold pathT
        simp [iVar_s, hr]
      refine ⟨fun st he => ⟨x, ?_⟩, fun he => ?_⟩
      · rw [iWhile_f e, hr]
        unfold stepsP at he
        rw [if_pos hr] at he
        cases he
        rfl
      · unfold stepsP at he
        rw [if_pos hr] at he
        cases he
    · have e : pathT [some s, some k, some hd, some (.adr S0.length), some (.str rest), x] (S0 ++ [.lst (acc.map ivSt)]) = .ok true (S0 ++ [.lst (acc.map ivSt)]) := by
        unfold pathT
        simp [iVar_s, hr]
      have ec : (S0 ++ [Cell.lst (acc.map ivSt)])[S0.length]? = some (.lst (acc.map ivSt)) := by simp
      have es := read_step_ok (S := S0 ++ [.lst (acc.map ivSt)]) h3 (len_pos hr)
      have two : (2 : Nat) ≤ sizeLine := by rw [szl]; omega
      have hty := hasTy_a ec
      cases hp : stepP rest with
      | none =>
        have eb : pathB [some s, some k, some hd, some (.adr S0.length), some (.str rest), x] (S0 ++ [.lst (acc.map ivSt)]) = .ok (.rt .non) (S0 ++ [.lst (acc.map ivSt)]) := by
          unfold pathB
          rw [hp] at es
          simp [iVar_s, es, chk_pos, ivStep, isN]
        refine ⟨fun st he => ?_, fun _ => ⟨_, iWhile_r e eb⟩⟩
        unfold stepsP at he
        rw [if_neg hr, hp] at he
        cases he
      | some t =>
        obtain ⟨a, b, r⟩ := t
        have hlen := stepP_len hp
        by_cases h4 : acc.length = 3
        · have eb : pathB [some s, some k, some hd, some (.adr S0.length), some (.str rest), x] (S0 ++ [.lst (acc.map ivSt)]) = .ok (.rt .non) (S0 ++ [.lst (acc.map ivSt)]) := by
            unfold pathB
            rw [hp] at es
            simp [iVar_s, es, chk_pos, ivStep, isN, lenN_a ec, h4]
          refine ⟨fun st he => ?_, fun _ => ⟨_, iWhile_r e eb⟩⟩
          unfold stepsP at he
          rw [if_neg hr, hp] at he
          simp only [if_pos h4] at he
          cases he
        · have h5 : ¬ ((acc.length : Int) = 3) := by omega
          have h6 : (acc.map ivSt).length < sizeLine := by rw [List.length_map, szl]; omega
          have eb : pathB [some s, some k, some hd, some (.adr S0.length), some (.str rest), x] (S0 ++ [.lst (acc.map ivSt)]) = .ok (.nx [some s, some k, some hd, some (.adr S0.length), some (.str r), some (ivStep (some (a, b, r)))]) (S0 ++ [.lst ((acc ++ [(a, b)]).map ivSt)]) := by
            unfold pathB
            rw [hp] at es
            simp [iVar_s, es, chk_pos, ivStep, isN, lenN_a ec, h5, two, hty, app_s ec h6, ivSt]
          have ih := steps_while (S0 := S0) (s := s) (hd := hd) (k := k) n r (acc ++ [(a, b)]) (some (ivStep (some (a, b, r)))) (by simp; omega) (by simp; omega) (by omega)
          have hs : stepsP (n + 1) rest acc = stepsP n r (acc ++ [(a, b)]) := by
            show (if rest = "" then some acc else match stepP rest with
              | none => none
              | some (a, b, r) => if acc.length = 3 then none else stepsP n r (acc ++ [(a, b)])) = _
            rw [if_neg hr, hp]
            exact if_neg h4
          rw [hs]
          refine ⟨fun st he => ?_, fun he => ?_⟩
          · obtain ⟨x', e'⟩ := ih.1 st he
            exact ⟨x', iWhile_t e eb e' (by simp)⟩
          · obtain ⟨T, e'⟩ := ih.2 he
            exact ⟨T, iWhile_t e eb e' (by simp)⟩
theorem stepsP_len : ∀ (n : Nat) (rest : Str) (acc st : List (Str × Str)), acc.length ≤ 3 → stepsP n rest acc = some st → st.length ≤ 3
  | 0, _, _, _, _, h => by cases h
  | n + 1, rest, acc, st, h1, h => by
    unfold stepsP at h
    split at h
    · cases h; exact h1
    · split at h
      · cases h
      · split at h
        · cases h
        · exact stepsP_len n _ _ st (by simp; omega) h
theorem read_path_ok {S : Sto} {s : Str} (hs : s.length ≤ 1000000) : ∃ T, m_read_path [.str s] S = .ok (ivPath s (pathP s)) (S ++ T) := by
  unfold m_read_path
  have q0 : s.length ≤ sizeLine := by rw [szl]; omega
  have k1 : kitN "str" "str" = some true := by decide +kernel
  have three : (3 : Nat) ≤ sizeLine := by rw [szl]; omega
  have zero : (0 : Nat) ≤ sizeLine := Nat.zero_le _
  have eW := letters_while (s := s) (j := 1) (by decide) hs (S := S) (sg s) 0 [some (.str s), some (.int 0), none, none, none, none] rfl rfl rfl
  have eW' : iWhile (iAnd (iTest (iBin fLt (iVar 1) (iCa fLen (iCons (iVar 0) iNil)))) (iTest (iBin fIn (iBin fIx (iVar 0) (iVar 1)) (iC (.str c_LETTERS))))) (iAug 1 fAddI (iC (.int 1))) [some (.str s), some (.int 0), none, none, none, none] S = .ok (.nx [some (.str s), some (.int (lets (sg s) : Int)), none, none, none, none]) S := by
    have := eW
    rw [Nat.zero_add] at this
    exact this
  unfold pathP
  generalize (lets (sg s) : Int) = k at *
  have eF := fits_ok (S := S) (s := cutS s none (some k)) (Nat.le_trans (len_cut _ _ _) hs)
  have lr : (cutS s (some k) none).length ≤ 1000000 := Nat.le_trans (len_cut _ _ _) hs
  cases h3 : nameB (cutS s none (some k)) with
  | false =>
    rw [if_neg Bool.false_ne_true]
    refine ⟨[], mDef_rt ?_⟩
    unfold b_read_path
    simp [iVar_s, q0, chk_pos, k1, eW', eF, h3, ivPath]
  | true =>
    rw [if_pos rfl]
    obtain ⟨g1, g2⟩ := steps_while (S0 := S) (s := .str s) (hd := .str (cutS s none (some k))) (k := .int k) 5 (cutS s (some k) none) [] none (by simp) (by simp) lr
    cases h4 : stepsP 5 (cutS s (some k) none) [] with
    | none =>
      obtain ⟨T, e⟩ := g2 h4
      refine ⟨T, mDef_rt ?_⟩
      unfold pathT pathB at e
      unfold b_read_path
      simp [iVar_s, q0, chk_pos, k1, eW', eF, h3, ivPath]
      simp only [List.map_nil] at e
      rw [e]
      simp
    | some st =>
      obtain ⟨x', e⟩ := g1 st h4
      have hl := stepsP_len 5 _ _ st (by simp) h4
      refine ⟨[.lst (st.map ivSt)], mDef_rt ?_⟩
      have ec : (S ++ [Cell.lst (st.map ivSt)])[S.length]? = some (.lst (st.map ivSt)) := by simp
      have et : fTuple [.adr S.length] (S ++ [Cell.lst (st.map ivSt)]) = .ok (.tup (st.map ivSt)) (S ++ [Cell.lst (st.map ivSt)]) := by
        unfold fTuple lstX
        simp only [a1_1, ec]
        show mkT _ _ = _
        rw [mkT_e, chk_pos (by rw [List.length_map, szl]; omega)]
      unfold pathT pathB at e
      unfold b_read_path
      simp [iVar_s, q0, chk_pos, k1, eW', eF, h3, ivPath]
      simp only [List.map_nil] at e
      rw [e]
      simp [iVar_s, et, three, chk_pos]
set_option maxHeartbeats 2000000
set_option maxHeartbeats 4000000
set_option maxHeartbeats 2000000
theorem app_as (a b c : Str) : (a ++ b) ++ c = a ++ (b ++ c) := sg_inj (by rw [sg_app, sg_app, sg_app, sg_app, List.append_assoc])
set_option maxHeartbeats 2000000
end RD
set_option maxHeartbeats 1000000
namespace Sm
open PySem PySem.Spec PyProof.Rows L2
def Wp {α : Type} (o : Out α) (Q : α → Sto → Prop) : Prop := ∃ a S, o = .ok a S ∧ Q a S
structure Chk (p q : Prop) : Prop where
  l : p
  r : q
section
variable {α β : Type} {S S1 : Sto} {Λ Λ1 : Slots}
theorem Wp.ok {a : α} {Q : α → Sto → Prop} (q : Q a S) : Wp (.ok a S) Q := ⟨a, S, rfl, q⟩
theorem Wp.of {o : Out α} {a : α} {Q : α → Sto → Prop} (e : o = .ok a S) (q : Q a S) : Wp o Q := ⟨a, S, e, q⟩
theorem Wp.bind {o : Out α} {k : α → Sto → Out β} {Q : β → Sto → Prop} (h : Wp o fun a S => Wp (k a S) Q) : Wp (o.bind k) Q := by
  obtain ⟨a, S, rfl, h⟩ := h
  exact h
theorem Wp.imp {o : Out α} {P Q : α → Sto → Prop} (h : Wp o P) (f : ∀ a S, P a S → Q a S) : Wp o Q := by
  obtain ⟨a, S, e, h⟩ := h
  exact ⟨a, S, e, f a S h⟩
theorem wp_chk {p : Prop} [Decidable p] {o : Out α} {Q : α → Sto → Prop} (h : Chk p (Wp o Q)) : Wp (chk p o) Q := by rw [chk_pos h.l]; exact h.r
theorem wp_orBad {o : Option β} {b : β} {k : β → Out α} {Q : α → Sto → Prop} (e : o = some b) (h : Wp (k b) Q) : Wp (orBad o k) Q := by rw [e]; exact h
section
variable {Q : IV → Sto → Prop} {a b c d : IE} {f g : IV → IV → Sto → Out IV} {ma : IA}
theorem wp_var {i : Nat} {x : IV} (h : Λ[i]? = some (some x)) (q : Q x S) : Wp (iVar i Λ S) Q := .of (iVar_s h) q
theorem wp_c {x : IV} (q : Q x S) : Wp (iC x Λ S) Q := .ok q
theorem wp_bin (h : Wp (a Λ S) fun x S1 => Wp (b Λ S1) fun y S2 => Wp (f x y S2) Q) : Wp (iBin f a b Λ S) Q := .bind (h.imp fun _ _ h => .bind h)
theorem wp_un {f : IV → Sto → Out IV} (h : Wp (a Λ S) fun x S1 => Wp (f x S1) Q) : Wp (iUn f a Λ S) Q := .bind h
theorem wp_ca {f : List IV → Sto → Out IV} (h : Wp (ma Λ S) fun x S1 => Wp (f x S1) Q) : Wp (iCa f ma Λ S) Q := .bind h
theorem wp_nil {Q : List IV → Sto → Prop} (q : Q [] S) : Wp (iNil Λ S) Q := .ok q
theorem wp_cons {Q : List IV → Sto → Prop} (h : Wp (a Λ S) fun x S1 => Wp (ma Λ S1) fun xs S2 => Q (x :: xs) S2) : Wp (iCons a ma Λ S) Q := .bind (h.imp fun _ _ h => .bind (h.imp fun _ _ q => .ok q))
theorem wp_lst {cell : Bool} (h : Wp (ma Λ S) fun x S1 => Wp (mkL cell x S1) Q) : Wp (iLst cell ma Λ S) Q := .bind h
theorem wp_tup (h : Wp (ma Λ S) fun x S1 => Wp (mkT x S1) Q) : Wp (iTup ma Λ S) Q := .bind h
theorem wp_call {np : Nat} {mf : List IV → Sto → Out IV} (h : Wp (ma Λ S) fun xs S1 => Chk (xs.length = np) (Wp (mf xs S1) Q)) : Wp (iCall np mf ma Λ S) Q := .bind (h.imp fun xs S1 h => by
  obtain ⟨e, v, S2, e2, q⟩ := h
  rw [chk_pos e, e2]
  exact .ok q)
theorem wp_bm {T : String} {f : IV → List IV → Sto → Out IV} (h : Wp (a Λ S) fun o S1 => Chk (hasTy T S1 o = true) (Wp (ma Λ S1) fun xs S2 => Wp (f o xs S2) Q)) : Wp (iBM T f a ma Λ S) Q := .bind (h.imp fun _ _ h => wp_chk ⟨h.l, .bind h.r⟩)
theorem wp_asI {k : Int → Out α} {Q : α → Sto → Prop} {i : Int} (q : Wp (k i) Q) : Wp (asI (.int i) k) Q := q
end
section
variable {Q : Bool → Sto → Prop} {m : IE} {c d : IT}
theorem wp_test (h : Wp (m Λ S) fun x S1 => ∃ b : Bool, x = .bl b ∧ Q b S1) : Wp (iTest m Λ S) Q := .bind (h.imp fun _ _ ⟨b, e, q⟩ => by rw [e]; exact .ok q)
theorem wp_tru (h : Wp (m Λ S) fun x S1 => ∃ b : Bool, truB S1 x = some b ∧ Q b S1) : Wp (iTru m Λ S) Q := .bind (h.imp fun _ _ ⟨b, e, q⟩ => wp_orBad e (.ok q))
theorem ex_bl {b : Bool} {P : Bool → Prop} (q : P b) : ∃ b' : Bool, IV.bl b = .bl b' ∧ P b' := ⟨b, rfl, q⟩
theorem wp_or (h : Wp (c Λ S) fun b S1 => (b = true → Q true S1) ∧ (b = false → Wp (d Λ S1) Q)) : Wp (iOr c d Λ S) Q := .bind (h.imp fun b S1 h => by
  cases b with
  | true => exact .ok (h.1 rfl)
  | false => exact h.2 rfl)
theorem wp_not (h : Wp (c Λ S) fun b S1 => Q (!b) S1) : Wp (iNot c Λ S) Q := .bind (h.imp fun _ _ q => .ok q)
theorem wp_if {Q : α → Sto → Prop} {a b : Slots → Sto → Out α} (h : Wp (c Λ S) fun k S1 => (k = true → Wp (a Λ S1) Q) ∧ (k = false → Wp (b Λ S1) Q)) : Wp (iIf c a b Λ S) Q := .bind (h.imp fun k S1 h => by
  cases k with
  | true => exact h.1 rfl
  | false => exact h.2 rfl)
end
theorem te_or {c d : IT} {B C : Bool} (h : Wp (c Λ S) fun k S1 => k = B ∧ S1 = S) (g : Wp (d Λ S) fun k S1 => k = C ∧ S1 = S) : Wp (iOr c d Λ S) fun k S1 => k = (B || C) ∧ S1 = S := by
  obtain ⟨_, _, e1, rfl, rfl⟩ := h
  obtain ⟨_, _, e2, rfl, rfl⟩ := g
  refine .bind (.of e1 ?_)
  rename_i k _ _
  cases k with
  | false => exact .of e2 ⟨rfl, rfl⟩
  | true => exact .ok ⟨rfl, rfl⟩
theorem wp_ifP {Q : α → Sto → Prop} {c : IT} {a b : Slots → Sto → Out α} {B : Bool} (h : Wp (c Λ S) fun k S1 => k = B ∧ S1 = S) (ht : B = true → Wp (a Λ S) Q) (hf : B = false → Wp (b Λ S) Q) : Wp (iIf c a b Λ S) Q := by
  obtain ⟨_, _, e1, rfl, rfl⟩ := h
  refine .bind (.of e1 ?_)
  rename_i k _
  cases k with
  | true => exact ht rfl
  | false => exact hf rfl
section
variable {Q : IV → Sto → Prop} {c d : IE}
theorem wp_notV (h : Wp (c Λ S) fun x S1 => ∃ b : Bool, x = .bl b ∧ Q (.bl (!b)) S1) : Wp (iNotV c Λ S) Q := .bind (h.imp fun _ _ ⟨b, e, q⟩ => by rw [e]; exact .ok q)
theorem wp_andV (h : Wp (c Λ S) fun x S1 => ∃ b : Bool, x = .bl b ∧ (b = true → Wp (d Λ S1) Q) ∧ (b = false → Q (.bl false) S1)) : Wp (iAndV c d Λ S) Q := .bind (h.imp fun _ _ ⟨b, e, h1, h2⟩ => by
  rw [e]
  cases b with
  | true => exact h1 rfl
  | false => exact .ok (h2 rfl))
end
section
variable {Q : Fl → Sto → Prop} {a b : IS} {m : IE} {i : Nat}
theorem wp_next (q : Q (.nx Λ) S) : Wp (iNext Λ S) Q := .ok q
theorem wp_seq (h : Wp (a Λ S) fun fl S1 => Wp (fSeq b fl S1) Q) : Wp (iSeq a b Λ S) Q := .bind h
theorem wp_nx (h : Wp (b Λ S) Q) : Wp (fSeq b (.nx Λ) S) Q := h
theorem wp_drop (h : Wp (m Λ S) fun _ S1 => Q (.nx Λ) S1) : Wp (iDrop m Λ S) Q := .bind (h.imp fun _ _ q => .ok q)
theorem wp_ret (h : Wp (m Λ S) fun x S1 => Q (.rt x) S1) : Wp (iRet m Λ S) Q := .bind (h.imp fun _ _ q => .ok q)
theorem wp_set (h : Wp (m Λ S) fun x S1 => Q (.nx (Λ.set i (some x))) S1) : Wp (iSet i m Λ S) Q := .bind (h.imp fun _ _ q => .ok q)
theorem wp_asg {g : IG} (h : Wp (m Λ S) fun x S1 => Wp (g x Λ S1) fun L S2 => Q (.nx L) S2) : Wp (iAsg m g Λ S) Q := .bind (h.imp fun _ _ h => .bind (h.imp fun _ _ q => .ok q))
theorem wp_par {j : Nat} {ma : IA} (h : Wp (ma Λ S) fun xs S1 => ∃ x y : IV, xs = [x, y] ∧ Q (.nx ((Λ.set i (some x)).set j (some y))) S1) : Wp (iPar i j ma Λ S) Q := .bind (h.imp fun _ _ ⟨x, y, e, q⟩ => by rw [e]; exact .ok q)
theorem wp_name {Q : Slots → Sto → Prop} {x : IV} (q : Q (Λ.set i (some x)) S) : Wp (iName i x Λ S) Q := .ok q
theorem wp_gnil {Q : Slots → Sto → Prop} (q : Q Λ S) : Wp (iGNil [] Λ S) Q := .ok q
theorem wp_gcons {Q : Slots → Sto → Prop} {g : IG} {r : IGs} {x : IV} {xs : List IV} (h : Wp (g x Λ S) fun L S1 => Wp (r xs L S1) Q) : Wp (iGCons g r (x :: xs) Λ S) Q := .bind h
theorem wp_gtup {Q : Slots → Sto → Prop} {n : Nat} {gs : IGs} {xs : List IV} (h : Chk (xs.length = n) (Wp (gs xs Λ S) Q)) : Wp (iGTup n gs (.tup xs) Λ S) Q := wp_chk h
end
def FlQ (Q : IV → Sto → Prop) : Fl → Sto → Prop
  | .rt v, S => Q v S
  | .nx _, S => Q .non S
  | _, _ => False
theorem fq_rt {Q : IV → Sto → Prop} {v : IV} (q : Q v S) : FlQ Q (.rt v) S := q
theorem wp_def {n : Nat} {b : IS} {xs : List IV} {Q : IV → Sto → Prop} (h : Wp (b (xs.map some ++ List.replicate (n - xs.length) none) S) (FlQ Q)) : Wp (mDef n b xs S) Q := by
  obtain ⟨fl, S', e, q⟩ := h
  cases fl with
  | rt v => exact .of (md_rt e) q
  | nx L => exact .of (md_nx e) q
  | bk L => exact q.elim
  | ct L => exact q.elim
def LpQ (I : Slots → Sto → Prop) (Q : Fl → Sto → Prop) : Fl → Sto → Prop
  | .nx L, S => I L S
  | .ct L, S => I L S
  | .bk L, S => Q (.nx L) S
  | .rt v, S => Q (.rt v) S
section
variable {I : Slots → Sto → Prop} {Q : Fl → Sto → Prop}
theorem lq_nx (q : I Λ S) : LpQ I Q (.nx Λ) S := q
end
theorem wp_iter {s : Src} {g : IG} {b : IS} {Q : Fl → Sto → Prop} (e : α → IV) (I : Nat → Slots → Sto → Prop) (st : ∀ i Λ S, I i Λ S → s.stay S) :
    ∀ (as : List α) (i : Nat) (Λ : Slots) (S : Sto), I i Λ S → (∀ j Λ S a, as[j]? = some a → I (i + j) Λ S → Wp (g (e a) Λ S) fun L S1 => Wp (b L S1) (LpQ (I (i + j + 1)) Q)) → (∀ Λ S, I (i + as.length) Λ S → Q (.nx Λ) S) → Wp (iIter s g b (as.map e) Λ S) Q
  | [], i, Λ, S, h0, _, q => by
    show Wp (iIter s g b [] Λ S) Q
    unfold iIter
    rw [chkP_pos (st i Λ S h0)]
    exact .ok (q Λ S h0)
  | a :: as, i, Λ, S, h0, h, q => by
    show Wp (iIter s g b (e a :: as.map e) Λ S) Q
    rw [iIter, chkP_pos (st i Λ S h0)]
    refine .bind ((h 0 Λ S a rfl h0).imp fun L S1 h1 => .bind (h1.imp fun fl S2 h2 => ?_))
    have go : ∀ L, I (i + 0 + 1) L S2 → Wp (iIter s g b (as.map e) L S2) Q := fun L hI => wp_iter e I st as (i + 1) L S2 hI (fun j Λ S x hx hI => by
      have z := h (j + 1) Λ S x (by simpa using hx)
      rw [show i + (j + 1) = i + 1 + j by omega] at z
      exact z hI) fun Λ S hI => q Λ S (by rw [List.length_cons, show i + (as.length + 1) = i + 1 + as.length by omega]; exact hI)
    cases fl with
    | nx L => exact go L h2
    | ct L => exact go L h2
    | bk L => exact .ok h2
    | rt v => exact .ok h2
theorem wp_for {ms : IW} {g : IG} {b : IS} {Q : Fl → Sto → Prop} (as : List α) (e : α → IV) (I : Nat → Slots → Sto → Prop) {k : Option Nat} (hs : Wp (ms Λ S) fun s S1 => s = ⟨as.map e, k⟩ ∧ I 0 Λ S1) (st : ∀ i Λ S, I i Λ S → Src.stay ⟨as.map e, k⟩ S)
    (h : ∀ i Λ S a, as[i]? = some a → I i Λ S → Wp (g (e a) Λ S) fun L S1 => Wp (b L S1) (LpQ (I (i + 1)) Q)) (q : ∀ Λ S, I as.length Λ S → Q (.nx Λ) S) : Wp (iFor ms g b Λ S) Q := by
  refine .bind (hs.imp fun s S1 ⟨e1, h0⟩ => ?_)
  subst e1
  exact wp_iter e I st as 0 Λ S1 h0 (fun j Λ S a ha hI => by
    rw [Nat.zero_add] at hI ⊢
    exact h j Λ S a ha hI) fun Λ S hI => q Λ S (by rw [Nat.zero_add] at hI; exact hI)
theorem wp_forK {ms : IW} {g : IG} {b : IS} {Q : Fl → Sto → Prop} (h : Wp (ms Λ S) fun s S1 => Wp (iIter s g b s.items Λ S1) Q) : Wp (iFor ms g b Λ S) Q := .bind h
theorem wp_it {g : IG} {b : IS} {Q : Fl → Sto → Prop} (as : List α) (e : α → IV) (I : Nat → Slots → Sto → Prop) {k : Option Nat} (h0 : I 0 Λ S) (st : ∀ i Λ S, I i Λ S → Src.stay ⟨as.map e, k⟩ S)
    (h : ∀ i Λ S a, as[i]? = some a → I i Λ S → Wp (g (e a) Λ S) fun L S1 => Wp (b L S1) (LpQ (I (i + 1)) Q)) (q : ∀ Λ S, I as.length Λ S → Q (.nx Λ) S) : Wp (iIter ⟨as.map e, k⟩ g b (as.map e) Λ S) Q :=
  wp_iter e I st as 0 Λ S h0 (fun j Λ S a ha hI => by
    rw [Nat.zero_add] at hI ⊢
    exact h j Λ S a ha hI) fun Λ S hI => q Λ S (by rw [Nat.zero_add] at hI; exact hI)
theorem wp_range {m : IE} {Q : Src → Sto → Prop} (h : Wp (m Λ S) fun x S1 => ∃ j : Int, x = .int j ∧ Chk (-(2 ^ 62) ≤ j ∧ j < 2 ^ 62) (Q ⟨(List.range j.toNat).map fun i : Nat => IV.int i, none⟩ S1)) : Wp (iSrcR1 m Λ S) Q := .bind (h.imp fun _ _ ⟨j, e, c, q⟩ => by
  rw [e]
  refine wp_asI (wp_chk ⟨c, .ok ?_⟩)
  rw [rangeI_map]
  simp only [Int.zero_add]
  exact q)
theorem wp_srcL {m : IE} {Q : Src → Sto → Prop} (h : Wp (m Λ S) fun x S1 => Wp (fSrcL x S1) Q) : Wp (iSrcL m Λ S) Q := .bind h
theorem stay_n {as : List α} {e : α → IV} {I : Nat → Slots → Sto → Prop} : ∀ i Λ S, I i Λ S → Src.stay ⟨as.map e, none⟩ S := fun _ _ _ _ => trivial
theorem rg_some {i n a : Nat} (h : (List.range n)[i]? = some a) : a = i ∧ i < n := by
  have hi := lt_some h
  rw [List.length_range] at hi
  rw [List.getElem?_range hi] at h
  exact ⟨(Option.some.inj h).symm, hi⟩
theorem wp_lcgo {s : Src} {gi : IV → Slots → Option Slots} {tt : IT} {te : IE} {Q : List IV → Sto → Prop} (e : α → IV) (I : Nat → Sto → List IV → Prop) (st : ∀ i S acc, I i S acc → s.stay S) :
    ∀ (as : List α) (i : Nat) (S : Sto) (acc : List IV), I i S acc → (∀ j S acc a, as[j]? = some a → I (i + j) S acc → ∃ L, gi (e a) Λ = some L ∧ Wp (tt L S) fun b S1 => (b = true → Wp (te L S1) fun y S2 => I (i + j + 1) S2 (acc ++ [y])) ∧ (b = false → I (i + j + 1) S1 acc)) →
      acc.length + as.length ≤ sizeLine → (∀ S acc, I (i + as.length) S acc → Q acc S) → Wp (iLcGo s gi tt te (as.map e) Λ S acc) Q
  | [], i, S, acc, h0, _, _, q => by
    show Wp (iLcGo s gi tt te [] Λ S acc) Q
    unfold iLcGo
    rw [chkP_pos (st i S acc h0)]
    exact .ok (q S acc h0)
  | a :: as, i, S, acc, h0, h, hl, q => by
    rw [List.length_cons] at hl
    obtain ⟨L, hL, b, S1, hb, h1, h2⟩ := h 0 S acc a rfl h0
    show Wp (iLcGo s gi tt te (e a :: as.map e) Λ S acc) Q
    unfold iLcGo
    rw [chkP_pos (st i S acc h0), hL, orBad_some, hb, noX_ok, Out.bind_ok]
    have go : ∀ S2 acc2, acc2.length ≤ acc.length + 1 → I (i + 0 + 1) S2 acc2 → Wp (iLcGo s gi tt te (as.map e) Λ S2 acc2) Q := fun S2 acc2 hl2 hI => wp_lcgo e I st as (i + 1) S2 acc2 hI (fun j S acc x hx hI => by
      have z := h (j + 1) S acc x (by simpa using hx)
      rw [show i + (j + 1) = i + 1 + j by omega] at z
      exact z hI) (by omega) fun S acc hI => q S acc (by rw [List.length_cons, show i + (as.length + 1) = i + 1 + as.length by omega]; exact hI)
    cases b with
    | true =>
      obtain ⟨y, S2, hy, hI⟩ := h1 rfl
      rw [if_pos rfl, hy, noX_ok, Out.bind_ok, chk_pos (by omega)]
      exact go S2 _ (by rw [List.length_append, List.length_singleton]; exact Nat.le_refl _) hI
    | false =>
      rw [if_neg Bool.false_ne_true]
      exact go S1 acc (by omega) (h2 rfl)
theorem wp_yes {Q : Bool → Sto → Prop} (q : Q true S) : Wp (iYes Λ S) Q := .ok q
theorem wp_lcm {cell : Bool} {ms : IW} {gi : IV → Slots → Option Slots} {tt : IT} {te : IE} {vs : List Nat} {Q : IV → Sto → Prop} (as : List α) (e : α → IV) (T : α → Bool) (F : α → IV) {k : Option Nat} (hs : Wp (ms Λ S) fun s S1 => s = ⟨as.map e, k⟩ ∧ S1 = S) (st : Src.stay ⟨as.map e, k⟩ S)
    (h : ∀ a ∈ as, ∃ L, gi (e a) (wipeI Λ vs) = some L ∧ Wp (tt L S) fun b S1 => b = T a ∧ S1 = S ∧ (b = true → Wp (te L S) fun y S2 => y = F a ∧ S2 = S)) (hl : as.length ≤ sizeLine)
    (q : Wp (mkL cell ((as.filter T).map F) S) Q) : Wp (iLc cell ms gi tt te vs Λ S) Q := by
  obtain ⟨s, S1, e1, rfl, rfl⟩ := hs
  rw [lc_map as e T F e1 st (fun a ha => by
    obtain ⟨L, h1, b, S1, h2, rfl, rfl, h3⟩ := h a ha
    refine ⟨L, h1, h2, fun hb => ?_⟩
    obtain ⟨y, S2, h4, rfl, rfl⟩ := h3 hb
    exact h4) hl]
  exact q
theorem one_len (c : Nat) : (Str.mk #[c]).length = 1 := rfl
theorem cdiv_mk {i j : Int} (h0 : 0 < j) (h1 : j < 1073741824) : CDiv i j := ⟨h0, h1⟩
section
variable {Q : IV → Sto → Prop}
theorem wp_fI {C : Int → Int → Prop} [∀ i j, Decidable (C i j)] {g : Int → Int → Int} {i j : Int} (h : Chk (C i j) (Q (.int (g i j)) S)) : Wp (fI C g (.int i) (.int j) S) Q := wp_chk ⟨h.l, .ok h.r⟩
theorem wp_addi {i j : Int} (q : Q (.int (i + j)) S) : Wp (fAdd (.int i) (.int j) S) Q := .ok q
theorem wp_adds {a b : Str} (h : Chk (a.length + b.length ≤ sizeLine) (Q (.str (a ++ b)) S)) : Wp (fAdd (.str a) (.str b) S) Q := wp_chk ⟨h.l, .ok h.r⟩
theorem wp_addl {a b : List IV} (h : Chk ((a ++ b).length ≤ sizeLine) (Q (.lst (a ++ b)) S)) : Wp (fAdd (.lst a) (.lst b) S) Q := wp_chk ⟨h.l, .ok h.r⟩
theorem wp_mkf {a : List IV} (h : Chk (a.length ≤ sizeLine) (Q (.lst a) S)) : Wp (mkL false a S) Q := wp_chk ⟨h.l, .ok h.r⟩
theorem wp_mkT {a : List IV} (h : Chk (a.length ≤ sizeLine) (Q (.tup a) S)) : Wp (mkT a S) Q := wp_chk ⟨h.l, .ok h.r⟩
theorem wp_ixl {xs : List IV} {i : Int} {v : IV} (e : atI xs i = some v) (q : Q v S) : Wp (fIx (.lst xs) (.int i) S) Q := by rw [fIx_l]; exact wp_orBad e (.ok q)
theorem wp_ixa {xs : List IV} {n : Nat} {i : Int} {v : IV} (g : S[n]? = some (.lst xs)) (e : atI xs i = some v) (q : Q v S) : Wp (fIx (.adr n) (.int i) S) Q := by rw [fIx_a g]; exact wp_orBad e (.ok q)
theorem wp_ixs {z : Str} {i : Int} {c : Nat} (e : atI z.cps.toList i = some c) (h : Chk (z.length ≤ sizeLine) (Q (.str ⟨#[c]⟩) S)) : Wp (fIx (.str z) (.int i) S) Q := by
  rw [fIx_s]
  exact wp_chk ⟨h.l, wp_orBad e (.ok h.r)⟩
theorem wp_inti {i : Int} (q : Q (.int i) S) : Wp (fInt [.int i] S) Q := .ok q
theorem wp_len {x : IV} {n : Nat} (e : lenN S x = some n) (q : Q (.int n) S) : Wp (fLen [x] S) Q := by rw [fLen_e, e]; exact .ok q
theorem wp_isi {x : IV} {n t : String} {b : Bool} (e : tyN S x = some t) (k : kitN t n = some b) (q : Q (.bl b) S) : Wp (fIsi [x, .ty n] S) Q := by rw [fIsi_e, e, orBad_some, k]; exact .ok q
theorem wp_in {x y : IV} {b : Bool} (e : inB S x y = some b) (q : Q (.bl b) S) : Wp (fIn x y S) Q := by rw [fIn_e, e]; exact .ok q
theorem wp_notin {x y : IV} {b : Bool} (e : inB S x y = some b) (q : Q (.bl (!b)) S) : Wp (fNotIn x y S) Q := by rw [fNotIn_e, e]; exact .ok q
theorem wp_eq {x y : IV} {b : Bool} (e : eqB S x y = some b) (q : Q (.bl b) S) : Wp (fEq x y S) Q := by rw [fEq_e, e]; exact .ok q
theorem wp_ne {x y : IV} {b : Bool} (e : eqB S x y = some b) (q : Q (.bl (!b)) S) : Wp (fNe x y S) Q := by rw [fNe_e, e]; exact .ok q
theorem wp_nei {i j : Int} (q : Q (.bl (!decide (i = j))) S) : Wp (fNe (.int i) (.int j) S) Q := .ok q
theorem wp_eqs {i j : Str} (q : Q (.bl (decide (i = j))) S) : Wp (fEq (.str i) (.str j) S) Q := .ok q
theorem wp_eqb {i j : Bool} (q : Q (.bl (decide (i = j))) S) : Wp (fEq (.bl i) (.bl j) S) Q := .ok q
theorem wp_neb {i j : Bool} (q : Q (.bl (!decide (i = j))) S) : Wp (fNe (.bl i) (.bl j) S) Q := .ok q
theorem wp_join {a : Str} {y : IV} {zs : List Str} (e : seqOf S y = some (zs.map IV.str)) (h : Chk ((zs.map (·.length)).sum + zs.length * a.length ≤ 16777216) (Q (.str (PySem.Txt.join a zs)) S)) : Wp (fJoin (.str a) [y] S) Q :=
  wp_orBad e (wp_orBad (Lw.strsOf_map zs) (wp_chk ⟨h.l, .ok h.r⟩))
theorem wp_split {cell : Bool} {a b : Str} (h : Chk ((b.length == 0) = false ∧ a.length + 2 ≤ sizeLine) (Wp (mkL cell ((Txt.split a b).map IV.str) S) Q)) : Wp (fSplit cell (.str a) [.str b] S) Q := wp_chk h
end
end
structure Hd (n K : Nat) (fs : List (Nat × Cell)) (S : Sto) : Prop where
  dr : Lw.Dr S n K
  get : ∀ p ∈ fs, S[p.1]? = some p.2
  nd : (n :: fs.map (·.1)).Nodup
section
variable {n K : Nat} {fs : List (Nat × Cell)} {S S' : Sto} {l : Nat} {c : Cell}
theorem Hd.at (h : Hd n K fs S) (i : Nat) (e : fs[i]? = some (l, c)) : S[l]? = some c := h.get (l, c) (List.mem_of_getElem? e)
theorem Hd.up {M : Nat} (h : Hd n K fs S) (l : K ≤ M) : Hd n M fs S := ⟨h.dr.up l, h.get, h.nd⟩
theorem Hd.ne (h : Hd n K fs S) (i : Nat) (e : fs[i]? = some (l, c)) : l ≠ n := fun z => by
  have := (List.nodup_cons.mp h.nd).1
  exact this (z ▸ List.mem_map.mpr ⟨(l, c), List.mem_of_getElem? e, rfl⟩)
theorem Hd.lt (h : Hd n K fs S) {p : Nat × Cell} (hp : p ∈ fs) : p.1 < S.length := lt_some (h.get p hp)
theorem Hd.ext {ds : List Nat} {M : Nat} (h : Hd n K fs S) (x : Ext ds S S') (d : Lw.Dr S' n M) (hd : ∀ p ∈ fs, p.1 ∉ ds) : Hd n M fs S' := ⟨d, fun p hp => x.2 _ _ (h.get p hp) (hd p hp), h.nd⟩
theorem Hd.ext0 (h : Hd n K fs S) (x : Ext [] S S') : Hd n K fs S' := h.ext x (h.dr.ext x) (fun _ _ z => by cases z)
theorem Hd.extn {M : Nat} (h : Hd n K fs S) (x : Ext [n] S S') (d : Lw.Dr S' n M) : Hd n M fs S' := h.ext x d fun p hp z => by
  have := (List.nodup_cons.mp h.nd).1
  exact this (List.mem_map.mpr ⟨p, hp, List.mem_singleton.mp z⟩)
theorem Hd.alloc (h : Hd n K fs S) (c : Cell) : Hd n K ((S.length, c) :: fs) (S ++ [c]) := by
  have x : Ext [] S (S ++ [c]) := .app _
  have h' := h.ext0 x
  refine ⟨h'.dr, fun p hp => ?_, ?_⟩
  · rcases List.mem_cons.mp hp with rfl | hp
    · exact get_new _ _
    · exact h'.get p hp
  · obtain ⟨h1, h2⟩ := List.nodup_cons.mp h.nd
    refine List.nodup_cons.mpr ⟨fun z => ?_, List.nodup_cons.mpr ⟨fun z => ?_, h2⟩⟩
    · rcases List.mem_cons.mp z with z | z
      · have q := h.dr.lt
        have z : n = S.length := z
        omega
      · exact h1 z
    · obtain ⟨p, hp, e⟩ := List.mem_map.mp z
      have := h.lt hp
      exact absurd (show p.1 = S.length from e) (by omega)
theorem Hd.put (h : Hd n K fs S) (i : Nat) (e : fs[i]? = some (l, c)) (d : Cell) : Hd n K (fs.set i (l, d)) (S.set l d) := by
  have hl : l < S.length := lt_some (h.at i e)
  have hi := lt_some e
  have ek : (fs.set i (l, d)).map (·.1) = fs.map (·.1) := by
    refine List.ext_getElem? fun j => ?_
    rw [List.getElem?_map, List.getElem?_map]
    by_cases hj : i = j
    · subst hj
      rw [List.getElem?_set_self hi, e]
      rfl
    · rw [List.getElem?_set_ne hj]
  refine ⟨h.dr.ext (Ext.set (ds := [l]) (.inl (by simp))) (by simp [(h.ne i e).symm]), fun p hp => ?_, by rw [ek]; exact h.nd⟩
  obtain ⟨j, hj⟩ := List.getElem?_of_mem hp
  by_cases hij : i = j
  · subst hij
    rw [List.getElem?_set_self hi] at hj
    cases hj
    exact List.getElem?_set_self hl
  · rw [List.getElem?_set_ne hij] at hj
    have hne : l ≠ p.1 := fun z => by
      have nd := (List.nodup_cons.mp h.nd).2
      have a1 : (fs.map (·.1))[i]? = some l := by rw [List.getElem?_map, e]; rfl
      have a2 : (fs.map (·.1))[j]? = some l := by rw [List.getElem?_map, hj, z]; rfl
      obtain ⟨i1, e1⟩ := List.getElem?_eq_some_iff.mp a1
      obtain ⟨i2, e2⟩ := List.getElem?_eq_some_iff.mp a2
      exact hij ((List.getElem_inj nd).mp (e1.trans e2.symm))
    rw [List.getElem?_set_ne hne]
    exact h.get p (List.mem_of_getElem? hj)
theorem Hd.sub {gs : List (Nat × Cell)} (h : Hd n K fs S) (hs : gs.Sublist fs) : Hd n K gs S := ⟨h.dr, fun p hp => h.get p (hs.subset hp), h.nd.sublist ((hs.map _).cons₂ n)⟩
theorem Hd.snd {p q : Nat × Cell} (h : Hd n K (p :: q :: fs) S) : Hd n K (p :: fs) S := h.sub ((List.sublist_cons_self q fs).cons₂ p)
section
variable {Q : IV → Sto → Prop}
theorem wp_mkt {xs : List IV} (h : Hd n K fs S) (q : Chk (xs.length ≤ sizeLine) (∀ (l : Nat) (S' : Sto), Hd n K ((l, .lst xs) :: fs) S' → Q (.adr l) S')) : Wp (mkL true xs S) Q := wp_chk ⟨q.l, .ok (q.r _ _ (h.alloc _))⟩
theorem wp_app {xs : List IV} {v : IV} (h : Hd n K fs S) (i : Nat) (e : fs[i]? = some (l, .lst xs)) (q : Chk (xs.length < sizeLine) (∀ S' : Sto, Hd n K (fs.set i (l, .lst (xs ++ [v]))) S' → Q .non S')) : Wp (fApp (.adr l) [v] S) Q := by
  show Wp (onL S (.adr l) fun n ys => chk (ys.length < sizeLine) (.ok .non (S.set n (.lst (ys ++ [v]))))) Q
  rw [onL_s (h.at i e)]
  exact wp_chk ⟨q.l, .ok (q.r _ (h.put i e _))⟩
theorem cty_a {xs : List IV} (g : S[l]? = some (.lst xs)) : hasTy "list" S (.adr l) = true := by
  unfold hasTy lstOf
  simp only [g]
  rfl
theorem seqOf_a {xs : List IV} (g : S[l]? = some (.lst xs)) : seqOf S (.adr l) = some xs := by
  unfold seqOf tupOf lstOf
  simp only [g]
theorem lenN_a {xs : List IV} (g : S[l]? = some (.lst xs)) : lenN S (.adr l) = some xs.length := by
  show (seqOf S (.adr l)).map _ = _
  rw [seqOf_a g]
  rfl
theorem srcL_a {xs : List IV} {Q : Src → Sto → Prop} (g : S[l]? = some (.lst xs)) (q : Q ⟨xs, some l⟩ S) : Wp (fSrcL (.adr l) S) Q := by
  unfold fSrcL
  refine .of ?_ q
  simp only [g]
theorem srcL_l {xs : List IV} {Q : Src → Sto → Prop} (q : Q ⟨xs, none⟩ S) : Wp (fSrcL (.lst xs) S) Q := .ok q
theorem wp_appV {Λ : Slots} {Q : Fl → Sto → Prop} {i : Nat} {a : IE} {ys : List IV} (hv : Λ[i]? = some (some (.adr l))) (g : S[l]? = some (.lst ys)) (h : Wp (a Λ S) fun v S1 => ∃ (n K : Nat) (fs : List (Nat × Cell)) (k : Nat) (xs : List IV), Hd n K fs S1 ∧ fs[k]? = some (l, .lst xs) ∧ Chk (xs.length < sizeLine) (∀ S' : Sto, Hd n K (fs.set k (l, .lst (xs ++ [v]))) S' → Q (.nx Λ) S')) : Wp (iDrop (iBM "list" fApp (iVar i) (iCons a iNil)) Λ S) Q := by
  refine wp_drop (wp_bm (wp_var hv ⟨cty_a g, wp_cons (h.imp fun v S1 h => wp_nil ?_)⟩))
  obtain ⟨n, K, fs, k, xs, h, e, q⟩ := h
  exact wp_app h k e q
end
end
end Sm
namespace Lw
open PySem PySem.Spec PyProof.Rows L2 Sm
theorem wp_sourceB {P cc D : Int} (hP : 0 < P) (hc : -(2 ^ 64) < cc ∧ cc < 2 ^ 64) {S : Sto} {ns : List Int} {i : Nat} {Q : IV → Sto → Prop} (q : ∀ (n : Nat) (S' : Sto), Hd n 0 [] S' → Q (.adr n) S') : Wp (mDef 4 (sourceB P cc D) [.wls (ns.map IV.int), .int i] S) Q := by
  obtain ⟨S', e, d, x, l⟩ := source_ok (P := P) (cc := cc) (D := D) hP hc (S := S) (ns := ns) (i := i)
  exact .of e (q _ _ ⟨d, fun _ z => (by cases z), List.nodup_cons.mpr ⟨fun z => (by cases z), List.nodup_nil⟩⟩)
end Lw
set_option maxHeartbeats 1000000
namespace Sm
open PySem PySem.Spec PyProof.Rows L2
def Wx {α : Type} (o : Out α) (Q : α → Sto → Prop) (E : Str → Nat → Slots → Sto → Prop) : Prop := match o with
  | .ok a S => Q a S
  | .exc C n L S => E C n L S
  | .bad => False
section
variable {α β : Type} {S S1 : Sto} {Λ : Slots} {E : Str → Nat → Slots → Sto → Prop}
theorem wp_fld {C f : Str} {n : Nat} {fs : List (Str × IV)} {v : IV} {Q : IV → Sto → Prop} (h : S[n]? = some (.ins C fs)) (e : fs.lookup f = some v) (q : Q v S) : Wp (fFld C f (.adr n) S) Q := by
  unfold fFld onI
  simp only [h, if_true, e]
  exact .ok q
end
end Sm
namespace RD
open PySem PySem.Spec PyProof.Rows L2 Sm
set_option maxHeartbeats 1000000
theorem nm_sg {x : Str} (h : nameB x = true) {c : Nat} (hc : c ∈ sg x) : c ∈ sg alpha := by
  unfold nameB abc at h
  simp only [Bool.and_eq_true, List.all_eq_true, decide_eq_true_eq] at h
  exact h.1.2 c hc
theorem tw_app {p : Nat → Bool} : ∀ (a b : List Nat), (∀ c ∈ a, p c = true) → (∀ c, b.head? = some c → p c = false) → (a ++ b).takeWhile p = a
  | [], [], _, _ => rfl
  | [], c :: b, _, h => by
    show (c :: b).takeWhile p = []
    rw [List.takeWhile_cons, h c rfl]
    rfl
  | c :: a, b, h, g => by
    show (c :: (a ++ b)).takeWhile p = c :: a
    rw [List.takeWhile_cons, h c List.mem_cons_self, if_pos rfl, tw_app a b (fun d hd => h d (List.mem_cons_of_mem _ hd)) g]
theorem cut_pre (x r : Str) : cutS (x ++ r) none (some (x.length : Int)) = x := sg_inj (by
  rw [sg_cut, sg_app]
  have h0 : HT.sIx (x ++ r).length 0 none = 0 := rfl
  have h1 : HT.sIx (x ++ r).length (x ++ r).length (some (x.length : Int)) = x.length := by
    unfold HT.sIx
    rw [len_app]
    simp
    omega
  rw [h0, h1, List.drop_zero, Nat.sub_zero, ← sg_len, List.take_left])
theorem cut_suf (x r : Str) : cutS (x ++ r) (some (x.length : Int)) none = r := sg_inj (by
  rw [sg_cut, sg_app]
  have h0 : HT.sIx (x ++ r).length 0 (some (x.length : Int)) = x.length := by
    unfold HT.sIx
    rw [len_app]
    simp
    omega
  have h1 : HT.sIx (x ++ r).length (x ++ r).length none = (x ++ r).length := rfl
  rw [h0, h1, ← sg_len x, List.drop_left, len_app, List.take_of_length_le (by rw [sg_len, sg_len]; omega)])
theorem pathP_app {x r : Str} (h : nameB x = true) (g : ∀ c, (sg r).head? = some c → isL c = false) : pathP (x ++ r) = (stepsP 5 r []).map fun st => (x, st) := by
  have el : lets (sg (x ++ r)) = x.length := by
    unfold lets
    rw [sg_app, tw_app (p := isL) _ _ (fun c hc => decide_eq_true (nm_sg h hc)) g, sg_len]
  unfold pathP
  rw [el, cut_pre, cut_suf, if_pos h]
end RD
namespace Lw
open PySem PySem.Spec PyProof.Rows L2 Sm RD
structure Names (ps : List Str) : Prop where
  len : ps.length = 12
  nd : ps.Nodup
  nb : ∀ x ∈ ps, nameB x = true ∧ x.length ≤ 5
end Lw
set_option maxHeartbeats 1000000
namespace Sm
open PySem PySem.Spec PyProof.Rows L2
end Sm
namespace RD
open PySem PySem.Spec PyProof.Rows L2 Sm
theorem cut_take {z : Str} {k : Nat} (h : k ≤ z.length) : sg (cutS z none (some (k : Int))) = (sg z).take k := by
  rw [sg_cut]
  have h0 : HT.sIx z.length 0 none = 0 := rfl
  have h1 : HT.sIx z.length z.length (some (k : Int)) = k := by
    show (if (k : Int) < 0 then ((k : Int) + (z.length : Int)).toNat else min (k : Int).toNat z.length) = k
    rw [if_neg (by omega)]
    omega
  rw [h0, h1, List.drop_zero, Nat.sub_zero]
end RD
set_option maxHeartbeats 1000000
namespace Lw
open PySem PySem.Spec PyProof.Rows L2 Sm
def drawC (A B C M Hh N : Int) : IS := (iSeq (iIf (iTest (iBin fGt (iBin fIx (iVar 0) (iC (.int 0))) (iC (.int 0)))) (iSeq (iSet 2 (iBin fMod (iCa fInt (iCons (iBin fIx (iVar 0) (iC (.int 0))) iNil)) (iVar 1))) (iSeq (iAsg (iBin fDiv (iBin fIx (iVar 0) (iC (.int 0))) (iVar 1)) (iGSub (iVar 0) (iC (.int 0)))) (iRet (iVar 2)))) iNext)
  (iSeq (iAsg (iBin fAdd (iBin fIx (iVar 0) (iC (.int 2))) (iC (.int 1))) (iGSub (iVar 0) (iC (.int 2)))) (iSeq (iAsg (iBin fMod (iCa fInt (iCons (iBin fAdd (iBin fAdd (iBin fMul (iBin fIx (iVar 0) (iC (.int 1))) (iC (.int A))) (iBin fMul (iBin fMul (iBin fIx (iVar 0) (iC (.int 2))) (iBin fIx (iVar 0) (iC (.int 2)))) (iC (.int B)))) (iC (.int C))) iNil)) (iC (.int M))) (iGSub (iVar 0) (iC (.int 1))))
  (iSeq (iSet 3 (iBin fDiv (iBin fIx (iVar 0) (iC (.int 1))) (iC (.int Hh)))) (iRet (iBin fMod (iCa fInt (iCons (iBin fMod (iCa fInt (iCons (iBin fAdd (iBin fMul (iVar 3) (iVar 3)) (iBin fIx (iVar 0) (iC (.int 1)))) iNil)) (iC (.int N))) iNil)) (iVar 1)))))))
theorem drawC_ok {A B C M Hh N : Int} (k : DrC A B M Hh N) {S : Sto} {n K : Nat} {m : Int} (h : Dr S n K) (hN : K ≤ 1000000) (h0 : 0 < m) (h1 : m < 1073741824) :
    ∃ r S', mDef 4 (drawC A B C M Hh N) [.adr n, .int m] S = .ok (.int r) S' ∧ 0 ≤ r ∧ r < m ∧ Dr S' n (K + 1) ∧ Ext [n] S S' := by
  obtain ⟨a, b, c, e, c0, c1⟩ := h
  have hn : n < S.length := lt_some e
  have hd : CDiv a m := ⟨h0, h1⟩
  have ex : ∀ c, Ext [n] S (S.set n c) := fun c => Ext.set (.inl (by simp))
  by_cases ha : 0 < a
  · refine ⟨a % m, S.set n (.lst [.int (a / m), .int b, .int c]), mDef_rt ?_, Int.emod_nonneg _ (by omega), Int.emod_lt_of_pos _ h0, ⟨_, _, _, List.getElem?_set_self hn, c0, by omega⟩, ex _⟩
    unfold drawC
    simp [iVar_s, fIx_a e, ha, chk_pos, h0, hd, onL_s e]
  · have hm := k.m
    have hm2 := k.m2
    obtain ⟨hh0, hh1⟩ := k.h
    have hn0 := k.n
    generalize hy : (b * A + (c + 1) * (c + 1) * B + C) % M = y
    have y1 : y < M := hy ▸ Int.emod_lt_of_pos _ hm
    have y0 : 0 ≤ y := hy ▸ Int.emod_nonneg _ (by omega)
    have k1 : CMul b A := .inr ⟨k.a.1, k.a.2⟩
    have k2 : CMul (c + 1) (c + 1) := .inl ⟨by omega, by omega⟩
    have k3 : CMul ((c + 1) * (c + 1)) B := .inr ⟨k.b.1, k.b.2⟩
    have k4 : CDiv y Hh := ⟨hh0, hh1⟩
    have z0 : 0 ≤ y / Hh := Int.ediv_nonneg y0 (by omega)
    have z1 : y / Hh ≤ y := Int.ediv_le_self _ y0
    have k5 : CMul (y / Hh) (y / Hh) := .inl ⟨by omega, by omega⟩
    refine ⟨(y / Hh * (y / Hh) + y) % N % m, S.set n (.lst [.int a, .int y, .int (c + 1)]), mDef_rt ?_, Int.emod_nonneg _ (by omega), Int.emod_lt_of_pos _ h0, ⟨_, _, _, List.getElem?_set_self hn, by omega, by omega⟩, ex _⟩
    have e1 : (S.set n (.lst [.int a, .int b, .int (c + 1)]))[n]? = some (.lst [.int a, .int b, .int (c + 1)]) := List.getElem?_set_self hn
    have e2 : (S.set n (.lst [.int a, .int y, .int (c + 1)]))[n]? = some (.lst [.int a, .int y, .int (c + 1)]) := List.getElem?_set_self hn
    unfold drawC
    simp [iVar_s, fIx_a e, fIx_a e1, fIx_a e2, ha, chk_pos, h0, onL_s e, onL_s e1, k1, k2, k3, hy, k4, k5, hm, hn0]
theorem wp_drawC {A B C M Hh N : Int} (k : DrC A B M Hh N) {n K : Nat} {fs : List (Nat × Cell)} {S : Sto} {m : Int} {Q : IV → Sto → Prop} (h : Hd n K fs S) (hK : K ≤ 1000000) (h0 : 0 < m) (h1 : m < 1073741824)
    (q : ∀ (r : Int) (S' : Sto), Hd n (K + 1) fs S' → 0 ≤ r → r < m → Q (.int r) S') : Wp (mDef 4 (drawC A B C M Hh N) [.adr n, .int m] S) Q := by
  obtain ⟨r, S', e, a, b, c, d⟩ := drawC_ok (C := C) k h.dr hK h0 h1
  exact .of e (q r S' (h.extn d c) a b)
end Lw
set_option maxHeartbeats 2000000
namespace Sm
open PySem PySem.Spec PyProof.Rows L2
end Sm
set_option maxHeartbeats 2000000
namespace SetR
open PySem PySem.Spec PyProof.Rows L2
def tx (e : Int × Value) : Str := match e.2 with | .str x _ => x | _ => Str.empty
def TE (P : Program) (w : World) (e : Int × Value) : Prop := ∃ x u, e.2 = Value.str x u ∧ e.1 = (PySem.strKind P w).hash x
structure Rep (P : Program) (w : World) (o : Obj) (es : Array (Int × Value)) (ep : Nat) (t : SetTable) (L : List Str) : Prop where
  x : o.ExactSet
  d : o.data = .set es ep t
  e : ∀ z ∈ es.toList, TE P w z
  p : (es.toList.map tx).Perm L
  n : L.Nodup
  b : es.size < scanBound
  f : t.fits es.size = true
  r : Ris t.place.toList
  l : w.params.followText "set-order" = true ∨ t.led = true
def TxR (P : Program) (w : World) (h : Heap) (a : Addr) (L : List Str) : Prop := ∃ o es ep t, h.get? a = some o ∧ Rep P w o es ep t L
section
variable {P : Program} {w : World} {h : Heap} {a : Addr} {L : List Str} {o : Obj} {es : Array (Int × Value)} {ep : Nat} {t : SetTable}
theorem te_is {z : Int × Value} (g : TE P w z) (k : Str) : (PySem.strKind P w).is k z.2 = true ↔ tx z = k := by
  obtain ⟨x, u, e1, _⟩ := g
  unfold tx
  rw [e1]
  show Value.isStrOf k (.str x u) = true ↔ x = k
  simp [Value.isStrOf]
theorem te_el {l : List (Int × Value)} (g : ∀ z ∈ l, TE P w z) : ElemsOf (PySem.strKind P w) l := fun z hz => by
  obtain ⟨x, u, e1, e2⟩ := g z hz
  exact ⟨⟨x, by rw [e1]; exact strKind_is P w x u, e2⟩, by rw [e1]; rfl⟩
theorem Rep.size (R : Rep P w o es ep t L) : es.size = L.length := by
  have := R.p.length_eq
  rwa [List.length_map, Array.length_toList] at this
theorem Rep.has (R : Rep P w o es ep t L) (k : Str) : k ∈ L ↔ ∃ z ∈ es.toList, (PySem.strKind P w).is k z.2 = true := by
  rw [← R.p.mem_iff, List.mem_map]
  exact ⟨fun ⟨z, hz, q⟩ => ⟨z, hz, (te_is (R.e z hz) k).mpr q⟩, fun ⟨z, hz, q⟩ => ⟨z, hz, (te_is (R.e z hz) k).mp q⟩⟩
theorem TxR.keep {h' : Heap} (R : TxR P w h a L) (k : ∀ o, h.get? a = some o → h'.get? a = some o) : TxR P w h' a L := by
  obtain ⟨o, es, ep, t, ho, r⟩ := R
  exact ⟨o, es, ep, t, k o ho, r⟩
end
section
variable {P : Program} {w : World} {A : Around} {E : Value → Shared → Prop} {s : Shared} {a : Addr} {L : List Str}
theorem stored {o : Obj} {es es1 : Array (Int × Value)} {ep : Nat} {t t2 : SetTable} (ho : s.heap.get? a = some o) (hd : o.data = .set es ep t) (x : o.ExactSet) (e : ∀ z ∈ es1.toList, TE P w z) (p : (es1.toList.map tx).Perm L) (n : L.Nodup) (b : es1.size < scanBound) (f : t2.fits es1.size = true) (r : Ris t2.place.toList) (l : w.params.followText "set-order" = true ∨ t2.led = true) :
    (s.heap.update a (Obj.putSet es1 t2)).get? a = some { o with data := .set es1 (ep + 1) t2 } ∧ Rep P w { o with data := .set es1 (ep + 1) t2 } es1 (ep + 1) t2 L :=
  ⟨store_at ho hd, ⟨x, rfl, e, p, n, b, f, r, l⟩⟩
theorem tail_x {f : Bool → Sem Unit} (hf : ∀ (b : Bool) (s1 : Shared) (Q : Unit → Shared → Prop), Q () s1 → wpAny (model P w) A (f b) Q E s1) {o : Obj} {es es1 : Array (Int × Value)} {ep : Nat} {t t2 : SetTable} (ho : s.heap.get? a = some o) (hd : o.data = .set es ep t) (x : o.ExactSet)
    (e : ∀ z ∈ es1.toList, TE P w z) (p : (es1.toList.map tx).Perm L) (n : L.Nodup) (b : es1.size < scanBound) (ft : t2.fits es1.size = true) (r : Ris t2.place.toList) (l : w.params.followText "set-order" = true ∨ t2.led = true) {wd : Bool} {R : Option Bool → Shared → Prop}
    (q : ∀ h', Heap.SameBut a s.heap h' → TxR P w h' a L → R (some true) { s with heap := h' }) :
    wpAny (model P w) A (do storeSet a es1 t2; if (!wd && t2.tooFull) = true then do { f (relayAll t2 es1 (SetTable.grown es1.size)).2.2; storeSet a (relayAll t2 es1 (SetTable.grown es1.size)).1 (relayAll t2 es1 (SetTable.grown es1.size)).2.1; pure (some true) } else pure (some true)) R E s := by
  obtain ⟨g1, R1⟩ := stored (P := P) ho hd x e p n b ft r l
  have same := Heap.SameBut.update s.heap a (Obj.putSet es1 t2)
  refine wpAny_bind (wpAny_storeSet_of ho hd ?_ (fits_of_scanBound b))
  by_cases c : (!wd && t2.tooFull) = true
  · rw [if_pos c]
    have z1 := relayAll_perm t2 es1 (SetTable.grown es1.size)
    have z2 := relayAll_fits t2 es1 (SetTable.grown es1.size)
    have z3 := relayAll_ris t2 es1 (SetTable.grown es1.size)
    have z4 := relayAll_led t2 es1 (SetTable.grown es1.size)
    generalize relayAll t2 es1 (SetTable.grown es1.size) = Z at z1 z2 z3 z4 ⊢
    obtain ⟨es2, t3, gv⟩ := Z
    have sz : es2.size = es1.size := by
      have := z1.length_eq
      rwa [Array.length_toList, Array.length_toList] at this
    have b2 : es2.size < scanBound := by rw [sz]; exact b
    refine wpAny_bind (hf _ _ _ (wpAny_bind (wpAny_storeSet_of g1 rfl ?_ (fits_of_scanBound b2))))
    obtain ⟨g2, R2⟩ := stored (P := P) (s := { s with heap := s.heap.update a (Obj.putSet es1 t2) }) g1 rfl R1.x (fun z hz => e z (z1.mem_iff.mp hz)) ((z1.map tx).trans p) n b2 z2 z3 (l.imp id fun y => z4.trans y)
    exact wpAny_pure (q _ (same.trans (Heap.SameBut.update _ a _)) ⟨_, _, _, _, g2, R2⟩)
  · rw [if_neg c]
    exact wpAny_pure (q _ same ⟨_, _, _, _, g1, R1⟩)
def addL (L : List Str) (k : Str) : List Str := if k ∈ L then L else k :: L
theorem add_x {k : Str} {u : Tok} {Q : Bool → Shared → Prop} (R : TxR P w s.heap a L) (room : L.length + 1 < scanBound) (q : ∀ h', Heap.SameBut a s.heap h' → TxR P w h' a (addL L k) → Q (!decide (k ∈ L)) { s with heap := h' }) :
    wpAny (model P w) A (setAddHashed a (.str k u) ((PySem.strKind P w).hash k)) Q E s := by
  obtain ⟨o, es, ep, t, ho, R⟩ := R
  have isk : (PySem.strKind P w).is k (.str k u) = true := strKind_is P w k u
  have sc : (Value.str k u).scannable = true := rfl
  have el : ElemsOf (PySem.strKind P w) es.toList := te_el R.e
  unfold setAddHashed; unfold setAddHashedIn
  refine wpAny_holding (wpAny_bind (wpAny_setState_of ho R.d R.f ?_)); dsimp only
  rw [byScan_of sc R.b el, if_pos rfl]
  unfold setAddByScan
  refine wpAny_bind (wpAny_bind (wpAny_rule (wpAny_bind (wpAny_setScan_of isk ho R.d R.f el ?_))))
  cases fi : List.findIdx? (fun e => (PySem.strKind P w).is k e.2) es.toList with
  | some j =>
    obtain ⟨hj, pj, _⟩ := List.findIdx?_eq_some_iff_getElem.mp fi
    have m : k ∈ L := (R.has k).mpr ⟨_, List.getElem_mem hj, pj⟩
    have q := q s.heap (Heap.SameBut.refl a s.heap) (by unfold addL; rw [if_pos m]; exact ⟨o, es, ep, t, ho, R⟩)
    rw [decide_eq_true m] at q
    exact wpAny_pure (wpAny_pure q)
  | none =>
    have m : k ∉ L := fun y => by
      obtain ⟨z, hz, e⟩ := (R.has k).mp y
      rw [List.findIdx?_eq_none_iff.mp fi z hz] at e
      cases e
    have y1 := layNew_perm t es ((PySem.strKind P w).hash k) (.str k u)
    have y2 := layNew_fits t es ((PySem.strKind P w).hash k) (.str k u)
    have y3 := layNew_ris t es ((PySem.strKind P w).hash k) (.str k u) R.r
    have y4 := layNew_led t es ((PySem.strKind P w).hash k) (.str k u)
    dsimp only
    generalize layNew t es ((PySem.strKind P w).hash k) (.str k u) = Z at y1 y2 y3 y4 ⊢
    obtain ⟨es1, t1, wd, gv⟩ := Z
    dsimp only at y1 y2 y3 y4 ⊢
    rw [Array.toList_push] at y1
    have y1 := y1.trans (List.perm_append_singleton _ _)
    have e1 : ∀ z ∈ es1.toList, TE P w z := fun z hz => (List.mem_cons.mp (y1.mem_iff.mp hz)).elim (fun y => by rw [y]; exact ⟨k, u, rfl, rfl⟩) (R.e z)
    have p1 : (es1.toList.map tx).Perm (k :: L) := (y1.map tx).trans (R.p.cons k)
    have n1 : (k :: L).Nodup := List.nodup_cons.mpr ⟨m, R.n⟩
    have sz : es1.size = L.length + 1 := by
      have := p1.length_eq
      rwa [List.length_map, Array.length_toList] at this
    have b1 : es1.size < scanBound := by rw [sz]; exact room
    have l1 : w.params.followText "set-order" = true ∨ t1.led = true := R.l.imp id fun y => y4.trans y
    have gw : ∀ (b : Bool) (s1 : Shared) (Q' : Unit → Shared → Prop), Q' () s1 → wpAny (model P w) A (match b with | true => rule "set.scan.the-table-gave-way" | false => pure ()) Q' E s1 := fun b s1 Q' y => by
      cases b
      · exact wpAny_pure y
      · exact wpAny_rule y
    have fin : ∀ h', Heap.SameBut a s.heap h' → TxR P w h' a (k :: L) → Q true { s with heap := h' } := fun h' y z => by
      have := q h' y (by unfold addL; rw [if_neg m]; exact z)
      rwa [decide_eq_false m] at this
    refine wpAny_bind (gw _ _ _ ?_)
    by_cases c : t1.plain = true
    · rw [if_pos c]
      refine wpAny_bind ?_; rw [hashByValue_scannable 8 sc]; refine wpAny_pure ?_
      refine tail_x gw ho R.d R.x e1 p1 n1 b1 ?_ ?_ ?_ fun h' y z => wpAny_pure (fin h' y z)
      · split
        · exact y2
        · exact SetTable.fits_plain_off y2
      · split <;> exact y3
      · split <;> exact l1
    · rw [if_neg c]
      refine wpAny_bind (wpAny_pure ?_); simp only [if_true]
      exact tail_x gw ho R.d R.x e1 p1 n1 b1 y2 y3 l1 fun h' y z => wpAny_pure (fin h' y z)
end
section
def got (xs : List Str) (i : Nat) : List Str := (xs.take i).foldl addL []
theorem got_succ (xs : List Str) {i : Nat} (h : i < xs.length) : got xs (i + 1) = addL (got xs i) (xs.getD i Str.empty) := by
  unfold got
  rw [← List.take_append_getElem h, List.foldl_append]
  simp [List.getD, h]
theorem got_le (xs : List Str) : ∀ i, i ≤ xs.length → (got xs i).length ≤ i
  | 0, _ => by simp [got]
  | i + 1, h => by
    have := got_le xs i (by omega)
    rw [got_succ xs (by omega)]
    unfold addL
    split
    · omega
    · rw [List.length_cons]; omega
variable {prog : Program} {w : World} {A : Around} {R : Result → Shared → Prop} {I : Addr} {fp wr : List Addr} {G : Array GenState → Array GenState → Prop} {n : Nat} {P : Nat → Value → Prop} {St : Nat → Shared → Prop}
theorem loop_r (W : WalksS prog w A.in1 I fp wr G n P St) (S : Addr) (hSf : S ∉ fp) (xs : List Str) (hn : xs.length = n)
    (hval : ∀ i v, P i v → ∃ t, v = .str (xs.getD i Str.empty) t) (hb : n + 1 < scanBound) :
    ∀ (k i : Nat) (s : Shared), n - i = k → i ≤ n → St i s → TxR prog w s.heap S (got xs i) →
      (∀ s', Moved (S :: wr) G s s' → TxR prog w s'.heap S (got xs n) → R (.ok (.ret .none)) s') →
      codeAny (model prog w) A (.builtin "set.update.loop" ⟨[.ref S, .ref I], []⟩) R s := by
  have hSw : S ∉ wr := fun h => hSf (W.sub _ h)
  have moved : ∀ {s s' : Shared} {L : List Str}, Moved wr G s s' → TxR prog w s.heap S L → TxR prog w s'.heap S L := fun hm hS => hS.keep fun o ho => hm.heap S o hSw ho
  intro k
  induction k with
  | zero =>
    intro i s hk hi hst hS hR
    obtain rfl : i = n := by omega
    refine codeAny_builtin PyProof.Rows.F.entry_set_update_loop ?_
    rw [Around.under_plainId PyProof.Rows.F.plain_set_update_loop _]
    show wpAny _ A.in1 (pyNext (.ref I) >>= _) _ _ s
    refine wpAny_bind (W.done s _ _ hst fun s' hm => ?_)
    show wpAny _ A.in1 (ret Value.none) _ _ s'
    exact wpAny_pure (hR s' (hm.mono fun b hb => List.mem_cons_of_mem _ hb) (moved hm hS))
  | succ k ih =>
    intro i s hk hi hst hS hR
    have hlt : i < n := by omega
    refine codeAny_builtin PyProof.Rows.F.entry_set_update_loop ?_
    rw [Around.under_plainId PyProof.Rows.F.plain_set_update_loop _]
    show wpAny _ A.in1 (pyNext (.ref I) >>= _) _ _ s
    refine wpAny_bind (W.item i s _ _ hlt hst fun v s' hP hst' hm => ?_)
    obtain ⟨t, rfl⟩ := hval i v hP
    show wpAny _ A.in1 (holding [Value.str (xs.getD i Str.empty) t] (setAdd S (.str (xs.getD i Str.empty) t)) >>= _) _ _ s'
    refine wpAny_bind (wpAny_holding ?_)
    unfold setAdd
    refine wpAny_holding ?_
    refine wpAny_bind ((PySem.strKind prog w).pyHash (k := xs.getD i Str.empty) (strKind_is _ _ _ _) ?_)
    have hroom : (got xs i).length + 1 < scanBound := by have := got_le xs i (by omega); omega
    refine add_x (s := { s' with toks := s'.toks + 1 }) (show TxR prog w s'.heap S _ from moved hm hS) hroom fun h' hsb hS2 => ?_
    have hSi : TxR prog w h' S (got xs (i + 1)) := by rw [got_succ xs (by omega)]; exact hS2
    refine wpAny_pure ⟨plainId_quiet PyProof.Rows.F.plain_set_update_loop _, ih (i + 1) _ (by omega) hlt (W.frame _ s' _ _ hst' (Nat.le_succ _) fun b hb o e => ?_) hSi fun s'' hm'' hS'' => ?_⟩
    · rw [hsb.2 b (fun h : b = S => hSf (by rw [← h]; exact hb))]; exact e
    · refine hR s'' (Moved.trans W.gtrans ((hm.mono fun b hb => List.mem_cons_of_mem _ hb).then_heap (Nat.le_succ _) fun b o hb e => ?_) hm'') hS''
      rw [hsb.2 b (fun h : b = S => hb (by rw [h]; exact List.mem_cons_self))]; exact e
end
theorem fresh_r {P : Program} {w : World} {h : Heap} {a : Addr} (ho : h.get? a = some { cls := .type "set", dict := none, data := .set #[] 0 (.fresh 0 0 (!w.params.followText "set-order")) }) : TxR P w h a [] :=
  ⟨_, #[], 0, _, ho, ⟨⟨rfl, rfl, rfl⟩, rfl, fun z hz => (by simp at hz), (by simp), List.nodup_nil, (by decide), (by rfl), List.Pairwise.nil, by
    show _ ∨ (!w.params.followText "set-order") = true
    cases w.params.followText "set-order"
    · exact .inr rfl
    · exact .inl rfl⟩⟩
section
variable {prog : Program} {w : World} {A : Around} {E : Value → Shared → Prop} {s : Shared}
set_option maxHeartbeats 3200000 in
theorem call_set_r {l : Addr} {items : Array Value} {xs : List Str} {Q : Value → Shared → Prop}
    (hh : A.handled = none) (hl : s.heap.IsList l items) (hi : StrsAre items.toList xs) (hsz : xs.length = items.size) (hb : items.size + 1 < scanBound)
    (h : ∀ (h' : Heap) (tk : Nat), TxR prog w h' s.heap.objs.size (got xs items.size) →
      (∀ b o, b < s.heap.objs.size → s.heap.get? b = some o → h'.get? b = some o) → Q (.ref s.heap.objs.size) { s with heap := h', toks := tk }) :
    wpAny (model prog w) A (call (.type "set") [.ref l]) Q E s := by
  obtain ⟨c, tl, hmro⟩ := PySem.F.called_set.mro
  have hmade := PySem.F.called_set.made
  have hsub := PySem.F.called_set.sub
  refine wpAny_call (codeAny_of_tree ?_)
  show wpAny _ _ (callAny (.type "set") _) _ _ _
  refine wpAny_pure ⟨Code.quiet_builtin _ (by decide +kernel), codeAny_builtin PySem.F.entry_type_call ?_⟩
  rw [Around.under_plain (weight_type_call_type "set" [.ref l] []) rfl]
  have h1 := PySem.F.called_set.notType
  have h2 := PySem.F.called_set.canCreate
  have hct := PySem.F.typeCall_set_1 (.ref l)
  repeat (any_goals (first | assumption | wp_step))
  refine codeAny_mono (code_set_led1 (.ref l) (E := E) (Q₁ := fun obj s₁ => obj = .ref s.heap.objs.size ∧ s₁ = { s with heap := s.heap.push { cls := .type "set", dict := none, data := .set #[] 0 (.fresh 0 0 (!w.params.followText "set-order")) } }) ⟨rfl, rfl⟩) fun r s₁ hr => ?_
  cases r with
  | error e => exact hr
  | ok fl =>
    cases fl with
    | ret obj =>
      obtain ⟨rfl, rfl⟩ := hr
      have hS : (s.heap.push { cls := .type "set", dict := none, data := .set #[] 0 (.fresh 0 0 (!w.params.followText "set-order")) }).get? s.heap.objs.size = some { cls := .type "set", dict := none, data := .set #[] 0 (.fresh 0 0 (!w.params.followText "set-order")) } := Heap.get?_push_size _ rfl
      have hT : Shared.TypeIs { s with heap := s.heap.push { cls := .type "set", dict := none, data := .set #[] 0 (.fresh 0 0 (!w.params.followText "set-order")) } } (.ref s.heap.objs.size) "set" := ⟨_, hS, rfl⟩
      have hli := PySem.F.called_set.init.lookup
      have hbi := PySem.F.called_set.init.bind (.ref s.heap.objs.size)
      repeat (any_goals (first | assumption | wp_step))
      refine codeAny_mono (codeAny_call_builtin (R := wants (fun r s₂ => r = .none ∧ ∃ h' tk, s₂ = { s with heap := h', toks := tk } ∧
          TxR prog w h' s.heap.objs.size (got xs items.size) ∧
          (∀ b o, b < s.heap.objs.size → s.heap.get? b = some o → h'.get? b = some o)) E) PySem.F.called_set.init.plain PySem.F.entry_set_init (check_set_init_1 hT ?_)) fun r₂ s₂ hr₂ => ?_
      · obtain ⟨⟨ocls, odict, odata, oslots⟩, hol, hcl, nl, hdl⟩ := hl
        simp only at hcl hdl
        subst hcl; subst hdl
        have hol' : (s.heap.push { cls := .type "set", dict := none, data := .set #[] 0 (.fresh 0 0 (!w.params.followText "set-order")) }).get? l = some { cls := .type "list", dict := odict, data := .seq items nl, slots := oslots } := Heap.get?_push_of_some _ hol
        have hsls := PySem.F.sub_list_set
        have hslf := PySem.F.sub_list_frozenset
        have hne : (Value.type "list" == Value.type "dict") = false := by decide
        have hl1 : (s.heap.push { cls := .type "set", dict := none, data := .set #[] 0 (.fresh 0 0 (!w.params.followText "set-order")) }).IsList l items := ⟨_, hol', rfl, nl, rfl⟩
        unfold Builtin.«set.__init__» noKeywords Builtin.Frozenset.updateFrom
        generalize hPI : pyIter = PI
        wp_walk
        subst hPI
        refine wpAny_pyIter_list hl1 ?_
        refine wpAny_bind (wpAny_runValue ?_)
        have hlS : l < s.heap.objs.size := Heap.lt_size hol
        have hsz' : (s.heap.push { cls := .type "set", dict := none, data := .set #[] 0 (.fresh 0 0 (!w.params.followText "set-order")) }).objs.size = s.heap.objs.size + 1 := Heap.size_push _ _
        have hh3 : A.in1.in1.in1.handled = none := by simp [hh]
        have hneI : l ≠ (s.heap.push { cls := .type "set", dict := none, data := .set #[] 0 (.fresh 0 0 (!w.params.followText "set-order")) }).objs.size := by rw [hsz']; exact Nat.ne_of_lt (Nat.lt_succ_of_lt hlS)
        have hSf : s.heap.objs.size ∉ [(s.heap.push { cls := .type "set", dict := none, data := .set #[] 0 (.fresh 0 0 (!w.params.followText "set-order")) }).objs.size, l] := by
          rw [hsz']; simp only [List.mem_cons, List.not_mem_nil, or_false, not_or]
          exact ⟨Nat.ne_of_lt (Nat.lt_succ_self _), Nat.ne_of_gt hlS⟩
        refine loop_r ((Walks.list hh3 _ l hneI items).toS) s.heap.objs.size hSf xs hsz (fun i v hv => SetL.text_at hi i v (by rw [Array.getElem?_toList]; exact hv)) hb (items.size - 0) 0 _ (by omega) (Nat.zero_le _)
          ⟨⟨_, Heap.get?_push_size _ rfl, rfl, rfl⟩, (hl1.push _)⟩ ?hS0 ?hR
        case hS0 =>
          have hget : ((s.heap.push { cls := .type "set", dict := none, data := .set #[] 0 (.fresh 0 0 (!w.params.followText "set-order")) }).push { cls := .type "list_iterator", data := .fields #[.ref l, .int 0 0] }).get? s.heap.objs.size
              = some { cls := .type "set", dict := none, data := .set #[] 0 (.fresh 0 0 (!w.params.followText "set-order")) } := Heap.get?_push_of_some _ hS
          exact fresh_r hget
        case hR =>
          intro s' hm hS'
          obtain ⟨h', g', d', tk', os'⟩ := s'
          have eg : g' = s.gens := hm.gens
          have ed : d' = s.drawn := hm.drawn
          have eo : os' = s.os := hm.os
          subst eg; subst ed; subst eo
          show wpAny _ _ _ _ _ _
          refine wpAny_pure ?_
          show wpAny _ _ (ret Value.none) _ _ _
          refine wpAny_pure ⟨rfl, h', tk', rfl, hS', fun b o hb e => ?_⟩
          exact hm.heap b o (by rw [hsz']; simp only [List.mem_cons, List.not_mem_nil, or_false, not_or]; exact ⟨Nat.ne_of_lt hb, Nat.ne_of_lt (Nat.lt_succ_of_lt hb)⟩) (Heap.get?_push_of_some _ (Heap.get?_push_of_some _ e))
      · cases r₂ with
        | error e => exact hr₂
        | ok fl₂ =>
          cases fl₂ with
          | ret r =>
            obtain ⟨rfl, h', tk, rfl, hS', hk'⟩ := hr₂
            repeat (any_goals (first | assumption | wp_step))
            exact h _ _ hS' hk'
          | _ => exact hr₂.elim
    | _ => exact hr.elim
end
section
variable {P : Program} {w : World} {A : Around} {E : Value → Shared → Prop} {s : Shared} {a : Addr} {L : List Str}
theorem strs_of : ∀ (vs : List Value), (∀ v ∈ vs, ∃ x u, v = Value.str x u) → StrsAre vs (vs.map fun v => tx (0, v))
  | [], _ => .nil
  | v :: vs, h => by
    obtain ⟨x, u, rfl⟩ := h v List.mem_cons_self
    exact .cons _ _ (strs_of vs fun v hv => h v (List.mem_cons_of_mem _ hv))
theorem sorted_r {Q : Value → Shared → Prop} (R : TxR P w s.heap a L) (hh : A.handled = none) (h64 : L.length < 64)
    (q : ∀ s' p (out : Array Value) (c : Nat) (ss : List Str), (∀ b o, s.heap.get? b = some o → s'.heap.get? b = some o) → s'.gens = s.gens → s'.os = s.os → s.heap.objs.size ≤ p → s'.heap.get? p = some (seqObj "list" out c) → StrsAre out.toList ss → ss.Perm L → sortedS ss = true → Q (.ref p) s') :
    wpAny (model P w) A (call (.builtin "sorted") [.ref a]) Q E s := by
  obtain ⟨o, es, ep, t, ho, R⟩ := R
  refine Calls.call_function_entry kind_sorted plain_sorted entry_sorted (args_sorted1 _) ?_; unfold Builtin.«sorted»
  refine wpAny_bind (m := checkCount "sorted" 1 1 _) (wpAny_pure ?_); refine wpAny_bind (collect_set (A := A.in1) hh ⟨o, ho, R.x.1, R.d⟩ R.f R.b R.r R.l fun s1 vs k1 hz g1 o1 pm => ?_)
  have vl : vs.length = L.length := by rw [pm.length_eq, List.length_map, Array.length_toList, R.size]
  have vt : ∀ v ∈ vs, ∃ x u, v = Value.str x u := fun v hv => by
    obtain ⟨z, hz, e⟩ := List.mem_map.mp (pm.mem_iff.mp hv)
    obtain ⟨x, u, e1, _⟩ := R.e z hz
    exact ⟨x, u, by rw [← e]; exact e1⟩
  have hS := strs_of vs vt
  have pL : (vs.map fun v => tx (0, v)).Perm L := by
    have := pm.map fun v => tx (0, v)
    rw [List.map_map] at this
    exact this.trans R.p
  refine wpAny_bind (wpAny_newList ?_ (by rw [vl, sizeLine_eq]; omega))
  have hoL : (s1.heap.push (seqObj "list" vs.toArray 0)).get? s1.heap.objs.size = some (seqObj "list" vs.toArray 0) := Heap.get?_push_size _ rfl
  refine wpAny_bind (wpAny_holding (wpAny_call_entry slot_list_sort ⟨_, hoL, rfl⟩ entry_list_sort (list_sort_treeK strKind_oneLt hoL hS.keysOf (fun v1 v2 rest e => keyKind_strs (by rw [← e]; exact hS)) (by rw [vl]; exact h64) fun st' a1 a2 => ⟨_, rfl, ?_⟩) (args_list_sort _)))
  obtain ⟨ss, h1, h2, h3⟩ := sorted_out_str hS a1 a2
  obtain ⟨c, hc⟩ := sortedHeap_at (vs := vs) (out := (arrOf st').map (·.2)) hoL
  refine wpAny_pure ⟨_, rfl, q _ s1.heap.objs.size _ c ss (fun b u e => ?_) g1 o1 hz hc h1 (h2.trans pL) h3⟩
  have q := k1 b u e
  have lt := Heap.lt_size q
  show (sortedHeap (s1.heap.push (seqObj "list" vs.toArray 0)) s1.heap.objs.size vs _).get? b = some u
  rw [sortedHeap_old (Nat.ne_of_lt lt) (by rw [size_push']; exact Nat.lt_succ_of_lt lt)]
  exact Heap.get?_push_of_some _ q
end
end SetR
set_option maxHeartbeats 2000000
namespace Sm
open PySem PySem.Spec PyProof.Rows L2 SetR
def tSortT (K : PySem.W.Frag) (ta : TE) : TE := fun σ H Q => ta σ H fun x H1 => ∃ l, ∃ xs : List Str, x = .ref l ∧ SqL K H1 l (xs.map V.str) ∧ xs.length ≤ 4000 ∧ (got xs xs.length).length < 64 ∧ ∀ p : Addr, H1 p = none → Q (.ref p) (upd H1 p (.lst ((srt (got xs xs.length)).map V.str)))
theorem pe_sortT {X : Cx} {a : Expr} {ta : TE} {p p2 q pos : Pos} (hc : X.calm = true) (ha : PE X a ta) (hm : X.mg "sorted" = none) (hm2 : X.mg "set" = none) (hg : Gl X "sorted" := by rfl) (hg2 : Gl X "set" := by rfl)
    (na : starEach [a] X.env = (false, eval a X.env) :: starEach [] X.env := by rfl) : PE X (.Call (.Name "sorted" p) [.Call (.Name "set" p2) [a] [] q] [] pos) (tSortT X.K ta) := by
  refine ⟨fun pins s σ H Q I h => ?_⟩
  refine Call_ (ld_blt I hg hm boot_sorted ?_)
  refine PyProof.Rows.callWith_builtin1 (PyProof.Rows.args_cons ?_ rfl) rfl rfl
  refine Call_ (ld_blt I hg2 hm2 boot_set ?_)
  refine PyProof.Rows.callWith_type1 (PyProof.Rows.args_cons (thn (ha.run pins s σ H _ I h) fun v s1 ⟨x, H1, I1, r1, q1⟩ => PyProof.Rows.args_nil ?_) na) na rfl
  obtain ⟨l, xs, rfl, hq, hl, h64, q1⟩ := q1
  cases r1
  obtain ⟨its, r, pl, hz⟩ := I1.list hq
  have hlen : its.toArray.size = xs.length := by rw [List.size_toArray, ← r.length, List.length_map]
  refine call_set_r (xs := xs) (I1.ok.hd hc) pl.isList (by simpa using strsAre_of r) hlen.symm (by rw [hlen]; unfold scanBound; omega) fun h' tk hS hk => ?_
  refine PyProof.Rows.args_nil ?_
  rw [hlen] at hS
  have I2 : Inv X pins σ H1 { s1 with heap := h', toks := tk } := I1.kept fun b o e => hk b o (Heap.lt_size e) e
  have hS : TxR _ _ ({ s1 with heap := h', toks := tk } : Shared).heap _ _ := hS
  generalize ({ s1 with heap := h', toks := tk } : Shared) = s2 at I2 hS ⊢
  refine sorted_r hS (I2.ok.hd hc) h64 fun s' p out c ss k g o hp hg hi pm so => ?_
  have es := sorted_srt pm so
  subst es
  have hn : H1 p = none := I2.hok.fresh hp
  have hlen2 : ((srt (got xs xs.length)).map V.str).length ≤ sizeLine := by rw [List.length_map, pm.length_eq, sizeLine_eq]; omega
  have J : Inv X pins σ (upd H1 p (.lst ((srt (got xs xs.length)).map V.str))) { s2 with heap := s'.heap, gens := s'.gens, drawn := s'.drawn, toks := s'.toks } :=
    I2.call (ch := []) (Un.laid k hp hn) (I2.hok.laid k hp ⟨hlen2, out.toList, c, vals_of_strs hi, hg⟩) (by rw [g]; exact I2.bare) (fun _ z => nomatch z)
  have e : s' = { s2 with heap := s'.heap, gens := s'.gens, drawn := s'.drawn, toks := s'.toks } := by
    cases s'; cases s2; cases o
    rfl
  rw [e]
  exact ⟨.ref p, _, J, rfl, q1 p hn⟩
def iSortT (cell : Bool) (m : IE) : IE := fun Λ S => (m Λ S).bind fun x S1 => orBad (lstOf S1 x) fun ys => orBad (strsOf ys) fun zs => chk (zs.length ≤ 4000 ∧ (got zs zs.length).length < 64) (mkL cell ((srt (got zs zs.length)).map IV.str) S1)
theorem de_sortT {X : Cx} {W : WZ} {a : Expr} {m : IE} {p p2 q pos : Pos} (cell : Bool) (hc : X.calm = true) (ha : DE X W a m) (hm : X.mg "sorted" = none) (hm2 : X.mg "set" = none) (hg : Gl X "sorted" := by rfl) (hg2 : Gl X "set" := by rfl)
    (na : starEach [a] X.env = (false, eval a X.env) :: starEach [] X.env := by rfl) : DE X W (.Call (.Name "sorted" p) [.Call (.Name "set" p2) [a] [] q] [] pos) (iSortT cell m) :=
  (pe_sortT hc ha hm hm2 hg hg2 na).imp fun σ H Q ⟨w, S, Λ, r0, s0, h⟩ => ⟨w, S, Λ, r0, s0, h.bind.imp fun w1 H1 S1 ix l1 r1 p1 v1 rv1 => by
    obtain ⟨ys, e1, p1⟩ := orBad_post p1
    obtain ⟨zs, e2, p1⟩ := orBad_post p1
    obtain ⟨c, p1⟩ := chk_post p1
    obtain ⟨b, vs, rfl, h1, h2⟩ := lstOf_sq e1 r1 rv1
    have := strsOf_rel e2 h2
    subst this
    exact ⟨b, zs, rfl, h1, c.1, c.2, fun q hq => (mkL_post p1 r1 (relL_strs _)).2 q hq⟩⟩
end Sm
set_option maxHeartbeats 2000000
namespace Sm
open PySem PySem.Spec PyProof.Rows L2
set_option maxHeartbeats 2000000
set_option maxHeartbeats 400000
def a3 {α : Type} (xs : List IV) (k : IV → IV → IV → Out α) : Out α := match xs with
  | [x, y, z] => k x y z
  | _ => .bad
theorem a3_post {α : Type} {K : KX} {W : WX} {w : Wd} {P : Wd → Hp → Sto → α → Prop} {xs : List IV} {vs : List V} {k : IV → IV → IV → Out α} (h : Post K W w (a3 xs k) P) (r : RelL K w vs xs) :
    ∃ v x u y t z, vs = [v, u, t] ∧ xs = [x, y, z] ∧ Rel K w v x ∧ Rel K w u y ∧ Rel K w t z ∧ Post K W w (k x y z) P := by
  unfold a3 at h
  split at h
  · cases r with
    | cons a b =>
      cases b with
      | cons b c =>
        cases c with
        | cons c d => cases d; exact ⟨_, _, _, _, _, _, rfl, rfl, a, b, c, h⟩
  · exact h.elim
def iPar3 (i j l : Nat) (ma : IA) : IS := fun Λ S => (ma Λ S).bind fun xs S1 => a3 xs fun x y z => .ok (.nx (((Λ.set i (some x)).set j (some y)).set l (some z))) S1
theorem ds_par3 {X : Cx} {W : WZ} {pos : Pos} {x y z : Str} {a b c : Expr} {ma : IA} {px py pz pt : Pos} {kt k2 pt2} (i j l : Nat) (hc : X.calm = true) (hN : X.N.Nodup) (ha : DA X W [a, b, c] ma) (hij : i ≠ j := by decide) (hil : i ≠ l := by decide) (hjl : j ≠ l := by decide)
    (hi : X.N[i]? = some x := by rfl) (hj : X.N[j]? = some y := by rfl) (hl : X.N[l]? = some z := by rfl)
    (hx : X.env.scope.names.lookup x = some .local := by rfl) (hy : X.env.scope.names.lookup y = some .local := by rfl) (hz : X.env.scope.names.lookup z = some .local := by rfl)
    (hw : swappedStores [.Tuple [.Name x px, .Name y py, .Name z pz] kt pt] (.Tuple [a, b, c] k2 pt2) X.env = pure (some [x, y, z]) := by rfl)
    (hs : swapsWithSole [.Tuple [.Name x px, .Name y py, .Name z pz] kt pt] (.Tuple [a, b, c] k2 pt2) pos.line X.env = pure false := by rfl) :
    DS X W (.Assign [.Tuple [.Name x px, .Name y py, .Name z pz] kt pt] (.Tuple [a, b, c] k2 pt2) pos) (iPar3 i j l ma) :=
  (ps_par3 hc hN hi hj hl hij hil hjl hx hy hz ha hw hs).imp fun D σ H ⟨w, S, Λ, r0, s0, p⟩ => ⟨w, S, Λ, r0, s0, p.bind.imp fun w1 H1 S1 ix l1 r1 p1 vs rvs => by
    obtain ⟨v, x, u, y, t, z, rfl, rfl, rv, ru, rt, q⟩ := a3_post p1 rvs
    exact ⟨v, u, t, rfl, q.now r1 _ ((((s0.up l1).set i rv).set j ru).set l rt)⟩⟩
end Sm
namespace PySem.W
open PySem PySem.Calls PyProof.Rows Builtin
section
variable {prog : Program} {w : World} {A : Around} {E : Value → Shared → Prop} {s : Shared} {K : Frag} {x C L f : Addr} {h₀ : Heap} {m : Str → Option Value} {ox : Obj} {od : Option Obj} {b tb : Value}
theorem one_entry {Q : Fin → Shared → Prop} (hu : A.units < cLine) (X : K.In s.heap) (I : InstAt s.heap x ox C od) (hs : findIn K (.ref C) "__eq__" = some (some (.ref f))) (hf : isFn K (.ref f) = true)
    (h : wpAny (model prog w) A (call (.ref f) [.ref x, b]) (fun v s' => ∃ k, v = .bool k ∧ Q (.done (.ret (.bool (!k)))) s') E s) :
    wpAny (model prog w) A (Builtin.«object.__ne__» ⟨[.ref x, b], []⟩) Q E s := by
  unfold Builtin.«object.__ne__»
  repeat (first
    | with_reducible refine wpAny_cRoomFor hu ?_
    | (refine wpAny_bind (m := callSpecialIfBound? (.ref x) (Str.ofString "__eq__") [b])
        (ifBound_K X I hs hf (wpAny_mono h (fun r s' hr => by
          obtain ⟨k, rfl, hq⟩ := hr
          repeat (first | exact hq | exact wpAny_pure hq | exact wpAny_truthy_bool hq | (refine wpAny_bind (m := truthy (.bool _)) (wpAny_truthy_bool ?_)) | wp_step)) fun _ _ e => e)))
    | wp_step)
theorem one_check {Q : Unit → Shared → Prop} {rest : List Value} (X : K.In s.heap) (I : InstAt s.heap x ox C od) (ho : subIn K (.ref C) (.type "object") = some true) (ha : argsOk "object.__ne__" ⟨.ref x :: rest, []⟩) (hq : Q () s) :
    wpAny (model prog w) A (checkBuiltinCall "object.__ne__" ⟨.ref x :: rest, []⟩) Q E s := by
  simp only [checkBuiltinCall, F.cmpKind_ne, F.cmpSplit_ne]
  refine wpAny_bind ?_
  unfold isInstance
  refine wpAny_bind (I.type.here ((looks_subIn X ho).here ?_))
  have fin : wpAny (model prog w) A (match Manifest.signature? "object.__ne__" with | some sig => Bind.checkArgs "object.__ne__" sig ⟨.ref x :: rest, []⟩ | none => pure ()) Q E s := by
    cases hsig : Manifest.signature? "object.__ne__" with
    | none => exact wpAny_pure hq
    | some sig =>
      simp only [argsOk, hsig] at ha
      have h2 : Bind.checkArgs "object.__ne__" sig ⟨.ref x :: rest, []⟩ = pure () := ha
      show wpAny _ A (Bind.checkArgs "object.__ne__" sig ⟨.ref x :: rest, []⟩) Q E _
      rw [h2]; exact wpAny_pure hq
  repeat (first | exact fin | wp_step)
theorem one_call {Q : Value → Shared → Prop} (hu : A.in1.units < cLine) (X : K.In s.heap) (I : InstAt s.heap x ox C od) (ho : subIn K (.ref C) (.type "object") = some true) (hs : findIn K (.ref C) "__eq__" = some (some (.ref f))) (hf : isFn K (.ref f) = true)
    (h : wpAny (model prog w) A.in1 (call (.ref f) [.ref x, b]) (fun v s' => ∃ k, v = .bool k ∧ Q (.bool (!k)) s') E s) :
    wpAny (model prog w) A (call (.builtin "object.__ne__") [.ref x, b]) Q E s := by
  refine wpAny_call (codeAny_call_builtin PySem.F.slot_object_ne.plain F.cmpEntry_ne (one_check X I ho (F.cmpArgs_ne _ _) (one_entry hu X I hs hf (wpAny_mono h (fun v s' hv => ?_) fun _ _ e => e))))
  obtain ⟨k, rfl, hq⟩ := hv
  first | exact ⟨k, rfl, wpAny_pure hq⟩ | exact ⟨k, rfl, wpAny_pure (wpAny_pure hq)⟩ | exact ⟨k, rfl, hq⟩
theorem ne_K {Q : Value → Shared → Prop} (hu : A.units < cLine) (hu1 : A.in1.units < cLine) (F0 : Fr h₀ L s.heap m) (X₀ : K.In h₀) (I : InstAt s.heap x ox C od) (hb : Looks (model prog w) s.heap (typeOf b) tb) (hn : notFirst K C tb = true)
    (hne : findIn K (.ref C) "__ne__" = some (some (.builtin "object.__ne__"))) (ho : subIn K (.ref C) (.type "object") = some true)
    (hs : findIn K (.ref C) "__eq__" = some (some (.ref f))) (hf : isFn K (.ref f) = true)
    (h : wpAny (model prog w) A.in1 (call (.ref f) [.ref x, b]) (fun v s' => ∃ k, v = .bool k ∧ Q (.bool (!k)) s') E s) : wpAny (model prog w) A (compareOp .NotEq (.ref x) b) Q E s := by
  have X := X₀.keeps F0.keep
  have one : wpAny (model prog w) A (tryCompare (.ref x) (cmpInfo .NotEq).2.1 b) (fun r s' => ∃ v, r = some v ∧ Q v s') E s := by
    unfold tryCompare
    refine wpAny_bind ?_
    have call1 : wpAny (model prog w) A (call (.builtin "object.__ne__") ([.ref x] ++ [b]) >>= fun v => pure (some v)) (fun r s' => ∃ k : Bool, r = some (.bool k) ∧ Q (.bool k) s') E s :=
      wpAny_bind (one_call hu1 X I ho hs hf (wpAny_mono h (fun v s' ⟨k, e, q⟩ => ⟨k, e, wpAny_pure ⟨_, rfl, q⟩⟩) fun _ _ e => e))
    have all : wpAny (model prog w) A (callSpecialIfBound? (.ref x) (cmpInfo .NotEq).2.1 [b]) (fun r s' => ∃ k : Bool, r = some (.bool k) ∧ Q (.bool k) s') E s := by
      simp only [callSpecialIfBound?, bindSpecialIfBound?]
      refine wpAny_holding (wpAny_bind (wpAny_bind (wpAny_bind (I.type.here ((looks_findIn X hne).here ?_)))))
      refine wpAny_bind (wpAny_askSetting (wpAny_ite ?_))
      simp only [PySem.F.slot_object_ne.bind]
      split
      · exact wpAny_bind (wpAny_pure (wpAny_pure call1))
      · exact wpAny_tryCatch (wpAny_bind (wpAny_pure (wpAny_pure call1)))
    refine wpAny_mono all (fun r s' z => ?_) fun _ _ e => e
    obtain ⟨k, rfl, q⟩ := z
    exact wpAny_pure ⟨_, rfl, q⟩
  show wpAny (model prog w) A (richCompare .NotEq (.ref x) b) Q E s
  unfold richCompare
  simp only [oneThing_ref]
  refine wpAny_holding (wpAny_bind (wpAny_cRoomFor hu ?_))
  refine wpAny_bind (I.type.here (wpAny_bind (hb.here ?_)))
  split
  · rename_i q
    have e : subIn K tb (.ref C) = some false := by
      rcases Bool.or_eq_true_iff.mp hn with e | e
      · rw [beq_iff_eq.mp e] at q; simp at q
      · exact beq_iff_eq.mp e
    refine wpAny_bind ((looks_subIn X e).here ?_)
    simp only [Bool.false_eq_true, if_false]
    refine wpAny_bind (wpAny_mono one (fun r s' z => ?_) fun _ _ e => e)
    obtain ⟨v, rfl, hq⟩ := z
    exact wpAny_pure hq
  · refine wpAny_bind (wpAny_pure ?_)
    simp only [Bool.false_eq_true, if_false]
    refine wpAny_bind (wpAny_mono one (fun r s' z => ?_) fun _ _ e => e)
    obtain ⟨v, rfl, hq⟩ := z
    exact wpAny_pure hq
theorem boolCall_K {Q : Value → Shared → Prop} (F0 : Fr h₀ L s.heap m) (X₀ : K.In h₀) (I : InstAt s.heap x ox C od) (hs : findIn K (.ref C) "__bool__" = some (some (.ref f))) (hf : isFn K (.ref f) = true)
    (h : wpAny (model prog w) A.in1.in1 (call (.ref f) [.ref x]) (fun v s' => ∃ k, v = .bool k ∧ Q (.bool k) s') E s) : wpAny (model prog w) A (call (.type "bool") [.ref x]) Q E s := by
  refine callType_codes (T := "bool") (Bi := Builtin.«object.__init__») (Q₁ := fun r s₁ => ∃ k, r = .bool k ∧ Q r s₁) PySem.F.called_bool (PySem.F.typeCall_bool_1 _) PySem.F.entry_object_init ?_ ?_
  · refine codeAny_of_tree ?_
    show wpAny _ A.in1.in1 (do checkBuiltinCall "bool.__new__" ⟨[.type "bool", .ref x], []⟩; again (.builtin "bool.__new__" ⟨[.type "bool", .ref x], []⟩)) _ _ s
    refine wpAny_bind (wpAny_of_eq (PySem.F.newCall_bool_1 _) (wpAny_pure ⟨plainId_quiet (by decide +kernel) _, codeAny_builtin PySem.F.entry_bool_new ?_⟩))
    rw [Around.under_plainId (by decide +kernel) _]
    have ht : wpAny (model prog w) A.in1.in1 (truthy (.ref x)) (fun k s' => Q (.bool k) s') E s := truthy_K F0 X₀ I hs hf (wpAny_mono h (fun v s' ⟨k, e, q⟩ => by rw [e]; exact q) fun _ _ e => e)
    have f1 := F.conv_sub_bool
    unfold Builtin.«bool.__new__»
    repeat (any_goals (first | assumption | (refine wpAny_bind (m := truthy (.ref x)) (wpAny_mono ht (fun k s' q => ?_) fun _ _ e => e)) | wp_step))
    all_goals first | exact ⟨_, rfl, k, rfl, q⟩ | exact ⟨k, rfl, q⟩ | exact ⟨_, rfl, q⟩
  · rintro obj s₁ ⟨k, rfl, hq⟩
    exact ⟨rfl, PySem.F.args_object_init_2 _ _, object_init_meets PySem.F.called_bool.init.lookup PySem.F.called_bool.made (by decide) prog w A.in1 _ s₁ ⟨rfl, rfl, hq⟩⟩
end
end PySem.W
namespace Sm
open PySem PySem.Spec PyProof.Rows L2 NwS
def six : List String := ["NoneType", "bool", "int", "str", "list", "tuple"]
theorem notFirst_six {K : PySem.W.Frag} {Ca : Addr} {T : String} (h : T ∈ six) : PySem.W.notFirst K Ca (.type T) = true := by
  have key : ∀ l : List Value, fastBuiltinMro T = some l → l.contains (Value.ref Ca) = false → PySem.W.notFirst K Ca (.type T) = true := fun l e1 e2 => by
    unfold PySem.W.notFirst
    have : PySem.W.subIn K (.type T) (.ref Ca) = some false := by
      show (fastBuiltinMro T).map (·.contains (Value.ref Ca)) = some false
      rw [e1]
      show some (l.contains (Value.ref Ca)) = _
      rw [e2]
    rw [this]
    simp
  simp only [six, List.mem_cons, List.not_mem_nil, or_false] at h
  rcases h with rfl | rfl | rfl | rfl | rfl | rfl
  · exact key [.type "NoneType", .type "object"] (by decide +kernel) rfl
  · exact key [.type "bool", .type "int", .type "object"] (by decide +kernel) rfl
  · exact key [.type "int", .type "object"] (by decide +kernel) rfl
  · exact key [.type "str", .type "object"] (by decide +kernel) rfl
  · exact key [.type "list", .type "object"] (by decide +kernel) rfl
  · exact key [.type "tuple", .type "object"] (by decide +kernel) rfl
def EqOkA (C : Str) (S : Sto) (y : IV) : Bool := EqOk C S y || (match tyN S y with | some t => decide (t ∈ six) | none => false)
def fCmpO (C : Str) (mf : List IV → Sto → Out IV) (neg : Bool) (x y : IV) (S : Sto) : Out IV := chk (EqOkA C S y = true) (fOwn2 C mf neg x y S)
abbrev rCmpO (X : Cx) (C : Str) (mf : List IV → Sto → Out IV) (neg : Bool) : R2 := fun x y H Q => ((∃ T, T ∈ six ∧ TyX X.K H y (.type T)) ∨ ∃ (b Ca dy : Addr) (gs : List (Str × V)), y = .ref b ∧ X.mg C = some (.ref Ca) ∧ H b = some (.ins Ca dy gs)) ∧ rOwn2 X C mf neg x y H Q
theorem os_cmpO {X : Cx} {W : WZ} {C : Str} {mf : List IV → Sto → Out IV} {neg : Bool} : OpS (kx X W) W.x (rCmpO X C mf neg) (fCmpO C mf neg) := fun w S H x y ix iy Q r rx ry p => by
  obtain ⟨c, p⟩ := chk_post p
  refine ⟨?_, own2_s w S H x y ix iy Q r rx ry p⟩
  unfold EqOkA at c
  rcases Bool.or_eq_true_iff.mp c with c | c
  · unfold EqOk at c
    split at c
    · cases ry
      exact .inl ⟨"str", by decide, .base (.str _)⟩
    · rename_i n
      split at c
      · rename_i D fs e
        have e2 := of_decide_eq_true c
        subst e2
        cases ry with
        | adr hr =>
          obtain ⟨Ca, dx, ps, h0, h1, h2⟩ := r.cell _ _ _ e hr
          exact .inr ⟨_, Ca, dx, ps, rfl, h0, h1⟩
      · cases c
    · cases c
  · split at c
    · rename_i t e
      exact .inl ⟨t, of_decide_eq_true c, tyN_rel r ry e⟩
    · cases c
section
variable {X : Cx} {C : Str} {k : Nat} {p1 p2 : Str} {mf : List IV → Sto → Out IV}
theorem run_ownA {A : Around} {m : Str} {pins : List (Addr × Obj)} {σ : L2.St} {H : Hp} {s : Shared} {Q : VK} {vs : List V} {us : List Value} {ps : List Str} {a Ca dx : Addr} {fs : List (Str × V)} (hA : A.frames = X.A.frames) (c : MCal X.prog X.w X.K X.mg X.base C m k ps mf) (hr : RmG k A) (I : Inv X pins σ H s) (rx : Vals vs us)
    (hm : X.mg C = some (.ref Ca)) (ha : H a = some (.ins Ca dx fs)) (q : spM X.K X.mg ps.length mf (.ref a :: vs) H Q fun _ _ _ => False) :
    ∃ (f : Addr) (ox od : Obj), PySem.W.InstAt s.heap a ox Ca (some od) ∧ PySem.W.findIn X.K (.ref Ca) m = some (some (.ref f)) ∧ PySem.W.isFn X.K (.ref f) = true ∧
      wpAny (model X.prog X.w) A (call (.ref f) (.ref a :: us)) (fun r s' => ∃ (v : V) (H' : Hp), RelV v r ∧ Inv X pins σ H' s' ∧ Q v H') X.xe s := by
  obtain ⟨Cb, f, fd, hm2, hc, hM, hb, F⟩ := c
  have e := hm.symm.trans hm2
  cases e
  obtain ⟨mA, J, _⟩ := ins_get I.hok ha
  obtain ⟨od, J, _⟩ := J.look
  refine ⟨f, _, _, J, hM.at_, hM.fn, ?_⟩
  have go := run_fnIn (A := A) (E := WE W0) (us := .ref a :: us) (vs := .ref a :: vs) hA F hr hb (passAt takesW0 σ) I (.cons rfl rx) (Q := Q) q
  refine wpAny_mono go (fun r s1 z => ?_) fun _ _ z => z
  obtain ⟨y, H1, I1, ry, q1⟩ := z
  exact ⟨y, H1, ry, I1, q1⟩
theorem other_ty {pins : List (Addr × Obj)} {σ : L2.St} {H : Hp} {s : Shared} {y : V} {u : Value} {Ca : Addr} (I : Inv X pins σ H s) (ry : RelV y u) (hm : X.mg C = some (.ref Ca))
    (hy : (∃ T, T ∈ six ∧ TyX X.K H y (.type T)) ∨ ∃ (b Ca dy : Addr) (gs : List (Str × V)), y = .ref b ∧ X.mg C = some (.ref Ca) ∧ H b = some (.ins Ca dy gs)) :
    ∃ tb, PySem.W.Looks (model X.prog X.w) s.heap (typeOf u) tb ∧ PySem.W.notFirst X.K Ca tb = true := by
  rcases hy with ⟨T, hT, ty⟩ | ⟨b, Cb, dy, gs, rfl, hm2, hb⟩
  · obtain ⟨P, Z, hp, _⟩ := kit_of I ry ty
    exact ⟨_, Z.ty _ _ I.kIn hp, notFirst_six hT⟩
  · obtain rfl : u = Value.ref b := ry
    have e := hm.symm.trans hm2
    cases e
    obtain ⟨mB, J', _⟩ := ins_get I.hok hb
    obtain ⟨od', J', _⟩ := J'.look
    exact ⟨.ref Ca, J'.type, by simp [PySem.W.notFirst]⟩
theorem op_eqOA (c : MCal X.prog X.w X.K X.mg X.base C "__eq__" k [p1, p2] mf) (hr : RmG k X.A) : OpR X (compareOp .Eq) (rCmpO X C mf false) := by
  intro pins s σ H x y v u Q I rx ry h
  obtain ⟨hy, a, Ca, dx, fs, rfl, hm, ha, q⟩ := h
  obtain rfl : v = Value.ref a := rx
  obtain ⟨f, ox, od, J, h1, h2, go⟩ := run_own2 c hr I ry hm ha q
  obtain ⟨m, hF⟩ := I.fr
  obtain ⟨tb, hL, hn⟩ := other_ty I ry hm hy
  refine PySem.W.cmp_K (op := .Eq) hr.units0 hF I.ok.mod.kin J hL hn h1 h2 (wpAny_mono go (fun r s1 z => ?_) fun _ _ z => z)
  obtain ⟨b, H1, rfl, I1, q1⟩ := z
  exact ⟨.bl b, H1, I1, rfl, by simpa using q1⟩
def NeC (K : PySem.W.Frag) (mg : Str → Option Value) (C : Str) : Prop := ∃ Ca : Addr, mg C = some (.ref Ca) ∧ PySem.W.findIn K (.ref Ca) "__ne__" = some (some (.builtin "object.__ne__")) ∧ PySem.W.subIn K (.ref Ca) (.type "object") = some true
def SfC (K : PySem.W.Frag) (mg : Str → Option Value) (C : Str) : Prop := ∃ Ca : Addr, mg C = some (.ref Ca) ∧ PySem.W.selfFirst K Ca = true
theorem op_neOA (n : NeC X.K X.mg C) (c : MCal X.prog X.w X.K X.mg X.base C "__eq__" k [p1, p2] mf) (hr : RmG (k + 1) X.A) : OpR X (compareOp .NotEq) (rCmpO X C mf true) := by
  intro pins s σ H x y v u Q I rx ry h
  obtain ⟨hy, a, Ca, dx, fs, rfl, hm, ha, q⟩ := h
  obtain ⟨Cn, hn1, hn2, hn3⟩ := n
  cases hm.symm.trans hn1
  obtain rfl : v = Value.ref a := rx
  have hr1 : RmG k X.A.in1 := hr.in1
  obtain ⟨f, ox, od, J, h1, h2, go⟩ := run_ownA (A := X.A.in1) rfl c hr1 I (.cons ry .nil) hm ha q
  obtain ⟨m, hF⟩ := I.fr
  obtain ⟨tb, hL, hn⟩ := other_ty I ry hm hy
  refine PySem.W.ne_K hr.units0 hr1.units0 hF I.ok.mod.kin J hL hn hn2 hn3 h1 h2 (wpAny_mono go (fun r s1 z => ?_) fun _ _ z => z)
  obtain ⟨w, H1, rw1, I1, b, rfl, q1⟩ := z
  cases rw1
  exact ⟨b, rfl, .bl (!b), H1, I1, rfl, by simpa using q1⟩
theorem call_reprO {p : Str} (c : MCal X.prog X.w X.K X.mg X.base C "__repr__" k [p] mf) (hr : RmG (k + 1) X.A) : CallR X (.builtin "repr") (rStrO X C mf) := by
  intro pins s σ H xs us Q I r h
  obtain ⟨a, Ca, dx, fs, rfl, hm, ha, q⟩ := h
  obtain ⟨u, rfl, ru⟩ := vals1 r
  obtain rfl : u = Value.ref a := ru
  have hr1 : RmG k X.A.in1 := hr.in1
  obtain ⟨f, ox, od, J, h1, h2, go⟩ := run_ownA (A := X.A.in1) rfl c hr1 I .nil hm ha q
  obtain ⟨m, hF⟩ := I.fr
  refine PySem.W.repr_K hr1.units0 hF I.ok.mod.kin J h1 h2 (wpAny_mono go (fun r s1 z => ?_) fun _ _ z => z)
  obtain ⟨w, H1, rw1, I1, t, rfl, q1⟩ := z
  obtain ⟨tk, rfl⟩ := rw1
  exact ⟨.str t, H1, I1, ⟨tk, rfl⟩, q1⟩
def fBoolO (C : Str) (mf : List IV → Sto → Out IV) (xs : List IV) (S : Sto) : Out IV := a1 xs fun x => onI S C x fun _ _ => (noX (mf [x] S)).bind fun v S2 => asB v fun t => .ok (.bl t) S2
abbrev rBoolO (X : Cx) (C : Str) (mf : List IV → Sto → Out IV) : List V → Hp → VK → Prop := fun xs H Q => ∃ (a Ca dx : Addr) (fs : List (Str × V)), xs = [.ref a] ∧ X.mg C = some (.ref Ca) ∧ H a = some (.ins Ca dx fs) ∧ spM X.K X.mg 1 mf [.ref a] H (fun v H' => ∃ t : Bool, v = .bl t ∧ Q (.bl t) H') fun _ _ _ => False
theorem cs_boolO {W : WZ} : CaS (kx X W) W.x (rBoolO X C mf) (fBoolO C mf) := fun w S H xs ix Q r rx p => by
  obtain ⟨v, x, rfl, rfl, rv, p⟩ := a1_post p rx
  obtain ⟨n, fs, a, Ca, dx, ps, h1, h2, rfl, hm, h4, h5, p⟩ := onI_post p r rv
  refine ⟨a, Ca, dx, ps, rfl, hm, h4, rfl, w, S, [x], r.cx rfl rfl, .cons (Rel.cx (K := kx X W) (K' := ⟨X.K, X.mg, none⟩) rfl x (.ref a) rv) .nil, ?_⟩
  cases hf : mf [x] S with
  | ok iv S2 =>
    rw [hf] at p
    intro w' H' l r' v rv'
    have p0 := Post.bind (o := Out.ok iv S2) (k := fun v S2 => asB v fun t => Out.ok (IV.bl t) S2) p
    have p1 := p0 w' H' l (r'.cx rfl rfl)
    obtain ⟨t, rfl, rfl, p1⟩ := asB_post p1 (Rel.cx (K := ⟨X.K, X.mg, none⟩) (K' := kx X W) rfl iv v rv')
    exact ⟨t, rfl, p1.now (r'.cx rfl rfl) _ (Rel.bl t)⟩
  | exc D n L S2 => rw [hf] at p; exact p.elim
  | bad => rw [hf] at p; exact p.elim
theorem call_boolO {p : Str} (c : MCal X.prog X.w X.K X.mg X.base C "__bool__" k [p] mf) (hr : RmG (k + 2) X.A) : CallR X (.type "bool") (rBoolO X C mf) := by
  intro pins s σ H xs us Q I r h
  obtain ⟨a, Ca, dx, fs, rfl, hm, ha, q⟩ := h
  obtain ⟨u, rfl, ru⟩ := vals1 r
  obtain rfl : u = Value.ref a := ru
  have hr1 : RmG (k + 1) X.A.in1 := hr.in1
  have hr2 : RmG k X.A.in1.in1 := hr1.in1
  obtain ⟨f, ox, od, J, h1, h2, go⟩ := run_ownA (A := X.A.in1.in1) rfl c hr2 I .nil hm ha q
  obtain ⟨m, hF⟩ := I.fr
  refine PySem.W.boolCall_K hF I.ok.mod.kin J h1 h2 (wpAny_mono go (fun r s1 z => ?_) fun _ _ z => z)
  obtain ⟨w, H1, rw1, I1, t, rfl, q1⟩ := z
  cases rw1
  exact ⟨t, rfl, .bl t, H1, I1, rfl, q1⟩
def fBinO (C : Str) (mf : List IV → Sto → Out IV) (x y : IV) (S : Sto) : Out IV := onI S C x fun _ _ => onI S C y fun _ _ => (noX (mf [x, y] S)).bind fun v S2 => match v with
  | .adr n => .ok (.adr n) S2
  | _ => .bad
abbrev rBinO (X : Cx) (C : Str) (mf : List IV → Sto → Out IV) : R2 := fun x y H Q => ∃ (a b Ca dx dy : Addr) (fs gs : List (Str × V)), x = .ref a ∧ y = .ref b ∧ X.mg C = some (.ref Ca) ∧ H a = some (.ins Ca dx fs) ∧ H b = some (.ins Ca dy gs) ∧ spM X.K X.mg 2 mf [.ref a, .ref b] H (fun v H' => ∃ r : Addr, v = .ref r ∧ Q (.ref r) H') fun _ _ _ => False
theorem os_binO {W : WZ} : OpS (kx X W) W.x (rBinO X C mf) (fBinO C mf) := fun w S H x y ix iy Q r rx ry p => by
  obtain ⟨n, fs, a, Ca, dx, ps, h1, h2, rfl, hm, h4, h5, p⟩ := onI_post p r rx
  obtain ⟨n2, fs2, b, Cb, dy, ps2, g1, g2, rfl, hm2, g4, g5, p⟩ := onI_post p r ry
  cases hm.symm.trans hm2
  refine ⟨a, b, Ca, dx, dy, ps, ps2, rfl, rfl, hm, h4, g4, rfl, w, S, [ix, iy], r.cx rfl rfl, .cons (Rel.cx (K := kx X W) (K' := ⟨X.K, X.mg, none⟩) rfl ix (.ref a) rx) (.cons (Rel.cx (K := kx X W) (K' := ⟨X.K, X.mg, none⟩) rfl iy (.ref b) ry) .nil), ?_⟩
  cases hf : mf [ix, iy] S with
  | ok iv S2 =>
    rw [hf] at p
    intro w' H' l r' v rv'
    have p0 := Post.bind (o := Out.ok iv S2) (k := fun v S2 => match v with | .adr n => Out.ok (IV.adr n) S2 | _ => .bad) p
    have p1 := p0 w' H' l (r'.cx rfl rfl)
    cases rv' with
    | adr hr => exact ⟨_, rfl, p1.now (r'.cx rfl rfl) _ (Rel.adr hr)⟩
    | _ => exact p1.elim
  | exc D n L S2 => rw [hf] at p; exact p.elim
  | bad => rw [hf] at p; exact p.elim
theorem op_binO {op : Operator} (n : SfC X.K X.mg C) (c : MCal X.prog X.w X.K X.mg X.base C (PySem.dunder op.info.2) k [p1, p2] mf) (hr : RmG k X.A) : OpR X (binaryOp op) (rBinO X C mf) := by
  intro pins s σ H x y v u Q I rx ry h
  obtain ⟨a, b, Ca, dx, dy, fs, gs, rfl, rfl, hm, ha, hb, q⟩ := h
  obtain ⟨Cn, hn1, hn2⟩ := n
  cases hm.symm.trans hn1
  obtain rfl : v = Value.ref a := rx
  obtain rfl : u = Value.ref b := ry
  obtain ⟨f, ox, od, J, h1, h2, go⟩ := run_ownA (A := X.A) rfl c hr I (.cons (show RelV (.ref b) (Value.ref b) from rfl) .nil) hm ha q
  obtain ⟨m, hF⟩ := I.fr
  obtain ⟨mB, J', _⟩ := ins_get I.hok hb
  obtain ⟨od', J', _⟩ := J'.look
  refine PySem.W.binop_K hF I.ok.mod.kin J J'.type hn2 h1 h2 (wpAny_mono go (fun r s1 z => ?_) fun _ _ z => z)
  obtain ⟨w, H1, rw1, I1, r', rfl, q1⟩ := z
  cases rw1
  exact ⟨.ref r', H1, I1, rfl, q1⟩
end
def fBoolL (xs : List IV) (S : Sto) : Out IV := a1 xs fun x => orBad (lstX S x) fun ys => .ok (.bl (!ys.isEmpty)) S
theorem cs_boolL {K : KX} {W : WX} : CaS K W (fun xs H Q => ∃ (a : Addr) (zs : List V), xs = [.ref a] ∧ SqL K.k H a zs ∧ Q (.bl (!zs.isEmpty)) H) fBoolL := fun w S H xs ix Q r rx p => by
  obtain ⟨v, x, rfl, rfl, rv, p⟩ := a1_post p rx
  obtain ⟨ys, e, p⟩ := orBad_post p
  obtain ⟨a, vs, rfl, h1, h2⟩ := lstX_lst e r rv
  refine ⟨a, vs, rfl, .inl (.of h1), ?_⟩
  have : vs.isEmpty = ys.isEmpty := by
    have := h2.length
    cases vs <;> cases ys <;> simp_all
  rw [this]
  exact p.now r _ (.bl _)
section
variable {X : Cx} {W : WX} {pos apos p0 : Pos} {k nf n : Nat} {C m : Str} {mb : IE} {pl : Sem Bool}
theorem de_clsm0 (c : CCal X.prog X.w X.K X.mg X.base C m k nf n mb) (tk : Takes X W) (hr : RmG k X.A) (hg : Gl X C := by rfl) (hdb : (C == ("__debug__" : Str)) = false := by decide)
    (ht : eval (.Call (.Attribute (.Name C p0) m apos) [] [] pos) X.env = (do
      let ov ← eval (.Name C p0) X.env
      standAt apos.atName
      let (f, first) ← holding [ov] (getMethod ov m pl)
      callWith pos f first (backTo pos (starEach [] X.env)) (backToKw pos (keywordEach [] X.env))) := by rfl) :
    DE X ⟨W, none⟩ (.Call (.Attribute (.Name C p0) m apos) [] [] pos) (iClsm nf n mb iNil) := by
  obtain ⟨Ca, p, g, hm, hR, hM, F⟩ := c
  refine ⟨fun pins s σ H Q I h => ?_⟩
  obtain ⟨w, S, Λ, r0, s0, p0⟩ := h
  obtain ⟨c, q⟩ := chk_post (show Post _ _ _ (chk (nf ≤ ([] : List IV).length ∧ ([] : List IV).length ≤ sizeLine) (relab Λ (cDef nf n mb [] S))) _ from p0)
  refine PySem.W.methodCall_KW (pl := pl) (ld_glob I hg hm ?_ hdb) ht
  refine ClX.getmethcm_ok I hR hM fun s2 I2 => ?_
  refine PySem.W.callWith_M0 (K := X.K) ⟨ClX.pin_at I2, I2.kIn⟩ hM.fi ?_
  have q2 : spC X.K X.mg Ca nf n mb [.ref Ca] H Q (WE W σ) := ⟨[], rfl, c.1, c.2, w, S, [], r0, .nil, relab_post q s0⟩
  have z : wpAny (model X.prog X.w) X.A (call (.ref s.heap.objs.size) []) (EP X ((s.heap.objs.size, PySem.W.methodObj (.ref g) (.ref Ca)) :: pins) σ Q) X.xe s2 := by
    refine wpAny_call (PySem.W.method_call (ClX.pin_at I2) (codeAny_mono (F X.A X.stack s2 H (.ref Ca :: []) (.ref Ca :: []) Q (WE W σ) hr I2.env0 (.cons rfl .nil) q2) fun r s' hq' => ?_))
    cases r with
    | error er => exact passAt tk σ _ _ _ er s' I2 hq'
    | ok fl =>
      cases fl with
      | ret u => exact I2.after hq'
      | next => exact False.elim hq'
      | brk => exact False.elim hq'
      | cont => exact False.elim hq'
  exact thn z fun _ _ y => ClX.unpinE y
end
def fIsOA (C : Str) (x : IV) (S : Sto) : Out IV := match tyN S x with
  | some t => chk (t ∈ six) (.ok (.bl false) S)
  | none => onI S C x fun _ _ => .ok (.bl true) S
theorem subIn_six {K : PySem.W.Frag} {Ca : Addr} {T : String} (h : T ∈ six) : PySem.W.subIn K (.type T) (.ref Ca) = some false := by
  have key : ∀ l : List Value, fastBuiltinMro T = some l → l.contains (Value.ref Ca) = false → PySem.W.subIn K (.type T) (.ref Ca) = some false := fun l e1 e2 => by
    show (fastBuiltinMro T).map (·.contains (Value.ref Ca)) = some false
    rw [e1]
    show some (l.contains (Value.ref Ca)) = _
    rw [e2]
  simp only [six, List.mem_cons, List.not_mem_nil, or_false] at h
  rcases h with rfl | rfl | rfl | rfl | rfl | rfl
  · exact key [.type "NoneType", .type "object"] (by decide +kernel) rfl
  · exact key [.type "bool", .type "int", .type "object"] (by decide +kernel) rfl
  · exact key [.type "int", .type "object"] (by decide +kernel) rfl
  · exact key [.type "str", .type "object"] (by decide +kernel) rfl
  · exact key [.type "list", .type "object"] (by decide +kernel) rfl
  · exact key [.type "tuple", .type "object"] (by decide +kernel) rfl
section
variable {X : Cx} {W : WZ} {pos p pc : Pos} {C : Str} {e : Expr} {m : IE}
theorem de_isOA (c : IsC X.K X.mg C) (hm : X.mg "isinstance" = none) (he : DE X W e m) (hg : Gl X "isinstance" := by rfl) (hgC : Gl X C := by rfl) (hdC : (C == ("__debug__" : Str)) = false := by decide)
    (hs : starEach [e, .Name C pc] X.env = (false, eval e X.env) :: starEach [.Name C pc] X.env := by rfl) (hs2 : starEach [.Name C pc] X.env = (false, eval (.Name C pc) X.env) :: starEach [] X.env := by rfl) (hpl : (backTo pos (starEach [.Name C pc] X.env)).any (·.1) = false := by rfl) :
    DE X W (.Call (.Name "isinstance" p) [e, .Name C pc] [] pos) (iUn (fIsOA C) m) := by
  obtain ⟨Ca, h1, A⟩ := c
  have h2 := A.ic
  have h3 := A.ty
  refine (pe_callB call_isi hg hm (by decide +kernel) (pa_cons he (pa_cons (pe_glob (v := .ref Ca) hgC h1 rfl hdC) pa_nil hs2) hs) (by decide) (by decide) hs hpl).imp fun σ H Q ⟨w, S, Λ, r0, s0, q⟩ => ?_
  refine ⟨w, S, Λ, r0, s0, q.bind.imp fun w1 H1 S1 ix l1 r1 p1 v1 rv1 => ?_⟩
  show rIsi X.K [v1, .ref Ca] H1 Q
  unfold fIsOA at p1
  split at p1
  · rename_i t ht
    obtain ⟨h6, p1⟩ := chk_post p1
    refine ⟨_, _, .type t, .ref Ca, false, rfl, .own Ca, tyN_rel r1 rv1 ht, ?_, p1.now r1 _ (.bl false)⟩
    unfold PySem.W.kitOne
    rw [if_neg (by simp)]
    unfold PySem.W.kitCls
    have z : ((PySem.W.clsIn X.K Ca).isSome && PySem.W.typeIn X.K (.ref Ca) == some (.type "type")) = true := by
      rw [h3]
      simpa [PySem.W.isClsIn] using h2
    show (if ((PySem.W.clsIn X.K Ca).isSome && PySem.W.typeIn X.K (.ref Ca) == some (.type "type")) = true then PySem.W.subIn X.K (.type t) (.ref Ca) else none) = _
    rw [if_pos z]
    exact subIn_six h6
  · obtain ⟨n, fs, a, Cb, dx, ps, g1, g2, rfl, hm2, g4, g5, p1⟩ := onI_post p1 r1 rv1
    have e := h1.symm.trans hm2
    cases e
    refine ⟨_, _, .ref Ca, .ref Ca, true, rfl, .own Ca, .base (.ins g4 A.cl A.ha A.hn A.ht A.hm), ?_, p1.now r1 _ (.bl true)⟩
    unfold PySem.W.kitOne
    rw [if_pos (by simp)]
end
end Sm
set_option maxHeartbeats 4000000
namespace GP
open PySem PySem.Spec PyProof.Rows L2 Sm
end GP
set_option maxHeartbeats 2000000
namespace GP
open PySem PySem.Spec PyProof.Rows L2 Sm RD
set_option maxHeartbeats 400000
theorem isL46 : isL 46 = false := by decide +kernel
theorem nm_isL {x : Str} (h : nameB x = true) : ∀ c ∈ sg x, isL c = true := fun c hc => decide_eq_true (nm_sg h hc)
set_option maxHeartbeats 400000
end GP
set_option maxHeartbeats 400000
namespace Sm
open PySem PySem.Spec PyProof.Rows L2
section
variable {n K : Nat} {fs gs : List (Nat × Cell)} {S : Sto} {Λ : Slots} {Q : IV → Sto → Prop} {d : Nat} {kvs : List (Key × IV)}
theorem Hd.mem {l : Nat} {c : Cell} (h : Hd n K fs S) (hm : (l, c) ∈ fs) : S[l]? = some c := h.get (l, c) hm
end
end Sm
namespace GP
open PySem PySem.Spec PyProof.Rows L2 Sm RD
theorem nodup_le {α : Type} [DecidableEq α] : ∀ {l ps : List α}, l.Nodup → (∀ x ∈ l, x ∈ ps) → l.length ≤ ps.length
  | [], ps, _, _ => Nat.zero_le _
  | a :: l, ps, nd, h => by
    obtain ⟨n1, n2⟩ := List.nodup_cons.mp nd
    have ha := h a List.mem_cons_self
    have := nodup_le (l := l) (ps := ps.erase a) n2 fun x hx => (List.mem_erase_of_ne (fun (z : x = a) => n1 (z ▸ hx))).mpr (h x (List.mem_cons_of_mem _ hx))
    rw [List.length_erase_of_mem ha] at this
    have := List.length_pos_of_mem ha
    rw [List.length_cons]
    omega
set_option maxHeartbeats 400000
inductive SP where
  | dot (x : Str)
  | br (x : Str)
def SP.x : SP → Str
  | .dot x => x
  | .br x => x
def SP.t : SP → Str
  | .dot x => ("." : Str) ++ x
  | .br x => (("[" : Str) ++ x) ++ ("]" : Str)
def SP.k : SP → Str × Str
  | .dot x => (".", x)
  | .br x => ("[", x)
def spsT : List SP → Str
  | [] => ""
  | s :: ss => s.t ++ spsT ss
theorem sg_dot : sg ("." : Str) = [46] := by decide +kernel
theorem sg_lb : sg ("[" : Str) = [91] := by decide +kernel
theorem sg_rb : sg ("]" : Str) = [93] := by decide +kernel
theorem SP.head (s : SP) : ∃ c r, sg s.t = c :: r ∧ isL c = false := by
  cases s with
  | dot x => exact ⟨46, sg x, by show sg (("." : Str) ++ x) = _; rw [sg_app, sg_dot]; rfl, isL46⟩
  | br x => exact ⟨91, sg x ++ [93], by show sg ((("[" : Str) ++ x) ++ ("]" : Str)) = _; rw [sg_app, sg_app, sg_lb, sg_rb]; rfl, by decide +kernel⟩
theorem sps_head (ss : List SP) : ∀ c, (sg (spsT ss)).head? = some c → isL c = false := fun c hc => by
  cases ss with
  | nil => cases hc
  | cons s ss =>
    obtain ⟨d, r, e, h⟩ := s.head
    show isL c = false
    rw [show spsT (s :: ss) = s.t ++ spsT ss from rfl, sg_app, e] at hc
    cases hc
    exact h
theorem cut_mid {a x r : Str} : cutS ((a ++ x) ++ r) (some (a.length : Int)) (some ((a.length + x.length : Nat) : Int)) = x := sg_inj (by
  rw [sg_cut]
  have l1 : ((a ++ x) ++ r).length = a.length + x.length + r.length := by rw [len_app, len_app]
  have h0 : HT.sIx ((a ++ x) ++ r).length 0 (some (a.length : Int)) = a.length := by
    show (if (a.length : Int) < 0 then ((a.length : Int) + (((a ++ x) ++ r).length : Int)).toNat else min (a.length : Int).toNat ((a ++ x) ++ r).length) = _
    rw [if_neg (by omega)]; omega
  have h1 : HT.sIx ((a ++ x) ++ r).length ((a ++ x) ++ r).length (some ((a.length + x.length : Nat) : Int)) = a.length + x.length := by
    show (if ((a.length + x.length : Nat) : Int) < 0 then (((a.length + x.length : Nat) : Int) + (((a ++ x) ++ r).length : Int)).toNat else min ((a.length + x.length : Nat) : Int).toNat ((a ++ x) ++ r).length) = _
    rw [if_neg (by omega)]; omega
  rw [h0, h1, sg_app, sg_app, List.append_assoc, ← sg_len a, List.drop_left, Nat.add_sub_cancel_left, ← sg_len x, List.take_left])
theorem one_len_dot : ("." : Str).length = 1 := by decide +kernel
theorem one_len_lb : ("[" : Str).length = 1 := by decide +kernel
theorem stepP_dot {x r : Str} (h : nameB x = true) (g : ∀ c, (sg r).head? = some c → isL c = false) : stepP ((("." : Str) ++ x) ++ r) = some (("." : Str), x, r) := by
  have es : sg ((("." : Str) ++ x) ++ r) = 46 :: (sg x ++ sg r) := by rw [sg_app, sg_app, sg_dot]; rfl
  have el : lets (sg x ++ sg r) = x.length := by
    unfold lets
    rw [tw_app (p := isL) _ _ (nm_isL h) g, sg_len]
  have c1 := cut_mid (a := ("." : Str)) (x := x) (r := r)
  have c2 := cut_suf (("." : Str) ++ x) r
  rw [len_app, one_len_dot] at c2
  rw [one_len_dot] at c1
  unfold stepP
  rw [es]
  show (if (46 : Nat) = 91 then _ else if (46 : Nat) = 46 then (if nameB (cutS _ (some 1) (some ((1 + lets (sg x ++ sg r) : Nat) : Int))) = true then some ((".", cutS _ (some 1) (some ((1 + lets (sg x ++ sg r) : Nat) : Int)), cutS _ (some ((1 + lets (sg x ++ sg r) : Nat) : Int)) none) : Str × Str × Str) else none) else none) = _
  rw [if_neg (by decide), if_pos rfl, el]
  have c1 : cutS ((("." : Str) ++ x) ++ r) (some 1) (some ((1 + x.length : Nat) : Int)) = x := c1
  have c2 : cutS ((("." : Str) ++ x) ++ r) (some ((1 + x.length : Nat) : Int)) none = r := c2
  rw [c1, c2, if_pos h]
theorem stepP_br {x r : Str} (h : nameB x = true) : stepP (((("[" : Str) ++ x) ++ ("]" : Str)) ++ r) = some (("[" : Str), x, r) := by
  have es : sg (((("[" : Str) ++ x) ++ ("]" : Str)) ++ r) = 91 :: (sg x ++ 93 :: sg r) := by rw [sg_app, sg_app, sg_app, sg_lb, sg_rb]; simp
  have e0 : ((("[" : Str) ++ x) ++ ("]" : Str)) ++ r = ("[" : Str) ++ ((x ++ ("]" : Str)) ++ r) := by rw [app_as, app_as, app_as]
  have c1 := cut_suf ("[" : Str) ((x ++ ("]" : Str)) ++ r)
  rw [one_len_lb, ← e0] at c1
  have c1 : cutS (((("[" : Str) ++ x) ++ ("]" : Str)) ++ r) (some 1) none = (x ++ ("]" : Str)) ++ r := c1
  have hp : Txt.partition ((x ++ ("]" : Str)) ++ r) "]" = (x, ("]" : Str), r) := TL.partition_app (y := ("]" : Str)) (s := 93) (S := []) (by decide +kernel) (fun z => by
    have := nm_isL h 93 z
    revert this
    decide +kernel)
  unfold stepP
  rw [es]
  show (if (91 : Nat) = 91 then (if (Txt.partition (cutS _ (some 1) none) "]").2.1 = "" ∨ nameB (Txt.partition (cutS _ (some 1) none) "]").1 = false then none else some ((("[" : Str), (Txt.partition (cutS _ (some 1) none) "]").1, (Txt.partition (cutS _ (some 1) none) "]").2.2) : Str × Str × Str)) else _) = _
  rw [if_pos rfl, c1, hp]
  show (if ("]" : Str) = "" ∨ nameB x = false then none else some (("[" : Str), x, r)) = _
  rw [if_neg]
  rintro (z | z)
  · exact absurd z (by decide +kernel)
  · rw [h] at z; cases z
theorem sps_ne (s : SP) (ss : List SP) : spsT (s :: ss) ≠ "" := fun z => by
  obtain ⟨c, r, e, _⟩ := s.head
  have := congrArg sg z
  rw [show spsT (s :: ss) = s.t ++ spsT ss from rfl, sg_app, e] at this
  cases this
theorem steps_ok : ∀ (ss : List SP) (n : Nat) (acc : List (Str × Str)), (∀ s ∈ ss, nameB s.x = true) → ss.length < n → acc.length + ss.length ≤ 3 → stepsP n (spsT ss) acc = some (acc ++ ss.map SP.k)
  | [], 0, acc, _, h, _ => by cases h
  | [], n + 1, acc, _, _, _ => by
    show (if ("" : Str) = "" then some acc else _) = _
    rw [if_pos rfl, List.map_nil, List.append_nil]
  | s :: ss, 0, acc, _, h, _ => by cases h
  | s :: ss, n + 1, acc, hn, h, hl => by
    rw [List.length_cons] at h hl
    have e : stepP (spsT (s :: ss)) = some (s.k.1, s.k.2, spsT ss) := by
      have hx := hn s List.mem_cons_self
      cases s with
      | dot x => exact stepP_dot hx (sps_head ss)
      | br x => exact stepP_br hx
    show (if spsT (s :: ss) = "" then some acc else match stepP (spsT (s :: ss)) with | none => none | some (a, b, r) => if acc.length = 3 then none else stepsP n r (acc ++ [(a, b)])) = _
    rw [if_neg (sps_ne s ss), e]
    show (if acc.length = 3 then none else stepsP n (spsT ss) (acc ++ [s.k])) = _
    rw [if_neg (by omega), steps_ok ss n _ (fun x hx => hn x (List.mem_cons_of_mem _ hx)) (by omega) (by rw [List.length_append, List.length_singleton]; omega), List.append_assoc]
    rfl
set_option maxHeartbeats 2000000
set_option maxHeartbeats 300000
set_option maxHeartbeats 1000000
end GP
set_option maxHeartbeats 1000000
namespace Sm
open PySem PySem.Spec PyProof.Rows L2
section
variable {n K : Nat} {fs gs : List (Nat × Cell)} {S S' : Sto} {Λ : Slots} {E : Str → Nat → Slots → Sto → Prop}
theorem wp_meth {C m : Str} {np : Nat} {mf : List IV → Sto → Out IV} {mo : IE} {ma : IA} {Q : IV → Sto → Prop} (h : Wp (mo Λ S) fun x S1 => ∃ (o : Nat) (vs : List (Str × IV)), x = .adr o ∧ S1[o]? = some (.ins C vs) ∧ vs.lookup m = none ∧ Wp (ma Λ S1) fun xs S2 => Chk (xs.length + 1 = np) (Wp (mf (x :: xs) S2) Q)) : Wp (iMeth C m np mf mo ma Λ S) Q := by
  unfold iMeth
  obtain ⟨x, S1, e, o, vs, rfl, g, hn, xs, S2, e2, c, v, S3, e3, q⟩ := h
  rw [e, Out.bind_ok, onI_s g, chk_pos hn, e2, Out.bind_ok, chk_pos c, e3]
  exact .ok q
end
end Sm
namespace GP
open PySem PySem.Spec PyProof.Rows L2 Sm RD
set_option maxHeartbeats 1000000
end GP
set_option maxHeartbeats 4000000
namespace K49
open PySem PySem.Spec PyProof.Rows L2 Sm RD
theorem lits : (")" : Str).length = 1 ∧ ("." : Str).length = 1 ∧ ("(" : Str).length = 1 ∧ ("Places(" : Str).length = 7 ∧ (", " : Str).length = 2 ∧ ("ahead all as at call class def either end for from \x69mport keep module none often once or outside patch" : Str).length = 102 ∧ ("abcdefghijklmnopqrstuvwxyz" : Str).length = 26 ∧ (" " : Str).length = 1 ∧ (" set stand start stop table test using with" : Str).length = 43 ∧ ("" : Str).length = 0 ∧ ("q" : Str).length = 1 ∧ ("]" : Str).length = 1 ∧ ("[" : Str).length = 1 ∧ ("late.place" : Str).length = 10 := by decide +kernel
def topS (i : Nat) : Stmt := PySem.Challenge.pw_patchedplaces_k49_sets_of_places.main.body.getD i (.Pass ⟨0, 0, 0, 0⟩)
section
variable {P : Program} {w : World} {K : PySem.W.Frag} {mg : Str → Option Value} {base : Heap}
abbrev s_BadPlaces___init__ : Stmt := inClass (topS 2) 0
theorem sc_BadPlaces : FnScope ["self", "at"] ["self", "at"] (defScope s_BadPlaces___init__) := ⟨rfl, rfl, rfl, by decide +kernel, rfl, by decide +kernel, by decide +kernel⟩
theorem ok_e_BadPlaces (L : ELoc K mg "BadPlaces" "at" "self" "at" "BadPlaces.__init__" s_BadPlaces___init__) (b_PatchedError : BaseC K mg "PatchedError") : ECal P w K mg base "BadPlaces" "at" :=
  ecal_def (z := "not a place") L sc_BadPlaces fun fI cdv A outer s H E => pss_cons (ps_expr (pe_clsinit rfl b_PatchedError (by decide) (pa_cons (pe_var (i := 0) rfl (Or.inl rfl)) (pa_cons pe_str pa_nil)))) (pss_one (ps_ost (pe_var (i := 0) rfl (Or.inl rfl)) (pe_var (i := 1) rfl (Or.inl rfl))))
abbrev s_is_word : Stmt := topS 6
abbrev n_is_word : List Str := ["text", "char"]
theorem sc_is_word : FnScope n_is_word ["text"] (defScope s_is_word) := ⟨rfl, rfl, rfl, by decide +kernel, rfl, by decide +kernel, by decide +kernel⟩
theorem ok_is_word {tk_LETTERS : Tok} (L : Loc K mg "is_word" s_is_word ["text"]) (gs_LETTERS : mg "LETTERS" = some (.str c_LETTERS tk_LETTERS)) (z_str : mg "str" = none) (z_isinstance : mg "isinstance" = none) (z_len : mg "len" = none) : Cal P w K mg base "is_word" 1 ["text"] m_is_word :=
  cal_def (N := n_is_word) L sc_is_word fun f cdv A outer s H E hr tk po => (dss_cons (ds_if (dt_w (dw_or (dt_not (dt_tru (de_cb call_isi cs_isi z_isinstance (by decide +kernel) (da_cons (de_var 0) (da_cons (de_ty z_str (by decide +kernel)) da_nil))))) (dw_or1 (dt_not (dt_chain op_le os_B op_le os_B de_int (de_cb call_len cs_len z_len (by decide +kernel) (da_cons (de_var 0) da_nil)) de_int))))) (dss_one (ds_ret de_bl)) dss_nil) (dss_cons (ds_for po rfl (di_str (de_var 0)) (dg_name 1 sc_is_word.nd) (dss_one (ds_if (dt_cmp op_notInA os_notIn (de_var 1) (de_gstr gs_LETTERS)) (dss_one (ds_ret de_bl)) dss_nil))) (dss_one (ds_ret de_bl))))
abbrev s_name_fits : Stmt := topS 7
abbrev n_name_fits : List Str := ["text"]
theorem sc_name_fits : FnScope n_name_fits ["text"] (defScope s_name_fits) := ⟨rfl, rfl, rfl, by decide +kernel, rfl, by decide +kernel, by decide +kernel⟩
theorem ok_name_fits  (L : Loc K mg "name_fits" s_name_fits ["text"]) (gt_KEYWORDS : GTup K mg "KEYWORDS" c_KEYWORDS) (c_is_word : Cal P w K mg base "is_word" 1 ["text"] m_is_word) : Cal P w K mg base "name_fits" 2 ["text"] m_name_fits :=
  cal_def (N := n_name_fits) L sc_name_fits fun f cdv A outer s H E hr tk po => (dss_one (ds_ret (de_and (de_callC c_is_word tk (hr.mono (by decide)) (da_cons (de_var 0) da_nil)) (de_one (de_cmp op_notInA os_notIn (de_var 0) (de_gtupC gt_KEYWORDS))))))
abbrev s_read_step : Stmt := topS 8
abbrev n_read_step : List Str := ["text", "name", "sign", "rest", "size"]
theorem sc_read_step : FnScope n_read_step ["text"] (defScope s_read_step) := ⟨rfl, rfl, rfl, by decide +kernel, rfl, by decide +kernel, by decide +kernel⟩
theorem ok_read_step {tk_LETTERS : Tok} (L : Loc K mg "read_step" s_read_step ["text"]) (z_len : mg "len" = none) (gs_LETTERS : mg "LETTERS" = some (.str c_LETTERS tk_LETTERS)) (c_name_fits : Cal P w K mg base "name_fits" 2 ["text"] m_name_fits) : Cal P w K mg base "read_step" 3 ["text"] m_read_step :=
  cal_def (N := n_read_step) L sc_read_step fun f cdv A outer s H E hr tk po => (dss_cons (ds_if (dt_cmp (op_eqA hr.units) os_eq (de_ix (de_var 0) de_int) de_str) (dss_cons (ds_asg (de_bm PySem.F.plainAttrs_str PySem.F.slot_str_partition PySem.F.type_str_partition mt_partition ms_part (de_slice false (de_var 0) (do_some de_int) do_none) (da_cons de_str da_nil)) (dg_tup (n := 3) rfl (dgs_cons (dg_name 1 sc_read_step.nd) (dgs_cons (dg_name 2 sc_read_step.nd) (dgs_cons (dg_name 3 sc_read_step.nd) dgs_nil))))) (dss_cons (ds_if (dt_w (dw_or (dt_cmp (op_eqA hr.units) os_eq (de_var 2) de_str) (dw_or1 (dt_not (dt_tru (de_callC c_name_fits tk (hr.mono (by decide)) (da_cons (de_var 1) da_nil))))))) (dss_one (ds_ret de_non)) dss_nil) (dss_one (ds_ret (de_tup (da_cons de_str (da_cons (de_var 1) (da_cons (de_var 3) da_nil)))))))) dss_nil) (dss_cons (ds_if (dt_cmp (op_neA hr.units) os_ne (de_ix (de_var 0) de_int) de_str) (dss_one (ds_ret de_non)) dss_nil) (dss_cons (ds_set 4 sc_read_step.nd de_int) (dss_cons (ds_while po (dt_w (dw_and (dt_cmp op_lt os_B (de_var 4) (de_cb call_len cs_len z_len (by decide +kernel) (da_cons (de_var 0) da_nil))) (dw_and1 (dt_cmp op_inA os_in (de_ix (de_var 0) (de_var 4)) (de_gstr gs_LETTERS))))) (dss_one (ds_aug 4 sc_read_step.nd iop_addP os_addI de_int))) (dss_cons (ds_if (dt_not (dt_tru (de_callC c_name_fits tk (hr.mono (by decide)) (da_cons (de_slice false (de_var 0) (do_some de_int) (do_some (de_var 4))) da_nil)))) (dss_one (ds_ret de_non)) dss_nil) (dss_one (ds_ret (de_tup (da_cons de_str (da_cons (de_slice false (de_var 0) (do_some de_int) (do_some (de_var 4))) (da_cons (de_slice false (de_var 0) (do_some (de_var 4)) do_none) da_nil)))))))))))
abbrev s_read_path : Stmt := topS 9
abbrev n_read_path : List Str := ["text", "size", "head", "steps", "rest", "step"]
theorem sc_read_path : FnScope n_read_path ["text"] (defScope s_read_path) := ⟨rfl, rfl, rfl, by decide +kernel, rfl, by decide +kernel, by decide +kernel⟩
theorem ok_read_path {tk_LETTERS : Tok} (L : Loc K mg "read_path" s_read_path ["text"]) (z_tuple : mg "tuple" = none) (z_len : mg "len" = none) (gs_LETTERS : mg "LETTERS" = some (.str c_LETTERS tk_LETTERS)) (z_str : mg "str" = none) (z_isinstance : mg "isinstance" = none) (c_read_step : Cal P w K mg base "read_step" 3 ["text"] m_read_step) (c_name_fits : Cal P w K mg base "name_fits" 2 ["text"] m_name_fits) : Cal P w K mg base "read_path" 4 ["text"] m_read_path :=
  cal_def (N := n_read_path) L sc_read_path fun f cdv A outer s H E hr tk po => (dss_cons (ds_if (dt_not (dt_tru (de_cb call_isi cs_isi z_isinstance (by decide +kernel) (da_cons (de_var 0) (da_cons (de_ty z_str (by decide +kernel)) da_nil))))) (dss_one (ds_ret de_non)) dss_nil) (dss_cons (ds_set 1 sc_read_path.nd de_int) (dss_cons (ds_while po (dt_w (dw_and (dt_cmp op_lt os_B (de_var 1) (de_cb call_len cs_len z_len (by decide +kernel) (da_cons (de_var 0) da_nil))) (dw_and1 (dt_cmp op_inA os_in (de_ix (de_var 0) (de_var 1)) (de_gstr gs_LETTERS))))) (dss_one (ds_aug 1 sc_read_path.nd iop_addP os_addI de_int))) (dss_cons (ds_set 2 sc_read_path.nd (de_slice false (de_var 0) do_none (do_some (de_var 1)))) (dss_cons (ds_if (dt_not (dt_tru (de_callC c_name_fits tk (hr.mono (by decide)) (da_cons (de_var 2) da_nil)))) (dss_one (ds_ret de_non)) dss_nil) (dss_cons (ds_set 3 sc_read_path.nd (de_lst true da_nil)) (dss_cons (ds_set 4 sc_read_path.nd (de_slice false (de_var 0) (do_some (de_var 1)) do_none)) (dss_cons (ds_while po (dt_cmp (op_neA hr.units) os_ne (de_var 4) de_str) (dss_cons (ds_set 5 sc_read_path.nd (de_callC c_read_step tk (hr.mono (by decide)) (da_cons (de_var 4) da_nil))) (dss_cons (ds_if (dt_w (dw_or (dt_cmp op_isN os_isN (de_var 5) de_non) (dw_or1 (dt_cmp (op_eqA hr.units) os_eq (de_cb call_len cs_len z_len (by decide +kernel) (da_cons (de_var 3) da_nil)) de_int)))) (dss_one (ds_ret de_non)) dss_nil) (dss_cons (ds_expr (de_bm PySem.F.plainAttrs_list PySem.F.slot_list_append PySem.F.type_list_append mt_append ms_app (de_var 3) (da_cons (de_tup (da_cons (de_ix (de_var 5) de_int) (da_cons (de_ix (de_var 5) de_int) da_nil))) da_nil))) (dss_one (ds_set 4 sc_read_path.nd (de_ix (de_var 5) de_int))))))) (dss_one (ds_ret (de_tup (da_cons (de_var 0) (da_cons (de_var 2) (da_cons (de_ct call_tuple_of cs_tuple z_tuple (by decide +kernel) (da_cons (de_var 3) da_nil)) da_nil))))))))))))))
abbrev s_is_place : Stmt := topS 11
abbrev n_is_place : List Str := ["text", "label", "bracket", "name", "path", "step"]
theorem sc_is_place : FnScope n_is_place ["text"] (defScope s_is_place) := ⟨rfl, rfl, rfl, by decide +kernel, rfl, by decide +kernel, by decide +kernel⟩
noncomputable def b_is_place : IS := (iSeq (iIf (iNot (iTru (iCa fIsi (iCons (iVar 0) (iCons (iC (.ty "str")) iNil))))) (iRet (iC (.bl false))) iNext) (iSeq (iIf (iTru (iBM "str" fEnds (iVar 0) (iCons (iC (.str ")")) iNil))) (iSeq (iAsg (iBM "str" fPart (iSl false (iVar 0) iNoPart (iPart (iUn fNeg (iC (.int 1))))) (iCons (iC (.str "(")) iNil)) (iGTup 3 (iGCons (iName 1) (iGCons (iName 2) (iGCons (iName 3) iGNil))))) (iSeq (iSet 4 (iCall 1 m_read_path (iCons (iVar 1) iNil))) (iRet (iAndV (iCall 1 m_name_fits (iCons (iVar 3) iNil)) (iAndV (iBin gNotN (iVar 4) (iC .non)) (iBin fEq (iLc false (iSrcT (iBin fIx (iVar 4) (iC (.int 2)))) (giN 5) iYes (iBin fIx (iVar 5) (iC (.int 0))) [5]) (iLst false (iCons (iC (.str ".")) iNil)))))))) iNext) (iSeq (iSet 4 (iCall 1 m_read_path (iCons (iVar 0) iNil))) (iSeq (iIf (iOr (iTest (iBin gIsN (iVar 4) (iC .non))) (iNot (iTest (iChain fLe fLe (iC (.int 1)) (iCa fLen (iCons (iBin fIx (iVar 4) (iC (.int 2))) iNil)) (iC (.int 2)))))) (iRet (iC (.bl false))) iNext) (iRet (iBin fEq (iBin fIx (iBin fIx (iBin fIx (iVar 4) (iC (.int 2))) (iC (.int 0))) (iC (.int 0))) (iC (.str "."))))))))
noncomputable def m_is_place : List IV → Sto → Out IV := mDef 6 b_is_place
theorem ok_is_place  (L : Loc K mg "is_place" s_is_place ["text"]) (z_len : mg "len" = none) (z_str : mg "str" = none) (z_isinstance : mg "isinstance" = none) (c_read_path : Cal P w K mg base "read_path" 4 ["text"] m_read_path) (c_name_fits : Cal P w K mg base "name_fits" 2 ["text"] m_name_fits) : Cal P w K mg base "is_place" 5 ["text"] m_is_place :=
  cal_def (N := n_is_place) L sc_is_place fun f cdv A outer s H E hr tk po => (dss_cons (ds_if (dt_not (dt_tru (de_cb call_isi cs_isi z_isinstance (by decide +kernel) (da_cons (de_var 0) (da_cons (de_ty z_str (by decide +kernel)) da_nil))))) (dss_one (ds_ret de_bl)) dss_nil) (dss_cons (ds_if (dt_tru (de_bm PySem.F.plainAttrs_str PySem.F.slot_str_endswith PySem.F.type_str_endswith mt_endswith ms_endsw (de_var 0) (da_cons de_str da_nil))) (dss_cons (ds_asg (de_bm PySem.F.plainAttrs_str PySem.F.slot_str_partition PySem.F.type_str_partition mt_partition ms_part (de_slice false (de_var 0) do_none (do_some (de_un un_neg us_neg de_int))) (da_cons de_str da_nil)) (dg_tup (n := 3) rfl (dgs_cons (dg_name 1 sc_is_place.nd) (dgs_cons (dg_name 2 sc_is_place.nd) (dgs_cons (dg_name 3 sc_is_place.nd) dgs_nil))))) (dss_cons (ds_set 4 sc_is_place.nd (de_callC c_read_path tk (hr.mono (by decide)) (da_cons (de_var 1) da_nil))) (dss_one (ds_ret (de_and (de_callC c_name_fits tk (hr.mono (by decide)) (da_cons (de_var 3) da_nil)) (de_and (de_cmp op_notN os_notN (de_var 4) de_non) (de_one (de_cmp (op_eqA hr.units) os_eq (de_lc (own := [("step", 5)]) false rfl sc_is_place.nd (di_tup (de_ix (de_var 4) de_int)) (blkOk_by (own := [("step", 5)]) (N := n_is_place) (sc := defScope s_is_place) (by decide +kernel)) (fun _ _ _ _ _ => pg_name (i := 5) sc_is_place.nd rfl (Or.inl rfl)) (gc_name (by decide)) (fun _ _ _ _ _ => dts_nil) (fun _ _ _ _ _ => (de_ix (de_var 5) de_int))) (de_lst false (da_cons de_str da_nil)))))))))) dss_nil) (dss_cons (ds_set 4 sc_is_place.nd (de_callC c_read_path tk (hr.mono (by decide)) (da_cons (de_var 0) da_nil))) (dss_cons (ds_if (dt_w (dw_or (dt_cmp op_isN os_isN (de_var 4) de_non) (dw_or1 (dt_not (dt_chain op_le os_B op_le os_B de_int (de_cb call_len cs_len z_len (by decide +kernel) (da_cons (de_ix (de_var 4) de_int) da_nil)) de_int))))) (dss_one (ds_ret de_bl)) dss_nil) (dss_one (ds_ret (de_cmp (op_eqA hr.units) os_eq (de_ix (de_ix (de_ix (de_var 4) de_int) de_int) de_int) de_str)))))))
abbrev s_Places___init__ : Stmt := inClass (topS 12) 0
abbrev n_Places___init__ : List Str := ["self", "places", "at", "place"]
theorem sc_Places___init__ : FnScope n_Places___init__ ["self", "places"] (defScope s_Places___init__) := ⟨rfl, rfl, rfl, by decide +kernel, rfl, by decide +kernel, by decide +kernel⟩
noncomputable def b_Places___init__ : IS := (iSeq (iForE (iVar 1) (iGTup 2 (iGCons (iName 2) (iGCons (iName 3) iGNil))) (iIf (iNot (iTru (iCall 1 m_is_place (iCons (iVar 3) iNil)))) (iRaise "BadPlaces" "at" (iCons (iVar 2) iNil)) iNext)) (iSetF "Places" "sorted_places" (iVar 0) (iSortT false (iVar 1))))
noncomputable def m_Places___init__ : List IV → Sto → Out IV := mDef 4 b_Places___init__
theorem ok_Places___init__  (L : KLoc K mg "Places" "Places.__init__" s_Places___init__ ["self", "places"]) (fc_Places_sorted_places : FC K mg "Places" "sorted_places") (z_sorted : mg "sorted" = none) (z_set : mg "set" = none) (z_enumerate : mg "enumerate" = none) (c_is_place : Cal P w K mg base "is_place" 5 ["text"] m_is_place) (e_BadPlaces : ECal P w K mg base "BadPlaces" "at") : KCal P w K mg base "Places" 6 ["self", "places"] m_Places___init__ :=
  kcal_def (N := n_Places___init__) L sc_Places___init__ fun f cdv A outer s H E hr tk po => (dss_cons (ds_forE po rfl z_enumerate (de_var 1) (dg_tup (n := 2) rfl (dgs_cons (dg_name 2 sc_Places___init__.nd) (dgs_cons (dg_name 3 sc_Places___init__.nd) dgs_nil))) (dss_one (ds_if (dt_not (dt_tru (de_callC c_is_place tk (hr.mono (by decide)) (da_cons (de_var 3) da_nil)))) (dss_one (ds_raise rfl tk (hr.mono (by decide)) e_BadPlaces (da_cons (de_var 2) da_nil))) dss_nil))) (dss_one (ds_fld fc_Places_sorted_places (de_var 0) (de_sortT false rfl (de_var 1) z_sorted z_set))))
abbrev s_Places_of : Stmt := inClass (topS 12) 1
abbrev n_Places_of : List Str := ["cls", "places"]
theorem sc_Places_of : FnScope n_Places_of ["cls", "places"] (defScope s_Places_of) := ⟨rfl, rfl, rfl, by decide +kernel, rfl, by decide +kernel, by decide +kernel⟩
noncomputable def b_Places_of : IE := (iMake "Places" 2 m_Places___init__ (iCons (iCa (fList false) (iCons (iVar 1) iNil)) iNil))
theorem ok_Places_of  (L : CLoc K mg "Places" "of" "Places.of" s_Places_of) (z_list : mg "list" = none) (c_Places___init__ : KCal P w K mg base "Places" 6 ["self", "places"] m_Places___init__) : CCal P w K mg base "Places" "of" 8 0 0 b_Places_of :=
  ccal_def (N := n_Places_of) (pc := "cls") (fixed := []) (pv := "places") L sc_Places_of rfl (fun kV doc pm an cdv ct us rest h => StX.bind_star1 (B := fun xs => bindArgs (PySem.W.fnOf "of" "Places.of" (defArgs s_Places_of) (defBody s_Places_of) (defScope s_Places_of) .none kV doc pm an cdv ct) ⟨xs, []⟩) (fun _ => rfl) (fun _ _ _ => rfl) us rest h) fun Ca hC f cdv A outer s H E hr tk => pss_one (ps_ret (pe_makeV (i := 0) (np := 2) c_Places___init__ hC tk (hr.mono (by decide)) rfl (Or.inl rfl) (da_cons (de_ct call_list_of (cs_list false) z_list (by decide +kernel) (da_cons (de_var 1) da_nil)) da_nil)))
abbrev s_Places_texts : Stmt := inClass (topS 12) 2
abbrev n_Places_texts : List Str := ["self"]
theorem sc_Places_texts : FnScope n_Places_texts ["self"] (defScope s_Places_texts) := ⟨rfl, rfl, rfl, by decide +kernel, rfl, by decide +kernel, by decide +kernel⟩
noncomputable def b_Places_texts : IS := (iRet (iCa (fList true) (iCons (iUn (fFld "Places" "sorted_places") (iVar 0)) iNil)))
noncomputable def m_Places_texts : List IV → Sto → Out IV := mDef 1 b_Places_texts
theorem wd_Places_texts {x0 : IV} {S : Sto} {Q : IV → Sto → Prop} (h : Wp (b_Places_texts [some x0] S) (FlQ Q)) : Wp (m_Places_texts [x0] S) Q := wp_def h
theorem ok_Places_texts  (L : MLoc K mg "Places" "texts" "Places.texts" s_Places_texts ["self"]) (fc_Places_sorted_places : FC K mg "Places" "sorted_places") (z_list : mg "list" = none) : MCal P w K mg base "Places" "texts" 1 ["self"] m_Places_texts :=
  mcal_def (N := n_Places_texts) L sc_Places_texts fun f cdv A outer s H E hr tk po => (dss_one (ds_ret (de_ct call_list_of (cs_list true) z_list (by decide +kernel) (da_cons (de_fld fc_Places_sorted_places (de_var 0)) da_nil))))
abbrev s_Places_within : Stmt := inClass (topS 12) 3
abbrev n_Places_within : List Str := ["self", "other", "place"]
theorem sc_Places_within : FnScope n_Places_within ["self", "other"] (defScope s_Places_within) := ⟨rfl, rfl, rfl, by decide +kernel, rfl, by decide +kernel, by decide +kernel⟩
noncomputable def b_Places_within : IS := (iRet (iCa fAll (iCons (iLc false (iSrcL (iUn (fFld "Places" "sorted_places") (iVar 0))) (giN 2) iYes (iBin fIn (iVar 2) (iUn (fFld "Places" "sorted_places") (iVar 1))) [2]) iNil)))
noncomputable def m_Places_within : List IV → Sto → Out IV := mDef 3 b_Places_within
theorem wd_Places_within {x0 x1 : IV} {S : Sto} {Q : IV → Sto → Prop} (h : Wp (b_Places_within [some x0, some x1, none] S) (FlQ Q)) : Wp (m_Places_within [x0, x1] S) Q := wp_def h
theorem ok_Places_within  (L : MLoc K mg "Places" "within" "Places.within" s_Places_within ["self", "other"]) (fc_Places_sorted_places : FC K mg "Places" "sorted_places") (z_all : mg "all" = none) : MCal P w K mg base "Places" "within" 1 ["self", "other"] m_Places_within :=
  mcal_def (N := n_Places_within) L sc_Places_within fun f cdv A outer s H E hr tk po => (dss_one (ds_ret (de_cb (cr_all rfl) cs_all z_all (by decide +kernel) (da_cons (de_lc (own := [("place", 2)]) false rfl sc_Places_within.nd (di_list (de_fld fc_Places_sorted_places (de_var 0))) (blkOk_by (own := [("place", 2)]) (N := n_Places_within) (sc := defScope s_Places_within) (by decide +kernel)) (fun _ _ _ _ _ => pg_name (i := 2) sc_Places_within.nd rfl (Or.inl rfl)) (gc_name (by decide)) (fun _ _ _ _ _ => dts_nil) (fun _ _ _ _ _ => (de_cmp op_inA os_in (de_var 2) (de_fld fc_Places_sorted_places (de_var 1))))) da_nil))))
abbrev s_Places___len__ : Stmt := inClass (topS 12) 5
abbrev n_Places___len__ : List Str := ["self"]
theorem sc_Places___len__ : FnScope n_Places___len__ ["self"] (defScope s_Places___len__) := ⟨rfl, rfl, rfl, by decide +kernel, rfl, by decide +kernel, by decide +kernel⟩
noncomputable def b_Places___len__ : IS := (iRet (iCa fLen (iCons (iUn (fFld "Places" "sorted_places") (iVar 0)) iNil)))
noncomputable def m_Places___len__ : List IV → Sto → Out IV := mDef 1 b_Places___len__
theorem wd_Places___len__ {x0 : IV} {S : Sto} {Q : IV → Sto → Prop} (h : Wp (b_Places___len__ [some x0] S) (FlQ Q)) : Wp (m_Places___len__ [x0] S) Q := wp_def h
theorem ok_Places___len__  (L : MLoc K mg "Places" "__len__" "Places.__len__" s_Places___len__ ["self"]) (fc_Places_sorted_places : FC K mg "Places" "sorted_places") (z_len : mg "len" = none) : MCal P w K mg base "Places" "__len__" 1 ["self"] m_Places___len__ :=
  mcal_def (N := n_Places___len__) L sc_Places___len__ fun f cdv A outer s H E hr tk po => (dss_one (ds_ret (de_cb call_len cs_len z_len (by decide +kernel) (da_cons (de_fld fc_Places_sorted_places (de_var 0)) da_nil))))
abbrev s_Places___bool__ : Stmt := inClass (topS 12) 6
abbrev n_Places___bool__ : List Str := ["self"]
theorem sc_Places___bool__ : FnScope n_Places___bool__ ["self"] (defScope s_Places___bool__) := ⟨rfl, rfl, rfl, by decide +kernel, rfl, by decide +kernel, by decide +kernel⟩
noncomputable def b_Places___bool__ : IS := (iRet (iCa fBoolL (iCons (iUn (fFld "Places" "sorted_places") (iVar 0)) iNil)))
noncomputable def m_Places___bool__ : List IV → Sto → Out IV := mDef 1 b_Places___bool__
theorem wd_Places___bool__ {x0 : IV} {S : Sto} {Q : IV → Sto → Prop} (h : Wp (b_Places___bool__ [some x0] S) (FlQ Q)) : Wp (m_Places___bool__ [x0] S) Q := wp_def h
theorem ok_Places___bool__  (L : MLoc K mg "Places" "__bool__" "Places.__bool__" s_Places___bool__ ["self"]) (fc_Places_sorted_places : FC K mg "Places" "sorted_places") (z_bool : mg "bool" = none) : MCal P w K mg base "Places" "__bool__" 1 ["self"] m_Places___bool__ :=
  mcal_def (N := n_Places___bool__) L sc_Places___bool__ fun f cdv A outer s H E hr tk po => (dss_one (ds_ret (de_ct call_boolL cs_boolL z_bool (by decide +kernel) (da_cons (de_fld fc_Places_sorted_places (de_var 0)) da_nil))))
abbrev s_Places___contains__ : Stmt := inClass (topS 12) 7
abbrev n_Places___contains__ : List Str := ["self", "place"]
theorem sc_Places___contains__ : FnScope n_Places___contains__ ["self", "place"] (defScope s_Places___contains__) := ⟨rfl, rfl, rfl, by decide +kernel, rfl, by decide +kernel, by decide +kernel⟩
noncomputable def b_Places___contains__ : IS := (iRet (iAndV (iCa fIsi (iCons (iVar 1) (iCons (iC (.ty "str")) iNil))) (iBin fIn (iVar 1) (iUn (fFld "Places" "sorted_places") (iVar 0)))))
noncomputable def m_Places___contains__ : List IV → Sto → Out IV := mDef 2 b_Places___contains__
theorem wd_Places___contains__ {x0 x1 : IV} {S : Sto} {Q : IV → Sto → Prop} (h : Wp (b_Places___contains__ [some x0, some x1] S) (FlQ Q)) : Wp (m_Places___contains__ [x0, x1] S) Q := wp_def h
theorem ok_Places___contains__  (L : MLoc K mg "Places" "__contains__" "Places.__contains__" s_Places___contains__ ["self", "place"]) (z_str : mg "str" = none) (z_isinstance : mg "isinstance" = none) (fc_Places_sorted_places : FC K mg "Places" "sorted_places") : MCal P w K mg base "Places" "__contains__" 1 ["self", "place"] m_Places___contains__ :=
  mcal_def (N := n_Places___contains__) L sc_Places___contains__ fun f cdv A outer s H E hr tk po => (dss_one (ds_ret (de_and (de_cb call_isi cs_isi z_isinstance (by decide +kernel) (da_cons (de_var 1) (da_cons (de_ty z_str (by decide +kernel)) da_nil))) (de_one (de_cmp op_inA os_in (de_var 1) (de_fld fc_Places_sorted_places (de_var 0)))))))
abbrev s_Places___eq__ : Stmt := inClass (topS 12) 8
abbrev n_Places___eq__ : List Str := ["self", "other"]
theorem sc_Places___eq__ : FnScope n_Places___eq__ ["self", "other"] (defScope s_Places___eq__) := ⟨rfl, rfl, rfl, by decide +kernel, rfl, by decide +kernel, by decide +kernel⟩
noncomputable def b_Places___eq__ : IS := (iRet (iAndV (iUn (fIsOA "Places") (iVar 1)) (iBin fEq (iUn (fFld "Places" "sorted_places") (iVar 0)) (iUn (fFld "Places" "sorted_places") (iVar 1)))))
noncomputable def m_Places___eq__ : List IV → Sto → Out IV := mDef 2 b_Places___eq__
theorem wd_Places___eq__ {x0 x1 : IV} {S : Sto} {Q : IV → Sto → Prop} (h : Wp (b_Places___eq__ [some x0, some x1] S) (FlQ Q)) : Wp (m_Places___eq__ [x0, x1] S) Q := wp_def h
theorem ok_Places___eq__  (L : MLoc K mg "Places" "__eq__" "Places.__eq__" s_Places___eq__ ["self", "other"]) (z_isinstance : mg "isinstance" = none) (isc_Places : IsC K mg "Places") (fc_Places_sorted_places : FC K mg "Places" "sorted_places") : MCal P w K mg base "Places" "__eq__" 1 ["self", "other"] m_Places___eq__ :=
  mcal_def (N := n_Places___eq__) L sc_Places___eq__ fun f cdv A outer s H E hr tk po => (dss_one (ds_ret (de_and (de_isOA isc_Places z_isinstance (de_var 1)) (de_one (de_cmp (op_eqA hr.units) os_eq (de_fld fc_Places_sorted_places (de_var 0)) (de_fld fc_Places_sorted_places (de_var 1)))))))
abbrev s_Places___or__ : Stmt := inClass (topS 12) 9
abbrev n_Places___or__ : List Str := ["self", "other"]
theorem sc_Places___or__ : FnScope n_Places___or__ ["self", "other"] (defScope s_Places___or__) := ⟨rfl, rfl, rfl, by decide +kernel, rfl, by decide +kernel, by decide +kernel⟩
noncomputable def b_Places___or__ : IS := (iRet (iMake "Places" 2 m_Places___init__ (iCons (iBin fAdd (iUn (fFld "Places" "sorted_places") (iVar 0)) (iUn (fFld "Places" "sorted_places") (iVar 1))) iNil)))
noncomputable def m_Places___or__ : List IV → Sto → Out IV := mDef 2 b_Places___or__
theorem wd_Places___or__ {x0 x1 : IV} {S : Sto} {Q : IV → Sto → Prop} (h : Wp (b_Places___or__ [some x0, some x1] S) (FlQ Q)) : Wp (m_Places___or__ [x0, x1] S) Q := wp_def h
theorem ok_Places___or__  (L : MLoc K mg "Places" "__or__" "Places.__or__" s_Places___or__ ["self", "other"]) (fc_Places_sorted_places : FC K mg "Places" "sorted_places") (c_Places___init__ : KCal P w K mg base "Places" 6 ["self", "places"] m_Places___init__) : MCal P w K mg base "Places" "__or__" 8 ["self", "other"] m_Places___or__ :=
  mcal_def (N := n_Places___or__) L sc_Places___or__ fun f cdv A outer s H E hr tk po => (dss_one (ds_ret (de_make c_Places___init__ tk (hr.mono (by decide)) (da_cons (de_bin op_addA os_add (de_fld fc_Places_sorted_places (de_var 0)) (de_fld fc_Places_sorted_places (de_var 1))) da_nil))))
abbrev s_Places___and__ : Stmt := inClass (topS 12) 10
abbrev n_Places___and__ : List Str := ["self", "other", "place"]
theorem sc_Places___and__ : FnScope n_Places___and__ ["self", "other"] (defScope s_Places___and__) := ⟨rfl, rfl, rfl, by decide +kernel, rfl, by decide +kernel, by decide +kernel⟩
noncomputable def b_Places___and__ : IS := (iRet (iMake "Places" 2 m_Places___init__ (iCons (iLc false (iSrcL (iUn (fFld "Places" "sorted_places") (iVar 0))) (giN 2) (iTest (iBin fIn (iVar 2) (iUn (fFld "Places" "sorted_places") (iVar 1)))) (iVar 2) [2]) iNil)))
noncomputable def m_Places___and__ : List IV → Sto → Out IV := mDef 3 b_Places___and__
theorem wd_Places___and__ {x0 x1 : IV} {S : Sto} {Q : IV → Sto → Prop} (h : Wp (b_Places___and__ [some x0, some x1, none] S) (FlQ Q)) : Wp (m_Places___and__ [x0, x1] S) Q := wp_def h
theorem ok_Places___and__  (L : MLoc K mg "Places" "__and__" "Places.__and__" s_Places___and__ ["self", "other"]) (fc_Places_sorted_places : FC K mg "Places" "sorted_places") (c_Places___init__ : KCal P w K mg base "Places" 6 ["self", "places"] m_Places___init__) : MCal P w K mg base "Places" "__and__" 8 ["self", "other"] m_Places___and__ :=
  mcal_def (N := n_Places___and__) L sc_Places___and__ fun f cdv A outer s H E hr tk po => (dss_one (ds_ret (de_make c_Places___init__ tk (hr.mono (by decide)) (da_cons (de_lc (own := [("place", 2)]) false rfl sc_Places___and__.nd (di_list (de_fld fc_Places_sorted_places (de_var 0))) (blkOk_by (own := [("place", 2)]) (N := n_Places___and__) (sc := defScope s_Places___and__) (by decide +kernel)) (fun _ _ _ _ _ => pg_name (i := 2) sc_Places___and__.nd rfl (Or.inl rfl)) (gc_name (by decide)) (fun _ _ _ _ _ => dts_one (dt_cmp op_inA os_in (de_var 2) (de_fld fc_Places_sorted_places (de_var 1)))) (fun _ _ _ _ _ => (de_var 2))) da_nil))))
abbrev s_Places___sub__ : Stmt := inClass (topS 12) 11
abbrev n_Places___sub__ : List Str := ["self", "other", "place"]
theorem sc_Places___sub__ : FnScope n_Places___sub__ ["self", "other"] (defScope s_Places___sub__) := ⟨rfl, rfl, rfl, by decide +kernel, rfl, by decide +kernel, by decide +kernel⟩
noncomputable def b_Places___sub__ : IS := (iRet (iMake "Places" 2 m_Places___init__ (iCons (iLc false (iSrcL (iUn (fFld "Places" "sorted_places") (iVar 0))) (giN 2) (iTest (iBin fNotIn (iVar 2) (iUn (fFld "Places" "sorted_places") (iVar 1)))) (iVar 2) [2]) iNil)))
noncomputable def m_Places___sub__ : List IV → Sto → Out IV := mDef 3 b_Places___sub__
theorem wd_Places___sub__ {x0 x1 : IV} {S : Sto} {Q : IV → Sto → Prop} (h : Wp (b_Places___sub__ [some x0, some x1, none] S) (FlQ Q)) : Wp (m_Places___sub__ [x0, x1] S) Q := wp_def h
theorem ok_Places___sub__  (L : MLoc K mg "Places" "__sub__" "Places.__sub__" s_Places___sub__ ["self", "other"]) (fc_Places_sorted_places : FC K mg "Places" "sorted_places") (c_Places___init__ : KCal P w K mg base "Places" 6 ["self", "places"] m_Places___init__) : MCal P w K mg base "Places" "__sub__" 8 ["self", "other"] m_Places___sub__ :=
  mcal_def (N := n_Places___sub__) L sc_Places___sub__ fun f cdv A outer s H E hr tk po => (dss_one (ds_ret (de_make c_Places___init__ tk (hr.mono (by decide)) (da_cons (de_lc (own := [("place", 2)]) false rfl sc_Places___sub__.nd (di_list (de_fld fc_Places_sorted_places (de_var 0))) (blkOk_by (own := [("place", 2)]) (N := n_Places___sub__) (sc := defScope s_Places___sub__) (by decide +kernel)) (fun _ _ _ _ _ => pg_name (i := 2) sc_Places___sub__.nd rfl (Or.inl rfl)) (gc_name (by decide)) (fun _ _ _ _ _ => dts_one (dt_cmp op_notInA os_notIn (de_var 2) (de_fld fc_Places_sorted_places (de_var 1)))) (fun _ _ _ _ _ => (de_var 2))) da_nil))))
abbrev s_Places___repr__ : Stmt := inClass (topS 12) 12
abbrev n_Places___repr__ : List Str := ["self"]
theorem sc_Places___repr__ : FnScope n_Places___repr__ ["self"] (defScope s_Places___repr__) := ⟨rfl, rfl, rfl, by decide +kernel, rfl, by decide +kernel, by decide +kernel⟩
noncomputable def b_Places___repr__ : IS := (iRet (iJoined [(iC (.str "Places(")), (iBM "str" fJoin (iC (.str ", ")) (iCons (iUn (fFld "Places" "sorted_places") (iVar 0)) iNil)), (iC (.str ")"))]))
noncomputable def m_Places___repr__ : List IV → Sto → Out IV := mDef 1 b_Places___repr__
theorem wd_Places___repr__ {x0 : IV} {S : Sto} {Q : IV → Sto → Prop} (h : Wp (b_Places___repr__ [some x0] S) (FlQ Q)) : Wp (m_Places___repr__ [x0] S) Q := wp_def h
theorem ok_Places___repr__  (L : MLoc K mg "Places" "__repr__" "Places.__repr__" s_Places___repr__ ["self"]) (fc_Places_sorted_places : FC K mg "Places" "sorted_places") : MCal P w K mg base "Places" "__repr__" 1 ["self"] m_Places___repr__ :=
  mcal_def (N := n_Places___repr__) L sc_Places___repr__ fun f cdv A outer s H E hr tk po => (dss_one (ds_ret (de_joined (DJ.lit de_str (DJ.fmt (de_bm PySem.F.plainAttrs_str PySem.F.slot_str_join PySem.F.type_str_join mt_join ms_join de_str (da_cons (de_fld fc_Places_sorted_places (de_var 0)) da_nil)) (DJ.lit de_str DJ.nil))))))
abbrev s__law_source : Stmt := topS 14
abbrev n__law_source : List Str := ["_law_script", "_law_place", "_law_cell", "_law_digits"]
theorem sc__law_source : FnScope n__law_source ["_law_script", "_law_place"] (defScope s__law_source) := ⟨rfl, rfl, rfl, by decide +kernel, rfl, by decide +kernel, by decide +kernel⟩
noncomputable def b__law_source : IS := (iSeq (iSet 2 (iIf (iTest (iBin fLt (iVar 1) (iCa fLen (iCons (iVar 0) iNil)))) (iBin fIx (iVar 0) (iVar 1)) (iC (.int 0)))) (iSeq (iSet 3 (iIf (iTest (iBin fGe (iCa fAbs (iCons (iVar 2) iNil)) (iBin fPow (iC (.int 10)) (iC (.int 18))))) (iCa fAbs (iCons (iVar 2) iNil)) (iC (.int 0)))) (iRet (iLst true (iCons (iVar 3) (iCons (iBin fAdd (iBin fAdd (iBin fMod (iCa fInt (iCons (iVar 2) iNil)) (iC (.int 2147483587))) (iBin fMul (iC (.int 7919)) (iVar 1))) (iC (.int 11))) (iCons (iC (.int 0)) iNil)))))))
noncomputable def m__law_source : List IV → Sto → Out IV := mDef 4 b__law_source
theorem ok__law_source  (L : Loc K mg "_law_source" s__law_source ["_law_script", "_law_place"]) (z_int : mg "int" = none) (z_abs : mg "abs" = none) (z_len : mg "len" = none) : Cal P w K mg base "_law_source" 1 ["_law_script", "_law_place"] m__law_source :=
  cal_def (N := n__law_source) L sc__law_source fun f cdv A outer s H E hr tk po => (dss_cons (ds_set 2 sc__law_source.nd (de_if (dt_cmp op_lt os_B (de_var 1) (de_cb call_len cs_len z_len (by decide +kernel) (da_cons (de_var 0) da_nil))) (de_ix (de_var 0) (de_var 1)) de_int)) (dss_cons (ds_set 3 sc__law_source.nd (de_if (dt_cmp op_ge os_B (de_cb call_abs cs_abs z_abs (by decide +kernel) (da_cons (de_var 2) da_nil)) (de_bin op_pow os_I de_int de_int)) (de_cb call_abs cs_abs z_abs (by decide +kernel) (da_cons (de_var 2) da_nil)) de_int)) (dss_one (ds_ret (de_lst true (da_cons (de_var 3) (da_cons (de_bin op_addA os_add (de_bin op_addA os_add (de_bin op_mod os_I (de_ct call_int1 cs_int z_int (by decide +kernel) (da_cons (de_var 2) da_nil)) de_int) (de_bin op_mul os_I de_int (de_var 1))) de_int) (da_cons de_int da_nil))))))))
abbrev s__law_draw : Stmt := topS 15
abbrev n__law_draw : List Str := ["_law_s", "_law_many", "_law_digit", "_law_half"]
theorem sc__law_draw : FnScope n__law_draw ["_law_s", "_law_many"] (defScope s__law_draw) := ⟨rfl, rfl, rfl, by decide +kernel, rfl, by decide +kernel, by decide +kernel⟩
noncomputable def b__law_draw : IS := (iSeq (iIf (iTest (iBin fGt (iBin fIx (iVar 0) (iC (.int 0))) (iC (.int 0)))) (iSeq (iSet 2 (iBin fMod (iCa fInt (iCons (iBin fIx (iVar 0) (iC (.int 0))) iNil)) (iVar 1))) (iSeq (iAsg (iBin fDiv (iBin fIx (iVar 0) (iC (.int 0))) (iVar 1)) (iGSub (iVar 0) (iC (.int 0)))) (iRet (iVar 2)))) iNext) (iSeq (iAsg (iBin fAdd (iBin fIx (iVar 0) (iC (.int 2))) (iC (.int 1))) (iGSub (iVar 0) (iC (.int 2)))) (iSeq (iAsg (iBin fMod (iCa fInt (iCons (iBin fAdd (iBin fAdd (iBin fMul (iBin fIx (iVar 0) (iC (.int 1))) (iC (.int 39373))) (iBin fMul (iBin fMul (iBin fIx (iVar 0) (iC (.int 2))) (iBin fIx (iVar 0) (iC (.int 2)))) (iC (.int 30011)))) (iC (.int 1013))) iNil)) (iC (.int 2147483563))) (iGSub (iVar 0) (iC (.int 1)))) (iSeq (iSet 3 (iBin fDiv (iBin fIx (iVar 0) (iC (.int 1))) (iC (.int 128)))) (iRet (iBin fMod (iCa fInt (iCons (iBin fMod (iCa fInt (iCons (iBin fAdd (iBin fMul (iVar 3) (iVar 3)) (iBin fIx (iVar 0) (iC (.int 1)))) iNil)) (iC (.int 2147399993))) iNil)) (iVar 1)))))))
noncomputable def m__law_draw : List IV → Sto → Out IV := mDef 4 b__law_draw
theorem ok__law_draw  (L : Loc K mg "_law_draw" s__law_draw ["_law_s", "_law_many"]) (z_int : mg "int" = none) : Cal P w K mg base "_law_draw" 1 ["_law_s", "_law_many"] m__law_draw :=
  cal_def (N := n__law_draw) L sc__law_draw fun f cdv A outer s H E hr tk po => (dss_cons (ds_if (dt_cmp op_gt os_B (de_ix (de_var 0) de_int) de_int) (dss_cons (ds_set 2 sc__law_draw.nd (de_bin op_mod os_I (de_ct call_int1 cs_int z_int (by decide +kernel) (da_cons (de_ix (de_var 0) de_int) da_nil)) (de_var 1))) (dss_cons (ds_asg (de_bin op_fdiv os_I (de_ix (de_var 0) de_int) (de_var 1)) (dg_sub (de_var 0) de_int)) (dss_one (ds_ret (de_var 2))))) dss_nil) (dss_cons (ds_asg (de_bin op_addA os_add (de_ix (de_var 0) de_int) de_int) (dg_sub (de_var 0) de_int)) (dss_cons (ds_asg (de_bin op_mod os_I (de_ct call_int1 cs_int z_int (by decide +kernel) (da_cons (de_bin op_addA os_add (de_bin op_addA os_add (de_bin op_mul os_I (de_ix (de_var 0) de_int) de_int) (de_bin op_mul os_I (de_bin op_mul os_I (de_ix (de_var 0) de_int) (de_ix (de_var 0) de_int)) de_int)) de_int) da_nil)) de_int) (dg_sub (de_var 0) de_int)) (dss_cons (ds_set 3 sc__law_draw.nd (de_bin op_fdiv os_I (de_ix (de_var 0) de_int) de_int)) (dss_one (ds_ret (de_bin op_mod os_I (de_ct call_int1 cs_int z_int (by decide +kernel) (da_cons (de_bin op_mod os_I (de_ct call_int1 cs_int z_int (by decide +kernel) (da_cons (de_bin op_addA os_add (de_bin op_mul os_I (de_var 3) (de_var 3)) (de_ix (de_var 0) de_int)) da_nil)) de_int) da_nil)) (de_var 1))))))))
abbrev s__law_of : Stmt := topS 16
abbrev n__law_of : List Str := ["_law_source_here", "_law_some"]
theorem sc__law_of : FnScope n__law_of ["_law_source_here", "_law_some"] (defScope s__law_of) := ⟨rfl, rfl, rfl, by decide +kernel, rfl, by decide +kernel, by decide +kernel⟩
noncomputable def b__law_of : IS := (iRet (iBin fIx (iVar 1) (iCall 2 m__law_draw (iCons (iVar 0) (iCons (iCa fLen (iCons (iVar 1) iNil)) iNil)))))
noncomputable def m__law_of : List IV → Sto → Out IV := mDef 2 b__law_of
theorem wd__law_of {x0 x1 : IV} {S : Sto} {Q : IV → Sto → Prop} (h : Wp (b__law_of [some x0, some x1] S) (FlQ Q)) : Wp (m__law_of [x0, x1] S) Q := wp_def h
theorem ok__law_of  (L : Loc K mg "_law_of" s__law_of ["_law_source_here", "_law_some"]) (z_len : mg "len" = none) (c__law_draw : Cal P w K mg base "_law_draw" 1 ["_law_s", "_law_many"] m__law_draw) : Cal P w K mg base "_law_of" 2 ["_law_source_here", "_law_some"] m__law_of :=
  cal_def (N := n__law_of) L sc__law_of fun f cdv A outer s H E hr tk po => (dss_one (ds_ret (de_ix (de_var 1) (de_callC c__law_draw tk (hr.mono (by decide)) (da_cons (de_var 0) (da_cons (de_cb call_len cs_len z_len (by decide +kernel) (da_cons (de_var 1) da_nil)) da_nil))))))
abbrev s__law_names : Stmt := topS 17
abbrev n__law_names : List Str := ["_law_source_here", "_law_many", "_law_longest", "_law_kept", "_law_letters", "_law_names_here", "_law_turn", "_law_name", "_law_others", "_law_k", "_law_other"]
theorem sc__law_names : FnScope n__law_names ["_law_source_here", "_law_many", "_law_longest"] (defScope s__law_names) := ⟨rfl, rfl, rfl, by decide +kernel, rfl, by decide +kernel, by decide +kernel⟩
noncomputable def b__law_names : IS := (iSeq (iSet 3 (iC (.str "ahead all as at call class def either end for from \x69mport keep module none often once or outside patch"))) (iSeq (iSet 3 (iBM "str" (fSplit false) (iBin fAdd (iVar 3) (iC (.str " set stand start stop table test using with"))) (iCons (iC (.str " ")) iNil))) (iSeq (iSet 4 (iC (.str "abcdefghijklmnopqrstuvwxyz"))) (iSeq (iSet 5 (iLst true iNil)) (iSeq (iFor (iSrcR1 (iVar 1)) (iName 6) (iSeq (iSet 7 (iBM "str" fJoin (iC (.str "")) (iCons (iLc false (iSrcR1 (iBin fAdd (iC (.int 1)) (iCall 2 m__law_draw (iCons (iVar 0) (iCons (iVar 2) iNil))))) (giN 9) iYes (iBin fIx (iVar 4) (iCall 2 m__law_draw (iCons (iVar 0) (iCons (iC (.int 26)) iNil)))) [9]) iNil))) (iSeq (iIf (iOr (iTest (iBin fIn (iVar 7) (iVar 3))) (iTest (iBin fIn (iVar 7) (iVar 5)))) (iSeq (iSet 8 (iLc false (iSrcR1 (iC (.int 60))) (giN 9) iYes (iBin fAdd (iBin fAdd (iBin fIx (iVar 4) (iBin fDiv (iVar 9) (iC (.int 26)))) (iBin fIx (iVar 4) (iBin fMod (iCa fInt (iCons (iVar 9) iNil)) (iC (.int 26))))) (iC (.str "q"))) [9])) (iSet 7 (iBin fIx (iLc false (iSrcL (iVar 8)) (giN 10) (iTest (iBin fNotIn (iVar 10) (iVar 5))) (iVar 10) [10]) (iC (.int 0))))) iNext) (iDrop (iBM "list" fApp (iVar 5) (iCons (iVar 7) iNil)))))) (iRet (iVar 5)))))))
noncomputable def m__law_names : List IV → Sto → Out IV := mDef 11 b__law_names
theorem wd__law_names {x0 x1 x2 : IV} {S : Sto} {Q : IV → Sto → Prop} (h : Wp (b__law_names [some x0, some x1, some x2, none, none, none, none, none, none, none, none] S) (FlQ Q)) : Wp (m__law_names [x0, x1, x2] S) Q := wp_def h
theorem ok__law_names  (L : Loc K mg "_law_names" s__law_names ["_law_source_here", "_law_many", "_law_longest"]) (z_range : mg "range" = none) (z_int : mg "int" = none) (c__law_draw : Cal P w K mg base "_law_draw" 1 ["_law_s", "_law_many"] m__law_draw) : Cal P w K mg base "_law_names" 2 ["_law_source_here", "_law_many", "_law_longest"] m__law_names :=
  cal_def (N := n__law_names) L sc__law_names fun f cdv A outer s H E hr tk po => (dss_cons (ds_set 3 sc__law_names.nd de_str) (dss_cons (ds_set 3 sc__law_names.nd (de_bm PySem.F.plainAttrs_str PySem.F.slot_str_split PySem.F.type_str_split mt_split (ms_split false) (de_bin op_addA os_add (de_var 3) de_str) (da_cons de_str da_nil))) (dss_cons (ds_set 4 sc__law_names.nd de_str) (dss_cons (ds_set 5 sc__law_names.nd (de_lst true da_nil)) (dss_cons (ds_for po rfl (di_range1 z_range (da_cons (de_var 1) da_nil)) (dg_name 6 sc__law_names.nd) (dss_cons (ds_set 7 sc__law_names.nd (de_bm PySem.F.plainAttrs_str PySem.F.slot_str_join PySem.F.type_str_join mt_join ms_join de_str (da_cons (de_lc (own := [("_law_k", 9)]) false rfl sc__law_names.nd (di_range1 z_range (da_cons (de_bin op_addA os_add de_int (de_callC c__law_draw tk (hr.mono (by decide)) (da_cons (de_var 0) (da_cons (de_var 2) da_nil)))) da_nil)) (blkOk_by (own := [("_law_k", 9)]) (N := n__law_names) (sc := defScope s__law_names) (by decide +kernel)) (fun _ _ _ _ _ => pg_name (i := 9) sc__law_names.nd rfl (Or.inl rfl)) (gc_name (by decide)) (fun _ _ _ _ _ => dts_nil) (fun _ _ _ _ _ => (de_ix (de_var 4) (de_callC c__law_draw takesW0 (hr.mono (by decide)) (da_cons (de_var 0) (da_cons de_int da_nil)))))) da_nil))) (dss_cons (ds_if (dt_w (dw_or (dt_cmp op_inA os_in (de_var 7) (de_var 3)) (dw_or1 (dt_cmp op_inA os_in (de_var 7) (de_var 5))))) (dss_cons (ds_setLc (own := [("_law_k", 9)]) false 8 rfl sc__law_names.nd (di_range1 z_range (da_cons de_int da_nil)) (blkOk_by (own := [("_law_k", 9)]) (N := n__law_names) (sc := defScope s__law_names) (by decide +kernel)) (fun _ _ _ _ _ => pg_name (i := 9) sc__law_names.nd rfl (Or.inl rfl)) (gc_name (by decide)) (fun _ _ _ _ _ => dts_nil) (fun _ _ _ _ _ => (de_bin op_addA os_add (de_bin op_addA os_add (de_ix (de_var 4) (de_bin op_fdiv os_I (de_var 9) de_int)) (de_ix (de_var 4) (de_bin op_mod os_I (de_ct call_int1 cs_int z_int (by decide +kernel) (da_cons (de_var 9) da_nil)) de_int))) de_str))) (dss_one (ds_set 7 sc__law_names.nd (de_ix (de_lc (own := [("_law_other", 10)]) false rfl sc__law_names.nd (di_list (de_var 8)) (blkOk_by (own := [("_law_other", 10)]) (N := n__law_names) (sc := defScope s__law_names) (by decide +kernel)) (fun _ _ _ _ _ => pg_name (i := 10) sc__law_names.nd rfl (Or.inl rfl)) (gc_name (by decide)) (fun _ _ _ _ _ => dts_one (dt_cmp op_notInA os_notIn (de_var 10) (de_var 5))) (fun _ _ _ _ _ => (de_var 10))) de_int)))) dss_nil) (dss_one (ds_expr (de_bm PySem.F.plainAttrs_list PySem.F.slot_list_append PySem.F.type_list_append mt_append ms_app (de_var 5) (da_cons (de_var 7) da_nil))))))) (dss_one (ds_ret (de_var 5))))))))
abbrev s__law_pool : Stmt := topS 18
abbrev n__law_pool : List Str := ["_law_source_here", "_law_names_here", "_law_pool_here", "_law_turn", "_law_one", "_law_two", "_law_key", "_law_forms"]
theorem sc__law_pool : FnScope n__law_pool ["_law_source_here"] (defScope s__law_pool) := ⟨rfl, rfl, rfl, by decide +kernel, rfl, by decide +kernel, by decide +kernel⟩
noncomputable def b__law_pool : IS := (iSeq (iPar 1 2 (iCons (iCall 3 m__law_names (iCons (iVar 0) (iCons (iC (.int 12)) (iCons (iC (.int 8)) iNil)))) (iCons (iLst true iNil) iNil))) (iSeq (iFor (iSrcR1 (iC (.int 8))) (iName 3) (iSeq (iPar3 4 5 6 (iCons (iCall 2 m__law_of (iCons (iVar 0) (iCons (iVar 1) iNil))) (iCons (iCall 2 m__law_of (iCons (iVar 0) (iCons (iVar 1) iNil))) (iCons (iCall 2 m__law_of (iCons (iVar 0) (iCons (iVar 1) iNil))) iNil)))) (iSeq (iSet 7 (iLst false (iCons (iBin fAdd (iBin fAdd (iVar 4) (iC (.str "."))) (iVar 5)) (iCons (iBin fAdd (iBin fAdd (iBin fAdd (iBin fAdd (iVar 4) (iC (.str "."))) (iVar 5)) (iC (.str "."))) (iVar 6)) (iCons (iBin fAdd (iBin fAdd (iBin fAdd (iBin fAdd (iBin fAdd (iVar 4) (iC (.str "."))) (iVar 5)) (iC (.str "["))) (iVar 6)) (iC (.str "]"))) iNil))))) (iDrop (iBM "list" fApp (iVar 2) (iCons (iCall 2 m__law_of (iCons (iVar 0) (iCons (iBin fAdd (iVar 7) (iLst false (iCons (iBin fAdd (iBin fAdd (iBin fAdd (iBin fAdd (iBin fAdd (iVar 4) (iC (.str "."))) (iVar 5)) (iC (.str "("))) (iVar 6)) (iC (.str ")"))) iNil))) iNil))) iNil)))))) (iRet (iVar 2))))
noncomputable def m__law_pool : List IV → Sto → Out IV := mDef 8 b__law_pool
theorem wd__law_pool {x0 : IV} {S : Sto} {Q : IV → Sto → Prop} (h : Wp (b__law_pool [some x0, none, none, none, none, none, none, none] S) (FlQ Q)) : Wp (m__law_pool [x0] S) Q := wp_def h
theorem ok__law_pool  (L : Loc K mg "_law_pool" s__law_pool ["_law_source_here"]) (z_range : mg "range" = none) (c__law_of : Cal P w K mg base "_law_of" 2 ["_law_source_here", "_law_some"] m__law_of) (c__law_names : Cal P w K mg base "_law_names" 2 ["_law_source_here", "_law_many", "_law_longest"] m__law_names) : Cal P w K mg base "_law_pool" 3 ["_law_source_here"] m__law_pool :=
  cal_def (N := n__law_pool) L sc__law_pool fun f cdv A outer s H E hr tk po => (dss_cons (ds_par 1 2 rfl sc__law_pool.nd (da_cons (de_callC c__law_names tk (hr.mono (by decide)) (da_cons (de_var 0) (da_cons de_int (da_cons de_int da_nil)))) (da_cons (de_lst true da_nil) da_nil))) (dss_cons (ds_for po rfl (di_range1 z_range (da_cons de_int da_nil)) (dg_name 3 sc__law_pool.nd) (dss_cons (ds_par3 4 5 6 rfl sc__law_pool.nd (da_cons (de_callC c__law_of tk (hr.mono (by decide)) (da_cons (de_var 0) (da_cons (de_var 1) da_nil))) (da_cons (de_callC c__law_of tk (hr.mono (by decide)) (da_cons (de_var 0) (da_cons (de_var 1) da_nil))) (da_cons (de_callC c__law_of tk (hr.mono (by decide)) (da_cons (de_var 0) (da_cons (de_var 1) da_nil))) da_nil)))) (dss_cons (ds_set 7 sc__law_pool.nd (de_lst false (da_cons (de_bin op_addA os_add (de_bin op_addA os_add (de_var 4) de_str) (de_var 5)) (da_cons (de_bin op_addA os_add (de_bin op_addA os_add (de_bin op_addA os_add (de_bin op_addA os_add (de_var 4) de_str) (de_var 5)) de_str) (de_var 6)) (da_cons (de_bin op_addA os_add (de_bin op_addA os_add (de_bin op_addA os_add (de_bin op_addA os_add (de_bin op_addA os_add (de_var 4) de_str) (de_var 5)) de_str) (de_var 6)) de_str) da_nil))))) (dss_one (ds_expr (de_bm PySem.F.plainAttrs_list PySem.F.slot_list_append PySem.F.type_list_append mt_append ms_app (de_var 2) (da_cons (de_callC c__law_of tk (hr.mono (by decide)) (da_cons (de_var 0) (da_cons (de_bin op_addA os_add (de_var 7) (de_lst false (da_cons (de_bin op_addA os_add (de_bin op_addA os_add (de_bin op_addA os_add (de_bin op_addA os_add (de_bin op_addA os_add (de_var 4) de_str) (de_var 5)) de_str) (de_var 6)) de_str) da_nil))) da_nil))) da_nil))))))) (dss_one (ds_ret (de_var 2)))))
abbrev s__law_drawn : Stmt := topS 19
abbrev n__law_drawn : List Str := ["_law_source_here", "_law_pool_here", "_law_turn"]
theorem sc__law_drawn : FnScope n__law_drawn ["_law_source_here", "_law_pool_here"] (defScope s__law_drawn) := ⟨rfl, rfl, rfl, by decide +kernel, rfl, by decide +kernel, by decide +kernel⟩
noncomputable def b__law_drawn : IS := (iRet (iLc false (iSrcR1 (iCall 2 m__law_draw (iCons (iVar 0) (iCons (iC (.int 10)) iNil)))) (giN 2) iYes (iCall 2 m__law_of (iCons (iVar 0) (iCons (iVar 1) iNil))) [2]))
noncomputable def m__law_drawn : List IV → Sto → Out IV := mDef 3 b__law_drawn
theorem wd__law_drawn {x0 x1 : IV} {S : Sto} {Q : IV → Sto → Prop} (h : Wp (b__law_drawn [some x0, some x1, none] S) (FlQ Q)) : Wp (m__law_drawn [x0, x1] S) Q := wp_def h
theorem ok__law_drawn  (L : Loc K mg "_law_drawn" s__law_drawn ["_law_source_here", "_law_pool_here"]) (z_range : mg "range" = none) (c__law_draw : Cal P w K mg base "_law_draw" 1 ["_law_s", "_law_many"] m__law_draw) (c__law_of : Cal P w K mg base "_law_of" 2 ["_law_source_here", "_law_some"] m__law_of) : Cal P w K mg base "_law_drawn" 3 ["_law_source_here", "_law_pool_here"] m__law_drawn :=
  cal_def (N := n__law_drawn) L sc__law_drawn fun f cdv A outer s H E hr tk po => (dss_one (ds_ret (de_lc (own := [("_law_turn", 2)]) false rfl sc__law_drawn.nd (di_range1 z_range (da_cons (de_callC c__law_draw tk (hr.mono (by decide)) (da_cons (de_var 0) (da_cons de_int da_nil))) da_nil)) (blkOk_by (own := [("_law_turn", 2)]) (N := n__law_drawn) (sc := defScope s__law_drawn) (by decide +kernel)) (fun _ _ _ _ _ => pg_name (i := 2) sc__law_drawn.nd rfl (Or.inl rfl)) (gc_name (by decide)) (fun _ _ _ _ _ => dts_nil) (fun _ _ _ _ _ => (de_callC c__law_of takesW0 (hr.mono (by decide)) (da_cons (de_var 0) (da_cons (de_var 1) da_nil)))))))
abbrev s__law_is : Stmt := topS 20
abbrev n__law_is : List Str := ["_law_told", "_law_due"]
theorem sc__law_is : FnScope n__law_is ["_law_told", "_law_due"] (defScope s__law_is) := ⟨rfl, rfl, rfl, by decide +kernel, rfl, by decide +kernel, by decide +kernel⟩
noncomputable def b__law_is : IS := (iSeq (iIf (iOr (iNot (iTru (iUn (fIsOA "Places") (iVar 0)))) (iOr (iNot (iTru (iCa fIsi (iCons (iMeth "Places" "texts" 1 m_Places_texts (iVar 0) iNil) (iCons (iC (.ty "list")) iNil))))) (iTest (iBin fNe (iMeth "Places" "texts" 1 m_Places_texts (iVar 0) iNil) (iSortT false (iVar 1)))))) (iRet (iC (.bl false))) iNext) (iSeq (iIf (iOr (iTest (iBin fNe (iCa (fLenO "Places" m_Places___len__) (iCons (iVar 0) iNil)) (iLenT (iVar 1)))) (iTest (iBin fNe (iCa (fBoolO "Places" m_Places___bool__) (iCons (iVar 0) iNil)) (iBin fNe (iVar 1) (iLst false iNil))))) (iRet (iC (.bl false))) iNext) (iRet (iBin fEq (iCa (fStrO "Places" m_Places___repr__) (iCons (iVar 0) iNil)) (iBin fAdd (iBin fAdd (iC (.str "Places(")) (iBM "str" fJoin (iC (.str ", ")) (iCons (iSortT false (iVar 1)) iNil))) (iC (.str ")")))))))
noncomputable def m__law_is : List IV → Sto → Out IV := mDef 2 b__law_is
theorem wd__law_is {x0 x1 : IV} {S : Sto} {Q : IV → Sto → Prop} (h : Wp (b__law_is [some x0, some x1] S) (FlQ Q)) : Wp (m__law_is [x0, x1] S) Q := wp_def h
theorem ok__law_is  (L : Loc K mg "_law_is" s__law_is ["_law_told", "_law_due"]) (z_repr : mg "repr" = none) (z_sorted : mg "sorted" = none) (z_set : mg "set" = none) (z_len : mg "len" = none) (z_bool : mg "bool" = none) (z_isinstance : mg "isinstance" = none) (isc_Places : IsC K mg "Places") (z_list : mg "list" = none) (c_Places___repr__ : MCal P w K mg base "Places" "__repr__" 1 ["self"] m_Places___repr__) (c_Places___len__ : MCal P w K mg base "Places" "__len__" 1 ["self"] m_Places___len__) (c_Places___bool__ : MCal P w K mg base "Places" "__bool__" 1 ["self"] m_Places___bool__) (c_Places_texts : MCal P w K mg base "Places" "texts" 1 ["self"] m_Places_texts) : Cal P w K mg base "_law_is" 4 ["_law_told", "_law_due"] m__law_is :=
  cal_def (N := n__law_is) L sc__law_is fun f cdv A outer s H E hr tk po => (dss_cons (ds_if (dt_w (dw_or (dt_not (dt_tru (de_isOA isc_Places z_isinstance (de_var 0)))) (dw_or (dt_not (dt_tru (de_cb call_isi cs_isi z_isinstance (by decide +kernel) (da_cons (de_meth0 c_Places_texts tk (hr.mono (by decide)) (de_var 0)) (da_cons (de_ty z_list (by decide +kernel)) da_nil))))) (dw_or1 (dt_cmp (op_neA hr.units) os_ne (de_meth0 c_Places_texts tk (hr.mono (by decide)) (de_var 0)) (de_sortT false rfl (de_var 1) z_sorted z_set)))))) (dss_one (ds_ret de_bl)) dss_nil) (dss_cons (ds_if (dt_w (dw_or (dt_cmp (op_neA hr.units) os_ne (de_cb (call_lenO c_Places___len__ (hr.mono (by decide))) cs_lenO z_len (by decide +kernel) (da_cons (de_var 0) da_nil)) (de_lenT rfl (de_var 1) z_len z_set)) (dw_or1 (dt_cmp (op_neA hr.units) os_ne (de_ct (call_boolO c_Places___bool__ (hr.mono (by decide))) cs_boolO z_bool (by decide +kernel) (da_cons (de_var 0) da_nil)) (de_cmp (op_neA hr.units) os_ne (de_var 1) (de_lst false da_nil)))))) (dss_one (ds_ret de_bl)) dss_nil) (dss_one (ds_ret (de_cmp (op_eqA hr.units) os_eq (de_cb (call_reprO c_Places___repr__ (hr.mono (by decide))) cs_strO z_repr (by decide +kernel) (da_cons (de_var 0) da_nil)) (de_bin op_addA os_add (de_bin op_addA os_add de_str (de_bm PySem.F.plainAttrs_str PySem.F.slot_str_join PySem.F.type_str_join mt_join ms_join de_str (da_cons (de_sortT false rfl (de_var 1) z_sorted z_set) da_nil))) de_str))))))
abbrev s__law_apart : Stmt := topS 21
abbrev n__law_apart : List Str := ["_law_one", "_law_first", "_law_handed", "_law_told", "_law_back"]
theorem sc__law_apart : FnScope n__law_apart ["_law_one", "_law_first"] (defScope s__law_apart) := ⟨rfl, rfl, rfl, by decide +kernel, rfl, by decide +kernel, by decide +kernel⟩
noncomputable def b__law_apart : IS := (iSeq (iSet 2 (iCa (fList true) (iCons (iVar 1) iNil))) (iSeq (iSet 3 (iMake "Places" 2 m_Places___init__ (iCons (iVar 2) iNil))) (iSeq (iIf (iTest (iBin fNe (iVar 2) (iCa (fList true) (iCons (iVar 1) iNil)))) (iRet (iC (.bl false))) iNext) (iSeq (iDrop (iBM "list" fApp (iVar 2) (iCons (iC (.str "late.place")) iNil))) (iSeq (iDrop (iBM "list" fApp (iMeth "Places" "texts" 1 m_Places_texts (iVar 3) iNil) (iCons (iC (.str "late.place")) iNil))) (iSeq (iSet 4 (iMeth "Places" "texts" 1 m_Places_texts (iVar 3) iNil)) (iSeq (iDrop (iBM "list" fClear (iVar 4) iNil)) (iRet (iAndV (iCall 2 m__law_is (iCons (iVar 3) (iCons (iVar 1) iNil))) (iAndV (iBin (fCmpO "Places" m_Places___eq__ false) (iVar 3) (iVar 0)) (iAndV (iBin (fCmpO "Places" m_Places___eq__ false) (iVar 0) (iVar 3)) (iNotV (iBin (fCmpO "Places" m_Places___eq__ true) (iVar 3) (iVar 0))))))))))))))
noncomputable def m__law_apart : List IV → Sto → Out IV := mDef 5 b__law_apart
theorem wd__law_apart {x0 x1 : IV} {S : Sto} {Q : IV → Sto → Prop} (h : Wp (b__law_apart [some x0, some x1, none, none, none] S) (FlQ Q)) : Wp (m__law_apart [x0, x1] S) Q := wp_def h
theorem ok__law_apart  (L : Loc K mg "_law_apart" s__law_apart ["_law_one", "_law_first"]) (nec_Places : NeC K mg "Places") (z_list : mg "list" = none) (c__law_is : Cal P w K mg base "_law_is" 4 ["_law_told", "_law_due"] m__law_is) (c_Places___eq__ : MCal P w K mg base "Places" "__eq__" 1 ["self", "other"] m_Places___eq__) (c_Places_texts : MCal P w K mg base "Places" "texts" 1 ["self"] m_Places_texts) (c_Places___init__ : KCal P w K mg base "Places" 6 ["self", "places"] m_Places___init__) : Cal P w K mg base "_law_apart" 8 ["_law_one", "_law_first"] m__law_apart :=
  cal_def (N := n__law_apart) L sc__law_apart fun f cdv A outer s H E hr tk po => (dss_cons (ds_set 2 sc__law_apart.nd (de_ct call_list_of (cs_list true) z_list (by decide +kernel) (da_cons (de_var 1) da_nil))) (dss_cons (ds_set 3 sc__law_apart.nd (de_make c_Places___init__ tk (hr.mono (by decide)) (da_cons (de_var 2) da_nil))) (dss_cons (ds_if (dt_cmp (op_neA hr.units) os_ne (de_var 2) (de_ct call_list_of (cs_list true) z_list (by decide +kernel) (da_cons (de_var 1) da_nil))) (dss_one (ds_ret de_bl)) dss_nil) (dss_cons (ds_expr (de_bm PySem.F.plainAttrs_list PySem.F.slot_list_append PySem.F.type_list_append mt_append ms_app (de_var 2) (da_cons de_str da_nil))) (dss_cons (ds_expr (de_bm PySem.F.plainAttrs_list PySem.F.slot_list_append PySem.F.type_list_append mt_append ms_app (de_meth0 c_Places_texts tk (hr.mono (by decide)) (de_var 3)) (da_cons de_str da_nil))) (dss_cons (ds_set 4 sc__law_apart.nd (de_meth0 c_Places_texts tk (hr.mono (by decide)) (de_var 3))) (dss_cons (ds_expr (de_bm0 PySem.F.plainAttrs_list PySem.F.slot_list_clear PySem.F.type_list_clear mt_clear ms_clear (de_var 4))) (dss_one (ds_ret (de_and (de_callC c__law_is tk (hr.mono (by decide)) (da_cons (de_var 3) (da_cons (de_var 1) da_nil))) (de_and (de_cmp (op_eqOA c_Places___eq__ (hr.mono (by decide))) os_cmpO (de_var 3) (de_var 0)) (de_and (de_cmp (op_eqOA c_Places___eq__ (hr.mono (by decide))) os_cmpO (de_var 0) (de_var 3)) (de_one (de_not (de_cmp (op_neOA nec_Places c_Places___eq__ (hr.mono (by decide))) os_cmpO (de_var 3) (de_var 0))))))))))))))))
abbrev s__law_right : Stmt := topS 22
abbrev n__law_right : List Str := ["_law_source_here", "_law_pool_here", "_law_first", "_law_second", "_law_one", "_law_two", "_law_both", "_law_less", "_law_is_same", "_law_odd", "_law_few", "_law_three", "_law_place", "_law_thing"]
theorem sc__law_right : FnScope n__law_right ["_law_source_here"] (defScope s__law_right) := ⟨rfl, rfl, rfl, by decide +kernel, rfl, by decide +kernel, by decide +kernel⟩
noncomputable def b__law_right : IS := (iSeq (iSet 1 (iCall 1 m__law_pool (iCons (iVar 0) iNil))) (iSeq (iAsg (iTup (iCons (iCall 2 m__law_drawn (iCons (iVar 0) (iCons (iVar 1) iNil))) (iCons (iCall 2 m__law_drawn (iCons (iVar 0) (iCons (iVar 1) iNil))) iNil))) (iGTup 2 (iGCons (iName 2) (iGCons (iName 3) iGNil)))) (iSeq (iAsg (iTup (iCons (iMake "Places" 2 m_Places___init__ (iCons (iCa (fList false) (iCons (iVar 2) iNil)) iNil)) (iCons (iMake "Places" 2 m_Places___init__ (iCons (iCa (fList false) (iCons (iVar 3) iNil)) iNil)) iNil))) (iGTup 2 (iGCons (iName 4) (iGCons (iName 5) iGNil)))) (iSeq (iSet 6 (iLc false (iSrcL (iVar 2)) (giN 12) (iTest (iBin fIn (iVar 12) (iVar 3))) (iVar 12) [12])) (iSeq (iSet 7 (iLc false (iSrcL (iVar 2)) (giN 12) (iTest (iBin fNotIn (iVar 12) (iVar 3))) (iVar 12) [12])) (iSeq (iIf (iOr (iNot (iTru (iCall 2 m__law_is (iCons (iVar 4) (iCons (iVar 2) iNil))))) (iOr (iNot (iTru (iCall 2 m__law_is (iCons (iVar 5) (iCons (iVar 3) iNil))))) (iNot (iTru (iCall 2 m__law_apart (iCons (iVar 4) (iCons (iVar 2) iNil))))))) (iRet (iC (.bl false))) iNext) (iSeq (iIf (iOr (iNot (iTru (iCall 2 m__law_is (iCons (iBin (fBinO "Places" m_Places___or__) (iVar 4) (iVar 5)) (iCons (iBin fAdd (iVar 2) (iVar 3)) iNil))))) (iOr (iNot (iTru (iCall 2 m__law_is (iCons (iBin (fBinO "Places" m_Places___and__) (iVar 4) (iVar 5)) (iCons (iVar 6) iNil))))) (iNot (iTru (iCall 2 m__law_is (iCons (iBin (fBinO "Places" m_Places___sub__) (iVar 4) (iVar 5)) (iCons (iVar 7) iNil))))))) (iRet (iC (.bl false))) iNext) (iSeq (iIf (iOr (iNot (iTru (iCall 2 m__law_is (iCons (iBin (fBinO "Places" m_Places___or__) (iVar 5) (iVar 4)) (iCons (iBin fAdd (iVar 2) (iVar 3)) iNil))))) (iOr (iNot (iTru (iCall 2 m__law_is (iCons (iBin (fBinO "Places" m_Places___sub__) (iVar 4) (iVar 4)) (iCons (iLst false iNil) iNil))))) (iNot (iTru (iCall 2 m__law_is (iCons (iVar 5) (iCons (iVar 3) iNil))))))) (iRet (iC (.bl false))) iNext) (iSeq (iSet 8 (iBin fEq (iSortT false (iVar 2)) (iSortT false (iVar 3)))) (iSeq (iIf (iOr (iTest (iBin fNe (iBin (fCmpO "Places" m_Places___eq__ false) (iVar 4) (iVar 5)) (iVar 8))) (iTest (iBin fEq (iBin (fCmpO "Places" m_Places___eq__ true) (iVar 4) (iVar 5)) (iVar 8)))) (iRet (iC (.bl false))) iNext) (iSeq (iIf (iOr (iTest (iBin fNe (iMeth "Places" "within" 2 m_Places_within (iVar 4) (iCons (iVar 5) iNil)) (iBin fEq (iVar 7) (iLst false iNil)))) (iTest (iBin fNe (iMeth "Places" "within" 2 m_Places_within (iVar 5) (iCons (iVar 4) iNil)) (iCa fAll (iCons (iLc false (iSrcL (iVar 3)) (giN 12) iYes (iBin fIn (iVar 12) (iVar 2)) [12]) iNil))))) (iRet (iC (.bl false))) iNext) (iSeq (iIf (iTest (iBin fNe (iLc false (iSrcL (iVar 1)) (giN 12) iYes (iBin (fInO "Places" m_Places___contains__ false) (iVar 12) (iVar 4)) [12]) (iLc false (iSrcL (iVar 1)) (giN 12) iYes (iBin fIn (iVar 12) (iVar 2)) [12]))) (iRet (iC (.bl false))) iNext) (iSeq (iSet 9 (iLst false (iCons (iC .non) (iCons (iC (.int 0)) (iCons (iC (.bl true)) (iCons (iC (.str "")) (iCons (iLst false iNil) (iCons (iTup iNil) (iCons (iVar 2) (iCons (iCa fTuple (iCons (iVar 2) iNil)) (iCons (iBin fAdd (iBin fIx (iVar 1) (iC (.int 0))) (iC (.str "."))) (iCons (iBin fAdd (iBin fAdd (iC (.str "(")) (iBin fIx (iVar 1) (iC (.int 0)))) (iC (.str ")"))) (iCons (iTup (iCons (iBin fIx (iVar 1) (iC (.int 0))) iNil)) iNil))))))))))))) (iSeq (iIf (iOr (iTru (iCa fAny (iCons (iLc false (iSrcL (iVar 9)) (giN 13) iYes (iBin (fInO "Places" m_Places___contains__ false) (iVar 13) (iVar 4)) [13]) iNil))) (iTru (iCa fAny (iCons (iLc false (iSrcL (iBin fAdd (iVar 9) (iLst false (iCons (iMeth "Places" "texts" 1 m_Places_texts (iVar 4) iNil) (iCons (iCa (fStrO "Places" m_Places___repr__) (iCons (iVar 4) iNil)) iNil))))) (giN 13) iYes (iBin (fCmpO "Places" m_Places___eq__ false) (iVar 4) (iVar 13)) [13]) iNil)))) (iRet (iC (.bl false))) iNext) (iSeq (iSet 10 (iAndV (iCall 2 m__law_is (iCons (iClsm 0 0 b_Places_of iNil) (iCons (iLst false iNil) iNil))) (iCall 2 m__law_is (iCons (iClsm 0 0 b_Places_of (iCons (iBin fIx (iVar 1) (iC (.int 1))) iNil)) (iCons (iLst false (iCons (iBin fIx (iVar 1) (iC (.int 1))) iNil)) iNil))))) (iSeq (iSet 11 (iCall 2 m__law_is (iCons (iClsm 0 0 b_Places_of (iCons (iBin fIx (iVar 1) (iC (.int 2))) (iCons (iBin fIx (iVar 1) (iC (.int 1))) (iCons (iBin fIx (iVar 1) (iC (.int 2))) iNil)))) (iCons (iLst false (iCons (iBin fIx (iVar 1) (iC (.int 1))) (iCons (iBin fIx (iVar 1) (iC (.int 2))) iNil))) iNil)))) (iRet (iAndV (iVar 10) (iAndV (iVar 11) (iAndV (iCall 2 m__law_is (iCons (iVar 4) (iCons (iVar 2) iNil))) (iCall 2 m__law_is (iCons (iVar 5) (iCons (iVar 3) iNil)))))))))))))))))))))))
noncomputable def m__law_right : List IV → Sto → Out IV := mDef 14 b__law_right
theorem wd__law_right {x0 : IV} {S : Sto} {Q : IV → Sto → Prop} (h : Wp (b__law_right [some x0, none, none, none, none, none, none, none, none, none, none, none, none, none] S) (FlQ Q)) : Wp (m__law_right [x0] S) Q := wp_def h
theorem ok__law_right  (L : Loc K mg "_law_right" s__law_right ["_law_source_here"]) (z_any : mg "any" = none) (z_repr : mg "repr" = none) (z_tuple : mg "tuple" = none) (z_all : mg "all" = none) (nec_Places : NeC K mg "Places") (z_sorted : mg "sorted" = none) (z_set : mg "set" = none) (sfc_Places : SfC K mg "Places") (z_list : mg "list" = none) (c__law_is : Cal P w K mg base "_law_is" 4 ["_law_told", "_law_due"] m__law_is) (c_Places_of : CCal P w K mg base "Places" "of" 8 0 0 b_Places_of) (c_Places___contains__ : MCal P w K mg base "Places" "__contains__" 1 ["self", "place"] m_Places___contains__) (c_Places___repr__ : MCal P w K mg base "Places" "__repr__" 1 ["self"] m_Places___repr__) (c_Places_texts : MCal P w K mg base "Places" "texts" 1 ["self"] m_Places_texts) (c_Places___eq__ : MCal P w K mg base "Places" "__eq__" 1 ["self", "other"] m_Places___eq__) (c_Places_within : MCal P w K mg base "Places" "within" 1 ["self", "other"] m_Places_within) (c_Places___or__ : MCal P w K mg base "Places" "__or__" 8 ["self", "other"] m_Places___or__) (c_Places___sub__ : MCal P w K mg base "Places" "__sub__" 8 ["self", "other"] m_Places___sub__) (c_Places___and__ : MCal P w K mg base "Places" "__and__" 8 ["self", "other"] m_Places___and__) (c__law_apart : Cal P w K mg base "_law_apart" 8 ["_law_one", "_law_first"] m__law_apart) (c_Places___init__ : KCal P w K mg base "Places" 6 ["self", "places"] m_Places___init__) (c__law_drawn : Cal P w K mg base "_law_drawn" 3 ["_law_source_here", "_law_pool_here"] m__law_drawn) (c__law_pool : Cal P w K mg base "_law_pool" 3 ["_law_source_here"] m__law_pool) : Cal P w K mg base "_law_right" 9 ["_law_source_here"] m__law_right :=
  cal_def (N := n__law_right) L sc__law_right fun f cdv A outer s H E hr tk po => (dss_cons (ds_set 1 sc__law_right.nd (de_callC c__law_pool tk (hr.mono (by decide)) (da_cons (de_var 0) da_nil))) (dss_cons (ds_asg (de_tup (da_cons (de_callC c__law_drawn tk (hr.mono (by decide)) (da_cons (de_var 0) (da_cons (de_var 1) da_nil))) (da_cons (de_callC c__law_drawn tk (hr.mono (by decide)) (da_cons (de_var 0) (da_cons (de_var 1) da_nil))) da_nil))) (dg_tup (n := 2) rfl (dgs_cons (dg_name 2 sc__law_right.nd) (dgs_cons (dg_name 3 sc__law_right.nd) dgs_nil)))) (dss_cons (ds_asg (de_tup (da_cons (de_make c_Places___init__ tk (hr.mono (by decide)) (da_cons (de_ct call_list_of (cs_list false) z_list (by decide +kernel) (da_cons (de_var 2) da_nil)) da_nil)) (da_cons (de_make c_Places___init__ tk (hr.mono (by decide)) (da_cons (de_ct call_list_of (cs_list false) z_list (by decide +kernel) (da_cons (de_var 3) da_nil)) da_nil)) da_nil))) (dg_tup (n := 2) rfl (dgs_cons (dg_name 4 sc__law_right.nd) (dgs_cons (dg_name 5 sc__law_right.nd) dgs_nil)))) (dss_cons (ds_setLc (own := [("_law_place", 12)]) false 6 rfl sc__law_right.nd (di_list (de_var 2)) (blkOk_by (own := [("_law_place", 12)]) (N := n__law_right) (sc := defScope s__law_right) (by decide +kernel)) (fun _ _ _ _ _ => pg_name (i := 12) sc__law_right.nd rfl (Or.inl rfl)) (gc_name (by decide)) (fun _ _ _ _ _ => dts_one (dt_cmp op_inA os_in (de_var 12) (de_var 3))) (fun _ _ _ _ _ => (de_var 12))) (dss_cons (ds_setLc (own := [("_law_place", 12)]) false 7 rfl sc__law_right.nd (di_list (de_var 2)) (blkOk_by (own := [("_law_place", 12)]) (N := n__law_right) (sc := defScope s__law_right) (by decide +kernel)) (fun _ _ _ _ _ => pg_name (i := 12) sc__law_right.nd rfl (Or.inl rfl)) (gc_name (by decide)) (fun _ _ _ _ _ => dts_one (dt_cmp op_notInA os_notIn (de_var 12) (de_var 3))) (fun _ _ _ _ _ => (de_var 12))) (dss_cons (ds_if (dt_w (dw_or (dt_not (dt_tru (de_callC c__law_is tk (hr.mono (by decide)) (da_cons (de_var 4) (da_cons (de_var 2) da_nil))))) (dw_or (dt_not (dt_tru (de_callC c__law_is tk (hr.mono (by decide)) (da_cons (de_var 5) (da_cons (de_var 3) da_nil))))) (dw_or1 (dt_not (dt_tru (de_callC c__law_apart tk (hr.mono (by decide)) (da_cons (de_var 4) (da_cons (de_var 2) da_nil))))))))) (dss_one (ds_ret de_bl)) dss_nil) (dss_cons (ds_if (dt_w (dw_or (dt_not (dt_tru (de_callC c__law_is tk (hr.mono (by decide)) (da_cons (de_bin (op_binO sfc_Places c_Places___or__ (hr.mono (by decide))) os_binO (de_var 4) (de_var 5)) (da_cons (de_bin op_addA os_add (de_var 2) (de_var 3)) da_nil))))) (dw_or (dt_not (dt_tru (de_callC c__law_is tk (hr.mono (by decide)) (da_cons (de_bin (op_binO sfc_Places c_Places___and__ (hr.mono (by decide))) os_binO (de_var 4) (de_var 5)) (da_cons (de_var 6) da_nil))))) (dw_or1 (dt_not (dt_tru (de_callC c__law_is tk (hr.mono (by decide)) (da_cons (de_bin (op_binO sfc_Places c_Places___sub__ (hr.mono (by decide))) os_binO (de_var 4) (de_var 5)) (da_cons (de_var 7) da_nil))))))))) (dss_one (ds_ret de_bl)) dss_nil) (dss_cons (ds_if (dt_w (dw_or (dt_not (dt_tru (de_callC c__law_is tk (hr.mono (by decide)) (da_cons (de_bin (op_binO sfc_Places c_Places___or__ (hr.mono (by decide))) os_binO (de_var 5) (de_var 4)) (da_cons (de_bin op_addA os_add (de_var 2) (de_var 3)) da_nil))))) (dw_or (dt_not (dt_tru (de_callC c__law_is tk (hr.mono (by decide)) (da_cons (de_bin (op_binO sfc_Places c_Places___sub__ (hr.mono (by decide))) os_binO (de_var 4) (de_var 4)) (da_cons (de_lst false da_nil) da_nil))))) (dw_or1 (dt_not (dt_tru (de_callC c__law_is tk (hr.mono (by decide)) (da_cons (de_var 5) (da_cons (de_var 3) da_nil))))))))) (dss_one (ds_ret de_bl)) dss_nil) (dss_cons (ds_set 8 sc__law_right.nd (de_cmp (op_eqA hr.units) os_eq (de_sortT false rfl (de_var 2) z_sorted z_set) (de_sortT false rfl (de_var 3) z_sorted z_set))) (dss_cons (ds_if (dt_w (dw_or (dt_cmp (op_neA hr.units) os_ne (de_cmp (op_eqOA c_Places___eq__ (hr.mono (by decide))) os_cmpO (de_var 4) (de_var 5)) (de_var 8)) (dw_or1 (dt_cmp (op_eqA hr.units) os_eq (de_cmp (op_neOA nec_Places c_Places___eq__ (hr.mono (by decide))) os_cmpO (de_var 4) (de_var 5)) (de_var 8))))) (dss_one (ds_ret de_bl)) dss_nil) (dss_cons (ds_if (dt_w (dw_or (dt_cmp (op_neA hr.units) os_ne (de_meth c_Places_within tk (hr.mono (by decide)) (de_var 4) (da_cons (de_var 5) da_nil)) (de_cmp (op_eqA hr.units) os_eq (de_var 7) (de_lst false da_nil))) (dw_or1 (dt_cmp (op_neA hr.units) os_ne (de_meth c_Places_within tk (hr.mono (by decide)) (de_var 5) (da_cons (de_var 4) da_nil)) (de_cb (cr_all rfl) cs_all z_all (by decide +kernel) (da_cons (de_lc (own := [("_law_place", 12)]) false rfl sc__law_right.nd (di_list (de_var 3)) (blkOk_by (own := [("_law_place", 12)]) (N := n__law_right) (sc := defScope s__law_right) (by decide +kernel)) (fun _ _ _ _ _ => pg_name (i := 12) sc__law_right.nd rfl (Or.inl rfl)) (gc_name (by decide)) (fun _ _ _ _ _ => dts_nil) (fun _ _ _ _ _ => (de_cmp op_inA os_in (de_var 12) (de_var 2)))) da_nil)))))) (dss_one (ds_ret de_bl)) dss_nil) (dss_cons (ds_if (dt_cmp (op_neA hr.units) os_ne (de_lc (own := [("_law_place", 12)]) false rfl sc__law_right.nd (di_list (de_var 1)) (blkOk_by (own := [("_law_place", 12)]) (N := n__law_right) (sc := defScope s__law_right) (by decide +kernel)) (fun _ _ _ _ _ => pg_name (i := 12) sc__law_right.nd rfl (Or.inl rfl)) (gc_name (by decide)) (fun _ _ _ _ _ => dts_nil) (fun _ _ _ _ _ => (de_cmp (op_inO c_Places___contains__ (hr.mono (by decide))) os_inO (de_var 12) (de_var 4)))) (de_lc (own := [("_law_place", 12)]) false rfl sc__law_right.nd (di_list (de_var 1)) (blkOk_by (own := [("_law_place", 12)]) (N := n__law_right) (sc := defScope s__law_right) (by decide +kernel)) (fun _ _ _ _ _ => pg_name (i := 12) sc__law_right.nd rfl (Or.inl rfl)) (gc_name (by decide)) (fun _ _ _ _ _ => dts_nil) (fun _ _ _ _ _ => (de_cmp op_inA os_in (de_var 12) (de_var 2))))) (dss_one (ds_ret de_bl)) dss_nil) (dss_cons (ds_set 9 sc__law_right.nd (de_lst false (da_cons de_non (da_cons de_int (da_cons de_bl (da_cons de_str (da_cons (de_lst false da_nil) (da_cons (de_tup da_nil) (da_cons (de_var 2) (da_cons (de_ct call_tuple_of cs_tuple z_tuple (by decide +kernel) (da_cons (de_var 2) da_nil)) (da_cons (de_bin op_addA os_add (de_ix (de_var 1) de_int) de_str) (da_cons (de_bin op_addA os_add (de_bin op_addA os_add de_str (de_ix (de_var 1) de_int)) de_str) (da_cons (de_tup (da_cons (de_ix (de_var 1) de_int) da_nil)) da_nil))))))))))))) (dss_cons (ds_if (dt_w (dw_or (dt_tru (de_cb (cr_any rfl) cs_any z_any (by decide +kernel) (da_cons (de_lc (own := [("_law_thing", 13)]) false rfl sc__law_right.nd (di_list (de_var 9)) (blkOk_by (own := [("_law_thing", 13)]) (N := n__law_right) (sc := defScope s__law_right) (by decide +kernel)) (fun _ _ _ _ _ => pg_name (i := 13) sc__law_right.nd rfl (Or.inl rfl)) (gc_name (by decide)) (fun _ _ _ _ _ => dts_nil) (fun _ _ _ _ _ => (de_cmp (op_inO c_Places___contains__ (hr.mono (by decide))) os_inO (de_var 13) (de_var 4)))) da_nil))) (dw_or1 (dt_tru (de_cb (cr_any rfl) cs_any z_any (by decide +kernel) (da_cons (de_lc (own := [("_law_thing", 13)]) false rfl sc__law_right.nd (di_list (de_bin op_addA os_add (de_var 9) (de_lst false (da_cons (de_meth0 c_Places_texts tk (hr.mono (by decide)) (de_var 4)) (da_cons (de_cb (call_reprO c_Places___repr__ (hr.mono (by decide))) cs_strO z_repr (by decide +kernel) (da_cons (de_var 4) da_nil)) da_nil))))) (blkOk_by (own := [("_law_thing", 13)]) (N := n__law_right) (sc := defScope s__law_right) (by decide +kernel)) (fun _ _ _ _ _ => pg_name (i := 13) sc__law_right.nd rfl (Or.inl rfl)) (gc_name (by decide)) (fun _ _ _ _ _ => dts_nil) (fun _ _ _ _ _ => (de_cmp (op_eqOA c_Places___eq__ (hr.mono (by decide))) os_cmpO (de_var 4) (de_var 13)))) da_nil)))))) (dss_one (ds_ret de_bl)) dss_nil) (dss_cons (ds_set 10 sc__law_right.nd (de_and (de_callC c__law_is tk (hr.mono (by decide)) (da_cons (de_clsm0 c_Places_of tk (hr.mono (by decide))) (da_cons (de_lst false da_nil) da_nil))) (de_one (de_callC c__law_is tk (hr.mono (by decide)) (da_cons (de_clsm c_Places_of tk (hr.mono (by decide)) (da_cons (de_ix (de_var 1) de_int) da_nil)) (da_cons (de_lst false (da_cons (de_ix (de_var 1) de_int) da_nil)) da_nil)))))) (dss_cons (ds_set 11 sc__law_right.nd (de_callC c__law_is tk (hr.mono (by decide)) (da_cons (de_clsm c_Places_of tk (hr.mono (by decide)) (da_cons (de_ix (de_var 1) de_int) (da_cons (de_ix (de_var 1) de_int) (da_cons (de_ix (de_var 1) de_int) da_nil)))) (da_cons (de_lst false (da_cons (de_ix (de_var 1) de_int) (da_cons (de_ix (de_var 1) de_int) da_nil))) da_nil)))) (dss_one (ds_ret (de_and (de_var 10) (de_and (de_var 11) (de_and (de_callC c__law_is tk (hr.mono (by decide)) (da_cons (de_var 4) (da_cons (de_var 2) da_nil))) (de_one (de_callC c__law_is tk (hr.mono (by decide)) (da_cons (de_var 5) (da_cons (de_var 3) da_nil)))))))))))))))))))))))))
abbrev s_law : Stmt := topS 23
abbrev n_law : List Str := ["_law_script", "_law_at"]
theorem sc_law : FnScope n_law ["_law_script"] (defScope s_law) := ⟨rfl, rfl, rfl, by decide +kernel, rfl, by decide +kernel, by decide +kernel⟩
noncomputable def b_law : IS := (iSeq (iFor (iSrcR1 (iCa fMax2 (iCons (iC (.int 1)) (iCons (iCa fMin2 (iCons (iC (.int 3)) (iCons (iCa fLen (iCons (iVar 0) iNil)) iNil))) iNil)))) (iName 1) (iIf (iNot (iTru (iCall 1 m__law_right (iCons (iCall 2 m__law_source (iCons (iVar 0) (iCons (iVar 1) iNil))) iNil)))) (iRet (iC (.bl false))) iNext)) (iRet (iC (.bl true))))
noncomputable def m_law : List IV → Sto → Out IV := mDef 2 b_law
theorem wd_law {x0 : IV} {S : Sto} {Q : IV → Sto → Prop} (h : Wp (b_law [some x0, none] S) (FlQ Q)) : Wp (m_law [x0] S) Q := wp_def h
theorem ok_law  {f : Addr} {fd : FuncData} (F : Fun K "law" "law" s_law f fd) (z_range : mg "range" = none) (z_len : mg "len" = none) (z_min : mg "min" = none) (z_max : mg "max" = none) (c__law_source : Cal P w K mg base "_law_source" 1 ["_law_script", "_law_place"] m__law_source) (c__law_right : Cal P w K mg base "_law_right" 9 ["_law_source_here"] m__law_right) : FnG P w K mg base (L2.CX P w) 10 f fd ["_law_script"] (spM K mg 1 m_law) :=
  ok_def (N := n_law) F sc_law fun cdv A outer s H E hr tk po => (dss_cons (ds_for po rfl (di_range1 z_range (da_cons (de_cb (call_max2 rfl) cs_max2 z_max (by decide +kernel) (da_cons de_int (da_cons (de_cb (call_min2 rfl) cs_min2 z_min (by decide +kernel) (da_cons de_int (da_cons (de_cb call_len cs_len z_len (by decide +kernel) (da_cons (de_var 0) da_nil)) da_nil))) da_nil))) da_nil)) (dg_name 1 sc_law.nd) (dss_one (ds_if (dt_not (dt_tru (de_callC c__law_right tk (hr.mono (by decide)) (da_cons (de_callC c__law_source tk (hr.mono (by decide)) (da_cons (de_var 0) (da_cons (de_var 1) da_nil))) da_nil)))) (dss_one (ds_ret de_bl)) dss_nil))) (dss_one (ds_ret de_bl)))
end
end K49
set_option maxHeartbeats 1000000
namespace K49P
open PySem PySem.Spec PyProof.Rows L2 Sm RD GP
structure Pth (t : Str) : Prop where
  ex : ∃ (x : Str) (ss : List SP), t = x ++ spsT ss ∧ nameB x = true ∧ (∀ s ∈ ss, nameB s.x = true) ∧ ss.length ≤ 3
theorem nm_no2 {x : Str} (h : nameB x = true) : ∀ c ∈ sg x, c ≠ 46 ∧ c ≠ 91 ∧ c ≠ 93 := fun c hc => by
  have := nm_isL h c hc
  refine ⟨?_, ?_, ?_⟩ <;> (rintro rfl; revert this; decide +kernel)
theorem last_snoc {α : Type} {l : List α} {a : α} (h : l.getLast? = some a) : l = l.dropLast ++ [a] := by
  obtain ⟨ys, rfl⟩ := List.getLast?_eq_some_iff.mp h
  rw [List.dropLast_concat]
theorem cut_end {z : Str} {k : Nat} (h : k ≤ z.length) : sg (cutS z (some (k : Int)) none) = (sg z).drop k := by
  rw [sg_cut]
  have h0 : HT.sIx z.length 0 (some (k : Int)) = k := by
    show (if (k : Int) < 0 then ((k : Int) + (z.length : Int)).toNat else min (k : Int).toNat z.length) = k
    rw [if_neg (by omega)]
    omega
  have h1 : HT.sIx z.length z.length none = z.length := rfl
  rw [h0, h1, List.take_of_length_le (by rw [List.length_drop, sg_len]; omega)]
theorem cut_two {z : Str} {j k : Nat} (h : k ≤ z.length) (hj : j ≤ k) : sg (cutS z (some (j : Int)) (some (k : Int))) = ((sg z).drop j).take (k - j) := by
  rw [sg_cut]
  have h0 : HT.sIx z.length 0 (some (j : Int)) = j := by
    show (if (j : Int) < 0 then ((j : Int) + (z.length : Int)).toNat else min (j : Int).toNat z.length) = j
    rw [if_neg (by omega)]
    omega
  have h1 : HT.sIx z.length z.length (some (k : Int)) = k := by
    show (if (k : Int) < 0 then ((k : Int) + (z.length : Int)).toNat else min (k : Int).toNat z.length) = k
    rw [if_neg (by omega)]
    omega
  rw [h0, h1]
theorem par_back : ∀ (l acc a b : List Nat), TL.par [93] acc l = some (a, b) → acc ++ l = a ++ 93 :: b
  | [], acc, a, b, h => by cases h
  | c :: r, acc, a, b, h => by
    unfold TL.par at h
    split at h
    · rename_i hp
      cases h
      have hc : c = 93 := by
        by_cases hc : c = 93
        · exact hc
        · rw [TL.pre_of_head [] r hc] at hp
          cases hp
      subst hc
      rfl
    · have := par_back r _ a b h
      rw [List.append_assoc] at this
      exact this
theorem part_back {s : Str} {p : Str × Str × Str} (h : Txt.partition s "]" = p) (hn : ¬ p.2.1 = "") : sg s = sg p.1 ++ 93 :: sg p.2.2 := by
  rw [TL.partition_par _ _ (by decide +kernel)] at h
  split at h
  · rename_i a b hp
    subst h
    exact par_back (sg s) [] a b hp
  · subst h
    exact absurd rfl hn
theorem step_inv {r a b r' : Str} (h : stepP r = some (a, b, r')) : ∃ s : SP, nameB s.x = true ∧ r = s.t ++ r' := by
  unfold stepP at h
  cases hr : sg r with
  | nil => rw [hr] at h; cases h
  | cons c cs =>
    have hl : r.length = cs.length + 1 := by rw [← sg_len, hr]; rfl
    rw [hr] at h
    have h : (if c = 91 then (if (Txt.partition (cutS r (some 1) none) "]").2.1 = "" ∨ nameB (Txt.partition (cutS r (some 1) none) "]").1 = false then none else some ((("[" : Str), (Txt.partition (cutS r (some 1) none) "]").1, (Txt.partition (cutS r (some 1) none) "]").2.2) : Str × Str × Str))
      else if c = 46 then (if nameB (cutS r (some 1) (some ((1 + lets cs : Nat) : Int))) = true then some ((".", cutS r (some 1) (some ((1 + lets cs : Nat) : Int)), cutS r (some ((1 + lets cs : Nat) : Int)) none) : Str × Str × Str) else none) else none) = some (a, b, r') := h
    split at h
    · rename_i hc
      split at h
      · cases h
      · rename_i hn
        have hn1 : ¬ (Txt.partition (cutS r (some 1) none) "]").2.1 = "" := fun z => hn (.inl z)
        have hn2 : nameB (Txt.partition (cutS r (some 1) none) "]").1 = true := by
          cases hb : nameB (Txt.partition (cutS r (some 1) none) "]").1 with
          | true => rfl
          | false => exact absurd (.inr hb) hn
        have h := Option.some.inj h
        have e1 : cutS r (some 1) none = (⟨cs.toArray⟩ : Str) := sg_inj (by
          have := cut_end (z := r) (k := 1) (by omega)
          rw [hr] at this
          exact this)
        have er : (Txt.partition (cutS r (some 1) none) "]").2.2 = r' := congrArg (fun x => x.2.2) h
        generalize hp : Txt.partition (cutS r (some 1) none) "]" = p at hn1 hn2 er
        have back := part_back hp hn1
        refine ⟨.br p.1, hn2, sg_inj ?_⟩
        show sg r = sg (((("[" : Str) ++ p.1) ++ ("]" : Str)) ++ r')
        rw [sg_app, sg_app, sg_app, sg_lb, sg_rb, hr, hc, ← er]
        rw [e1] at back
        have back : cs = sg p.1 ++ 93 :: sg p.2.2 := back
        rw [back]
        simp
    · split at h
      · rename_i hc
        split at h
        · rename_i hn
          have h := Option.some.inj h
          have er : cutS r (some ((1 + lets cs : Nat) : Int)) none = r' := congrArg (fun x => x.2.2) h
          refine ⟨.dot (cutS r (some 1) (some ((1 + lets cs : Nat) : Int))), hn, sg_inj ?_⟩
          have ll := lets_le cs
          show sg r = sg ((("." : Str) ++ cutS r (some 1) (some ((1 + lets cs : Nat) : Int))) ++ r')
          have c1 := cut_two (z := r) (j := 1) (k := 1 + lets cs) (by omega) (by omega)
          have c2 := cut_end (z := r) (k := 1 + lets cs) (by omega)
          rw [er] at c2
          have c1 : sg (cutS r (some 1) (some ((1 + lets cs : Nat) : Int))) = ((sg r).drop 1).take (1 + lets cs - 1) := c1
          rw [sg_app, sg_app, sg_dot, c1, c2, hr, hc]
          show 46 :: cs = 46 :: (cs.take (1 + lets cs - 1) ++ (46 :: cs).drop (1 + lets cs))
          rw [show 1 + lets cs - 1 = lets cs by omega, show 1 + lets cs = lets cs + 1 by omega, List.drop_succ_cons, List.take_append_drop]
        · cases h
      · cases h
theorem steps_inv : ∀ (n : Nat) (r : Str) (acc st : List (Str × Str)), acc.length ≤ 3 → stepsP n r acc = some st → ∃ ss : List SP, r = spsT ss ∧ (∀ s ∈ ss, nameB s.x = true) ∧ acc.length + ss.length ≤ 3
  | 0, r, acc, st, _, h => by cases h
  | n + 1, r, acc, st, ha, h => by
    unfold stepsP at h
    split at h
    · rename_i e
      exact ⟨[], e, fun _ z => (by cases z), by simpa using ha⟩
    · split at h
      · cases h
      · rename_i a b r' hs
        split at h
        · cases h
        · rename_i h3
          obtain ⟨s, h1, h2⟩ := step_inv hs
          obtain ⟨ss, k1, k2, k3⟩ := steps_inv n r' _ st (by rw [List.length_append, List.length_singleton]; omega) h
          rw [List.length_append, List.length_singleton] at k3
          refine ⟨s :: ss, by rw [h2, k1]; rfl, fun y hy => ?_, by rw [List.length_cons]; omega⟩
          rcases List.mem_cons.mp hy with rfl | hy
          · exact h1
          · exact k2 y hy
theorem path_pth {t : Str} (h : (pathP t).isSome = true) : Pth t := by
  unfold pathP at h
  split at h
  · rename_i hn
    cases hs : stepsP 5 (cutS t (some (lets (sg t) : Int)) none) [] with
    | none => rw [hs] at h; cases h
    | some st =>
      obtain ⟨ss, h1, h2, h3⟩ := steps_inv 5 _ [] st (by decide) hs
      have ll := lets_le (sg t)
      rw [sg_len] at ll
      refine ⟨cutS t none (some (lets (sg t) : Int)), ss, sg_inj ?_, hn, h2, by simpa using h3⟩
      rw [← h1, sg_app, cut_take ll, cut_end ll, List.take_append_drop]
  · cases h
end K49P
set_option maxHeartbeats 1000000
namespace K49
open PySem PySem.Spec PyProof.Rows L2 Sm RD GP K49P
local macro_rules | `(tactic| decreasing_trivial) => `(tactic| first | assumption | with_unfolding_all exact Eq.refl _ | omega | (simp only [szL, len_app, one_len, lits, List.length_append, List.length_cons, List.length_map, List.length_nil, List.length_replicate]; omega) | decide | exact trivial | exact cdiv_mk (by decide) (by decide) | exact cmul_l (by omega) (by omega) | exact cmul_r (by omega) (by omega))
local macro_rules | `(tactic| decreasing_trivial_pre_omega) => `(tactic| with_reducible first
  | refine wp_seq ?_ | (refine wp_appV (by with_unfolding_all exact rfl) (Hd.at (by assumption) 0 (by with_unfolding_all exact rfl)) ?_) | (refine wp_extV (by with_unfolding_all exact rfl) (Hd.at (by assumption) 0 (by with_unfolding_all exact rfl)) ?_) | (refine wp_appV (by with_unfolding_all exact rfl) (Hd.at (by assumption) 1 (by with_unfolding_all exact rfl)) ?_) | (refine wp_extV (by with_unfolding_all exact rfl) (Hd.at (by assumption) 1 (by with_unfolding_all exact rfl)) ?_) | (refine wp_appV (by with_unfolding_all exact rfl) (Hd.at (by assumption) 2 (by with_unfolding_all exact rfl)) ?_) | (refine wp_extV (by with_unfolding_all exact rfl) (Hd.at (by assumption) 2 (by with_unfolding_all exact rfl)) ?_) | (refine wp_appV (by with_unfolding_all exact rfl) (Hd.at (by assumption) 3 (by with_unfolding_all exact rfl)) ?_) | (refine wp_extV (by with_unfolding_all exact rfl) (Hd.at (by assumption) 3 (by with_unfolding_all exact rfl)) ?_) | refine wp_nx ?_ | refine wp_set ?_ | (apply wp_var; with_unfolding_all exact rfl) | refine wp_c ?_ | refine wp_bin ?_ | refine wp_cons ?_ | refine wp_nil ?_ | refine wp_ca ?_ | refine wp_call ?_ | refine wp_bm ?_ | refine wp_drop ?_ | refine wp_ret ?_ | refine wp_rt ?_ | refine wp_un ?_
  | (refine Chk.mk ?_ ?_; decreasing_trivial)
  | refine wp_lst ?_ | refine wp_tup ?_ | refine wp_mkf ?_ | refine wp_mkT ?_ | refine wp_fI ?_ | refine wp_fB ?_ | refine wp_addi ?_ | refine wp_addI ?_ | refine wp_adds ?_ | refine wp_addl ?_
  | refine wp_test ?_ | refine wp_tru ?_ | refine ex_bl ?_ | refine tr_bl ?_ | refine ex_int ?_ | refine wp_not ?_ | refine wp_eqi ?_ | refine wp_nei ?_ | refine wp_eqs ?_ | refine wp_nes ?_ | refine wp_inti ?_ | refine wp_intb ?_ | refine wp_max2 ?_ | refine wp_min2 ?_ | refine wp_isN ?_ | refine wp_notN ?_
  | (refine ⟨_, _, _, 0, _, (by assumption), (by with_unfolding_all exact rfl), ?_⟩) | (refine ⟨_, _, _, 0, _, _, (by assumption), (by with_unfolding_all exact rfl), (by with_unfolding_all exact rfl), ?_⟩) | (refine wp_len (Sm.lenN_a (Hd.at (by assumption) 0 (by with_unfolding_all exact rfl))) ?_) | (refine ⟨_, _, _, 1, _, (by assumption), (by with_unfolding_all exact rfl), ?_⟩) | (refine ⟨_, _, _, 1, _, _, (by assumption), (by with_unfolding_all exact rfl), (by with_unfolding_all exact rfl), ?_⟩) | (refine wp_len (Sm.lenN_a (Hd.at (by assumption) 1 (by with_unfolding_all exact rfl))) ?_) | (refine ⟨_, _, _, 2, _, (by assumption), (by with_unfolding_all exact rfl), ?_⟩) | (refine ⟨_, _, _, 2, _, _, (by assumption), (by with_unfolding_all exact rfl), (by with_unfolding_all exact rfl), ?_⟩) | (refine wp_len (Sm.lenN_a (Hd.at (by assumption) 2 (by with_unfolding_all exact rfl))) ?_) | (refine ⟨_, _, _, 3, _, (by assumption), (by with_unfolding_all exact rfl), ?_⟩) | (refine ⟨_, _, _, 3, _, _, (by assumption), (by with_unfolding_all exact rfl), (by with_unfolding_all exact rfl), ?_⟩) | (refine wp_len (Sm.lenN_a (Hd.at (by assumption) 3 (by with_unfolding_all exact rfl))) ?_) | (refine wp_len (lenN_l _) ?_) | (refine wp_len (lenN_t _) ?_) | (refine wp_len (lenN_w _) ?_)
  | (refine wp_adda (Hd.at (by assumption) 0 (by with_unfolding_all exact rfl)) (by with_unfolding_all exact rfl) ?_) | (refine wp_adda (Hd.at (by assumption) 1 (by with_unfolding_all exact rfl)) (by with_unfolding_all exact rfl) ?_) | (refine wp_adda (Hd.at (by assumption) 2 (by with_unfolding_all exact rfl)) (by with_unfolding_all exact rfl) ?_) | (refine wp_adda (Hd.at (by assumption) 3 (by with_unfolding_all exact rfl)) (by with_unfolding_all exact rfl) ?_) | (refine wp_addb (Hd.at (by assumption) 0 (by with_unfolding_all exact rfl)) ?_) | (refine wp_addb (Hd.at (by assumption) 1 (by with_unfolding_all exact rfl)) ?_) | (refine wp_addb (Hd.at (by assumption) 2 (by with_unfolding_all exact rfl)) ?_) | (refine wp_addb (Hd.at (by assumption) 3 (by with_unfolding_all exact rfl)) ?_)
  | (refine wp_isi (b := true) (by with_unfolding_all exact rfl) (by decide +kernel) ?_) | (refine wp_isi (b := false) (by with_unfolding_all exact rfl) (by decide +kernel) ?_) | (refine wp_xis (b := true) (by decide +kernel) (by with_unfolding_all exact rfl) (by assumption) ?_) | (refine wp_xis (b := false) (by decide +kernel) (by with_unfolding_all exact rfl) (by assumption) ?_) | (refine wp_xf (by with_unfolding_all exact rfl) (by assumption) (by with_unfolding_all exact rfl) ?_)
  | refine wp_next ?_ | refine wp_retN ?_ | refine wp_brk ?_ | refine wp_cnt ?_ | refine wp_bk ?_ | refine wp_ct ?_ | refine fq_rt ?_ | refine fq_nx ?_ | refine lq_nx ?_ | refine lq_ct ?_ | refine lq_bk ?_ | refine lq_rt ?_ | refine wp_name ?_ | refine wp_asg ?_ | refine wp_gtup ?_ | refine wp_gcons ?_ | refine wp_gnil ?_
  | refine wp_sl ?_ | refine wp_noPart ?_ | refine wp_part ?_ | refine wp_sls ?_ | refine wp_sll ?_ | refine wp_notV ?_ | refine wp_andV ?_ | refine wp_orV ?_ | (apply wp_aug; with_unfolding_all exact rfl) | refine wp_par ?_ | refine ex_two ?_ | refine wp_yes ?_ | refine wp_range ?_ | refine wp_range2 ?_ | refine wp_srcL ?_ | refine srcL_l ?_ | refine wp_neg ?_ | exact And.intro (Eq.refl _) (Eq.refl _) | apply te_and | apply te_or | apply te_andV | apply te_orV | (apply wp_ifP; (focus (decreasing_tactic; done))) | refine ex_nx ?_ | refine fun (_ : Sto) (_ : Hd _ _ _ _) => ?_ | refine wp_call0 ?_)
local macro_rules | `(tactic| decreasing_tactic) => `(tactic| repeat decreasing_trivial_pre_omega)
def plainB (t : Str) : Bool := match pathP t with
  | none => false
  | some (_, st) => decide (1 ≤ st.length ∧ st.length ≤ 2) && decide ((st.getD 0 ("", "")).1 = ".")
def callB (l n : Str) : Bool := nameB n && match pathP l with
  | none => false
  | some (_, st) => decide (st.map (·.1) = [("." : Str)])
theorem path_inv {t h : Str} {st : List (Str × Str)} (e : pathP t = some (h, st)) : ∃ ss : List SP, t = h ++ spsT ss ∧ nameB h = true ∧ (∀ s ∈ ss, nameB s.x = true) ∧ ss.length ≤ 3 ∧ st = ss.map SP.k := by
  obtain ⟨x, ss, rfl, hx, hs, hl⟩ := (path_pth (t := t) (by rw [e]; rfl)).ex
  rw [pathP_app hx (sps_head ss), steps_ok ss 5 [] hs (by omega) (by simpa using hl)] at e
  cases e
  exact ⟨ss, rfl, hx, hs, hl, rfl⟩
theorem path_of {x : Str} {ss : List SP} (hx : nameB x = true) (hs : ∀ s ∈ ss, nameB s.x = true) (hl : ss.length ≤ 3) : pathP (x ++ spsT ss) = some (x, ss.map SP.k) := by
  rw [pathP_app hx (sps_head ss), steps_ok ss 5 [] hs (by omega) (by simpa using hl)]
  rfl
theorem sign_ok (ss : List SP) : ∀ s ∈ (ss.map SP.k).map (·.1), okS s := fun s hs => by
  obtain ⟨p, hp, rfl⟩ := List.mem_map.mp hs
  obtain ⟨q, hq, rfl⟩ := List.mem_map.mp hp
  cases q
  · intro c hc
    have : c = 46 := List.mem_singleton.mp (show c ∈ [46] by rw [← sg_dot]; exact hc)
    omega
  · intro c hc
    have : c = 91 := List.mem_singleton.mp (show c ∈ [91] by rw [← sg_lb]; exact hc)
    omega
theorem eq_signs {S : Sto} (ss : List SP) : eqB S (.lst ((ss.map SP.k).map fun p => .str p.1)) (.lst [.str "."]) = some (decide ((ss.map SP.k).map (·.1) = [("." : Str)])) := by
  have := eqB_strs (S := S) (ys := [("." : Str)]) (sign_ok ss) fun s hs => by
    rw [List.mem_singleton.mp hs]
    exact sign_ok [.dot ""] _ (List.mem_singleton.mpr rfl)
  rw [List.map_map] at this
  exact this
section
variable {S : Sto} {Q : IV → Sto → Prop} {t : Str}
theorem place_plain (hl : t.length ≤ 1000) (he : Txt.endswith t ")" = false) : ∃ T, m_is_place [.str t] S = .ok (.bl (plainB t)) (S ++ T) := by
  have hsz := szL
  obtain ⟨T, e⟩ := read_path_ok (S := S) (s := t) (by omega)
  have k1 : kitN "str" "str" = some true := by decide +kernel
  have hty : ∀ (S : Sto) (x : Str), hasTy "str" S (.str x) = true := fun _ _ => rfl
  have htr : ∀ (S : Sto) (b : Bool), truB S (.bl b) = some b := fun _ _ => rfl
  have hn1 : isN .non = true := rfl
  have hn2 : ∀ xs, isN (.tup xs) = false := fun _ => rfl
  refine ⟨T, ?_⟩
  unfold m_is_place
  refine mDef_rt ?_
  unfold b_is_place
  unfold plainB
  cases hp : pathP t with
  | none =>
    rw [hp] at e
    simp [iVar_s, chk_pos, k1, fEnds, he, e, ivPath, hty, htr, hn1]
  | some p =>
    obtain ⟨h, st⟩ := p
    rw [hp] at e
    obtain ⟨ss, -, -, -, hl3, rfl⟩ := path_inv hp
    rcases ss with _ | ⟨a, _ | ⟨b, _ | ⟨c, _ | ⟨d, r⟩⟩⟩⟩
    · simp [iVar_s, chk_pos, k1, fEnds, he, e, ivPath, hty, htr, hn2]
    · cases a <;> simp [iVar_s, chk_pos, k1, fEnds, he, e, ivPath, hty, htr, hn2, ivSt, SP.k, atI]
    · cases a <;> simp [iVar_s, chk_pos, k1, fEnds, he, e, ivPath, hty, htr, hn2, ivSt, SP.k, atI]
    · simp [iVar_s, chk_pos, k1, fEnds, he, e, ivPath, hty, htr, hn2]
    · simp at hl3
theorem lc_signs {S : Sto} {Λ : Slots} {h t : Str} (ss : List SP) (hl : ss.length ≤ 3) (h4 : Λ[4]? = some (some (.tup [.str t, .str h, .tup ((ss.map SP.k).map ivSt)]))) (hL : Λ.length = 6) :
    iLc false (iSrcT (iBin fIx (iVar 4) (iC (.int 2)))) (giN 5) iYes (iBin fIx (iVar 5) (iC (.int 0))) [5] Λ S = .ok (.lst ((ss.map SP.k).map fun p => .str p.1)) S := by
  have hsz := szL
  rw [lc_map (k := none) (ss.map SP.k) ivSt (fun _ => true) (fun p => .str p.1) (S1 := S) ?_ trivial ?_ (by rw [List.length_map]; omega)]
  · rw [List.filter_eq_self.mpr fun _ _ => rfl]
    show chk _ _ = _
    rw [chk_pos (by rw [List.length_map, List.length_map]; omega)]
  · simp [iVar_s, h4, iSrcT, atI, tupOf]
  · intro p _
    refine ⟨_, rfl, rfl, fun _ => ?_⟩
    have : (((wipeI Λ [5]).set 5 (some (ivSt p)))[5]?) = some (some (.tup [.str p.1, .str p.2])) := List.getElem?_set_self (by simp [wipeI, hL])
    show (iBin fIx (iVar 5) (iC (.int 0)) ((wipeI Λ [5]).set 5 (some (ivSt p))) S) = _
    rw [show ivSt p = .tup [.str p.1, .str p.2] from rfl] at *
    simp [iVar_s this, atI]
theorem place_call (hl : t.length ≤ 1000) (he : Txt.endswith t ")" = true) {l n m : Str} (hp : Txt.partition (cutS t none (some (-1))) "(" = (l, m, n)) (h1 : l.length ≤ 1000) (h2 : n.length ≤ 1000) :
    ∃ T, m_is_place [.str t] S = .ok (.bl (callB l n)) (S ++ T) := by
  have hsz := szL
  obtain ⟨T, e⟩ := read_path_ok (S := S) (s := l) (by omega)
  have k1 : kitN "str" "str" = some true := by decide +kernel
  have hty : ∀ (S : Sto) (x : Str), hasTy "str" S (.str x) = true := fun _ _ => rfl
  have htr : ∀ (S : Sto) (b : Bool), truB S (.bl b) = some b := fun _ _ => rfl
  have hn1 : isN .non = true := rfl
  have hn2 : ∀ xs, isN (.tup xs) = false := fun _ => rfl
  have hc : (cutS t none (some (-1))).length ≤ sizeLine := by have := len_cut t none (some (-1)); omega
  have hP : ∀ S : Sto, fPart (.str (cutS t none (some (-1)))) [.str "("] S = .ok (.tup [.str l, .str m, .str n]) S := fun S => by
    show chk _ _ = _
    rw [chk_pos ⟨by decide +kernel, hc⟩, hp]
  have eF := fun S => fits_ok (S := S) (s := n) (by omega)
  refine ⟨T, ?_⟩
  unfold m_is_place
  refine mDef_rt ?_
  unfold b_is_place
  unfold callB
  have hq : t.length ≤ sizeLine := by omega
  cases hn : nameB n with
  | false => simp [iVar_s, chk_pos, k1, fEnds, he, e, hty, htr, hP, hq, eF, hn, tupOf]
  | true =>
    cases hpp : pathP l with
    | none =>
      rw [hpp] at e
      simp [iVar_s, chk_pos, k1, fEnds, he, e, hty, htr, hP, hq, eF, hn, tupOf, ivPath, hn1]
    | some p =>
      obtain ⟨h, st⟩ := p
      rw [hpp] at e
      obtain ⟨ss, -, -, -, hl3, rfl⟩ := path_inv hpp
      have eL := fun S => lc_signs (S := S) (Λ := [some (.str t), some (.str l), some (.str m), some (.str n), some (ivPath l (some (h, ss.map SP.k))), none]) (t := l) (h := h) ss hl3 rfl rfl
      have hI : isN (ivPath l (some (h, ss.map SP.k))) = false := rfl
      simp [iVar_s, chk_pos, k1, fEnds, he, e, hty, htr, hP, hq, eF, hn, tupOf, hn2, -iLc_e, hI, eL, eq_signs, -List.map_map, chk_pos (show 1 ≤ sizeLine by omega)]
end
set_option maxHeartbeats 1000000
def Told (b : Bool) (v : IV) : Prop := ∀ S, ∃ T, m_is_place [v] S = .ok (.bl b) (S ++ T)
inductive PC where
  | dot (x : Str)
  | br (x : Str)
def PC.x : PC → Str
  | .dot x => x
  | .br x => x
def PC.t : PC → Str
  | .dot x => ("." : Str) ++ x
  | .br x => ("[" : Str) ++ x
def PC.p : PC → Str
  | .dot x => x
  | .br x => ("[" : Str) ++ x
def pcT : List PC → Str
  | [] => ""
  | s :: ss => s.t ++ pcT ss
theorem ends1 (p : Str) (c : Nat) : Txt.endswith p ⟨#[c]⟩ = ((sg p).getLast? == some c) := by
  unfold Txt.endswith
  rw [StrLaws.subAt_eq]
  show (decide (0 + 1 ≤ p.length) && (((sg p).drop (p.length - 1)).take 1 == [c])) = _
  rw [← sg_len]
  cases h : (sg p).getLast? with
  | none =>
    rw [List.getLast?_eq_none_iff.mp h]
    rfl
  | some d =>
    have e := last_snoc h
    rw [e, List.length_append, List.length_singleton, decide_eq_true (by omega), Nat.add_sub_cancel, List.drop_left, Bool.true_and]
    show ([d] == [c]) = (some d == some c)
    simp
theorem rp_one : (")" : Str) = ⟨#[41]⟩ := by decide +kernel
theorem ends_no {t a z : Str} (e : t = a ++ z) (hz : (sg z).getLast? ≠ none ∧ (sg z).getLast? ≠ some 41) : Txt.endswith t ")" = false := by
  rw [rp_one, ends1, e, sg_app, List.getLast?_append]
  cases hq : (sg z).getLast? with
  | none => exact absurd hq hz.1
  | some c =>
    rw [hq] at hz
    have : c ≠ 41 := fun w => hz.2 (by rw [w])
    show (some c == some 41) = false
    simpa using this
theorem ends_yes (x : Str) : Txt.endswith (x ++ ")") ")" = true := by
  rw [rp_one, ends1, sg_app, List.getLast?_append]
  rfl
theorem cut_last (x : Str) : cutS (x ++ (")" : Str)) none (some (-1)) = x := sg_inj (by
  have l1 : (x ++ (")" : Str)).length = x.length + 1 := by rw [len_app]; rfl
  rw [sg_cut, l1]
  have h0 : HT.sIx (x.length + 1) 0 none = 0 := rfl
  have h1 : HT.sIx (x.length + 1) (x.length + 1) (some (-1)) = x.length := by
    show (if (-1 : Int) < 0 then ((-1 : Int) + ((x.length + 1 : Nat) : Int)).toNat else min (-1 : Int).toNat (x.length + 1)) = _
    rw [if_pos (by omega)]; omega
  rw [h0, h1, List.drop_zero, Nat.sub_zero, sg_app, ← sg_len x, List.take_left])
theorem nm_last {x : Str} (h : nameB x = true) : (sg x).getLast? ≠ none ∧ (sg x).getLast? ≠ some 41 := by
  refine ⟨fun z => ?_, fun z => ?_⟩
  · have : sg x = [] := List.getLast?_eq_none_iff.mp z
    have : x = "" := sg_inj this
    subst this
    revert h
    decide +kernel
  · have := nm_isL h 41 (List.mem_of_getLast? z)
    revert this
    decide +kernel
section
variable {t a b c : Str}
theorem told_plain (hl : t.length ≤ 1000) (he : Txt.endswith t ")" = false) {B : Bool} (hb : plainB t = B) : Told B (.str t) := fun S => by
  subst hb
  exact place_plain hl he
theorem told_call {x l n : Str} (hl : (x ++ (")" : Str)).length ≤ 1000) (hx : x = (l ++ ("(" : Str)) ++ n) (h4 : 40 ∉ sg l) {B : Bool} (hb : callB l n = B) : Told B (.str (x ++ ")")) := fun S => by
  subst hb
  have hp : Txt.partition (cutS (x ++ (")" : Str)) none (some (-1))) "(" = (l, ("(" : Str), n) := by
    rw [cut_last, hx]
    exact TL.partition_app (y := ("(" : Str)) (s := 40) (S := []) (by decide +kernel) h4
  have h1 : x.length = l.length + 1 + n.length := by rw [hx, len_app, len_app]; rfl
  rw [len_app] at hl
  exact place_call (by rw [len_app]; exact hl) (ends_yes x) hp (by omega) (by omega)
end
set_option maxHeartbeats 1000000
theorem sg_s1 : sg ("(" : Str) = [40] := by decide +kernel
theorem sg_s2 : sg (")" : Str) = [41] := by decide +kernel
theorem sg_s3 : sg ("()" : Str) = [40, 41] := by decide +kernel
theorem sg_s5 : sg ("]." : Str) = [93, 46] := by decide +kernel
theorem sg_s10 : sg ("..." : Str) = [46, 46, 46] := by decide +kernel
theorem sg_s11 : sg ("[]" : Str) = [91, 93] := by decide +kernel
theorem sg_s14 : sg ("](" : Str) = [93, 40] := by decide +kernel
theorem sg_s17 : sg ("" : Str) = [] := by decide +kernel
section
variable {t x a b c w : Str} {B : Bool}
theorem told_sps {ss : List SP} (e : t = x ++ spsT ss) (hx : nameB x = true) (hs : ∀ s ∈ ss, nameB s.x = true) (hl : ss.length ≤ 3) (ht : t.length ≤ 1000) (he : Txt.endswith t ")" = false)
    (hB : (decide (1 ≤ (ss.map SP.k).length ∧ (ss.map SP.k).length ≤ 2) && decide (((ss.map SP.k).getD 0 ("", "")).1 = ".")) = B) : Told B (.str t) :=
  told_plain ht he (by unfold plainB; rw [e, path_of hx hs hl]; exact hB)
theorem call_sps {l n : Str} {ss : List SP} (e : l = x ++ spsT ss) (hx : nameB x = true) (hs : ∀ s ∈ ss, nameB s.x = true) (hl : ss.length ≤ 3) (hB : (nameB n && decide ((ss.map SP.k).map (·.1) = [("." : Str)])) = B) : callB l n = B := by
  unfold callB
  rw [e, path_of hx hs hl]
  exact hB
theorem nm_no40 {x : Str} (h : nameB x = true) : 40 ∉ sg x := fun z => by
  have := nm_isL h 40 z
  revert this
  decide +kernel
end
def goodT (a b c : Str) : List Str := [(a ++ ".") ++ b, (((a ++ ".") ++ b) ++ ".") ++ c, ((((a ++ ".") ++ b) ++ "[") ++ c) ++ "]", ((((a ++ ".") ++ b) ++ "(") ++ c) ++ ")"]
section
variable {a b c : Str}
theorem nm8 {x : Str} (h : nameB x = true) : x.length ≤ 8 := by
  unfold nameB at h
  simp only [Bool.and_eq_true, decide_eq_true_eq] at h
  exact h.1.1.2
theorem good_all (ha : nameB a = true) (hb : nameB b = true) (hc : nameB c = true) : ∀ t ∈ goodT a b c, Told true (.str t) := by
  have la := nm8 ha
  have lb := nm8 hb
  have lc := nm8 hc
  intro t ht
  simp only [goodT, List.mem_cons, List.not_mem_nil, or_false] at ht
  rcases ht with rfl | rfl | rfl | rfl
  · exact told_sps (ss := [.dot b]) (x := a) (sg_inj (by simp [spsT, SP.t, pcT, PC.t, sg_app, sg_dot, sg_lb, sg_rb, sg_s1, sg_s2, sg_s3, sg_s5, sg_s10, sg_s11, sg_s14, sg_s17])) ha (by simpa [SP.x] using hb) (by simp) (by simp only [len_app, lits]; omega) (ends_no (z := b) rfl (nm_last hb)) rfl
  · exact told_sps (ss := [.dot b, .dot c]) (x := a) (sg_inj (by simp [spsT, SP.t, pcT, PC.t, sg_app, sg_dot, sg_lb, sg_rb, sg_s1, sg_s2, sg_s3, sg_s5, sg_s10, sg_s11, sg_s14, sg_s17])) ha (by simpa [SP.x] using ⟨hb, hc⟩) (by simp) (by simp only [len_app, lits]; omega) (ends_no (z := c) rfl (nm_last hc)) rfl
  · exact told_sps (ss := [.dot b, .br c]) (x := a) (sg_inj (by simp [spsT, SP.t, pcT, PC.t, sg_app, sg_dot, sg_lb, sg_rb, sg_s1, sg_s2, sg_s3, sg_s5, sg_s10, sg_s11, sg_s14, sg_s17])) ha (by simpa [SP.x] using ⟨hb, hc⟩) (by simp) (by simp only [len_app, lits]; omega) (ends_no (z := "]") rfl (by decide +kernel)) rfl
  · exact told_call (l := (a ++ ".") ++ b) (n := c) (by simp only [len_app, lits]; omega) rfl (by rw [sg_app, sg_app, sg_dot]; simp [nm_no40 ha, nm_no40 hb]) (call_sps (ss := [.dot b]) (x := a) (sg_inj (by simp [spsT, SP.t, pcT, PC.t, sg_app, sg_dot, sg_lb, sg_rb, sg_s1, sg_s2, sg_s3, sg_s5, sg_s10, sg_s11, sg_s14, sg_s17])) ha (by simpa [SP.x] using hb) (by simp) (by rw [hc]; rfl))
theorem good_len {a b c : Str} (ha : nameB a = true) (hb : nameB b = true) (hc : nameB c = true) : ∀ t ∈ goodT a b c, t.length ≤ 40 := by
  have la := nm8 ha
  have lb := nm8 hb
  have lc := nm8 hc
  intro t ht
  simp only [goodT, List.mem_cons, List.not_mem_nil, or_false] at ht
  rcases ht with rfl | rfl | rfl | rfl <;> (simp only [len_app, lits]; omega)
end
set_option maxHeartbeats 1000000
section
variable {n K : Nat} {fs : List (Nat × Cell)} {S : Sto} {Q : IV → Sto → Prop}
theorem dcK : Lw.DrC 39373 30011 2147483563 128 2147399993 := ⟨by decide, by decide, by decide, by decide, by decide, by decide⟩
theorem wp_drawK {m : Int} (h : Hd n K fs S) (hK : K ≤ 1000000) (h0 : 0 < m) (h1 : m < 1073741824) (q : ∀ (r : Int) (S' : Sto), Hd n (K + 1) fs S' → 0 ≤ r → r < m → Q (.int r) S') : Wp (m__law_draw [.adr n, .int m] S) Q := Lw.wp_drawC (C := 1013) dcK h hK h0 h1 q
theorem wp_sourceK {ns : List Int} {i : Nat} (q : ∀ (n : Nat) (S' : Sto), Hd n 0 [] S' → Q (.adr n) S') : Wp (m__law_source [.wls (ns.map IV.int), .int i] S) Q := Lw.wp_sourceB (P := 2147483587) (cc := 7919) (D := 11) (by decide) ⟨by decide, by decide⟩ q
theorem at_some {α : Type} {l : List α} {r : Int} (h0 : 0 ≤ r) (h1 : r < l.length) : ∃ x, x ∈ l ∧ atI l r = some x := by
  obtain ⟨k, rfl⟩ := Int.eq_ofNat_of_zero_le h0
  have hk : k < l.length := by omega
  exact ⟨l[k], List.getElem_mem hk, atI_nat (List.getElem?_eq_getElem hk)⟩
theorem of_ok {xs : List IV} {x : IV} (h : Hd n K fs S) (hK : K ≤ 1000000) (hx : x = .lst xs ∨ ∃ l, x = .adr l ∧ (l, Cell.lst xs) ∈ fs) (h0 : xs ≠ []) (h1 : xs.length ≤ 100000) (q : ∀ v S', v ∈ xs → Hd n (K + 1) fs S' → Q v S') : Wp (m__law_of [.adr n, x] S) Q := by
  have l0 : 0 < xs.length := List.length_pos_iff.mpr h0
  have hlen : lenN S x = some xs.length := by
    rcases hx with rfl | ⟨l, rfl, hm⟩
    · rfl
    · exact Sm.lenN_a (h.mem hm)
  refine wd__law_of ?_
  unfold b__law_of
  refine wp_ret (wp_bin (wp_var (by with_unfolding_all exact rfl) (wp_call (wp_cons (wp_var (by with_unfolding_all exact rfl) (wp_cons (wp_ca (wp_cons (wp_var (by with_unfolding_all exact rfl) (wp_nil (wp_len hlen (wp_nil ⟨rfl, wp_drawK h hK (by omega) (by omega) fun r S' h r0 r1 => ?_⟩))))))))))))
  obtain ⟨v, hv, e⟩ := at_some (l := xs) r0 r1
  rcases hx with rfl | ⟨l, rfl, hm⟩
  · exact wp_ixl e (fq_rt (q v S' hv h))
  · exact wp_ixa (h.mem hm) e (fq_rt (q v S' hv h))
theorem kept_split : Txt.split (("ahead all as at call class def either end for from \x69mport keep module none often once or outside patch" : Str) ++ (" set stand start stop table test using with" : Str)) " " = c_KEYWORDS := by decide +kernel
def othT (k : Nat) : Str := ((⟨#[(sg alpha).getD (k / 26) 0]⟩ : Str) ++ (⟨#[(sg alpha).getD (k % 26) 0]⟩ : Str)) ++ "q"
def oths : List Str := (List.range 60).map othT
theorem oths_ok : oths.Nodup ∧ ∀ x ∈ oths, nameB x = true := by
  have h1 : oths.Nodup := by decide +kernel
  have h2 : (oths.all nameB) = true := by decide +kernel
  exact ⟨h1, List.all_eq_true.mp h2⟩
theorem oth_pick (ws : List Str) (h : ws.length < 60) : ∃ x r, oths.filter (fun s => !decide (s ∈ ws)) = x :: r ∧ nameB x = true := by
  cases hf : oths.filter (fun s => !decide (s ∈ ws)) with
  | nil =>
    have := nodup_le oths_ok.1 (ps := ws) fun x hx => by
      have := List.filter_eq_nil_iff.mp hf x hx
      simpa using this
    have l : oths.length = 60 := by decide +kernel
    omega
  | cons x r =>
    refine ⟨x, r, rfl, oths_ok.2 x ?_⟩
    have : x ∈ oths.filter (fun s => !decide (s ∈ ws)) := by rw [hf]; exact List.mem_cons_self
    exact (List.mem_filter.mp this).1
theorem alpha_e : ("abcdefghijklmnopqrstuvwxyz" : Str) = alpha := by decide +kernel
theorem wp_lcX {α : Type} {Λ : Slots} {cell : Bool} {ms : IW} {gi : IV → Slots → Option Slots} {tt : IT} {te : IE} {vs : List Nat} (e : α → IV) (hs : Wp (ms Λ S) fun s S1 => ∃ (as : List α) (k : Option Nat) (I : Nat → Sto → List IV → Prop), s = ⟨as.map e, k⟩ ∧ I 0 S1 [] ∧ (∀ i S acc, I i S acc → Src.stay ⟨as.map e, k⟩ S) ∧
    (∀ i S acc a, as[i]? = some a → I i S acc → ∃ L, gi (e a) (wipeI Λ vs) = some L ∧ Wp (tt L S) fun b S1 => (b = true → Wp (te L S1) fun y S2 => I (i + 1) S2 (acc ++ [y])) ∧ (b = false → I (i + 1) S1 acc)) ∧ as.length ≤ sizeLine ∧
    (∀ S acc, I as.length S acc → Wp (mkL cell acc S) Q)) : Wp (iLc cell ms gi tt te vs Λ S) Q := by
  rw [iLc_e]
  refine .bind (hs.imp fun s S1 ⟨as, k, I, e1, h0, st, h, hl, q⟩ => ?_)
  subst e1
  exact .bind (wp_lcgo (s := ⟨as.map e, k⟩) e I st as 0 S1 [] h0 (fun j S acc a ha hI => by
    rw [Nat.zero_add] at hI ⊢
    exact h j S acc a ha hI) (by simpa using hl) fun S acc hI => q S acc (by rw [Nat.zero_add] at hI; exact hI))
theorem rg_len (r : Nat) : (List.range r).length = r := List.length_range
theorem word_ok {Λ : Slots} (h : Hd n K fs S) (hK : K ≤ 990000) (h0 : Λ[0]? = some (some (.adr n))) (h2 : Λ[2]? = some (some (.int 8))) (h4 : Λ[4]? = some (some (.str ("abcdefghijklmnopqrstuvwxyz" : Str)))) (hL : Λ.length = 11)
    (q : ∀ (w : Str) (S' : Sto), 1 ≤ w.length → w.length ≤ 8 → abc w = true → Hd n (K + 9) fs S' → Q (.str w) S') :
    Wp (iBM "str" fJoin (iC (.str "")) (iCons (iLc false (iSrcR1 (iBin fAdd (iC (.int 1)) (iCall 2 m__law_draw (iCons (iVar 0) (iCons (iVar 2) iNil))))) (giN 9) iYes (iBin fIx (iVar 4) (iCall 2 m__law_draw (iCons (iVar 0) (iCons (iC (.int 26)) iNil)))) [9]) iNil) Λ S) Q := by
  have hsz := szL
  have l26 : (sg ("abcdefghijklmnopqrstuvwxyz" : Str)).length = 26 := by decide +kernel
  have w0 : ∀ x, ((wipeI Λ [9]).set 9 x)[0]? = some (some (.adr n)) := fun x => by simp [wipeI, h0]
  have w4 : ∀ x, ((wipeI Λ [9]).set 9 x)[4]? = some (some (.str ("abcdefghijklmnopqrstuvwxyz" : Str))) := fun x => by simp [wipeI, h4]
  refine wp_bm (wp_c ⟨rfl, wp_cons (wp_lcX (fun i : Nat => IV.int i) (wp_range (wp_bin (wp_c (wp_call (wp_cons (wp_var h0 (wp_cons (wp_var h2 (wp_nil ⟨rfl, wp_drawK h (by omega) (by omega) (by omega) fun r S h r0 r1 => wp_addi ⟨_, rfl, ⟨by omega, by omega⟩, ?_⟩⟩))))))))))⟩)
  obtain ⟨m, rfl, hm⟩ : ∃ m : Nat, r = (m : Int) ∧ m < 8 := ⟨r.toNat, by omega, by omega⟩
  refine ⟨List.range (1 + (m : Int)).toNat, none, fun i S acc => Hd n (K + 1 + i) fs S ∧ ∃ ws : List Str, acc = ws.map IV.str ∧ ws.length = i ∧ ∀ w ∈ ws, ∃ c, w = ⟨#[c]⟩ ∧ c ∈ sg alpha, rfl, ⟨h, [], rfl, rfl, fun _ z => (by cases z)⟩, fun _ _ _ _ => trivial, ?_, ?_, ?_⟩
  · rintro i S acc a ha ⟨h, ws, rfl, hl, hw⟩
    have hi := (rg_some ha).2
    refine ⟨_, rfl, wp_yes ⟨fun _ => ?_, fun z => (by cases z)⟩⟩
    refine wp_bin (wp_var (w4 _) (wp_call (wp_cons (wp_var (w0 _) (wp_cons (wp_c (wp_nil ⟨rfl, wp_drawK h (by omega) (by omega) (by omega) fun r S h r0 r1 => ?_⟩)))))))
    obtain ⟨c, hc, e⟩ := at_some (l := sg ("abcdefghijklmnopqrstuvwxyz" : Str)) (r := r) r0 (by rw [l26]; exact r1)
    refine wp_ixs e ⟨by rw [← sg_len, l26]; omega, h.up (by omega), ws ++ [⟨#[c]⟩], by rw [List.map_append]; rfl, by rw [List.length_append, hl]; rfl, fun w hw' => ?_⟩
    rcases List.mem_append.mp hw' with z | z
    · exact hw w z
    · exact ⟨c, List.mem_singleton.mp z, by rw [← alpha_e]; exact hc⟩
  · rw [rg_len]; omega
  · rintro S acc ⟨h, ws, rfl, hl, hw⟩
    rw [rg_len] at hl h
    have s1 : ∀ z ∈ ws, z.length = 1 := fun z hz => by
      obtain ⟨c, rfl, _⟩ := hw z hz
      rfl
    have s2 : (ws.map (·.length)).sum = ws.length := by
      clear hl
      induction ws with
      | nil => rfl
      | cons z r ih =>
        rw [List.map_cons, List.sum_cons, s1 z List.mem_cons_self, ih (fun w hx => hw w (List.mem_cons_of_mem _ hx)) (fun w hx => s1 w (List.mem_cons_of_mem _ hx)), List.length_cons]
        omega
    have j0 : ("" : Str).length = 0 := by decide +kernel
    refine wp_mkf ⟨by rw [List.length_map]; omega, wp_nil (wp_join (zs := ws) rfl ⟨by rw [j0]; omega, q _ S ?_ ?_ ?_ (h.up (by omega))⟩)⟩
    · rw [empty_eq, Lw.join_len]; omega
    · rw [empty_eq, Lw.join_len]; omega
    · unfold abc
      rw [empty_eq, sg_join0]
      refine List.all_eq_true.mpr fun c hc => ?_
      obtain ⟨l, hl, hc⟩ := List.mem_flatten.mp hc
      obtain ⟨z, hz, rfl⟩ := List.mem_map.mp hl
      obtain ⟨d, rfl, hd⟩ := hw z hz
      rw [List.mem_singleton.mp (show c ∈ [d] from hc)]
      exact decide_eq_true hd
theorem names_ok (m : Nat) (hm : m ≤ 20) (h : Hd n K fs S) (hK : K ≤ 900000) (q : ∀ (l : Nat) (ws : List Str) (S' : Sto), (∀ w ∈ ws, nameB w = true) → ws.length = m → Hd n (K + 10 * m) ((l, .lst (ws.map IV.str)) :: fs) S' → Q (.adr l) S') : Wp (m__law_names [.adr n, .int m, .int 8] S) Q := by
  have hsz := szL
  refine wd__law_names ?_
  unfold b__law_names
  have hk : ∀ {S : Sto} {P : IV → Sto → Prop}, P (.lst (c_KEYWORDS.map IV.str)) S → Wp (fSplit false (.str (("ahead all as at call class def either end for from \x69mport keep module none often once or outside patch" : Str) ++ (" set stand start stop table test using with" : Str))) [.str " "] S) P := fun {S P} p =>
    wp_split ⟨⟨by decide +kernel, by rw [len_app]; simp only [lits]; omega⟩, by rw [kept_split]; exact wp_mkf ⟨by rw [List.length_map, show c_KEYWORDS.length = 28 by decide +kernel]; omega, p⟩⟩
  refine wp_seq (wp_set (wp_c (wp_nx ?_)))
  refine wp_seq (wp_set (wp_bm (wp_bin (wp_var (by with_unfolding_all exact rfl) (wp_c (wp_adds ⟨by simp only [lits]; omega, ⟨rfl, wp_cons (wp_c (wp_nil (hk (wp_nx ?_))))⟩⟩))))))
  refine wp_seq (wp_set (wp_c (wp_nx ?_)))
  refine wp_seq (wp_set (wp_lst (wp_nil (wp_mkt h ⟨Nat.zero_le _, fun l S h => wp_nx ?_⟩))))
  refine wp_seq (wp_forK (wp_range (wp_var (by with_unfolding_all exact rfl) ⟨_, rfl, ⟨by omega, by omega⟩, ?_⟩)))
  refine wp_it (k := none) (List.range m) (fun i : Nat => IV.int i) (fun i Λ S => ∃ (t nm ot : Option IV) (ws : List Str), Λ = [some (.adr n), some (.int m), some (.int 8), some (.lst (c_KEYWORDS.map IV.str)), some (.str ("abcdefghijklmnopqrstuvwxyz" : Str)), some (.adr l), t, nm, ot, none, none] ∧ ws.length = i ∧ (∀ w ∈ ws, nameB w = true) ∧ Hd n (K + 10 * i) ((l, .lst (ws.map IV.str)) :: fs) S) ⟨none, none, none, [], rfl, rfl, fun _ z => (by cases z), h⟩ stay_n ?_ ?_
  · rintro i Λ S k hk ⟨t, nm, ot, ws, rfl, hl, hw, h⟩
    have hi := (rg_some hk).2
    refine wp_name (wp_seq (wp_set (word_ok h (by omega) (by with_unfolding_all exact rfl) (by with_unfolding_all exact rfl) (by with_unfolding_all exact rfl) rfl fun w S w1 w2 w3 h => wp_nx ?_)))
    have fin : ∀ (x : Str) (S : Sto) (ot : Option IV), nameB x = true → Hd n (K + 10 * i + 9) ((l, .lst (ws.map IV.str)) :: fs) S → Wp (iDrop (iBM "list" fApp (iVar 5) (iCons (iVar 7) iNil)) [some (.adr n), some (.int m), some (.int 8), some (.lst (c_KEYWORDS.map IV.str)), some (.str ("abcdefghijklmnopqrstuvwxyz" : Str)), some (.adr l), some (.int k), some (.str x), ot, none, none] S) (LpQ (fun Λ S => ∃ (t nm ot : Option IV) (ws : List Str), Λ = [some (.adr n), some (.int m), some (.int 8), some (.lst (c_KEYWORDS.map IV.str)), some (.str ("abcdefghijklmnopqrstuvwxyz" : Str)), some (.adr l), t, nm, ot, none, none] ∧ ws.length = i + 1 ∧ (∀ w ∈ ws, nameB w = true) ∧ Hd n (K + 10 * (i + 1)) ((l, .lst (ws.map IV.str)) :: fs) S) (fun fl S2 => Wp (fSeq (iRet (iVar 5)) fl S2) (FlQ Q))) := fun x S ot hx h => by
      refine wp_appV (by with_unfolding_all exact rfl) (h.at 0 rfl) (wp_var (by with_unfolding_all exact rfl) ⟨n, _, _, 0, _, h, rfl, ⟨by rw [List.length_map]; omega, fun S' h' => lq_nx ⟨_, _, _, ws ++ [x], rfl, by rw [List.length_append, hl]; rfl, fun w hw' => ?_, ?_⟩⟩⟩)
      · rcases List.mem_append.mp hw' with z | z
        · exact hw w z
        · rw [List.mem_singleton.mp z]; exact hx
      · rw [List.map_append]
        exact h'.up (by omega)
    refine wp_seq (wp_ifP (B := decide (w ∈ c_KEYWORDS) || decide (w ∈ ws)) (te_or (wp_test (wp_bin (wp_var (by with_unfolding_all exact rfl) (wp_var (by with_unfolding_all exact rfl) (wp_in (inB_lst w c_KEYWORDS) (ex_bl ⟨rfl, rfl⟩)))))) (wp_test (wp_bin (wp_var (by with_unfolding_all exact rfl) (wp_var (by with_unfolding_all exact rfl) (wp_in (Lw.inB_a w ws (h.at 0 rfl)) (ex_bl ⟨rfl, rfl⟩))))))) (fun hB => ?_) (fun hB => ?_))
    · obtain ⟨x, r, e, hx⟩ := oth_pick ws (by omega)
      have eO : (((List.range 60).filter fun _ => true).map fun k => IV.str (othT k)) = oths.map IV.str := by
        rw [List.filter_eq_self.mpr fun _ _ => rfl]
        unfold oths
        rw [List.map_map]
        rfl
      have l60 : oths.length = 60 := by decide +kernel
      refine wp_seq (wp_set (wp_lcm (List.range 60) (fun i : Nat => IV.int i) (fun _ => true) (fun k => IV.str (othT k)) (k := none) (wp_range (wp_c ⟨_, rfl, ⟨by omega, by omega⟩, rfl, rfl⟩)) trivial (fun k hk => ⟨_, rfl, wp_yes ⟨rfl, rfl, fun _ => ?_⟩⟩) (by rw [rg_len]; omega) (wp_mkf ⟨by rw [eO, List.length_map, l60]; omega, wp_nx ?_⟩)))
      · have hk := List.mem_range.mp hk
        have l26 : (sg alpha).length = 26 := by decide +kernel
        have at1 : ∀ j : Nat, j < 26 → atI ("abcdefghijklmnopqrstuvwxyz" : Str).cps.toList (j : Int) = some ((sg alpha).getD j 0) := fun j hj => by
          rw [alpha_e]
          refine atI_nat ?_
          show (sg alpha)[j]? = _
          rw [List.getD_eq_getElem?_getD, List.getElem?_eq_getElem (by omega)]
          rfl
        have ls : ("abcdefghijklmnopqrstuvwxyz" : Str).length ≤ sizeLine := by simp only [lits]; omega
        have d1 : ((k : Int) / 26) = ((k / 26 : Nat) : Int) := by omega
        have d2 : ((k : Int) % 26) = ((k % 26 : Nat) : Int) := by omega
        refine wp_bin (wp_bin (wp_bin (wp_var (by with_unfolding_all exact rfl) (wp_bin (wp_var (by with_unfolding_all exact rfl) (wp_c (wp_fI ⟨cdiv_mk (by decide) (by decide), ?_⟩)))))))
        rw [d1]
        refine wp_ixs (at1 _ (by omega)) ⟨ls, wp_bin (wp_var (by with_unfolding_all exact rfl) (wp_bin (wp_ca (wp_cons (wp_var (by with_unfolding_all exact rfl) (wp_nil (wp_inti (wp_c (wp_fI ⟨by decide, ?_⟩)))))))))⟩
        rw [d2]
        exact wp_ixs (at1 _ (by omega)) ⟨ls, wp_adds ⟨by show 1 + 1 ≤ _; omega, wp_c (wp_adds ⟨by show 2 + 1 ≤ _; omega, rfl, rfl⟩)⟩⟩
      · rw [eO]
        refine wp_set (wp_bin (wp_lcm oths IV.str (fun s => !decide (s ∈ ws)) IV.str (k := none) (wp_srcL (wp_var (by with_unfolding_all exact rfl) (srcL_l ⟨rfl, rfl⟩))) trivial (fun s hs => ⟨_, rfl, wp_test (wp_bin (wp_var (by with_unfolding_all exact rfl) (wp_var (by with_unfolding_all exact rfl) (wp_notin (Lw.inB_a s ws (h.at 0 rfl)) (ex_bl ⟨rfl, rfl, fun _ => wp_var (by with_unfolding_all exact rfl) ⟨rfl, rfl⟩⟩)))))⟩) (by rw [l60]; omega) ?_))
        rw [e]
        have lr : (x :: r).length ≤ 60 := by
          rw [← e, ← l60]
          exact List.length_filter_le _ _
        exact wp_mkf ⟨by rw [List.length_map]; omega, wp_c (wp_ixl (v := .str x) (show atI ((x :: r).map IV.str) ((0 : Nat) : Int) = some (IV.str x) from atI_nat rfl) (wp_nx (fin x _ _ hx h)))⟩
    · obtain ⟨k1, k2⟩ := Bool.or_eq_false_iff.mp hB
      refine wp_next (wp_nx (fin w _ _ ?_ h))
      unfold nameB
      rw [decide_eq_true ⟨w1, w2⟩, w3, k1]
      rfl
  · rintro Λ S ⟨t, nm, ot, ws, rfl, hl, hw, h⟩
    rw [rg_len] at hl h
    exact wp_nx (wp_ret (wp_var (by with_unfolding_all exact rfl) (fq_rt (q l ws S hw hl h))))
end
set_option maxHeartbeats 1000000
def sd (ts : List Str) : List Str := srt (SetR.got ts ts.length)
theorem fold_add : ∀ (xs L : List Str), L.Nodup → (xs.foldl SetR.addL L).Nodup ∧ ∀ x, x ∈ xs.foldl SetR.addL L ↔ x ∈ L ∨ x ∈ xs
  | [], L, h => ⟨h, fun x => ⟨fun h => .inl h, fun h => h.elim id fun z => by cases z⟩⟩
  | y :: xs, L, h => by
    rw [List.foldl_cons]
    have e : SetR.addL L y = if y ∈ L then L else y :: L := rfl
    by_cases c : y ∈ L
    · rw [e, if_pos c]
      obtain ⟨h1, h2⟩ := fold_add xs L h
      refine ⟨h1, fun x => (h2 x).trans ⟨fun z => z.imp id (List.mem_cons_of_mem _), fun z => z.elim .inl fun z => ?_⟩⟩
      rcases List.mem_cons.mp z with rfl | z
      · exact .inl c
      · exact .inr z
    · rw [e, if_neg c]
      obtain ⟨h1, h2⟩ := fold_add xs (y :: L) (List.nodup_cons.mpr ⟨c, h⟩)
      refine ⟨h1, fun x => (h2 x).trans ?_⟩
      simp only [List.mem_cons]
      exact ⟨fun z => by rcases z with (z | z) | z <;> simp [z], fun z => by rcases z with z | z | z <;> simp [z]⟩
theorem got_ok (ts : List Str) : (SetR.got ts ts.length).Nodup ∧ ∀ x, x ∈ SetR.got ts ts.length ↔ x ∈ ts := by
  have e : SetR.got ts ts.length = ts.foldl SetR.addL [] := by unfold SetR.got; rw [List.take_length]
  obtain ⟨h1, h2⟩ := fold_add ts [] List.nodup_nil
  rw [e]
  exact ⟨h1, fun x => (h2 x).trans ⟨fun z => z.elim (fun z => by cases z) id, .inr⟩⟩
theorem sd_mem {ts : List Str} {x : Str} : x ∈ sd ts ↔ x ∈ ts := ((srt_perm _).mem_iff).trans ((got_ok ts).2 x)
theorem sd_nodup (ts : List Str) : (sd ts).Nodup := (srt_perm _).nodup_iff.mpr (got_ok ts).1
theorem sd_len (ts : List Str) : (sd ts).length ≤ ts.length := by
  unfold sd
  rw [(srt_perm _).length_eq]
  exact SetR.got_le ts ts.length (Nat.le_refl _)
theorem srtP_perm : ∀ {a b : List Str}, SrtP a → SrtP b → a.Perm b → a = b := fun {a b} ha hb hp => by
  exact hp.eq_of_pairwise (fun a b _ _ h1 h2 => leT_antisymm h1 h2) ha hb
theorem sd_congr {a b : List Str} (h : ∀ x, x ∈ a ↔ x ∈ b) : sd a = sd b := by
  unfold sd
  have hp : (SetR.got a a.length).Perm (SetR.got b b.length) := (List.perm_ext_iff_of_nodup (got_ok a).1 (got_ok b).1).mpr fun x => ((got_ok a).2 x).trans ((h x).trans ((got_ok b).2 x).symm)
  exact srtP_perm (srt_srt _) (srt_srt _) ((srt_perm _).trans (hp.trans (srt_perm _).symm))
theorem fold_dd : ∀ (xs L : List Str), L.Nodup → (xs.foldl step_dedup L).Nodup ∧ ∀ x, x ∈ xs.foldl step_dedup L ↔ x ∈ L ∨ x ∈ xs
  | [], L, h => ⟨h, fun x => ⟨fun h => .inl h, fun h => h.elim id fun z => by cases z⟩⟩
  | y :: xs, L, h => by
    rw [List.foldl_cons]
    have e : step_dedup L y = if y ∈ L then L else L ++ [y] := by
      unfold step_dedup
      by_cases c : y ∈ L
      · rw [if_pos c, if_pos (List.any_eq_true.mpr ⟨y, c, by simp⟩)]
      · rw [if_neg c, if_neg fun z => by
          obtain ⟨x, hx, hy⟩ := List.any_eq_true.mp z
          exact c (by rw [← eq_of_beq hy]; exact hx)]
    by_cases c : y ∈ L
    · rw [e, if_pos c]
      obtain ⟨h1, h2⟩ := fold_dd xs L h
      refine ⟨h1, fun x => (h2 x).trans ⟨fun z => z.imp id (List.mem_cons_of_mem _), fun z => z.elim .inl fun z => ?_⟩⟩
      rcases List.mem_cons.mp z with rfl | z
      · exact .inl c
      · exact .inr z
    · rw [e, if_neg c]
      obtain ⟨h1, h2⟩ := fold_dd xs (L ++ [y]) (List.nodup_append.mpr ⟨h, List.nodup_cons.mpr ⟨fun z => (by cases z), List.nodup_nil⟩, fun a ha b hb z => c (by rw [← List.mem_singleton.mp hb, ← z]; exact ha)⟩)
      refine ⟨h1, fun x => (h2 x).trans ?_⟩
      simp only [List.mem_cons, List.mem_append, List.not_mem_nil, or_false]
      exact ⟨fun z => by rcases z with (z | z) | z <;> simp [z], fun z => by rcases z with z | z | z <;> simp [z]⟩
theorem firsts_len (ts : List Str) : (SetL.firsts ts ts.length).length = (sd ts).length := by
  have e : SetL.firsts ts ts.length = ts.foldl step_dedup [] := by unfold SetL.firsts; rw [List.take_length]
  obtain ⟨h1, h2⟩ := fold_dd ts [] List.nodup_nil
  rw [e]
  refine List.Perm.length_eq ((List.perm_ext_iff_of_nodup h1 (sd_nodup ts)).mpr fun x => ?_)
  rw [h2 x, sd_mem]
  exact ⟨fun z => z.elim (fun z => by cases z) id, .inr⟩
def plC (ts : List Str) : Cell := .ins "Places" [("sorted_places", .lst ((sd ts).map .str))]
section
variable {S : Sto} {o : Nat}
noncomputable def stepB : IS := iIf (iNot (iTru (iCall 1 m_is_place (iCons (iVar 3) iNil)))) (iRaise "BadPlaces" "at" (iCons (iVar 2) iNil)) iNext
noncomputable def stepG : IG := iGTup 2 (iGCons (iName 2) (iGCons (iName 3) iGNil))
theorem step_good {v : IV} (hv : Told true v) (i : Nat) (x : IV) (a b : Option IV) (S : Sto) : ∃ T, ((stepG (.tup [.int i, v]) [some (.adr o), some x, a, b] S).bind fun Λ1 S1 => stepB Λ1 S1) = .ok (.nx [some (.adr o), some x, some (.int i), some v]) (S ++ T) := by
  obtain ⟨T, e⟩ := hv S
  have htr : ∀ (S : Sto) (b : Bool), truB S (.bl b) = some b := fun _ _ => rfl
  refine ⟨T, ?_⟩
  unfold stepG stepB
  simp [iVar_s, chk_pos, e, htr, tupOf]
theorem iter_good {s : Src} (x : IV) : ∀ (A : List IV) (i : Nat) (a b : Option IV) (S : Sto), (∀ T, s.stay (S ++ T)) → (∀ v ∈ A, Told true v) → ∃ T a' b', iIterE s stepG stepB i A [some (.adr o), some x, a, b] S = .ok (.nx [some (.adr o), some x, a', b']) (S ++ T)
  | [], i, a, b, S, hs, _ => ⟨[], a, b, by
      unfold iIterE
      have := hs []
      rw [List.append_nil] at this ⊢
      rw [chkP_pos this]⟩
  | v :: A, i, a, b, S, hs, h => by
    obtain ⟨T, e⟩ := step_good (o := o) (h v List.mem_cons_self) i x a b S
    obtain ⟨T', a', b', e2⟩ := iter_good x A (i + 1) (some (.int i)) (some v) (S ++ T) (fun T' => by rw [List.append_assoc]; exact hs _) fun w hw => h w (List.mem_cons_of_mem _ hw)
    refine ⟨T ++ T', a', b', ?_⟩
    rw [← List.append_assoc, ← e2]
    conv => lhs; unfold iIterE
    have := hs []
    rw [List.append_nil] at this
    rw [chkP_pos this, ← Out.bind_assoc, e, Out.bind_ok]
def Lv (S : Sto) (x : IV) (ts : List Str) : Prop := x = .lst (ts.map .str) ∨ ∃ l, x = .adr l ∧ S[l]? = some (.lst (ts.map .str))
theorem init_ok {ts : List Str} {x : IV} (hx : Lv S x ts) (ht : ∀ t ∈ ts, Told true (.str t)) (hl : ts.length ≤ 60) {o : Nat} (ho : S[o]? = some (.ins "Places" [])) : ∃ S', m_Places___init__ [.adr o, x] S = .ok .non S' ∧ S'[o]? = some (plC ts) ∧ Ext [o] S S' := by
  have hsz := szL
  obtain ⟨s, e0, hs, hi, hst⟩ : ∃ s : Src, fSrcL x S = .ok s S ∧ (∀ T, s.stay (S ++ T)) ∧ s.items = ts.map .str ∧ ∀ T, lstOf (S ++ T) x = some (ts.map .str) := by
    rcases hx with rfl | ⟨l, rfl, g⟩
    · exact ⟨⟨ts.map .str, none⟩, rfl, fun _ => trivial, rfl, fun _ => rfl⟩
    · have g2 : ∀ T, (S ++ T)[l]? = some (.lst (ts.map .str)) := fun T => by rw [List.getElem?_append_left (lt_some g)]; exact g
      exact ⟨⟨ts.map .str, some l⟩, by unfold fSrcL; simp only [g], fun T => g2 T, rfl, fun T => by unfold lstOf; simp only [g2 T]⟩
  obtain ⟨T, a', b', e1⟩ := iter_good (o := o) (s := s) x (ts.map .str) 0 none none S hs fun v hv => by
    obtain ⟨t, h, rfl⟩ := List.mem_map.mp hv
    exact ht t h
  have lg := SetR.got_le ts ts.length (Nat.le_refl _)
  have ls := (srt_perm (SetR.got ts ts.length)).length_eq
  have ho2 : (S ++ T)[o]? = some (.ins "Places" []) := by rw [List.getElem?_append_left (lt_some ho)]; exact ho
  have hsort : iSortT false (iVar 1) [some (.adr o), some x, a', b'] (S ++ T) = .ok (.lst ((sd ts).map .str)) (S ++ T) := by
    unfold iSortT
    rw [show iVar 1 [some (.adr o), some x, a', b'] (S ++ T) = .ok x (S ++ T) from rfl, Out.bind_ok, hst, orBad_some, Lw.strsOf_map, orBad_some, chk_pos ⟨by omega, by omega⟩]
    show chk _ _ = _
    rw [chk_pos (by rw [List.length_map, ls]; omega)]
    rfl
  refine ⟨(S ++ T).set o (plC ts), ?_, List.getElem?_set_self (lt_some ho2), (Ext.app (ds := [o]) T).trans (.set (.inl (by simp)))⟩
  unfold m_Places___init__
  refine md_nx (Λ1 := [some (.adr o), some x, a', b']) ?_
  show b_Places___init__ [some (.adr o), some x, none, none] S = _
  unfold b_Places___init__
  have e2 : iForE (iVar 1) stepG stepB [some (.adr o), some x, none, none] S = .ok (.nx [some (.adr o), some x, a', b']) (S ++ T) := by
    unfold iForE
    rw [show iVar 1 [some (.adr o), some x, none, none] S = .ok x S from rfl, Out.bind_ok, e0, Out.bind_ok, hi]
    exact e1
  refine (sq_ok (Λ1 := [some (.adr o), some x, a', b']) (S1 := S ++ T) e2).trans ?_
  unfold iSetF
  rw [hsort, Out.bind_ok, show iVar 0 [some (.adr o), some x, a', b'] (S ++ T) = .ok (.adr o) (S ++ T) from rfl, Out.bind_ok]
  unfold onI
  simp only [ho2, if_true]
  rw [chk_pos (by decide)]
  rfl
theorem wp_mk {Λ : Slots} {ts : List Str} {ma : IA} {Q : IV → Sto → Prop} (ht : ∀ t ∈ ts, Told true (.str t)) (hl : ts.length ≤ 60) (hm : Wp (ma Λ S) fun xs S1 => ∃ x, xs = [x] ∧ Lv S1 x ts ∧ Ext [] S S1)
    (q : ∀ o S', S'[o]? = some (plC ts) → Ext [] S S' → Q (.adr o) S') : Wp (iMake "Places" 2 m_Places___init__ ma Λ S) Q := by
  obtain ⟨xs, S1, e, x, rfl, hx, x1⟩ := hm
  unfold iMake
  rw [e, Out.bind_ok, chk_pos (by rfl)]
  have hx' : Lv (S1 ++ [.ins "Places" []]) x ts := hx.imp id fun ⟨l, e, g⟩ => ⟨l, e, by rw [List.getElem?_append_left (lt_some g)]; exact g⟩
  obtain ⟨S', e2, h1, h2⟩ := init_ok hx' ht hl (get_new S1 (.ins "Places" []))
  rw [e2]
  exact .ok (q _ S' h1 (x1.trans ((Ext.app (ds := []) _).trans' h2 fun e he => .inr (Nat.le_of_eq (List.mem_singleton.mp he).symm))))
end
set_option maxHeartbeats 1000000
structure Pt (t : Str) : Prop where
  told : Told true (.str t)
  len : t.length ≤ 40
  ok : okS t
  hd : ∃ c, (sg t).head? = some c ∧ isL c = true
  lst : (sg t).getLast? ≠ some 46
def Pts (ts : List Str) : Prop := ∀ t ∈ ts, Pt t
theorem Pts.sd {ts : List Str} (h : Pts ts) : Pts (sd ts) := fun t ht => h t (sd_mem.mp ht)
theorem Pts.ok {ts : List Str} (h : Pts ts) : ∀ t ∈ ts, okS t := fun t ht => (h t ht).ok
theorem Pts.told {ts : List Str} (h : Pts ts) : ∀ t ∈ ts, Told true (.str t) := fun t ht => (h t ht).told
theorem ext0 {S : Sto} : Ext [] S S := ⟨Nat.le_refl _, fun _ _ h _ => h⟩
theorem noX_w {o : Out IV} {Q : IV → Sto → Prop} (h : Wp o Q) : Wp (noX o) Q := by
  obtain ⟨a, S', rfl, q⟩ := h
  exact .ok q
section
variable {S : Sto} {o p : Nat} {as bs : List Str} {Q : IV → Sto → Prop}
abbrev At (S : Sto) (o : Nat) (ts : List Str) : Prop := S[o]? = some (plC ts)
theorem At.ext {S' : Sto} (h : At S o as) (x : Ext [] S S') : At S' o as := x.get h (by simp)
theorem wp_sp {Λ : Slots} {i : Nat} (h : At S o as) (hi : Λ[i]? = some (some (.adr o))) (q : Q (.lst ((sd as).map .str)) S) : Wp (iUn (fFld "Places" "sorted_places") (iVar i) Λ S) Q :=
  wp_un (wp_var hi (wp_fld h rfl q))
theorem sl_len (hl : as.length ≤ 60) : ((sd as).map IV.str).length ≤ sizeLine := by
  have := szL
  have := sd_len as
  rw [List.length_map]
  omega
theorem texts_ok (h : At S o as) (hl : as.length ≤ 60) (q : Q (.adr S.length) (S ++ [.lst ((sd as).map .str)])) : Wp (m_Places_texts [.adr o] S) Q := by
  refine wd_Places_texts ?_
  unfold b_Places_texts
  exact wp_ret (wp_ca (wp_cons (wp_sp h (by with_unfolding_all exact rfl) (wp_nil (wp_orBad (k := fun xs => mkL true xs S) (show seqOf S (.lst ((sd as).map .str)) = some _ from rfl) (wp_chk ⟨sl_len hl, .ok (fq_rt q)⟩))))))
theorem blsOf_map {α : Type} (f : α → Bool) : ∀ l : List α, blsOf (l.map fun x => IV.bl (f x)) = some (l.map f)
  | [] => rfl
  | a :: l => by
    show (blsOf (l.map fun x => IV.bl (f x))).map (f a :: ·) = _
    rw [blsOf_map f l]
    rfl
theorem within_ok (h : At S o as) (g : At S p bs) (ha : as.length ≤ 60) (hb : bs.length ≤ 60) (q : Q (.bl (as.all fun x => decide (x ∈ bs))) S) : Wp (m_Places_within [.adr o, .adr p] S) Q := by
  refine wd_Places_within ?_
  unfold b_Places_within
  have e : ((sd as).map fun x => decide (x ∈ sd bs)).all id = as.all fun x => decide (x ∈ bs) := by
    rw [Bool.eq_iff_iff]
    simp only [List.all_eq_true, List.mem_map, id_eq, decide_eq_true_eq]
    exact ⟨fun z x hx => sd_mem.mp (of_decide_eq_true (z _ ⟨x, sd_mem.mpr hx, rfl⟩)), fun z b ⟨x, hx, hb⟩ => by rw [← hb]; exact decide_eq_true (sd_mem.mpr (z x (sd_mem.mp hx)))⟩
  refine wp_ret (wp_ca (wp_cons (wp_lcm (sd as) IV.str (fun _ => true) (fun x => .bl (decide (x ∈ sd bs))) (k := none) (wp_srcL (wp_sp h (by with_unfolding_all exact rfl) (srcL_l ⟨rfl, rfl⟩))) trivial (fun x hx => ⟨_, rfl, wp_yes ⟨rfl, rfl, fun _ => ?_⟩⟩) (by have := sl_len ha; rwa [List.length_map] at this) ?_)))
  · exact wp_bin (wp_var (by with_unfolding_all exact rfl) (wp_sp g (by with_unfolding_all exact rfl) (wp_in (inB_lst x (sd bs)) ⟨rfl, rfl⟩)))
  · rw [List.filter_eq_self.mpr fun _ _ => rfl]
    refine wp_mkf ⟨by have := sl_len ha; rwa [List.length_map] at this ⊢, wp_nil ?_⟩
    refine wp_orBad (k := fun ys => orBad (blsOf ys) fun bs => Out.ok (IV.bl (bs.all id)) S) (show lstX S (.lst _) = some _ from rfl) ?_
    rw [blsOf_map, orBad_some, e]
    exact .ok (fq_rt q)
theorem len_ok (h : At S o as) (q : Q (.int ((sd as).length : Nat)) S) : Wp (m_Places___len__ [.adr o] S) Q := by
  refine wd_Places___len__ ?_
  unfold b_Places___len__
  refine wp_ret (wp_ca (wp_cons (wp_sp h (by with_unfolding_all exact rfl) (wp_nil (wp_len (lenN_l _) ?_)))))
  rw [List.length_map]
  exact fq_rt q
theorem bool_ok (h : At S o as) (q : Q (.bl (!(sd as).isEmpty)) S) : Wp (m_Places___bool__ [.adr o] S) Q := by
  refine wd_Places___bool__ ?_
  unfold b_Places___bool__
  refine wp_ret (wp_ca (wp_cons (wp_sp h (by with_unfolding_all exact rfl) (wp_nil (wp_orBad (k := fun (ys : List IV) => Out.ok (IV.bl (!ys.isEmpty)) S) (show lstX S (.lst ((sd as).map .str)) = some _ from rfl) ?_)))))
  rw [List.isEmpty_map]
  exact .ok (fq_rt q)
def inV (as : List Str) : IV → Bool
  | .str s => decide (s ∈ as)
  | _ => false
theorem has_ok {v : IV} {ty : String} (h : At S o as) (hv : tyN S v = some ty) (hk : (ty = "str" ∧ ∃ s, v = .str s) ∨ kitN ty "str" = some false) (q : Q (.bl (inV as v)) S) : Wp (m_Places___contains__ [.adr o, v] S) Q := by
  refine wd_Places___contains__ ?_
  unfold b_Places___contains__
  rcases hk with ⟨rfl, s, rfl⟩ | hk
  · refine wp_ret (wp_andV (wp_ca (wp_cons (wp_var (by with_unfolding_all exact rfl) (wp_cons (wp_c (wp_nil (wp_isi (b := true) hv (by decide +kernel) ⟨_, rfl, fun _ => wp_bin (wp_var (by with_unfolding_all exact rfl) (wp_sp h (by with_unfolding_all exact rfl) (wp_in (inB_lst s (sd as)) ?_))), fun z => (by cases z)⟩))))))))
    have e : inV as (.str s) = decide (s ∈ as) := rfl
    rw [e] at q
    have : decide (s ∈ sd as) = decide (s ∈ as) := by rw [decide_eq_decide]; exact sd_mem
    rw [this]
    exact fq_rt q
  · have hn : inV as v = false := by
      cases v with
      | str s => cases hv; exact absurd hk (by decide +kernel)
      | _ => rfl
    rw [hn] at q
    exact wp_ret (wp_andV (wp_ca (wp_cons (wp_var (by with_unfolding_all exact rfl) (wp_cons (wp_c (wp_nil (wp_isi (b := false) hv hk ⟨_, rfl, fun z => (by cases z), fun _ => fq_rt q⟩))))))))
theorem eqs_ok (h : At S o as) (g : At S p bs) (ga : Pts as) (gb : Pts bs) (q : Q (.bl (decide (sd as = sd bs))) S) : Wp (m_Places___eq__ [.adr o, .adr p] S) Q := by
  refine wd_Places___eq__ ?_
  unfold b_Places___eq__
  have g2 : tyN S (.adr p) = none := by show (match S[p]? with | some (.lst _) => some "list" | some (.dic _) => some "dict" | _ => none) = none; rw [g]; rfl
  refine wp_ret (wp_andV (wp_un (wp_var (by with_unfolding_all exact rfl) ?_)))
  unfold fIsOA
  rw [g2]
  show Wp (onI S "Places" (.adr p) fun _ _ => Out.ok (IV.bl true) S) _
  rw [onI_s g]
  exact .ok ⟨_, rfl, fun _ => wp_bin (wp_sp h (by with_unfolding_all exact rfl) (wp_sp g (by with_unfolding_all exact rfl) (wp_eq (eqB_strs ga.sd.ok gb.sd.ok) (fq_rt q)))), fun z => (by cases z)⟩
theorem eqn_ok {v : IV} {ty : String} (hv : tyN S v = some ty) (h6 : ty ∈ six) (q : Q (.bl false) S) : Wp (m_Places___eq__ [.adr o, v] S) Q := by
  refine wd_Places___eq__ ?_
  unfold b_Places___eq__
  refine wp_ret (wp_andV (wp_un (wp_var (by with_unfolding_all exact rfl) ?_)))
  unfold fIsOA
  rw [hv]
  exact wp_chk ⟨h6, .ok ⟨_, rfl, fun z => (by cases z), fun _ => fq_rt q⟩⟩
theorem or_ok (h : At S o as) (g : At S p bs) (ga : Pts as) (gb : Pts bs) (hl : as.length + bs.length ≤ 60) (q : ∀ r S', At S' r (sd as ++ sd bs) → Ext [] S S' → Q (.adr r) S') : Wp (m_Places___or__ [.adr o, .adr p] S) Q := by
  refine wd_Places___or__ ?_
  unfold b_Places___or__
  have hsz := szL
  have l1 := sd_len as
  have l2 := sd_len bs
  refine wp_ret (wp_mk (ts := sd as ++ sd bs) (fun t ht => (List.mem_append.mp ht).elim (ga.sd.told t) (gb.sd.told t)) (by rw [List.length_append]; omega) (wp_cons (wp_bin (wp_sp h (by with_unfolding_all exact rfl) (wp_sp g (by with_unfolding_all exact rfl) (wp_addl ⟨by rw [List.length_append, List.length_map, List.length_map]; omega, wp_nil ⟨_, rfl, .inl (by rw [List.map_append]), ext0⟩⟩))))) fun r S' hr x => fq_rt (q r S' hr x))
theorem flt_len {f : Str → Bool} (hl : as.length ≤ 60) : ((sd as).filter f).length ≤ 60 := by
  have := List.length_filter_le f (sd as)
  have := sd_len as
  omega
theorem and_ok (h : At S o as) (g : At S p bs) (ga : Pts as) (ha : as.length ≤ 60) (q : ∀ r S', At S' r ((sd as).filter fun x => decide (x ∈ sd bs)) → Ext [] S S' → Q (.adr r) S') : Wp (m_Places___and__ [.adr o, .adr p] S) Q := by
  refine wd_Places___and__ ?_
  unfold b_Places___and__
  have hsz := szL
  have l1 := sd_len as
  refine wp_ret (wp_mk (ts := (sd as).filter fun x => decide (x ∈ sd bs)) (fun t ht => ga.sd.told t (List.mem_filter.mp ht).1) (flt_len ha) (wp_cons (wp_lcm (sd as) IV.str (fun x => decide (x ∈ sd bs)) IV.str (k := none) (wp_srcL (wp_sp h (by with_unfolding_all exact rfl) (srcL_l ⟨rfl, rfl⟩))) trivial (fun x hx => ⟨_, rfl, wp_test (wp_bin (wp_var (by with_unfolding_all exact rfl) (wp_sp g (by with_unfolding_all exact rfl) (wp_in (inB_lst x (sd bs)) (ex_bl ⟨rfl, rfl, fun _ => wp_var (by with_unfolding_all exact rfl) ⟨rfl, rfl⟩⟩)))))⟩) (by omega) (wp_mkf ⟨by rw [List.length_map]; exact Nat.le_trans (flt_len ha) (by omega), wp_nil ⟨_, rfl, .inl rfl, ext0⟩⟩))) fun r S' hr x => fq_rt (q r S' hr x))
theorem sub_ok (h : At S o as) (g : At S p bs) (ga : Pts as) (ha : as.length ≤ 60) (q : ∀ r S', At S' r ((sd as).filter fun x => !decide (x ∈ sd bs)) → Ext [] S S' → Q (.adr r) S') : Wp (m_Places___sub__ [.adr o, .adr p] S) Q := by
  refine wd_Places___sub__ ?_
  unfold b_Places___sub__
  have hsz := szL
  have l1 := sd_len as
  refine wp_ret (wp_mk (ts := (sd as).filter fun x => !decide (x ∈ sd bs)) (fun t ht => ga.sd.told t (List.mem_filter.mp ht).1) (flt_len ha) (wp_cons (wp_lcm (sd as) IV.str (fun x => !decide (x ∈ sd bs)) IV.str (k := none) (wp_srcL (wp_sp h (by with_unfolding_all exact rfl) (srcL_l ⟨rfl, rfl⟩))) trivial (fun x hx => ⟨_, rfl, wp_test (wp_bin (wp_var (by with_unfolding_all exact rfl) (wp_sp g (by with_unfolding_all exact rfl) (wp_notin (inB_lst x (sd bs)) (ex_bl ⟨rfl, rfl, fun _ => wp_var (by with_unfolding_all exact rfl) ⟨rfl, rfl⟩⟩)))))⟩) (by omega) (wp_mkf ⟨by rw [List.length_map]; exact Nat.le_trans (flt_len ha) (by omega), wp_nil ⟨_, rfl, .inl rfl, ext0⟩⟩))) fun r S' hr x => fq_rt (q r S' hr x))
def repT (as : List Str) : Str := (("Places(" : Str) ++ PySem.Txt.join ", " (sd as)) ++ ")"
theorem sum40 : ∀ {l : List Str}, Pts l → (l.map (·.length)).sum ≤ 40 * l.length
  | [], _ => Nat.zero_le _
  | t :: l, h => by
    have := (h t List.mem_cons_self).len
    have := sum40 (l := l) fun x hx => h x (List.mem_cons_of_mem _ hx)
    rw [List.map_cons, List.sum_cons, List.length_cons]
    omega
theorem fold_glueY (y : Str) : ∀ (zs : List Str) (acc : Array Nat), (zs.foldl (fun acc p => acc ++ y.cps ++ p.cps) acc).toList = acc.toList ++ (zs.map fun z => sg y ++ sg z).flatten
  | [], acc => by simp
  | z :: zs, acc => by
    rw [List.foldl_cons, fold_glueY y zs, List.map_cons, List.flatten_cons]
    simp [sg]
theorem sg_join (y z : Str) (zs : List Str) : sg (PySem.Txt.join y (z :: zs)) = sg z ++ (zs.map fun z => sg y ++ sg z).flatten := by
  show (zs.foldl (fun acc p => acc ++ y.cps ++ p.cps) z.cps).toList = _
  rw [fold_glueY]
theorem flat_le (y : Str) (b : Nat) : ∀ zs : List Str, (∀ z ∈ zs, z.length ≤ b) → ((zs.map fun z => sg y ++ sg z).flatten).length ≤ zs.length * (y.length + b)
  | [], _ => Nat.zero_le _
  | z :: zs, h => by
    have h1 := flat_le y b zs fun x hx => h x (List.mem_cons_of_mem _ hx)
    have h2 := h z List.mem_cons_self
    rw [List.map_cons, List.flatten_cons, List.length_append, List.length_append, sg_len, sg_len, List.length_cons, Nat.succ_mul]
    omega
theorem join_le {l : List Str} (h : Pts l) (hl : l.length ≤ 60) : (PySem.Txt.join ", " l).length ≤ 10000 := by
  cases l with
  | nil => decide +kernel
  | cons z zs =>
    have h40 : ∀ s ∈ z :: zs, s.length ≤ 40 := fun s hs => (h s hs).len
    have := flat_le ", " 40 zs fun s hs => h40 s (List.mem_cons_of_mem _ hs)
    have y1 : (", " : Str).length = 2 := by decide +kernel
    have hz := h40 z List.mem_cons_self
    rw [List.length_cons] at hl
    rw [← sg_len, sg_join, List.length_append, sg_len]
    rw [y1] at this
    have : zs.length * (2 + 40) ≤ 60 * 42 := Nat.mul_le_mul (by omega) (Nat.le_refl _)
    omega
theorem repr_ok (h : At S o as) (ga : Pts as) (ha : as.length ≤ 60) (q : Q (.str (repT as)) S) : Wp (m_Places___repr__ [.adr o] S) Q := by
  refine wd_Places___repr__ ?_
  unfold b_Places___repr__
  have hsz := szL
  have l1 := sd_len as
  have l2 := sum40 ga.sd
  have l3 := join_le ga.sd (by omega)
  have l4 : (", " : Str).length = 2 := by decide +kernel
  have l5 : ("Places(" : Str).length = 7 := by decide +kernel
  have l6 : (")" : Str).length = 1 := by decide +kernel
  have l0 : (Str.empty : Str).length = 0 := rfl
  have e0 : (Str.empty : Str) ++ ("Places(" : Str) = "Places(" := sg_inj (by rw [sg_app]; rfl)
  have hj : Wp (iBM "str" fJoin (iC (.str ", ")) (iCons (iUn (fFld "Places" "sorted_places") (iVar 0)) iNil) [some (.adr o)] S) fun v S' => v = .str (PySem.Txt.join ", " (sd as)) ∧ S' = S :=
    wp_bm (wp_c ⟨rfl, wp_cons (wp_sp h (by with_unfolding_all exact rfl) (wp_nil (wp_join (zs := sd as) rfl ⟨by rw [l4]; omega, rfl, rfl⟩)))⟩)
  obtain ⟨v, S', ej, rfl, rfl⟩ := hj
  refine wp_ret (.of (a := .str (repT as)) (S := S') ?_ (fq_rt q))
  unfold iJoined iJs iJs iJs iJs
  rw [show iC (.str "Places(") [some (.adr o)] S' = .ok (.str "Places(") S' from rfl, Out.bind_ok]
  show (chk _ _).bind _ = _
  rw [chk_pos ⟨by rw [e0, l5]; omega, by rw [l5]; omega⟩, ej, Out.bind_ok]
  show (chk _ _).bind _ = _
  rw [chk_pos ⟨by rw [e0, len_app, l5]; omega, by omega⟩, show iC (.str ")") [some (.adr o)] S' = .ok (.str ")") S' from rfl, Out.bind_ok]
  show (chk _ _).bind _ = _
  rw [chk_pos ⟨by rw [e0, len_app, len_app, l5, l6]; omega, by rw [l6]; omega⟩, e0]
  rfl
end
set_option maxHeartbeats 1000000
section
variable {S : Sto} {o p l : Nat} {as bs ds : List Str} {Q : IV → Sto → Prop} {Λ : Slots}
theorem eqB_al {zs ys : List Str} (h : S[l]? = some (.lst (zs.map .str))) (hz : ∀ z ∈ zs, okS z) (hy : ∀ z ∈ ys, okS z) : eqB S (.adr l) (.lst (ys.map .str)) = some (decide (zs = ys)) := by
  rw [← eqB_strs (S := S) hz hy]
  have v1 : view 8 S (.adr l) = view 8 S (.lst (zs.map .str)) := by
    show (match S[l]? with | some (.lst xs) => (viewL (view 7 S) xs).map PyData.list | _ => none) = _
    rw [h]
    rfl
  show (match view 8 S (.adr l), view 8 S (.lst (ys.map .str)) with
    | some d, some e => if SeqAt.shaped d = true ∧ SeqAt.shaped e = true then some (PyData.eqv d e) else none
    | _, _ => none) = (match view 8 S (.lst (zs.map .str)), view 8 S (.lst (ys.map .str)) with
    | some d, some e => if SeqAt.shaped d = true ∧ SeqAt.shaped e = true then some (PyData.eqv d e) else none
    | _, _ => none)
  rw [v1]
theorem wp_sd {i : Nat} (hi : Λ[i]? = some (some (.lst (ds.map .str)))) (hd : ds.length ≤ 60) (q : Q (.lst ((sd ds).map .str)) S) : Wp (iSortT false (iVar i) Λ S) Q := by
  have hsz := szL
  have lg := SetR.got_le ds ds.length (Nat.le_refl _)
  have ls := sd_len ds
  refine .of (a := .lst ((sd ds).map .str)) (S := S) ?_ q
  unfold iSortT
  rw [iVar_s hi, Out.bind_ok, show lstOf S (.lst (ds.map .str)) = some (ds.map .str) from rfl, orBad_some, Lw.strsOf_map, orBad_some, chk_pos ⟨by omega, by omega⟩]
  show chk _ _ = _
  rw [chk_pos (by rw [List.length_map]; show (sd ds).length ≤ _; omega)]
  rfl
theorem wp_lt {i : Nat} (hi : Λ[i]? = some (some (.lst (ds.map .str)))) (hd : ds.length ≤ 60) (q : Q (.int ((sd ds).length : Nat)) S) : Wp (iLenT (iVar i) Λ S) Q := by
  refine .of (a := .int ((sd ds).length : Nat)) (S := S) ?_ q
  unfold iLenT
  rw [iVar_s hi, Out.bind_ok, show lstOf S (.lst (ds.map .str)) = some (ds.map .str) from rfl, orBad_some, Lw.strsOf_map, orBad_some, chk_pos (by omega), firsts_len]
theorem wp_isA (h : At S o as) (q : Q (.bl true) S) : Wp (fIsOA "Places" (.adr o) S) Q := by
  have g2 : tyN S (.adr o) = none := by show (match S[o]? with | some (.lst _) => some "list" | some (.dic _) => some "dict" | _ => none) = none; rw [h]; rfl
  unfold fIsOA
  rw [g2]
  show Wp (onI S "Places" (.adr o) fun _ _ => Out.ok (IV.bl true) S) _
  rw [onI_s h]
  exact .ok q
theorem wp_texts {i : Nat} (hi : Λ[i]? = some (some (.adr o))) (h : At S o as) (ha : as.length ≤ 60) (q : Q (.adr S.length) (S ++ [.lst ((sd as).map .str)])) : Wp (iMeth "Places" "texts" 1 m_Places_texts (iVar i) iNil Λ S) Q :=
  wp_meth (wp_var hi ⟨_, _, rfl, h, rfl, wp_nil ⟨rfl, texts_ok h ha q⟩⟩)
theorem wp_lenP (h : At S o as) (ha : as.length ≤ 60) (q : Q (.int ((sd as).length : Nat)) S) : Wp (fLenO "Places" m_Places___len__ [.adr o] S) Q := by
  have ls := sd_len as
  show Wp (onI S "Places" (.adr o) fun _ _ => (noX (m_Places___len__ [.adr o] S)).bind fun v S2 => asI v fun i => chk (0 ≤ i ∧ i < 2 ^ 62) (.ok (.int i) S2)) Q
  rw [onI_s h]
  exact .bind (noX_w (len_ok h (wp_asI (wp_chk ⟨⟨by omega, by omega⟩, .ok q⟩))))
theorem wp_boolP (h : At S o as) (q : Q (.bl (!(sd as).isEmpty)) S) : Wp (fBoolO "Places" m_Places___bool__ [.adr o] S) Q := by
  show Wp (onI S "Places" (.adr o) fun _ _ => (noX (m_Places___bool__ [.adr o] S)).bind fun v S2 => asB v fun t => .ok (.bl t) S2) Q
  rw [onI_s h]
  exact .bind (noX_w (bool_ok h (.ok q)))
theorem wp_reprP (h : At S o as) (ga : Pts as) (ha : as.length ≤ 60) (q : Q (.str (repT as)) S) : Wp (fStrO "Places" m_Places___repr__ [.adr o] S) Q := by
  show Wp (onI S "Places" (.adr o) fun _ _ => (noX (m_Places___repr__ [.adr o] S)).bind fun v S2 => asS v fun t => .ok (.str t) S2) Q
  rw [onI_s h]
  exact .bind (noX_w (repr_ok h ga ha (.ok q)))
theorem wp_eqP {neg : Bool} (h : At S o as) (g : At S p bs) (ga : Pts as) (gb : Pts bs) (q : Q (.bl (decide (sd as = sd bs) != neg)) S) : Wp (fCmpO "Places" m_Places___eq__ neg (.adr o) (.adr p) S) Q := by
  have ok : EqOkA "Places" S (.adr p) = true := by
    unfold EqOkA
    have : EqOk "Places" S (.adr p) = true := by
      show (match S[p]? with | some (.ins D _) => decide (D = "Places") | _ => false) = true
      rw [g]
      exact decide_eq_true rfl
    rw [this]
    rfl
  refine wp_chk ⟨ok, ?_⟩
  show Wp (onI S "Places" (.adr o) fun _ _ => (noX (m_Places___eq__ [.adr o, .adr p] S)).bind fun v S2 => asB v fun b => .ok (.bl (b != neg)) S2) Q
  rw [onI_s h]
  exact .bind (noX_w (eqs_ok h g ga gb (.ok q)))
theorem wp_eqN {v : IV} {ty : String} (h : At S o as) (hv : tyN S v = some ty) (h6 : ty ∈ six) (q : Q (.bl false) S) : Wp (fCmpO "Places" m_Places___eq__ false (.adr o) v S) Q := by
  have ok : EqOkA "Places" S v = true := by
    unfold EqOkA
    rw [hv]
    simp [h6]
  refine wp_chk ⟨ok, ?_⟩
  show Wp (onI S "Places" (.adr o) fun _ _ => (noX (m_Places___eq__ [.adr o, v] S)).bind fun v S2 => asB v fun b => .ok (.bl (b != false)) S2) Q
  rw [onI_s h]
  exact .bind (noX_w (eqn_ok hv h6 (.ok q)))
theorem wp_inP {v : IV} {ty : String} (h : At S o as) (hv : tyN S v = some ty) (hk : (ty = "str" ∧ ∃ s, v = .str s) ∨ kitN ty "str" = some false) (q : Q (.bl (inV as v)) S) : Wp (fInO "Places" m_Places___contains__ false v (.adr o) S) Q := by
  show Wp (onI S "Places" (.adr o) fun _ _ => (noX (m_Places___contains__ [.adr o, v] S)).bind fun v S2 => asB v fun b => .ok (.bl (b != false)) S2) Q
  rw [onI_s h]
  refine .bind (noX_w (has_ok h hv hk (.ok ?_)))
  have : (inV as v != false) = inV as v := by cases inV as v <;> rfl
  rw [this]
  exact q
theorem is_ok (h : At S o as) (ga : Pts as) (ha : as.length ≤ 60) (gd : Pts ds) (hd : ds.length ≤ 60) (e : ∀ x, x ∈ as ↔ x ∈ ds) (q : ∀ S', Ext [] S S' → Q (.bl true) S') : Wp (m__law_is [.adr o, .lst (ds.map .str)] S) Q := by
  have hsz := szL
  have es : sd as = sd ds := sd_congr e
  have ld := sd_len ds
  refine wd__law_is ?_
  unfold b__law_is
  refine wp_seq (wp_if (wp_or (wp_not (wp_tru (wp_un (wp_var (by with_unfolding_all exact rfl) (wp_isA h ⟨_, rfl, fun z => (by cases z), fun _ => ?_⟩)))))))
  have x1 : Ext [] S (S ++ [.lst ((sd as).map .str)]) := Ext.app _
  have h1 := h.ext x1
  generalize hS1 : S ++ [Cell.lst ((sd as).map .str)] = S1 at x1 h1
  have k1 : kitN "list" "list" = some true := by decide +kernel
  refine wp_or (wp_not (wp_tru (wp_ca (wp_cons (wp_texts (by with_unfolding_all exact rfl) h ha (wp_cons (wp_c (wp_nil (wp_isi (t := "list") (b := true) ?_ k1 ⟨_, rfl, fun z => (by cases z), fun _ => ?_⟩)))))))))
  · show (match (S ++ [Cell.lst ((sd as).map .str)])[S.length]? with | some (.lst _) => some "list" | some (.dic _) => some "dict" | _ => none) = _
    rw [get_new]
  rw [hS1]
  have x2 : Ext [] S1 (S1 ++ [.lst ((sd as).map .str)]) := Ext.app _
  have h2 := h1.ext x2
  have gl : (S1 ++ [Cell.lst ((sd as).map .str)])[S1.length]? = some (.lst ((sd as).map .str)) := get_new _ _
  refine wp_test (wp_bin (wp_texts (by with_unfolding_all exact rfl) h1 ha ?_))
  generalize S1 ++ [Cell.lst ((sd as).map .str)] = S2 at x2 h2 gl
  refine wp_sd (by with_unfolding_all exact rfl) hd (wp_ne (eqB_al gl ga.sd.ok gd.sd.ok) (ex_bl ?_))
  rw [es, decide_eq_true rfl]
  refine ⟨fun z => (by cases z), fun _ => wp_next (wp_nx ?_)⟩
  have em : (sd as).isEmpty = decide (ds = []) := by
    rw [Bool.eq_iff_iff, List.isEmpty_iff, decide_eq_true_eq]
    constructor
    · intro z
      cases ds with
      | nil => rfl
      | cons d r =>
        have : d ∈ sd as := sd_mem.mpr ((e d).mpr List.mem_cons_self)
        rw [z] at this
        cases this
    · intro z
      subst z
      cases hs : sd as with
      | nil => rfl
      | cons d r =>
        have : d ∈ sd as := by rw [hs]; exact List.mem_cons_self
        exact absurd ((e d).mp (sd_mem.mp this)) (by simp)
  refine wp_seq (wp_if (wp_or (wp_test (wp_bin (wp_ca (wp_cons (wp_var (by with_unfolding_all exact rfl) (wp_nil (wp_lenP h2 ha (wp_lt (by with_unfolding_all exact rfl) hd (wp_nei (ex_bl ?_))))))))))))
  rw [es, decide_eq_true rfl]
  refine ⟨fun z => (by cases z), fun _ => ?_⟩
  refine wp_test (wp_bin (wp_ca (wp_cons (wp_var (by with_unfolding_all exact rfl) (wp_nil (wp_boolP h2 (wp_bin (wp_var (by with_unfolding_all exact rfl) (wp_lst (wp_nil (wp_mkf ⟨Nat.zero_le _, wp_ne (eqB_strs (ys := []) gd.ok fun _ z => (by cases z)) (wp_neb (ex_bl ?_))⟩)))))))))))
  rw [em, decide_eq_true rfl]
  refine ⟨fun z => (by cases z), fun _ => wp_next (wp_nx ?_)⟩
  have l4 : (", " : Str).length = 2 := by decide +kernel
  have l5 : ("Places(" : Str).length = 7 := by decide +kernel
  have l6 : (")" : Str).length = 1 := by decide +kernel
  have lj := join_le gd.sd (by omega)
  have l2 := sum40 gd.sd
  refine wp_ret (wp_bin (wp_ca (wp_cons (wp_var (by with_unfolding_all exact rfl) (wp_nil (wp_reprP h2 ga ha (wp_bin (wp_bin (wp_c (wp_bm (wp_c ⟨rfl, wp_cons (wp_sd (by with_unfolding_all exact rfl) hd (wp_nil (wp_join (zs := sd ds) rfl ⟨by rw [l4]; omega, wp_adds ⟨by rw [l5]; omega, wp_c (wp_adds ⟨by rw [len_app, l5, l6]; omega, wp_eqs ?_⟩)⟩⟩)))⟩)))))))))))
  unfold repT
  rw [es, decide_eq_true rfl]
  exact fq_rt (q _ (x1.trans x2))
end
set_option maxHeartbeats 1000000
section
variable {S : Sto} {o p l : Nat} {as bs ds : List Str} {Q : IV → Sto → Prop} {Λ : Slots}
theorem eqB_aa {l' : Nat} {zs ys : List Str} (h : S[l]? = some (.lst (zs.map .str))) (g : S[l']? = some (.lst (ys.map .str))) (hz : ∀ z ∈ zs, okS z) (hy : ∀ z ∈ ys, okS z) : eqB S (.adr l) (.adr l') = some (decide (zs = ys)) := by
  rw [← eqB_strs (S := S) hz hy]
  have v1 : view 8 S (.adr l) = view 8 S (.lst (zs.map .str)) := by
    show (match S[l]? with | some (.lst xs) => (viewL (view 7 S) xs).map PyData.list | _ => none) = _
    rw [h]
    rfl
  have v2 : view 8 S (.adr l') = view 8 S (.lst (ys.map .str)) := by
    show (match S[l']? with | some (.lst xs) => (viewL (view 7 S) xs).map PyData.list | _ => none) = _
    rw [g]
    rfl
  show (match view 8 S (.adr l), view 8 S (.adr l') with
    | some d, some e => if SeqAt.shaped d = true ∧ SeqAt.shaped e = true then some (PyData.eqv d e) else none
    | _, _ => none) = (match view 8 S (.lst (zs.map .str)), view 8 S (.lst (ys.map .str)) with
    | some d, some e => if SeqAt.shaped d = true ∧ SeqAt.shaped e = true then some (PyData.eqv d e) else none
    | _, _ => none)
  rw [v1, v2]
theorem wp_app0 {xs : List IV} {v : IV} {S0 : Sto} (x : Ext [] S0 S) (g : S[l]? = some (.lst xs)) (h0 : S0.length ≤ l) (hl : xs.length < sizeLine) (q : ∀ S', Ext [] S0 S' → Ext [l] S S' → Q .non S') : Wp (fApp (.adr l) [v] S) Q := by
  show Wp (onL S (.adr l) fun n ys => chk (ys.length < sizeLine) (.ok .non (S.set n (.lst (ys ++ [v]))))) Q
  rw [onL_s g]
  have xx : Ext [l] S (S.set l (.lst (xs ++ [v]))) := .set (.inl (by simp))
  exact wp_chk ⟨hl, .ok (q _ (x.trans' xx fun e he => .inr (by rw [List.mem_singleton.mp he]; exact h0)) xx)⟩
theorem wp_newl {i : Nat} (hi : Λ[i]? = some (some (.lst (ds.map .str)))) (hd : ds.length ≤ 60) (q : Q (.adr S.length) (S ++ [.lst (ds.map .str)])) : Wp (iCa (fList true) (iCons (iVar i) iNil) Λ S) Q := by
  have hsz := szL
  exact wp_ca (wp_cons (wp_var hi (wp_nil (wp_orBad (k := fun (xs : List IV) => mkL true xs S) (show seqOf S (.lst (ds.map .str)) = some _ from rfl) (wp_chk ⟨by rw [List.length_map]; omega, .ok q⟩)))))
theorem ne_cell {S : Sto} {a b : Nat} {c d : Cell} (h : S[a]? = some c) (g : S[b]? = some d) (hn : c ≠ d) : a ≠ b := fun z => by
  subst z
  exact hn (Option.some.inj (h.symm.trans g))
theorem apart_ok (h : At S o as) (ga : Pts as) (ha : as.length ≤ 60) (gd : Pts ds) (hd : ds.length ≤ 60) (e : ∀ x, x ∈ as ↔ x ∈ ds) (q : ∀ S', Ext [] S S' → Q (.bl true) S') : Wp (m__law_apart [.adr o, .lst (ds.map .str)] S) Q := by
  have hsz := szL
  have es : sd as = sd ds := sd_congr e
  have ld := sd_len ds
  refine wd__law_apart ?_
  unfold b__law_apart
  refine wp_seq (wp_set (wp_newl (by with_unfolding_all exact rfl) hd (wp_nx ?_)))
  have x1 : Ext [] S (S ++ [.lst (ds.map .str)]) := Ext.app _
  have g1 : (S ++ [Cell.lst (ds.map .str)])[S.length]? = some (.lst (ds.map .str)) := get_new _ _
  generalize S ++ [Cell.lst (ds.map .str)] = S1 at x1 g1
  generalize hl1 : S.length = l at g1
  have h1 := h.ext x1
  refine wp_seq (wp_set (wp_mk gd.told hd (wp_cons (wp_var (by with_unfolding_all exact rfl) (wp_nil ⟨_, rfl, .inr ⟨l, rfl, g1⟩, ext0⟩))) fun t S2 h2 x2 => wp_nx ?_))
  have g2 := x2.get g1 (by simp)
  have x2 := x1.trans x2
  refine wp_seq (wp_if (wp_test (wp_bin (wp_var (by with_unfolding_all exact rfl) (wp_newl (by with_unfolding_all exact rfl) hd ?_)))))
  have x3 : Ext [] S2 (S2 ++ [.lst (ds.map .str)]) := Ext.app _
  have g3 : (S2 ++ [Cell.lst (ds.map .str)])[S2.length]? = some (.lst (ds.map .str)) := get_new _ _
  generalize S2 ++ [Cell.lst (ds.map .str)] = S3 at x3 g3
  have gl3 := x3.get g2 (by simp)
  have t3 : At S3 t ds := x3.get h2 (by simp)
  have x3 := x2.trans x3
  refine wp_ne (eqB_aa gl3 g3 gd.ok gd.ok) (ex_bl ?_)
  rw [decide_eq_true rfl]
  refine ⟨fun z => (by cases z), fun _ => wp_next (wp_nx ?_)⟩
  refine wp_seq (wp_drop (wp_bm (wp_var (by with_unfolding_all exact rfl) ⟨cty_a gl3, wp_cons (wp_c (wp_nil (wp_app0 x3 gl3 (by omega) (by rw [List.length_map]; omega) fun S4 x4 y4 => wp_nx ?_)))⟩)))
  have t4 : At S4 t ds := y4.get t3 (by
    have := ne_cell t3 gl3 (by intro z; cases z)
    simpa using this)
  refine wp_seq (wp_drop (wp_bm (wp_texts (by with_unfolding_all exact rfl) t4 hd ?_)))
  have x5 : Ext [] S4 (S4 ++ [.lst ((sd ds).map .str)]) := Ext.app _
  have g5 : (S4 ++ [Cell.lst ((sd ds).map .str)])[S4.length]? = some (.lst ((sd ds).map .str)) := get_new _ _
  have l4 : S.length ≤ S4.length := x4.1
  generalize S4 ++ [Cell.lst ((sd ds).map .str)] = S5 at x5 g5
  generalize S4.length = l5 at g5 l4
  have t5 := t4.ext x5
  have x5 := x4.trans x5
  refine ⟨cty_a g5, wp_cons (wp_c (wp_nil (wp_app0 x5 g5 l4 (by rw [List.length_map]; omega) fun S6 x6 y6 => wp_nx ?_)))⟩
  have t6 : At S6 t ds := y6.get t5 (by
    have := ne_cell t5 g5 (by intro z; cases z)
    simpa using this)
  refine wp_seq (wp_set (wp_texts (by with_unfolding_all exact rfl) t6 hd (wp_nx ?_)))
  have x7 : Ext [] S6 (S6 ++ [.lst ((sd ds).map .str)]) := Ext.app _
  have g7 : (S6 ++ [Cell.lst ((sd ds).map .str)])[S6.length]? = some (.lst ((sd ds).map .str)) := get_new _ _
  have l6 : S.length ≤ S6.length := x6.1
  generalize S6 ++ [Cell.lst ((sd ds).map .str)] = S7 at x7 g7
  generalize S6.length = l7 at g7 l6
  have t7 := t6.ext x7
  have x7 := x6.trans x7
  refine wp_seq (wp_drop (wp_bm (wp_var (by with_unfolding_all exact rfl) ⟨cty_a g7, wp_nil ?_⟩)))
  show Wp (fClear (.adr l7) [] S7) _
  rw [show fClear (.adr l7) [] S7 = onL S7 (.adr l7) fun n _ => .ok .non (S7.set n (.lst [])) from rfl, onL_s g7]
  have y8 : Ext [l7] S7 (S7.set l7 (.lst [])) := .set (.inl (by simp))
  have x8 : Ext [] S (S7.set l7 (.lst [])) := x7.trans' y8 fun e he => .inr (by rw [List.mem_singleton.mp he]; exact l6)
  have t8 : At (S7.set l7 (.lst [])) t ds := y8.get t7 (by
    have := ne_cell t7 g7 (by intro z; cases z)
    simpa using this)
  generalize S7.set l7 (Cell.lst []) = S8 at x8 t8
  have h8 := h.ext x8
  refine .ok (wp_nx ?_)
  have ds2 : sd ds = sd as := es.symm
  refine wp_ret (wp_andV (wp_call (wp_cons (wp_var (by with_unfolding_all exact rfl) (wp_cons (wp_var (by with_unfolding_all exact rfl) (wp_nil ⟨rfl, is_ok t8 gd hd gd hd (fun _ => Iff.rfl) fun S9 x9 => ⟨_, rfl, fun _ => ?_, fun z => (by cases z)⟩⟩)))))))
  have h9 := h8.ext x9
  have t9 := t8.ext x9
  have x9 := x8.trans x9
  refine wp_andV (wp_bin (wp_var (by with_unfolding_all exact rfl) (wp_var (by with_unfolding_all exact rfl) (wp_eqP t9 h9 gd ga ?_))))
  rw [ds2, decide_eq_true rfl]
  refine ⟨_, rfl, fun _ => ?_, fun z => (by cases z)⟩
  refine wp_andV (wp_bin (wp_var (by with_unfolding_all exact rfl) (wp_var (by with_unfolding_all exact rfl) (wp_eqP h9 t9 ga gd ?_))))
  rw [ds2, decide_eq_true rfl]
  refine ⟨_, rfl, fun _ => ?_, fun z => (by cases z)⟩
  refine wp_notV (wp_bin (wp_var (by with_unfolding_all exact rfl) (wp_var (by with_unfolding_all exact rfl) (wp_eqP t9 h9 gd ga ?_))))
  rw [ds2, decide_eq_true rfl]
  exact ⟨_, rfl, fq_rt (q S9 x9)⟩
end
set_option maxHeartbeats 1000000
theorem okS_app {a b : Str} (h : okS a) (g : okS b) : okS (a ++ b) := fun c hc => by
  rw [sg_app] at hc
  exact (List.mem_append.mp hc).elim (h c) (g c)
theorem okS_lit {s : Str} (h : ((sg s).all fun c => decide (c < 1114112)) = true) : okS s := fun c hc => of_decide_eq_true (List.all_eq_true.mp h c hc)
theorem nm_okS {a : Str} (h : nameB a = true) : okS a := fun c hc => by
  have h1 := of_decide_eq_true (nm_isL h c hc)
  have h2 : ((sg alpha).all fun c => decide (c < 1114112)) = true := by decide +kernel
  exact of_decide_eq_true (List.all_eq_true.mp h2 c h1)
theorem nm_hd {a r : Str} (h : nameB a = true) : ∃ c, (sg (a ++ r)).head? = some c ∧ isL c = true := by
  cases hs : sg a with
  | nil =>
    have : a = "" := sg_inj hs
    subst this
    exact absurd h (by decide +kernel)
  | cons c t =>
    exact ⟨c, by rw [sg_app, hs]; rfl, nm_isL h c (by rw [hs]; exact List.mem_cons_self)⟩
theorem last_app {a z : Str} (hz : (sg z).getLast? ≠ none ∧ (sg z).getLast? ≠ some 46) : (sg (a ++ z)).getLast? ≠ some 46 := by
  rw [sg_app, List.getLast?_append]
  cases hq : (sg z).getLast? with
  | none => exact absurd hq hz.1
  | some c =>
    rw [hq] at hz
    exact hz.2
theorem nm_last2 {x : Str} (h : nameB x = true) : (sg x).getLast? ≠ none ∧ (sg x).getLast? ≠ some 46 := by
  refine ⟨(nm_last h).1, fun z => ?_⟩
  exact absurd rfl (nm_no2 h 46 (List.mem_of_getLast? z)).1
theorem good_pt {a b c : Str} (ha : nameB a = true) (hb : nameB b = true) (hc : nameB c = true) : ∀ t ∈ goodT a b c, Pt t := fun t ht => by
  have oa := nm_okS ha
  have ob := nm_okS hb
  have oc := nm_okS hc
  have o1 : okS ("." : Str) := okS_lit (by decide +kernel)
  have o2 : okS ("[" : Str) := okS_lit (by decide +kernel)
  have o3 : okS ("]" : Str) := okS_lit (by decide +kernel)
  have o4 : okS ("(" : Str) := okS_lit (by decide +kernel)
  have o5 : okS (")" : Str) := okS_lit (by decide +kernel)
  refine ⟨good_all ha hb hc t ht, good_len ha hb hc t ht, ?_, ?_, ?_⟩
  all_goals simp only [goodT, List.mem_cons, List.not_mem_nil, or_false] at ht
  · rcases ht with rfl | rfl | rfl | rfl
    · exact okS_app (okS_app oa o1) ob
    · exact okS_app (okS_app (okS_app (okS_app oa o1) ob) o1) oc
    · exact okS_app (okS_app (okS_app (okS_app (okS_app oa o1) ob) o2) oc) o3
    · exact okS_app (okS_app (okS_app (okS_app (okS_app oa o1) ob) o4) oc) o5
  · have e1 : ∀ x y : Str, (a ++ x) ++ y = a ++ (x ++ y) := fun x y => sg_inj (by simp [sg_app])
    rcases ht with rfl | rfl | rfl | rfl <;> (simp only [e1]; exact nm_hd ha)
  · rcases ht with rfl | rfl | rfl | rfl
    · exact last_app (nm_last2 hb)
    · exact last_app (nm_last2 hc)
    · exact last_app (by decide +kernel)
    · exact last_app (by decide +kernel)
section
variable {n K l : Nat} {fs : List (Nat × Cell)} {S : Sto} {Q : IV → Sto → Prop} {ws : List Str}
theorem wp_par3 {Λ : Slots} {i j l : Nat} {ma : IA} {Q : Fl → Sto → Prop} (h : Wp (ma Λ S) fun xs S1 => ∃ x y z : IV, xs = [x, y, z] ∧ Q (.nx (((Λ.set i (some x)).set j (some y)).set l (some z))) S1) : Wp (iPar3 i j l ma Λ S) Q := .bind (h.imp fun _ _ ⟨x, y, z, e, q⟩ => by rw [e]; exact .ok q)
theorem name_of (h : Hd n K fs S) (hK : K ≤ 1000000) (hm : (l, Cell.lst (ws.map IV.str)) ∈ fs) (h0 : ws ≠ []) (h1 : ws.length ≤ 1000) (q : ∀ (a : Str) S', a ∈ ws → Hd n (K + 1) fs S' → Q (.str a) S') : Wp (m__law_of [.adr n, .adr l] S) Q :=
  of_ok h hK (.inr ⟨l, rfl, hm⟩) (fun z => h0 (List.map_eq_nil_iff.mp z)) (by rw [List.length_map]; omega) fun v S' hv h => by
    obtain ⟨a, ha, rfl⟩ := List.mem_map.mp hv
    exact q a S' ha h
theorem pool_ok (h : Hd n K [] S) (hK : K ≤ 100000) (q : ∀ (l : Nat) (ts : List Str) (S' : Sto), Pts ts → ts.length = 8 → Hd n (K + 200) [(l, .lst (ts.map IV.str))] S' → Q (.adr l) S') : Wp (m__law_pool [.adr n] S) Q := by
  have hsz := szL
  refine wd__law_pool ?_
  unfold b__law_pool
  refine wp_seq (wp_par (wp_cons (wp_call (wp_cons (wp_var (by with_unfolding_all exact rfl) (wp_cons (wp_c (wp_cons (wp_c (wp_nil ⟨rfl, names_ok 12 (by decide) h (by omega) fun l ws S hw hl h => ?_⟩))))))))))
  have h0 : ws ≠ [] := fun z => by rw [z] at hl; cases hl
  have h1 : ws.length ≤ 1000 := by omega
  refine wp_cons (wp_lst (wp_nil (wp_mkt h ⟨Nat.zero_le _, fun p S h => wp_nil ⟨_, _, rfl, wp_nx ?_⟩⟩)))
  refine wp_seq (wp_forK (wp_range (wp_c ⟨_, rfl, ⟨by omega, by omega⟩, ?_⟩)))
  refine wp_it (k := none) (List.range 8) (fun i : Nat => IV.int i) (fun i Λ S => ∃ (t a b c f : Option IV) (ts : List Str), Λ = [some (.adr n), some (.adr l), some (.adr p), t, a, b, c, f] ∧ ts.length = i ∧ Pts ts ∧ Hd n (K + 120 + 4 * i) [(p, .lst (ts.map IV.str)), (l, .lst (ws.map IV.str))] S) ⟨none, none, none, none, none, [], rfl, rfl, fun _ z => (by cases z), h⟩ stay_n ?_ ?_
  · rintro i Λ S k hk ⟨t, a, b, c, f, ts, rfl, hlt, hts, h⟩
    have hi := (rg_some hk).2
    have hm : (l, Cell.lst (ws.map IV.str)) ∈ [(p, Cell.lst (ts.map IV.str)), (l, Cell.lst (ws.map IV.str))] := by simp
    refine wp_name (wp_seq (wp_par3 (wp_cons (wp_call (wp_cons (wp_var (by with_unfolding_all exact rfl) (wp_cons (wp_var (by with_unfolding_all exact rfl) (wp_nil ⟨rfl, name_of h (by omega) hm h0 h1 fun a S ha h => ?_⟩)))))))))
    refine wp_cons (wp_call (wp_cons (wp_var (by with_unfolding_all exact rfl) (wp_cons (wp_var (by with_unfolding_all exact rfl) (wp_nil ⟨rfl, name_of h (by omega) hm h0 h1 fun b S hb h => ?_⟩))))))
    refine wp_cons (wp_call (wp_cons (wp_var (by with_unfolding_all exact rfl) (wp_cons (wp_var (by with_unfolding_all exact rfl) (wp_nil ⟨rfl, name_of h (by omega) hm h0 h1 fun c S hc h => ?_⟩))))))
    refine wp_nil ⟨_, _, _, rfl, wp_nx ?_⟩
    have ha := hw a ha
    have hb := hw b hb
    have hc := hw c hc
    have la := nm8 ha
    have lb := nm8 hb
    have lc := nm8 hc
    refine wp_seq (wp_set ?_)
    decreasing_tactic
    refine of_ok (xs := (goodT a b c).map .str) h (by omega) (.inl rfl) (by simp [goodT]) (by simp [goodT]) fun v S' hv h => ?_
    obtain ⟨t, ht, rfl⟩ := List.mem_map.mp hv
    refine ⟨n, _, _, 0, _, h, rfl, ⟨by rw [List.length_map]; omega, fun S' h => lq_nx ⟨_, _, _, _, _, ts ++ [t], rfl, by rw [List.length_append, hlt]; rfl, fun x hx => ?_, ?_⟩⟩⟩
    · rcases List.mem_append.mp hx with hx | hx
      · exact hts x hx
      · rw [List.mem_singleton.mp hx]; exact good_pt ha hb hc t ht
    · rw [List.map_append]
      exact h.up (by omega)
  · rintro Λ S ⟨t, a, b, c, f, ts, rfl, hlt, hts, h⟩
    rw [rg_len] at hlt h
    exact wp_nx (wp_ret (wp_var (by with_unfolding_all exact rfl) (fq_rt (q p ts S hts hlt (h.snd.up (by omega))))))
theorem drawn_ok {ps : List Str} (h : Hd n K fs S) (hK : K ≤ 900000) (hm : (l, Cell.lst (ps.map IV.str)) ∈ fs) (h0 : ps ≠ []) (h1 : ps.length ≤ 1000) (q : ∀ (ts : List Str) (S' : Sto), (∀ t ∈ ts, t ∈ ps) → ts.length ≤ 9 → Hd n (K + 20) fs S' → Q (.lst (ts.map .str)) S') : Wp (m__law_drawn [.adr n, .adr l] S) Q := by
  have hsz := szL
  refine wd__law_drawn ?_
  unfold b__law_drawn
  refine wp_ret (wp_lcX (fun i : Nat => IV.int i) (wp_range (wp_call (wp_cons (wp_var (by with_unfolding_all exact rfl) (wp_cons (wp_c (wp_nil ⟨rfl, wp_drawK h (by omega) (by omega) (by omega) fun r S h r0 r1 => ⟨_, rfl, ⟨by omega, by omega⟩, ?_⟩⟩))))))))
  refine ⟨List.range r.toNat, none, fun i S acc => Hd n (K + 1 + i) fs S ∧ ∃ ts : List Str, acc = ts.map IV.str ∧ ts.length = i ∧ ∀ t ∈ ts, t ∈ ps, rfl, ⟨h, [], rfl, rfl, fun _ z => (by cases z)⟩, fun _ _ _ _ => trivial, ?_, by rw [rg_len]; omega, ?_⟩
  · rintro i S acc a ha ⟨h, ts, rfl, hl, ht⟩
    have hi := (rg_some ha).2
    refine ⟨_, rfl, wp_yes ⟨fun _ => ?_, fun z => (by cases z)⟩⟩
    refine wp_call (wp_cons (wp_var (by with_unfolding_all exact rfl) (wp_cons (wp_var (by with_unfolding_all exact rfl) (wp_nil ⟨rfl, name_of h (by omega) hm h0 h1 fun t S ht' h => ⟨h.up (by omega), ts ++ [t], by rw [List.map_append]; rfl, by rw [List.length_append, hl]; rfl, fun x hx => ?_⟩⟩)))))
    rcases List.mem_append.mp hx with hx | hx
    · exact ht x hx
    · rw [List.mem_singleton.mp hx]; exact ht'
  · rintro S acc ⟨h, ts, rfl, hl, ht⟩
    rw [rg_len] at hl h
    exact wp_mkf ⟨by rw [List.length_map]; omega, fq_rt (q ts S ht (by omega) (h.up (by omega)))⟩
end
set_option maxHeartbeats 1000000
theorem canLay_bls : ∀ bs : List Bool, PyData.canLayAll0 (bs.map PyData.bool) = true
  | [] => by simp [PyData.canLayAll0]
  | b :: bs => by
    show PyData.canLayAll0 (.bool b :: bs.map PyData.bool) = true
    rw [PyData.canLayAll0, PyData.canLay0, canLay_bls bs]
    rfl
theorem depth_bls : ∀ bs : List Bool, PyData.depthAll (bs.map PyData.bool) = 0
  | [] => by simp [PyData.depthAll]
  | b :: bs => by
    show PyData.depthAll (.bool b :: bs.map PyData.bool) = 0
    rw [PyData.depthAll, PyData.depth, depth_bls bs]
    rfl
theorem eqv_bls : ∀ bs : List Bool, PyData.eqvAll (bs.map PyData.bool) (bs.map PyData.bool) = true
  | [] => by simp [PyData.eqvAll]
  | b :: bs => by
    show PyData.eqvAll (.bool b :: bs.map PyData.bool) (.bool b :: bs.map PyData.bool) = _
    rw [PyData.eqvAll, eqv_bls bs]
    cases b <;> simp [PyData.eqv]
theorem viewL_bls {f : IV → Option PyData} (hf : ∀ b, f (.bl b) = some (.bool b)) : ∀ bs : List Bool, viewL f (bs.map IV.bl) = some (bs.map PyData.bool)
  | [] => rfl
  | b :: bs => by
    show viewL f (.bl b :: bs.map IV.bl) = _
    unfold viewL
    rw [hf, viewL_bls hf bs]
    rfl
theorem eqB_bls {S : Sto} (bs : List Bool) : eqB S (.lst (bs.map IV.bl)) (.lst (bs.map IV.bl)) = some true := by
  have v : view 8 S (.lst (bs.map IV.bl)) = some (.list (bs.map PyData.bool)) := by
    show (viewL (view 7 S) (bs.map IV.bl)).map PyData.list = _
    rw [viewL_bls fun s => rfl]
    rfl
  have sh : SeqAt.shaped (.list (bs.map PyData.bool)) = true := by
    unfold SeqAt.shaped
    rw [PyData.canLay0, PyData.depth, canLay_bls, depth_bls]
    rfl
  rw [eqB_lst v v sh sh, PyData.eqv, eqv_bls]
section
variable {S : Sto} {Λ : Slots} {o p l : Nat} {as bs fs gs ds : List Str} {Q : IV → Sto → Prop}
theorem wp_clsm {a b : Nat} {ma : IA} {mb : IE} (h : Wp (ma Λ S) fun xs S1 => Chk (a ≤ xs.length ∧ xs.length ≤ sizeLine) (Wp (mb (cSlots a b xs) S1) Q)) : Wp (iClsm a b mb ma Λ S) Q := .bind (h.imp fun xs S1 h => wp_chk ⟨h.l, by
  obtain ⟨a, S', e, q⟩ := h.r
  unfold cDef
  rw [e]
  exact .ok q⟩)
theorem wp_ofP {ma : IA} {ts : List Str} (ht : ∀ t ∈ ts, Told true (.str t)) (hl : ts.length ≤ 60) (hm : Wp (ma Λ S) fun xs S1 => xs = ts.map .str ∧ S1 = S) (q : ∀ o S', At S' o ts → Ext [] S S' → Q (.adr o) S') : Wp (iClsm 0 0 b_Places_of ma Λ S) Q := by
  have hsz := szL
  refine wp_clsm (hm.imp fun xs S1 ⟨e1, e2⟩ => ?_)
  subst e1 e2
  refine ⟨⟨Nat.zero_le _, by rw [List.length_map]; omega⟩, ?_⟩
  unfold b_Places_of
  refine wp_mk (ts := ts) ht hl (wp_cons (wp_ca (wp_cons (wp_var (x := .tup (ts.map .str)) rfl (wp_nil ?_))))) q
  exact wp_orBad (k := fun (xs : List IV) => mkL false xs S1) (show seqOf S1 (.tup (ts.map .str)) = some _ from rfl) (wp_mkf ⟨by rw [List.length_map]; omega, wp_nil ⟨_, rfl, .inl rfl, ext0⟩⟩)
theorem wp_isC {mo md : IE} (h : Wp (mo Λ S) fun x S1 => ∃ (o : Nat) (as : List Str), x = .adr o ∧ At S1 o as ∧ Pts as ∧ as.length ≤ 60 ∧ Wp (md Λ S1) fun y S2 => ∃ ds : List Str, y = .lst (ds.map .str) ∧ S2 = S1 ∧ Pts ds ∧ ds.length ≤ 60 ∧ (∀ x, x ∈ as ↔ x ∈ ds) ∧ ∀ S', Ext [] S1 S' → Q (.bl true) S') :
    Wp (iCall 2 m__law_is (iCons mo (iCons md iNil)) Λ S) Q :=
  wp_call (wp_cons (h.imp fun x S1 ⟨o, as, e1, ho, ga, ha, h⟩ => wp_cons (h.imp fun y S2 ⟨ds, e2, e3, gd, hd, e, q⟩ => by
    subst e1 e2 e3
    exact wp_nil ⟨rfl, is_ok ho ga ha gd hd e q⟩)))
theorem wp_binP {mf : List IV → Sto → Out IV} (h : At S o as) (g : At S p bs) (hf : Wp (mf [.adr o, .adr p] S) fun v S' => ∃ r, v = .adr r ∧ Q (.adr r) S') : Wp (fBinO "Places" mf (.adr o) (.adr p) S) Q := by
  show Wp (onI S "Places" (.adr o) fun _ _ => onI S "Places" (.adr p) fun _ _ => (noX (mf [.adr o, .adr p] S)).bind fun v S2 => match v with | .adr n => .ok (.adr n) S2 | _ => .bad) Q
  rw [onI_s h, onI_s g]
  obtain ⟨v, S', e, r, rfl, q⟩ := hf
  rw [e]
  exact .ok q
theorem any_false {α : Type} (l : List α) : (l.map fun _ => false).any id = false := by simp
theorem wp_anyF {ys : List IV} {α : Type} (as : List α) (e : ys = as.map fun _ => IV.bl false) (q : Q (.bl false) S) : Wp (fAny [.lst ys] S) Q := by
  subst e
  refine wp_orBad (k := fun ys => orBad (blsOf ys) fun bs => Out.ok (IV.bl (bs.any id)) S) (show lstX S (.lst _) = some _ from rfl) ?_
  rw [blsOf_map (fun _ => false) as, orBad_some, any_false]
  exact .ok q
theorem wp_allB {α : Type} {as : List α} {f : α → Bool} (q : Q (.bl (as.all f)) S) : Wp (fAll [.lst (as.map fun x => .bl (f x))] S) Q := by
  refine wp_orBad (k := fun ys => orBad (blsOf ys) fun bs => Out.ok (IV.bl (bs.all id)) S) (show lstX S (.lst _) = some _ from rfl) ?_
  rw [blsOf_map f as, orBad_some, List.all_map]
  exact .ok q
structure Odd (S : Sto) (fs : List Str) (v : IV) : Prop where
  ty : ∃ ty, tyN S v = some ty ∧ ty ∈ six ∧ ((ty = "str" ∧ ∃ s, v = .str s) ∨ kitN ty "str" = some false)
  no : inV fs v = false
def oddV (fs : List Str) (p0 : Str) : List IV := [.non, .int 0, .bl true, .str "", .lst [], .tup [], .lst (fs.map .str), .tup (fs.map .str), .str (p0 ++ "."), .str (("(" ++ p0) ++ ")"), .tup [.str p0]]
theorem odd_all {p0 : Str} (gf : Pts fs) : ∀ v ∈ oddV fs p0, Odd S fs v := by
  intro v hv
  have n1 : ("" : Str) ∉ fs := fun h => by
    obtain ⟨c, hc, _⟩ := (gf _ h).hd
    rw [sg_s17] at hc
    cases hc
  have n2 : p0 ++ "." ∉ fs := fun h => (gf _ h).lst (by rw [sg_app, sg_dot, List.getLast?_append]; rfl)
  have n3 : ("(" ++ p0) ++ ")" ∉ fs := fun h => by
    obtain ⟨c, hc, hl⟩ := (gf _ h).hd
    have : c = 40 := by
      rw [sg_app, sg_app, sg_s1] at hc
      exact (Option.some.inj hc).symm
    subst this
    revert hl
    decide +kernel
  simp only [oddV, List.mem_cons, List.not_mem_nil, or_false] at hv
  rcases hv with rfl | rfl | rfl | rfl | rfl | rfl | rfl | rfl | rfl | rfl | rfl
  · exact ⟨⟨_, rfl, by decide, .inr (by decide +kernel)⟩, rfl⟩
  · exact ⟨⟨_, rfl, by decide, .inr (by decide +kernel)⟩, rfl⟩
  · exact ⟨⟨_, rfl, by decide, .inr (by decide +kernel)⟩, rfl⟩
  · exact ⟨⟨_, rfl, by decide, .inl ⟨rfl, _, rfl⟩⟩, decide_eq_false n1⟩
  · exact ⟨⟨_, rfl, by decide, .inr (by decide +kernel)⟩, rfl⟩
  · exact ⟨⟨_, rfl, by decide, .inr (by decide +kernel)⟩, rfl⟩
  · exact ⟨⟨_, rfl, by decide, .inr (by decide +kernel)⟩, rfl⟩
  · exact ⟨⟨_, rfl, by decide, .inr (by decide +kernel)⟩, rfl⟩
  · exact ⟨⟨_, rfl, by decide, .inl ⟨rfl, _, rfl⟩⟩, decide_eq_false n2⟩
  · exact ⟨⟨_, rfl, by decide, .inl ⟨rfl, _, rfl⟩⟩, decide_eq_false n3⟩
  · exact ⟨⟨_, rfl, by decide, .inr (by decide +kernel)⟩, rfl⟩
theorem wp_tupl {xs : List IV} (hl : xs.length ≤ 1000) (q : Q (.tup xs) S) : Wp (fTuple [.lst xs] S) Q := by
  have hsz := szL
  show Wp (mkT xs S) Q
  exact wp_mkT ⟨by omega, q⟩
end
set_option maxHeartbeats 2000000
section
variable {S : Sto} {Λ : Slots} {o p l : Nat} {as bs fs gs ts : List Str}
structure Drawn (S : Sto) (l o p : Nat) (ts as bs : List Str) : Prop where
  pl : S[l]? = some (.lst (ts.map .str))
  gt : Pts ts
  lt : ts.length = 8
  ga : Pts as
  gb : Pts bs
  la : as.length ≤ 9
  lb : bs.length ≤ 9
  ao : At S o as
  bo : At S p bs
theorem Drawn.ext {S' : Sto} (h : Drawn S l o p ts as bs) (x : Ext [] S S') : Drawn S' l o p ts as bs := ⟨x.get h.pl (by simp), h.gt, h.lt, h.ga, h.gb, h.la, h.lb, h.ao.ext x, h.bo.ext x⟩
theorem Pts.app (h : Pts as) (g : Pts bs) : Pts (as ++ bs) := fun t ht => (List.mem_append.mp ht).elim (h t) (g t)
theorem Pts.flt {f : Str → Bool} (h : Pts as) : Pts (as.filter f) := fun t ht => h t (List.mem_filter.mp ht).1
theorem Pts.nil : Pts [] := fun _ z => by cases z
theorem flt9 {f : Str → Bool} (h : as.length ≤ 9) : (as.filter f).length ≤ 60 := by
  have := List.length_filter_le f as
  omega
theorem sd9 (h : as.length ≤ 9) : (sd as).length ≤ 9 := Nat.le_trans (sd_len as) h
theorem m_or (x : Str) : x ∈ sd as ++ sd bs ↔ x ∈ as ++ bs := by simp only [List.mem_append, sd_mem]
theorem m_and (x : Str) : x ∈ ((sd as).filter fun x => decide (x ∈ sd bs)) ↔ x ∈ as.filter fun x => decide (x ∈ bs) := by simp only [List.mem_filter, sd_mem, decide_eq_true_eq]
theorem m_sub (x : Str) : x ∈ ((sd as).filter fun x => !decide (x ∈ sd bs)) ↔ x ∈ as.filter fun x => !decide (x ∈ bs) := by simp only [List.mem_filter, sd_mem, Bool.not_eq_true', decide_eq_false_iff_not]
theorem m_self (x : Str) : x ∈ ((sd as).filter fun x => !decide (x ∈ sd as)) ↔ x ∈ ([] : List Str) := by
  rw [List.mem_filter]
  exact ⟨fun ⟨h, g⟩ => (by rw [decide_eq_true h] at g; cases g), fun z => (by cases z)⟩
theorem wp_lsl {i : Nat} {xs : List IV} {Q : List IV → Sto → Prop} (h : Λ[i]? = some (some (.lst xs))) (hl : xs.length ≤ 1000) (q : Q [.lst xs] S) : Wp (iCons (iCa (fList false) (iCons (iVar i) iNil)) iNil Λ S) Q := by
  have hsz := szL
  exact wp_cons (wp_ca (wp_cons (wp_var h (wp_nil (wp_orBad (k := fun xs => mkL false xs S) (show seqOf S (.lst xs) = some xs from rfl) (wp_mkf ⟨by omega, wp_nil q⟩))))))
theorem wp_add2 {i j : Nat} {Q : IV → Sto → Prop} (hi : Λ[i]? = some (some (.lst (as.map .str)))) (hj : Λ[j]? = some (some (.lst (bs.map .str)))) (ha : as.length ≤ 9) (hb : bs.length ≤ 9) (q : Q (.lst ((as ++ bs).map .str)) S) : Wp (iBin fAdd (iVar i) (iVar j) Λ S) Q := by
  have hsz := szL
  refine wp_bin (wp_var hi (wp_var hj (wp_addl ⟨by rw [List.length_append, List.length_map, List.length_map]; omega, ?_⟩)))
  rw [← List.map_append]
  exact q
theorem wp_flt {i j k : Nat} {Λ : Slots} {Q : IV → Sto → Prop} (hi : Λ[i]? = some (some (.lst (as.map .str)))) (hj : ∀ x, ((wipeI Λ [k]).set k (some x))[j]? = some (some (.lst (bs.map .str)))) (hk : ∀ x, ((wipeI Λ [k]).set k (some x))[k]? = some (some x)) (ha : as.length ≤ 9) (q : Q (.lst ((as.filter fun x => decide (x ∈ bs)).map .str)) S) :
    Wp (iLc false (iSrcL (iVar i)) (giN k) (iTest (iBin fIn (iVar k) (iVar j))) (iVar k) [k] Λ S) Q := by
  have hsz := szL
  refine wp_lcm as IV.str (fun x => decide (x ∈ bs)) IV.str (k := none) (wp_srcL (wp_var hi (srcL_l ⟨rfl, rfl⟩))) trivial (fun x hx => ⟨_, rfl, wp_test (wp_bin (wp_var (hk _) (wp_var (hj _) (wp_in (inB_lst x bs) (ex_bl ⟨rfl, rfl, fun _ => wp_var (hk _) ⟨rfl, rfl⟩⟩)))))⟩) (by omega) (wp_mkf ⟨by rw [List.length_map]; have := flt9 (f := fun x => decide (x ∈ bs)) ha; omega, q⟩)
theorem wp_fltN {i j k : Nat} {Λ : Slots} {Q : IV → Sto → Prop} (hi : Λ[i]? = some (some (.lst (as.map .str)))) (hj : ∀ x, ((wipeI Λ [k]).set k (some x))[j]? = some (some (.lst (bs.map .str)))) (hk : ∀ x, ((wipeI Λ [k]).set k (some x))[k]? = some (some x)) (ha : as.length ≤ 9) (q : Q (.lst ((as.filter fun x => !decide (x ∈ bs)).map .str)) S) :
    Wp (iLc false (iSrcL (iVar i)) (giN k) (iTest (iBin fNotIn (iVar k) (iVar j))) (iVar k) [k] Λ S) Q := by
  have hsz := szL
  refine wp_lcm as IV.str (fun x => !decide (x ∈ bs)) IV.str (k := none) (wp_srcL (wp_var hi (srcL_l ⟨rfl, rfl⟩))) trivial (fun x hx => ⟨_, rfl, wp_test (wp_bin (wp_var (hk _) (wp_var (hj _) (wp_notin (inB_lst x bs) (ex_bl ⟨rfl, rfl, fun _ => wp_var (hk _) ⟨rfl, rfl⟩⟩)))))⟩) (by omega) (wp_mkf ⟨by rw [List.length_map]; have := flt9 (f := fun x => !decide (x ∈ bs)) ha; omega, q⟩)
theorem is_var {i j : Nat} {ds : List Str} {Q : IV → Sto → Prop} (hi : Λ[i]? = some (some (.adr o))) (hj : Λ[j]? = some (some (.lst (ds.map .str)))) (h : At S o as) (ga : Pts as) (ha : as.length ≤ 60) (gd : Pts ds) (hd : ds.length ≤ 60) (e : ∀ x, x ∈ as ↔ x ∈ ds) (q : ∀ S', Ext [] S S' → Q (.bl true) S') : Wp (iCall 2 m__law_is (iCons (iVar i) (iCons (iVar j) iNil)) Λ S) Q :=
  wp_isC (wp_var hi ⟨o, as, rfl, h, ga, ha, wp_var hj ⟨ds, rfl, rfl, gd, hd, e, q⟩⟩)
theorem all_flt : (as.all fun x => decide (x ∈ bs)) = decide ((as.filter fun x => !decide (x ∈ bs)) = []) := by
  rw [Bool.eq_iff_iff, List.all_eq_true, decide_eq_true_eq, List.filter_eq_nil_iff]
  exact ⟨fun h x hx => by rw [h x hx]; decide, fun h x hx => by have := h x hx; simpa using this⟩
end
set_option maxHeartbeats 4000000
section
variable {S : Sto} {Λ : Slots} {n K l o p : Nat} {as bs ts : List Str}
theorem odd_any {fs : List Str} {vs : List IV} {k j : Nat} {Q : IV → Sto → Prop} (hj : ∀ x, ((wipeI Λ [k]).set k (some x))[j]? = some (some (.adr o))) (hk : ∀ x, ((wipeI Λ [k]).set k (some x))[k]? = some (some x)) {i : Nat} (hi : Λ[i]? = some (some (.lst vs))) (h : At S o fs) (hv : ∀ v ∈ vs, Odd S fs v) (hl : vs.length ≤ 100) (q : Q (.bl false) S) :
    Wp (iCa fAny (iCons (iLc false (iSrcL (iVar i)) (giN k) iYes (iBin (fInO "Places" m_Places___contains__ false) (iVar k) (iVar j)) [k]) iNil) Λ S) Q := by
  have hsz := szL
  refine wp_ca (wp_cons (wp_lcm vs id (fun _ => true) (fun v => .bl (inV fs v)) (k := none) (wp_srcL (wp_var hi (srcL_l ⟨by rw [List.map_id], rfl⟩))) trivial (fun v hv' => ⟨_, rfl, wp_yes ⟨rfl, rfl, fun _ => ?_⟩⟩) (by omega) ?_))
  · obtain ⟨ty, h1, h6, h2⟩ := (hv v hv').ty
    exact wp_bin (wp_var (hk _) (wp_var (hj _) (wp_inP h h1 h2 ⟨rfl, rfl⟩)))
  · rw [List.filter_eq_self.mpr fun _ _ => rfl]
    refine wp_mkf ⟨by rw [List.length_map]; omega, wp_nil (wp_anyF vs ?_ q)⟩
    exact List.map_congr_left fun v hv' => by rw [(hv v hv').no]
theorem ne_any {vs : List IV} {k j : Nat} {m : IE} {Q : IV → Sto → Prop} (hj : ∀ x, ((wipeI Λ [k]).set k (some x))[j]? = some (some (.adr o))) (hk : ∀ x, ((wipeI Λ [k]).set k (some x))[k]? = some (some x)) (hm : Wp (m Λ S) fun x S1 => x = .lst vs ∧ At S1 o as ∧ (∀ v ∈ vs, ∃ ty, tyN S1 v = some ty ∧ ty ∈ six) ∧ Q (.bl false) S1) (hl : vs.length ≤ 100) :
    Wp (iCa fAny (iCons (iLc false (iSrcL m) (giN k) iYes (iBin (fCmpO "Places" m_Places___eq__ false) (iVar j) (iVar k)) [k]) iNil) Λ S) Q := by
  have hsz := szL
  obtain ⟨x, S1, e, rfl, h, ht, q⟩ := hm
  refine wp_ca (wp_cons ?_)
  have e2 : iLc false (iSrcL m) (giN k) iYes (iBin (fCmpO "Places" m_Places___eq__ false) (iVar j) (iVar k)) [k] Λ S = iLc false (iSrcL (iC (.lst vs))) (giN k) iYes (iBin (fCmpO "Places" m_Places___eq__ false) (iVar j) (iVar k)) [k] Λ S1 := by
    unfold iLc iSrcL
    rw [e]
    rfl
  rw [e2]
  refine wp_lcm vs id (fun _ => true) (fun v => .bl false) (k := none) (wp_srcL (wp_c (srcL_l ⟨by rw [List.map_id], rfl⟩))) trivial (fun v hv' => ⟨_, rfl, wp_yes ⟨rfl, rfl, fun _ => ?_⟩⟩) (by omega) ?_
  · obtain ⟨ty, h1, h6⟩ := ht v hv'
    exact wp_bin (wp_var (hj _) (wp_var (hk _) (wp_eqN h h1 h6 ⟨rfl, rfl⟩)))
  · rw [List.filter_eq_self.mpr fun _ _ => rfl]
    exact wp_mkf ⟨by rw [List.length_map]; omega, wp_nil (wp_anyF vs rfl q)⟩
theorem wp_pi {i : Nat} {j : Nat} {x : Str} {Q : IV → Sto → Prop} (hi : Λ[i]? = some (some (.adr l))) (g : S[l]? = some (.lst (ts.map .str))) (e : ts[j]? = some x) (q : Q (.str x) S) : Wp (iBin fIx (iVar i) (iC (.int (j : Nat))) Λ S) Q := by
  refine wp_bin (wp_var hi (wp_c (wp_ixa g ?_ q)))
  refine atI_n ?_
  rw [List.getElem?_map, e]
  rfl
theorem right_ok {Q : IV → Sto → Prop} (h : Hd n K [] S) (hK : K ≤ 100000) (q : ∀ S', Q (.bl true) S') : Wp (m__law_right [.adr n] S) Q := by
  have hsz := szL
  refine wd__law_right ?_
  unfold b__law_right
  refine wp_seq (wp_set (wp_call (wp_cons (wp_var (by with_unfolding_all exact rfl) (wp_nil ⟨rfl, pool_ok h hK fun l ts S gt lt h => wp_nx ?_⟩)))))
  have t0 : ts ≠ [] := fun z => by rw [z] at lt; cases lt
  have t1 : ts.length ≤ 1000 := by omega
  refine wp_seq (wp_asg (wp_tup (wp_cons (wp_call (wp_cons (wp_var (by with_unfolding_all exact rfl) (wp_cons (wp_var (by with_unfolding_all exact rfl) (wp_nil ⟨rfl, drawn_ok h (by omega) List.mem_cons_self t0 t1 fun as S ha la h => ?_⟩)))))))))
  refine wp_cons (wp_call (wp_cons (wp_var (by with_unfolding_all exact rfl) (wp_cons (wp_var (by with_unfolding_all exact rfl) (wp_nil ⟨rfl, drawn_ok h (by omega) List.mem_cons_self t0 t1 fun bs S hb lb h => ?_⟩))))))
  have ga : Pts as := fun t ht => gt t (ha t ht)
  have gb : Pts bs := fun t ht => gt t (hb t ht)
  have pl := h.get (l, _) List.mem_cons_self
  refine wp_nil (wp_mkT ⟨by show 2 ≤ _; omega, wp_gtup ⟨rfl, wp_gcons (wp_name (wp_gcons (wp_name (wp_gnil (wp_nx ?_)))))⟩⟩)
  refine wp_seq (wp_asg (wp_tup (wp_cons (wp_mk ga.told (by omega) (wp_lsl (by with_unfolding_all exact rfl) (by rw [List.length_map]; omega) ⟨_, rfl, .inl rfl, ext0⟩) fun o S ao xo => ?_))))
  have pl := xo.get pl (by simp)
  refine wp_cons (wp_mk gb.told (by omega) (wp_lsl (by with_unfolding_all exact rfl) (by rw [List.length_map]; omega) ⟨_, rfl, .inl rfl, ext0⟩) fun p S bo xp => ?_)
  have d : Drawn S l o p ts as bs := ⟨xp.get pl (by simp), gt, lt, ga, gb, la, lb, At.ext ao xp, bo⟩
  refine wp_nil (wp_mkT ⟨by show 2 ≤ _; omega, wp_gtup ⟨rfl, wp_gcons (wp_name (wp_gcons (wp_name (wp_gnil (wp_nx ?_)))))⟩⟩)
  refine wp_seq (wp_set (wp_flt (as := as) (bs := bs) (by with_unfolding_all exact rfl) (fun _ => by with_unfolding_all exact rfl) (fun _ => by with_unfolding_all exact rfl) la (wp_nx ?_)))
  refine wp_seq (wp_set (wp_fltN (as := as) (bs := bs) (by with_unfolding_all exact rfl) (fun _ => by with_unfolding_all exact rfl) (fun _ => by with_unfolding_all exact rfl) la (wp_nx ?_)))
  have gB : Pts (as.filter fun x => decide (x ∈ bs)) := ga.flt
  have gL : Pts (as.filter fun x => !decide (x ∈ bs)) := ga.flt
  have lB := flt9 (f := fun x => decide (x ∈ bs)) la
  have lL := flt9 (f := fun x => !decide (x ∈ bs)) la
  have sA := sd9 la
  have sB := sd9 lb
  have l2 : (as ++ bs).length ≤ 60 := by rw [List.length_append]; omega
  have l3 : (sd as ++ sd bs).length ≤ 60 := by rw [List.length_append]; omega
  have l4 : (sd bs ++ sd as).length ≤ 60 := by rw [List.length_append]; omega
  -- first test
  refine wp_seq (wp_if (wp_or (wp_not (wp_tru (is_var (as := as) (ds := as) (by with_unfolding_all exact rfl) (by with_unfolding_all exact rfl) d.ao ga (by omega) ga (by omega) (fun _ => Iff.rfl) fun S x1 => ⟨_, rfl, fun z => (by cases z), fun _ => ?_⟩)))))
  have d := d.ext x1
  refine wp_or (wp_not (wp_tru (is_var (as := bs) (ds := bs) (by with_unfolding_all exact rfl) (by with_unfolding_all exact rfl) d.bo gb (by omega) gb (by omega) (fun _ => Iff.rfl) fun S x1 => ⟨_, rfl, fun z => (by cases z), fun _ => ?_⟩)))
  have d := d.ext x1
  refine wp_not (wp_tru (wp_call (wp_cons (wp_var (by with_unfolding_all exact rfl) (wp_cons (wp_var (by with_unfolding_all exact rfl) (wp_nil ⟨rfl, apart_ok d.ao ga (by omega) ga (by omega) (fun _ => Iff.rfl) fun S x1 => ⟨_, rfl, fun z => (by cases z), fun _ => wp_next (wp_nx ?_)⟩⟩)))))))
  have d := d.ext x1
  -- second test
  refine wp_seq (wp_if (wp_or (wp_not (wp_tru (wp_isC (wp_bin (wp_var (by with_unfolding_all exact rfl) (wp_var (by with_unfolding_all exact rfl) (wp_binP d.ao d.bo (or_ok d.ao d.bo ga gb (by omega) fun r S hr x1 => ⟨r, rfl, r, _, rfl, hr, ga.sd.app gb.sd, l3, wp_add2 (by with_unfolding_all exact rfl) (by with_unfolding_all exact rfl) la lb ⟨_, rfl, rfl, ga.app gb, l2, m_or, fun S' x2 => ⟨_, rfl, fun z => (by cases z), fun _ => ?_⟩⟩⟩))))))))))
  have d := (d.ext x1).ext x2
  refine wp_or (wp_not (wp_tru (wp_isC (wp_bin (wp_var (by with_unfolding_all exact rfl) (wp_var (by with_unfolding_all exact rfl) (wp_binP d.ao d.bo (and_ok d.ao d.bo ga (by omega) fun r S hr x1 => ⟨r, rfl, r, _, rfl, hr, ga.sd.flt, flt_len (by omega), wp_var (by with_unfolding_all exact rfl) ⟨_, rfl, rfl, gB, lB, m_and, fun S' x2 => ⟨_, rfl, fun z => (by cases z), fun _ => ?_⟩⟩⟩))))))))
  have d := (d.ext x1).ext x2
  refine wp_not (wp_tru (wp_isC (wp_bin (wp_var (by with_unfolding_all exact rfl) (wp_var (by with_unfolding_all exact rfl) (wp_binP d.ao d.bo (sub_ok d.ao d.bo ga (by omega) fun r S hr x1 => ⟨r, rfl, r, _, rfl, hr, ga.sd.flt, flt_len (by omega), wp_var (by with_unfolding_all exact rfl) ⟨_, rfl, rfl, gL, lL, m_sub, fun S' x2 => ⟨_, rfl, fun z => (by cases z), fun _ => wp_next (wp_nx ?_)⟩⟩⟩)))))))
  have d := (d.ext x1).ext x2
  -- third test
  refine wp_seq (wp_if (wp_or (wp_not (wp_tru (wp_isC (wp_bin (wp_var (by with_unfolding_all exact rfl) (wp_var (by with_unfolding_all exact rfl) (wp_binP d.bo d.ao (or_ok d.bo d.ao gb ga (by omega) fun r S hr x1 => ⟨r, rfl, r, _, rfl, hr, gb.sd.app ga.sd, l4, wp_add2 (by with_unfolding_all exact rfl) (by with_unfolding_all exact rfl) la lb ⟨_, rfl, rfl, ga.app gb, l2, fun x => by rw [m_or, List.mem_append, List.mem_append, or_comm], fun S' x2 => ⟨_, rfl, fun z => (by cases z), fun _ => ?_⟩⟩⟩))))))))))
  have d := (d.ext x1).ext x2
  refine wp_or (wp_not (wp_tru (wp_isC (wp_bin (wp_var (by with_unfolding_all exact rfl) (wp_var (by with_unfolding_all exact rfl) (wp_binP d.ao d.ao (sub_ok d.ao d.ao ga (by omega) fun r S hr x1 => ⟨r, rfl, r, _, rfl, hr, ga.sd.flt, flt_len (by omega), wp_lst (wp_nil (wp_mkf ⟨Nat.zero_le _, ⟨[], rfl, rfl, .nil, Nat.zero_le _, m_self, fun S' x2 => ⟨_, rfl, fun z => (by cases z), fun _ => ?_⟩⟩⟩))⟩))))))))
  have d := (d.ext x1).ext x2
  refine wp_not (wp_tru (is_var (as := bs) (ds := bs) (by with_unfolding_all exact rfl) (by with_unfolding_all exact rfl) d.bo gb (by omega) gb (by omega) (fun _ => Iff.rfl) fun S x1 => ⟨_, rfl, fun z => (by cases z), fun _ => wp_next (wp_nx ?_)⟩))
  have d := d.ext x1
  -- the same
  refine wp_seq (wp_set (wp_bin (wp_sd (ds := as) (by with_unfolding_all exact rfl) (by omega) (wp_sd (ds := bs) (by with_unfolding_all exact rfl) (by omega) (wp_eq (eqB_strs ga.sd.ok gb.sd.ok) (wp_nx ?_))))))
  refine wp_seq (wp_if (wp_or (wp_test (wp_bin (wp_bin (wp_var (by with_unfolding_all exact rfl) (wp_var (by with_unfolding_all exact rfl) (wp_eqP d.ao d.bo ga gb (wp_var (by with_unfolding_all exact rfl) (wp_neb (ex_bl ?_)))))))))))
  rw [Bool.bne_false, decide_eq_true rfl]
  refine ⟨fun z => (by cases z), fun _ => wp_test (wp_bin (wp_bin (wp_var (by with_unfolding_all exact rfl) (wp_var (by with_unfolding_all exact rfl) (wp_eqP d.ao d.bo ga gb (wp_var (by with_unfolding_all exact rfl) (wp_eqb (ex_bl ?_))))))))⟩
  rw [decide_eq_false (by cases decide (sd as = sd bs) <;> decide)]
  refine ⟨fun z => (by cases z), fun _ => wp_next (wp_nx ?_)⟩
  -- within
  refine wp_seq (wp_if (wp_or (wp_test (wp_bin (wp_meth (wp_var (by with_unfolding_all exact rfl) ⟨o, _, rfl, d.ao, rfl, wp_cons (wp_var (by with_unfolding_all exact rfl) (wp_nil ⟨rfl, within_ok d.ao d.bo (by omega) (by omega) ?_⟩))⟩))))))
  refine wp_bin (wp_var (by with_unfolding_all exact rfl) (wp_lst (wp_nil (wp_mkf ⟨Nat.zero_le _, wp_eq (eqB_strs (ys := []) gL.ok fun _ z => (by cases z)) (wp_neb (ex_bl ?_))⟩))))
  rw [all_flt, decide_eq_true rfl]
  refine ⟨fun z => (by cases z), fun _ => ?_⟩
  refine wp_test (wp_bin (wp_meth (wp_var (by with_unfolding_all exact rfl) ⟨p, _, rfl, d.bo, rfl, wp_cons (wp_var (by with_unfolding_all exact rfl) (wp_nil ⟨rfl, within_ok d.bo d.ao (by omega) (by omega) ?_⟩))⟩)))
  refine wp_ca (wp_cons (wp_lcm bs IV.str (fun _ => true) (fun x => .bl (decide (x ∈ as))) (k := none) (wp_srcL (wp_var (by with_unfolding_all exact rfl) (srcL_l ⟨rfl, rfl⟩))) trivial (fun x hx => ⟨_, rfl, wp_yes ⟨rfl, rfl, fun _ => wp_bin (wp_var (by with_unfolding_all exact rfl) (wp_var (by with_unfolding_all exact rfl) (wp_in (inB_lst x as) ⟨rfl, rfl⟩)))⟩⟩) (by omega) ?_))
  rw [List.filter_eq_self.mpr fun _ _ => rfl]
  refine wp_mkf ⟨by rw [List.length_map]; omega, wp_nil (wp_allB (wp_neb (ex_bl ?_)))⟩
  rw [decide_eq_true rfl]
  refine ⟨fun z => (by cases z), fun _ => wp_next (wp_nx ?_)⟩
  -- in, over the pool
  refine wp_seq (wp_if (wp_test (wp_bin (wp_lcm ts IV.str (fun _ => true) (fun x => .bl (inV as (.str x))) (k := some l) (wp_srcL (wp_var (by with_unfolding_all exact rfl) (srcL_a d.pl ⟨rfl, rfl⟩))) d.pl (fun x hx => ⟨_, rfl, wp_yes ⟨rfl, rfl, fun _ => wp_bin (wp_var (by with_unfolding_all exact rfl) (wp_var (by with_unfolding_all exact rfl) (wp_inP d.ao rfl (.inl ⟨rfl, _, rfl⟩) ⟨rfl, rfl⟩)))⟩⟩) (by omega) ?_))))
  rw [List.filter_eq_self.mpr fun _ _ => rfl]
  refine wp_mkf ⟨by rw [List.length_map]; omega, ?_⟩
  refine wp_lcm ts IV.str (fun _ => true) (fun x => .bl (decide (x ∈ as))) (k := some l) (wp_srcL (wp_var (by with_unfolding_all exact rfl) (srcL_a d.pl ⟨rfl, rfl⟩))) d.pl (fun x hx => ⟨_, rfl, wp_yes ⟨rfl, rfl, fun _ => wp_bin (wp_var (by with_unfolding_all exact rfl) (wp_var (by with_unfolding_all exact rfl) (wp_in (inB_lst x as) ⟨rfl, rfl⟩)))⟩⟩) (by omega) ?_
  rw [List.filter_eq_self.mpr fun _ _ => rfl]
  refine wp_mkf ⟨by rw [List.length_map]; omega, ?_⟩
  have eb : ∀ S : Sto, eqB S (.lst (ts.map fun x => IV.bl (inV as (.str x)))) (.lst (ts.map fun x => IV.bl (decide (x ∈ as)))) = some true := fun S => by
    have := eqB_bls (S := S) (ts.map fun x => decide (x ∈ as))
    rw [List.map_map] at this
    exact this
  refine wp_ne (eb _) (ex_bl ⟨fun z => (by cases z), fun _ => wp_next (wp_nx ?_)⟩)
  -- what is odd
  obtain ⟨p0, e0⟩ : ∃ x, ts[0]? = some x := ⟨_, List.getElem?_eq_getElem (by omega)⟩
  obtain ⟨p1, e1⟩ : ∃ x, ts[1]? = some x := ⟨_, List.getElem?_eq_getElem (by omega)⟩
  obtain ⟨p2, e2⟩ : ∃ x, ts[2]? = some x := ⟨_, List.getElem?_eq_getElem (by omega)⟩
  have g0 := gt p0 (List.mem_of_getElem? e0)
  have g1 := gt p1 (List.mem_of_getElem? e1)
  have g2 := gt p2 (List.mem_of_getElem? e2)
  have n0 := g0.len
  have n1 : ("." : Str).length = 1 := by decide +kernel
  have n2 : ("(" : Str).length = 1 := by decide +kernel
  have n3 : (")" : Str).length = 1 := by decide +kernel
  refine wp_seq (wp_set (wp_lst (wp_cons (wp_c (wp_cons (wp_c (wp_cons (wp_c (wp_cons (wp_c (wp_cons (wp_lst (wp_nil (wp_mkf ⟨Nat.zero_le _, ?_⟩))))))))))))))
  refine wp_cons (wp_tup (wp_nil (wp_mkT ⟨Nat.zero_le _, wp_cons (wp_var (by with_unfolding_all exact rfl) (wp_cons (wp_ca (wp_cons (wp_var (by with_unfolding_all exact rfl) (wp_nil (wp_tupl (by rw [List.length_map]; omega) ?_)))))))⟩)))
  refine wp_cons (wp_bin (wp_pi (j := 0) (by with_unfolding_all exact rfl) d.pl e0 (wp_c (wp_adds ⟨by omega, ?_⟩))))
  refine wp_cons (wp_bin (wp_bin (wp_c (wp_pi (j := 0) (by with_unfolding_all exact rfl) d.pl e0 (wp_adds ⟨by omega, wp_c (wp_adds ⟨by rw [len_app]; omega, ?_⟩)⟩)))))
  refine wp_cons (wp_tup (wp_cons (wp_pi (j := 0) (by with_unfolding_all exact rfl) d.pl e0 (wp_nil (wp_mkT ⟨by show 1 ≤ _; omega, wp_nil (wp_mkf ⟨by show 11 ≤ _; omega, wp_nx ?_⟩)⟩)))))
  have ho := odd_all (S := S) (p0 := p0) ga
  refine wp_seq (wp_if (wp_or (wp_tru (odd_any (vs := oddV as p0) (fun _ => by with_unfolding_all exact rfl) (fun _ => by with_unfolding_all exact rfl) (by with_unfolding_all exact rfl) d.ao ho (by simp [oddV]) ⟨_, rfl, fun z => (by cases z), fun _ => ?_⟩))))
  refine wp_tru (ne_any (vs := oddV as p0 ++ [.adr S.length, .str (repT as)]) (o := o) (as := as) (fun _ => by with_unfolding_all exact rfl) (fun _ => by with_unfolding_all exact rfl) ?_ (by simp [oddV]))
  refine wp_bin (wp_var (by with_unfolding_all exact rfl) (wp_lst (wp_cons (wp_texts (by with_unfolding_all exact rfl) d.ao (by omega) ?_))))
  have x1 : Ext [] S (S ++ [.lst ((sd as).map .str)]) := Ext.app _
  have gq : (S ++ [Cell.lst ((sd as).map .str)])[S.length]? = some (.lst ((sd as).map .str)) := get_new _ _
  have d1 := d.ext x1
  refine wp_cons (wp_ca (wp_cons (wp_var (by with_unfolding_all exact rfl) (wp_nil (wp_reprP d1.ao ga (by omega) (wp_nil (wp_mkf ⟨by show 2 ≤ _; omega, wp_addl ⟨by show 13 ≤ _; omega, rfl, d1.ao, ?_, _, rfl, fun z => (by cases z), fun _ => wp_next (wp_nx ?_)⟩⟩)))))))
  · intro v hv
    rcases List.mem_append.mp hv with hv | hv
    · obtain ⟨ty, h1, h6, _⟩ := ((odd_all (S := S ++ [Cell.lst ((sd as).map .str)]) (p0 := p0) ga) v hv).ty
      exact ⟨ty, h1, h6⟩
    · simp only [List.mem_cons, List.not_mem_nil, or_false] at hv
      rcases hv with rfl | rfl
      · refine ⟨"list", ?_, by decide⟩
        show (match (S ++ [Cell.lst ((sd as).map .str)])[S.length]? with | some (.lst _) => some "list" | some (.dic _) => some "dict" | _ => none) = _
        rw [gq]
      · exact ⟨_, rfl, by decide⟩
  generalize S ++ [Cell.lst ((sd as).map .str)] = S at d1
  have d := d1
  -- few, three
  have t1s : ∀ t ∈ [p1], Told true (.str t) := fun t ht => by rw [List.mem_singleton.mp ht]; exact g1.told
  have pt1 : Pts [p1] := fun t ht => by rw [List.mem_singleton.mp ht]; exact g1
  have pt2 : Pts [p2, p1, p2] := fun t ht => by
    simp only [List.mem_cons, List.not_mem_nil, or_false] at ht
    rcases ht with rfl | rfl | rfl
    · exact g2
    · exact g1
    · exact g2
  have pt3 : Pts [p1, p2] := fun t ht => by
    simp only [List.mem_cons, List.not_mem_nil, or_false] at ht
    rcases ht with rfl | rfl
    · exact g1
    · exact g2
  refine wp_seq (wp_set (wp_andV (wp_isC (wp_ofP (ts := []) (fun _ z => (by cases z)) (Nat.zero_le _) (wp_nil ⟨rfl, rfl⟩) fun r S ar x1 => ⟨r, [], rfl, ar, .nil, Nat.zero_le _, wp_lst (wp_nil (wp_mkf ⟨Nat.zero_le _, ⟨[], rfl, rfl, .nil, Nat.zero_le _, fun _ => Iff.rfl, fun S x2 => ⟨_, rfl, fun _ => ?_, fun z => (by cases z)⟩⟩⟩))⟩))))
  have d := (d.ext x1).ext x2
  refine wp_isC (wp_ofP (ts := [p1]) t1s (by show 1 ≤ 60; omega) (wp_cons (wp_pi (j := 1) (by with_unfolding_all exact rfl) d.pl e1 (wp_nil ⟨rfl, rfl⟩))) fun r S ar x1 => ⟨r, [p1], rfl, ar, pt1, (by show 1 ≤ 60; omega), ?_⟩)
  have d := d.ext x1
  refine wp_lst (wp_cons (wp_pi (j := 1) (by with_unfolding_all exact rfl) d.pl e1 (wp_nil (wp_mkf ⟨by show 1 ≤ _; omega, ⟨[p1], rfl, rfl, pt1, (by show 1 ≤ 60; omega), fun _ => Iff.rfl, fun S x2 => wp_nx ?_⟩⟩))))
  have d := d.ext x2
  refine wp_seq (wp_set (wp_isC (wp_ofP (ts := [p2, p1, p2]) pt2.told (by show 3 ≤ 60; omega) (wp_cons (wp_pi (j := 2) (by with_unfolding_all exact rfl) d.pl e2 (wp_cons (wp_pi (j := 1) (by with_unfolding_all exact rfl) d.pl e1 (wp_cons (wp_pi (j := 2) (by with_unfolding_all exact rfl) d.pl e2 (wp_nil ⟨rfl, rfl⟩))))))) fun r S ar x1 => ⟨r, [p2, p1, p2], rfl, ar, pt2, (by show 3 ≤ 60; omega), ?_⟩)))
  have d := d.ext x1
  refine wp_lst (wp_cons (wp_pi (j := 1) (by with_unfolding_all exact rfl) d.pl e1 (wp_cons (wp_pi (j := 2) (by with_unfolding_all exact rfl) d.pl e2 (wp_nil (wp_mkf ⟨by show 2 ≤ _; omega, ⟨[p1, p2], rfl, rfl, pt3, (by show 2 ≤ 60; omega), ?_, fun S x2 => wp_nx ?_⟩⟩))))))
  · intro x
    simp only [List.mem_cons, List.not_mem_nil, or_false]
    constructor
    · rintro (h | h | h)
      · exact .inr h
      · exact .inl h
      · exact .inr h
    · rintro (h | h)
      · exact .inr (.inl h)
      · exact .inl h
  have d := d.ext x2
  refine wp_ret (wp_andV (wp_var (by with_unfolding_all exact rfl) ⟨_, rfl, fun _ => ?_, fun z => (by cases z)⟩))
  refine wp_andV (wp_var (by with_unfolding_all exact rfl) ⟨_, rfl, fun _ => ?_, fun z => (by cases z)⟩)
  refine wp_andV (is_var (as := as) (ds := as) (by with_unfolding_all exact rfl) (by with_unfolding_all exact rfl) d.ao ga (by omega) ga (by omega) (fun _ => Iff.rfl) fun S x1 => ⟨_, rfl, fun _ => ?_, fun z => (by cases z)⟩)
  have d := d.ext x1
  exact is_var (as := bs) (ds := bs) (by with_unfolding_all exact rfl) (by with_unfolding_all exact rfl) d.bo gb (by omega) gb (by omega) (fun _ => Iff.rfl) fun S x1 => fq_rt (q S)
end
theorem lw_ok {xs : List Int} (hx : xs.length ≤ 63) {S : Sto} : Wp (m_law [.wls (xs.map IV.int)] S) fun v _ => v = .bl true := by
  refine wd_law ?_
  unfold b_law
  refine wp_seq (wp_for (k := none) (List.range (Lw.turns 3 xs)) (fun i : Nat => IV.int i) (fun i Λ S => ∃ a : Option IV, Λ = [some (.wls (xs.map .int)), a]) (.of (Lw.places_src (by decide) rfl hx) ⟨rfl, _, rfl⟩) stay_n ?_ ?_)
  · rintro i Λ S k hk ⟨a, rfl⟩
    obtain ⟨rfl, hk⟩ := rg_some hk
    refine wp_name (wp_if (wp_not (wp_tru (wp_call (wp_cons (wp_call (wp_cons (wp_var (by with_unfolding_all exact rfl) (wp_cons (wp_var (by with_unfolding_all exact rfl) ?_))))))))))
    exact wp_nil ⟨rfl, wp_sourceK fun n S h => wp_nil ⟨rfl, right_ok h (by decide) fun S' => ⟨_, rfl, fun z => (by cases z), fun _ => wp_next (lq_nx ⟨_, rfl⟩)⟩⟩⟩
  · rintro Λ S ⟨a, rfl⟩
    exact wp_nx (wp_ret (wp_c (fq_rt rfl)))
theorem law_ok {xs : List Int} (h : xs.length ≤ 63) : ∃ S', m_law [.wls (xs.map IV.int)] [] = .ok (.bl true) S' := by
  obtain ⟨v, S', e, rfl⟩ := lw_ok h (S := [])
  exact ⟨S', e⟩
end K49
namespace K49
open PySem PySem.Spec PyProof.Rows L2 Sm RD GP
set_option maxHeartbeats 40000000 in
theorem all_mk {l : PySem.W.OpenLaw} {w : World} {K : PySem.W.Frag} {h : Heap} {mg : Str → Option Value} {fa : Addr} (X : K.In h) (G : h.Ns mainGlobals mg) (hfa : mg "law" = some (.ref fa))
    {tk_LETTERS : Tok}
    {ga_KEYWORDS : Addr} {god_KEYWORDS : Option Addr} {gits_KEYWORDS : Array Value} {gn_KEYWORDS : Nat} {gsl_KEYWORDS : Array (Option Value)}
    {A_Places : Addr}
    {A_BadPlaces : Addr}
    {nm_BadPlaces qn_BadPlaces : Str} {N_BadPlaces : Addr} {bs_BadPlaces bm_BadPlaces : List Value} {sn_BadPlaces : List Str} {sb_BadPlaces : List Value} {ab_BadPlaces : Bool} {co_BadPlaces : Option Bool} {dd_BadPlaces : Option Addr} {k0_BadPlaces k1_BadPlaces k2_BadPlaces k3_BadPlaces k5_BadPlaces : Option Value}
    {f_BadPlaces___init__ : Addr} {od_BadPlaces___init__ an_BadPlaces___init__ : Option Addr} {sl_BadPlaces___init__ : Array (Option Value)} {oc_BadPlaces___init__ kV_BadPlaces___init__ dc_BadPlaces___init__ pm_BadPlaces___init__ cd_BadPlaces___init__ ct_BadPlaces___init__ : Value}
    {A_PatchedError : Addr}
    {f_is_word : Addr} {od_is_word an_is_word : Option Addr} {sl_is_word : Array (Option Value)} {oc_is_word kV_is_word dc_is_word pm_is_word cd_is_word ct_is_word : Value}
    {f_name_fits : Addr} {od_name_fits an_name_fits : Option Addr} {sl_name_fits : Array (Option Value)} {oc_name_fits kV_name_fits dc_name_fits pm_name_fits cd_name_fits ct_name_fits : Value}
    {f_read_step : Addr} {od_read_step an_read_step : Option Addr} {sl_read_step : Array (Option Value)} {oc_read_step kV_read_step dc_read_step pm_read_step cd_read_step ct_read_step : Value}
    {f_read_path : Addr} {od_read_path an_read_path : Option Addr} {sl_read_path : Array (Option Value)} {oc_read_path kV_read_path dc_read_path pm_read_path cd_read_path ct_read_path : Value}
    {f_is_place : Addr} {od_is_place an_is_place : Option Addr} {sl_is_place : Array (Option Value)} {oc_is_place kV_is_place dc_is_place pm_is_place cd_is_place ct_is_place : Value}
    {f_Places___init__ : Addr} {od_Places___init__ an_Places___init__ : Option Addr} {sl_Places___init__ : Array (Option Value)} {oc_Places___init__ kV_Places___init__ dc_Places___init__ pm_Places___init__ cd_Places___init__ ct_Places___init__ : Value}
    {f_Places_of : Addr} {od_Places_of an_Places_of : Option Addr} {sl_Places_of : Array (Option Value)} {oc_Places_of kV_Places_of dc_Places_of pm_Places_of cd_Places_of ct_Places_of : Value}
    {p_Places_of : Addr} {rest_Places_of : List Value}
    {f_Places_texts : Addr} {od_Places_texts an_Places_texts : Option Addr} {sl_Places_texts : Array (Option Value)} {oc_Places_texts kV_Places_texts dc_Places_texts pm_Places_texts cd_Places_texts ct_Places_texts : Value}
    {f_Places_within : Addr} {od_Places_within an_Places_within : Option Addr} {sl_Places_within : Array (Option Value)} {oc_Places_within kV_Places_within dc_Places_within pm_Places_within cd_Places_within ct_Places_within : Value}
    {f_Places___len__ : Addr} {od_Places___len__ an_Places___len__ : Option Addr} {sl_Places___len__ : Array (Option Value)} {oc_Places___len__ kV_Places___len__ dc_Places___len__ pm_Places___len__ cd_Places___len__ ct_Places___len__ : Value}
    {f_Places___bool__ : Addr} {od_Places___bool__ an_Places___bool__ : Option Addr} {sl_Places___bool__ : Array (Option Value)} {oc_Places___bool__ kV_Places___bool__ dc_Places___bool__ pm_Places___bool__ cd_Places___bool__ ct_Places___bool__ : Value}
    {f_Places___contains__ : Addr} {od_Places___contains__ an_Places___contains__ : Option Addr} {sl_Places___contains__ : Array (Option Value)} {oc_Places___contains__ kV_Places___contains__ dc_Places___contains__ pm_Places___contains__ cd_Places___contains__ ct_Places___contains__ : Value}
    {f_Places___eq__ : Addr} {od_Places___eq__ an_Places___eq__ : Option Addr} {sl_Places___eq__ : Array (Option Value)} {oc_Places___eq__ kV_Places___eq__ dc_Places___eq__ pm_Places___eq__ cd_Places___eq__ ct_Places___eq__ : Value}
    {f_Places___or__ : Addr} {od_Places___or__ an_Places___or__ : Option Addr} {sl_Places___or__ : Array (Option Value)} {oc_Places___or__ kV_Places___or__ dc_Places___or__ pm_Places___or__ cd_Places___or__ ct_Places___or__ : Value}
    {f_Places___and__ : Addr} {od_Places___and__ an_Places___and__ : Option Addr} {sl_Places___and__ : Array (Option Value)} {oc_Places___and__ kV_Places___and__ dc_Places___and__ pm_Places___and__ cd_Places___and__ ct_Places___and__ : Value}
    {f_Places___sub__ : Addr} {od_Places___sub__ an_Places___sub__ : Option Addr} {sl_Places___sub__ : Array (Option Value)} {oc_Places___sub__ kV_Places___sub__ dc_Places___sub__ pm_Places___sub__ cd_Places___sub__ ct_Places___sub__ : Value}
    {f_Places___repr__ : Addr} {od_Places___repr__ an_Places___repr__ : Option Addr} {sl_Places___repr__ : Array (Option Value)} {oc_Places___repr__ kV_Places___repr__ dc_Places___repr__ pm_Places___repr__ cd_Places___repr__ ct_Places___repr__ : Value}
    {f__law_source : Addr} {od__law_source an__law_source : Option Addr} {sl__law_source : Array (Option Value)} {oc__law_source kV__law_source dc__law_source pm__law_source cd__law_source ct__law_source : Value}
    {f__law_draw : Addr} {od__law_draw an__law_draw : Option Addr} {sl__law_draw : Array (Option Value)} {oc__law_draw kV__law_draw dc__law_draw pm__law_draw cd__law_draw ct__law_draw : Value}
    {f__law_of : Addr} {od__law_of an__law_of : Option Addr} {sl__law_of : Array (Option Value)} {oc__law_of kV__law_of dc__law_of pm__law_of cd__law_of ct__law_of : Value}
    {f__law_names : Addr} {od__law_names an__law_names : Option Addr} {sl__law_names : Array (Option Value)} {oc__law_names kV__law_names dc__law_names pm__law_names cd__law_names ct__law_names : Value}
    {f__law_pool : Addr} {od__law_pool an__law_pool : Option Addr} {sl__law_pool : Array (Option Value)} {oc__law_pool kV__law_pool dc__law_pool pm__law_pool cd__law_pool ct__law_pool : Value}
    {f__law_drawn : Addr} {od__law_drawn an__law_drawn : Option Addr} {sl__law_drawn : Array (Option Value)} {oc__law_drawn kV__law_drawn dc__law_drawn pm__law_drawn cd__law_drawn ct__law_drawn : Value}
    {f__law_is : Addr} {od__law_is an__law_is : Option Addr} {sl__law_is : Array (Option Value)} {oc__law_is kV__law_is dc__law_is pm__law_is cd__law_is ct__law_is : Value}
    {f__law_apart : Addr} {od__law_apart an__law_apart : Option Addr} {sl__law_apart : Array (Option Value)} {oc__law_apart kV__law_apart dc__law_apart pm__law_apart cd__law_apart ct__law_apart : Value}
    {f__law_right : Addr} {od__law_right an__law_right : Option Addr} {sl__law_right : Array (Option Value)} {oc__law_right kV__law_right dc__law_right pm__law_right cd__law_right ct__law_right : Value}
    {f_law : Addr} {od_law an_law : Option Addr} {sl_law : Array (Option Value)} {oc_law kV_law dc_law pm_law cd_law ct_law : Value}
    (gs_LETTERS : PySem.W.nsIn K mainGlobals "LETTERS" = some (some (.str c_LETTERS tk_LETTERS)))
    (z_str : PySem.W.nsIn K mainGlobals "str" = some none)
    (z_isinstance : PySem.W.nsIn K mainGlobals "isinstance" = some none)
    (z_len : PySem.W.nsIn K mainGlobals "len" = some none)
    (gt_KEYWORDS : PySem.W.nsIn K mainGlobals "KEYWORDS" = some (some (.ref ga_KEYWORDS)))
    (gl_KEYWORDS : K.lookup ga_KEYWORDS = some ⟨.type "tuple", god_KEYWORDS, .seq gits_KEYWORDS gn_KEYWORDS, gsl_KEYWORDS⟩)
    (gz_KEYWORDS : gits_KEYWORDS.size ≤ sizeLine)
    (gv_KEYWORDS : L2.Vals (c_KEYWORDS.map L2.V.str) gits_KEYWORDS.toList)
    (z_tuple : PySem.W.nsIn K mainGlobals "tuple" = some none)
    (m_Places : PySem.W.nsIn K mainGlobals "Places" = some (some (.ref A_Places)))
    (pg_Places : PySem.W.plainGet K A_Places Str.empty = true)
    (hd_Places : PySem.W.hasDictIn K A_Places = true)
    (po_Places : PySem.W.plainOver K A_Places = true)
    (sa_Places : PySem.W.findIn K (.ref A_Places) "__setattr__" = some (some (.builtin "object.__setattr__")))
    (na_Places_sorted_places : PySem.W.findIn K (.ref A_Places) "sorted_places" = some none)
    (z_sorted : PySem.W.nsIn K mainGlobals "sorted" = some none)
    (z_set : PySem.W.nsIn K mainGlobals "set" = some none)
    (z_enumerate : PySem.W.nsIn K mainGlobals "enumerate" = some none)
    (z_list : PySem.W.nsIn K mainGlobals "list" = some none)
    (z_all : PySem.W.nsIn K mainGlobals "all" = some none)
    (z_bool : PySem.W.nsIn K mainGlobals "bool" = some none)
    (ty_Places : PySem.W.typeIn K (.ref A_Places) = some (.type "type"))
    (xi_Places : PySem.W.isClsIn K A_Places = true)
    (xa_Places : PySem.W.findIn K (.ref A_Places) "__class__" = some (some (.builtin "object.__class__")))
    (xn : PySem.W.specialIn K (.builtin "object.__class__") "__get__" = some (some (.builtin "getset_descriptor.__get__")))
    (xt : PySem.W.takesIn K (.builtin "object.__class__") = some true)
    (xm_Places : PySem.W.mroIn K A_Places (.type "object") = some true)
    (z_int : PySem.W.nsIn K mainGlobals "int" = some none)
    (z_abs : PySem.W.nsIn K mainGlobals "abs" = some none)
    (z_range : PySem.W.nsIn K mainGlobals "range" = some none)
    (z_repr : PySem.W.nsIn K mainGlobals "repr" = some none)
    (nn_Places : PySem.W.findIn K (.ref A_Places) "__ne__" = some (some (.builtin "object.__ne__")))
    (so_Places : PySem.W.subIn K (.ref A_Places) (.type "object") = some true)
    (z_any : PySem.W.nsIn K mainGlobals "any" = some none)
    (sf_Places : PySem.W.selfFirst K A_Places = true)
    (z_min : PySem.W.nsIn K mainGlobals "min" = some none)
    (z_max : PySem.W.nsIn K mainGlobals "max" = some none)
    (m_BadPlaces : PySem.W.nsIn K mainGlobals "BadPlaces" = some (some (.ref A_BadPlaces)))
    (ty_BadPlaces : PySem.W.typeIn K (.ref A_BadPlaces) = some (.type "type"))
    (ex_BadPlaces : PySem.W.subIn K (.ref A_BadPlaces) (.type "BaseException") = some true)
    (kc_BadPlaces : PySem.W.keepIn K (.ref A_BadPlaces) = true)
    (sa_BadPlaces : PySem.W.findIn K (.ref A_BadPlaces) "__setattr__" = some (some (.builtin "object.__setattr__")))
    (na_BadPlaces_at : PySem.W.findIn K (.ref A_BadPlaces) "at" = some none)
    (lk_BadPlaces : K.lookup A_BadPlaces = some (excClassObj nm_BadPlaces qn_BadPlaces A_BadPlaces N_BadPlaces bs_BadPlaces bm_BadPlaces true sn_BadPlaces sb_BadPlaces ab_BadPlaces co_BadPlaces dd_BadPlaces k0_BadPlaces k1_BadPlaces k2_BadPlaces k3_BadPlaces k5_BadPlaces "ValueError.__new__"))
    (rv_BadPlaces : PySem.HandSPX.refsVE bm_BadPlaces = true)
    (ic_BadPlaces : PySem.W.findIn K (.ref A_BadPlaces) "__init__" = some (some (.ref f_BadPlaces___init__)))
    (tI_BadPlaces : PySem.W.typeIn K (.ref f_BadPlaces___init__) = some (.type "function"))
    (l_BadPlaces___init__ : K.lookup f_BadPlaces___init__ = some ⟨oc_BadPlaces___init__, od_BadPlaces___init__, .func (PySem.W.fnOf "__init__" "BadPlaces.__init__" (defArgs s_BadPlaces___init__) (defBody s_BadPlaces___init__) (defScope s_BadPlaces___init__) .none kV_BadPlaces___init__ dc_BadPlaces___init__ pm_BadPlaces___init__ an_BadPlaces___init__ cd_BadPlaces___init__ ct_BadPlaces___init__), sl_BadPlaces___init__⟩)
    (c_BadPlaces___init__ : PySem.W.codeIn K cd_BadPlaces___init__ "BadPlaces.__init__" = true)
    (k_BadPlaces___init__ : PySem.W.keepIn K (.ref f_BadPlaces___init__) = true)
    (m_PatchedError : PySem.W.nsIn K mainGlobals "PatchedError" = some (some (.ref A_PatchedError)))
    (ty_PatchedError : PySem.W.typeIn K (.ref A_PatchedError) = some (.type "type"))
    (rd_PatchedError : PySem.W.readsIn K A_PatchedError (.type "type") = true)
    (ga_PatchedError : PySem.W.specialIn K (.ref A_PatchedError) "__getattribute__" = some (some (.builtin "type.__getattribute__")))
    (bi_PatchedError : PySem.W.findCls K (.ref A_PatchedError) (.type "type") "__init__" = some (.val (.builtin "ValueError.__init__")))
    (a_is_word : PySem.W.nsIn K mainGlobals "is_word" = some (some (.ref f_is_word)))
    (l_is_word : K.lookup f_is_word = some ⟨oc_is_word, od_is_word, .func (PySem.W.fnOf "is_word" "is_word" (defArgs s_is_word) (defBody s_is_word) (defScope s_is_word) .none kV_is_word dc_is_word pm_is_word an_is_word cd_is_word ct_is_word), sl_is_word⟩)
    (c_is_word : PySem.W.codeIn K cd_is_word "is_word" = true)
    (k_is_word : PySem.W.keepIn K (.ref f_is_word) = true)
    (a_name_fits : PySem.W.nsIn K mainGlobals "name_fits" = some (some (.ref f_name_fits)))
    (l_name_fits : K.lookup f_name_fits = some ⟨oc_name_fits, od_name_fits, .func (PySem.W.fnOf "name_fits" "name_fits" (defArgs s_name_fits) (defBody s_name_fits) (defScope s_name_fits) .none kV_name_fits dc_name_fits pm_name_fits an_name_fits cd_name_fits ct_name_fits), sl_name_fits⟩)
    (c_name_fits : PySem.W.codeIn K cd_name_fits "name_fits" = true)
    (k_name_fits : PySem.W.keepIn K (.ref f_name_fits) = true)
    (a_read_step : PySem.W.nsIn K mainGlobals "read_step" = some (some (.ref f_read_step)))
    (l_read_step : K.lookup f_read_step = some ⟨oc_read_step, od_read_step, .func (PySem.W.fnOf "read_step" "read_step" (defArgs s_read_step) (defBody s_read_step) (defScope s_read_step) .none kV_read_step dc_read_step pm_read_step an_read_step cd_read_step ct_read_step), sl_read_step⟩)
    (c_read_step : PySem.W.codeIn K cd_read_step "read_step" = true)
    (k_read_step : PySem.W.keepIn K (.ref f_read_step) = true)
    (a_read_path : PySem.W.nsIn K mainGlobals "read_path" = some (some (.ref f_read_path)))
    (l_read_path : K.lookup f_read_path = some ⟨oc_read_path, od_read_path, .func (PySem.W.fnOf "read_path" "read_path" (defArgs s_read_path) (defBody s_read_path) (defScope s_read_path) .none kV_read_path dc_read_path pm_read_path an_read_path cd_read_path ct_read_path), sl_read_path⟩)
    (c_read_path : PySem.W.codeIn K cd_read_path "read_path" = true)
    (k_read_path : PySem.W.keepIn K (.ref f_read_path) = true)
    (a_is_place : PySem.W.nsIn K mainGlobals "is_place" = some (some (.ref f_is_place)))
    (l_is_place : K.lookup f_is_place = some ⟨oc_is_place, od_is_place, .func (PySem.W.fnOf "is_place" "is_place" (defArgs s_is_place) (defBody s_is_place) (defScope s_is_place) .none kV_is_place dc_is_place pm_is_place an_is_place cd_is_place ct_is_place), sl_is_place⟩)
    (c_is_place : PySem.W.codeIn K cd_is_place "is_place" = true)
    (k_is_place : PySem.W.keepIn K (.ref f_is_place) = true)
    (kc_Places : PySem.W.keepIn K (.ref A_Places) = true)
    (mk_Places : PySem.W.makesIn K A_Places = true)
    (at_Places___init__ : PySem.W.findIn K (.ref A_Places) "__init__" = some (some (.ref f_Places___init__)))
    (fn_Places___init__ : PySem.W.isFn K (.ref f_Places___init__) = true)
    (l_Places___init__ : K.lookup f_Places___init__ = some ⟨oc_Places___init__, od_Places___init__, .func (PySem.W.fnOf "__init__" "Places.__init__" (defArgs s_Places___init__) (defBody s_Places___init__) (defScope s_Places___init__) .none kV_Places___init__ dc_Places___init__ pm_Places___init__ an_Places___init__ cd_Places___init__ ct_Places___init__), sl_Places___init__⟩)
    (c_Places___init__ : PySem.W.codeIn K cd_Places___init__ "Places.__init__" = true)
    (k_Places___init__ : PySem.W.keepIn K (.ref f_Places___init__) = true)
    (ga_Places : PySem.W.specialIn K (.ref A_Places) "__getattribute__" = some (some (.builtin "type.__getattribute__")))
    (rd_Places : PySem.W.readsIn K A_Places (.type "type") = true)
    (at_Places_of : PySem.W.findCls K (.ref A_Places) (.type "type") "of" = some (.get (.builtin "classmethod.__get__") (.ref p_Places_of) .none (.ref A_Places)))
    (rc_Places_of : PySem.W.recIn K p_Places_of "classmethod" = some (.ref f_Places_of :: rest_Places_of))
    (fi_Places_of : PySem.W.fnIn K f_Places_of = true)
    (l_Places_of : K.lookup f_Places_of = some ⟨oc_Places_of, od_Places_of, .func (PySem.W.fnOf "of" "Places.of" (defArgs s_Places_of) (defBody s_Places_of) (defScope s_Places_of) .none kV_Places_of dc_Places_of pm_Places_of an_Places_of cd_Places_of ct_Places_of), sl_Places_of⟩)
    (c_Places_of : PySem.W.codeIn K cd_Places_of "Places.of" = true)
    (k_Places_of : PySem.W.keepIn K (.ref f_Places_of) = true)
    (at_Places_texts : PySem.W.findIn K (.ref A_Places) "texts" = some (some (.ref f_Places_texts)))
    (fn_Places_texts : PySem.W.isFn K (.ref f_Places_texts) = true)
    (l_Places_texts : K.lookup f_Places_texts = some ⟨oc_Places_texts, od_Places_texts, .func (PySem.W.fnOf "texts" "Places.texts" (defArgs s_Places_texts) (defBody s_Places_texts) (defScope s_Places_texts) .none kV_Places_texts dc_Places_texts pm_Places_texts an_Places_texts cd_Places_texts ct_Places_texts), sl_Places_texts⟩)
    (c_Places_texts : PySem.W.codeIn K cd_Places_texts "Places.texts" = true)
    (k_Places_texts : PySem.W.keepIn K (.ref f_Places_texts) = true)
    (at_Places_within : PySem.W.findIn K (.ref A_Places) "within" = some (some (.ref f_Places_within)))
    (fn_Places_within : PySem.W.isFn K (.ref f_Places_within) = true)
    (l_Places_within : K.lookup f_Places_within = some ⟨oc_Places_within, od_Places_within, .func (PySem.W.fnOf "within" "Places.within" (defArgs s_Places_within) (defBody s_Places_within) (defScope s_Places_within) .none kV_Places_within dc_Places_within pm_Places_within an_Places_within cd_Places_within ct_Places_within), sl_Places_within⟩)
    (c_Places_within : PySem.W.codeIn K cd_Places_within "Places.within" = true)
    (k_Places_within : PySem.W.keepIn K (.ref f_Places_within) = true)
    (at_Places___len__ : PySem.W.findIn K (.ref A_Places) "__len__" = some (some (.ref f_Places___len__)))
    (fn_Places___len__ : PySem.W.isFn K (.ref f_Places___len__) = true)
    (l_Places___len__ : K.lookup f_Places___len__ = some ⟨oc_Places___len__, od_Places___len__, .func (PySem.W.fnOf "__len__" "Places.__len__" (defArgs s_Places___len__) (defBody s_Places___len__) (defScope s_Places___len__) .none kV_Places___len__ dc_Places___len__ pm_Places___len__ an_Places___len__ cd_Places___len__ ct_Places___len__), sl_Places___len__⟩)
    (c_Places___len__ : PySem.W.codeIn K cd_Places___len__ "Places.__len__" = true)
    (k_Places___len__ : PySem.W.keepIn K (.ref f_Places___len__) = true)
    (at_Places___bool__ : PySem.W.findIn K (.ref A_Places) "__bool__" = some (some (.ref f_Places___bool__)))
    (fn_Places___bool__ : PySem.W.isFn K (.ref f_Places___bool__) = true)
    (l_Places___bool__ : K.lookup f_Places___bool__ = some ⟨oc_Places___bool__, od_Places___bool__, .func (PySem.W.fnOf "__bool__" "Places.__bool__" (defArgs s_Places___bool__) (defBody s_Places___bool__) (defScope s_Places___bool__) .none kV_Places___bool__ dc_Places___bool__ pm_Places___bool__ an_Places___bool__ cd_Places___bool__ ct_Places___bool__), sl_Places___bool__⟩)
    (c_Places___bool__ : PySem.W.codeIn K cd_Places___bool__ "Places.__bool__" = true)
    (k_Places___bool__ : PySem.W.keepIn K (.ref f_Places___bool__) = true)
    (at_Places___contains__ : PySem.W.findIn K (.ref A_Places) "__contains__" = some (some (.ref f_Places___contains__)))
    (fn_Places___contains__ : PySem.W.isFn K (.ref f_Places___contains__) = true)
    (l_Places___contains__ : K.lookup f_Places___contains__ = some ⟨oc_Places___contains__, od_Places___contains__, .func (PySem.W.fnOf "__contains__" "Places.__contains__" (defArgs s_Places___contains__) (defBody s_Places___contains__) (defScope s_Places___contains__) .none kV_Places___contains__ dc_Places___contains__ pm_Places___contains__ an_Places___contains__ cd_Places___contains__ ct_Places___contains__), sl_Places___contains__⟩)
    (c_Places___contains__ : PySem.W.codeIn K cd_Places___contains__ "Places.__contains__" = true)
    (k_Places___contains__ : PySem.W.keepIn K (.ref f_Places___contains__) = true)
    (at_Places___eq__ : PySem.W.findIn K (.ref A_Places) "__eq__" = some (some (.ref f_Places___eq__)))
    (fn_Places___eq__ : PySem.W.isFn K (.ref f_Places___eq__) = true)
    (l_Places___eq__ : K.lookup f_Places___eq__ = some ⟨oc_Places___eq__, od_Places___eq__, .func (PySem.W.fnOf "__eq__" "Places.__eq__" (defArgs s_Places___eq__) (defBody s_Places___eq__) (defScope s_Places___eq__) .none kV_Places___eq__ dc_Places___eq__ pm_Places___eq__ an_Places___eq__ cd_Places___eq__ ct_Places___eq__), sl_Places___eq__⟩)
    (c_Places___eq__ : PySem.W.codeIn K cd_Places___eq__ "Places.__eq__" = true)
    (k_Places___eq__ : PySem.W.keepIn K (.ref f_Places___eq__) = true)
    (at_Places___or__ : PySem.W.findIn K (.ref A_Places) "__or__" = some (some (.ref f_Places___or__)))
    (fn_Places___or__ : PySem.W.isFn K (.ref f_Places___or__) = true)
    (l_Places___or__ : K.lookup f_Places___or__ = some ⟨oc_Places___or__, od_Places___or__, .func (PySem.W.fnOf "__or__" "Places.__or__" (defArgs s_Places___or__) (defBody s_Places___or__) (defScope s_Places___or__) .none kV_Places___or__ dc_Places___or__ pm_Places___or__ an_Places___or__ cd_Places___or__ ct_Places___or__), sl_Places___or__⟩)
    (c_Places___or__ : PySem.W.codeIn K cd_Places___or__ "Places.__or__" = true)
    (k_Places___or__ : PySem.W.keepIn K (.ref f_Places___or__) = true)
    (at_Places___and__ : PySem.W.findIn K (.ref A_Places) "__and__" = some (some (.ref f_Places___and__)))
    (fn_Places___and__ : PySem.W.isFn K (.ref f_Places___and__) = true)
    (l_Places___and__ : K.lookup f_Places___and__ = some ⟨oc_Places___and__, od_Places___and__, .func (PySem.W.fnOf "__and__" "Places.__and__" (defArgs s_Places___and__) (defBody s_Places___and__) (defScope s_Places___and__) .none kV_Places___and__ dc_Places___and__ pm_Places___and__ an_Places___and__ cd_Places___and__ ct_Places___and__), sl_Places___and__⟩)
    (c_Places___and__ : PySem.W.codeIn K cd_Places___and__ "Places.__and__" = true)
    (k_Places___and__ : PySem.W.keepIn K (.ref f_Places___and__) = true)
    (at_Places___sub__ : PySem.W.findIn K (.ref A_Places) "__sub__" = some (some (.ref f_Places___sub__)))
    (fn_Places___sub__ : PySem.W.isFn K (.ref f_Places___sub__) = true)
    (l_Places___sub__ : K.lookup f_Places___sub__ = some ⟨oc_Places___sub__, od_Places___sub__, .func (PySem.W.fnOf "__sub__" "Places.__sub__" (defArgs s_Places___sub__) (defBody s_Places___sub__) (defScope s_Places___sub__) .none kV_Places___sub__ dc_Places___sub__ pm_Places___sub__ an_Places___sub__ cd_Places___sub__ ct_Places___sub__), sl_Places___sub__⟩)
    (c_Places___sub__ : PySem.W.codeIn K cd_Places___sub__ "Places.__sub__" = true)
    (k_Places___sub__ : PySem.W.keepIn K (.ref f_Places___sub__) = true)
    (at_Places___repr__ : PySem.W.findIn K (.ref A_Places) "__repr__" = some (some (.ref f_Places___repr__)))
    (fn_Places___repr__ : PySem.W.isFn K (.ref f_Places___repr__) = true)
    (l_Places___repr__ : K.lookup f_Places___repr__ = some ⟨oc_Places___repr__, od_Places___repr__, .func (PySem.W.fnOf "__repr__" "Places.__repr__" (defArgs s_Places___repr__) (defBody s_Places___repr__) (defScope s_Places___repr__) .none kV_Places___repr__ dc_Places___repr__ pm_Places___repr__ an_Places___repr__ cd_Places___repr__ ct_Places___repr__), sl_Places___repr__⟩)
    (c_Places___repr__ : PySem.W.codeIn K cd_Places___repr__ "Places.__repr__" = true)
    (k_Places___repr__ : PySem.W.keepIn K (.ref f_Places___repr__) = true)
    (a__law_source : PySem.W.nsIn K mainGlobals "_law_source" = some (some (.ref f__law_source)))
    (l__law_source : K.lookup f__law_source = some ⟨oc__law_source, od__law_source, .func (PySem.W.fnOf "_law_source" "_law_source" (defArgs s__law_source) (defBody s__law_source) (defScope s__law_source) .none kV__law_source dc__law_source pm__law_source an__law_source cd__law_source ct__law_source), sl__law_source⟩)
    (c__law_source : PySem.W.codeIn K cd__law_source "_law_source" = true)
    (k__law_source : PySem.W.keepIn K (.ref f__law_source) = true)
    (a__law_draw : PySem.W.nsIn K mainGlobals "_law_draw" = some (some (.ref f__law_draw)))
    (l__law_draw : K.lookup f__law_draw = some ⟨oc__law_draw, od__law_draw, .func (PySem.W.fnOf "_law_draw" "_law_draw" (defArgs s__law_draw) (defBody s__law_draw) (defScope s__law_draw) .none kV__law_draw dc__law_draw pm__law_draw an__law_draw cd__law_draw ct__law_draw), sl__law_draw⟩)
    (c__law_draw : PySem.W.codeIn K cd__law_draw "_law_draw" = true)
    (k__law_draw : PySem.W.keepIn K (.ref f__law_draw) = true)
    (a__law_of : PySem.W.nsIn K mainGlobals "_law_of" = some (some (.ref f__law_of)))
    (l__law_of : K.lookup f__law_of = some ⟨oc__law_of, od__law_of, .func (PySem.W.fnOf "_law_of" "_law_of" (defArgs s__law_of) (defBody s__law_of) (defScope s__law_of) .none kV__law_of dc__law_of pm__law_of an__law_of cd__law_of ct__law_of), sl__law_of⟩)
    (c__law_of : PySem.W.codeIn K cd__law_of "_law_of" = true)
    (k__law_of : PySem.W.keepIn K (.ref f__law_of) = true)
    (a__law_names : PySem.W.nsIn K mainGlobals "_law_names" = some (some (.ref f__law_names)))
    (l__law_names : K.lookup f__law_names = some ⟨oc__law_names, od__law_names, .func (PySem.W.fnOf "_law_names" "_law_names" (defArgs s__law_names) (defBody s__law_names) (defScope s__law_names) .none kV__law_names dc__law_names pm__law_names an__law_names cd__law_names ct__law_names), sl__law_names⟩)
    (c__law_names : PySem.W.codeIn K cd__law_names "_law_names" = true)
    (k__law_names : PySem.W.keepIn K (.ref f__law_names) = true)
    (a__law_pool : PySem.W.nsIn K mainGlobals "_law_pool" = some (some (.ref f__law_pool)))
    (l__law_pool : K.lookup f__law_pool = some ⟨oc__law_pool, od__law_pool, .func (PySem.W.fnOf "_law_pool" "_law_pool" (defArgs s__law_pool) (defBody s__law_pool) (defScope s__law_pool) .none kV__law_pool dc__law_pool pm__law_pool an__law_pool cd__law_pool ct__law_pool), sl__law_pool⟩)
    (c__law_pool : PySem.W.codeIn K cd__law_pool "_law_pool" = true)
    (k__law_pool : PySem.W.keepIn K (.ref f__law_pool) = true)
    (a__law_drawn : PySem.W.nsIn K mainGlobals "_law_drawn" = some (some (.ref f__law_drawn)))
    (l__law_drawn : K.lookup f__law_drawn = some ⟨oc__law_drawn, od__law_drawn, .func (PySem.W.fnOf "_law_drawn" "_law_drawn" (defArgs s__law_drawn) (defBody s__law_drawn) (defScope s__law_drawn) .none kV__law_drawn dc__law_drawn pm__law_drawn an__law_drawn cd__law_drawn ct__law_drawn), sl__law_drawn⟩)
    (c__law_drawn : PySem.W.codeIn K cd__law_drawn "_law_drawn" = true)
    (k__law_drawn : PySem.W.keepIn K (.ref f__law_drawn) = true)
    (a__law_is : PySem.W.nsIn K mainGlobals "_law_is" = some (some (.ref f__law_is)))
    (l__law_is : K.lookup f__law_is = some ⟨oc__law_is, od__law_is, .func (PySem.W.fnOf "_law_is" "_law_is" (defArgs s__law_is) (defBody s__law_is) (defScope s__law_is) .none kV__law_is dc__law_is pm__law_is an__law_is cd__law_is ct__law_is), sl__law_is⟩)
    (c__law_is : PySem.W.codeIn K cd__law_is "_law_is" = true)
    (k__law_is : PySem.W.keepIn K (.ref f__law_is) = true)
    (a__law_apart : PySem.W.nsIn K mainGlobals "_law_apart" = some (some (.ref f__law_apart)))
    (l__law_apart : K.lookup f__law_apart = some ⟨oc__law_apart, od__law_apart, .func (PySem.W.fnOf "_law_apart" "_law_apart" (defArgs s__law_apart) (defBody s__law_apart) (defScope s__law_apart) .none kV__law_apart dc__law_apart pm__law_apart an__law_apart cd__law_apart ct__law_apart), sl__law_apart⟩)
    (c__law_apart : PySem.W.codeIn K cd__law_apart "_law_apart" = true)
    (k__law_apart : PySem.W.keepIn K (.ref f__law_apart) = true)
    (a__law_right : PySem.W.nsIn K mainGlobals "_law_right" = some (some (.ref f__law_right)))
    (l__law_right : K.lookup f__law_right = some ⟨oc__law_right, od__law_right, .func (PySem.W.fnOf "_law_right" "_law_right" (defArgs s__law_right) (defBody s__law_right) (defScope s__law_right) .none kV__law_right dc__law_right pm__law_right an__law_right cd__law_right ct__law_right), sl__law_right⟩)
    (c__law_right : PySem.W.codeIn K cd__law_right "_law_right" = true)
    (k__law_right : PySem.W.keepIn K (.ref f__law_right) = true)
    (a_law : PySem.W.nsIn K mainGlobals "law" = some (some (.ref f_law)))
    (l_law : K.lookup f_law = some ⟨oc_law, od_law, .func (PySem.W.fnOf "law" "law" (defArgs s_law) (defBody s_law) (defScope s_law) .none kV_law dc_law pm_law an_law cd_law ct_law), sl_law⟩)
    (c_law : PySem.W.codeIn K cd_law "law" = true)
    (k_law : PySem.W.keepIn K (.ref f_law) = true)
    : ∃ fd : FuncData, (∀ (s : Shared) (v : Value), BindsTo s fd ⟨[v], []⟩ [("_law_script", v)]) ∧ ∀ base : Heap, K.In base → base.Ns mainGlobals mg → FnG l.prog w K mg base (L2.CX l.prog w) 10 fa fd ["_law_script"] (lawSp K 63) := by
  have gs_LETTERS := PySem.W.mg_of X G gs_LETTERS
  have z_str := PySem.W.mg_none_of X G z_str
  have z_isinstance := PySem.W.mg_none_of X G z_isinstance
  have z_len := PySem.W.mg_none_of X G z_len
  have gt_KEYWORDS := gtup_mk X G gt_KEYWORDS gl_KEYWORDS gz_KEYWORDS gv_KEYWORDS
  have z_tuple := PySem.W.mg_none_of X G z_tuple
  have Cl_Places := cls_mk pg_Places hd_Places po_Places sa_Places
  have fc_Places_sorted_places : FC K mg "Places" "sorted_places" := fc_mk X G m_Places Cl_Places na_Places_sorted_places
  have z_sorted := PySem.W.mg_none_of X G z_sorted
  have z_set := PySem.W.mg_none_of X G z_set
  have z_enumerate := PySem.W.mg_none_of X G z_enumerate
  have z_list := PySem.W.mg_none_of X G z_list
  have z_all := PySem.W.mg_none_of X G z_all
  have z_bool := PySem.W.mg_none_of X G z_bool
  have isc_Places : IsC K mg "Places" := isC_mk X G m_Places ⟨xi_Places, ty_Places, Cl_Places, xa_Places, xn, xt, xm_Places⟩
  have z_int := PySem.W.mg_none_of X G z_int
  have z_abs := PySem.W.mg_none_of X G z_abs
  have z_range := PySem.W.mg_none_of X G z_range
  have z_repr := PySem.W.mg_none_of X G z_repr
  have nec_Places : NeC K mg "Places" := ⟨A_Places, PySem.W.mg_of X G m_Places, nn_Places, so_Places⟩
  have z_any := PySem.W.mg_none_of X G z_any
  have sfc_Places : SfC K mg "Places" := ⟨A_Places, PySem.W.mg_of X G m_Places, sf_Places⟩
  have z_min := PySem.W.mg_none_of X G z_min
  have z_max := PySem.W.mg_none_of X G z_max
  have b_PatchedError : BaseC K mg "PatchedError" := base_mk X G m_PatchedError ga_PatchedError ty_PatchedError rd_PatchedError bi_PatchedError
  have O_BadPlaces := oex_mk lk_BadPlaces rv_BadPlaces sa_BadPlaces ex_BadPlaces ty_BadPlaces kc_BadPlaces
  have LE_BadPlaces : ELoc K mg "BadPlaces" "at" "self" "at" "BadPlaces.__init__" s_BadPlaces___init__ := eloc_mk X G m_BadPlaces O_BadPlaces na_BadPlaces_at ic_BadPlaces tI_BadPlaces k_BadPlaces___init__ l_BadPlaces___init__ c_BadPlaces___init__ (fun _ _ _ _ _ _ us hl => match us, hl with | [_, _], _ => rfl)
  have L_is_word : Loc K mg "is_word" s_is_word ["text"] := loc_mk X G a_is_word l_is_word c_is_word k_is_word (fun _ _ _ _ _ _ us hl => match us, hl with | [_], _ => rfl)
  have L_name_fits : Loc K mg "name_fits" s_name_fits ["text"] := loc_mk X G a_name_fits l_name_fits c_name_fits k_name_fits (fun _ _ _ _ _ _ us hl => match us, hl with | [_], _ => rfl)
  have L_read_step : Loc K mg "read_step" s_read_step ["text"] := loc_mk X G a_read_step l_read_step c_read_step k_read_step (fun _ _ _ _ _ _ us hl => match us, hl with | [_], _ => rfl)
  have L_read_path : Loc K mg "read_path" s_read_path ["text"] := loc_mk X G a_read_path l_read_path c_read_path k_read_path (fun _ _ _ _ _ _ us hl => match us, hl with | [_], _ => rfl)
  have L_is_place : Loc K mg "is_place" s_is_place ["text"] := loc_mk X G a_is_place l_is_place c_is_place k_is_place (fun _ _ _ _ _ _ us hl => match us, hl with | [_], _ => rfl)
  have L_Places___init__ : KLoc K mg "Places" "Places.__init__" s_Places___init__ ["self", "places"] := kloc_mk X G m_Places mk_Places at_Places___init__ fn_Places___init__ kc_Places k_Places___init__ l_Places___init__ c_Places___init__ (fun _ _ _ _ _ _ us hl => match us, hl with | [_, _], _ => rfl)
  have L_Places_of : CLoc K mg "Places" "of" "Places.of" s_Places_of := cloc_mk X G m_Places ga_Places rd_Places at_Places_of rc_Places_of fi_Places_of k_Places_of l_Places_of c_Places_of
  have L_Places_texts : MLoc K mg "Places" "texts" "Places.texts" s_Places_texts ["self"] := mloc_mk X G m_Places Cl_Places at_Places_texts fn_Places_texts k_Places_texts l_Places_texts c_Places_texts (fun _ _ _ _ _ _ us hl => match us, hl with | [_], _ => rfl)
  have L_Places_within : MLoc K mg "Places" "within" "Places.within" s_Places_within ["self", "other"] := mloc_mk X G m_Places Cl_Places at_Places_within fn_Places_within k_Places_within l_Places_within c_Places_within (fun _ _ _ _ _ _ us hl => match us, hl with | [_, _], _ => rfl)
  have L_Places___len__ : MLoc K mg "Places" "__len__" "Places.__len__" s_Places___len__ ["self"] := mloc_mk X G m_Places Cl_Places at_Places___len__ fn_Places___len__ k_Places___len__ l_Places___len__ c_Places___len__ (fun _ _ _ _ _ _ us hl => match us, hl with | [_], _ => rfl)
  have L_Places___bool__ : MLoc K mg "Places" "__bool__" "Places.__bool__" s_Places___bool__ ["self"] := mloc_mk X G m_Places Cl_Places at_Places___bool__ fn_Places___bool__ k_Places___bool__ l_Places___bool__ c_Places___bool__ (fun _ _ _ _ _ _ us hl => match us, hl with | [_], _ => rfl)
  have L_Places___contains__ : MLoc K mg "Places" "__contains__" "Places.__contains__" s_Places___contains__ ["self", "place"] := mloc_mk X G m_Places Cl_Places at_Places___contains__ fn_Places___contains__ k_Places___contains__ l_Places___contains__ c_Places___contains__ (fun _ _ _ _ _ _ us hl => match us, hl with | [_, _], _ => rfl)
  have L_Places___eq__ : MLoc K mg "Places" "__eq__" "Places.__eq__" s_Places___eq__ ["self", "other"] := mloc_mk X G m_Places Cl_Places at_Places___eq__ fn_Places___eq__ k_Places___eq__ l_Places___eq__ c_Places___eq__ (fun _ _ _ _ _ _ us hl => match us, hl with | [_, _], _ => rfl)
  have L_Places___or__ : MLoc K mg "Places" "__or__" "Places.__or__" s_Places___or__ ["self", "other"] := mloc_mk X G m_Places Cl_Places at_Places___or__ fn_Places___or__ k_Places___or__ l_Places___or__ c_Places___or__ (fun _ _ _ _ _ _ us hl => match us, hl with | [_, _], _ => rfl)
  have L_Places___and__ : MLoc K mg "Places" "__and__" "Places.__and__" s_Places___and__ ["self", "other"] := mloc_mk X G m_Places Cl_Places at_Places___and__ fn_Places___and__ k_Places___and__ l_Places___and__ c_Places___and__ (fun _ _ _ _ _ _ us hl => match us, hl with | [_, _], _ => rfl)
  have L_Places___sub__ : MLoc K mg "Places" "__sub__" "Places.__sub__" s_Places___sub__ ["self", "other"] := mloc_mk X G m_Places Cl_Places at_Places___sub__ fn_Places___sub__ k_Places___sub__ l_Places___sub__ c_Places___sub__ (fun _ _ _ _ _ _ us hl => match us, hl with | [_, _], _ => rfl)
  have L_Places___repr__ : MLoc K mg "Places" "__repr__" "Places.__repr__" s_Places___repr__ ["self"] := mloc_mk X G m_Places Cl_Places at_Places___repr__ fn_Places___repr__ k_Places___repr__ l_Places___repr__ c_Places___repr__ (fun _ _ _ _ _ _ us hl => match us, hl with | [_], _ => rfl)
  have L__law_source : Loc K mg "_law_source" s__law_source ["_law_script", "_law_place"] := loc_mk X G a__law_source l__law_source c__law_source k__law_source (fun _ _ _ _ _ _ us hl => match us, hl with | [_, _], _ => rfl)
  have L__law_draw : Loc K mg "_law_draw" s__law_draw ["_law_s", "_law_many"] := loc_mk X G a__law_draw l__law_draw c__law_draw k__law_draw (fun _ _ _ _ _ _ us hl => match us, hl with | [_, _], _ => rfl)
  have L__law_of : Loc K mg "_law_of" s__law_of ["_law_source_here", "_law_some"] := loc_mk X G a__law_of l__law_of c__law_of k__law_of (fun _ _ _ _ _ _ us hl => match us, hl with | [_, _], _ => rfl)
  have L__law_names : Loc K mg "_law_names" s__law_names ["_law_source_here", "_law_many", "_law_longest"] := loc_mk X G a__law_names l__law_names c__law_names k__law_names (fun _ _ _ _ _ _ us hl => match us, hl with | [_, _, _], _ => rfl)
  have L__law_pool : Loc K mg "_law_pool" s__law_pool ["_law_source_here"] := loc_mk X G a__law_pool l__law_pool c__law_pool k__law_pool (fun _ _ _ _ _ _ us hl => match us, hl with | [_], _ => rfl)
  have L__law_drawn : Loc K mg "_law_drawn" s__law_drawn ["_law_source_here", "_law_pool_here"] := loc_mk X G a__law_drawn l__law_drawn c__law_drawn k__law_drawn (fun _ _ _ _ _ _ us hl => match us, hl with | [_, _], _ => rfl)
  have L__law_is : Loc K mg "_law_is" s__law_is ["_law_told", "_law_due"] := loc_mk X G a__law_is l__law_is c__law_is k__law_is (fun _ _ _ _ _ _ us hl => match us, hl with | [_, _], _ => rfl)
  have L__law_apart : Loc K mg "_law_apart" s__law_apart ["_law_one", "_law_first"] := loc_mk X G a__law_apart l__law_apart c__law_apart k__law_apart (fun _ _ _ _ _ _ us hl => match us, hl with | [_, _], _ => rfl)
  have L__law_right : Loc K mg "_law_right" s__law_right ["_law_source_here"] := loc_mk X G a__law_right l__law_right c__law_right k__law_right (fun _ _ _ _ _ _ us hl => match us, hl with | [_], _ => rfl)
  refine law_mk X G hfa a_law l_law c_law k_law (fun _ _ _ _ _ _ _ => rfl) (fun xs h => law_ok h) fun fd F base _ _ => ?_
  have E_BadPlaces_ok := ok_e_BadPlaces (P := l.prog) (w := w) (base := base) LE_BadPlaces b_PatchedError
  have C_is_word_ok := ok_is_word (P := l.prog) (w := w) (base := base) L_is_word gs_LETTERS z_str z_isinstance z_len
  have C_name_fits_ok := ok_name_fits (P := l.prog) (w := w) (base := base) L_name_fits gt_KEYWORDS C_is_word_ok
  have C_read_step_ok := ok_read_step (P := l.prog) (w := w) (base := base) L_read_step z_len gs_LETTERS C_name_fits_ok
  have C_read_path_ok := ok_read_path (P := l.prog) (w := w) (base := base) L_read_path z_tuple z_len gs_LETTERS z_str z_isinstance C_read_step_ok C_name_fits_ok
  have C_is_place_ok := ok_is_place (P := l.prog) (w := w) (base := base) L_is_place z_len z_str z_isinstance C_read_path_ok C_name_fits_ok
  have C_Places___init___ok := ok_Places___init__ (P := l.prog) (w := w) (base := base) L_Places___init__ fc_Places_sorted_places z_sorted z_set z_enumerate C_is_place_ok E_BadPlaces_ok
  have C_Places_of_ok := ok_Places_of (P := l.prog) (w := w) (base := base) L_Places_of z_list C_Places___init___ok
  have C_Places_texts_ok := ok_Places_texts (P := l.prog) (w := w) (base := base) L_Places_texts fc_Places_sorted_places z_list
  have C_Places_within_ok := ok_Places_within (P := l.prog) (w := w) (base := base) L_Places_within fc_Places_sorted_places z_all
  have C_Places___len___ok := ok_Places___len__ (P := l.prog) (w := w) (base := base) L_Places___len__ fc_Places_sorted_places z_len
  have C_Places___bool___ok := ok_Places___bool__ (P := l.prog) (w := w) (base := base) L_Places___bool__ fc_Places_sorted_places z_bool
  have C_Places___contains___ok := ok_Places___contains__ (P := l.prog) (w := w) (base := base) L_Places___contains__ z_str z_isinstance fc_Places_sorted_places
  have C_Places___eq___ok := ok_Places___eq__ (P := l.prog) (w := w) (base := base) L_Places___eq__ z_isinstance isc_Places fc_Places_sorted_places
  have C_Places___or___ok := ok_Places___or__ (P := l.prog) (w := w) (base := base) L_Places___or__ fc_Places_sorted_places C_Places___init___ok
  have C_Places___and___ok := ok_Places___and__ (P := l.prog) (w := w) (base := base) L_Places___and__ fc_Places_sorted_places C_Places___init___ok
  have C_Places___sub___ok := ok_Places___sub__ (P := l.prog) (w := w) (base := base) L_Places___sub__ fc_Places_sorted_places C_Places___init___ok
  have C_Places___repr___ok := ok_Places___repr__ (P := l.prog) (w := w) (base := base) L_Places___repr__ fc_Places_sorted_places
  have C__law_source_ok := ok__law_source (P := l.prog) (w := w) (base := base) L__law_source z_int z_abs z_len
  have C__law_draw_ok := ok__law_draw (P := l.prog) (w := w) (base := base) L__law_draw z_int
  have C__law_of_ok := ok__law_of (P := l.prog) (w := w) (base := base) L__law_of z_len C__law_draw_ok
  have C__law_names_ok := ok__law_names (P := l.prog) (w := w) (base := base) L__law_names z_range z_int C__law_draw_ok
  have C__law_pool_ok := ok__law_pool (P := l.prog) (w := w) (base := base) L__law_pool z_range C__law_of_ok C__law_names_ok
  have C__law_drawn_ok := ok__law_drawn (P := l.prog) (w := w) (base := base) L__law_drawn z_range C__law_draw_ok C__law_of_ok
  have C__law_is_ok := ok__law_is (P := l.prog) (w := w) (base := base) L__law_is z_repr z_sorted z_set z_len z_bool z_isinstance isc_Places z_list C_Places___repr___ok C_Places___len___ok C_Places___bool___ok C_Places_texts_ok
  have C__law_apart_ok := ok__law_apart (P := l.prog) (w := w) (base := base) L__law_apart nec_Places z_list C__law_is_ok C_Places___eq___ok C_Places_texts_ok C_Places___init___ok
  have C__law_right_ok := ok__law_right (P := l.prog) (w := w) (base := base) L__law_right z_any z_repr z_tuple z_all nec_Places z_sorted z_set sfc_Places z_list C__law_is_ok C_Places_of_ok C_Places___contains___ok C_Places___repr___ok C_Places_texts_ok C_Places___eq___ok C_Places_within_ok C_Places___or___ok C_Places___sub___ok C_Places___and___ok C__law_apart_ok C_Places___init___ok C__law_drawn_ok C__law_pool_ok
  exact ok_law F z_range z_len z_min z_max C__law_source_ok C__law_right_ok
end K49
open PySem PySem.W PyProof.Rows
set_option maxHeartbeats 0 in
theorem PySem.Challenge.cw_patchedplaces_k49_sets_of_places_holds : PySem.Challenge.rw_patchedplaces_k49_sets_of_places.Holds := by
  refine HdX.top ?_
  k_fill
  refine Sm.walk_ofG (l := PySem.Challenge.rw_patchedplaces_k49_sets_of_places) (n := 63) (k := 10) (x := "_law_script") (CX := fun w => L2.CX PySem.Challenge.rw_patchedplaces_k49_sets_of_places.prog w) (sp := fun w => Sm.lawSp _ 63) rfl (by decide) rfl ⟨⟨rfl, by decide, by decide⟩, rfl⟩ (fun w h Y => PySem.W.kIn_of Y) ?F (fun _ _ a xs hl hS => ⟨a, xs, rfl, hl, hS, fun _ => rfl⟩) (fun _ _ _ _ _ h => by obtain ⟨_, _, _, _, _, _, _, _, _, _, _, _, z⟩ := h; exact z)
  case F =>
    intro w mg fa h KX G hmg
    refine' K49.all_mk KX G hmg ?gs_LETTERS ?z_str ?z_isinstance ?z_len ?gt_KEYWORDS ?gl_KEYWORDS ?gz_KEYWORDS ?gv_KEYWORDS ?z_tuple ?m_Places ?pg_Places ?hd_Places ?po_Places ?sa_Places ?na_Places_sorted_places ?z_sorted ?z_set ?z_enumerate ?z_list ?z_all ?z_bool ?ty_Places ?xi_Places ?xa_Places ?xn ?xt ?xm_Places ?z_int ?z_abs ?z_range ?z_repr ?nn_Places ?so_Places ?z_any ?sf_Places ?z_min ?z_max ?m_BadPlaces ?ty_BadPlaces ?ex_BadPlaces ?kc_BadPlaces ?sa_BadPlaces ?na_BadPlaces_at ?lk_BadPlaces ?rv_BadPlaces ?ic_BadPlaces ?tI_BadPlaces ?l_BadPlaces___init__ ?c_BadPlaces___init__ ?k_BadPlaces___init__ ?m_PatchedError ?ty_PatchedError ?rd_PatchedError ?ga_PatchedError ?bi_PatchedError ?a_is_word ?l_is_word ?c_is_word ?k_is_word ?a_name_fits ?l_name_fits ?c_name_fits ?k_name_fits ?a_read_step ?l_read_step ?c_read_step ?k_read_step ?a_read_path ?l_read_path ?c_read_path ?k_read_path ?a_is_place ?l_is_place ?c_is_place ?k_is_place ?kc_Places ?mk_Places ?at_Places___init__ ?fn_Places___init__ ?l_Places___init__ ?c_Places___init__ ?k_Places___init__ ?ga_Places ?rd_Places ?at_Places_of ?rc_Places_of ?fi_Places_of ?l_Places_of ?c_Places_of ?k_Places_of ?at_Places_texts ?fn_Places_texts ?l_Places_texts ?c_Places_texts ?k_Places_texts ?at_Places_within ?fn_Places_within ?l_Places_within ?c_Places_within ?k_Places_within ?at_Places___len__ ?fn_Places___len__ ?l_Places___len__ ?c_Places___len__ ?k_Places___len__ ?at_Places___bool__ ?fn_Places___bool__ ?l_Places___bool__ ?c_Places___bool__ ?k_Places___bool__ ?at_Places___contains__ ?fn_Places___contains__ ?l_Places___contains__ ?c_Places___contains__ ?k_Places___contains__ ?at_Places___eq__ ?fn_Places___eq__ ?l_Places___eq__ ?c_Places___eq__ ?k_Places___eq__ ?at_Places___or__ ?fn_Places___or__ ?l_Places___or__ ?c_Places___or__ ?k_Places___or__ ?at_Places___and__ ?fn_Places___and__ ?l_Places___and__ ?c_Places___and__ ?k_Places___and__ ?at_Places___sub__ ?fn_Places___sub__ ?l_Places___sub__ ?c_Places___sub__ ?k_Places___sub__ ?at_Places___repr__ ?fn_Places___repr__ ?l_Places___repr__ ?c_Places___repr__ ?k_Places___repr__ ?a__law_source ?l__law_source ?c__law_source ?k__law_source ?a__law_draw ?l__law_draw ?c__law_draw ?k__law_draw ?a__law_of ?l__law_of ?c__law_of ?k__law_of ?a__law_names ?l__law_names ?c__law_names ?k__law_names ?a__law_pool ?l__law_pool ?c__law_pool ?k__law_pool ?a__law_drawn ?l__law_drawn ?c__law_drawn ?k__law_drawn ?a__law_is ?l__law_is ?c__law_is ?k__law_is ?a__law_apart ?l__law_apart ?c__law_apart ?k__law_apart ?a__law_right ?l__law_right ?c__law_right ?k__law_right ?a_law ?l_law ?c_law ?k_law
    (case gs_LETTERS => k_is)
    (case z_str => k_is)
    (case z_isinstance => k_is)
    (case z_len => k_is)
    (case gt_KEYWORDS => k_is)
    (case gl_KEYWORDS => k_is)
    (case gz_KEYWORDS => (rw [sizeLine_eq]; decide))
    (case gv_KEYWORDS => exact Sm.vals_of_b (by decide +kernel))
    (case z_tuple => k_is)
    (case m_Places => k_is)
    (case pg_Places => k_is)
    (case hd_Places => k_is)
    (case po_Places => k_is)
    (case sa_Places => k_is)
    (case na_Places_sorted_places => k_is)
    (case z_sorted => k_is)
    (case z_set => k_is)
    (case z_enumerate => k_is)
    (case z_list => k_is)
    (case z_all => k_is)
    (case z_bool => k_is)
    (case ty_Places => k_is)
    (case xi_Places => k_is)
    (case xa_Places => k_is)
    (case xn => k_is)
    (case xt => k_is)
    (case xm_Places => k_is)
    (case z_int => k_is)
    (case z_abs => k_is)
    (case z_range => k_is)
    (case z_repr => k_is)
    (case nn_Places => k_is)
    (case so_Places => k_is)
    (case z_any => k_is)
    (case sf_Places => k_is)
    (case z_min => k_is)
    (case z_max => k_is)
    (case m_BadPlaces => k_is)
    (case ty_BadPlaces => k_is)
    (case ex_BadPlaces => k_is)
    (case kc_BadPlaces => k_is)
    (case sa_BadPlaces => k_is)
    (case na_BadPlaces_at => k_is)
    (case lk_BadPlaces => k_is)
    (case rv_BadPlaces => decide +kernel)
    (case ic_BadPlaces => k_is)
    (case tI_BadPlaces => k_is)
    (case l_BadPlaces___init__ => k_is)
    (case c_BadPlaces___init__ => k_is)
    (case k_BadPlaces___init__ => k_is)
    (case m_PatchedError => k_is)
    (case ty_PatchedError => k_is)
    (case rd_PatchedError => k_is)
    (case ga_PatchedError => k_is)
    (case bi_PatchedError => k_is)
    (case a_is_word => k_is)
    (case l_is_word => k_is)
    (case c_is_word => k_is)
    (case k_is_word => k_is)
    (case a_name_fits => k_is)
    (case l_name_fits => k_is)
    (case c_name_fits => k_is)
    (case k_name_fits => k_is)
    (case a_read_step => k_is)
    (case l_read_step => k_is)
    (case c_read_step => k_is)
    (case k_read_step => k_is)
    (case a_read_path => k_is)
    (case l_read_path => k_is)
    (case c_read_path => k_is)
    (case k_read_path => k_is)
    (case a_is_place => k_is)
    (case l_is_place => k_is)
    (case c_is_place => k_is)
    (case k_is_place => k_is)
    (case kc_Places => k_is)
    (case mk_Places => k_is)
    (case at_Places___init__ => k_is)
    (case fn_Places___init__ => k_is)
    (case l_Places___init__ => k_is)
    (case c_Places___init__ => k_is)
    (case k_Places___init__ => k_is)
    (case ga_Places => k_is)
    (case rd_Places => k_is)
    (case at_Places_of => k_is)
    (case rc_Places_of => k_is)
    (case fi_Places_of => k_is)
    (case l_Places_of => k_is)
    (case c_Places_of => k_is)
    (case k_Places_of => k_is)
    (case at_Places_texts => k_is)
    (case fn_Places_texts => k_is)
    (case l_Places_texts => k_is)
    (case c_Places_texts => k_is)
    (case k_Places_texts => k_is)
    (case at_Places_within => k_is)
    (case fn_Places_within => k_is)
    (case l_Places_within => k_is)
    (case c_Places_within => k_is)
    (case k_Places_within => k_is)
    (case at_Places___len__ => k_is)
    (case fn_Places___len__ => k_is)
    (case l_Places___len__ => k_is)
    (case c_Places___len__ => k_is)
    (case k_Places___len__ => k_is)
    (case at_Places___bool__ => k_is)
    (case fn_Places___bool__ => k_is)
    (case l_Places___bool__ => k_is)
    (case c_Places___bool__ => k_is)
    (case k_Places___bool__ => k_is)
    (case at_Places___contains__ => k_is)
    (case fn_Places___contains__ => k_is)
    (case l_Places___contains__ => k_is)
    (case c_Places___contains__ => k_is)
    (case k_Places___contains__ => k_is)
    (case at_Places___eq__ => k_is)
    (case fn_Places___eq__ => k_is)
    (case l_Places___eq__ => k_is)
    (case c_Places___eq__ => k_is)
    (case k_Places___eq__ => k_is)
    (case at_Places___or__ => k_is)
    (case fn_Places___or__ => k_is)
    (case l_Places___or__ => k_is)
    (case c_Places___or__ => k_is)
    (case k_Places___or__ => k_is)
    (case at_Places___and__ => k_is)
    (case fn_Places___and__ => k_is)
    (case l_Places___and__ => k_is)
    (case c_Places___and__ => k_is)
    (case k_Places___and__ => k_is)
    (case at_Places___sub__ => k_is)
    (case fn_Places___sub__ => k_is)
    (case l_Places___sub__ => k_is)
    (case c_Places___sub__ => k_is)
    (case k_Places___sub__ => k_is)
    (case at_Places___repr__ => k_is)
    (case fn_Places___repr__ => k_is)
    (case l_Places___repr__ => k_is)
    (case c_Places___repr__ => k_is)
    (case k_Places___repr__ => k_is)
    (case a__law_source => k_is)
    (case l__law_source => k_is)
    (case c__law_source => k_is)
    (case k__law_source => k_is)
    (case a__law_draw => k_is)
    (case l__law_draw => k_is)
    (case c__law_draw => k_is)
    (case k__law_draw => k_is)
    (case a__law_of => k_is)
    (case l__law_of => k_is)
    (case c__law_of => k_is)
    (case k__law_of => k_is)
    (case a__law_names => k_is)
    (case l__law_names => k_is)
    (case c__law_names => k_is)
    (case k__law_names => k_is)
    (case a__law_pool => k_is)
    (case l__law_pool => k_is)
    (case c__law_pool => k_is)
    (case k__law_pool => k_is)
    (case a__law_drawn => k_is)
    (case l__law_drawn => k_is)
    (case c__law_drawn => k_is)
    (case k__law_drawn => k_is)
    (case a__law_is => k_is)
    (case l__law_is => k_is)
    (case c__law_is => k_is)
    (case k__law_is => k_is)
    (case a__law_apart => k_is)
    (case l__law_apart => k_is)
    (case c__law_apart => k_is)
    (case k__law_apart => k_is)
    (case a__law_right => k_is)
    (case l__law_right => k_is)
    (case c__law_right => k_is)
    (case k__law_right => k_is)
    (case a_law => k_is)
    (case l_law => k_is)
    (case c_law => k_is)
    (case k_law => k_is)
