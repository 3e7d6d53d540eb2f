import PyProof.Rows.All
import Wide.All
import OpenK.AllK
import Wide.FinOn
import HandS.ForMost
import HandS.ForExc
import HandS.ExcInit
import HandS.ExcField
import HandS.CallSlots
import HandS.Ends
import PyProof.ReprRoads
import PyProof.ReprLen
import HandS.Style
import PyProof.P3Eq
import HandS.NamedTupGet
import HandS.IsInst
import HandS.FStr
import HandS.Iter
import HandS.DictComp
import HandS.Dict
import HandS.ExcIs
import KE.KExcIs
import HandS.SetKeys
import HandS.Property
import HandS.More
import HandS.WordsDict
import HandS.TupAny
import PyProof.Rows.SortStr
import PyProof.NeKinds
import PyProof.Rows.SetFrom
import HandS.Strs
import KE.DataEq
import HandS.ReplaceLit
import HandS.ReplaceDef
import HandS.ReplaceList
import PySem.Challenge.RW_patchedplaces_k18_class_orders
set_option Elab.async false
set_option linter.all false
set_option maxRecDepth 100000
/-! Sm0: promises of defs that know that no repr is under way around them. -/
namespace Sm
open PySem PySem.Spec PyProof.Rows L2
/-- room for a call; no repr is under way -/
structure RmG (k : Nat) (A : Around) : Prop extends Room k A where
  gd : A.guards = some []
section
variable {j k : Nat} {A : Around}
theorem RmG.mono (r : RmG k A) (h : j ≤ k) : RmG j A := ⟨r.toRoom.mono h, r.gd⟩
theorem RmG.deeper (r : RmG (k + 1) A) (e : Env) : RmG k (A.deeper e) := ⟨r.toRoom.deeper e, r.gd⟩
theorem RmG.units (r : RmG k A) : A.units + 64 < cLine := r.toRoom.units
end
/-- what a def keeps, called where no repr is under way -/
structure FnG (P : Program) (w : World) (K : PySem.W.Frag) (mg : Str → Option Value) (base : Heap) (CX : CXT) (k : Nat) (f : Addr) (fd : FuncData) (ps : List Str) (sp : Sp) : Prop where
  len : ∀ vs H Q E, sp vs H Q E → vs.length = ps.length
  run : ∀ (A : Around) (out : List Env) (s : Shared) (H : Hp) (as : Args) (us : List Value) (vs : List V) (Q : VK) (E : XK), RmG k A → Env0 P w K mg base A out s H → BindsTo s fd as (ps.zip us) → Vals vs us → sp vs H Q E →
    codeAny (model P w) A (.call (.ref f) as) (CR CX out P w H s Q E) s
section
variable {P : Program} {w : World} {K : PySem.W.Frag} {mg : Str → Option Value} {base : Heap} {CX : CXT} {k : Nat} {f : Addr} {fd : FuncData} {ps : List Str} {sp : Sp}
theorem FnG.imp {sp' : Sp} (F : FnG P w K mg base CX k f fd ps sp) (h : ∀ vs H Q E, sp' vs H Q E → sp vs H Q E) : FnG P w K mg base CX k f fd ps sp' :=
  ⟨fun vs H Q E q => F.len vs H Q E (h _ _ _ _ q), fun A out s H as us vs Q E a b c d e => F.run A out s H as us vs Q E a b c d (h _ _ _ _ e)⟩
theorem FnG.of (F : FnOk P w K mg base CX k f fd ps sp) : FnG P w K mg base CX k f fd ps sp :=
  ⟨F.len, fun A out s H as us vs Q E a b c d e => F.run A out s H as us vs Q E a.toRoom b c d e⟩
/-- a def by its body -/
theorem okG {x qual : Str} {st : Stmt} {N : List Str} (F : Fun K x qual st f fd) (S : FnScope N ps (defScope st)) (len : ∀ vs H Q E, sp vs H Q E → vs.length = ps.length)
    (hb : ∀ (cd : Value) (A : Around) (out : List Env) (s : Shared) (H : Hp) (vs : List V) (Q : VK) (E : XK), RmG k (A.deeper (envOfC qual (defScope st) s.heap.objs.size f cd)) → sp vs H Q E →
      ∃ t, PSs (cxOf CX P w K mg base N qual (defScope st) f cd A out s H E) (defBody st) t ∧ t { nx := fun _ H' => Q .non H', rt := Q } (start N vs) H) : FnG P w K mg base CX (k + 1) f fd ps sp := by
  obtain ⟨oc, od, kV, doc, pm, an, cd, ct, osl, rfl, lk, hc⟩ := F.ex
  constructor
  · exact len
  intro A out s H as us vs Q E room e0 bind val hsp
  have inS : K.In s.heap := e0.mod.kin.keeps fun b o z => (e0.bs b o z).1
  obtain ⟨t, ht, hq⟩ := hb cd A out s H vs Q E (room.deeper _) hsp
  have kinds : ∀ y ∈ ps.zip us, (defScope st).names.lookup y.1 = some .local ∨ ((defScope st).names.lookup y.1 = some .cell ∧ ((cellsFrom (s.heap.objs.size + 1) (defScope st).names []).lookup y.1).isSome = true) := by
    intro y hy
    obtain ⟨n, v⟩ := y
    exact (S.par n (List.of_mem_zip hy).1).imp id fun q => ⟨q, PySem.W.cellsFrom_some _ _ _ (.inl q)⟩
  apply codeAny_call_function room.toRoom.depth (inS _ _ lk) rfl S.co S.gen rfl (PySem.W.codeRec_of inS hc)
  apply bind
  apply wpAny_newFunctionEnv_cells S.kind kinds
  intro env henv s1 x
  subst henv
  have li : s.heap.NoLimit := e0.mod.nolimit.keeps fun b o z => (e0.bs b o z).1
  refine ⟨li.keeps x.toInCall.keep, codeAny_func (wpAny_mono (ht.run [] s1 (start N vs) H _ (inv_start S room.hd e0 (len _ _ _ _ hsp) val x) hq) (fun fl s2 z => ?_) fun _ _ z => z)⟩
  cases fl with
  | next =>
    obtain ⟨_, H2, J, q⟩ := z
    exact ⟨.non, H2, J.os, J.bare, J.base, J.hok, rfl, q⟩
  | ret u =>
    obtain ⟨v, _, H2, J, rv, q⟩ := z
    exact ⟨v, H2, J.os, J.bare, J.base, J.hok, rv, q⟩
  | brk => obtain ⟨_, _, _, q⟩ := z; exact q.elim
  | cont => obtain ⟨_, _, _, q⟩ := z; exact q.elim
end
section
variable {X : Cx} {CX : CXT} {k : Nat} {f : Addr} {fd : FuncData} {ps : List Str} {sp : Sp} {E : L2.St → XK}
/-- the callee runs; what it raises is wished for at the slots of the call -/
theorem run_fnG {pins : List (Addr × Obj)} {σ : L2.St} {H : Hp} {s : Shared} {Q : VK} {us : List Value} {vs : List V} (F : FnG X.prog X.w X.K X.mg X.base CX k f fd ps sp) (hr : RmG k X.A) (hb : Binds X.K fd ps []) (hx : PassesAt CX X σ (E σ))
    (I : Inv X pins σ H s) (r : Vals vs us) (h : sp vs H Q (E σ)) : wpAny (model X.prog X.w) X.A (call (.ref f) us) (EP X pins σ Q) X.xe s := by
  have hl : us.length = ps.length := r.length.symm.trans (F.len _ _ _ _ h)
  have b := hb s us I.kIn (by simpa using hl)
  rw [List.append_nil] at b
  apply wpAny_call
  apply codeAny_mono (F.run X.A X.stack s H ⟨us, []⟩ us vs Q (E σ) hr I.env0 b r h)
  intro out s' z
  match out, z with
  | .error e, z => exact hx pins H s e s' I z
  | .ok (.ret u), z => exact I.after z
  | .ok .next, z => exact z.elim
  | .ok .brk, z => exact z.elim
  | .ok .cont, z => exact z.elim
theorem pe_callG {x : Str} {p pos : Pos} {e : Expr} {es : List Expr} {t : TA} (F : FnG X.prog X.w X.K X.mg X.base CX k f fd ps sp) (hr : RmG k X.A) (hg : Gl X x) (hm : X.mg x = some (.ref f)) (hk : PySem.W.keepIn X.K (.ref f) = true) (hb : Binds X.K fd ps [])
    (hx : ∀ σ, PassesAt CX X σ (E σ)) (ha : PA X (e :: es) t) (hd : (x == ("__debug__" : Str)) = false) (he : starEach (e :: es) X.env = (false, eval e X.env) :: starEach es X.env) (hp : (backTo pos (starEach es X.env)).any (·.1) = false) :
    PE X (.Call (.Name x p) (e :: es) [] pos) (tCallS sp E t) := by
  constructor
  intro pins s σ H Q I h
  apply wpAny_Call_Name_kw
  apply ld_glob I hg hm _ hd
  have go := ha.run pos pins s σ H _ I h
  exact PySem.W.callWith_K (h₀ := X.base) I.ok.mod.kin hk (thn go fun us s1 z => by
    obtain ⟨vs, H1, J, r, q⟩ := z
    exact ⟨J.kIn, run_fnG F hr hb (hx σ) J r q⟩) he hp
end
/-! ### a law -/
section
variable {P : Program} {w : World} {K : PySem.W.Frag} {mg mb : Str → Option Value} {CX : CXT} {k : Nat} {fa a : Addr} {fd : FuncData} {x : Str} {sp : Sp} {s0 : Shared} {us : List Value} {ns : List Int}
/-- the law's call from a heap in which at most the script is tracked -/
theorem law_at {H : Hp} {g : Obj} (KX : K.In s0.heap) (hn : s0.heap.Ns mainGlobals mg) (hb : s0.heap.Ns builtinsNs mb) (hbb : ∀ x : Str, x ≠ "__name__" → mb x = bootBuiltins x) (hl : s0.heap.NoLimit) (hg : s0.gens = #[])
    (ga : s0.heap.get? a = some g) (gl : ∀ es n, g.data ≠ .dict es n) (hr : RmG k callerA) (F : ∀ base : Heap, K.In base → base.Ns mainGlobals mg → FnG P w K mg base CX k fa fd [x] sp) (bi : ∀ (s : Shared) (u : Value), BindsTo s fd ⟨[u], []⟩ [(x, u)])
    (ok : HOk P w H s0.heap) (only : ∀ b, H b ≠ none → b = a ∧ K.lookup a = none ∧ ∃ o xs, H b = some (.frz o (.lst xs))) (hsp : sp [.ref a] H (fun v _ => v = .bl true) fun _ _ _ => False) (hC : ∀ e s', CX [] H s0 (fun _ _ _ => False) e s' → False) :
    codeAny (model P w) callerA (.call (.ref fa) ⟨[.ref a], []⟩) (fun r s' => r = .ok (.ret (.bool true)) ∧ OldK s0.heap s'.heap ∧ s'.os = s0.os ∧ AllBare s'.gens) s0 := by
  have fresh : ∀ b, b ≠ a → H b = none := fun b hb => by
    cases q : H b with
    | none => rfl
    | some u => exact absurd (only b (by rw [q]; exact fun z => by cases z)).1 hb
  have dictN : ∀ {b : Addr} {o : Obj} {es : Array DictEntry} {n : Nat}, s0.heap.get? b = some o → o.data = .dict es n → H b = none := fun {b o es n} e d => fresh b fun hb => by
    subst hb
    rw [ga] at e
    cases e
    exact gl es n d
  have low : ∀ {b : Addr} {m : Str → Option Value}, s0.heap.Ns b m → (hidT s0.heap H).Ns b m := fun {b m} ⟨o, es, n, e, d, r⟩ => ⟨o, es, n, hidT_get e (dictN e d), d, r⟩
  have KB : K.In (hidT s0.heap H) := fun b o e => hidT_get (KX b o e) (by
    cases q : H b with
    | none => rfl
    | some u =>
      obtain ⟨z1, z2, _⟩ := only b (by rw [q]; exact fun z => by cases z)
      subst z1
      rw [z2] at e
      cases e)
  obtain ⟨mc, l1, l2⟩ := hl
  have M : Mod K mg (hidT s0.heap H) := ⟨KB, low hn, ⟨mb, low hb, hbb⟩, ⟨mc, low l1, l2⟩⟩
  have nofr : ∀ b : Addr, b ∉ frs ([] : List Env) := fun b z => by cases z
  have e0 : Env0 P w K mg (hidT s0.heap H) callerA [] s0 H := ⟨rfl, M, fun b o e => of_hidT e, Nat.le_of_eq (hidT_size _ _), trivial, fun b hb => absurd hb (nofr b), ok, .of_eq hg⟩
  apply codeAny_mono ((F _ KB (low hn)).run callerA [] s0 H ⟨[.ref a], []⟩ [.ref a] [.ref a] _ _ hr e0 (bi s0 (.ref a)) (.cons rfl .nil) hsp)
  intro r s' z
  match r, z with
  | .error e, z => exact (hC e s' z).elim
  | .ok .next, z => exact z.elim
  | .ok .brk, z => exact z.elim
  | .ok .cont, z => exact z.elim
  | .ok (.ret u), z =>
    obtain ⟨v, H', hos, bare, un, ok', rv, hv⟩ := z
    cases hv
    obtain rfl : u = Value.bool true := rv
    refine ⟨rfl, OldK.of_keep fun b o e => ?_, hos, bare⟩
    cases q : H b with
    | none => exact un.keep b o e q (nofr b) (by simp)
    | some y =>
      obtain ⟨_, _, ob, xs, z⟩ := only b (by rw [q]; exact fun z => by cases z)
      obtain ⟨g1, _⟩ := ok b _ z
      obtain ⟨g2, _⟩ := ok' b _ (un.frzs b ob _ z)
      rw [e] at g1
      cases g1
      exact g2
theorem law_callG (KX : K.In s0.heap) (hn : s0.heap.Ns mainGlobals mg) (hb : s0.heap.Ns builtinsNs mb) (hbb : ∀ x : Str, x ≠ "__name__" → mb x = bootBuiltins x) (hl : s0.heap.NoLimit) (hg : s0.gens = #[])
    (ga : s0.heap.get? a = some { cls := .type "list", data := .seq us.toArray }) (hi : IntsAre us ns) (hz : ns.length ≤ sizeLine) (hr : RmG k callerA) (F : ∀ base : Heap, K.In base → base.Ns mainGlobals mg → FnG P w K mg base CX k fa fd [x] sp)
    (bi : ∀ (s : Shared) (u : Value), BindsTo s fd ⟨[u], []⟩ [(x, u)]) (hsp : ∀ H : Hp, SqL K H a (ns.map V.int) → sp [.ref a] H (fun v _ => v = .bl true) fun _ _ _ => False) (hC : ∀ H e s', CX [] H s0 (fun _ _ _ => False) e s' → False) :
    codeAny (model P w) callerA (.call (.ref fa) ⟨[.ref a], []⟩) (fun r s' => r = .ok (.ret (.bool true)) ∧ OldK s0.heap s'.heap ∧ s'.os = s0.os ∧ AllBare s'.gens) s0 := by
  have rv := vals_ints hi
  have ln := hi.length
  have nod : ∀ (es : Array DictEntry) (n : Nat), ({ cls := .type "list", data := .seq us.toArray } : Obj).data ≠ .dict es n := fun es n z => by
    have z : Data.seq us.toArray _ = Data.dict es n := z
    cases z
  rcases hk : K.lookup a with _ | o
  · let H : Hp := fun b => if b = a then some (.frz { cls := .type "list", data := .seq us.toArray } (.lst (ns.map V.int))) else none
    have hH : H a = some (.frz { cls := .type "list", data := .seq us.toArray } (.lst (ns.map V.int))) := if_pos rfl
    have hN : ∀ b, b ≠ a → H b = none := fun b hb => if_neg hb
    refine law_at (H := H) KX hn hb hbb hl hg ga nod hr F bi (fun b u z => ?_) (fun b z => ?_) (hsp H (.inl (.inr ⟨_, hH⟩))) (hC H)
    · by_cases e : b = a
      · subst e
        rw [hH] at z
        cases z
        exact ⟨ga, by rw [List.length_map]; exact hz, us, _, rv, ga⟩
      · rw [hN b e] at z; cases z
    · by_cases e : b = a
      · subst e; exact ⟨rfl, hk, _, _, hH⟩
      · exact absurd (hN b e) z
  · have e := KX a o hk
    rw [ga] at e
    cases e
    exact law_at (H := fun _ => none) KX hn hb hbb hl hg ga nod hr F bi (fun b u z => by have z : (none : Option HO) = some u := z; cases z) (fun b z => absurd rfl z)
      (hsp _ (.inr ⟨_, us.toArray, _, hk, rfl, rfl, rfl, by rw [List.size_toArray, ln]; exact hz, by simpa using rv⟩)) (hC _)
/-- the goal that k_head leaves -/
theorem walk_ofG {l : PySem.W.OpenLaw} {n : Nat} {q : Program} {loose : List Str} {XP : (Str → Option Value) → Heap → Prop} {YP : World → Heap → Prop} {d : DefRec} {K : Params → PySem.W.Frag} {CX : World → CXT} {sp : World → Sp}
    (hn : l.most = some n) (hz : n ≤ sizeLine) (hdf : d.params.defaults = []) (hr : RmG k callerA) (hY : ∀ (w : World) (h : Heap), YP w h → (K w.params).In h)
    (F : ∀ (w : World) (mg : Str → Option Value) (fa : Addr) (h : Heap), (K w.params).In h → h.Ns mainGlobals mg → mg d.name = some (.ref fa) → ∃ fd : FuncData, (∀ (s : Shared) (u : Value), BindsTo s fd ⟨[u], []⟩ [(x, u)]) ∧
        ∀ base : Heap, (K w.params).In base → base.Ns mainGlobals mg → FnG l.prog w (K w.params) mg base (CX w) k fa fd [x] (sp w))
    (hsp : ∀ (w : World) (H : Hp) (a : Addr) (ns : List Int), ns.length ≤ n → SqL (K w.params) H a (ns.map V.int) → sp w [.ref a] H (fun v _ => v = .bl true) fun _ _ _ => False)
    (hC : ∀ (w : World) (H : Hp) (s : Shared) (e : Value) (s' : Shared), CX w [] H s (fun _ _ _ => False) e s' → False) : PySem.W.WalkO q loose XP YP l.row.toRowW d [] (fun f vs => PySem.call f vs) := by
  apply Att.attach_call hn hdf
  intro w _ s1 mg mb fa _ _ _ _ a us ns G Y _ _ _ hm ho hi hl hg
  have KX := hY w _ Y
  obtain ⟨fd, bi, hF⟩ := F w mg fa _ KX G.T.g hm
  exact law_callG KX G.T.g G.T.b G.T.builtins G.T.nolimit hg ho hi (Nat.le_trans hl hz) hr hF bi (fun H hS => hsp w H a ns hl hS) fun H e s' => hC w H s1 e s'
end
end Sm
/-! Sm: a functional reading of the hand layer: values as data, mutable objects in a store by numbers. -/
namespace Sm
open PySem PySem.Spec PyProof.Rows L2
/-- the written part; the module's names; the exception that is being handled here: its slot, its dict's number, itself, its dict -/
structure KX where
  k : PySem.W.Frag
  mg : Str → Option Value
  ex : Option (Nat × Nat × Addr × Addr)
/-- what is wished of an exception; the one that is being handled -/
structure WZ where
  x : WX
  ex : Option (Nat × Nat × Addr × Addr) := none
def exOff (ex : Option (Nat × Nat × Addr × Addr)) (vs : List Nat) : Bool := match ex with
  | none => true
  | some (i, _) => !vs.contains i
/-- the class of a name -/
def clsV (mg : Str → Option Value) (C : Str) : Value := (mg C).getD .none
inductive IV where
  | non | bl (b : Bool) | int (i : Int) | str (s : Str) | adr (n : Nat) | lst (xs : List IV) | wls (xs : List IV) | tup (xs : List IV) | ref (a : Addr) | ty (n : String)
  deriving Inhabited
inductive Cell where
  | lst (xs : List IV) | dic (kvs : List (Key × IV)) | dicL (kvs : List (Key × IV)) | ins (C : Str) (fs : List (Str × IV)) | xd (fs : List (Str × IV))
abbrev Sto := List Cell
abbrev Slots := List (Option IV)
inductive Out (α : Type) where
  | ok (a : α) (S : Sto)
  | exc (C : Str) (n : Nat) (L : Slots) (S : Sto)
  | bad
def Out.bind {α β : Type} : Out α → (α → Sto → Out β) → Out β
  | .ok a S, k => k a S
  | .exc C n L S, _ => .exc C n L S
  | .bad, _ => .bad
@[simp] theorem Out.bind_ok {α β : Type} (a : α) (S : Sto) (k : α → Sto → Out β) : (Out.ok a S).bind k = k a S := rfl
@[simp] theorem Out.bind_exc {α β : Type} (C n L) (S : Sto) (k : α → Sto → Out β) : (Out.exc C n L S).bind k = .exc C n L S := rfl
@[simp] theorem Out.bind_bad {α β : Type} (k : α → Sto → Out β) : (Out.bad).bind k = .bad := rfl
structure Wd where
  rho : List Addr
  F : Hp
  G : Hp
structure Wd.lr (w w' : Wd) : Prop where
  rho : ∃ more, w'.rho = w.rho ++ more
  F : Same w.F w'.F
structure Wd.le (w w' : Wd) : Prop extends Wd.lr w w' where
  G : w'.G = w.G
/-- .. and what is locked stays -/
structure Wd.lz (w w' : Wd) : Prop extends Wd.lr w w' where
  fz : ∀ (a : Addr) (u : Obj) (v : HO), w.G a = some (.frz u v) → w'.G a = some (.frz u v)
theorem Wd.le.lz {w w' : Wd} (h : w.le w') : w.lz w' := ⟨h.1, fun a u v e => by rw [h.G]; exact e⟩
theorem Wd.lr.refl (w : Wd) : w.lr w := ⟨⟨[], by simp⟩, Same.refl _⟩
theorem Wd.lr.trans {a b c : Wd} (h : a.lr b) (k : b.lr c) : a.lr c := by
  obtain ⟨⟨m, e⟩, f⟩ := h
  obtain ⟨⟨m', e'⟩, f'⟩ := k
  exact ⟨⟨m ++ m', by rw [e', e, List.append_assoc]⟩, f.trans f'⟩
theorem Wd.le.refl (w : Wd) : w.le w := ⟨Wd.lr.refl w, rfl⟩
theorem Wd.le.trans {a b c : Wd} (h : a.le b) (k : b.le c) : a.le c := ⟨h.1.trans k.1, k.2.trans h.2⟩
theorem Wd.lr.get {w w' : Wd} (h : w.lr w') {n : Nat} {a : Addr} (e : w.rho[n]? = some a) : w'.rho[n]? = some a := by
  obtain ⟨m, e'⟩ := h.rho
  rw [e', List.getElem?_append_left (List.getElem?_eq_some_iff.mp e).1]
  exact e
mutual
inductive Rel (K : KX) (w : Wd) : V → IV → Prop
  | non : Rel K w .non .non
  | bl (b : Bool) : Rel K w (.bl b) (.bl b)
  | int (i : Int) : Rel K w (.int i) (.int i)
  | str (x : Str) : Rel K w (.str x) (.str x)
  | adr {n : Nat} {a : Addr} : w.rho[n]? = some a → Rel K w (.ref a) (.adr n)
  | lst {a : Addr} {xs : List V} {ivs : List IV} : w.F a = some (.lst xs) → RelL K w xs ivs → Rel K w (.ref a) (.lst ivs)
  | wls {a : Addr} {xs : List V} {ivs : List IV} : SqL K.k w.F a xs → RelL K w xs ivs → Rel K w (.ref a) (.wls ivs)
  | tup {a : Addr} {xs : List V} {ivs : List IV} : SqT K.k w.F a xs → RelL K w xs ivs → Rel K w (.ref a) (.tup ivs)
  | ref (a : Addr) : Rel K w (.ref a) (.ref a)
  | ty (n : String) : Rel K w (.ty n) (.ty n)
inductive RelL (K : KX) (w : Wd) : List V → List IV → Prop
  | nil : RelL K w [] []
  | cons {v : V} {vs : List V} {iv : IV} {ivs : List IV} : Rel K w v iv → RelL K w vs ivs → RelL K w (v :: vs) (iv :: ivs)
end
theorem same_t {K : PySem.W.Frag} {H H' : Hp} {a : Addr} {xs : List V} (e : Same H H') (h : SqT K H a xs) : SqT K H' a xs := by
  rcases h with (h | ⟨o, h⟩) | h
  · exact .inl (.inl (e _ _ h))
  · exact .inl (.inr ⟨o, e _ _ h⟩)
  · exact .inr h
section
variable {K : KX} {w w' : Wd}
mutual
theorem Rel.mono (l : w.lr w') : ∀ (iv : IV) (v : V), Rel K w v iv → Rel K w' v iv
  | .non, _, h => by cases h; exact .non
  | .bl b, _, h => by cases h; exact .bl b
  | .int b, _, h => by cases h; exact .int b
  | .str b, _, h => by cases h; exact .str b
  | .adr n, _, h => by
    cases h with
    | adr e => exact .adr (l.get e)
  | .lst ivs, _, h => by
    cases h with
    | lst e r => exact .lst (l.F _ _ e) (RelL.mono l ivs _ r)
  | .wls ivs, _, h => by
    cases h with
    | wls e r => exact .wls (l.F.seq e) (RelL.mono l ivs _ r)
  | .tup ivs, _, h => by
    cases h with
    | tup e r => exact .tup (same_t l.F e) (RelL.mono l ivs _ r)
  | .ref a, _, h => by cases h; exact .ref a
  | .ty n, _, h => by cases h; exact .ty n
theorem RelL.mono (l : w.lr w') : ∀ (ivs : List IV) (vs : List V), RelL K w vs ivs → RelL K w' vs ivs
  | [], _, h => by cases h; exact .nil
  | iv :: ivs, _, h => by
    cases h with
    | cons a b => exact .cons (Rel.mono l iv _ a) (RelL.mono l ivs _ b)
end
theorem Rel.up {v : V} {iv : IV} (h : Rel K w v iv) (l : w.le w') : Rel K w' v iv := Rel.mono l.1 _ _ h
theorem RelL.up {v : List V} {iv : List IV} (h : RelL K w v iv) (l : w.le w') : RelL K w' v iv := RelL.mono l.1 _ _ h
theorem RelL.length : ∀ {vs : List V} {ivs : List IV}, RelL K w vs ivs → vs.length = ivs.length
  | _, _, .nil => rfl
  | _, _, .cons _ h => by rw [List.length_cons, List.length_cons, RelL.length h]
theorem RelL.get : ∀ {vs : List V} {ivs : List IV} {i : Nat} {iv : IV}, RelL K w vs ivs → ivs[i]? = some iv → ∃ v, vs[i]? = some v ∧ Rel K w v iv
  | _, _, _, _, .nil, e => by simp at e
  | _, _, 0, _, .cons r _, e => by simp at e; subst e; exact ⟨_, rfl, r⟩
  | _, _, i + 1, iv, .cons _ t, e => by
    obtain ⟨u, h1, h2⟩ := RelL.get (i := i) (iv := iv) t (by simpa using e)
    exact ⟨u, by simpa using h1, h2⟩
theorem RelL.append : ∀ {xs ys : List V} {us ws : List IV}, RelL K w xs us → RelL K w ys ws → RelL K w (xs ++ ys) (us ++ ws)
  | _, _, _, _, .nil, s => s
  | _, _, _, _, .cons r t, s => .cons r (RelL.append t s)
theorem RelL.take : ∀ {xs : List V} {us : List IV} (n : Nat), RelL K w xs us → RelL K w (xs.take n) (us.take n)
  | _, _, 0, _ => .nil
  | _, _, _ + 1, .nil => .nil
  | _, _, n + 1, .cons r t => .cons r (RelL.take n t)
theorem RelL.drop : ∀ {xs : List V} {us : List IV} (n : Nat), RelL K w xs us → RelL K w (xs.drop n) (us.drop n)
  | _, _, 0, r => r
  | _, _, _ + 1, .nil => .nil
  | _, _, n + 1, .cons _ t => RelL.drop n t
theorem RelL.set {x : V} {u : IV} (r : Rel K w x u) : ∀ {xs : List V} {us : List IV} (i : Nat), RelL K w xs us → RelL K w (xs.set i x) (us.set i u)
  | _, _, _, .nil => .nil
  | _, _, 0, .cons _ t => .cons r t
  | _, _, i + 1, .cons q t => .cons q (RelL.set r i t)
theorem RelL.one {x : V} {u : IV} (r : Rel K w x u) : RelL K w [x] [u] := .cons r .nil
theorem RelL.erase : ∀ {xs : List V} {us : List IV} (i : Nat), RelL K w xs us → RelL K w (xs.eraseIdx i) (us.eraseIdx i)
  | _, _, _, .nil => .nil
  | _, _, 0, .cons _ t => t
  | _, _, i + 1, .cons q t => .cons q (RelL.erase i t)
end
def RelKV {κ : Type} (K : KX) (w : Wd) : List (κ × V) → List (κ × IV) → Prop := Paired fun (p : κ × V) (q : κ × IV) => p.1 = q.1 ∧ Rel K w p.2 q.2
theorem RelKV.mono {κ : Type} {K : KX} {w w' : Wd} (l : w.lr w') {a : List (κ × V)} {b : List (κ × IV)} (h : RelKV K w a b) : RelKV K w' a b :=
  Paired.mapP h fun _ _ z => ⟨z.1, Rel.mono l _ _ z.2⟩
def CellOk (K : KX) (w : Wd) (H : Hp) (a : Addr) : Cell → Prop
  | .lst ivs => ∃ xs, H a = some (.lst xs) ∧ RelL K w xs ivs
  | .dic kvs => ∃ ps, H a = some (.dK ps) ∧ RelKV K w ps kvs
  | .dicL kvs => ∃ o ps, w.G a = some (.frz o (.dK ps)) ∧ H a = some (.frz o (.dK ps)) ∧ RelKV K w ps kvs
  | .ins C fs => ∃ (Ca : Addr) (dx : Addr) (ps : List (Str × V)), K.mg C = some (.ref Ca) ∧ H a = some (.ins Ca dx ps) ∧ RelKV K w ps fs
  | .xd fs => ∃ ps, H a = some (.xd ps) ∧ RelKV K w ps fs
theorem CellOk.mono {K : KX} {w w' : Wd} {H H' : Hp} {a : Addr} {c : Cell} (h : CellOk K w H a c) (l : w.lr w') (e : H' a = H a) (g : ∀ o, w.G a = some o → w'.G a = some o) : CellOk K w' H' a c := by
  cases c with
  | lst ivs => obtain ⟨xs, h1, h2⟩ := h; exact ⟨xs, e.trans h1, RelL.mono l _ _ h2⟩
  | dic ivs => obtain ⟨xs, h1, h2⟩ := h; exact ⟨xs, e.trans h1, h2.mono l⟩
  | dicL ivs => obtain ⟨o, xs, h0, h1, h2⟩ := h; exact ⟨o, xs, g _ h0, e.trans h1, h2.mono l⟩
  | ins C ivs => obtain ⟨Ca, dx, xs, h0, h1, h2⟩ := h; exact ⟨Ca, dx, xs, h0, e.trans h1, h2.mono l⟩
  | xd ivs => obtain ⟨xs, h1, h2⟩ := h; exact ⟨xs, e.trans h1, h2.mono l⟩
theorem CellOk.some {K : KX} {w : Wd} {H : Hp} {a : Addr} {c : Cell} (h : CellOk K w H a c) : ∃ o, H a = some o := by
  cases c with
  | lst ivs => obtain ⟨xs, h1, h2⟩ := h; exact ⟨_, h1⟩
  | dic ivs => obtain ⟨xs, h1, h2⟩ := h; exact ⟨_, h1⟩
  | dicL ivs => obtain ⟨o, xs, h0, h1, h2⟩ := h; exact ⟨_, h1⟩
  | ins C ivs => obtain ⟨Ca, dx, xs, h0, h1, h2⟩ := h; exact ⟨_, h1⟩
  | xd ivs => obtain ⟨xs, h1, h2⟩ := h; exact ⟨_, h1⟩
section
variable {K K' : KX} {w : Wd}
mutual
theorem Rel.cx (hk : K.k = K'.k) : ∀ (iv : IV) (v : V), Rel K w v iv → Rel K' w v iv
  | .non, _, h => by cases h; exact .non
  | .bl b, _, h => by cases h; exact .bl b
  | .int b, _, h => by cases h; exact .int b
  | .str b, _, h => by cases h; exact .str b
  | .adr n, _, h => by
    cases h with
    | adr e => exact .adr e
  | .lst ivs, _, h => by
    cases h with
    | lst e r => exact .lst e (RelL.cx hk ivs _ r)
  | .wls ivs, _, h => by
    cases h with
    | wls e r => exact .wls (hk ▸ e) (RelL.cx hk ivs _ r)
  | .tup ivs, _, h => by
    cases h with
    | tup e r => exact .tup (hk ▸ e) (RelL.cx hk ivs _ r)
  | .ref a, _, h => by cases h; exact .ref a
  | .ty n, _, h => by cases h; exact .ty n
theorem RelL.cx (hk : K.k = K'.k) : ∀ (ivs : List IV) (vs : List V), RelL K w vs ivs → RelL K' w vs ivs
  | [], _, h => by cases h; exact .nil
  | iv :: ivs, _, h => by
    cases h with
    | cons a b => exact .cons (Rel.cx hk iv _ a) (RelL.cx hk ivs _ b)
end
theorem RelKV.cx {κ : Type} (hk : K.k = K'.k) {a : List (κ × V)} {b : List (κ × IV)} (h : RelKV K w a b) : RelKV K' w a b :=
  Paired.mapP h fun _ _ z => ⟨z.1, Rel.cx hk _ _ z.2⟩
theorem CellOk.cx (hk : K.k = K'.k) (hm : K.mg = K'.mg) {H : Hp} {a : Addr} {c : Cell} (h : CellOk K w H a c) : CellOk K' w H a c := by
  cases c with
  | lst ivs => obtain ⟨xs, h1, h2⟩ := h; exact ⟨xs, h1, RelL.cx hk _ _ h2⟩
  | dic ivs => obtain ⟨xs, h1, h2⟩ := h; exact ⟨xs, h1, h2.cx hk⟩
  | dicL ivs => obtain ⟨o, xs, h0, h1, h2⟩ := h; exact ⟨o, xs, h0, h1, h2.cx hk⟩
  | ins C ivs => obtain ⟨Ca, dx, xs, h0, h1, h2⟩ := h; exact ⟨Ca, dx, xs, hm ▸ h0, h1, h2.cx hk⟩
  | xd ivs => obtain ⟨xs, h1, h2⟩ := h; exact ⟨xs, h1, h2.cx hk⟩
end
structure R (K : KX) (w : Wd) (S : Sto) (H : Hp) : Prop where
  len : w.rho.length = S.length
  nd : w.rho.Nodup
  cell : ∀ (n : Nat) (c : Cell) (a : Addr), S[n]? = some c → w.rho[n]? = some a → CellOk K w H a c
  own : ∀ (n : Nat) (a : Addr), w.rho[n]? = some a → w.F a = none ∧ (w.G a = none ∨ ∃ kvs, S[n]? = some (.dicL kvs))
  F : Same w.F H
  G : Same w.G H
  dis : ∀ (a : Addr) (o : HO), w.G a = some o → w.F a = none
theorem R.cx {K K' : KX} {w : Wd} {S : Sto} {H : Hp} (r : R K w S H) (hk : K.k = K'.k) (hm : K.mg = K'.mg) : R K' w S H :=
  ⟨r.len, r.nd, fun n c a h1 h2 => (r.cell n c a h1 h2).cx hk hm, r.own, r.F, r.G, r.dis⟩
section
variable {K : KX} {w : Wd} {S : Sto} {H : Hp}
theorem R.there (r : R K w S H) {n : Nat} {a : Addr} (h : w.rho[n]? = some a) : ∃ c, S[n]? = some c ∧ CellOk K w H a c := by
  have := (List.getElem?_eq_some_iff.mp h).1
  have e := List.getElem?_eq_getElem (l := S) (i := n) (by rw [← r.len]; exact this)
  exact ⟨_, e, r.cell n _ a e h⟩
theorem R.ne_new (r : R K w S H) {n : Nat} {a p : Addr} (h : w.rho[n]? = some a) (hp : H p = none) : a ≠ p := by
  obtain ⟨c, _, h2⟩ := r.there h
  obtain ⟨o, h3⟩ := h2.some
  exact ne_of_none h3 hp
/-- a new cell -/
theorem R.alloc (r : R K w S H) {p : Addr} {o : HO} {c : Cell} (hp : H p = none) (hc : ∀ w', w.le w' → CellOk K w' (upd H p o) p c) : w.le ⟨w.rho ++ [p], w.F, w.G⟩ ∧ R K ⟨w.rho ++ [p], w.F, w.G⟩ (S ++ [c]) (upd H p o) := by
  have l : w.le ⟨w.rho ++ [p], w.F, w.G⟩ := ⟨⟨⟨[p], rfl⟩, Same.refl _⟩, rfl⟩
  have key : ∀ {n : Nat} {a : Addr}, (w.rho ++ [p])[n]? = some a → (w.rho[n]? = some a ∧ n < w.rho.length) ∨ (n = w.rho.length ∧ a = p) := fun {n a} h => by
    by_cases hn : n < w.rho.length
    · rw [List.getElem?_append_left hn] at h; exact .inl ⟨h, hn⟩
    · have hlt := (List.getElem?_eq_some_iff.mp h).1
      rw [List.length_append, List.length_singleton] at hlt
      have e : n = w.rho.length := by omega
      subst e
      rw [List.getElem?_append_right (Nat.le_refl _), Nat.sub_self] at h
      exact .inr ⟨rfl, (Option.some.inj h).symm⟩
  refine ⟨l, ?_, ?_, fun n c' a h1 h2 => ?_, fun n a h => ?_, fun b u e => ?_, fun b u e => ?_, r.dis⟩
  · show (w.rho ++ [p]).length = (S ++ [c]).length
    rw [List.length_append, List.length_append, r.len]
    rfl
  · show (w.rho ++ [p]).Nodup
    rw [List.nodup_append]
    refine ⟨r.nd, by simp, fun a ha b hb => ?_⟩
    obtain ⟨n, h⟩ := List.getElem?_of_mem ha
    have : b = p := by simpa using hb
    rw [this]
    exact r.ne_new h hp
  · rcases key h2 with ⟨h, hn⟩ | ⟨h, e⟩
    · rw [List.getElem?_append_left (by rw [← r.len]; exact hn)] at h1
      exact (r.cell n c' a h1 h).mono l.1 (upd_ne (r.ne_new h hp)) fun _ z => z
    · subst e
      rw [h, r.len, List.getElem?_append_right (Nat.le_refl _), Nat.sub_self] at h1
      have : c = c' := Option.some.inj h1
      rw [← this]
      exact hc _ l
  · rcases key h with ⟨h, hn⟩ | ⟨h, e⟩
    · obtain ⟨g1, g2⟩ := r.own n a h
      refine ⟨g1, g2.imp id fun ⟨kvs, z⟩ => ⟨kvs, ?_⟩⟩
      rw [List.getElem?_append_left (List.getElem?_eq_some_iff.mp z).1]
      exact z
    · subst e
      constructor
      · cases q : w.F a with
        | none => rfl
        | some u => rw [r.F _ _ q] at hp; cases hp
      · left
        cases q : w.G a with
        | none => rfl
        | some u => rw [r.G _ _ q] at hp; cases hp
  · have := r.F _ _ e
    rw [upd_ne (ne_of_none this hp)]; exact this
  · have := r.G _ _ e
    rw [upd_ne (ne_of_none this hp)]; exact this
/-- a new object that never changes -/
theorem R.frz (r : R K w S H) {p : Addr} {o : HO} (hp : H p = none) : w.le ⟨w.rho, upd w.F p o, w.G⟩ ∧ R K ⟨w.rho, upd w.F p o, w.G⟩ S (upd H p o) := by
  have nF : w.F p = none := by
    cases q : w.F p with
    | none => rfl
    | some u => rw [r.F _ _ q] at hp; cases hp
  have l : w.le ⟨w.rho, upd w.F p o, w.G⟩ := ⟨⟨⟨[], by simp⟩, fun b u e => by
    show upd w.F p o b = some u
    rw [upd_ne (ne_of_none e nF)]; exact e⟩, rfl⟩
  refine ⟨l, r.len, r.nd, fun n c a h1 h2 => (r.cell n c a h1 h2).mono l.1 (upd_ne (r.ne_new h2 hp)) (fun _ z => z), fun n a h => ⟨?_, (r.own n a h).2⟩, fun b u e => ?_, fun b u e => ?_, fun b u e => ?_⟩
  · show upd w.F p o a = none
    rw [upd_ne (r.ne_new h hp)]; exact (r.own n a h).1
  · have e : upd w.F p o b = some u := e
    by_cases hb : b = p
    · subst hb; rw [upd_same] at e; rw [upd_same]; exact e
    · rw [upd_ne hb] at e; rw [upd_ne hb]; exact r.F _ _ e
  · have := r.G _ _ e
    rw [upd_ne (ne_of_none this hp)]; exact this
  · show upd w.F p o b = none
    rw [upd_ne (ne_of_none (r.G _ _ e) hp)]; exact r.dis _ _ e
/-- a cell is written -/
theorem R.write (r : R K w S H) {n : Nat} {a : Addr} {o : HO} {c : Cell} (h : w.rho[n]? = some a) (hc : CellOk K w (upd H a o) a c) (hnl : ∀ kvs, S[n]? ≠ some (.dicL kvs)) : R K w (S.set n c) (upd H a o) := by
  have hG : w.G a = none := (r.own n a h).2.elim id fun ⟨kvs, z⟩ => absurd z (hnl kvs)
  refine ⟨by rw [List.length_set]; exact r.len, r.nd, fun m c' b h1 h2 => ?_, fun m b hm => ?_, fun b u e => ?_, fun b u e => ?_, r.dis⟩
  · by_cases hm : m = n
    · subst hm
      rw [h] at h2; cases h2
      have hlt : m < S.length := by rw [← r.len]; exact (List.getElem?_eq_some_iff.mp h).1
      rw [List.getElem?_set_self hlt] at h1
      cases h1
      exact hc
    · rw [List.getElem?_set_ne (Ne.symm hm)] at h1
      have hb : b ≠ a := fun z => by
        subst z
        obtain ⟨i1, e1⟩ := List.getElem?_eq_some_iff.mp h
        obtain ⟨i2, e2⟩ := List.getElem?_eq_some_iff.mp h2
        exact hm ((List.getElem_inj r.nd).mp (e2.trans e1.symm))
      exact (r.cell m c' b h1 h2).mono (Wd.lr.refl w) (upd_ne hb) fun _ z => z
  · refine ⟨(r.own m b hm).1, ?_⟩
    rcases (r.own m b hm).2 with z | ⟨kvs, z⟩
    · exact .inl z
    · refine .inr ⟨kvs, ?_⟩
      by_cases hmn : m = n
      · subst hmn; exact absurd z (hnl kvs)
      · rw [List.getElem?_set_ne (Ne.symm hmn)]; exact z
  · rw [upd_ne (ne_of_none e (r.own n a h).1)]; exact r.F _ _ e
  · rw [upd_ne (ne_of_none e hG)]; exact r.G _ _ e
/-- an object of the frame -/
theorem R.ghost (r : R K w S H) {p : Addr} {o : HO} (hp : H p = none) : R K ⟨w.rho, w.F, upd w.G p o⟩ S (upd H p o) := by
  have nF : w.F p = none := by
    cases q : w.F p with
    | none => rfl
    | some u => rw [r.F _ _ q] at hp; cases hp
  refine ⟨r.len, r.nd, fun n c a h1 h2 => (r.cell n c a h1 h2).mono (Wd.lr.mk ⟨[], by simp⟩ (Same.refl _)) (upd_ne (r.ne_new h2 hp)) (fun o' z => by
    show upd w.G p o a = some o'
    rw [upd_ne (r.ne_new h2 hp)]; exact z), fun n a h => ⟨(r.own n a h).1, (r.own n a h).2.imp (fun z => ?_) id⟩, fun b u e => ?_, fun b u e => ?_, fun b u e => ?_⟩
  · show upd w.G p o a = none
    rw [upd_ne (r.ne_new h hp)]; exact z
  · have := r.F _ _ e
    rw [upd_ne (ne_of_none this hp)]; exact this
  · have e : upd w.G p o b = some u := e
    by_cases hb : b = p
    · subst hb; rw [upd_same] at e; rw [upd_same]; exact e
    · rw [upd_ne hb] at e; rw [upd_ne hb]; exact r.G _ _ e
  · have e : upd w.G p o b = some u := e
    by_cases hb : b = p
    · subst hb; exact nF
    · rw [upd_ne hb] at e; exact r.dis _ _ e
theorem R.ghostW {rho : List Addr} {F G : Hp} {p : Addr} {o o' : HO} (ho : ∀ u v, o ≠ .frz u v) (r : R K ⟨rho, F, upd G p o⟩ S H) : R K ⟨rho, F, upd G p o'⟩ S (upd H p o') := by
  have hF : F p = none := r.dis p o upd_same
  have hrho : ∀ n a, rho[n]? = some a → a ≠ p := fun n a h z => by
    subst z
    rcases (r.own n a h).2 with t | ⟨kvs, t⟩
    · have t : upd G a o a = none := t
      rw [upd_same] at t
      cases t
    · obtain ⟨o1, ps, h1, _⟩ := r.cell n _ a t h
      have h1 : upd G a o a = _ := h1
      rw [upd_same] at h1
      exact ho _ _ (Option.some.inj h1)
  refine ⟨r.len, r.nd, fun n c a h1 h2 => (r.cell n c a h1 h2).mono (Wd.lr.mk ⟨[], by simp⟩ (Same.refl _)) (upd_ne (hrho n a h2)) (fun o1 z => by
    have z : upd G p o a = some o1 := z
    show upd G p o' a = some o1
    rw [upd_ne (hrho n a h2)] at z ⊢; exact z), fun n a h => ⟨(r.own n a h).1, (r.own n a h).2.imp (fun z => ?_) id⟩, fun b u e => ?_, fun b u e => ?_, fun b u e => ?_⟩
  · show upd G p o' a = none
    rw [upd_ne (hrho n a h)]
    have t : upd G p o a = none := z
    rw [upd_ne (hrho n a h)] at t; exact t
  · have e : F b = some u := e
    rw [upd_ne (ne_of_none e hF)]; exact r.F _ _ e
  · have e : upd G p o' b = some u := e
    by_cases hb : b = p
    · subst hb; rw [upd_same] at e; rw [upd_same]; exact e
    · rw [upd_ne hb] at e; rw [upd_ne hb]; exact r.G b u (by show upd G p o b = some u; rw [upd_ne hb]; exact e)
  · have e : upd G p o' b = some u := e
    by_cases hb : b = p
    · subst hb; exact hF
    · rw [upd_ne hb] at e; exact r.dis b u (by show upd G p o b = some u; rw [upd_ne hb]; exact e)
/-- the ghost becomes an object that never changes -/
theorem R.ghostF {rho : List Addr} {F G : Hp} {p : Addr} {o : HO} (ho : ∀ u v, o ≠ .frz u v) (r : R K ⟨rho, F, upd G p o⟩ S H) (hG : G p = none) : R K ⟨rho, upd F p o, G⟩ S H := by
  have hF : F p = none := r.dis p o upd_same
  have hrho : ∀ n a, rho[n]? = some a → a ≠ p := fun n a h z => by
    subst z
    rcases (r.own n a h).2 with t | ⟨kvs, t⟩
    · have t : upd G a o a = none := t
      rw [upd_same] at t
      cases t
    · obtain ⟨o1, ps, h1, _⟩ := r.cell n _ a t h
      have h1 : upd G a o a = _ := h1
      rw [upd_same] at h1
      exact ho _ _ (Option.some.inj h1)
  refine ⟨r.len, r.nd, fun n c a h1 h2 => (r.cell n c a h1 h2).mono ⟨⟨[], by simp⟩, fun b u e => ?_⟩ rfl (fun o1 z => by
    have z : upd G p o a = some o1 := z
    rw [upd_ne (hrho n a h2)] at z; exact z), fun n a h => ⟨?_, (r.own n a h).2.imp (fun z => ?_) id⟩, fun b u e => ?_, fun b u e => ?_, fun b u e => ?_⟩
  · have e : F b = some u := e
    show upd F p o b = some u
    rw [upd_ne (ne_of_none e hF)]; exact e
  · show upd F p o a = none
    rw [upd_ne (hrho n a h)]; exact (r.own n a h).1
  · have t : upd G p o a = none := z
    rw [upd_ne (hrho n a h)] at t; exact t
  · have e : upd F p o b = some u := e
    by_cases hb : b = p
    · subst hb; rw [upd_same] at e; exact r.G b u (by show upd G b o b = some u; rw [upd_same]; exact e)
    · rw [upd_ne hb] at e; exact r.F _ _ e
  · have e : G b = some u := e
    exact r.G b u (by show upd G p o b = some u; rw [upd_ne (ne_of_none e hG)]; exact e)
  · have e : G b = some u := e
    show upd F p o b = none
    rw [upd_ne (ne_of_none e hG)]
    exact r.dis b u (by show upd G p o b = some u; rw [upd_ne (ne_of_none e hG)]; exact e)
/-- the ghost becomes a cell -/
theorem R.ghostC {rho : List Addr} {F G : Hp} {p : Addr} {o : HO} {c : Cell} (ho : ∀ u v, o ≠ .frz u v) (r : R K ⟨rho, F, upd G p o⟩ S H) (hG : G p = none) (hc : ∀ w', Wd.lr ⟨rho, F, upd G p o⟩ w' → CellOk K w' H p c) : R K ⟨rho ++ [p], F, G⟩ (S ++ [c]) H := by
  have hF : F p = none := r.dis p o upd_same
  have hrho : ∀ n a, rho[n]? = some a → a ≠ p := fun n a h z => by
    subst z
    rcases (r.own n a h).2 with t | ⟨kvs, t⟩
    · have t : upd G a o a = none := t
      rw [upd_same] at t
      cases t
    · obtain ⟨o1, ps, h1, _⟩ := r.cell n _ a t h
      have h1 : upd G a o a = _ := h1
      rw [upd_same] at h1
      exact ho _ _ (Option.some.inj h1)
  have hlen : rho.length = S.length := r.len
  have l : Wd.lr ⟨rho, F, upd G p o⟩ ⟨rho ++ [p], F, G⟩ := ⟨⟨[p], rfl⟩, Same.refl _⟩
  have key : ∀ {n : Nat} {a : Addr}, (rho ++ [p])[n]? = some a → (rho[n]? = some a ∧ n < rho.length) ∨ (n = rho.length ∧ a = p) := fun {n a} h => by
    by_cases hn : n < rho.length
    · rw [List.getElem?_append_left hn] at h; exact .inl ⟨h, hn⟩
    · have hlt := (List.getElem?_eq_some_iff.mp h).1
      rw [List.length_append, List.length_singleton] at hlt
      have e : n = rho.length := by omega
      subst e
      rw [List.getElem?_append_right (Nat.le_refl _), Nat.sub_self] at h
      exact .inr ⟨rfl, (Option.some.inj h).symm⟩
  refine ⟨?_, ?_, fun n c' a h1 h2 => ?_, fun n a h => ?_, r.F, fun b u e => ?_, fun b u e => ?_⟩
  · show (rho ++ [p]).length = (S ++ [c]).length
    rw [List.length_append, List.length_append, hlen]
    rfl
  · show (rho ++ [p]).Nodup
    rw [List.nodup_append]
    refine ⟨r.nd, by simp, fun a ha b hb => ?_⟩
    obtain ⟨n, h⟩ := List.getElem?_of_mem ha
    have : b = p := by simpa using hb
    rw [this]
    exact hrho n a h
  · rcases key h2 with ⟨h, hn⟩ | ⟨h, e⟩
    · rw [List.getElem?_append_left (by rw [← hlen]; exact hn)] at h1
      exact (r.cell n c' a h1 h).mono l rfl fun o1 z => by
        have z : upd G p o a = some o1 := z
        rw [upd_ne (hrho n a h)] at z; exact z
    · subst e
      rw [h, hlen, List.getElem?_append_right (Nat.le_refl _), Nat.sub_self] at h1
      have : c = c' := Option.some.inj h1
      rw [← this]
      exact hc _ l
  · rcases key h with ⟨h, hn⟩ | ⟨h, e⟩
    · refine ⟨(r.own n a h).1, (r.own n a h).2.imp (fun z => ?_) fun ⟨kvs, z⟩ => ⟨kvs, ?_⟩⟩
      · have t : upd G p o a = none := z
        rw [upd_ne (hrho n a h)] at t; exact t
      · rw [List.getElem?_append_left (List.getElem?_eq_some_iff.mp z).1]; exact z
    · subst e
      exact ⟨hF, .inl hG⟩
  · have e : G b = some u := e
    exact r.G b u (by show upd G p o b = some u; rw [upd_ne (ne_of_none e hG)]; exact e)
  · have e : G b = some u := e
    exact r.dis b u (by show upd G p o b = some u; rw [upd_ne (ne_of_none e hG)]; exact e)
end
/-- the slots; that of the exception that is being handled tells nothing -/
structure SR (K : KX) (w : Wd) (σ : L2.St) (Λ : Slots) : Prop where
  len : σ.length = Λ.length
  get : ∀ (i : Nat) (iv : IV), Λ[i]? = some (some iv) → ∃ v, σ[i]? = some (some v) ∧ Rel K w v iv
  ex : ∀ (i n : Nat) (a d : Addr), K.ex = some (i, n, a, d) → Λ[i]? = some none → σ[i]? = some (some (.ref a)) ∧ w.rho[n]? = some d
theorem SR.mono {K : KX} {w w' : Wd} {σ : L2.St} {Λ : Slots} (h : SR K w σ Λ) (l : w.lr w') : SR K w' σ Λ :=
  ⟨h.len, fun i iv e => let ⟨v, h1, h2⟩ := h.get i iv e; ⟨v, h1, Rel.mono l _ _ h2⟩, fun i n a d e1 e2 => ⟨(h.ex i n a d e1 e2).1, l.get (h.ex i n a d e1 e2).2⟩⟩
theorem SR.up {K : KX} {w w' : Wd} {σ : L2.St} {Λ : Slots} (h : SR K w σ Λ) (l : w.le w') : SR K w' σ Λ := h.mono l.1
theorem SR.set {K : KX} {w : Wd} {σ : L2.St} {Λ : Slots} (h : SR K w σ Λ) (i : Nat) {v : V} {iv : IV} (r : Rel K w v iv) : SR K w (σ.set i (some v)) (Λ.set i (some iv)) := by
  refine ⟨by rw [List.length_set, List.length_set]; exact h.len, fun j jv e => ?_, fun j n a d e1 e2 => ?_⟩
  · by_cases hj : j = i
    · subst hj
      have hlt : j < Λ.length := by have := (List.getElem?_eq_some_iff.mp e).1; rwa [List.length_set] at this
      rw [List.getElem?_set_self hlt] at e
      have : iv = jv := Option.some.inj (Option.some.inj e)
      rw [← this]
      exact ⟨v, by rw [List.getElem?_set_self (by rw [h.len]; exact hlt)], r⟩
    · rw [List.getElem?_set_ne (Ne.symm hj)] at e
      rw [List.getElem?_set_ne (Ne.symm hj)]
      exact h.get j jv e
  · by_cases hj : j = i
    · subst hj
      have hlt : j < Λ.length := by have := (List.getElem?_eq_some_iff.mp e2).1; rwa [List.length_set] at this
      rw [List.getElem?_set_self hlt] at e2
      cases e2
    · rw [List.getElem?_set_ne (Ne.symm hj)] at e2
      rw [List.getElem?_set_ne (Ne.symm hj)]
      exact h.ex j n a d e1 e2
theorem SR.setN {K : KX} {w : Wd} {σ : L2.St} {Λ : Slots} (h : SR K w σ Λ) (i : Nat) (u : Option V) (hx : exOff K.ex [i] = true) : SR K w (σ.set i u) (Λ.set i none) := by
  refine ⟨by rw [List.length_set, List.length_set]; exact h.len, fun j jv e => ?_, fun j n a d e1 e2 => ?_⟩
  · by_cases hj : j = i
    · subst hj
      have hlt : j < Λ.length := by have := (List.getElem?_eq_some_iff.mp e).1; rwa [List.length_set] at this
      rw [List.getElem?_set_self hlt] at e
      cases e
    · rw [List.getElem?_set_ne (Ne.symm hj)] at e
      rw [List.getElem?_set_ne (Ne.symm hj)]
      exact h.get j jv e
  · have hj : j ≠ i := fun z => by
      rw [e1, z] at hx
      simp [exOff] at hx
    rw [List.getElem?_set_ne (Ne.symm hj)] at e2
    rw [List.getElem?_set_ne (Ne.symm hj)]
    exact h.ex j n a d e1 e2
/-! ### what follows -/
def Post {α : Type} (K : KX) (W : WX) (w : Wd) (o : Out α) (P : Wd → Hp → Sto → α → Prop) : Prop :=
  match o with
  | .ok a S' => ∀ w' H', w.le w' → R K w' S' H' → P w' H' S' a
  | .exc C n L S' => ∀ w' H' a σ', w.le w' → R K w' S' H' → SR K w' σ' L → w'.rho[n]? = some a → W (clsV K.mg C) (some a) σ' H'
  | .bad => False
section
variable {K : KX} {W : WX} {w : Wd} {α β : Type}
theorem Post.bind {o : Out α} {k : α → Sto → Out β} {P : Wd → Hp → Sto → β → Prop} (h : Post K W w (o.bind k) P) : Post K W w o fun w' H' S' a => Post K W w' (k a S') P := by
  cases o with
  | ok a S' =>
    intro w' H' l r
    have h : Post K W w (k a S') P := h
    show Post K W w' (k a S') P
    cases e : k a S' with
    | ok b S2 =>
      rw [e] at h
      exact fun w2 H2 l2 r2 => h w2 H2 (l.trans l2) r2
    | exc C n L S2 =>
      rw [e] at h
      exact fun w2 H2 a2 σ2 l2 r2 s2 g => h w2 H2 a2 σ2 (l.trans l2) r2 s2 g
    | bad =>
      rw [e] at h
      exact h
  | exc C n L S' => exact h
  | bad => exact h
theorem Post.imp {o : Out α} {P P' : Wd → Hp → Sto → α → Prop} (h : Post K W w o P) (f : ∀ w' H' S' a, w.le w' → R K w' S' H' → P w' H' S' a → P' w' H' S' a) : Post K W w o P' := by
  cases o with
  | ok a S' => exact fun w' H' l r => f w' H' S' a l r (h w' H' l r)
  | exc C n L S' => exact h
  | bad => exact h
theorem Post.now {a : α} {S : Sto} {H : Hp} {P : Wd → Hp → Sto → α → Prop} (h : Post K W w (.ok a S) P) (r : R K w S H) : P w H S a := h w H (Wd.le.refl w) r
theorem Post.ok {a : α} {S : Sto} {H : Hp} {w' : Wd} {P : Wd → Hp → Sto → α → Prop} (h : Post K W w (.ok a S) P) (l : w.le w') (r : R K w' S H) : P w' H S a := h w' H l r
end
abbrev IE := Slots → Sto → Out IV
abbrev IT := Slots → Sto → Out Bool
abbrev IA := Slots → Sto → Out (List IV)
inductive Fl where
  | nx (L : Slots) | rt (v : IV) | bk (L : Slots) | ct (L : Slots)
abbrev IS := Slots → Sto → Out Fl
abbrev IG := IV → Slots → Sto → Out Slots
def eM (K : KX) (W : WX) (m : IE) : TE := fun σ H Q => ∃ w S Λ, R K w S H ∧ SR K w σ Λ ∧ Post K W w (m Λ S) fun w' H' _ iv => ∀ v, Rel K w' v iv → Q v H'
def tM (K : KX) (W : WX) (m : IT) : TT := fun σ H Q => ∃ w S Λ, R K w S H ∧ SR K w σ Λ ∧ Post K W w (m Λ S) fun _ H' _ b => Q b H'
def aM (K : KX) (W : WX) (m : IA) : TA := fun σ H Q => ∃ w S Λ, R K w S H ∧ SR K w σ Λ ∧ Post K W w (m Λ S) fun w' H' _ ivs => ∀ vs, RelL K w' vs ivs → Q vs H'
def FlP (K : KX) (w : Wd) (D : Ends) (H : Hp) : Fl → Prop
  | .nx L => ∀ σ, SR K w σ L → D.nx σ H
  | .rt iv => ∀ v, Rel K w v iv → D.rt v H
  | .bk L => ∀ σ, SR K w σ L → D.bk σ H
  | .ct L => ∀ σ, SR K w σ L → D.ct σ H
def sM (K : KX) (W : WX) (m : IS) : TS := fun D σ H => ∃ w S Λ, R K w S H ∧ SR K w σ Λ ∧ Post K W w (m Λ S) fun w' H' _ fl => FlP K w' D H' fl
def gM (K : KX) (W : WX) (m : IG) : TG := fun v σ H Q => ∃ w S Λ iv, R K w S H ∧ SR K w σ Λ ∧ Rel K w v iv ∧ Post K W w (m iv Λ S) fun w' H' _ L => ∀ σ', SR K w' σ' L → Q σ' H'
theorem _root_.L2.PE.imp {X : Cx} {e : Expr} {t t' : TE} (h : PE X e t) (f : ∀ σ H Q, t' σ H Q → t σ H Q) : PE X e t' := ⟨fun pins s σ H Q I q => h.run pins s σ H Q I (f σ H Q q)⟩
theorem _root_.L2.PT.imp {X : Cx} {e : Expr} {t t' : TT} (h : PT X e t) (f : ∀ σ H Q, t' σ H Q → t σ H Q) : PT X e t' := ⟨fun pins s σ H Q I q => h.run pins s σ H Q I (f σ H Q q)⟩
theorem _root_.L2.PW.imp {X : Cx} {e : Expr} {t t' : TT} (h : PW X e t) (f : ∀ σ H Q, t' σ H Q → t σ H Q) : PW X e t' := ⟨fun wh pins s σ H Q I q => h.run wh pins s σ H Q I (f σ H Q q)⟩
theorem _root_.L2.PA.imp {X : Cx} {e : List Expr} {t t' : TA} (h : PA X e t) (f : ∀ σ H Q, t' σ H Q → t σ H Q) : PA X e t' := ⟨fun p pins s σ H Q I q => h.run p pins s σ H Q I (f σ H Q q)⟩
theorem _root_.L2.PS.imp {X : Cx} {e : Stmt} {t t' : TS} (h : PS X e t) (f : ∀ D σ H, t' D σ H → t D σ H) : PS X e t' := ⟨fun pins s σ H D I q => h.run pins s σ H D I (f D σ H q)⟩
theorem _root_.L2.PSs.imp {X : Cx} {e : List Stmt} {t t' : TS} (h : PSs X e t) (f : ∀ D σ H, t' D σ H → t D σ H) : PSs X e t' := ⟨fun pins s σ H D I q => h.run pins s σ H D I (f D σ H q)⟩
theorem _root_.L2.PG.imp {X : Cx} {e : Expr} {t t' : TG} (h : PG X e t) (f : ∀ v σ H Q, t' v σ H Q → t v σ H Q) : PG X e t' := ⟨fun pins s σ H v u Q I r q => h.run pins s σ H v u Q I r (f v σ H Q q)⟩
theorem _root_.L2.PTs.imp {X : Cx} {e : List Expr} {t t' : TT} (h : PTs X e t) (f : ∀ σ H Q, t' σ H Q → t σ H Q) : PTs X e t' := ⟨fun pins s σ H Q I q => h.run pins s σ H Q I (f σ H Q q)⟩
end Sm
namespace Sm
open PySem PySem.Spec PyProof.Rows L2
def chk {α : Type} (p : Prop) [Decidable p] (o : Out α) : Out α := if p then o else .bad
theorem chk_pos {α : Type} {p : Prop} [Decidable p] {o : Out α} (h : p) : chk p o = o := if_pos h
theorem chk_neg {α : Type} {p : Prop} [Decidable p] {o : Out α} (h : ¬ p) : chk p o = .bad := if_neg h
theorem chk_post {α : Type} {K : KX} {W : WX} {w : Wd} {p : Prop} [Decidable p] {o : Out α} {P : Wd → Hp → Sto → α → Prop} (h : Post K W w (chk p o) P) : p ∧ Post K W w o P := by
  by_cases hp : p
  · rw [chk_pos hp] at h; exact ⟨hp, h⟩
  · rw [chk_neg hp] at h; exact h.elim
abbrev kx (X : Cx) (W : WZ) : KX := ⟨X.K, X.mg, W.ex⟩
/-! ### names, constants -/
def iVar (i : Nat) : IE := fun Λ S => match Λ[i]? with
  | some (some iv) => .ok iv S
  | _ => .bad
def iC (iv : IV) : IE := fun _ S => .ok iv S
section
variable {X : Cx} {W : WZ} {pos : Pos}
abbrev DE (X : Cx) (W : WZ) (e : Expr) (m : IE) : Prop := PE X e (eM (kx X W) W.x m)
abbrev DT (X : Cx) (W : WZ) (e : Expr) (m : IT) : Prop := PT X e (tM (kx X W) W.x m)
abbrev DW (X : Cx) (W : WZ) (e : Expr) (m : IT) : Prop := PW X e (tM (kx X W) W.x m)
abbrev DA (X : Cx) (W : WZ) (e : List Expr) (m : IA) : Prop := PA X e (aM (kx X W) W.x m)
abbrev DS (X : Cx) (W : WZ) (e : Stmt) (m : IS) : Prop := PS X e (sM (kx X W) W.x m)
abbrev DSs (X : Cx) (W : WZ) (e : List Stmt) (m : IS) : Prop := PSs X e (sM (kx X W) W.x m)
abbrev DG (X : Cx) (W : WZ) (e : Expr) (m : IG) : Prop := PG X e (gM (kx X W) W.x m)
theorem de_var (i : Nat) {x : Str} (hN : X.N[i]? = some x := by rfl) (hv : Vis X.env.scope x := by first | exact Or.inl rfl | exact Or.inr (Or.inl rfl) | exact Or.inr (Or.inr rfl)) (hd : (x == ("__debug__" : Str)) = false := by decide)
    (hcd : (x == ("__classdict__" : Str)) = false := by decide) : DE X W (.Name x pos) (iVar i) :=
  (pe_var hN hv hd hcd).imp fun σ H Q ⟨w, S, Λ, r, s, p⟩ => by
    unfold iVar at p
    split at p
    · rename_i iv e
      obtain ⟨v, h1, h2⟩ := s.get i iv e
      exact ⟨v, h1, p.now r v h2⟩
    · exact p.elim
theorem de_c {e : Expr} {v : V} {iv : IV} (h : PE X e (tC v)) (hr : ∀ w, Rel (kx X W) w v iv) : DE X W e (iC iv) :=
  h.imp fun σ H Q ⟨w, S, Λ, r, s, p⟩ => p.now r v (hr w)
theorem de_int {i j} : DE X W (.Constant (.int i) j pos) (iC (.int i)) := de_c pe_int fun _ => .int i
theorem de_bl {i j} : DE X W (.Constant (.bool i) j pos) (iC (.bl i)) := de_c pe_bl fun _ => .bl i
theorem de_str {i j} : DE X W (.Constant (.str i) j pos) (iC (.str i)) := de_c pe_str fun _ => .str i
theorem de_non {j} : DE X W (.Constant .none j pos) (iC .non) := de_c pe_non fun _ => .non
end
/-! ### operators -/
def OpS (K : KX) (W : WX) (r : R2) (f : IV → IV → Sto → Out IV) : Prop := ∀ (w : Wd) (S : Sto) (H : Hp) (x y : V) (ix iy : IV) (Q : VK), R K w S H → Rel K w x ix → Rel K w y iy →
  Post K W w (f ix iy S) (fun w' H' _ iv => ∀ v, Rel K w' v iv → Q v H') → r x y H Q
def CaS (K : KX) (W : WX) (r : List V → Hp → VK → Prop) (f : List IV → Sto → Out IV) : Prop := ∀ (w : Wd) (S : Sto) (H : Hp) (xs : List V) (ix : List IV) (Q : VK), R K w S H → RelL K w xs ix →
  Post K W w (f ix S) (fun w' H' _ iv => ∀ v, Rel K w' v iv → Q v H') → r xs H Q
def MtS (K : KX) (W : WX) (r : V → List V → Hp → VK → Prop) (f : IV → List IV → Sto → Out IV) : Prop := ∀ (w : Wd) (S : Sto) (H : Hp) (x : V) (xs : List V) (io : IV) (ix : List IV) (Q : VK), R K w S H → Rel K w x io → RelL K w xs ix →
  Post K W w (f io ix S) (fun w' H' _ iv => ∀ v, Rel K w' v iv → Q v H') → r x xs H Q
def iBin (f : IV → IV → Sto → Out IV) (ma mb : IE) : IE := fun Λ S => (ma Λ S).bind fun x S1 => (mb Λ S1).bind fun y S2 => f x y S2
def iUn (f : IV → Sto → Out IV) (ma : IE) : IE := fun Λ S => (ma Λ S).bind fun x S1 => f x S1
def iNil : IA := fun _ S => .ok [] S
def iCons (ma : IE) (mr : IA) : IA := fun Λ S => (ma Λ S).bind fun x S1 => (mr Λ S1).bind fun xs S2 => .ok (x :: xs) S2
def iCa (f : List IV → Sto → Out IV) (ma : IA) : IE := fun Λ S => (ma Λ S).bind fun x S1 => f x S1
section
variable {K : KX} {W : WX} {σ : L2.St} {H : Hp} {Q : VK}
theorem eM_bin {r : R2} {f : IV → IV → Sto → Out IV} {ma mb : IE} (ho : OpS K W r f) (h : eM K W (iBin f ma mb) σ H Q) : tOp r (eM K W ma) (eM K W mb) σ H Q := by
  obtain ⟨w, S, Λ, r0, s0, p⟩ := h
  exact ⟨w, S, Λ, r0, s0, p.bind.imp fun w1 H1 S1 ix l1 r1 p1 v1 rv1 => ⟨w1, S1, Λ, r1, s0.up l1, p1.bind.imp fun w2 H2 S2 iy l2 r2 p2 v2 rv2 => ho w2 S2 H2 _ _ _ _ _ r2 (rv1.up l2) rv2 p2⟩⟩
theorem eM_ca {r : List V → Hp → VK → Prop} {f : List IV → Sto → Out IV} {ma : IA} (ho : CaS K W r f) (h : eM K W (iCa f ma) σ H Q) : tCB r (aM K W ma) σ H Q := by
  obtain ⟨w, S, Λ, r0, s0, p⟩ := h
  exact ⟨w, S, Λ, r0, s0, p.bind.imp fun w1 H1 S1 ix l1 r1 p1 v1 rv1 => ho w1 S1 H1 _ _ _ r1 rv1 p1⟩
end
section
variable {X : Cx} {W : WZ} {pos : Pos} {a b c : Expr} {ma mb mc : IE} {e : Expr} {es : List Expr} {me : IE} {mr : IA}
theorem da_nil : DA X W [] iNil := pa_nil.imp fun σ H Q ⟨w, S, Λ, r0, s0, p⟩ => p.now r0 [] .nil
theorem da_cons (ha : DE X W e me) (hr : DA X W es mr) (hs : starEach (e :: es) X.env = (false, eval e X.env) :: starEach es X.env := by rfl) : DA X W (e :: es) (iCons me mr) :=
  (pa_cons ha hr hs).imp fun σ H Q ⟨w, S, Λ, r0, s0, p⟩ => ⟨w, S, Λ, r0, s0, p.bind.imp fun w1 H1 S1 ix l1 r1 p1 v1 rv1 => ⟨w1, S1, Λ, r1, s0.up l1, p1.bind.imp fun w2 H2 S2 iy l2 r2 p2 v2 rv2 => p2.now r2 _ (.cons (rv1.up l2) rv2)⟩⟩
theorem de_bin {op : Operator} {r : R2} {f : IV → IV → Sto → Out IV} (ho : OpR X (binaryOp op) r) (hs : OpS (kx X W) W.x r f) (ha : DE X W a ma) (hb : DE X W b mb) : DE X W (.BinOp a op b pos) (iBin f ma mb) :=
  (pe_op ho ha hb).imp fun _ _ _ h => eM_bin hs h
theorem de_cmp {op : CmpOp} {r : R2} {f : IV → IV → Sto → Out IV} (ho : OpR X (compareOp op) r) (hs : OpS (kx X W) W.x r f) (ha : DE X W a ma) (hb : DE X W b mb) (hm : behindInMarks op b = false := by first | exact nomark _ | rfl) : DE X W (.Compare a [op] [b] pos) (iBin f ma mb) :=
  (pe_cmpR ho ha hb hm).imp fun _ _ _ h => eM_bin hs h
def asB {α : Type} (x : IV) (k : Bool → Out α) : Out α := match x with
  | .bl b => k b
  | _ => .bad
def iTest (m : IE) : IT := fun Λ S => (m Λ S).bind fun x S1 => asB x fun b => .ok b S1
theorem asB_post {α : Type} {K : KX} {W : WX} {w : Wd} {x : IV} {v : V} {k : Bool → Out α} {P : Wd → Hp → Sto → α → Prop} (h : Post K W w (asB x k) P) (r : Rel K w v x) : ∃ b, x = .bl b ∧ v = .bl b ∧ Post K W w (k b) P := by
  unfold asB at h
  split at h
  · rename_i b
    cases r
    exact ⟨_, rfl, rfl, h⟩
  · exact h.elim
theorem dt_cmp {op : CmpOp} {r : R2} {f : IV → IV → Sto → Out IV} (ho : OpR X (compareOp op) r) (hs : OpS (kx X W) W.x r f) (ha : DE X W a ma) (hb : DE X W b mb) (hm : behindInMarks op b = false := by first | exact nomark _ | rfl) : DT X W (.Compare a [op] [b] pos) (iTest (iBin f ma mb)) :=
  (pt_cmpR ho ha hb hm).imp fun σ H Q ⟨w, S, Λ, r0, s0, p⟩ => eM_bin hs ⟨w, S, Λ, r0, s0, p.bind.imp fun w1 H1 S1 ix l1 r1 p1 v1 rv1 => by
    obtain ⟨b, rfl, rfl, q⟩ := asB_post p1 rv1
    exact ⟨b, rfl, q.now r1⟩⟩
/-- a < b < c -/
def iChain (f g : IV → IV → Sto → Out IV) (ma mb mc : IE) : IE := fun Λ S => (ma Λ S).bind fun x S1 => (mb Λ S1).bind fun y S2 => (f x y S2).bind fun z S3 => asB z fun k => if k = true then (mc Λ S3).bind fun u S4 => g y u S4 else .ok (.bl false) S3
end
/-! ### values by kind -/
def asI {α : Type} (x : IV) (k : Int → Out α) : Out α := match x with
  | .int b => k b
  | _ => .bad
def asS {α : Type} (x : IV) (k : Str → Out α) : Out α := match x with
  | .str b => k b
  | _ => .bad
def lstOf (S : Sto) : IV → Option (List IV)
  | .lst xs => some xs
  | .wls xs => some xs
  | .adr n => match S[n]? with
    | some (.lst xs) => some xs
    | _ => none
  | _ => none
def lstX (S : Sto) : IV → Option (List IV)
  | .lst xs => some xs
  | .adr n => match S[n]? with
    | some (.lst xs) => some xs
    | _ => none
  | _ => none
def tupOf : IV → Option (List IV)
  | .tup xs => some xs
  | _ => none
section
variable {K : KX} {W : WX} {w : Wd} {S : Sto} {H : Hp} {α : Type} {P : Wd → Hp → Sto → α → Prop}
theorem asI_post {x : IV} {v : V} {k : Int → Out α} (h : Post K W w (asI x k) P) (r : Rel K w v x) : ∃ b, x = .int b ∧ v = .int b ∧ Post K W w (k b) P := by
  unfold asI at h
  split at h
  · rename_i b
    cases r
    exact ⟨_, rfl, rfl, h⟩
  · exact h.elim
theorem asS_post {x : IV} {v : V} {k : Str → Out α} (h : Post K W w (asS x k) P) (r : Rel K w v x) : ∃ b, x = .str b ∧ v = .str b ∧ Post K W w (k b) P := by
  unfold asS at h
  split at h
  · rename_i b
    cases r
    exact ⟨_, rfl, rfl, h⟩
  · exact h.elim
theorem lstOf_sq {iv : IV} {v : V} {ivs : List IV} (e : lstOf S iv = some ivs) (r : R K w S H) (rv : Rel K w v iv) : ∃ a xs, v = .ref a ∧ SqL K.k H a xs ∧ RelL K w xs ivs := by
  cases iv with
  | lst ys =>
    cases e
    cases rv with
    | lst h1 h2 => exact ⟨_, _, rfl, .of (r.F _ _ h1), h2⟩
  | wls ys =>
    cases e
    cases rv with
    | wls h1 h2 => exact ⟨_, _, rfl, r.F.seq h1, h2⟩
  | adr n =>
    cases rv with
    | adr h1 =>
      unfold lstOf at e
      cases q : S[n]? with
      | none => simp only [q] at e; cases e
      | some c =>
        simp only [q] at e
        cases c with
        | lst ys =>
          cases e
          obtain ⟨xs, h2, h3⟩ := r.cell n _ _ q h1
          exact ⟨_, _, rfl, .of h2, h3⟩
        | _ => cases e
  | _ => cases e
theorem lstX_sq {iv : IV} {v : V} {ivs : List IV} (e : lstX S iv = some ivs) (r : R K w S H) (rv : Rel K w v iv) : ∃ a xs, v = .ref a ∧ H a = some (.lst xs) ∧ RelL K w xs ivs := by
  cases iv with
  | lst ys =>
    cases e
    cases rv with
    | lst h1 h2 => exact ⟨_, _, rfl, (r.F _ _ h1), h2⟩
  | adr n =>
    cases rv with
    | adr h1 =>
      unfold lstX at e
      cases q : S[n]? with
      | none => simp only [q] at e; cases e
      | some c =>
        simp only [q] at e
        cases c with
        | lst ys =>
          cases e
          obtain ⟨xs, h2, h3⟩ := r.cell n _ _ q h1
          exact ⟨_, _, rfl, h2, h3⟩
        | _ => cases e
  | _ => cases e
theorem tupOf_sq {iv : IV} {v : V} {ivs : List IV} (e : tupOf iv = some ivs) (r : R K w S H) (rv : Rel K w v iv) : ∃ a xs, v = .ref a ∧ SqT K.k H a xs ∧ RelL K w xs ivs := by
  cases iv with
  | tup ys =>
    cases e
    cases rv with
    | tup h1 h2 => exact ⟨_, _, rfl, same_t r.F h1, h2⟩
  | _ => cases e
/-- an option must be there -/
def orBad {β : Type} (o : Option β) (k : β → Out α) : Out α := match o with
  | some b => k b
  | none => .bad
theorem orBad_post {β : Type} {o : Option β} {k : β → Out α} (h : Post K W w (orBad o k) P) : ∃ b, o = some b ∧ Post K W w (k b) P := by
  unfold orBad at h
  split at h
  · exact ⟨_, rfl, h⟩
  · exact h.elim
@[simp] theorem orBad_some {β : Type} {b : β} {k : β → Out α} : orBad (some b) k = k b := rfl
end
/-- a new list that never changes; a new list in the store; a new tuple -/
def mkF (ivs : List IV) (S : Sto) : Out IV := chk (ivs.length ≤ sizeLine) (.ok (.lst ivs) S)
def mkC (ivs : List IV) (S : Sto) : Out IV := chk (ivs.length ≤ sizeLine) (.ok (.adr S.length) (S ++ [.lst ivs]))
def mkL (cell : Bool) (ivs : List IV) (S : Sto) : Out IV := if cell = true then mkC ivs S else mkF ivs S
def mkT (ivs : List IV) (S : Sto) : Out IV := chk (ivs.length ≤ sizeLine) (.ok (.tup ivs) S)
section
variable {K : KX} {W : WX} {w : Wd} {S : Sto} {H : Hp} {Q : VK}
theorem mkL_post {cell : Bool} {ivs : List IV} {xs : List V} (h : Post K W w (mkL cell ivs S) fun w' H' _ iv => ∀ v, Rel K w' v iv → Q v H') (r : R K w S H) (rx : RelL K w xs ivs) : xs.length ≤ sizeLine ∧ ∀ p, H p = none → Q (.ref p) (upd H p (.lst xs)) := by
  rw [rx.length]
  cases cell with
  | true =>
    obtain ⟨h1, h⟩ := chk_post (show Post K W w (mkC ivs S) _ from h)
    refine ⟨h1, fun p hp => ?_⟩
    obtain ⟨l, r'⟩ := r.alloc (c := .lst ivs) (o := .lst xs) hp fun w' l => ⟨xs, upd_same, rx.up l⟩
    refine h _ _ l r' _ (.adr ?_)
    show (w.rho ++ [p])[S.length]? = some p
    rw [← r.len, List.getElem?_append_right (Nat.le_refl _), Nat.sub_self]
    rfl
  | false =>
    obtain ⟨h1, h⟩ := chk_post (show Post K W w (mkF ivs S) _ from h)
    refine ⟨h1, fun p hp => ?_⟩
    obtain ⟨l, r'⟩ := r.frz (o := .lst xs) hp
    exact h _ _ l r' _ (.lst upd_same (rx.up l))
theorem mkT_post {ivs : List IV} {xs : List V} (h : Post K W w (mkT ivs S) fun w' H' _ iv => ∀ v, Rel K w' v iv → Q v H') (r : R K w S H) (rx : RelL K w xs ivs) : xs.length ≤ sizeLine ∧ ∀ p, H p = none → Q (.ref p) (upd H p (.tup xs)) := by
  rw [rx.length]
  obtain ⟨h1, h⟩ := chk_post h
  refine ⟨h1, fun p hp => ?_⟩
  obtain ⟨l, r'⟩ := r.frz (o := .tup xs) hp
  exact h _ _ l r' _ (.tup (.of upd_same) (rx.up l))
end
section
variable {X : Cx} {W : WZ} {pos : Pos} {es : List Expr} {m : IA}
def iLst (cell : Bool) (m : IA) : IE := iCa (mkL cell) m
def iTup (m : IA) : IE := iCa mkT m
theorem de_lst (cell : Bool) (h : DA X W es m) : DE X W (.List es pos) (iLst cell m) :=
  (pe_lst h).imp fun σ H Q ⟨w, S, Λ, r0, s0, p⟩ => ⟨w, S, Λ, r0, s0, p.bind.imp fun w1 H1 S1 ix l1 r1 p1 v1 rv1 => mkL_post p1 r1 rv1⟩
theorem de_tup {x1} (h : DA X W es m) : DE X W (.Tuple es x1 pos) (iTup m) :=
  (pe_tup h).imp fun σ H Q ⟨w, S, Λ, r0, s0, p⟩ => ⟨w, S, Λ, r0, s0, p.bind.imp fun w1 H1 S1 ix l1 r1 p1 v1 rv1 => mkT_post p1 r1 rv1⟩
end
/-! ### ints -/
instance (i j : Int) : Decidable (CMul i j) := by unfold CMul; infer_instance
instance (i j : Int) : Decidable (CDiv i j) := by unfold CDiv; infer_instance
instance (i j : Int) : Decidable (CPow i j) := by unfold CPow; infer_instance
def fI (C : Int → Int → Prop) [∀ i j, Decidable (C i j)] (g : Int → Int → Int) (x y : IV) (S : Sto) : Out IV := asI x fun i => asI y fun j => chk (C i j) (.ok (.int (g i j)) S)
def fB (g : Int → Int → Bool) (x y : IV) (S : Sto) : Out IV := asI x fun i => asI y fun j => .ok (.bl (g i j)) S
section
variable {K : KX} {W : WX}
theorem os_I {C : Int → Int → Prop} [∀ i j, Decidable (C i j)] {g : Int → Int → Int} : OpS K W (rI C fun i j => .int (g i j)) (fI C g) := fun w S H x y ix iy Q r rx ry p => by
  obtain ⟨i, rfl, rfl, p⟩ := asI_post p rx
  obtain ⟨j, rfl, rfl, p⟩ := asI_post p ry
  obtain ⟨c, p⟩ := chk_post p
  exact ⟨i, j, rfl, rfl, c, p.now r _ (.int _)⟩
theorem os_B {g : Int → Int → Bool} : OpS K W (rI0 fun i j => .bl (g i j)) (fB g) := fun w S H x y ix iy Q r rx ry p => by
  obtain ⟨i, rfl, rfl, p⟩ := asI_post p rx
  obtain ⟨j, rfl, rfl, p⟩ := asI_post p ry
  exact ⟨i, j, rfl, rfl, p.now r _ (.bl _)⟩
end
/-- a + b: ints, texts, lists (the sum never changes) -/
def fAdd (x y : IV) (S : Sto) : Out IV := match x, y with
  | .int i, .int j => .ok (.int (i + j)) S
  | .str a, .str b => chk (a.length + b.length ≤ sizeLine) (.ok (.str (a ++ b)) S)
  | a, b => orBad (lstX S a) fun xs => orBad (lstX S b) fun ys => mkF (xs ++ ys) S
abbrev rAddS : R2 := fun x y H Q => ∃ i j, x = .str i ∧ y = .str j ∧ i.length + j.length ≤ sizeLine ∧ Q (.str (i ++ j)) H
abbrev rAddI : R2 := rI0 fun i j => .int (i + j)
abbrev rAddA : R2 := fun x y H Q => rAddI x y H Q ∨ ((fun x y H Q => rAddS x y H Q ∨ rCat x y H Q) : R2) x y H Q
theorem op_addA {X : Cx} : OpR X (binaryOp .Add) rAddA := op_add.or (op_add_str.or op_cat)
theorem os_add {K : KX} {W : WX} : OpS K W rAddA fAdd := fun w S H x y ix iy Q r rx ry p => by
  unfold fAdd at p
  split at p
  · rename_i i j
    cases rx; cases ry
    exact .inl ⟨_, _, rfl, rfl, p.now r _ (.int _)⟩
  · rename_i i j
    cases rx; cases ry
    obtain ⟨c, p⟩ := chk_post p
    exact .inr (.inl ⟨_, _, rfl, rfl, c, p.now r _ (.str _)⟩)
  · obtain ⟨xs, e1, p⟩ := orBad_post p
    obtain ⟨ys, e2, p⟩ := orBad_post p
    obtain ⟨a, vs, rfl, h1, q1⟩ := lstX_sq e1 r rx
    obtain ⟨b, us, rfl, h2, q2⟩ := lstX_sq e2 r ry
    obtain ⟨c, k⟩ := mkL_post (cell := false) p r (q1.append q2)
    exact .inr (.inr ⟨_, _, _, _, rfl, rfl, h1, h2, by rw [List.length_append] at c; exact c, k⟩)
/-- the sum is in the store -/
def fCatC (x y : IV) (S : Sto) : Out IV := orBad (lstX S x) fun xs => orBad (lstX S y) fun ys => mkC (xs ++ ys) S
theorem os_catC {K : KX} {W : WX} : OpS K W rCat fCatC := fun w S H x y ix iy Q r rx ry p => by
  obtain ⟨xs, e1, p⟩ := orBad_post p
  obtain ⟨ys, e2, p⟩ := orBad_post p
  obtain ⟨a, vs, rfl, h1, q1⟩ := lstX_sq e1 r rx
  obtain ⟨b, us, rfl, h2, q2⟩ := lstX_sq e2 r ry
  obtain ⟨c, k⟩ := mkL_post (cell := true) p r (q1.append q2)
  exact ⟨_, _, _, _, rfl, rfl, h1, h2, by rw [List.length_append] at c; exact c, k⟩
abbrev fSub := fI (fun _ _ => True) fun i j => i - j
abbrev rSubT : R2 := rI (fun _ _ => True) fun i j => .int (i - j)
theorem op_subT {X : Cx} : OpR X (binaryOp .Sub) rSubT := opI fun _ _ _ _ _ _ _ _ q => sub_int q
abbrev fMul := fI CMul fun i j => i * j
abbrev fDiv := fI CDiv fun i j => i / j
abbrev fMod := fI (fun _ j => 0 < j) fun i j => i % j
abbrev fPow := fI CPow fun i j => i ^ j.toNat
def fNeg (x : IV) (S : Sto) : Out IV := asI x fun i => .ok (.int (-i)) S
abbrev fLt := fB fun i j => decide (i < j)
abbrev fLe := fB fun i j => decide (i ≤ j)
abbrev fGt := fB fun i j => decide (j < i)
abbrev fGe := fB fun i j => decide (j ≤ i)
/-! ### data, == -/
def viewL (f : IV → Option PyData) : List IV → Option (List PyData)
  | [] => some []
  | x :: xs => match f x, viewL f xs with
    | some d, some ds => some (d :: ds)
    | _, _ => none
def view : Nat → Sto → IV → Option PyData
  | 0, _, _ => none
  | n + 1, S, x => match x with
    | .non => some .none
    | .bl b => some (.bool b)
    | .int i => some (.int i)
    | .str s => some (.str s)
    | .lst xs => (viewL (view n S) xs).map .list
    | .wls xs => (viewL (view n S) xs).map .list
    | .tup xs => (viewL (view n S) xs).map .tuple
    | .adr m => match S[m]? with
      | some (.lst xs) => (viewL (view n S) xs).map .list
      | _ => none
    | _ => none
section
variable {K : KX} {w : Wd} {S : Sto} {H : Hp}
theorem viewL_dp {f : IV → Option PyData} (hf : ∀ x d v, f x = some d → Rel K w v x → Dp K.k H v d) : ∀ (xs : List IV) (ds : List PyData) (vs : List V), viewL f xs = some ds → RelL K w vs xs → DpAll K.k H vs ds
  | [], _, _, e, h => by
    cases h; cases e; exact .nil
  | x :: xs, ds, _, e, h => by
    cases h with
    | cons a b =>
      unfold viewL at e
      split at e
      · rename_i d ds' e1 e2
        cases e
        exact .cons (hf _ _ _ e1 a) (viewL_dp hf xs _ _ e2 b)
      · cases e
theorem view_dp (r : R K w S H) : ∀ (n : Nat) (x : IV) (d : PyData) (v : V), view n S x = some d → Rel K w v x → Dp K.k H v d
  | 0, _, _, _, e, _ => by cases e
  | n + 1, x, d, v, e, h => by
    have ih := view_dp r n
    unfold view at e
    cases x with
    | non => cases e; cases h; exact .non
    | bl b => cases e; cases h; exact .bl _
    | int b => cases e; cases h; exact .int _
    | str b => cases e; cases h; exact .str _
    | lst xs =>
      obtain ⟨ds, e1, e2⟩ := Option.map_eq_some_iff.mp e
      subst e2
      cases h with
      | lst h1 h2 => exact .lst (.of (r.F _ _ h1)) (viewL_dp ih xs ds _ e1 h2)
    | wls xs =>
      obtain ⟨ds, e1, e2⟩ := Option.map_eq_some_iff.mp e
      subst e2
      cases h with
      | wls h1 h2 => exact .lst (r.F.seq h1) (viewL_dp ih xs ds _ e1 h2)
    | tup xs =>
      obtain ⟨ds, e1, e2⟩ := Option.map_eq_some_iff.mp e
      subst e2
      cases h with
      | tup h1 h2 => exact .tup (same_t r.F h1) (viewL_dp ih xs ds _ e1 h2)
    | adr m =>
      cases h with
      | adr h1 =>
        cases q : S[m]? with
        | none => simp only [q] at e; cases e
        | some c =>
          simp only [q] at e
          cases c with
          | lst xs =>
            obtain ⟨ds, e1, e2⟩ := Option.map_eq_some_iff.mp e
            subst e2
            obtain ⟨vs, h2, h3⟩ := r.cell m _ _ q h1
            exact .lst (.of h2) (viewL_dp ih xs ds _ e1 h3)
          | _ => cases e
    | _ => cases e
end
/-- == of data: the scalars by themselves -/
def eqB (S : Sto) (x y : IV) : Option Bool := match x, y with
  | .int i, .int j => some (decide (i = j))
  | .str a, .str b => some (decide (a = b))
  | .bl a, .bl b => some (decide (a = b))
  | a, b => match view 8 S a, view 8 S b with
    | some d, some e => if SeqAt.shaped d = true ∧ SeqAt.shaped e = true then some (PyData.eqv d e) else none
    | _, _ => none
def fEq (x y : IV) (S : Sto) : Out IV := orBad (eqB S x y) fun b => .ok (.bl b) S
def fNe (x y : IV) (S : Sto) : Out IV := orBad (eqB S x y) fun b => .ok (.bl (!b)) S
abbrev rEqA (K : PySem.W.Frag) : R2 := fun x y H Q => rEq x y H Q ∨ rEqD K x y H Q
abbrev rNeA (K : PySem.W.Frag) : R2 := fun x y H Q => rNe x y H Q ∨ rNeD K x y H Q
theorem op_eqA {X : Cx} (hu : X.A.units + 64 < cLine) : OpR X (compareOp .Eq) (rEqA X.K) := op_eq.or (op_eqD hu)
theorem op_neA {X : Cx} (hu : X.A.units + 64 < cLine) : OpR X (compareOp .NotEq) (rNeA X.K) := op_ne.or (op_neD hu)
theorem eqB_cases {K : KX} {w : Wd} {S : Sto} {H : Hp} {x y : V} {ix iy : IV} {b : Bool} (r : R K w S H) (rx : Rel K w x ix) (ry : Rel K w y iy) (e : eqB S ix iy = some b) :
    (scal x y = true ∧ b = decide (x = y)) ∨ ∃ d e, Dp K.k H x d ∧ Dp K.k H y e ∧ SeqAt.shaped d = true ∧ SeqAt.shaped e = true ∧ b = PyData.eqv d e := by
  unfold eqB at e
  split at e
  · cases rx; cases ry; cases e
    exact .inl ⟨rfl, by simp⟩
  · cases rx; cases ry; cases e
    exact .inl ⟨rfl, by simp⟩
  · cases rx; cases ry; cases e
    exact .inl ⟨rfl, by simp⟩
  · split at e
    · rename_i d d' h1 h2
      split at e
      · rename_i hs
        cases e
        exact .inr ⟨d, d', view_dp r _ _ _ _ h1 rx, view_dp r _ _ _ _ h2 ry, hs.1, hs.2, rfl⟩
      · cases e
    · cases e
theorem os_eq {K : KX} {W : WX} : OpS K W (rEqA K.k) fEq := fun w S H x y ix iy Q r rx ry p => by
  obtain ⟨b, e, p⟩ := orBad_post p
  rcases eqB_cases r rx ry e with ⟨h1, h2⟩ | ⟨d, d', h1, h2, h3, h4, h5⟩
  · subst h2; exact .inl ⟨h1, p.now r _ (.bl _)⟩
  · subst h5; exact .inr ⟨d, d', h1, h2, h3, h4, p.now r _ (.bl _)⟩
theorem os_ne {K : KX} {W : WX} : OpS K W (rNeA K.k) fNe := fun w S H x y ix iy Q r rx ry p => by
  obtain ⟨b, e, p⟩ := orBad_post p
  rcases eqB_cases r rx ry e with ⟨h1, h2⟩ | ⟨d, d', h1, h2, h3, h4, h5⟩
  · subst h2; exact .inl ⟨h1, p.now r _ (.bl _)⟩
  · subst h5; exact .inr ⟨d, d', h1, h2, h3, h4, p.now r _ (.bl _)⟩
/-- is None -/
def isN : IV → Bool
  | .non => true
  | _ => false
theorem isN_rel {K : KX} {w : Wd} {x : V} {ix : IV} (rx : Rel K w x ix) : decide (x = .non) = isN ix := by
  cases rx <;> simp [isN]
end Sm
namespace Sm
open PySem PySem.Spec PyProof.Rows L2
/-! ### is None -/
theorem os_isN {K : KX} {W : WX} : OpS K W (fun x y H Q => y = .non ∧ Q (.bl (decide (x = .non))) H) (fun x y S => match y with | .non => .ok (.bl (isN x)) S | _ => .bad) := fun w S H x y ix iy Q r rx ry p => by
  cases ry with
  | non =>
    refine ⟨rfl, ?_⟩
    rw [isN_rel rx]
    exact (show Post K W w (Out.ok (IV.bl (isN ix)) S) (fun w' H' _ iv => ∀ v, Rel K w' v iv → Q v H') from p).now r _ (Rel.bl _)
  | _ => exact p.elim
def gIsN : IV → IV → Sto → Out IV := fun x y S => match y with | .non => .ok (.bl (isN x)) S | _ => .bad
def gNotN : IV → IV → Sto → Out IV := fun x y S => match y with | .non => .ok (.bl (!isN x)) S | _ => .bad
/-! ### in -/
def scV : IV → Option V
  | .non => some .non
  | .bl b => some (.bl b)
  | .int i => some (.int i)
  | .str s => some (.str s)
  | _ => none
def scVs : List IV → Option (List V)
  | [] => some []
  | x :: xs => match scV x, scVs xs with
    | some v, some vs => some (v :: vs)
    | _, _ => none
theorem scV_rel {K : KX} {w : Wd} {x : IV} {v u : V} (e : scV x = some u) (r : Rel K w v x) : v = u ∧ flatV u = true := by
  cases x <;> (first | (cases e; done) | (cases e; cases r; exact ⟨rfl, rfl⟩))
theorem scVs_rel {K : KX} {w : Wd} : ∀ {xs : List IV} {vs us : List V}, scVs xs = some us → RelL K w vs xs → vs = us ∧ us.all flatV = true
  | [], _, _, e, r => by cases e; cases r; exact ⟨rfl, rfl⟩
  | x :: xs, _, us, e, r => by
    cases r with
    | cons a b =>
      unfold scVs at e
      split at e
      · rename_i u us' e1 e2
        cases e
        obtain ⟨h1, h2⟩ := scV_rel e1 a
        obtain ⟨h3, h4⟩ := scVs_rel e2 b
        exact ⟨by rw [h1, h3], by rw [List.all_cons, h2, h4]; rfl⟩
      · cases e
def seqOf (S : Sto) (x : IV) : Option (List IV) := match tupOf x with
  | some xs => some xs
  | none => lstOf S x
theorem seqOf_sq {K : KX} {w : Wd} {S : Sto} {H : Hp} {iv : IV} {v : V} {ivs : List IV} (e : seqOf S iv = some ivs) (r : R K w S H) (rv : Rel K w v iv) : ∃ a xs, v = .ref a ∧ (SqL K.k H a xs ∨ SqT K.k H a xs) ∧ RelL K w xs ivs := by
  unfold seqOf at e
  split at e
  · rename_i xs h
    cases e
    obtain ⟨a, xs, h1, h2, h3⟩ := tupOf_sq h r rv
    exact ⟨a, xs, h1, .inr h2, h3⟩
  · obtain ⟨a, xs, h1, h2, h3⟩ := lstOf_sq e r rv
    exact ⟨a, xs, h1, .inl h2, h3⟩
/-- the one sign of a text -/
def sgn (s : Str) : Option Nat := match s.cps.toList with
  | [c] => some c
  | _ => none
theorem sgn_eq {s : Str} {c : Nat} (h : sgn s = some c) : s = ⟨#[c]⟩ := by
  unfold sgn at h
  split at h
  · rename_i d e
    cases h
    cases s with
    | mk a =>
      have : a = #[c] := Array.toList_inj.mp e
      rw [this]
  · cases h
/-- x in y: one sign in a text, a flat thing in a list or tuple -/
def inB (S : Sto) (x y : IV) : Option Bool := match y with
  | .str z => match x with
    | .str s => (sgn s).map fun c => decide (c ∈ z.cps.toList)
    | _ => none
  | y => match scV x, seqOf S y with
    | some u, some ys => (scVs ys).map fun us => inV u us
    | _, _ => none
def fIn (x y : IV) (S : Sto) : Out IV := orBad (inB S x y) fun b => .ok (.bl b) S
def fNotIn (x y : IV) (S : Sto) : Out IV := orBad (inB S x y) fun b => .ok (.bl (!b)) S
abbrev rInSg : R2 := fun x y H Q => ∃ (c : Nat) (z : Str), x = .str ⟨#[c]⟩ ∧ y = .str z ∧ Q (.bl (decide (c ∈ z.cps.toList))) H
abbrev rNotInSg : R2 := fun x y H Q => ∃ (c : Nat) (z : Str), x = .str ⟨#[c]⟩ ∧ y = .str z ∧ Q (.bl (!decide (c ∈ z.cps.toList))) H
theorem op_inA {X : Cx} : OpR X (compareOp .In) (fun x y H Q => rInSg x y H Q ∨ rIn X.K false x y H Q) := op_in_sign.or op_in_seq
theorem op_notInA {X : Cx} : OpR X (compareOp .NotIn) (fun x y H Q => rNotInSg x y H Q ∨ rIn X.K true x y H Q) := op_notIn_sign.or op_notIn_seq
theorem inB_cases {K : KX} {w : Wd} {S : Sto} {H : Hp} {x y : V} {ix iy : IV} {b : Bool} (r : R K w S H) (rx : Rel K w x ix) (ry : Rel K w y iy) (e : inB S ix iy = some b) :
    (∃ (c : Nat) (z : Str), x = .str ⟨#[c]⟩ ∧ y = .str z ∧ b = decide (c ∈ z.cps.toList)) ∨ ∃ p xs, y = .ref p ∧ (SqL K.k H p xs ∨ SqT K.k H p xs) ∧ flatV x = true ∧ xs.all flatV = true ∧ b = inV x xs := by
  unfold inB at e
  split at e
  · rename_i z
    cases ry
    split at e
    · rename_i t
      cases rx
      obtain ⟨c, h1, h2⟩ := Option.map_eq_some_iff.mp e
      have := sgn_eq h1
      subst this
      exact .inl ⟨c, z, rfl, rfl, h2.symm⟩
    · cases e
  · split at e
    · rename_i u ys e1 e2
      obtain ⟨us, e3, e4⟩ := Option.map_eq_some_iff.mp e
      obtain ⟨h1, h2⟩ := scV_rel e1 rx
      obtain ⟨p, xs, h3, h4, h5⟩ := seqOf_sq e2 r ry
      obtain ⟨h6, h7⟩ := scVs_rel e3 h5
      subst h1 h6
      exact .inr ⟨p, _, h3, h4, h2, h7, e4.symm⟩
    · cases e
theorem os_in {K : KX} {W : WX} : OpS K W (fun x y H Q => rInSg x y H Q ∨ rIn K.k false x y H Q) fIn := fun w S H x y ix iy Q r rx ry p => by
  obtain ⟨b, e, p⟩ := orBad_post p
  rcases inB_cases r rx ry e with ⟨c, z, rfl, rfl, rfl⟩ | ⟨a, xs, h1, h2, h3, h4, rfl⟩
  · exact .inl ⟨c, z, rfl, rfl, p.now r _ (.bl _)⟩
  · exact .inr ⟨a, xs, h1, h2, h3, h4, by rw [if_neg Bool.false_ne_true]; exact p.now r _ (.bl _)⟩
theorem os_notIn {K : KX} {W : WX} : OpS K W (fun x y H Q => rNotInSg x y H Q ∨ rIn K.k true x y H Q) fNotIn := fun w S H x y ix iy Q r rx ry p => by
  obtain ⟨b, e, p⟩ := orBad_post p
  rcases inB_cases r rx ry e with ⟨c, z, rfl, rfl, rfl⟩ | ⟨a, xs, h1, h2, h3, h4, rfl⟩
  · exact .inl ⟨c, z, rfl, rfl, p.now r _ (.bl _)⟩
  · exact .inr ⟨a, xs, h1, h2, h3, h4, by rw [if_pos rfl]; exact p.now r _ (.bl _)⟩
/-! ### truth, and, or, not, if -/
def truB (S : Sto) (x : IV) : Option Bool := match x with
  | .non => some false
  | .bl b => some b
  | .int i => some (i != 0)
  | .str y => if y.length ≤ sizeLine then some ((y.length : Int) != 0) else none
  | .tup xs => some (!xs.isEmpty)
  | .adr n => match S[n]? with
    | some (.lst xs) => some (!xs.isEmpty)
    | some (.dic kvs) => some (!kvs.isEmpty)
    | _ => none
  | x => (lstOf S x).map fun xs => !xs.isEmpty
theorem RelL.empty {K : KX} {w : Wd} {xs : List V} {ivs : List IV} (r : RelL K w xs ivs) : (!ivs.isEmpty) = !xs.isEmpty := by cases r <;> rfl
theorem truB_rel {K : KX} {w : Wd} {S : Sto} {H : Hp} {x : V} {ix : IV} {b : Bool} (r : R K w S H) (rx : Rel K w x ix) (e : truB S ix = some b) : TruV K.k x H b := by
  have lst : ∀ {ys}, lstOf S ix = some ys → b = (!ys.isEmpty) → TruV K.k x H b := fun {ys} h1 h2 => by
    obtain ⟨a, xs, rfl, h3, h4⟩ := lstOf_sq h1 r rx
    exact .inl ⟨xs, h3, by rw [h2, h4.empty]⟩
  unfold truB at e
  split at e
  · cases rx; cases e; rfl
  · cases rx; cases e; rfl
  · cases rx; cases e; rfl
  · cases rx
    split at e
    · cases e
      exact ⟨by assumption, rfl⟩
    · cases e
  · cases rx with
    | tup h1 h2 =>
      cases e
      exact .inr (.inl ⟨_, same_t r.F h1, by rw [h2.empty]⟩)
  · cases rx with
    | adr h1 =>
      split at e
      · rename_i q
        cases e
        obtain ⟨xs, h2, h3⟩ := r.cell _ _ _ q h1
        exact .inl ⟨xs, .of h2, by rw [h3.empty]⟩
      · rename_i q
        cases e
        obtain ⟨xs, h2, h3⟩ := r.cell _ _ _ q h1
        refine .inr (.inr ⟨xs, h2, ?_⟩)
        cases h3 <;> rfl
      · cases e
  · obtain ⟨ys, h1, h2⟩ := Option.map_eq_some_iff.mp e
    exact lst h1 h2.symm
def iTru (m : IE) : IT := fun Λ S => (m Λ S).bind fun x S1 => orBad (truB S1 x) fun b => .ok b S1
def iAnd (c d : IT) : IT := fun Λ S => (c Λ S).bind fun b S1 => if b = true then d Λ S1 else .ok false S1
def iOr (c d : IT) : IT := fun Λ S => (c Λ S).bind fun b S1 => if b = true then .ok true S1 else d Λ S1
def iNot (c : IT) : IT := fun Λ S => (c Λ S).bind fun b S1 => .ok (!b) S1
def iAndV (c d : IE) : IE := fun Λ S => (c Λ S).bind fun x S1 => asB x fun b => if b = true then d Λ S1 else .ok (.bl false) S1
def iOrV (c d : IE) : IE := fun Λ S => (c Λ S).bind fun x S1 => asB x fun b => if b = true then .ok (.bl true) S1 else d Λ S1
def iNotV (c : IE) : IE := fun Λ S => (c Λ S).bind fun x S1 => asB x fun b => .ok (.bl (!b)) S1
def iIf {α : Type} (c : IT) (a b : Slots → Sto → Out α) : Slots → Sto → Out α := fun Λ S => (c Λ S).bind fun k S1 => if k = true then a Λ S1 else b Λ S1
section
variable {X : Cx} {W : WZ} {pos : Pos} {a b c : Expr} {rest : List Expr} {ma mb : IE} {ta tb tc : IT}
theorem dt_tru (ha : DE X W a ma) (he : ∀ whole, isTrue a X.env whole = (do let v ← whole; standAt a.pos; holding [v] (truthy v)) := by intro _; rfl) : DT X W a (iTru ma) :=
  (pt_truth ha he).imp fun σ H Q ⟨w, S, Λ, r0, s0, p⟩ => ⟨w, S, Λ, r0, s0, p.bind.imp fun w1 H1 S1 ix l1 r1 p1 v1 rv1 => by
    obtain ⟨b, e, q⟩ := orBad_post p1
    exact ⟨b, truB_rel r1 rv1 e, q.now r1⟩⟩
theorem dt_w (h : DW X W a ta) : DT X W a ta := PW.pt h
theorem dw_or1 (h : DT X W a ta) : DW X W (.BoolOp .Or [a] pos) ta := pw_or1 h
theorem dw_or (ha : DT X W a ta) (hb : DW X W (.BoolOp .Or (b :: rest) pos) tb) : DW X W (.BoolOp .Or (a :: b :: rest) pos) (iOr ta tb) :=
  (pw_or ha hb).imp fun σ H Q ⟨w, S, Λ, r0, s0, p⟩ => ⟨w, S, Λ, r0, s0, p.bind.imp fun w1 H1 S1 k l1 r1 p1 => by
    cases k with
    | true => rw [if_pos rfl] at p1 ⊢; exact p1.now r1
    | false => rw [if_neg Bool.false_ne_true] at p1 ⊢; exact ⟨w1, S1, Λ, r1, s0.up l1, p1⟩⟩
theorem dt_not (ha : DT X W a ta) : DT X W (.UnaryOp .Not a pos) (iNot ta) :=
  (pt_not ha).imp fun σ H Q ⟨w, S, Λ, r0, s0, p⟩ => ⟨w, S, Λ, r0, s0, p.bind.imp fun w1 H1 S1 k l1 r1 p1 => p1.now r1⟩
theorem de_if (hc : DT X W c tc) (ha : DE X W a ma) (hb : DE X W b mb) : DE X W (.IfExp c a b pos) (iIf tc ma mb) :=
  (pe_ifExp hc ha hb).imp fun σ H Q ⟨w, S, Λ, r0, s0, p⟩ => ⟨w, S, Λ, r0, s0, p.bind.imp fun w1 H1 S1 k l1 r1 p1 => by
    cases k with
    | true => rw [if_pos rfl] at p1 ⊢; exact ⟨w1, S1, Λ, r1, s0.up l1, p1⟩
    | false => rw [if_neg Bool.false_ne_true] at p1 ⊢; exact ⟨w1, S1, Λ, r1, s0.up l1, p1⟩⟩
end
/-! ### subscripts, slices -/
theorem atI_rel {K : KX} {w : Wd} {xs : List V} {ivs : List IV} {i : Int} {iv : IV} (r : RelL K w xs ivs) (e : atI ivs i = some iv) : ∃ v, atI xs i = some v ∧ Rel K w v iv := by
  unfold atI at e ⊢
  rw [r.length]
  cases h : ixN ivs.length i with
  | none => rw [h] at e; cases e
  | some j =>
    rw [h] at e
    exact r.get e
def fIx (x y : IV) (S : Sto) : Out IV := asI y fun i => match x with
  | .str z => chk (z.length ≤ sizeLine) (orBad (atI z.cps.toList i) fun c => .ok (.str ⟨#[c]⟩) S)
  | .tup xs => orBad (atI xs i) fun v => .ok v S
  | x => orBad (lstOf S x) fun xs => orBad (atI xs i) fun v => .ok v S
theorem os_ix {K : KX} {W : WX} : OpS K W (rIx K.k) fIx := fun w S H x y ix iy Q r rx ry p => by
  obtain ⟨i, rfl, rfl, p⟩ := asI_post p ry
  split at p
  · cases rx
    obtain ⟨h1, p⟩ := chk_post p
    obtain ⟨c, h2, p⟩ := orBad_post p
    exact .inr (.inr ⟨_, _, _, rfl, rfl, h1, h2, p.now r _ (.str _)⟩)
  · cases rx with
    | tup h1 h2 =>
      obtain ⟨c, h3, p⟩ := orBad_post p
      obtain ⟨v, h4, h5⟩ := atI_rel h2 h3
      exact .inr (.inl ⟨_, _, _, v, rfl, rfl, same_t r.F h1, h4, p.now r _ h5⟩)
  · obtain ⟨ivs, h0, p⟩ := orBad_post p
    obtain ⟨c, h3, p⟩ := orBad_post p
    obtain ⟨a, xs, rfl, h1, h2⟩ := lstOf_sq h0 r rx
    obtain ⟨v, h4, h5⟩ := atI_rel h2 h3
    exact .inl ⟨_, _, _, v, rfl, rfl, h1, h4, p.now r _ h5⟩
abbrev IO := Slots → Sto → Out (Option Int)
def oM (K : KX) (W : WX) (m : IO) : TO := fun σ H Q => ∃ w S Λ, R K w S H ∧ SR K w σ Λ ∧ Post K W w (m Λ S) fun _ H' _ o => Q o H'
def iNoPart : IO := fun _ S => .ok none S
def iPart (m : IE) : IO := fun Λ S => (m Λ S).bind fun x S1 => asI x fun i => .ok (some i) S1
abbrev DO (X : Cx) (W : WZ) (e : Option Expr) (m : IO) : Prop := PO X e (oM (kx X W) W.x m)
theorem _root_.L2.PO.imp {X : Cx} {e : Option Expr} {t t' : TO} (h : PO X e t) (f : ∀ σ H Q, t' σ H Q → t σ H Q) : PO X e t' := ⟨fun pins s σ H Q I q => h.run pins s σ H Q I (f σ H Q q)⟩
def cutI (xs : List IV) (lo hi : Option Int) : List IV := (xs.drop (HT.sIx xs.length 0 lo)).take (HT.sIx xs.length xs.length hi - HT.sIx xs.length 0 lo)
theorem cut_rel {K : KX} {w : Wd} {xs : List V} {ivs : List IV} (r : RelL K w xs ivs) (lo hi : Option Int) : RelL K w (cutV xs lo hi) (cutI ivs lo hi) := by
  unfold cutV cutI
  rw [r.length]
  exact (r.drop _).take _
def fSl (cell : Bool) (x : IV) (lo hi : Option Int) (S : Sto) : Out IV := match x with
  | .str z => chk (z.length ≤ sizeLine) (.ok (.str (cutS z lo hi)) S)
  | x => orBad (lstOf S x) fun xs => mkL cell (cutI xs lo hi) S
def iSl (cell : Bool) (m : IE) (ml mh : IO) : IE := fun Λ S => (m Λ S).bind fun x S1 => (ml Λ S1).bind fun lo S2 => (mh Λ S2).bind fun hi S3 => fSl cell x lo hi S3
section
variable {X : Cx} {W : WZ} {pos p2 : Pos} {a b e : Expr} {ma mb me : IE} {lo hi : Option Expr} {ml mh : IO}
theorem de_ix (ha : DE X W a ma) (hb : DE X W b mb) (hs : PlainIx b := by exact fun _ _ => rfl) : DE X W (.Subscript a b pos) (iBin fIx ma mb) :=
  (pe_ix ix_seq ha hb hs).imp fun _ _ _ h => eM_bin os_ix h
theorem do_none : DO X W none iNoPart := po_none.imp fun σ H Q ⟨w, S, Λ, r0, s0, p⟩ => p.now r0
theorem do_some (h : DE X W e me) : DO X W (some e) (iPart me) := (po_some h).imp fun σ H Q ⟨w, S, Λ, r0, s0, p⟩ => ⟨w, S, Λ, r0, s0, p.bind.imp fun w1 H1 S1 ix l1 r1 p1 v1 rv1 => by
  obtain ⟨i, rfl, rfl, q⟩ := asI_post p1 rv1
  exact ⟨i, rfl, q.now r1⟩⟩
theorem de_slice (cell : Bool) (he : DE X W e me) (hl : DO X W lo ml) (hh : DO X W hi mh) : DE X W (.Subscript e (.Slice lo hi none p2) pos) (iSl cell me ml mh) :=
  (pe_slice (SlR.or sl_str sl_list) he hl hh).imp fun σ H Q ⟨w, S, Λ, r0, s0, p⟩ => ⟨w, S, Λ, r0, s0, p.bind.imp fun w1 H1 S1 ix l1 r1 p1 v1 rv1 =>
    ⟨w1, S1, Λ, r1, s0.up l1, p1.bind.imp fun w2 H2 S2 o1 l2 r2 p2 => ⟨w2, S2, Λ, r2, s0.up (l1.trans l2), p2.bind.imp fun w3 H3 S3 o2 l3 r3 p3 => by
      have rv3 := rv1.up (l2.trans l3)
      unfold fSl at p3
      split at p3
      · cases rv3
        obtain ⟨h1, q⟩ := chk_post p3
        exact .inl ⟨_, rfl, h1, q.now r3 _ (.str _)⟩
      · obtain ⟨ys, h1, q⟩ := orBad_post p3
        obtain ⟨a, xs, rfl, h2, h3⟩ := lstOf_sq h1 r3 rv3
        exact .inr ⟨a, xs, rfl, h2, (mkL_post q r3 (cut_rel h3 _ _)).2⟩⟩⟩⟩
end
/-! ### calls -/
def spM (K : PySem.W.Frag) (mg : Str → Option Value) (np : Nat) (mf : List IV → Sto → Out IV) : Sp := fun vs H Q E => vs.length = np ∧ ∃ w S ivs, R ⟨K, mg, none⟩ w S H ∧ RelL ⟨K, mg, none⟩ w vs ivs ∧ Post ⟨K, mg, none⟩ (fun c d _ H => E c d H) w (mf ivs S) fun w' H' _ iv => ∀ v, Rel ⟨K, mg, none⟩ w' v iv → Q v H'
def mDef (n : Nat) (body : IS) : List IV → Sto → Out IV := fun ivs S => match body (ivs.map some ++ List.replicate (n - ivs.length) none) S with
  | .ok (.rt iv) S' => .ok iv S'
  | .ok (.nx _) S' => .ok .non S'
  | .ok _ _ => .bad
  | .exc C k _ S' => .exc C k [] S'
  | .bad => .bad
def relab (Λ : Slots) : Out IV → Out IV
  | .exc C n _ S => .exc C n Λ S
  | o => o
def iCall (np : Nat) (mf : List IV → Sto → Out IV) (ma : IA) : IE := fun Λ S => (ma Λ S).bind fun xs S1 => chk (xs.length = np) (relab Λ (mf xs S1))
theorem relab_post {K : KX} {W : WX} {w : Wd} {Λ : Slots} {σ : L2.St} {o : Out IV} {P : Wd → Hp → Sto → IV → Prop} (h : Post K W w (relab Λ o) P) (s : SR K w σ Λ) : Post K (fun c d _ H => W c d σ H) w o P := by
  cases o with
  | ok iv S2 => exact h
  | exc C n L S2 => exact fun w2 H2 a σ2 l2 r2 s2 e => h w2 H2 a σ l2 r2 (s.up l2) e
  | bad => exact h
/-- .. that lets no exception out -/
def iCall0 (mf : List IV → Sto → Out IV) : IE := fun _ S => match mf [] S with
  | .ok iv S2 => .ok iv S2
  | _ => .bad
section
variable {X : Cx} {W : WX} {pos p : Pos} {k : Nat} {f : Addr} {fd : FuncData} {ps : List Str} {mf : List IV → Sto → Out IV} {x : Str} {e : Expr} {es : List Expr} {ma : IA} {np : Nat}
theorem sr_nil {K : KX} {w : Wd} : SR K w [] [] := ⟨rfl, fun i iv e => by simp at e, fun i n a d _ e => by simp at e⟩
theorem de_call (F : FnG X.prog X.w X.K X.mg X.base (L2.CX X.prog X.w) k f fd ps (spM X.K X.mg np mf)) (tk : Takes X W) (hr : RmG k X.A) (hm : X.mg x = some (.ref f)) (hk : PySem.W.keepIn X.K (.ref f) = true) (hb : Binds X.K fd ps [])
    (ha : DA X ⟨W, none⟩ (e :: es) ma) (hg : Gl X x := by rfl) (hdb : (x == ("__debug__" : Str)) = false := by decide) (he : starEach (e :: es) X.env = (false, eval e X.env) :: starEach es X.env := by rfl) (hpl : (backTo pos (starEach es X.env)).any (·.1) = false := by rfl) :
    DE X ⟨W, none⟩ (.Call (.Name x p) (e :: es) [] pos) (iCall np mf ma) :=
  (pe_callG F hr hg hm hk hb (E := WE W) (fun σ => passAt tk σ) ha hdb he hpl).imp fun σ H Q ⟨w, S, Λ, r0, s0, p⟩ => ⟨w, S, Λ, r0, s0, p.bind.imp fun w1 H1 S1 xs l1 r1 p1 vs rv => by
    obtain ⟨h1, q⟩ := chk_post p1
    exact ⟨rv.length.trans h1, w1, S1, xs, r1, rv, relab_post q (s0.up l1)⟩⟩
end
end Sm
namespace Sm
open PySem PySem.Spec PyProof.Rows L2
theorem Post.up {K : KX} {W : WX} {w w' : Wd} {α : Type} {o : Out α} {P : Wd → Hp → Sto → α → Prop} (h : Post K W w o P) (l : w.le w') : Post K W w' o P := by
  cases o with
  | ok a S' => exact fun w2 H2 l2 r2 => h w2 H2 (l.trans l2) r2
  | exc C n L S' => exact fun w2 H2 a σ l2 r2 s2 e => h w2 H2 a σ (l.trans l2) r2 s2 e
  | bad => exact h
/-! ### statements -/
def iNext : IS := fun Λ S => .ok (.nx Λ) S
def fSeq (b : IS) (fl : Fl) (S : Sto) : Out Fl := match fl with
  | .nx L => b L S
  | o => .ok o S
def iSeq (a b : IS) : IS := fun Λ S => (a Λ S).bind fun fl S1 => fSeq b fl S1
def iDrop (m : IE) : IS := fun Λ S => (m Λ S).bind fun _ S1 => .ok (.nx Λ) S1
def iRet (m : IE) : IS := fun Λ S => (m Λ S).bind fun x S1 => .ok (.rt x) S1
def iRetN : IS := fun _ S => .ok (.rt .non) S
def iBrk : IS := fun Λ S => .ok (.bk Λ) S
def iCnt : IS := fun Λ S => .ok (.ct Λ) S
def iName (i : Nat) : IG := fun x Λ S => .ok (Λ.set i (some x)) S
def iAsg (m : IE) (g : IG) : IS := fun Λ S => (m Λ S).bind fun x S1 => (g x Λ S1).bind fun L S2 => .ok (.nx L) S2
def iSet (i : Nat) (m : IE) : IS := fun Λ S => (m Λ S).bind fun x S1 => .ok (.nx (Λ.set i (some x))) S1
section
variable {X : Cx} {W : WZ} {pos pos' : Pos} {st : Stmt} {rest : List Stmt} {m u : IS} {e : Expr} {me : IE} {g : IG}
theorem dss_nil : DSs X W [] iNext := pss_nil.imp fun D σ H ⟨w, S, Λ, r0, s0, p⟩ => p.now r0 σ s0
theorem dss_cons (h1 : DS X W st m) (h2 : DSs X W rest u) : DSs X W (st :: rest) (iSeq m u) :=
  (pss_cons h1 h2).imp fun D σ H ⟨w, S, Λ, r0, s0, p⟩ => ⟨w, S, Λ, r0, s0, p.bind.imp fun w1 H1 S1 fl l1 r1 p1 => by
    cases fl with
    | nx L => exact fun σ' s' => ⟨w1, S1, L, r1, s', p1⟩
    | rt iv => exact p1.now r1
    | bk L => exact p1.now r1
    | ct L => exact p1.now r1⟩
theorem dss_one (h1 : DS X W st m) : DSs X W [st] m := pss_one h1
theorem ds_expr (he : DE X W e me) (hs : swapsWith e none pos.line X.env = pure false := by rfl) : DS X W (.Expr e pos) (iDrop me) :=
  (ps_expr he hs).imp fun D σ H ⟨w, S, Λ, r0, s0, p⟩ => ⟨w, S, Λ, r0, s0, p.bind.imp fun w1 H1 S1 ix l1 r1 p1 v1 rv1 => p1.now r1 σ (s0.up l1)⟩
theorem ds_ret (he : DE X W e me) : DS X W (.Return (some e) pos) (iRet me) :=
  (ps_ret he).imp fun D σ H ⟨w, S, Λ, r0, s0, p⟩ => ⟨w, S, Λ, r0, s0, p.bind.imp fun w1 H1 S1 ix l1 r1 p1 v1 rv1 => p1.now r1 v1 rv1⟩
theorem ds_if {c : Expr} {a b : List Stmt} {tc : IT} (hc : DT X W c tc) (ha : DSs X W a m) (hb : DSs X W b u) : DS X W (.If c a b pos) (iIf tc m u) :=
  (ps_if hc ha hb).imp fun D σ H ⟨w, S, Λ, r0, s0, p⟩ => ⟨w, S, Λ, r0, s0, p.bind.imp fun w1 H1 S1 k l1 r1 p1 => by
    cases k with
    | true => rw [if_pos rfl] at p1 ⊢; exact ⟨w1, S1, Λ, r1, s0.up l1, p1⟩
    | false => rw [if_neg Bool.false_ne_true] at p1 ⊢; exact ⟨w1, S1, Λ, r1, s0.up l1, p1⟩⟩
theorem dg_name (i : Nat) {x : Str} (hN : X.N.Nodup) (hi : X.N[i]? = some x := by rfl) (hx : Loc X.env.scope x := by first | exact Or.inl rfl | exact Or.inr rfl) (hf : X.fn x = true ∨ X.env.scope.names.lookup x = some .local := by first | exact .inl rfl | exact .inr rfl) : DG X W (.Name x pos) (iName i) :=
  (pg_name hN hi hx hf).imp fun v σ H Q ⟨w, S, Λ, iv, r0, s0, rv, p⟩ => p.now r0 _ (s0.set i rv)
theorem ds_set (i : Nat) {x : Str} (hN : X.N.Nodup) (he : DE X W e me) (hi : X.N[i]? = some x := by rfl) (hx : Loc X.env.scope x := by first | exact Or.inl rfl | exact Or.inr rfl) (hs : swapsWith e (some (.Name x pos')) pos.line X.env = pure false := by rfl)
    (hf : X.fn x = true ∨ X.env.scope.names.lookup x = some .local := by first | exact .inl rfl | exact .inr rfl) : DS X W (.Assign [.Name x pos'] e pos) (iSet i me) :=
  (ps_set hN hi hx he hs hf).imp fun D σ H ⟨w, S, Λ, r0, s0, p⟩ => ⟨w, S, Λ, r0, s0, p.bind.imp fun w1 H1 S1 ix l1 r1 p1 v1 rv1 => p1.now r1 _ ((s0.up l1).set i rv1)⟩
theorem ds_asg {tg : Expr} (he : DE X W e me) (hg : DG X W tg g) (hs : swapsWithSole [tg] e pos.line X.env = pure false := by rfl) (hw : swappedStores [tg] e X.env = pure none := by rfl)
    (h1 : (assignEach [tg] X.env).map (·.2) = [assign tg X.env] := by rfl) : DS X W (.Assign [tg] e pos) (iAsg me g) :=
  (ps_asg he hg hs hw h1).imp fun D σ H ⟨w, S, Λ, r0, s0, p⟩ => ⟨w, S, Λ, r0, s0, p.bind.imp fun w1 H1 S1 ix l1 r1 p1 v1 rv1 => ⟨w1, S1, Λ, ix, r1, s0.up l1, rv1, p1.bind.imp fun w2 H2 S2 L l2 r2 p2 => p2.now r2⟩⟩
/-- a op= e -/
def iAug (i : Nat) (f : IV → IV → Sto → Out IV) (m : IE) : IS := fun Λ S => (iVar i Λ S).bind fun x S0 => (m Λ S0).bind fun y S1 => (f x y S1).bind fun z S2 => .ok (.nx (Λ.set i (some z))) S2
/-- targets in a row; a tuple's -/
abbrev IGs := List IV → Slots → Sto → Out Slots
def iGNil : IGs := fun xs Λ S => match xs with
  | [] => .ok Λ S
  | _ => .bad
def iGCons (g : IG) (r : IGs) : IGs := fun xs Λ S => match xs with
  | x :: xs => (g x Λ S).bind fun L S1 => r xs L S1
  | [] => .bad
def gsM (K : KX) (W : WX) (m : IGs) : TGs := fun vs σ H Q => ∃ w S Λ ivs, R K w S H ∧ SR K w σ Λ ∧ RelL K w vs ivs ∧ Post K W w (m ivs Λ S) fun w' H' _ L => ∀ σ', SR K w' σ' L → Q σ' H'
theorem _root_.L2.PGs.imp {X : Cx} {e : List Expr} {t t' : TGs} (h : PGs X e t) (f : ∀ v σ H Q, t' v σ H Q → t v σ H Q) : PGs X e t' := ⟨fun pins s σ H v u Q I r q => h.run pins s σ H v u Q I r (f v σ H Q q)⟩
abbrev DGs (X : Cx) (W : WZ) (e : List Expr) (m : IGs) : Prop := PGs X e (gsM (kx X W) W.x m)
theorem dgs_nil : DGs X W [] iGNil := pgs_nil.imp fun v σ H Q ⟨w, S, Λ, ivs, r0, s0, rv, p⟩ => by
  cases rv with
  | nil => exact ⟨rfl, Post.now (show Post (kx X W) W.x w (Out.ok Λ S) _ from p) r0 σ s0⟩
  | cons a b => exact p.elim
theorem dgs_cons {es : List Expr} {r : IGs} (h1 : DG X W e g) (h2 : DGs X W es r) (hs : (assignEach (e :: es) X.env).map (·.2) = assign e X.env :: (assignEach es X.env).map (·.2) := by rfl) : DGs X W (e :: es) (iGCons g r) :=
  (pgs_cons h1 h2 hs).imp fun v σ H Q ⟨w, S, Λ, ivs, r0, s0, rv, p⟩ => by
    cases rv with
    | nil => exact p.elim
    | cons a b =>
      have p : Post (kx X W) W.x w ((g _ Λ S).bind fun L S1 => r _ L S1) (fun w' H' _ L => ∀ σ', SR (kx X W) w' σ' L → Q σ' H') := p
      exact ⟨_, _, rfl, w, S, Λ, _, r0, s0, a, p.bind.imp fun w1 H1 S1 L l1 r1 p1 σ' s' => ⟨w1, S1, L, _, r1, s', b.up l1, p1⟩⟩
def iGTup (n : Nat) (gs : IGs) : IG := fun x Λ S => orBad (tupOf x) fun xs => chk (xs.length = n) (gs xs Λ S)
theorem dg_tup {es : List Expr} {k n : Nat} {gs : IGs} (hc : X.calm = true) (h : DGs X W es gs) (hn : (assignEach es X.env).length = n := by rfl) (hst : (assignEach es X.env).findIdx? (·.1) = none := by rfl) : DG X W (.Tuple es k pos) (iGTup n gs) :=
  (pg_tup hc h hn hst).imp fun v σ H Q ⟨w, S, Λ, iv, r0, s0, rv, p⟩ => by
    obtain ⟨ivs, h1, p⟩ := orBad_post p
    obtain ⟨h2, p⟩ := chk_post p
    obtain ⟨a, xs, e1, e2, e3⟩ := tupOf_sq h1 r0 rv
    exact ⟨a, xs, e1, e2, e3.length.trans h2, w, S, Λ, ivs, r0, s0, e3, p⟩
/-- xs[i] = e -/
def iGSub (mo mi : IE) : IG := fun x Λ S => (mo Λ S).bind fun o S1 => (mi Λ S1).bind fun i S2 => asI i fun k => match o with
  | .adr n => (match S2[n]? with
    | some (.lst xs) => orBad (ixN xs.length k) fun j => .ok Λ (S2.set n (.lst (xs.set j x)))
    | _ => .bad)
  | _ => .bad
theorem dg_sub {o i : Expr} {mo mi : IE} (ho : DE X W o mo) (hi : DE X W i mi)
    (ha : ∀ v, assign (.Subscript o i pos) X.env v = (do
      let ov ← holding [v] (eval o X.env)
      let iv ← holding [v, ov] (eval i X.env)
      standAt pos
      holding [v, ov, iv] (setItem ov iv v)
      release [v, ov, iv] []) := by intro _; rfl) : DG X W (.Subscript o i pos) (iGSub mo mi) :=
  (pg_sub ho hi set_list ha).imp fun v σ H Q ⟨w, S, Λ, iv, r0, s0, rv, p⟩ => ⟨w, S, Λ, r0, s0, p.bind.imp fun w1 H1 S1 o1 l1 r1 p1 v1 rv1 => ⟨w1, S1, Λ, r1, s0.up l1, p1.bind.imp fun w2 H2 S2 i2 l2 r2 p2 v2 rv2 => by
    obtain ⟨k, rfl, rfl, q⟩ := asI_post p2 rv2
    have rv1 := rv1.up l2
    cases rv1 with
    | adr hrho =>
      rename_i n a
      cases hq : S2[n]? with
      | none => simp only [hq] at q; exact q.elim
      | some c =>
        simp only [hq] at q
        cases c with
        | lst xs =>
          obtain ⟨j, hj, q⟩ := orBad_post q
          obtain ⟨vs, h1, h2⟩ := r2.cell n _ a hq hrho
          have rw' : R (kx X W) w2 (S2.set n (.lst (xs.set j iv))) (upd H2 a (.lst (vs.set j v))) := r2.write hrho ⟨_, upd_same, h2.set (rv.up (l1.trans l2)) j⟩ (fun _ e => by rw [hq] at e; cases e)
          exact ⟨a, vs, k, j, rfl, rfl, h1, by rw [h2.length]; exact hj, q.now rw' σ (s0.up (l1.trans l2))⟩
        | _ => exact q.elim
    | _ => exact q.elim⟩⟩
end
/-! ### what is walked -/
structure Src where
  items : List IV
  keep : Option Nat
def Src.stay (s : Src) (S : Sto) : Prop := match s.keep with
  | none => True
  | some n => S[n]? = some (.lst s.items)
open Classical in
noncomputable def chkP {α : Type} (p : Prop) (o : Out α) : Out α := if p then o else .bad
theorem chkP_pos {α : Type} {p : Prop} {o : Out α} (h : p) : chkP p o = o := if_pos h
theorem chkP_neg {α : Type} {p : Prop} {o : Out α} (h : ¬ p) : chkP p o = .bad := if_neg h
theorem chkP_post {α : Type} {K : KX} {W : WX} {w : Wd} {p : Prop} {o : Out α} {P : Wd → Hp → Sto → α → Prop} (h : Post K W w (chkP p o) P) : p ∧ Post K W w o P := by
  by_cases hp : p
  · rw [chkP_pos hp] at h; exact ⟨hp, h⟩
  · rw [chkP_neg hp] at h; exact h.elim
structure ItR (K : KX) (w0 : Wd) (J : It) (s : Src) : Prop where
  go : ∀ (w : Wd) (S : Sto) (H : Hp) (i : Nat), w0.lz w → R K w S H → s.stay S → i < s.items.length → J.go i H
  stop : ∀ (w : Wd) (S : Sto) (H : Hp) (i : Nat), w0.lz w → R K w S H → s.stay S → s.items.length ≤ i → J.stop i H
  yld : ∀ (w : Wd) (S : Sto) (H : Hp) (i : Nat) (iv : IV) (x : V) (H' : Hp), w0.lz w → R K w S H → s.stay S → s.items[i]? = some iv → J.yld i H x H' → ∃ w', w.le w' ∧ R K w' S H' ∧ Rel K w' x iv
abbrev IW := Slots → Sto → Out Src
def wM (K : KX) (W : WX) (m : IW) : TI := fun σ H Rr => ∃ w S Λ, R K w S H ∧ SR K w σ Λ ∧ Post K W w (m Λ S) fun w' H' S' s => ∀ J, ItR K w' J s → Rr J H'
abbrev DI (X : Cx) (W : WZ) (tg e : Expr) (m : IW) : Prop := PI X tg e (wM (kx X W) W.x m)
theorem _root_.L2.PI.imp {X : Cx} {tg e : Expr} {t t' : TI} (h : PI X tg e t) (f : ∀ σ H Q, t' σ H Q → t σ H Q) : PI X tg e t' := ⟨fun pins s σ H Q I q => h.run pins s σ H Q I (f σ H Q q)⟩
def fSrcL (x : IV) (S : Sto) : Out Src := match x with
  | .adr n => (match S[n]? with
    | some (.lst xs) => .ok ⟨xs, some n⟩ S
    | _ => .bad)
  | x => orBad (lstOf S x) fun xs => .ok ⟨xs, none⟩ S
def iSrcL (m : IE) : IW := fun Λ S => (m Λ S).bind fun x S1 => fSrcL x S1
theorem fSrcL_cases {K : KX} {W : WX} {w : Wd} {S : Sto} {H : Hp} {x : V} {ix : IV} {P : Wd → Hp → Sto → Src → Prop} (h : Post K W w (fSrcL ix S) P) (r : R K w S H) (rx : Rel K w x ix) :
    ∃ a s, x = .ref a ∧ (∃ xs, SqL K.k H a xs) ∧ Post K W w (.ok s S) P ∧ ItR K w (Itl K.k a) s := by
  have mk : ∀ {a : Addr} {s : Src}, (∀ w' S' H', w.lr w' → R K w' S' H' → s.stay S' → ∃ xs, SqL K.k H' a xs ∧ RelL K w' xs s.items) → ItR K w (Itl K.k a) s := fun {a s} f => by
    refine ⟨fun w' S' H' i l r' st hi => ?_, fun w' S' H' i l r' st hi => ?_, fun w' S' H' i iv x H2 l r' st hi hy => ?_⟩
    · obtain ⟨xs, h1, h2⟩ := f w' S' H' l.1 r' st
      obtain ⟨v, h3, _⟩ := h2.get (List.getElem?_eq_getElem hi)
      exact ⟨xs, v, h1, h3⟩
    · obtain ⟨xs, h1, h2⟩ := f w' S' H' l.1 r' st
      exact ⟨xs, h1, by rw [h2.length]; exact hi⟩
    · obtain ⟨xs, h1, h2⟩ := f w' S' H' l.1 r' st
      obtain ⟨e1, e2⟩ := hy
      subst e1
      obtain ⟨v, h3, h4⟩ := h2.get hi
      have := (e2 xs h1).symm.trans h3
      cases this
      exact ⟨w', Wd.le.refl _, r', h4⟩
  unfold fSrcL at h
  split at h
  · cases rx with
    | adr hrho =>
      split at h
      · rename_i n xs hq
        rename_i a _ _
        obtain ⟨vs, h1, h2⟩ := r.cell _ _ _ hq hrho
        refine ⟨_, _, rfl, ⟨vs, .of h1⟩, h, mk fun w' S' H' l r' st => ?_⟩
        obtain ⟨us, h3, h4⟩ := r'.cell _ _ _ (show S'[_]? = some (.lst xs) from st) (l.get hrho)
        exact ⟨us, .of h3, h4⟩
      · exact h.elim
  · rename_i hn
    obtain ⟨xs, e, h⟩ := orBad_post h
    cases ix with
    | lst ys =>
      cases e
      cases rx with
      | lst h1 h2 => exact ⟨_, _, rfl, ⟨_, .of (r.F _ _ h1)⟩, h, mk fun w' S' H' l r' st => ⟨_, .of (r'.F _ _ (l.F _ _ h1)), RelL.mono l _ _ h2⟩⟩
    | wls ys =>
      cases e
      cases rx with
      | wls h1 h2 => exact ⟨_, _, rfl, ⟨_, r.F.seq h1⟩, h, mk fun w' S' H' l r' st => ⟨_, r'.F.seq (l.F.seq h1), RelL.mono l _ _ h2⟩⟩
    | adr n => exact absurd rfl (hn n)
    | _ => cases e
def rangeI (lo : Int) (n : Nat) : List IV := (List.range n).map fun (i : Nat) => .int (lo + i)
theorem itR_range {K : KX} {w : Wd} {lo : Int} {n : Nat} : ItR K w (Itr lo n) ⟨rangeI lo n, none⟩ := by
  refine ⟨fun w' S' H' i l r' st hi => ?_, fun w' S' H' i l r' st hi => ?_, fun w' S' H' i iv x H2 l r' st hi hy => ?_⟩
  · show i < n
    simpa [rangeI] using hi
  · show n ≤ i
    simpa [rangeI] using hi
  · obtain ⟨e1, e2⟩ := hy
    subst e1 e2
    refine ⟨w', Wd.le.refl _, r', ?_⟩
    have hi : (rangeI lo n)[i]? = some iv := hi
    unfold rangeI at hi
    rw [List.getElem?_map] at hi
    obtain ⟨j, h1, h2⟩ := Option.map_eq_some_iff.mp hi
    obtain ⟨hj, h3⟩ := List.getElem?_eq_some_iff.mp h1
    rw [List.getElem_range] at h3
    subst h3 h2
    exact .int _
instance (j : Int) : Decidable (-(2 ^ 62) ≤ j ∧ j < 2 ^ 62) := by infer_instance
def iSrcR1 (m : IE) : IW := fun Λ S => (m Λ S).bind fun x S1 => asI x fun j => chk (-(2 ^ 62) ≤ j ∧ j < 2 ^ 62) (.ok ⟨rangeI 0 j.toNat, none⟩ S1)
def iSrcR2 (m m' : IE) : IW := fun Λ S => (m Λ S).bind fun x S1 => (m' Λ S1).bind fun y S2 => asI x fun i => asI y fun j => chk (-(2 ^ 62) ≤ i ∧ i < 2 ^ 62 ∧ -(2 ^ 62) ≤ j ∧ j < 2 ^ 62) (.ok ⟨rangeI i (j - i).toNat, none⟩ S2)
/-- a text, sign by sign -/
def iSrcS (m : IE) : IW := fun Λ S => (m Λ S).bind fun x S1 => asS x fun z => .ok ⟨z.cps.toList.map fun c => .str ⟨#[c]⟩, none⟩ S1
section
variable {X : Cx} {W : WZ} {tg e e' : Expr} {m m' : IE} {p pos : Pos}
theorem di_list (h : DE X W e m) : DI X W tg e (iSrcL m) := (pi_list h).imp fun σ H Q ⟨w, S, Λ, r0, s0, p⟩ => ⟨w, S, Λ, r0, s0, p.bind.imp fun w1 H1 S1 ix l1 r1 p1 v1 rv1 => by
  obtain ⟨a, s, h1, h2, h3, h4⟩ := fSrcL_cases p1 r1 rv1
  exact ⟨a, h1, h2, h3.now r1 _ h4⟩⟩
theorem di_range1 (hm : X.mg "range" = none) (ha : DA X W [e] (iCons m iNil)) (hg : Gl X "range" := by rfl) (hs : starEach [e] X.env = [(false, eval e X.env)] := by rfl) : DI X W tg (.Call (.Name "range" p) [e] [] pos) (iSrcR1 m) :=
  (pi_range1 hg hm ha hs).imp fun σ H Q ⟨w, S, Λ, r0, s0, p⟩ => ⟨w, S, Λ, r0, s0, by
    unfold iCons iNil
    cases h : m Λ S with
    | ok x S1 =>
      unfold iSrcR1 at p
      rw [h] at p
      intro w1 H1 l1 r1 vs rv
      cases rv with
      | cons a b =>
        cases b
        obtain ⟨j, rfl, rfl, q⟩ := asI_post (p.up l1) a
        obtain ⟨hj, q⟩ := chk_post q
        exact ⟨j, rfl, hj.1, hj.2, q.now r1 _ itR_range⟩
    | exc C n L S1 => unfold iSrcR1 at p; rw [h] at p; exact p
    | bad => unfold iSrcR1 at p; rw [h] at p; exact p⟩
end
end Sm
namespace Sm
open PySem PySem.Spec PyProof.Rows L2
/-! ### for -/
noncomputable def iIter (s : Src) (g : IG) (b : IS) : List IV → Slots → Sto → Out Fl
  | [], Λ, S => chkP (s.stay S) (.ok (.nx Λ) S)
  | x :: xs, Λ, S => chkP (s.stay S) ((g x Λ S).bind fun Λ1 S1 => (b Λ1 S1).bind fun fl S2 => match fl with
    | .nx L => iIter s g b xs L S2
    | .ct L => iIter s g b xs L S2
    | .bk L => .ok (.nx L) S2
    | .rt v => .ok (.rt v) S2)
noncomputable def iFor (ms : IW) (g : IG) (b : IS) : IS := fun Λ S => (ms Λ S).bind fun s S1 => iIter s g b s.items Λ S1
theorem for_loop {K : KX} {W : WX} {g : IG} {b : IS} {D : Ends} {σ : L2.St} {H1 : Hp} {J : It} {s : Src} {w1 : Wd} {S1 : Sto} {Λ : Slots} (hJ : ItR K w1 J s) (r1 : R K w1 S1 H1) (s0 : SR K w1 σ Λ) (p1 : Post K W w1 (iIter s g b s.items Λ S1) fun w' H' _ fl => FlP K w' D H' fl) : tFor (fun _ H Rr => Rr J H) (gM K W g) (sM K W b) D σ H1 := by
  refine ⟨fun i m σ H => m = s.items.length - i ∧ i ≤ s.items.length ∧ ∃ w2 S2 L, w1.le w2 ∧ R K w2 S2 H ∧ SR K w2 σ L ∧ Post K W w2 (iIter s g b (s.items.drop i) L S2) fun w' H' _ fl => FlP K w' D H' fl,
    ⟨s.items.length, by simp, Nat.zero_le _, w1, S1, Λ, Wd.le.refl _, r1, s0, by rw [List.drop_zero]; exact p1⟩, ?_⟩
  rintro i m σ2 H2 ⟨rfl, hi, w2, S2, L, l2, r2, s2, p2⟩
  by_cases hlt : i < s.items.length
  · rw [List.drop_eq_getElem_cons hlt] at p2
    obtain ⟨st, p2⟩ := chkP_post (show Post K W w2 (chkP (s.stay S2) _) _ from p2)
    refine .inr ⟨hJ.go w2 S2 H2 i l2.lz r2 st hlt, fun σ' H' => i + 1 ≤ s.items.length ∧ ∃ w3 S3 L3, w1.le w3 ∧ R K w3 S3 H' ∧ SR K w3 σ' L3 ∧ Post K W w3 (iIter s g b (s.items.drop (i + 1)) L3 S3) fun w' H' _ fl => FlP K w' D H' fl,
      fun σ' H' h' => ⟨s.items.length - (i + 1), by omega, rfl, h'.1, h'.2⟩, fun x H' y => ?_⟩
    obtain ⟨w3, l3, r3, rv⟩ := hJ.yld w2 S2 H2 i _ x H' l2.lz r2 st (List.getElem?_eq_getElem hlt) y
    refine ⟨w3, S2, L, _, r3, s2.up l3, rv, (p2.up l3).bind.imp fun w4 H4 S4 L4 l4 r4 p4 σ4 s4 => ⟨w4, S4, L4, r4, s4, p4.bind.imp fun w5 H5 S5 fl l5 r5 p5 => ?_⟩⟩
    have lA := l2.trans (l3.trans (l4.trans l5))
    cases fl with
    | nx L5 => exact fun σ5 s5 => ⟨hlt, w5, S5, L5, lA, r5, s5, p5⟩
    | ct L5 => exact fun σ5 s5 => ⟨hlt, w5, S5, L5, lA, r5, s5, p5⟩
    | bk L5 => exact Post.now (show Post K W w5 (Out.ok (Fl.nx L5) S5) (fun w' H' _ fl => FlP K w' D H' fl) from p5) r5
    | rt v => exact Post.now (show Post K W w5 (Out.ok (Fl.rt v) S5) (fun w' H' _ fl => FlP K w' D H' fl) from p5) r5
  · have e : i = s.items.length := by omega
    subst e
    rw [List.drop_length] at p2
    obtain ⟨st, p2⟩ := chkP_post (show Post K W w2 (chkP (s.stay S2) _) _ from p2)
    exact .inl ⟨hJ.stop w2 S2 H2 _ l2.lz r2 st (Nat.le_refl _), p2.now r2 σ2 s2⟩
theorem for_M {K : KX} {W : WX} {ms : IW} {g : IG} {b : IS} {D : Ends} {σ : L2.St} {H : Hp} (h : sM K W (iFor ms g b) D σ H) : tFor (wM K W ms) (gM K W g) (sM K W b) D σ H := by
  obtain ⟨w, S, Λ, r0, s0, p⟩ := h
  exact ⟨w, S, Λ, r0, s0, p.bind.imp fun w1 H1 S1 s l1 r1 p1 J hJ => for_loop hJ r1 (s0.up l1) p1⟩
section
variable {X : Cx} {W : WZ} {pos : Pos} {tg iter : Expr} {body : List Stmt} {ms : IW} {g : IG} {b : IS}
theorem ds_for (hp : PassesOwn (model X.prog X.w) X.A X.env X.xe) (hc : X.calm = true) (hi : DI X W tg iter ms) (hg : DG X W tg g) (hb : DSs X W body b) (hs : ∀ x, foldedSetIterable iter X.env x = pure x := by intro _; rfl) : DS X W (.For tg iter body [] pos) (iFor ms g b) :=
  (ps_for hp hc hi hg hb hs).imp fun D σ H h => for_M h
end
/-! ### while -/
def iWh (c : IT) (b : IS) : Nat → Slots → Sto → Out Fl
  | 0, _, _ => .bad
  | n + 1, Λ, S => (c Λ S).bind fun k S1 => if k = true then (b Λ S1).bind fun fl S2 => match fl with
      | .nx L => iWh c b n L S2
      | .ct L => iWh c b n L S2
      | .bk L => .ok (.nx L) S2
      | .rt v => .ok (.rt v) S2
    else .ok (.nx Λ) S1
open Classical in
noncomputable def iWhile (c : IT) (b : IS) : IS := fun Λ S => if h : ∃ n, iWh c b n Λ S ≠ .bad then iWh c b h.choose Λ S else .bad
theorem iWh_mono {c : IT} {b : IS} : ∀ (n m : Nat) (Λ : Slots) (S : Sto), iWh c b n Λ S ≠ .bad → n ≤ m → iWh c b m Λ S = iWh c b n Λ S
  | 0, _, _, _, h, _ => absurd rfl h
  | n + 1, 0, _, _, _, l => by omega
  | n + 1, m + 1, Λ, S, h, l => by
    unfold iWh at h ⊢
    cases hc : c Λ S with
    | ok k S1 =>
      rw [hc] at h
      simp only [Out.bind_ok] at h ⊢
      cases k with
      | true =>
        rw [if_pos rfl] at h ⊢
        cases hb : b Λ S1 with
        | ok fl S2 =>
          rw [hb] at h
          simp only [Out.bind_ok] at h ⊢
          cases fl with
          | nx L => exact iWh_mono n m L S2 h (by omega)
          | ct L => exact iWh_mono n m L S2 h (by omega)
          | bk L => rfl
          | rt v => rfl
        | exc C k L S2 => rfl
        | bad => rfl
      | false => rfl
    | exc C k L S1 => rfl
    | bad => rfl
theorem iWhile_of {c : IT} {b : IS} {n : Nat} {Λ : Slots} {S : Sto} {o : Out Fl} (h : iWh c b n Λ S = o) (hb : o ≠ .bad) : iWhile c b Λ S = o := by
  have hx : ∃ n, iWh c b n Λ S ≠ .bad := ⟨n, by rw [h]; exact hb⟩
  unfold iWhile
  rw [dif_pos hx]
  have h1 := hx.choose_spec
  rcases Nat.le_total n hx.choose with l | l
  · rw [iWh_mono n _ Λ S (by rw [h]; exact hb) l, h]
  · rw [← iWh_mono _ n Λ S h1 l, h]
theorem while_M {K : KX} {W : WX} {c : IT} {b : IS} {D : Ends} {σ : L2.St} {H : Hp} (h : sM K W (iWhile c b) D σ H) : tWhile (tM K W c) (sM K W b) D σ H := by
  obtain ⟨w, S, Λ, r0, s0, p⟩ := h
  unfold iWhile at p
  split at p
  · rename_i hx
    generalize hx.choose = n at p
    refine ⟨fun m σ H => ∃ w2 S2 L, R K w2 S2 H ∧ SR K w2 σ L ∧ Post K W w2 (iWh c b m L S2) fun w' H' _ fl => FlP K w' D H' fl, ⟨n, w, S, Λ, r0, s0, p⟩, ?_⟩
    rintro m σ2 H2 ⟨w2, S2, L, r2, s2, p2⟩
    cases m with
    | zero => exact p2.elim
    | succ m =>
      unfold iWh at p2
      refine ⟨w2, S2, L, r2, s2, p2.bind.imp fun w3 H3 S3 k l3 r3 p3 => ?_⟩
      cases k with
      | true =>
        rw [if_pos rfl] at p3 ⊢
        refine ⟨fun σ' H' => ∃ w4 S4 L4, R K w4 S4 H' ∧ SR K w4 σ' L4 ∧ Post K W w4 (iWh c b m L4 S4) fun w' H' _ fl => FlP K w' D H' fl, fun σ' H' h' => ⟨m, Nat.lt_succ_self m, h'⟩,
          w3, S3, L, r3, s2.up l3, p3.bind.imp fun w5 H5 S5 fl l5 r5 p5 => ?_⟩
        cases fl with
        | nx L5 => exact fun σ5 s5 => ⟨w5, S5, L5, r5, s5, p5⟩
        | ct L5 => exact fun σ5 s5 => ⟨w5, S5, L5, r5, s5, p5⟩
        | bk L5 => exact Post.now (show Post K W w5 (Out.ok (Fl.nx L5) S5) (fun w' H' _ fl => FlP K w' D H' fl) from p5) r5
        | rt v => exact Post.now (show Post K W w5 (Out.ok (Fl.rt v) S5) (fun w' H' _ fl => FlP K w' D H' fl) from p5) r5
      | false =>
        rw [if_neg Bool.false_ne_true] at p3 ⊢
        exact p3.now r3 σ2 (s2.up l3)
  · exact p.elim
section
variable {X : Cx} {W : WZ} {pos : Pos} {c : Expr} {body : List Stmt} {tc : IT} {b : IS}
theorem ds_while (hp : PassesOwn (model X.prog X.w) X.A X.env X.xe) (hc : DT X W c tc) (hb : DSs X W body b) : DS X W (.While c body [] pos) (iWhile tc b) :=
  (ps_while hp hc hb).imp fun D σ H h => while_M h
end
/-! ### list comprehensions -/
def W0 : WX := fun _ _ _ _ => False
def noX {α : Type} : Out α → Out α
  | .exc _ _ _ _ => .bad
  | o => o
@[simp] theorem noX_ok {α : Type} (a : α) (S : Sto) : noX (.ok a S) = .ok a S := rfl
@[simp] theorem noX_bad {α : Type} : noX (.bad : Out α) = .bad := rfl
def wipeI (Λ : Slots) : List Nat → Slots
  | [] => Λ
  | v :: vs => (wipeI Λ vs).set v none
theorem sr_wipe {K : KX} {w : Wd} {σ : L2.St} {Λ : Slots} (s : SR K w σ Λ) (hx : K.ex = none) : ∀ vs : List Nat, SR K w (wipe σ vs) (wipeI Λ vs)
  | [] => s
  | v :: vs => (sr_wipe s hx vs).setN v none (by rw [hx]; rfl)
theorem wipe_get {σ : L2.St} {j : Nat} : ∀ {vs : List Nat}, (wipe σ vs)[j]? = if j ∈ vs then σ[j]?.map (fun _ => none) else σ[j]?
  | [] => by simp [wipe]
  | v :: vs => by
    unfold wipe
    by_cases h : v = j
    · subst h
      rw [if_pos List.mem_cons_self]
      by_cases hl : v < (wipe σ vs).length
      · rw [List.getElem?_set_self hl]
        rw [wipe_length] at hl
        rw [List.getElem?_eq_getElem hl]
        rfl
      · have hl' := hl
        rw [wipe_length] at hl'
        rw [List.getElem?_eq_none (by rw [List.length_set]; omega), List.getElem?_eq_none (by omega)]
        rfl
    · rw [List.getElem?_set_ne h, wipe_get (vs := vs)]
      have : (j ∈ v :: vs) ↔ j ∈ vs := by
        rw [List.mem_cons]
        exact ⟨fun z => z.elim (fun e => absurd e.symm h) id, .inr⟩
      by_cases hj : j ∈ vs
      · rw [if_pos hj, if_pos (this.mpr hj)]
      · rw [if_neg hj, if_neg fun z => hj (this.mp z)]
theorem wipe_set {σ : L2.St} {i : Nat} {u : Option V} {vs : List Nat} (h : i ∈ vs) : wipe (σ.set i u) vs = wipe σ vs := by
  refine List.ext_getElem? fun j => ?_
  rw [wipe_get, wipe_get]
  by_cases hj : j ∈ vs
  · rw [if_pos hj, if_pos hj]
    by_cases e : i = j
    · subst e
      by_cases hl : i < σ.length
      · rw [List.getElem?_set_self hl, List.getElem?_eq_getElem hl]; rfl
      · rw [List.getElem?_eq_none (by rw [List.length_set]; omega), List.getElem?_eq_none (by omega)]
    · rw [List.getElem?_set_ne e]
  · rw [if_neg hj, if_neg hj]
    have e : i ≠ j := fun e => hj (e ▸ h)
    rw [List.getElem?_set_ne e]
theorem wipe_wipe {σ : L2.St} : ∀ {vs ws : List Nat}, (∀ v ∈ ws, v ∈ vs) → wipe (wipe σ ws) vs = wipe σ vs
  | vs, [], _ => rfl
  | vs, w :: ws, h => by
    show wipe ((wipe σ ws).set w none) vs = wipe σ vs
    rw [wipe_set (h w List.mem_cons_self), wipe_wipe fun v hv => h v (List.mem_cons_of_mem _ hv)]
/-- a block's target -/
structure GC (K : KX) (vs : List Nat) (g : TG) (gi : IV → Slots → Option Slots) : Prop where
  run : ∀ (w : Wd) (S : Sto) (H : Hp) (σ : L2.St) (Λ : Slots) (x : V) (ix : IV) (L : Slots) (Q : L2.St → Hp → Prop), R K w S H → SR K w σ Λ → Rel K w x ix → gi ix Λ = some L → (∀ σ', SR K w σ' L → wipe σ' vs = wipe σ vs → Q σ' H) → g x σ H Q
def giN (j : Nat) (x : IV) (Λ : Slots) : Option Slots := some (Λ.set j (some x))
theorem gc_name {K : KX} {vs : List Nat} {j : Nat} (h : j ∈ vs) : GC K vs (gName j) (giN j) :=
  ⟨fun w S H σ Λ x ix L Q r s rx e k => by
    cases e
    exact k _ (s.set j rx) (wipe_set h)⟩
noncomputable def iLcGo (s : Src) (gi : IV → Slots → Option Slots) (tt : IT) (te : IE) : List IV → Slots → Sto → List IV → Out (List IV)
  | [], _, S, acc => chkP (s.stay S) (.ok acc S)
  | x :: xs, Λ, S, acc => chkP (s.stay S) (orBad (gi x Λ) fun L => (noX (tt L S)).bind fun b S1 => if b = true then (noX (te L S1)).bind fun y S2 => chk (acc.length < sizeLine) (iLcGo s gi tt te xs Λ S2 (acc ++ [y])) else iLcGo s gi tt te xs Λ S1 acc)
noncomputable def iLc (cell : Bool) (ms : IW) (gi : IV → Slots → Option Slots) (tt : IT) (te : IE) (vs : List Nat) : IE := fun Λ S => (ms Λ S).bind fun s S1 => (iLcGo s gi tt te s.items (wipeI Λ vs) S1 []).bind fun acc S2 => mkL cell acc S2
def iYes : IT := fun _ S => .ok true S
abbrev DTs (X : Cx) (W : WZ) (e : List Expr) (m : IT) : Prop := PTs X e (tM (kx X W) W.x m)
theorem noX_post {α : Type} {K : KX} {w w' : Wd} {o : Out α} {P : Wd → Hp → Sto → α → Prop} (h : ∀ a S, noX o = .ok a S → ∀ w2 H2, w.le w2 → R K w2 S H2 → P w2 H2 S a) (hb : noX o ≠ .bad) : Post K W0 w o P := by
  cases o with
  | ok a S => exact h a S rfl
  | exc C n L S => exact absurd rfl hb
  | bad => exact absurd rfl hb
theorem lc_M {K : KX} {W : WX} {cell : Bool} {ms : IW} {g : TG} {gi : IV → Slots → Option Slots} {tt : IT} {te : IE} {vs : List Nat} {σ : L2.St} {H : Hp} {Q : VK} (hg : GC K vs g gi) (hx : K.ex = none) (h : eM K W (iLc cell ms gi tt te vs) σ H Q) :
    tLc (wM K W ms) g (tM K W0 tt) (eM K W0 te) vs σ H Q := by
  obtain ⟨w, S, Λ, r0, s0, p⟩ := h
  refine ⟨w, S, Λ, r0, s0, p.bind.imp fun w1 H1 S1 s l1 r1 p1 J hJ => ?_⟩
  intro D hD
  have hG : w1.G D = none := by
    cases q : w1.G D with
    | none => rfl
    | some u => rw [r1.G _ _ q] at hD; cases hD
  have s1 := sr_wipe (s0.up l1) hx vs
  -- the word at turn i: the new list at D is a ghost
  let Z : Nat → Hp → Prop := fun i H => i ≤ s.items.length ∧ ∃ (rho : List Addr) (F : Hp) (S2 : Sto) (xs : List V) (acc : List IV), w1.le ⟨rho, F, w1.G⟩ ∧ R K ⟨rho, F, upd w1.G D (.lst xs)⟩ S2 H ∧ RelL K ⟨rho, F, w1.G⟩ xs acc ∧
    Post K W ⟨rho, F, w1.G⟩ ((iLcGo s gi tt te (s.items.drop i) (wipeI Λ vs) S2 acc).bind fun acc S2 => mkL cell acc S2) fun w' H' _ iv => ∀ v, Rel K w' v iv → Q v H'
  refine ⟨fun i m H => m = s.items.length - i ∧ Z i H, ⟨s.items.length, by simp, Nat.zero_le _, w1.rho, w1.F, S1, [], [], Wd.le.refl w1, r1.ghost hD, .nil, by rw [List.drop_zero]; exact p1⟩, ?_⟩
  rintro i m H2 ⟨rfl, hi, rho, F, S2, xs, acc, l2, r2, rl, p2⟩
  have l2' : w1.lr ⟨rho, F, upd w1.G D (.lst xs)⟩ := ⟨l2.rho, l2.F⟩
  have l2z : w1.lz ⟨rho, F, upd w1.G D (.lst xs)⟩ := ⟨l2', fun a u v e => by
    show upd w1.G D (.lst xs) a = some (.frz u v)
    rw [upd_ne (ne_of_none e hG)]; exact e⟩
  by_cases hlt : i < s.items.length
  · rw [List.drop_eq_getElem_cons hlt] at p2
    have st : s.stay S2 := by
      by_cases hs : s.stay S2
      · exact hs
      · exact (show Post K W ⟨rho, F, w1.G⟩ ((chkP (s.stay S2) _).bind _) _ from p2) |> fun z => by rw [chkP_neg hs] at z; exact z.elim
    have p2 : Post K W ⟨rho, F, w1.G⟩ ((orBad (gi s.items[i] (wipeI Λ vs)) fun L => (noX (tt L S2)).bind fun b S1 => if b = true then (noX (te L S1)).bind fun y S2 => chk (acc.length < sizeLine) (iLcGo s gi tt te (s.items.drop (i + 1)) (wipeI Λ vs) S2 (acc ++ [y])) else iLcGo s gi tt te (s.items.drop (i + 1)) (wipeI Λ vs) S1 acc).bind fun acc S2 => mkL cell acc S2) (fun w' H' _ iv => ∀ v, Rel K w' v iv → Q v H') := by
      have z := (show Post K W ⟨rho, F, w1.G⟩ ((chkP (s.stay S2) _).bind _) _ from p2)
      rw [chkP_pos st] at z
      exact z
    refine .inr ⟨hJ.go _ S2 H2 i l2z r2 st hlt, Z (i + 1), fun H' z => ⟨s.items.length - (i + 1), by omega, rfl, z⟩, fun x H' y => ?_⟩
    obtain ⟨⟨rho3, F3, G3⟩, l3, r3, rv⟩ := hJ.yld _ S2 H2 i _ x H' l2z r2 st (List.getElem?_eq_getElem hlt) y
    have hG3 : G3 = upd w1.G D (.lst xs) := l3.G
    subst hG3
    have l23 : w1.le ⟨rho3, F3, w1.G⟩ := ⟨⟨(l2'.trans l3.1).rho, (l2'.trans l3.1).F⟩, rfl⟩
    have lp3 : Wd.le ⟨rho, F, w1.G⟩ ⟨rho3, F3, w1.G⟩ := ⟨⟨l3.rho, l3.F⟩, rfl⟩
    cases hgi : gi s.items[i] (wipeI Λ vs) with
    | none => rw [hgi] at p2; exact p2.elim
    | some L =>
      rw [hgi, orBad_some] at p2
      have sw : SR K ⟨rho3, F3, upd w1.G D (.lst xs)⟩ (wipe σ vs) (wipeI Λ vs) := s1.mono (l2'.trans l3.1)
      refine hg.run _ S2 H' _ _ x _ L _ r3 sw rv hgi fun σ' s' hw => ⟨by rw [hw, wipe_wipe fun _ hv => hv], ?_⟩
      refine ⟨_, S2, L, r3, s', noX_post (w' := ⟨rho, F, w1.G⟩) (fun b S3 e3 w4 H4 l4 r4 => ?_) fun hb => ?_⟩
      · rw [e3, Out.bind_ok] at p2
        obtain ⟨rho4, F4, G4⟩ := w4
        have hG4 : G4 = upd w1.G D (.lst xs) := l4.G
        subst hG4
        have lp4 : Wd.le ⟨rho, F, w1.G⟩ ⟨rho4, F4, w1.G⟩ := lp3.trans ⟨⟨l4.rho, l4.F⟩, rfl⟩
        cases b with
        | true =>
          rw [if_pos rfl] at p2 ⊢
          refine ⟨_, S3, L, r4, s'.up l4, noX_post (w' := ⟨rho, F, w1.G⟩) (fun y S5 e5 w5 H5 l5 r5 v5 rv5 => ?_) fun hb => ?_⟩
          · rw [e5, Out.bind_ok] at p2
            obtain ⟨rho5, F5, G5⟩ := w5
            have hG5 : G5 = upd w1.G D (.lst xs) := l5.G
            subst hG5
            have lp5 : Wd.le ⟨rho, F, w1.G⟩ ⟨rho5, F5, w1.G⟩ := lp4.trans ⟨⟨l5.rho, l5.F⟩, rfl⟩
            have hz : acc.length < sizeLine := by
              by_cases hz : acc.length < sizeLine
              · exact hz
              · rw [chk_neg hz] at p2; exact p2.elim
            rw [chk_pos hz] at p2
            refine ⟨xs, r5.G D _ upd_same, by rw [rl.length]; exact hz, hlt, rho5, F5, S5, xs ++ [v5], acc ++ [y], l2.trans lp5, R.ghostW (fun _ _ z => by cases z) r5, (rl.up lp5).append (.one (Rel.mono (w := ⟨rho5, F5, upd w1.G D (.lst xs)⟩) (w' := ⟨rho5, F5, w1.G⟩) ⟨⟨[], by simp⟩, Same.refl _⟩ _ _ rv5)), p2.up lp5⟩
          · rw [hb] at p2; exact p2.elim
        | false =>
          rw [if_neg Bool.false_ne_true] at p2 ⊢
          exact ⟨hlt, rho4, F4, S3, xs, acc, l2.trans lp4, r4, rl.up lp4, p2.up lp4⟩
      · rw [hb] at p2; exact p2.elim
  · have e : i = s.items.length := by omega
    subst e
    rw [List.drop_length] at p2
    have st : s.stay S2 := by
      by_cases hs : s.stay S2
      · exact hs
      · exact (show Post K W ⟨rho, F, w1.G⟩ ((chkP (s.stay S2) _).bind _) _ from p2) |> fun z => by rw [chkP_neg hs] at z; exact z.elim
    have p2 : Post K W ⟨rho, F, w1.G⟩ (mkL cell acc S2) (fun w' H' _ iv => ∀ v, Rel K w' v iv → Q v H') := by
      have z := (show Post K W ⟨rho, F, w1.G⟩ ((chkP (s.stay S2) _).bind _) _ from p2)
      rw [chkP_pos st] at z
      exact z
    refine .inl ⟨hJ.stop _ S2 H2 _ l2z r2 st (Nat.le_refl _), ?_⟩
    have hF : F D = none := r2.dis D _ upd_same
    cases cell with
    | true =>
      obtain ⟨h1, q⟩ := chk_post (show Post K W ⟨rho, F, w1.G⟩ (mkC acc S2) _ from p2)
      have r5 := R.ghostC (c := .lst acc) (fun _ _ z => by cases z) r2 hG fun w' l' => ⟨xs, r2.G D _ upd_same, RelL.mono (w := ⟨rho, F, w1.G⟩) ⟨l'.rho, l'.F⟩ _ _ rl⟩
      refine q ⟨rho ++ [D], F, w1.G⟩ H2 ⟨⟨⟨[D], rfl⟩, Same.refl _⟩, rfl⟩ r5 _ (.adr ?_)
      show (rho ++ [D])[S2.length]? = some D
      have hlen : rho.length = S2.length := r2.len
      rw [← hlen, List.getElem?_append_right (Nat.le_refl _), Nat.sub_self]
      rfl
    | false =>
      obtain ⟨h1, q⟩ := chk_post (show Post K W ⟨rho, F, w1.G⟩ (mkF acc S2) _ from p2)
      have lf : Wd.le ⟨rho, F, w1.G⟩ ⟨rho, upd F D (.lst xs), w1.G⟩ := ⟨⟨⟨[], by simp⟩, fun b u e => by
        show upd F D (.lst xs) b = some u
        rw [upd_ne (ne_of_none e hF)]; exact e⟩, rfl⟩
      exact q ⟨rho, upd F D (.lst xs), w1.G⟩ H2 lf (R.ghostF (fun _ _ z => by cases z) r2 hG) _ (.lst upd_same (rl.up lf))
section
variable {X : Cx} {W : WZ} {pos spos : Pos} {elt tg iter : Expr} {ifs : List Expr} {scope : Scope} {own : List (Str × Nat)} {ms : IW} {g : TG} {gi : IV → Slots → Option Slots} {tt : IT} {te : IE}
theorem dts_nil : DTs X W [] iYes := pts_nil.imp fun σ H Q ⟨w, S, Λ, r0, s0, p⟩ => p.now r0
theorem dts_one {c : Expr} {t : IT} (h : DT X W c t) : DTs X W [c] t := pts_one h
theorem de_lc (cell : Bool) (hc : X.calm = true) (hN : X.N.Nodup) (hi : DI X W tg iter ms) (ok : BlkOk X.N X.env.scope scope own)
    (hg : ∀ (s : Shared) (H : Hp) (C : Addr) (cl : List (Str × Addr)) (fp : List Addr), PG (X.blk s H scope (compEnvC scope cl C X.env) fp) tg g) (hgc : GC (kx X W) (own.map (·.2)) g gi) (ht : ∀ (s : Shared) (H : Hp) (C : Addr) (cl : List (Str × Addr)) (fp : List Addr), DTs (X.blk s H scope (compEnvC scope cl C X.env) fp) ⟨W0, W.ex⟩ ifs tt)
    (he : ∀ (s : Shared) (H : Hp) (C : Addr) (cl : List (Str × Addr)) (fp : List Addr), DE (X.blk s H scope (compEnvC scope cl C X.env) fp) ⟨W0, W.ex⟩ elt te) (hs : ∀ x, foldedSetIterable iter X.env x = pure x := by intro _; rfl) (hx : W.ex = none := by rfl) :
    DE X W (.ListComp elt [⟨tg, iter, ifs, 0⟩] scope pos) (iLc cell ms gi tt te (own.map (·.2))) :=
  (pe_lc hc hN hi ok hg ht he hs).imp fun σ H Q h => lc_M hgc hx h
theorem ds_setLc (cell : Bool) (i : Nat) {y : Str} {py : Pos} (hc : X.calm = true) (hN : X.N.Nodup) (hi : DI X W tg iter ms) (ok : BlkOk X.N X.env.scope scope own)
    (hg : ∀ (s : Shared) (H : Hp) (C : Addr) (cl : List (Str × Addr)) (fp : List Addr), PG (X.blk s H scope (compEnvC scope cl C X.env) fp) tg g) (hgc : GC (kx X W) (own.map (·.2)) g gi) (ht : ∀ (s : Shared) (H : Hp) (C : Addr) (cl : List (Str × Addr)) (fp : List Addr), DTs (X.blk s H scope (compEnvC scope cl C X.env) fp) ⟨W0, W.ex⟩ ifs tt)
    (he : ∀ (s : Shared) (H : Hp) (C : Addr) (cl : List (Str × Addr)) (fp : List Addr), DE (X.blk s H scope (compEnvC scope cl C X.env) fp) ⟨W0, W.ex⟩ elt te)
    (hy : X.N[i]? = some y := by rfl) (hyl : X.env.scope.names.lookup y = some .local := by rfl)
    (hsw : swapsWith (.ListComp elt [⟨tg, iter, ifs, 0⟩] scope pos) (some (.Name y py)) spos.line X.env = pure true := by exact sw_true rfl rfl rfl (by decide +kernel)) (hs : ∀ x, foldedSetIterable iter X.env x = pure x := by intro _; rfl) (hx : W.ex = none := by rfl) :
    DS X W (.Assign [.Name y py] (.ListComp elt [⟨tg, iter, ifs, 0⟩] scope pos) spos) (iSet i (iLc cell ms gi tt te (own.map (·.2)))) :=
  (ps_setLc hc hN hy hyl hsw hi ok hg ht he hs).imp fun D σ H ⟨w, S, Λ, r0, s0, p⟩ => lc_M (cell := cell) hgc hx ⟨w, S, Λ, r0, s0, p.bind.imp fun w1 H1 S1 ix l1 r1 p1 v1 rv1 => p1.now r1 _ ((s0.up l1).set i rv1)⟩
end
/-! ### a def -/
section
variable {P : Program} {w : World} {K : PySem.W.Frag} {mg : Str → Option Value} {base : Heap}
/-- what a def's body is shown in -/
abbrev DX (P : Program) (w : World) (K : PySem.W.Frag) (mg : Str → Option Value) (base : Heap) (N : List Str) (qual : Str) (sc : Scope) (f : Addr) (cdv : Value) (A : Around) (outer : List Env) (s : Shared) (H : Hp) (E : XK) : Cx :=
  cxOf (L2.CX P w) P w K mg base N qual sc f cdv A outer s H E
abbrev WEx (E : XK) : WX := fun c d _ H => E c d H
theorem start_sr {K : KX} {w : Wd} {N : List Str} {vs : List V} {ivs : List IV} (r : RelL K w vs ivs) (hx : K.ex = none) : SR K w (L2.start N vs) (ivs.map some ++ List.replicate (N.length - ivs.length) none) := by
  unfold L2.start
  rw [r.length]
  refine ⟨by simp [r.length], fun i iv e => ?_, fun i n a d e _ => by rw [hx] at e; cases e⟩
  by_cases hi : i < ivs.length
  · rw [List.getElem?_append_left (by simpa using hi), List.getElem?_map] at e
    obtain ⟨jv, e1, e2⟩ := Option.map_eq_some_iff.mp e
    cases e2
    obtain ⟨v, h1, h2⟩ := r.get e1
    exact ⟨v, by rw [List.getElem?_append_left (by rw [List.length_map, r.length]; exact hi), List.getElem?_map, h1]; rfl, h2⟩
  · rw [List.getElem?_append_right (by simpa using Nat.le_of_not_lt hi)] at e
    obtain ⟨h1, h2⟩ := List.getElem?_eq_some_iff.mp e
    rw [List.getElem_replicate] at h2
    cases h2
theorem ok_def {x qual : Str} {st : Stmt} {f : Addr} {fd : FuncData} {N ps : List Str} {k : Nat} {body : IS} (F : Fun K x qual st f fd) (Sc : FnScope N ps (defScope st))
    (hb : ∀ (cdv : Value) (A : Around) (outer : List Env) (s : Shared) (H : Hp) (E : XK), RmG k (A.deeper (envOfC qual (defScope st) s.heap.objs.size f cdv)) →
      Takes (DX P w K mg base N qual (defScope st) f cdv A outer s H E) (WEx E) → PassesOwn (model P w) (DX P w K mg base N qual (defScope st) f cdv A outer s H E).A (DX P w K mg base N qual (defScope st) f cdv A outer s H E).env (DX P w K mg base N qual (defScope st) f cdv A outer s H E).xe →
      DSs (DX P w K mg base N qual (defScope st) f cdv A outer s H E) ⟨WEx E, none⟩ (defBody st) body) : FnG P w K mg base (L2.CX P w) (k + 1) f fd ps (spM K mg ps.length (mDef N.length body)) := by
  refine okG F Sc (fun vs H Q E h => h.1) fun cdv A outer s H vs Q E hr h => ?_
  obtain ⟨hl, w0, S, ivs, r0, rl, p⟩ := h
  refine ⟨_, hb cdv A outer s H E hr (takes_of rfl rfl rfl rfl) (passes_of rfl), w0, S, _, r0, start_sr rl rfl, ?_⟩
  unfold mDef at p
  cases e : body (ivs.map some ++ List.replicate (N.length - ivs.length) none) S with
  | ok fl S' =>
    simp only [e] at p
    intro w' H' l r
    cases fl with
    | nx L => exact fun σ' s' => p w' H' l r _ .non
    | rt iv => exact p w' H' l r
    | bk L => exact p.elim
    | ct L => exact p.elim
  | exc C n L S' =>
    simp only [e] at p
    exact fun w' H' a σ' l r s' ea => p w' H' a [] l r sr_nil ea
  | bad =>
    simp only [e] at p
    exact p
end
end Sm
namespace Sm
open PySem PySem.Spec PyProof.Rows L2
section
variable {X : Cx} {W : WZ} {p pos : Pos} {e : Expr} {es : List Expr} {ma : IA} {x : Str} {id T : String} {r : List V → Hp → VK → Prop} {f : List IV → Sto → Out IV}
theorem de_cb (hc : CallR X (.builtin id) r) (hs : CaS (kx X W) W.x r f) (hm : X.mg x = none) (hv : bootBuiltins x = some (.builtin id)) (ha : DA X W (e :: es) ma) (hg : Gl X x := by rfl) (hn : x ≠ "__name__" := by decide) (hdb : (x == ("__debug__" : Str)) = false := by decide)
    (he : starEach (e :: es) X.env = (false, eval e X.env) :: starEach es X.env := by rfl) (hpl : (backTo pos (starEach es X.env)).any (·.1) = false := by rfl) : DE X W (.Call (.Name x p) (e :: es) [] pos) (iCa f ma) :=
  (pe_callB hc hg hm hv ha hn hdb he hpl).imp fun σ H Q h => eM_ca hs h
theorem de_ct (hc : CallR X (.type T) r) (hs : CaS (kx X W) W.x r f) (hm : X.mg x = none) (hv : bootBuiltins x = some (.type T)) (ha : DA X W (e :: es) ma) (hg : Gl X x := by rfl) (hn : x ≠ "__name__" := by decide) (hdb : (x == ("__debug__" : Str)) = false := by decide)
    (he : starEach (e :: es) X.env = (false, eval e X.env) :: starEach es X.env := by rfl) (hpl : (backTo pos (starEach es X.env)).any (·.1) = false := by rfl) : DE X W (.Call (.Name x p) (e :: es) [] pos) (iCa f ma) :=
  (pe_callTy hc hg hm hv ha hn hdb he hpl).imp fun σ H Q h => eM_ca hs h
end
section
variable {K : KX} {W : WX} {w : Wd} {α : Type} {P : Wd → Hp → Sto → α → Prop}
/-- one argument, two arguments -/
def a1 {α : Type} (xs : List IV) (k : IV → Out α) : Out α := match xs with
  | [x] => k x
  | _ => .bad
def a2 {α : Type} (xs : List IV) (k : IV → IV → Out α) : Out α := match xs with
  | [x, y] => k x y
  | _ => .bad
theorem a1_post {xs : List IV} {vs : List V} {k : IV → Out α} (h : Post K W w (a1 xs k) P) (r : RelL K w vs xs) : ∃ v x, vs = [v] ∧ xs = [x] ∧ Rel K w v x ∧ Post K W w (k x) P := by
  unfold a1 at h
  split at h
  · cases r with
    | cons a b => cases b; exact ⟨_, _, rfl, rfl, a, h⟩
  · exact h.elim
theorem a2_post {xs : List IV} {vs : List V} {k : IV → IV → Out α} (h : Post K W w (a2 xs k) P) (r : RelL K w vs xs) : ∃ v x u y, vs = [v, u] ∧ xs = [x, y] ∧ Rel K w v x ∧ Rel K w u y ∧ Post K W w (k x y) P := by
  unfold a2 at h
  split at h
  · cases r with
    | cons a b =>
      cases b with
      | cons b c => cases c; exact ⟨_, _, _, _, rfl, rfl, a, b, h⟩
  · exact h.elim
end
/-! ### len, abs, int, max, min, list -/
def lenN (S : Sto) (x : IV) : Option Nat := match x with
  | .str s => if s.length ≤ sizeLine then some s.length else none
  | x => (seqOf S x).map List.length
theorem lenN_rel {K : KX} {w : Wd} {S : Sto} {H : Hp} {v : V} {x : IV} {n : Nat} (r : R K w S H) (rx : Rel K w v x) (e : lenN S x = some n) : LenV K.k v H n := by
  unfold lenN at e
  split at e
  · cases rx
    split at e
    · cases e; exact ⟨by assumption, rfl⟩
    · cases e
  · obtain ⟨ys, h1, h2⟩ := Option.map_eq_some_iff.mp e
    obtain ⟨a, xs, rfl, h3, h4⟩ := seqOf_sq h1 r rx
    rcases h3 with h3 | h3
    · exact .inl ⟨xs, h3, by rw [h4.length, h2]⟩
    · exact .inr ⟨xs, h3, by rw [h4.length, h2]⟩
def fLen (xs : List IV) (S : Sto) : Out IV := a1 xs fun x => orBad (lenN S x) fun n => .ok (.int n) S
theorem cs_len {K : KX} {W : WX} : CaS K W (fun xs H Q => ∃ x n, xs = [x] ∧ LenV K.k x H n ∧ Q (.int n) H) fLen := fun w S H xs ix Q r rx p => by
  obtain ⟨v, x, rfl, rfl, rv, p⟩ := a1_post p rx
  obtain ⟨n, e, p⟩ := orBad_post p
  exact ⟨v, n, rfl, lenN_rel r rv e, p.now r _ (.int _)⟩
def fAbs (xs : List IV) (S : Sto) : Out IV := a1 xs fun x => asI x fun i => .ok (.int (if i < 0 then -i else i)) S
theorem cs_abs {K : KX} {W : WX} : CaS K W (fun xs H Q => ∃ i, xs = [.int i] ∧ Q (.int (if i < 0 then -i else i)) H) fAbs := fun w S H xs ix Q r rx p => by
  obtain ⟨v, x, rfl, rfl, rv, p⟩ := a1_post p rx
  obtain ⟨i, rfl, rfl, p⟩ := asI_post p rv
  exact ⟨i, rfl, p.now r _ (.int _)⟩
def fInt (xs : List IV) (S : Sto) : Out IV := a1 xs fun x => match x with
  | .int i => .ok (.int i) S
  | .bl k => .ok (.int (if k then 1 else 0)) S
  | _ => .bad
theorem cs_int {K : KX} {W : WX} : CaS K W (fun xs H Q => (∃ i, xs = [.int i] ∧ Q (.int i) H) ∨ ∃ k, xs = [.bl k] ∧ Q (.int (if k then 1 else 0)) H) fInt := fun w S H xs ix Q r rx p => by
  obtain ⟨v, x, rfl, rfl, rv, p⟩ := a1_post p rx
  cases rv with
  | int i => exact .inl ⟨i, rfl, (show Post K W w (Out.ok (IV.int i) S) _ from p).now r _ (Rel.int _)⟩
  | bl k => exact .inr ⟨k, rfl, (show Post K W w (Out.ok (IV.int (if k then 1 else 0)) S) _ from p).now r _ (Rel.int _)⟩
  | _ => exact p.elim
def fMax2 (xs : List IV) (S : Sto) : Out IV := a2 xs fun x y => asI x fun i => asI y fun j => .ok (.int (if j > i then j else i)) S
def fMin2 (xs : List IV) (S : Sto) : Out IV := a2 xs fun x y => asI x fun i => asI y fun j => .ok (.int (if j < i then j else i)) S
theorem cs_max2 {K : KX} {W : WX} : CaS K W (fun xs H Q => ∃ i j, xs = [.int i, .int j] ∧ Q (.int (if j > i then j else i)) H) fMax2 := fun w S H xs ix Q r rx p => by
  obtain ⟨v, x, u, y, rfl, rfl, rv, ru, p⟩ := a2_post p rx
  obtain ⟨i, rfl, rfl, p⟩ := asI_post p rv
  obtain ⟨j, rfl, rfl, p⟩ := asI_post p ru
  exact ⟨i, j, rfl, p.now r _ (.int _)⟩
theorem cs_min2 {K : KX} {W : WX} : CaS K W (fun xs H Q => ∃ i j, xs = [.int i, .int j] ∧ Q (.int (if j < i then j else i)) H) fMin2 := fun w S H xs ix Q r rx p => by
  obtain ⟨v, x, u, y, rfl, rfl, rv, ru, p⟩ := a2_post p rx
  obtain ⟨i, rfl, rfl, p⟩ := asI_post p rv
  obtain ⟨j, rfl, rfl, p⟩ := asI_post p ru
  exact ⟨i, j, rfl, p.now r _ (.int _)⟩
def fList (cell : Bool) (xs : List IV) (S : Sto) : Out IV := a1 xs fun x => orBad (seqOf S x) fun ys => mkL cell ys S
theorem cs_list {K : KX} {W : WX} (cell : Bool) : CaS K W (fun xs H Q => ∃ p ys, xs = [.ref p] ∧ (SqL K.k H p ys ∨ SqT K.k H p ys) ∧ ∀ l, H l = none → Q (.ref l) (upd H l (.lst ys))) (fList cell) := fun w S H xs ix Q r rx p => by
  obtain ⟨v, x, rfl, rfl, rv, p⟩ := a1_post p rx
  obtain ⟨ys, e, p⟩ := orBad_post p
  obtain ⟨a, vs, rfl, h1, h2⟩ := seqOf_sq e r rv
  exact ⟨a, vs, rfl, h1, (mkL_post p r h2).2⟩
/-! ### isinstance of built-in classes -/
def tyN (S : Sto) (x : IV) : Option String := match x with
  | .non => some "NoneType"
  | .bl _ => some "bool"
  | .int _ => some "int"
  | .str _ => some "str"
  | .lst _ => some "list"
  | .tup _ => some "tuple"
  | .adr n => match S[n]? with
    | some (.lst _) => some "list"
    | some (.dic _) => some "dict"
    | _ => none
  | _ => none
/-- the types that come up here -/
def kitN (t n : String) : Option Bool := kitB t n
def fIsi (xs : List IV) (S : Sto) : Out IV := a2 xs fun x c => match c with
  | .ty n => orBad (tyN S x) fun t => orBad (kitN t n) fun b => .ok (.bl b) S
  | _ => .bad
/-! ### methods of built-in types -/
def hasTy (T : String) (S : Sto) (x : IV) : Bool := match x with
  | .str _ => T == "str"
  | x => T == "list" && (lstOf S x).isSome
theorem hasTy_rel {K : KX} {w : Wd} {S : Sto} {H : Hp} {v : V} {x : IV} {T : String} (r : R K w S H) (rx : Rel K w v x) (e : hasTy T S x = true) : tyV K.k T v H := by
  unfold hasTy at e
  split at e
  · cases rx
    exact beq_iff_eq.mp e
  · obtain ⟨e1, e2⟩ := Bool.and_eq_true_iff.mp e
    obtain ⟨ys, h⟩ := Option.isSome_iff_exists.mp e2
    obtain ⟨a, xs, rfl, h3, h4⟩ := lstOf_sq h r rx
    exact .inl ⟨beq_iff_eq.mp e1, xs, h3⟩
def iBM (T : String) (f : IV → List IV → Sto → Out IV) (mo : IE) (ma : IA) : IE := fun Λ S => (mo Λ S).bind fun o S1 => chk (hasTy T S1 o = true) ((ma Λ S1).bind fun xs S2 => f o xs S2)
section
variable {X : Cx} {W : WZ} {pos apos : Pos} {o e : Expr} {es : List Expr} {mo : IE} {ma : IA} {T id : String} {name : Str} {r : V → List V → Hp → VK → Prop} {f : IV → List IV → Sto → Out IV}
theorem de_bm (pa : PlainAttrs T) (slot : Slot T name id) (hty : typeOf (.builtin id) = pure (.type "method_descriptor")) (hm : MtR X id r) (hs : MtS (kx X W) W.x r f) (ho : DE X W o mo) (ha : DA X W (e :: es) ma)
    (hbase : attributeBase o name X.env (eval o X.env) = eval o X.env := by rfl)
    (hfew : ((backTo pos (starEach (e :: es) X.env)).all (fun x => !x.1) && (backToKw pos (keywordEach [] X.env)).all (fun x => x.1.isSome)
      && decide ((e :: es).length + ([] : List Keyword).length + (if ([] : List Keyword).isEmpty then 0 else 1) < 30)) = true := by rfl)
    (hline : (apos.endLine == pos.line) = true := by rfl) (hst : starEach (e :: es) X.env = (false, eval e X.env) :: starEach es X.env := by rfl) (hplain : (backTo pos (starEach es X.env)).any (·.1) = false := by rfl) :
    DE X W (.Call (.Attribute o name apos) (e :: es) [] pos) (iBM T f mo ma) :=
  (pe_bm pa slot hty hm ho ha hbase hfew hline hst hplain).imp fun σ H Q ⟨w, S, Λ, r0, s0, p⟩ => ⟨w, S, Λ, r0, s0, p.bind.imp fun w1 H1 S1 ix l1 r1 p1 v1 rv1 => by
    obtain ⟨h1, p1⟩ := chk_post p1
    exact ⟨hasTy_rel r1 rv1 h1, w1, S1, Λ, r1, s0.up l1, p1.bind.imp fun w2 H2 S2 xs l2 r2 p2 vs rvs => hs w2 S2 H2 _ _ _ _ _ r2 (rv1.up l2) rvs p2⟩⟩
end
/-- a list in the store, to be changed -/
def onL {α : Type} (S : Sto) (x : IV) (k : Nat → List IV → Out α) : Out α := match x with
  | .adr n => (match S[n]? with
    | some (.lst xs) => k n xs
    | _ => .bad)
  | _ => .bad
theorem onL_post {α : Type} {K : KX} {W : WX} {w : Wd} {S : Sto} {H : Hp} {v : V} {x : IV} {k : Nat → List IV → Out α} {P : Wd → Hp → Sto → α → Prop} (h : Post K W w (onL S x k) P) (r : R K w S H) (rx : Rel K w v x) :
    ∃ n xs a vs, S[n]? = some (.lst xs) ∧ w.rho[n]? = some a ∧ v = .ref a ∧ H a = some (.lst vs) ∧ RelL K w vs xs ∧ Post K W w (k n xs) P := by
  unfold onL at h
  split at h
  · cases rx with
    | adr hrho =>
      split at h
      · rename_i q
        obtain ⟨vs, h2, h3⟩ := r.cell _ _ _ q hrho
        exact ⟨_, _, _, vs, q, hrho, rfl, h2, h3, h⟩
      · exact h.elim
  · exact h.elim
def fApp (o : IV) (xs : List IV) (S : Sto) : Out IV := a1 xs fun y => onL S o fun n ys => chk (ys.length < sizeLine) (.ok .non (S.set n (.lst (ys ++ [y]))))
theorem ms_app {K : KX} {W : WX} : MtS K W rAppend fApp := fun w S H x xs io ix Q r ro rx p => by
  obtain ⟨v, y, rfl, rfl, rv, p⟩ := a1_post p rx
  obtain ⟨n, ys, a, vs, h1, h2, rfl, h3, h4, p⟩ := onL_post p r ro
  obtain ⟨c, p⟩ := chk_post p
  exact ⟨a, vs, v, rfl, rfl, h3, by rw [h4.length]; exact c, p.now (r.write h2 ⟨_, upd_same, h4.append (.one rv)⟩ (fun _ e => by rw [h1] at e; cases e)) _ .non⟩
/-- xs.extend(ys) -/
def fExt (o : IV) (xs : List IV) (S : Sto) : Out IV := a1 xs fun y => onL S o fun n ys => orBad (lstX S y) fun zs => chk (ys.length + zs.length ≤ sizeLine) (.ok .non (S.set n (.lst (ys ++ zs))))
theorem ms_ext {K : KX} {W : WX} : MtS K W rExtend fExt := fun w S H x xs io ix Q r ro rx p => by
  obtain ⟨v, y, rfl, rfl, rv, p⟩ := a1_post p rx
  obtain ⟨n, ys, a, vs, h1, h2, rfl, h3, h4, p⟩ := onL_post p r ro
  obtain ⟨zs, e, p⟩ := orBad_post p
  obtain ⟨b, us, rfl, h5, h6⟩ := lstX_sq e r rv
  obtain ⟨c, p⟩ := chk_post p
  exact ⟨a, b, vs, us, rfl, rfl, h3, h5, by rw [h4.length, h6.length]; exact c, p.now (r.write h2 ⟨_, upd_same, h4.append h6⟩ (fun _ e => by rw [h1] at e; cases e)) _ .non⟩
def strsOf : List IV → Option (List Str)
  | [] => some []
  | .str s :: xs => (strsOf xs).map (s :: ·)
  | _ => none
theorem strsOf_rel {K : KX} {w : Wd} : ∀ {xs : List IV} {vs : List V} {ss : List Str}, strsOf xs = some ss → RelL K w vs xs → vs = ss.map V.str
  | [], _, _, e, r => by cases e; cases r; rfl
  | x :: xs, _, ss, e, r => by
    cases r with
    | cons a b =>
      cases x with
      | str s =>
        obtain ⟨ts, h1, h2⟩ := Option.map_eq_some_iff.mp (show (strsOf xs).map (s :: ·) = some ss from e)
        subst h2
        cases a
        rw [strsOf_rel h1 b]
        rfl
      | _ => cases e
def fJoin (o : IV) (xs : List IV) (S : Sto) : Out IV := asS o fun a => a1 xs fun y => orBad (seqOf S y) fun ys => orBad (strsOf ys) fun zs => chk ((zs.map (·.length)).sum + zs.length * a.length ≤ 16777216) (.ok (.str (PySem.Txt.join a zs)) S)
theorem ms_join {K : KX} {W : WX} : MtS K W (fun x xs H Q => ∃ a p ys, x = V.str a ∧ xs = [V.ref p] ∧ (SqL K.k H p (ys.map V.str) ∨ SqT K.k H p (ys.map V.str)) ∧ (ys.map fun x => x.length).sum + ys.length * a.length ≤ 16777216 ∧ Q (.str (PySem.Txt.join a ys)) H) fJoin := fun w S H x xs io ix Q r ro rx p => by
  obtain ⟨a, rfl, rfl, p⟩ := asS_post p ro
  obtain ⟨v, y, rfl, rfl, rv, p⟩ := a1_post p rx
  obtain ⟨ys, e1, p⟩ := orBad_post p
  obtain ⟨zs, e2, p⟩ := orBad_post p
  obtain ⟨c, p⟩ := chk_post p
  obtain ⟨b, vs, rfl, h1, h2⟩ := seqOf_sq e1 r rv
  have := strsOf_rel e2 h2
  subst this
  exact ⟨a, b, zs, rfl, rfl, h1, c, p.now r _ (.str _)⟩
/-! ### C.m(..), m a static method -/
end Sm
namespace Sm
open PySem PySem.Spec PyProof.Rows L2
section
variable {P : Program} {w : World} {K : PySem.W.Frag} {mg : Str → Option Value} {base : Heap}
/-- a def that stands at a global name, and keeps what m tells -/
def Cal (P : Program) (w : World) (K : PySem.W.Frag) (mg : Str → Option Value) (base : Heap) (x : Str) (k : Nat) (ps : List Str) (m : List IV → Sto → Out IV) : Prop :=
  ∃ (f : Addr) (fd : FuncData), mg x = some (.ref f) ∧ PySem.W.keepIn K (.ref f) = true ∧ L2.Binds K fd ps [] ∧ FnG P w K mg base (L2.CX P w) k f fd ps (spM K mg ps.length m)
def Loc (K : PySem.W.Frag) (mg : Str → Option Value) (x : Str) (st : Stmt) (ps : List Str) : Prop := ∃ (f : Addr) (fd : FuncData), mg x = some (.ref f) ∧ Fun K x x st f fd ∧ L2.Binds K fd ps []
theorem cal_def {x : Str} {st : Stmt} {N ps : List Str} {k : Nat} {body : IS} (L : Loc K mg x st ps) (Sc : FnScope N ps (defScope st))
    (hb : ∀ (f : Addr) (cdv : Value) (A : Around) (outer : List Env) (s : Shared) (H : Hp) (E : XK), RmG k (A.deeper (envOfC x (defScope st) s.heap.objs.size f cdv)) →
      Takes (DX P w K mg base N x (defScope st) f cdv A outer s H E) (WEx E) → PassesOwn (model P w) (DX P w K mg base N x (defScope st) f cdv A outer s H E).A (DX P w K mg base N x (defScope st) f cdv A outer s H E).env (DX P w K mg base N x (defScope st) f cdv A outer s H E).xe →
      DSs (DX P w K mg base N x (defScope st) f cdv A outer s H E) ⟨WEx E, none⟩ (defBody st) body) : Cal P w K mg base x (k + 1) ps (mDef N.length body) := by
  obtain ⟨f, fd, h1, h2, h3⟩ := L
  exact ⟨f, fd, h1, h2.kp, h3, ok_def h2 Sc (hb f)⟩
end
section
variable {X : Cx} {W : WX} {pos p : Pos} {k : Nat} {ps : List Str} {mf : List IV → Sto → Out IV} {x : Str} {e : Expr} {es : List Expr} {ma : IA}
theorem de_callC {np : Nat} (c : Cal X.prog X.w X.K X.mg X.base x k ps mf) (tk : Takes X W) (hr : RmG k X.A) (ha : DA X ⟨W, none⟩ (e :: es) ma) (hg : Gl X x := by rfl) (hnp : ps.length = np := by rfl) (hdb : (x == ("__debug__" : Str)) = false := by decide)
    (he : starEach (e :: es) X.env = (false, eval e X.env) :: starEach es X.env := by rfl) (hpl : (backTo pos (starEach es X.env)).any (·.1) = false := by rfl) : DE X ⟨W, none⟩ (.Call (.Name x p) (e :: es) [] pos) (iCall np mf ma) := by
  obtain ⟨f, fd, h1, h2, h3, h4⟩ := c
  rw [← hnp]
  exact de_call h4 tk hr h1 h2 h3 ha hg hdb he hpl
theorem takesW0 {X : Cx} : Takes X W0 := fun _ _ x => by
  obtain ⟨_, _, _, _, _, _, _, _, _, _, _, _, _, _, _, _, z⟩ := x
  exact z.elim
end
/-! ### a text, sign by sign -/
end Sm
/-! evaluation -/
namespace Sm
open PySem PySem.Spec PyProof.Rows L2
variable {Λ L : Slots} {S S' : Sto}
@[simp] theorem iVar_s {i : Nat} {x : IV} (h : Λ[i]? = some (some x)) : iVar i Λ S = .ok x S := by unfold iVar; rw [h]
@[simp] theorem iC_e (x : IV) : iC x Λ S = .ok x S := rfl
@[simp] theorem iBin_e (f : IV → IV → Sto → Out IV) (a b : IE) : iBin f a b Λ S = (a Λ S).bind fun x S1 => (b Λ S1).bind fun y S2 => f x y S2 := rfl
@[simp] theorem iUn_e (f : IV → Sto → Out IV) (a : IE) : iUn f a Λ S = (a Λ S).bind fun x S1 => f x S1 := rfl
@[simp] theorem iNil_e : iNil Λ S = .ok [] S := rfl
@[simp] theorem iCons_e (a : IE) (b : IA) : iCons a b Λ S = (a Λ S).bind fun x S1 => (b Λ S1).bind fun xs S2 => .ok (x :: xs) S2 := rfl
@[simp] theorem iCa_e (f : List IV → Sto → Out IV) (a : IA) : iCa f a Λ S = (a Λ S).bind fun x S1 => f x S1 := rfl
@[simp] theorem asI_i {α : Type} (i : Int) (k : Int → Out α) : asI (.int i) k = k i := rfl
@[simp] theorem asS_s {α : Type} (i : Str) (k : Str → Out α) : asS (.str i) k = k i := rfl
@[simp] theorem asB_b {α : Type} (i : Bool) (k : Bool → Out α) : asB (.bl i) k = k i := rfl
@[simp] theorem a1_1 {α : Type} (x : IV) (k : IV → Out α) : a1 [x] k = k x := rfl
@[simp] theorem a2_2 {α : Type} (x y : IV) (k : IV → IV → Out α) : a2 [x, y] k = k x y := rfl
@[simp] theorem iTest_e (m : IE) : iTest m Λ S = (m Λ S).bind fun x S1 => asB x fun b => .ok b S1 := rfl
@[simp] theorem iTru_e (m : IE) : iTru m Λ S = (m Λ S).bind fun x S1 => orBad (truB S1 x) fun b => .ok b S1 := rfl
@[simp] theorem truB_bl (b : Bool) : truB S (.bl b) = some b := rfl
@[simp] theorem truB_non : truB S .non = some false := rfl
@[simp] theorem iAnd_e (c d : IT) : iAnd c d Λ S = (c Λ S).bind fun b S1 => if b = true then d Λ S1 else .ok false S1 := rfl
@[simp] theorem iOr_e (c d : IT) : iOr c d Λ S = (c Λ S).bind fun b S1 => if b = true then .ok true S1 else d Λ S1 := rfl
@[simp] theorem iNot_e (c : IT) : iNot c Λ S = (c Λ S).bind fun b S1 => .ok (!b) S1 := rfl
@[simp] theorem iAndV_e (c d : IE) : iAndV c d Λ S = (c Λ S).bind fun x S1 => asB x fun b => if b = true then d Λ S1 else .ok (.bl false) S1 := rfl
@[simp] theorem iOrV_e (c d : IE) : iOrV c d Λ S = (c Λ S).bind fun x S1 => asB x fun b => if b = true then .ok (.bl true) S1 else d Λ S1 := rfl
@[simp] theorem iNotV_e (c : IE) : iNotV c Λ S = (c Λ S).bind fun x S1 => asB x fun b => .ok (.bl (!b)) S1 := rfl
@[simp] theorem iIf_e {α : Type} (c : IT) (a b : Slots → Sto → Out α) : iIf c a b Λ S = (c Λ S).bind fun k S1 => if k = true then a Λ S1 else b Λ S1 := rfl
@[simp] theorem iChain_e (f g : IV → IV → Sto → Out IV) (a b c : IE) : iChain f g a b c Λ S = (a Λ S).bind fun x S1 => (b Λ S1).bind fun y S2 => (f x y S2).bind fun z S3 => asB z fun k => if k = true then (c Λ S3).bind fun u S4 => g y u S4 else .ok (.bl false) S3 := rfl
@[simp] theorem iSl_e (cell : Bool) (m : IE) (ml mh : IO) : iSl cell m ml mh Λ S = (m Λ S).bind fun x S1 => (ml Λ S1).bind fun lo S2 => (mh Λ S2).bind fun hi S3 => fSl cell x lo hi S3 := rfl
@[simp] theorem iNoPart_e : iNoPart Λ S = .ok none S := rfl
@[simp] theorem iPart_e (m : IE) : iPart m Λ S = (m Λ S).bind fun x S1 => asI x fun i => .ok (some i) S1 := rfl
@[simp] theorem iLst_e (cell : Bool) (m : IA) : iLst cell m Λ S = (m Λ S).bind fun xs S1 => mkL cell xs S1 := rfl
@[simp] theorem iTup_e (m : IA) : iTup m Λ S = (m Λ S).bind fun xs S1 => mkT xs S1 := rfl
@[simp] theorem mkL_t (xs : List IV) : mkL true xs S = chk (xs.length ≤ sizeLine) (.ok (.adr S.length) (S ++ [.lst xs])) := rfl
@[simp] theorem mkL_f (xs : List IV) : mkL false xs S = chk (xs.length ≤ sizeLine) (.ok (.lst xs) S) := rfl
@[simp] theorem mkT_e (xs : List IV) : mkT xs S = chk (xs.length ≤ sizeLine) (.ok (.tup xs) S) := rfl
@[simp] theorem iNext_e : iNext Λ S = .ok (.nx Λ) S := rfl
@[simp] theorem iSeq_e (a b : IS) : iSeq a b Λ S = (a Λ S).bind fun fl S1 => fSeq b fl S1 := rfl
@[simp] theorem fSeq_nx (b : IS) : fSeq b (.nx L) S = b L S := rfl
@[simp] theorem fSeq_rt (b : IS) (v : IV) : fSeq b (.rt v) S = .ok (.rt v) S := rfl
@[simp] theorem fSeq_bk (b : IS) : fSeq b (.bk L) S = .ok (.bk L) S := rfl
@[simp] theorem fSeq_ct (b : IS) : fSeq b (.ct L) S = .ok (.ct L) S := rfl
@[simp] theorem iDrop_e (m : IE) : iDrop m Λ S = (m Λ S).bind fun _ S1 => .ok (.nx Λ) S1 := rfl
@[simp] theorem iRet_e (m : IE) : iRet m Λ S = (m Λ S).bind fun x S1 => .ok (.rt x) S1 := rfl
@[simp] theorem iRetN_e : iRetN Λ S = .ok (.rt .non) S := rfl
@[simp] theorem iBrk_e : iBrk Λ S = .ok (.bk Λ) S := rfl
@[simp] theorem iCnt_e : iCnt Λ S = .ok (.ct Λ) S := rfl
@[simp] theorem iName_e (i : Nat) (x : IV) : iName i x Λ S = .ok (Λ.set i (some x)) S := rfl
@[simp] theorem iAsg_e (m : IE) (g : IG) : iAsg m g Λ S = (m Λ S).bind fun x S1 => (g x Λ S1).bind fun L S2 => .ok (.nx L) S2 := rfl
@[simp] theorem iSet_e (i : Nat) (m : IE) : iSet i m Λ S = (m Λ S).bind fun x S1 => .ok (.nx (Λ.set i (some x))) S1 := rfl
@[simp] theorem iGSub_e (mo mi : IE) (x : IV) : iGSub mo mi x Λ S = (mo Λ S).bind fun o S1 => (mi Λ S1).bind fun i S2 => asI i fun k => onL S2 o fun n xs => orBad (ixN xs.length k) fun j => .ok Λ (S2.set n (.lst (xs.set j x))) := rfl
theorem onL_s {α : Type} {n : Nat} {xs : List IV} {k : Nat → List IV → Out α} (h : S[n]? = some (.lst xs)) : onL S (.adr n) k = k n xs := by unfold onL; simp only [h]
@[simp] theorem iFor_e (ms : IW) (g : IG) (b : IS) : iFor ms g b Λ S = (ms Λ S).bind fun s S1 => iIter s g b s.items Λ S1 := rfl
@[simp] theorem iSrcR1_e (m : IE) : iSrcR1 m Λ S = (m Λ S).bind fun x S1 => asI x fun j => chk (-(2 ^ 62) ≤ j ∧ j < 2 ^ 62) (.ok ⟨rangeI 0 j.toNat, none⟩ S1) := rfl
@[simp] theorem iSrcS_e (m : IE) : iSrcS m Λ S = (m Λ S).bind fun x S1 => asS x fun z => .ok ⟨z.cps.toList.map fun c => .str ⟨#[c]⟩, none⟩ S1 := rfl
@[simp] theorem iSrcL_e (m : IE) : iSrcL m Λ S = (m Λ S).bind fun x S1 => fSrcL x S1 := rfl
@[simp] theorem fSrcL_l (xs : List IV) : fSrcL (.lst xs) S = .ok ⟨xs, none⟩ S := rfl
@[simp] theorem fSrcL_w (xs : List IV) : fSrcL (.wls xs) S = .ok ⟨xs, none⟩ S := rfl
@[simp] theorem iLc_e (cell : Bool) (ms : IW) (gi : IV → Slots → Option Slots) (tt : IT) (te : IE) (vs : List Nat) : iLc cell ms gi tt te vs Λ S = (ms Λ S).bind fun s S1 => (iLcGo s gi tt te s.items (wipeI Λ vs) S1 []).bind fun acc S2 => mkL cell acc S2 := rfl
@[simp] theorem iYes_e : iYes Λ S = .ok true S := rfl
@[simp] theorem giN_e (j : Nat) (x : IV) : giN j x Λ = some (Λ.set j (some x)) := rfl
@[simp] theorem iCall_e (np : Nat) (mf : List IV → Sto → Out IV) (a : IA) : iCall np mf a Λ S = (a Λ S).bind fun xs S1 => chk (xs.length = np) (relab Λ (mf xs S1)) := rfl
@[simp] theorem relab_ok (v : IV) : relab Λ (.ok v S) = .ok v S := rfl
@[simp] theorem relab_bad : relab Λ .bad = .bad := rfl
@[simp] theorem iBM_e (T : String) (f : IV → List IV → Sto → Out IV) (mo : IE) (ma : IA) : iBM T f mo ma Λ S = (mo Λ S).bind fun o S1 => chk (hasTy T S1 o = true) ((ma Λ S1).bind fun xs S2 => f o xs S2) := rfl
@[simp] theorem fI_i (C : Int → Int → Prop) [∀ i j, Decidable (C i j)] (g : Int → Int → Int) (i j : Int) : fI C g (.int i) (.int j) S = chk (C i j) (.ok (.int (g i j)) S) := rfl
@[simp] theorem fB_i (g : Int → Int → Bool) (i j : Int) : fB g (.int i) (.int j) S = .ok (.bl (g i j)) S := rfl
@[simp] theorem fAdd_i (i j : Int) : fAdd (.int i) (.int j) S = .ok (.int (i + j)) S := rfl
@[simp] theorem fAdd_s (a b : Str) : fAdd (.str a) (.str b) S = chk (a.length + b.length ≤ sizeLine) (.ok (.str (a ++ b)) S) := rfl
@[simp] theorem fAdd_l (a b : List IV) : fAdd (.lst a) (.lst b) S = mkF (a ++ b) S := rfl
@[simp] theorem mkF_e (a : List IV) : mkF a S = chk (a.length ≤ sizeLine) (.ok (.lst a) S) := rfl
@[simp] theorem fIx_l (xs : List IV) (i : Int) : fIx (.lst xs) (.int i) S = orBad (atI xs i) fun v => .ok v S := rfl
@[simp] theorem fIx_w (xs : List IV) (i : Int) : fIx (.wls xs) (.int i) S = orBad (atI xs i) fun v => .ok v S := rfl
@[simp] theorem fIx_t (xs : List IV) (i : Int) : fIx (.tup xs) (.int i) S = orBad (atI xs i) fun v => .ok v S := rfl
@[simp] theorem fIx_s (z : Str) (i : Int) : fIx (.str z) (.int i) S = chk (z.length ≤ sizeLine) (orBad (atI z.cps.toList i) fun c => .ok (.str ⟨#[c]⟩) S) := rfl
theorem fIx_a {n : Nat} {xs : List IV} {i : Int} (h : S[n]? = some (.lst xs)) : fIx (.adr n) (.int i) S = orBad (atI xs i) fun v => .ok v S := by
  show orBad (lstOf S (.adr n)) _ = _
  unfold lstOf
  simp only [h]
  rfl
@[simp] theorem fInt_i (i : Int) : fInt [.int i] S = .ok (.int i) S := rfl
@[simp] theorem fInt_b (i : Bool) : fInt [.bl i] S = .ok (.int (if i then 1 else 0)) S := rfl
@[simp] theorem fAbs_i (i : Int) : fAbs [.int i] S = .ok (.int (if i < 0 then -i else i)) S := rfl
@[simp] theorem fLen_e (x : IV) : fLen [x] S = orBad (lenN S x) fun n => .ok (.int n) S := rfl
@[simp] theorem lenN_s (s : Str) : lenN S (.str s) = if s.length ≤ sizeLine then some s.length else none := rfl
@[simp] theorem lenN_l (s : List IV) : lenN S (.lst s) = some s.length := rfl
@[simp] theorem lenN_w (s : List IV) : lenN S (.wls s) = some s.length := rfl
@[simp] theorem lenN_t (s : List IV) : lenN S (.tup s) = some s.length := rfl
@[simp] theorem fMax2_i (i j : Int) : fMax2 [.int i, .int j] S = .ok (.int (if j > i then j else i)) S := rfl
@[simp] theorem fMin2_i (i j : Int) : fMin2 [.int i, .int j] S = .ok (.int (if j < i then j else i)) S := rfl
@[simp] theorem fIsi_e (x : IV) (n : String) : fIsi [x, .ty n] S = orBad (tyN S x) fun t => orBad (kitN t n) fun b => .ok (.bl b) S := rfl
@[simp] theorem tyN_non : tyN S .non = some "NoneType" := rfl
@[simp] theorem tyN_bl (b : Bool) : tyN S (.bl b) = some "bool" := rfl
@[simp] theorem tyN_int (b : Int) : tyN S (.int b) = some "int" := rfl
@[simp] theorem tyN_str (b : Str) : tyN S (.str b) = some "str" := rfl
@[simp] theorem tyN_lst (b : List IV) : tyN S (.lst b) = some "list" := rfl
@[simp] theorem tyN_tup (b : List IV) : tyN S (.tup b) = some "tuple" := rfl
@[simp] theorem fIn_e (x y : IV) : fIn x y S = orBad (inB S x y) fun b => .ok (.bl b) S := rfl
@[simp] theorem fNotIn_e (x y : IV) : fNotIn x y S = orBad (inB S x y) fun b => .ok (.bl (!b)) S := rfl
@[simp] theorem fEq_e (x y : IV) : fEq x y S = orBad (eqB S x y) fun b => .ok (.bl b) S := rfl
@[simp] theorem fNe_e (x y : IV) : fNe x y S = orBad (eqB S x y) fun b => .ok (.bl (!b)) S := rfl
@[simp] theorem eqB_i (i j : Int) : eqB S (.int i) (.int j) = some (decide (i = j)) := rfl
@[simp] theorem eqB_s (i j : Str) : eqB S (.str i) (.str j) = some (decide (i = j)) := rfl
@[simp] theorem eqB_b (i j : Bool) : eqB S (.bl i) (.bl j) = some (decide (i = j)) := rfl
@[simp] theorem gIsN_e (x : IV) : gIsN x .non S = .ok (.bl (isN x)) S := rfl
@[simp] theorem gNotN_e (x : IV) : gNotN x .non S = .ok (.bl (!isN x)) S := rfl
@[simp] theorem fSl_s (cell : Bool) (z : Str) (lo hi : Option Int) : fSl cell (.str z) lo hi S = chk (z.length ≤ sizeLine) (.ok (.str (cutS z lo hi)) S) := rfl
@[simp] theorem fSl_l (cell : Bool) (z : List IV) (lo hi : Option Int) : fSl cell (.lst z) lo hi S = mkL cell (cutI z lo hi) S := rfl
theorem mDef_e (n : Nat) (b : IS) (xs : List IV) : mDef n b xs S = match b (xs.map some ++ List.replicate (n - xs.length) none) S with
  | .ok (.rt iv) S' => .ok iv S'
  | .ok (.nx _) S' => .ok .non S'
  | .ok _ _ => .bad
  | .exc C k _ S' => .exc C k [] S'
  | .bad => .bad := rfl
theorem mDef_rt {n : Nat} {b : IS} {xs : List IV} {v : IV} (h : b (xs.map some ++ List.replicate (n - xs.length) none) S = .ok (.rt v) S') : mDef n b xs S = .ok v S' := by unfold mDef; simp only [h]
theorem atI_n {α : Type} {xs : List α} {i : Nat} {v : α} (h : xs[i]? = some v) : atI xs (i : Int) = some v := atI_nat h
@[simp] theorem atI_0 {α : Type} (x : α) (xs : List α) : atI (x :: xs) 0 = some x := atI_nat (xs := x :: xs) (j := 0) rfl
@[simp] theorem atI_1 {α : Type} (x y : α) (xs : List α) : atI (x :: y :: xs) 1 = some y := atI_nat (xs := x :: y :: xs) (j := 1) rfl
@[simp] theorem atI_2 {α : Type} (x y z : α) (xs : List α) : atI (x :: y :: z :: xs) 2 = some z := atI_nat (xs := x :: y :: z :: xs) (j := 2) rfl
theorem atI_lt {α : Type} {xs : List α} {i : Int} (h0 : 0 ≤ i) (h : i < xs.length) : ∃ v, atI xs i = some v ∧ v ∈ xs := by
  obtain ⟨n, rfl⟩ := Int.eq_ofNat_of_zero_le h0
  have hn : n < xs.length := by exact_mod_cast h
  exact ⟨xs[n], atI_nat (List.getElem?_eq_getElem hn), List.getElem_mem hn⟩
@[simp] theorem ixN_0 (n : Nat) : ixN (n + 1) 0 = some 0 := by unfold ixN; rw [if_pos (by omega), if_pos (by omega)]; rfl
@[simp] theorem ixN_1 (n : Nat) : ixN (n + 2) 1 = some 1 := by unfold ixN; rw [if_pos (by omega), if_pos (by omega)]; rfl
@[simp] theorem ixN_2 (n : Nat) : ixN (n + 3) 2 = some 2 := by unfold ixN; rw [if_pos (by omega), if_pos (by omega)]; rfl
end Sm
/-! texts as lists of signs; == of lists of texts -/
namespace Sm
open PySem PySem.Spec PyProof.Rows L2
/-- the signs of a text -/
abbrev sg (s : Str) : List Nat := s.cps.toList
theorem sg_inj {a b : Str} (h : sg a = sg b) : a = b := by
  cases a; cases b
  exact congrArg Str.mk (Array.toList_inj.mp h)
theorem sg_len (s : Str) : (sg s).length = s.length := by simp [sg, Str.length]
theorem sg_app (a b : Str) : sg (a ++ b) = sg a ++ sg b := by
  show (a.cps ++ b.cps).toList = _
  simp [sg]
theorem len_app (a b : Str) : (a ++ b).length = a.length + b.length := by rw [← sg_len, sg_app, List.length_append, sg_len, sg_len]
theorem sg_mk (l : List Nat) : sg ⟨l.toArray⟩ = l := by simp [sg]
theorem sg_cut (z : Str) (lo hi : Option Int) : sg (cutS z lo hi) = ((sg z).drop (HT.sIx z.length 0 lo)).take (HT.sIx z.length z.length hi - HT.sIx z.length 0 lo) := by
  unfold cutS
  rw [sg_mk]
theorem len_cut (z : Str) (lo hi : Option Int) : (cutS z lo hi).length ≤ z.length := cutS_length z lo hi
theorem fold_glue : ∀ (zs : List Str) (acc : Array Nat), (zs.foldl (fun acc p => acc ++ (Str.mk #[]).cps ++ p.cps) acc).toList = acc.toList ++ (zs.map sg).flatten
  | [], acc => by simp
  | z :: zs, acc => by
    rw [List.foldl_cons, fold_glue zs, List.map_cons, List.flatten_cons]
    simp [sg]
theorem sg_join0 (zs : List Str) : sg (PySem.Txt.join ⟨#[]⟩ zs) = (zs.map sg).flatten := by
  show ((zs.drop 1).foldl _ (zs.headD Str.empty).cps).toList = _
  cases zs with
  | nil => rfl
  | cons z zs =>
    show (zs.foldl (fun acc p => acc ++ (Str.mk #[]).cps ++ p.cps) z.cps).toList = _
    rw [fold_glue]
    rfl
theorem empty_eq : ("" : Str) = ⟨#[]⟩ := by decide +kernel
/-- all signs are known ones -/
def okS (s : Str) : Prop := ∀ c ∈ sg s, c < 1114112
theorem okS_b {s : Str} (h : okS s) : PyData.strOk s = true := by
  unfold PyData.strOk
  rw [← Array.all_toList]
  exact List.all_eq_true.mpr fun c hc => decide_eq_true (h c hc)
theorem okS_app {a b : Str} (ha : okS a) (hb : okS b) : okS (a ++ b) := fun c hc => by
  rw [sg_app] at hc
  exact (List.mem_append.mp hc).elim (ha c) (hb c)
/-! ### lists of texts as data -/
theorem viewL_strs {f : IV → Option PyData} (hf : ∀ s, f (.str s) = some (.str s)) : ∀ zs : List Str, viewL f (zs.map IV.str) = some (zs.map PyData.str)
  | [] => rfl
  | z :: zs => by
    show viewL f (.str z :: zs.map IV.str) = _
    unfold viewL
    rw [hf, viewL_strs hf zs]
    rfl
theorem canLay_strs : ∀ {zs : List Str}, (∀ z ∈ zs, okS z) → PyData.canLayAll0 (zs.map PyData.str) = true
  | [], _ => by simp [PyData.canLayAll0]
  | z :: zs, h => by
    show PyData.canLayAll0 (.str z :: zs.map PyData.str) = true
    rw [PyData.canLayAll0, PyData.canLay0, okS_b (h z List.mem_cons_self), canLay_strs fun y hy => h y (List.mem_cons_of_mem _ hy)]
    rfl
theorem depth_strs : ∀ zs : List Str, PyData.depthAll (zs.map PyData.str) = 0
  | [] => by simp [PyData.depthAll]
  | z :: zs => by
    show PyData.depthAll (.str z :: zs.map PyData.str) = 0
    rw [PyData.depthAll, PyData.depth, depth_strs zs]
    rfl
theorem eqv_strs : ∀ zs ys : List Str, PyData.eqvAll (zs.map PyData.str) (ys.map PyData.str) = decide (zs = ys)
  | [], [] => by simp [PyData.eqvAll]
  | [], y :: ys => by simp [PyData.eqvAll]
  | z :: zs, [] => by simp [PyData.eqvAll]
  | z :: zs, y :: ys => by
    show PyData.eqvAll (.str z :: zs.map PyData.str) (.str y :: ys.map PyData.str) = _
    rw [PyData.eqvAll, PyData.eqv, eqv_strs zs ys]
    by_cases h1 : z = y
    · subst h1
      by_cases h2 : zs = ys
      · subst h2; simp
      · simp [h2]
    · simp [h1]
theorem shaped_strs {zs : List Str} (h : ∀ z ∈ zs, okS z) : SeqAt.shaped (.list (zs.map PyData.str)) = true := by
  unfold SeqAt.shaped
  rw [PyData.canLay0, PyData.depth, canLay_strs h, depth_strs]
  rfl
theorem eqB_lst {S : Sto} {x y : List IV} {d e : PyData} (h1 : view 8 S (.lst x) = some d) (h2 : view 8 S (.lst y) = some e) (s1 : SeqAt.shaped d = true) (s2 : SeqAt.shaped e = true) : eqB S (.lst x) (.lst y) = some (PyData.eqv d e) := by
  show (match view 8 S (.lst x), view 8 S (.lst y) with
    | some d, some e => if SeqAt.shaped d = true ∧ SeqAt.shaped e = true then some (PyData.eqv d e) else none
    | _, _ => none) = _
  rw [h1, h2]
  show (if SeqAt.shaped d = true ∧ SeqAt.shaped e = true then some (PyData.eqv d e) else none) = _
  rw [if_pos ⟨s1, s2⟩]
theorem view_strs {S : Sto} (n : Nat) (zs : List Str) : view (n + 2) S (.lst (zs.map IV.str)) = some (.list (zs.map PyData.str)) := by
  show (viewL (view (n + 1) S) (zs.map IV.str)).map PyData.list = _
  rw [viewL_strs fun s => rfl]
  rfl
theorem eqB_strs {S : Sto} {zs ys : List Str} (hz : ∀ z ∈ zs, okS z) (hy : ∀ z ∈ ys, okS z) : eqB S (.lst (zs.map IV.str)) (.lst (ys.map IV.str)) = some (decide (zs = ys)) := by
  rw [eqB_lst (view_strs 6 zs) (view_strs 6 ys) (shaped_strs hz) (shaped_strs hy), PyData.eqv, eqv_strs]
/-! ### in a list of texts -/
theorem scVs_strs : ∀ zs : List Str, scVs (zs.map IV.str) = some (zs.map V.str)
  | [] => rfl
  | z :: zs => by
    show scVs (.str z :: zs.map IV.str) = _
    unfold scVs
    rw [scVs_strs zs]
    rfl
theorem inV_strs (s : Str) (zs : List Str) : inV (.str s) (zs.map V.str) = decide (s ∈ zs) := by
  unfold inV
  induction zs with
  | nil => rfl
  | cons z zs ih =>
    rw [List.map_cons, List.any_cons, ih]
    by_cases h : s = z
    · subst h; simp [eqV]
    · have : (z == s) = false := by simpa using fun e => h e.symm
      simp [eqV, this, h]
theorem inB_lst {S : Sto} (s : Str) (zs : List Str) : inB S (.str s) (.lst (zs.map IV.str)) = some (decide (s ∈ zs)) := by
  show ((scVs (zs.map IV.str)).map fun us => inV (.str s) us) = _
  rw [scVs_strs]
  show some (inV (.str s) (zs.map V.str)) = _
  rw [inV_strs]
theorem inB_tup {S : Sto} (s : Str) (zs : List Str) : inB S (.str s) (.tup (zs.map IV.str)) = some (decide (s ∈ zs)) := by
  show ((scVs (zs.map IV.str)).map fun us => inV (.str s) us) = _
  rw [scVs_strs]
  show some (inV (.str s) (zs.map V.str)) = _
  rw [inV_strs]
/-! ### rangeI -/
theorem stay_none (xs : List IV) (S : Sto) : (Src.mk xs none).stay S := trivial
end Sm
/-! the end of a law's proof -/
namespace Sm
open PySem PySem.Spec PyProof.Rows L2
section
variable {K : PySem.W.Frag} {mg : Str → Option Value} {h : Heap}
theorem loc_mk {x : Str} {st : Stmt} {ps : List Str} {f : Addr} {od an : Option Addr} {sl : Array (Option Value)} {oc kV dc pm cd ct : Value} (X : K.In h) (G : h.Ns mainGlobals mg)
    (a : PySem.W.nsIn K mainGlobals x = some (some (.ref f))) (l : K.lookup f = some ⟨oc, od, .func (PySem.W.fnOf x x (defArgs st) (defBody st) (defScope st) .none kV dc pm an cd ct), sl⟩) (c : PySem.W.codeIn K cd x = true) (k : PySem.W.keepIn K (.ref f) = true)
    (hb : ∀ (kV doc pm : Value) (an : Option Addr) (cdv ct : Value) (us : List Value), us.length = ps.length → bindArgs (PySem.W.fnOf x x (defArgs st) (defBody st) (defScope st) .none kV doc pm an cdv ct) ⟨us, []⟩ = pure (ps.zip us)) : Loc K mg x st ps :=
  have F := fun_mk (st := st) l c k
  ⟨f, _, PySem.W.mg_of X G a, F, F.binds hb⟩
end
/-- a law's promise, from what its mirror tells of every script -/
theorem sp_law {K : PySem.W.Frag} {mg : Str → Option Value} {m : List IV → Sto → Out IV} {n : Nat} (hm : ∀ ns : List Int, ns.length ≤ n → ∃ S', m [.wls (ns.map IV.int)] [] = .ok (.bl true) S') {H : Hp} {a : Addr} {ns : List Int} {Q : VK} {E : XK} (hl : ns.length ≤ n) (hS : SqL K H a (ns.map V.int)) (hq : ∀ H', Q (.bl true) H') :
    spM K mg 1 m [.ref a] H Q E := by
  obtain ⟨S', e⟩ := hm ns hl
  have rl : ∀ {w : Wd} (l : List Int), RelL ⟨K, mg, none⟩ w (l.map V.int) (l.map IV.int) := fun {w} l => by
    induction l with
    | nil => exact .nil
    | cons x l ih => exact .cons (.int x) ih
  refine ⟨rfl, ⟨[], H, fun _ => none⟩, [], [.wls (ns.map IV.int)], ?_, .one (.wls hS (rl ns)), ?_⟩
  · refine ⟨rfl, List.nodup_nil, fun n c a h => ?_, fun n a h => ?_, Same.refl _, fun b o h => ?_, fun b o h => ?_⟩
    · simp at h
    · simp at h
    · have h : (none : Option HO) = some o := h
      cases h
    · have h : (none : Option HO) = some o := h
      cases h
  · rw [e]
    intro w' H' l r v rv
    cases rv
    exact hq H'
/-- what a law keeps: it answers True to every script of at most n numbers -/
def lawSp (K : PySem.W.Frag) (n : Nat) : Sp := fun vs H Q _ => ∃ (a : Addr) (ns : List Int), vs = [.ref a] ∧ ns.length ≤ n ∧ SqL K H a (ns.map V.int) ∧ ∀ H', Q (.bl true) H'
section
variable {K : PySem.W.Frag} {h : Heap} {mg : Str → Option Value}
/-- a def whose function is known -/
theorem law_mk {x y : Str} {st : Stmt} {f fa : Addr} {od an : Option Addr} {sl : Array (Option Value)} {oc kV dc pm cd ct : Value} (X : K.In h) (G : h.Ns mainGlobals mg) (hfa : mg x = some (.ref fa))
    (a : PySem.W.nsIn K mainGlobals x = some (some (.ref f))) (l : K.lookup f = some ⟨oc, od, .func (PySem.W.fnOf x x (defArgs st) (defBody st) (defScope st) .none kV dc pm an cd ct), sl⟩) (c : PySem.W.codeIn K cd x = true) (k : PySem.W.keepIn K (.ref f) = true)
    (hb : ∀ (kV doc pm : Value) (an : Option Addr) (cdv ct u : Value), bindArgs (PySem.W.fnOf x x (defArgs st) (defBody st) (defScope st) .none kV doc pm an cdv ct) ⟨[u], []⟩ = pure [(y, u)])
    {P : Program} {w : World} {n : Nat} {m : List IV → Sto → Out IV} (hm : ∀ ns : List Int, ns.length ≤ 63 → ∃ S', m [.wls (ns.map IV.int)] [] = .ok (.bl true) S') (H : ∀ (fd : FuncData), Fun K x x st fa fd → ∀ base : Heap, K.In base → base.Ns mainGlobals mg → FnG P w K mg base (L2.CX P w) n fa fd [y] (spM K mg 1 m)) :
    ∃ fd : FuncData, (∀ (s : Shared) (v : Value), BindsTo s fd ⟨[v], []⟩ [(y, v)]) ∧ ∀ base : Heap, K.In base → base.Ns mainGlobals mg → FnG P w K mg base (L2.CX P w) n fa fd [y] (lawSp K 63) := by
  have e := hfa.symm.trans (PySem.W.mg_of X G a)
  cases e
  have F := fun_mk (st := st) l c k
  exact ⟨_, fun s v => .of_eq (hb _ _ _ _ _ _ v), fun base kin ns => (H _ F base kin ns).imp fun vs H Q E ⟨a, xs, e, hl, hS, hq⟩ => by
    subst e
    exact sp_law hm hl hS hq⟩
end
end Sm
/-! own exceptions: made and raised, caught, their fields read -/
namespace Sm
open PySem PySem.Spec PyProof.Rows L2
/-- B.__init__(self, ..) of an own exception's own base that takes ValueError's -/
structure BaseC (K : PySem.W.Frag) (mg : Str → Option Value) (x : Str) : Prop where
  ex : ∃ C : Addr, mg x = some (.ref C) ∧ PySem.W.specialIn K (.ref C) "__getattribute__" = some (some (.builtin "type.__getattribute__")) ∧ PySem.W.typeIn K (.ref C) = some (.type "type") ∧
    PySem.W.readsIn K C (.type "type") = true ∧ PySem.W.findCls K (.ref C) (.type "type") "__init__" = some (.val (.builtin "ValueError.__init__"))
section
variable {X : Cx} {e : Expr} {es : List Expr} {ta : TA} {x : Str} {p1 p2 pos : Pos}
theorem pe_clsinit {pl : Sem Bool} (hg : Gl X x) (B : BaseC X.K X.mg x) (hdb : (x == ("__debug__" : Str)) = false) (ha : PA X (e :: es) ta)
    (hc : eval (.Call (.Attribute (.Name x p1) "__init__" p2) (e :: es) [] pos) X.env = (do
      let ov ← eval (.Name x p1) X.env
      standAt p2.atName
      let (f, first) ← holding [ov] (getMethod ov "__init__" pl)
      callWith pos f first (backTo pos (starEach (e :: es) X.env)) (backToKw pos (keywordEach [] X.env))) := by rfl)
    (he : starEach (e :: es) X.env = (false, eval e X.env) :: starEach es X.env := by rfl) (hpl : (backTo pos (starEach es X.env)).any (·.1) = false := by rfl) :
    PE X (.Call (.Attribute (.Name x p1) "__init__" p2) (e :: es) [] pos) (tVeI X.K ta) := by
  obtain ⟨C, hm, ga, ty, rd, fc⟩ := B.ex
  refine ⟨fun pins s σ H Q I h => ?_⟩
  refine PySem.W.methodCall_KW (ld_glob I hg hm ?_ hdb) hc
  obtain ⟨m, fr⟩ := I.fr
  refine PySem.W.method_of_cls fr I.ok.mod.kin ga (PySem.W.cls_val fr I.ok.mod.kin ty rd fc (by decide +kernel) ?_)
  show wpAny _ _ (callWith pos (Value.builtin "ValueError.__init__") [] (backTo pos (starEach (e :: es) X.env)) []) _ _ _
  refine PyProof.Rows.callWith_method1 (thn (ha.run pos pins _ σ H _ (I.tok _) h) fun us s1 ⟨vs, H1, I1, r1, a, C, ws, ev, hl, T, ea, q⟩ => ?_) he hpl
  subst ev
  cases r1 with
  | @cons _ u0 _ ur ra rw' =>
    obtain rfl : u0 = Value.ref a := ra
    have hlen : ur.length ≤ sizeLine := by
      rw [← Paired.length rw', sizeLine_eq]
      omega
    exact oinit_ok T I1 ea hlen fun s' J => ⟨.non, H1, J, rfl, q⟩
end
/-- what an exception's own __init__(self, v) keeps: its one field -/
def exSp (K : PySem.W.Frag) (f : Str) : Sp := fun vs H Q _ => ∃ (a C : Addr) (v : V), vs = [.ref a, v] ∧ OexC K C ∧ PySem.W.findIn K (.ref C) f = some none ∧ H a = some (exo a C none) ∧
  ∀ dx, H dx = none → dx ≠ a → Q .non (upd (upd H dx (exd dx [(f, v)])) a (exo a C (some dx)))
/-- an exception class of the module -/
structure EClsAt (K : PySem.W.Frag) (mg : Str → Option Value) (x : Str) (f : Str) (C : Addr) : Prop where
  m : mg x = some (.ref C)
  o : OexC K C
  nf : PySem.W.findIn K (.ref C) f = some none
structure ECal (P : Program) (w : World) (K : PySem.W.Frag) (mg : Str → Option Value) (base : Heap) (x f : Str) : Prop where
  ex : ∃ (C fI : Addr) (fd : FuncData) (a b : Str), EClsAt K mg x f C ∧ PySem.W.findIn K (.ref C) "__init__" = some (some (.ref fI)) ∧ PySem.W.typeIn K (.ref fI) = some (.type "function") ∧
    L2.Binds K fd [a, b] [] ∧ FnOk P w K mg base (L2.CX P w) 1 fI fd [a, b] (exSp K f)
section
variable {P : Program} {w : World} {K : PySem.W.Frag} {mg : Str → Option Value} {base : Heap}
def tInit (K : PySem.W.Frag) (f z : Str) : TS := tSeq (tDrop (tVeI K (tCons (tVar 0) (tCons (tC (.str z)) tNil)))) (tOst K f (tVar 0) (tVar 1))
theorem einit_ok {qual : Str} {st : Stmt} {fI : Addr} {fd : FuncData} {f a b z : Str} (F : Fun K "__init__" qual st fI fd) (Sc : FnScope [a, b] [a, b] (defScope st))
    (hb : ∀ (cdv : Value) (A : Around) (outer : List Env) (s : Shared) (H : Hp) (E : XK), PSs (DX P w K mg base [a, b] qual (defScope st) fI cdv A outer s H E) (defBody st) (tInit K f z)) : FnOk P w K mg base (L2.CX P w) 1 fI fd [a, b] (exSp K f) := by
  refine F.okX Sc (fun vs H Q E h => by obtain ⟨_, _, _, rfl, _⟩ := h; rfl) fun cdv A outer s H vs Q E hr h => ?_
  obtain ⟨e, C, v, rfl, T, nf, ha, q⟩ := h
  exact ⟨_, hb cdv A outer s H E, .ref e, rfl, e, C, [.str z], rfl, by simp, T, ha, v, rfl, .ref e, rfl, e, C, rfl, T, nf, .inl ⟨ha, fun dx hn hne => q dx hn hne⟩⟩
end
section
variable {X : Cx} {W : WZ} {e : Expr} {es : List Expr} {ma : IA} {x f : Str} {p pos rpos : Pos}
theorem exc_hp {H1 : Hp} {a dx : Addr} {o o' o'' o3 : HO} (ha : H1 a = none) (hne : dx ≠ a) : upd (del (upd (upd (upd H1 a o) dx o') a o'') a) dx o3 = upd H1 dx o3 := by
  funext b
  by_cases hb : b = dx
  · rw [hb, upd_same, upd_same]
  · rw [upd_ne hb, upd_ne hb]
    by_cases hc : b = a
    · rw [hc, del_same, ha]
    · rw [del_ne hc, upd_ne hc, upd_ne hb, upd_ne hc]
theorem pmk_e (c : ECal X.prog X.w X.K X.mg X.base x f) (tk : Takes X W.x) (hr : RmG 2 X.A) (hg : Gl X x) (ha : DA X W (e :: es) ma) (hdb : (x == ("__debug__" : Str)) = false)
    (he : starEach (e :: es) X.env = (false, eval e X.env) :: starEach es X.env) (hpl : (backTo pos (starEach es X.env)).any (·.1) = false) :
    PMk X (.Call (.Name x p) (e :: es) [] pos) (fun σ H Q => aM (kx X W) W.x ma σ H fun vs H' => ∃ v, vs = [v] ∧ ∀ d, H' d = none → Q (clsV X.mg x) (some d) (upd H' d (.xd [(f, v)]))) := by
  obtain ⟨C, fI, fd, a, b, ec, iC, tI, bi, F⟩ := c.ex
  have hcl : clsV X.mg x = .ref C := by unfold clsV; rw [ec.m]; rfl
  intro pins s σ H Q I h
  refine pmk_oex (ds := []) (dvs := []) ec.o iC tI F hr.toRoom bi .nil (passes_call tk fun _ _ _ _ z => z.elim) hg ec.m ha hdb he hpl pins s σ H Q I ?_
  obtain ⟨w, S, Λ, r0, s0, p⟩ := h
  refine ⟨w, S, Λ, r0, s0, p.imp fun w1 H1 S1 ivs l1 r1 p1 vs rv => ?_⟩
  obtain ⟨v, rfl, q⟩ := p1 vs rv
  refine ⟨by simp, fun e he => ⟨e, C, v, rfl, ec.o, ec.nf, upd_same, fun dx hdx hne => ⟨rfl, dx, [(f, v)], upd_same, by rw [upd_ne hne, upd_same], by rwa [upd_ne hne] at hdx, ?_⟩⟩⟩
  rw [exc_hp he hne, ← hcl]
  exact q dx (by rwa [upd_ne hne] at hdx)
/-- raise C(v), C with the one field f -/
def iRaise (x f : Str) (ma : IA) : IS := fun Λ S => (ma Λ S).bind fun xs S1 => a1 xs fun v => .exc x S1.length Λ (S1 ++ [.xd [(f, v)]])
theorem ds_raise (hc : X.calm = true) (tk : Takes X W.x) (hr : RmG 2 X.A) (c : ECal X.prog X.w X.K X.mg X.base x f) (ha : DA X W (e :: es) ma) (hg : Gl X x := by rfl) (hdb : (x == ("__debug__" : Str)) = false := by decide)
    (he : starEach (e :: es) X.env = (false, eval e X.env) :: starEach es X.env := by rfl) (hpl : (backTo pos (starEach es X.env)).any (·.1) = false := by rfl) (hx : W.ex = none := by rfl) :
    DS X W (.Raise (some (.Call (.Name x p) (e :: es) [] pos)) none rpos) (iRaise x f ma) :=
  (ps_raise hc tk (pmk_e c tk hr hg ha hdb he hpl)).imp fun D σ H ⟨w, S, Λ, r0, s0, p⟩ => ⟨w, S, Λ, r0, s0, p.bind.imp fun w1 H1 S1 xs l1 r1 p1 vs rv => by
    obtain ⟨v, y, rfl, rfl, rv, p1⟩ := a1_post p1 rv
    refine ⟨v, rfl, fun d hd => ?_⟩
    obtain ⟨l2, r2⟩ := r1.alloc (p := d) (o := .xd [(f, v)]) (c := .xd [(f, y)]) hd fun w' l' => ⟨_, upd_same, .cons ⟨rfl, rv.up l'⟩ .nil⟩
    exact p1 _ _ d σ l2 r2 ((s0.up l1).up l2) (by
      show (w1.rho ++ [d])[S1.length]? = some d
      rw [← r1.len]
      simp)⟩
end
/-- the slot i is let go -/
def Fl.gone (i : Nat) : Fl → Fl
  | .nx L => .nx (L.set i none)
  | .bk L => .bk (L.set i none)
  | .ct L => .ct (L.set i none)
  | .rt v => .rt v
/-- try: mb / except c as (slot i): ms; tab tells of each class that may come whether c takes it -/
def iTryAs (tab : List (Str × Bool)) (i : Nat) (mb : IS) (ms : Str → Nat → IS) : IS := fun Λ S => match mb Λ S with
  | .exc C n L S' => (match tab.lookup C with
    | some true => (noX (ms C n (L.set i none) S')).bind fun fl S2 => .ok (fl.gone i) S2
    | some false => .exc C n L S'
    | none => .bad)
  | o => o
section
variable {X : Cx} {W : WX} {x n : Str} {c : Value} {i : Nat} {body suite : List Stmt} {b₀ : Stmt} {np pos pos' : Pos} {mb : IS} {ms : Str → Nat → IS} {tab : List (Str × Bool)}
theorem sr_out {K K' : KX} {w : Wd} {σ : L2.St} {L : Slots} (i : Nat) (hk : K'.k = K.k) (hx : K.ex = none) (s : SR K' w σ L) : SR K w (σ.set i none) (L.set i none) := by
  refine ⟨by rw [List.length_set, List.length_set]; exact s.len, fun j jv e => ?_, fun j n a d e _ => by rw [hx] at e; cases e⟩
  by_cases hj : j = i
  · subst hj
    have hlt : j < L.length := by have := (List.getElem?_eq_some_iff.mp e).1; rwa [List.length_set] at this
    rw [List.getElem?_set_self hlt] at e
    cases e
  · rw [List.getElem?_set_ne (Ne.symm hj)] at e
    rw [List.getElem?_set_ne (Ne.symm hj)]
    obtain ⟨v, h1, h2⟩ := s.get j jv e
    exact ⟨v, h1, Rel.cx hk _ _ h2⟩
theorem sr_in {K : KX} {w : Wd} {σ : L2.St} {L : Slots} {i n : Nat} {a d : Addr} (hd : w.rho[n]? = some d) (s : SR K w σ L) : SR ⟨K.k, K.mg, some (i, n, a, d)⟩ w (σ.set i (some (.ref a))) (L.set i none) := by
  refine ⟨by rw [List.length_set, List.length_set]; exact s.len, fun j jv e => ?_, fun j n' a' d' e1 e2 => ?_⟩
  · by_cases hj : j = i
    · subst hj
      have hlt : j < L.length := by have := (List.getElem?_eq_some_iff.mp e).1; rwa [List.length_set] at this
      rw [List.getElem?_set_self hlt] at e
      cases e
    · rw [List.getElem?_set_ne (Ne.symm hj)] at e
      rw [List.getElem?_set_ne (Ne.symm hj)]
      obtain ⟨v, h1, h2⟩ := s.get j jv e
      exact ⟨v, h1, Rel.cx (K := K) (K' := ⟨K.k, K.mg, some (i, n, a, d)⟩) rfl _ _ h2⟩
  · have e1 : some (i, n, a, d) = some (j, n', a', d') := e1
    cases e1
    have hlt : i < L.length := by have := (List.getElem?_eq_some_iff.mp e2).1; rwa [List.length_set] at this
    exact ⟨by rw [List.getElem?_set_self (by rw [s.len]; exact hlt)], hd⟩
theorem ds_try (hs : X.stack = X.env :: X.outer) (hf : X.env.frame = some X.env.locals) (hN : X.N.Nodup) (i : Nat) (hi : X.N[i]? = some n) (hln : X.env.kindOf n = some .local) (hc : Names X x c) (tk : Takes X W)
    (hT : ∀ C b, tab.lookup C = some b → PySem.W.exmOne X.K (clsV X.mg C) c = some b)
    (hb : ∀ (W' : WX) (pn : List (Addr × Obj)) (xe : Value → Shared → Prop), Takes (X.tr pn xe) W' → PassesOwn (model X.prog X.w) X.A X.env xe → DSs (X.tr pn xe) ⟨W', none⟩ body mb)
    (hsu : ∀ (C : Str) (m : Nat) (a d : Addr) (oe : Obj) (pn : List (Addr × Obj)), tab.lookup C = some true → Zc (clsV X.mg C) (some d) oe → (∃ vs, oe.data = .fields vs) → DSs (X.suite a ((a, oe) :: pn)) ⟨W0, some (i, m, a, d)⟩ (b₀ :: suite) (ms C m)) :
    DS X ⟨W, none⟩ (.Try body [.ExceptHandler (some (.Name x np)) (some n) (b₀ :: suite) pos'] [] [] pos) (iTryAs tab i mb ms) := by
  have h1 := ps_try_as (X := X) (x := x) (n := n) (c := c) (i := i) (body := body) (suite := suite) (b₀ := b₀) (np := np) (pos := pos) (pos' := pos') (tb := fun W' => sM (kx X ⟨W', none⟩) W' mb)
    (ts := fun a cls d D σ H => ∃ C m dd, d = some dd ∧ cls = clsV X.mg C ∧ tab.lookup C = some true ∧ sM ⟨X.K, X.mg, some (i, m, a, dd)⟩ W0 (ms C m) D σ H) (Wout := W) hs hf hN hi hln hc tk
    (fun W' pn xe t po => hb W' pn xe t po) (fun a oe cls d pn hz hd => ⟨fun pins s σ H D I h => by
      obtain ⟨C, m, dd, rfl, rfl, ht, q⟩ := h
      exact (hsu C m a dd oe pn ht hz hd).run pins s σ H D I q⟩)
  refine h1.imp fun D σ H ⟨w, S, Λ, r0, s0, p⟩ => ⟨w, S, Λ, r0, s0, ?_⟩
  unfold iTryAs at p
  cases e : mb Λ S with
  | ok fl S' => rw [e] at p; exact p
  | bad => rw [e] at p; exact p
  | exc C m L S' =>
    rw [e] at p
    have p : Post (kx X ⟨W, none⟩) W w (match tab.lookup C with
      | some true => (noX (ms C m (L.set i none) S')).bind fun fl S2 => .ok (fl.gone i) S2
      | some false => .exc C m L S'
      | none => .bad) _ := p
    intro w' H' a' σ' l r s hr
    cases ht : tab.lookup C with
    | none => rw [ht] at p; exact p.elim
    | some b =>
      refine ⟨b, hT C b ht, fun hb => ?_, fun hb => ?_⟩
      · subst hb
        rw [ht] at p
        intro a ha
        refine ⟨C, m, a', rfl, rfl, ht, w', S', L.set i none, r.cx rfl rfl, sr_in hr s, ?_⟩
        have p : Post (kx X ⟨W, none⟩) W w ((noX (ms C m (L.set i none) S')).bind fun fl S2 => .ok (fl.gone i) S2) _ := p
        cases em : ms C m (L.set i none) S' with
        | ok fl S2 =>
          rw [em] at p
          intro w2 H2 l2 r2
          have p2 := p w2 H2 (l.trans l2) (r2.cx rfl rfl)
          cases fl with
          | nx L2 => exact fun σ2 s2 => p2 _ (sr_out (K := kx X ⟨W, none⟩) (K' := ⟨X.K, X.mg, some (i, m, a, a')⟩) i rfl rfl s2)
          | bk L2 => exact fun σ2 s2 => p2 _ (sr_out (K := kx X ⟨W, none⟩) (K' := ⟨X.K, X.mg, some (i, m, a, a')⟩) i rfl rfl s2)
          | ct L2 => exact fun σ2 s2 => p2 _ (sr_out (K := kx X ⟨W, none⟩) (K' := ⟨X.K, X.mg, some (i, m, a, a')⟩) i rfl rfl s2)
          | rt v => exact fun v' rv => p2 v' (Rel.cx (K := ⟨X.K, X.mg, some (i, m, a, a')⟩) (K' := kx X ⟨W, none⟩) rfl _ _ rv)
        | exc C2 m2 L2 S2 => rw [em] at p; exact p.elim
        | bad => rw [em] at p; exact p.elim
      · subst hb
        rw [ht] at p
        exact p w' H' a' σ' l r s hr
end
/-- e.f of the exception that is being handled -/
def iXf (i m : Nat) (f : Str) : IE := fun Λ S => match Λ[i]?, S[m]? with
  | some none, some (.xd fs) => (match fs.lookup f with
    | some v => .ok v S
    | none => .bad)
  | _, _ => .bad
theorem relKV_lookup {K : KX} {w : Wd} {f : Str} : ∀ {ps : List (Str × V)} {fs : List (Str × IV)} {iv : IV}, RelKV K w ps fs → fs.lookup f = some iv → ∃ v, ps.lookup f = some v ∧ Rel K w v iv
  | _, _, _, .nil, e => by cases e
  | (k, v) :: ps, (k', u) :: fs, iv, .cons ⟨h1, h2⟩ t, e => by
    have h1 : k = k' := h1
    subst h1
    unfold List.lookup at e ⊢
    cases hk : f == k with
    | true =>
      rw [hk] at e
      cases e
      exact ⟨v, rfl, h2⟩
    | false =>
      rw [hk] at e
      exact relKV_lookup t e
section
variable {X : Cx} {i m : Nat} {a d : Addr} {oe : Obj} {pn : List (Addr × Obj)} {n f C : Str} {p pos : Pos}
theorem de_xf (hz : Zc (clsV X.mg C) (some d) oe) (hf : ∃ vs, oe.data = .fields vs) (hC : ∃ Ca, X.mg C = some (.ref Ca) ∧ XfC X.K Ca ∧ PySem.W.findIn X.K (.ref Ca) f = some none)
    (hN : X.N[i]? = some n := by rfl) (hv : Vis X.env.scope n := by first | exact Or.inl rfl | exact Or.inr (Or.inl rfl) | exact Or.inr (Or.inr rfl)) (hd : (n == ("__debug__" : Str)) = false := by decide)
    (hcd : (n == ("__classdict__" : Str)) = false := by decide) (hb : attributeBase (.Name n p) f X.env (eval (.Name n p) X.env) = eval (.Name n p) X.env := by rfl) :
    DE (X.suite a ((a, oe) :: pn)) ⟨W0, some (i, m, a, d)⟩ (.Attribute (.Name n p) f pos) (iXf i m f) := by
  obtain ⟨Ca, hm, hxf, hno⟩ := hC
  have hcl : clsV X.mg C = .ref Ca := by unfold clsV; rw [hm]; rfl
  refine (pe_xf (X := X) (cls := clsV X.mg C) (d := some d) hxf hno hz hf (pe_var (X := X.suite a ((a, oe) :: pn)) hN hv hd hcd) hb).imp fun σ H Q ⟨w, S, Λ, r0, s0, p⟩ => ?_
  unfold iXf at p
  split at p
  · rename_i fs h1 h2
    obtain ⟨g1, g2⟩ := s0.ex i m a d rfl h1
    obtain ⟨ps, h3, h4⟩ := r0.cell m _ d h2 g2
    split at p
    · rename_i iv h5
      obtain ⟨v, h6, h7⟩ := relKV_lookup h4 h5
      exact ⟨.ref a, g1, rfl, hcl, d, ps, v, rfl, h3, h6, p.now r0 v h7⟩
    · exact p.elim
  · exact p.elim
end
end Sm
/-! instances of own classes: fields, methods, making -/
namespace Sm
open PySem PySem.Spec PyProof.Rows L2
/-- an instance of the class C in the store -/
def onI {α : Type} (S : Sto) (C : Str) (x : IV) (k : Nat → List (Str × IV) → Out α) : Out α := match x with
  | .adr n => (match S[n]? with
    | some (.ins D fs) => if D = C then k n fs else .bad
    | _ => .bad)
  | _ => .bad
theorem onI_s {α : Type} {S : Sto} {C : Str} {n : Nat} {fs : List (Str × IV)} {k : Nat → List (Str × IV) → Out α} (h : S[n]? = some (.ins C fs)) : onI S C (.adr n) k = k n fs := by
  unfold onI; simp only [h, if_pos]
def putI (f : Str) (v : IV) : List (Str × IV) → List (Str × IV)
  | [] => [(f, v)]
  | (g, x) :: r => if g = f then (g, v) :: r else (g, x) :: putI f v r
theorem relKV_length {κ : Type} {K : KX} {w : Wd} : ∀ {ps : List (κ × V)} {fs : List (κ × IV)}, RelKV K w ps fs → ps.length = fs.length
  | _, _, .nil => rfl
  | _ :: _, _ :: _, .cons _ t => congrArg (· + 1) (relKV_length t)
theorem RelKV.up {κ : Type} {K : KX} {w w' : Wd} {a : List (κ × V)} {b : List (κ × IV)} (h : RelKV K w a b) (l : w.le w') : RelKV K w' a b := h.mono l.1
/-! ### fields -/
def fFld (C f : Str) (x : IV) (S : Sto) : Out IV := onI S C x fun _ fs => orBad (fs.lookup f) fun v => .ok v S
def iSetF (C f : Str) (mo mv : IE) : IS := fun Λ S => (mv Λ S).bind fun y S1 => (mo Λ S1).bind fun x S2 => onI S2 C x fun n fs => chk (fs.length < 1000) (.ok (.nx Λ) (S2.set n (.ins C (putI f y fs))))
/-! ### methods -/
/-- o.m(..), o of class C -/
def iMeth (C m : Str) (np : Nat) (mf : List IV → Sto → Out IV) (mo : IE) (ma : IA) : IE := fun Λ S => (mo Λ S).bind fun x S1 => onI S1 C x fun _ fs => chk (fs.lookup m = none) ((ma Λ S1).bind fun xs S2 => chk (xs.length + 1 = np) (relab Λ (mf (x :: xs) S2)))
/-! ### making -/
end Sm
/-! dicts, texts cut, f-strings, further statements -/
namespace Sm
open PySem PySem.Spec PyProof.Rows L2
/-! ### what is not told -/
def iBad {α : Type} : Slots → Sto → Out α := fun _ _ => .bad
/-! ### dicts -/
def keyI : IV → Option Key
  | .str s => some (.inr s)
  | .int i => some (.inl i)
  | _ => none
theorem keyI_rel {K : KX} {w : Wd} {v : V} {x : IV} {k : Key} (e : keyI x = some k) (r : Rel K w v x) : v = kV k := by
  cases x with
  | str s => cases e; cases r; rfl
  | int s => cases e; cases r; rfl
  | _ => cases e
def keyV : Key → IV
  | .inl i => .int i
  | .inr s => .str s
theorem keyV_rel {K : KX} {w : Wd} (k : Key) : Rel K w (kV k) (keyV k) := by
  cases k with
  | inl i => exact .int i
  | inr s => exact .str s
def valI (kvs : List (Key × IV)) (k : Key) : Option IV := (kvs.find? fun kv => decide (kv.1 = k)).map (·.2)
def putK' (kvs : List (Key × IV)) (k : Key) (v : IV) : List (Key × IV) :=
  if (kvs.any fun kv => decide (kv.1 = k)) = true then kvs.map (fun kv => if kv.1 = k then (kv.1, v) else kv) else kvs ++ [(k, v)]
theorem relKV_val {K : KX} {w : Wd} {k : Key} : ∀ {ps : List (Key × V)} {kvs : List (Key × IV)}, RelKV K w ps kvs → (valI kvs k = none ∧ valV ps k = none) ∨ ∃ iv v, valI kvs k = some iv ∧ valV ps k = some v ∧ Rel K w v iv
  | _, _, .nil => .inl ⟨rfl, rfl⟩
  | (a, v) :: ps, (a', u) :: kvs, .cons ⟨h1, h2⟩ t => by
    have h1 : a = a' := h1
    subst h1
    by_cases h : a = k
    · right
      refine ⟨u, v, ?_, ?_, h2⟩
      · simp [valI, List.find?_cons, h]
      · exact valV_pos h
    · have e1 : valI ((a, u) :: kvs) k = valI kvs k := by simp [valI, List.find?_cons, h]
      have e2 : valV ((a, v) :: ps) k = valV ps k := valV_neg h
      rw [e1, e2]
      exact relKV_val t
theorem relKV_any {K : KX} {w : Wd} {k : Key} : ∀ {ps : List (Key × V)} {kvs : List (Key × IV)}, RelKV K w ps kvs → (ps.any fun kv => decide (kv.1 = k)) = (kvs.any fun kv => decide (kv.1 = k))
  | _, _, .nil => rfl
  | (a, v) :: ps, (a', u) :: kvs, .cons ⟨h1, h2⟩ t => by
    have h1 : a = a' := h1
    subst h1
    rw [List.any_cons, List.any_cons, relKV_any t]
theorem relKV_map {K : KX} {w : Wd} {k : Key} {y : V} {iv : IV} (ry : Rel K w y iv) : ∀ {ps : List (Key × V)} {kvs : List (Key × IV)}, RelKV K w ps kvs → RelKV K w (ps.map fun kv => if kv.1 = k then (kv.1, y) else kv) (kvs.map fun kv => if kv.1 = k then (kv.1, iv) else kv)
  | _, _, .nil => .nil
  | (a, v) :: ps, (a', u) :: kvs, .cons ⟨h1, h2⟩ t => by
    have h1 : a = a' := h1
    subst h1
    refine .cons ?_ (relKV_map ry t)
    by_cases h : a = k
    · simp only [if_pos h]; exact ⟨trivial, ry⟩
    · simp only [if_neg h]; exact ⟨trivial, h2⟩
theorem relKV_append {κ : Type} {K : KX} {w : Wd} : ∀ {ps qs : List (κ × V)} {kvs ls : List (κ × IV)}, RelKV K w ps kvs → RelKV K w qs ls → RelKV K w (ps ++ qs) (kvs ++ ls)
  | _, _, _, _, .nil, s => s
  | _, _, _, _, .cons h t, s => .cons h (relKV_append t s)
theorem relKV_putK {K : KX} {w : Wd} {k : Key} {y : V} {iv : IV} (ry : Rel K w y iv) {ps : List (Key × V)} {kvs : List (Key × IV)} (r : RelKV K w ps kvs) : RelKV K w (putK ps k y) (putK' kvs k iv) := by
  unfold putK putK'
  rw [relKV_any r]
  split
  · exact relKV_map ry r
  · exact relKV_append r (.cons ⟨rfl, ry⟩ .nil)
/-- a dict in the store, to be read -/
def onD {α : Type} (S : Sto) (x : IV) (k : Nat → List (Key × IV) → Out α) : Out α := match x with
  | .adr n => (match S[n]? with
    | some (.dic kvs) => k n kvs
    | some (.dicL kvs) => k n kvs
    | _ => .bad)
  | _ => .bad
theorem onD_s {α : Type} {S : Sto} {n : Nat} {kvs : List (Key × IV)} {k : Nat → List (Key × IV) → Out α} (h : S[n]? = some (.dic kvs)) : onD S (.adr n) k = k n kvs := by
  unfold onD; simp only [h]
theorem onD_post {α : Type} {K : KX} {W : WX} {w : Wd} {S : Sto} {H : Hp} {v : V} {x : IV} {k : Nat → List (Key × IV) → Out α} {P : Wd → Hp → Sto → α → Prop} (h : Post K W w (onD S x k) P) (r : R K w S H) (rx : Rel K w v x) :
    ∃ n kvs a ps, v = .ref a ∧ Rd H a (.dK ps) ∧ RelKV K w ps kvs ∧ Post K W w (k n kvs) P := by
  unfold onD at h
  split at h
  · cases rx with
    | adr hrho =>
      split at h
      · rename_i q
        obtain ⟨ps, h1, h2⟩ := r.cell _ _ _ q hrho
        exact ⟨_, _, _, ps, rfl, .inl h1, h2, h⟩
      · rename_i q
        obtain ⟨o, ps, h0, h1, h2⟩ := r.cell _ _ _ q hrho
        exact ⟨_, _, _, ps, rfl, .inr ⟨o, h1⟩, h2, h⟩
      · exact h.elim
  · exact h.elim
/-- .., to be written -/
def onDw {α : Type} (S : Sto) (x : IV) (k : Nat → List (Key × IV) → Out α) : Out α := match x with
  | .adr n => (match S[n]? with
    | some (.dic kvs) => k n kvs
    | _ => .bad)
  | _ => .bad
theorem onDw_s {α : Type} {S : Sto} {n : Nat} {kvs : List (Key × IV)} {k : Nat → List (Key × IV) → Out α} (h : S[n]? = some (.dic kvs)) : onDw S (.adr n) k = k n kvs := by
  unfold onDw; simp only [h]
theorem onDw_post {α : Type} {K : KX} {W : WX} {w : Wd} {S : Sto} {H : Hp} {v : V} {x : IV} {k : Nat → List (Key × IV) → Out α} {P : Wd → Hp → Sto → α → Prop} (h : Post K W w (onDw S x k) P) (r : R K w S H) (rx : Rel K w v x) :
    ∃ n kvs a ps, S[n]? = some (.dic kvs) ∧ w.rho[n]? = some a ∧ v = .ref a ∧ H a = some (.dK ps) ∧ RelKV K w ps kvs ∧ Post K W w (k n kvs) P := by
  unfold onDw at h
  split at h
  · cases rx with
    | adr hrho =>
      split at h
      · rename_i q
        obtain ⟨ps, h1, h2⟩ := r.cell _ _ _ q hrho
        exact ⟨_, _, _, ps, q, hrho, rfl, h1, h2, h⟩
      · exact h.elim
  · exact h.elim
def fDGet (x y : IV) (S : Sto) : Out IV := onD S x fun _ kvs => orBad (keyI y) fun k => orBad (valI kvs k) fun v => .ok v S
def fDIn (y x : IV) (S : Sto) : Out IV := onD S x fun _ kvs => orBad (keyI y) fun k => .ok (.bl (valI kvs k).isSome) S
def iDNew : IE := fun _ S => .ok (.adr S.length) (S ++ [.dic []])
def iDPut (md my mv : IE) : IS := fun Λ S => (mv Λ S).bind fun v S1 => (md Λ S1).bind fun x S2 => (my Λ S2).bind fun y S3 => onDw S3 x fun n kvs => orBad (keyI y) fun k => chk (kvs.length < sizeLine) (.ok (.nx Λ) (S3.set n (.dic (putK' kvs k v))))
section
variable {X : Cx} {W : WZ} {o i e value : Expr} {pos pos' : Pos} {mo mi me mv : IE}
theorem de_dget (hu : X.A.units + 1 < cLine) (ho : DE X W o mo) (hi : DE X W i mi) (hs : NoSl i := by exact fun _ _ => rfl) : DE X W (.Subscript o i pos) (iBin fDGet mo mi) :=
  (pe_dget hu ho hi hs).imp fun σ H Q ⟨w, S, Λ, r0, s0, p⟩ => ⟨w, S, Λ, r0, s0, p.bind.imp fun w1 H1 S1 ix l1 r1 p1 v1 rv1 => ⟨w1, S1, Λ, r1, s0.up l1, p1.bind.imp fun w2 H2 S2 iy l2 r2 p2 v2 rv2 => by
    obtain ⟨n, kvs, a, ps, e1, h1, h2, q⟩ := onD_post p2 r2 (rv1.up l2)
    obtain ⟨k, hk, q⟩ := orBad_post q
    obtain ⟨iv, hv, q⟩ := orBad_post q
    rcases relKV_val (k := k) h2 with ⟨z, _⟩ | ⟨iv', v, z1, z2, z3⟩
    · rw [z] at hv; cases hv
    · rw [z1] at hv
      cases hv
      exact ⟨a, v, e1, .inl ⟨ps, k, h1, keyI_rel hk rv2, z2.symm⟩, q.now r2 v z3⟩⟩⟩
theorem de_dnew : DE X W (.Dict [] [] pos) iDNew := pe_dnewK.imp fun σ H Q ⟨w, S, Λ, r0, s0, p⟩ => fun d hd => by
  obtain ⟨l, r'⟩ := r0.alloc (c := .dic []) (o := .dK []) hd fun w' l => ⟨[], upd_same, .nil⟩
  refine Post.ok (a := IV.adr S.length) (S := S ++ [Cell.dic []]) p l r' _ (.adr ?_)
  show (w.rho ++ [d])[S.length]? = some d
  rw [← r0.len, List.getElem?_append_right (Nat.le_refl _), Nat.sub_self]
  rfl
theorem ds_dput (hu : X.A.units + 1 < cLine) (ho : DE X W o mo) (hi : DE X W i mi) (hv : DE X W value mv) (hs : swapsWith value (some (.Subscript o i pos')) pos.line X.env = pure false := by rfl) : DS X W (.Assign [.Subscript o i pos'] value pos) (iDPut mo mi mv) :=
  (ps_dput hu ho hi hv hs).imp fun D σ H ⟨w, S, Λ, r0, s0, p⟩ => ⟨w, S, Λ, r0, s0, p.bind.imp fun w1 H1 S1 iy l1 r1 p1 y ry => ⟨w1, S1, Λ, r1, s0.up l1, p1.bind.imp fun w2 H2 S2 ix l2 r2 p2 x rx => ⟨w2, S2, Λ, r2, (s0.up l1).up l2, p2.bind.imp fun w3 H3 S3 ik l3 r3 p3 kk rk => by
    obtain ⟨n, kvs, a, ps, h1, h2, e1, h3, h4, q⟩ := onDw_post p3 r3 (rx.up l3)
    obtain ⟨k, hk, q⟩ := orBad_post q
    obtain ⟨hl, q⟩ := chk_post q
    exact ⟨a, _, e1, .inl ⟨ps, k, h3, keyI_rel hk rk, by rw [relKV_length h4]; exact hl, rfl⟩, q.now (r3.write h2 ⟨_, upd_same, relKV_putK (ry.up (l2.trans l3)) h4⟩ (fun _ e => by rw [h1] at e; cases e)) σ (((s0.up l1).up l2).up l3)⟩⟩⟩⟩
end
/-! ### for k in d -/
end Sm
/-! texts cut, lists shortened, f-strings, two targets, class constants, isinstance of what is handled -/
namespace Sm
open PySem PySem.Spec PyProof.Rows L2
/-! ### tuple(x) -/
def fTuple (xs : List IV) (S : Sto) : Out IV := a1 xs fun x => match x with
  | .tup ys => .ok (.tup ys) S
  | x => orBad (lstX S x) fun ys => mkT ys S
/-! ### texts -/
def fPart (o : IV) (xs : List IV) (S : Sto) : Out IV := asS o fun a => a1 xs fun y => asS y fun b => chk ((b.length == 0) = false ∧ a.length ≤ sizeLine) (.ok (.tup [.str (PySem.Txt.partition a b).1, .str (PySem.Txt.partition a b).2.1, .str (PySem.Txt.partition a b).2.2]) S)
/-! ### xs.pop(), xs.pop(i) -/
def fPopAt (o : IV) (xs : List IV) (S : Sto) : Out IV := a1 xs fun y => asI y fun i => onL S o fun n ys => chk (ys.length < 2 ^ 62) (orBad (ixN ys.length i) fun j => orBad (ys[j]?) fun v => .ok v (S.set n (.lst (ys.eraseIdx j))))
theorem ms_popAt {K : KX} {W : WX} : MtS K W rPopAt fPopAt := fun w S H x xs io ix Q r ro rx p => by
  obtain ⟨v, y, rfl, rfl, rv, p⟩ := a1_post p rx
  obtain ⟨i, rfl, rfl, p⟩ := asI_post p rv
  obtain ⟨n, ys, a, vs, h1, h2, rfl, h3, h4, p⟩ := onL_post p r ro
  obtain ⟨hz, p⟩ := chk_post p
  obtain ⟨j, ej, p⟩ := orBad_post p
  obtain ⟨v, ev, p⟩ := orBad_post p
  obtain ⟨u, h5, h6⟩ := h4.get ev
  obtain ⟨g1, g2, g3, g4⟩ := ixN_seq ej
  exact ⟨a, vs, i, j, u, rfl, rfl, h3, by omega, by omega, by rw [h4.length]; exact g1, h5, p.now (r.write h2 ⟨_, upd_same, h4.erase j⟩ (fun _ e => by rw [h1] at e; cases e)) u h6⟩
/-! ### xs * n -/
/-! ### max of a list of ints -/
/-! ### any -/
def blsOf : List IV → Option (List Bool)
  | [] => some []
  | .bl s :: xs => (blsOf xs).map (s :: ·)
  | _ => none
theorem blsOf_rel {K : KX} {w : Wd} : ∀ {xs : List IV} {vs : List V} {ss : List Bool}, blsOf xs = some ss → RelL K w vs xs → vs = ss.map V.bl
  | [], _, _, e, r => by cases e; cases r; rfl
  | x :: xs, _, ss, e, r => by
    cases r with
    | cons a b =>
      cases x with
      | bl s =>
        obtain ⟨ts, h1, h2⟩ := Option.map_eq_some_iff.mp (show (blsOf xs).map (s :: ·) = some ss from e)
        subst h2
        cases a
        rw [blsOf_rel h1 b]
        rfl
      | _ => cases e
def fAny (xs : List IV) (S : Sto) : Out IV := a1 xs fun x => orBad (lstX S x) fun ys => orBad (blsOf ys) fun bs => .ok (.bl (bs.any id)) S
theorem cs_any {K : KX} {W : WX} : CaS K W (rAny K.k) fAny := fun w S H xs ix Q r rx p => by
  obtain ⟨v, x, rfl, rfl, rv, p⟩ := a1_post p rx
  obtain ⟨ys, e, p⟩ := orBad_post p
  obtain ⟨ns, e2, p⟩ := orBad_post p
  obtain ⟨a, vs, rfl, h1, h2⟩ := lstX_sq e r rv
  have := blsOf_rel e2 h2
  subst this
  exact ⟨a, ns, rfl, .of h1, p.now r _ (.bl _)⟩
/-! ### f-strings of texts -/
/-! ### a = b = e -/
/-! ### C.c, an int of the class -/
/-! ### isinstance(e, C), e the exception that is being handled -/
def iXIs (i m : Nat) (b : Bool) : IE := fun Λ S => match Λ[i]?, S[m]? with
  | some none, some (.xd _) => .ok (.bl b) S
  | _, _ => .bad
end Sm
/-! the facts a walk asks of the written part, gathered -/
namespace Sm
open PySem PySem.Spec PyProof.Rows L2
/-- except x: tab tells of each class that may come whether x takes it -/
def TryT (K : PySem.W.Frag) (mg : Str → Option Value) (x : Str) (tab : List (Str × Bool)) : Prop := (∃ D : Addr, mg x = some (.ref D)) ∧ ∀ C b, tab.lookup C = some b → PySem.W.exmOne K (clsV mg C) (clsV mg x) = some b
def XfT (K : PySem.W.Frag) (mg : Str → Option Value) (tab : List (Str × Bool)) (f : Str) : Prop := ∀ C, tab.lookup C = some true → ∃ Ca : Addr, mg C = some (.ref Ca) ∧ XfC K Ca ∧ PySem.W.findIn K (.ref Ca) f = some none
section
variable {X : Cx} {W : WX} {x n : Str} {body suite : List Stmt} {b₀ : Stmt} {np pos pos' : Pos} {mb : IS} {ms : Str → Nat → IS} {tab : List (Str × Bool)}
theorem ds_tryN (hs : X.stack = X.env :: X.outer) (hf : X.env.frame = some X.env.locals) (hN : X.N.Nodup) (i : Nat) (hT : TryT X.K X.mg x tab) (tk : Takes X W)
    (hb : ∀ (W' : WX) (pn : List (Addr × Obj)) (xe : Value → Shared → Prop), Takes (X.tr pn xe) W' → PassesOwn (model X.prog X.w) X.A X.env xe → DSs (X.tr pn xe) ⟨W', none⟩ body mb)
    (hsu : ∀ (C : Str) (m : Nat) (a d : Addr) (oe : Obj) (pn : List (Addr × Obj)), tab.lookup C = some true → Zc (clsV X.mg C) (some d) oe → (∃ vs, oe.data = .fields vs) → DSs (X.suite a ((a, oe) :: pn)) ⟨W0, some (i, m, a, d)⟩ (b₀ :: suite) (ms C m))
    (hi : X.N[i]? = some n := by rfl) (hln : X.env.kindOf n = some .local := by rfl) (hg : Gl X x := by rfl) (hd : (x == ("__debug__" : Str)) = false := by decide) :
    DS X ⟨W, none⟩ (.Try body [.ExceptHandler (some (.Name x np)) (some n) (b₀ :: suite) pos'] [] [] pos) (iTryAs tab i mb ms) := by
  obtain ⟨⟨D, hD⟩, hT⟩ := hT
  refine ds_try (c := clsV X.mg x) hs hf hN i hi hln ⟨hg, hd, .inl ?_⟩ tk hT hb hsu
  unfold clsV
  rw [hD]
  rfl
end
def iXIsT (i m : Nat) (ist : List (Str × Bool)) (C : Str) : IE := match ist.lookup C with
  | some b => iXIs i m b
  | none => iBad
section
variable {X : Cx} {i m : Nat} {a d : Addr} {oe : Obj} {pn : List (Addr × Obj)} {n C x f : Str} {p q r pos : Pos} {tab ist : List (Str × Bool)}
theorem de_xfT (h : XfT X.K X.mg tab f) (hC : tab.lookup C = some true) (hz : Zc (clsV X.mg C) (some d) oe) (hf : ∃ vs, oe.data = .fields vs)
    (hN : X.N[i]? = some n := by rfl) (hv : Vis X.env.scope n := by first | exact Or.inl rfl | exact Or.inr (Or.inl rfl) | exact Or.inr (Or.inr rfl)) (hd : (n == ("__debug__" : Str)) = false := by decide)
    (hcd : (n == ("__classdict__" : Str)) = false := by decide) (hb : attributeBase (.Name n p) f X.env (eval (.Name n p) X.env) = eval (.Name n p) X.env := by rfl) :
    DE (X.suite a ((a, oe) :: pn)) ⟨W0, some (i, m, a, d)⟩ (.Attribute (.Name n p) f pos) (iXf i m f) := de_xf hz hf (h C hC) hN hv hd hcd hb
end
/-! ### from the written part -/
section
variable {K : PySem.W.Frag} {h : Heap} {mg : Str → Option Value}
theorem base_mk {x : Str} {Ca : Addr} (X : K.In h) (G : h.Ns mainGlobals mg) (hm : PySem.W.nsIn K mainGlobals x = some (some (.ref Ca))) (ga : PySem.W.specialIn K (.ref Ca) "__getattribute__" = some (some (.builtin "type.__getattribute__"))) (ty : PySem.W.typeIn K (.ref Ca) = some (.type "type"))
    (rd : PySem.W.readsIn K Ca (.type "type") = true) (fc : PySem.W.findCls K (.ref Ca) (.type "type") "__init__" = some (.val (.builtin "ValueError.__init__"))) : BaseC K mg x := ⟨Ca, PySem.W.mg_of X G hm, ga, ty, rd, fc⟩
def ELoc (K : PySem.W.Frag) (mg : Str → Option Value) (x f a b qual : Str) (st : Stmt) : Prop := ∃ (C fI : Addr) (fd : FuncData), EClsAt K mg x f C ∧ PySem.W.findIn K (.ref C) "__init__" = some (some (.ref fI)) ∧ PySem.W.typeIn K (.ref fI) = some (.type "function") ∧
  L2.Binds K fd [a, b] [] ∧ Fun K "__init__" qual st fI fd
theorem oex_mk {C : Addr} {nm q : Str} {N : Addr} {bs bm : List Value} {sn : List Str} {sub : List Value} {ab : Bool} {col : Option Bool} {dd : Option Addr} {k0 k1 k2 k3 k5 : Option Value} (lk : K.lookup C = some (excClassObj nm q C N bs bm true sn sub ab col dd k0 k1 k2 k3 k5 "ValueError.__new__"))
    (rv : PySem.HandSPX.refsVE bm = true) (sa : PySem.W.findIn K (.ref C) "__setattr__" = some (some (.builtin "object.__setattr__"))) (exC : PySem.W.subIn K (.ref C) (.type "BaseException") = some true) (tyC : PySem.W.typeIn K (.ref C) = some (.type "type")) (kC : PySem.W.keepIn K (.ref C) = true) : OexC K C :=
  ⟨⟨nm, q, N, bs, bm, sn, sub, ab, col, dd, k0, k1, k2, k3, k5, lk, rv⟩, sa, exC, tyC, kC⟩
theorem eloc_mk {x f a b qual : Str} {st : Stmt} {C fI : Addr} {od an : Option Addr} {sl : Array (Option Value)} {oc kV dc pm cd ct : Value} (X : K.In h) (G : h.Ns mainGlobals mg) (hm : PySem.W.nsIn K mainGlobals x = some (some (.ref C))) (o : OexC K C) (nf : PySem.W.findIn K (.ref C) f = some none)
    (iC : PySem.W.findIn K (.ref C) "__init__" = some (some (.ref fI))) (tI : PySem.W.typeIn K (.ref fI) = some (.type "function")) (k : PySem.W.keepIn K (.ref fI) = true)
    (l : K.lookup fI = some ⟨oc, od, .func (PySem.W.fnOf "__init__" qual (defArgs st) (defBody st) (defScope st) .none kV dc pm an cd ct), sl⟩) (cc : PySem.W.codeIn K cd qual = true)
    (hb : ∀ (kV doc pm : Value) (an : Option Addr) (cdv ct : Value) (us : List Value), us.length = [a, b].length → bindArgs (PySem.W.fnOf "__init__" qual (defArgs st) (defBody st) (defScope st) .none kV doc pm an cdv ct) ⟨us, []⟩ = pure ([a, b].zip us)) : ELoc K mg x f a b qual st :=
  have F := fun_mk (st := st) l cc k
  ⟨C, fI, _, ⟨PySem.W.mg_of X G hm, o, nf⟩, iC, tI, F.binds hb, F⟩
theorem ecal_def {P : Program} {w : World} {base : Heap} {x f a b qual z : Str} {st : Stmt} (L : ELoc K mg x f a b qual st) (Sc : FnScope [a, b] [a, b] (defScope st))
    (hb : ∀ (fI : Addr) (cdv : Value) (A : Around) (outer : List Env) (s : Shared) (H : Hp) (E : XK), PSs (DX P w K mg base [a, b] qual (defScope st) fI cdv A outer s H E) (defBody st) (tInit K f z)) : ECal P w K mg base x f := by
  obtain ⟨C, fI, fd, h1, h2, h3, h4, h5⟩ := L
  exact ⟨C, fI, fd, a, b, h1, h2, h3, h4, einit_ok h5 Sc (hb fI)⟩
theorem clsV_mk {C : Str} {Ca : Addr} (X : K.In h) (G : h.Ns mainGlobals mg) (hm : PySem.W.nsIn K mainGlobals C = some (some (.ref Ca))) : clsV mg C = .ref Ca := by
  unfold clsV
  rw [PySem.W.mg_of X G hm]
  rfl
/-- tables, class by class -/
def AllT (P : Str → Bool → Prop) : List (Str × Bool) → Prop
  | [] => True
  | (C, b) :: t => P C b ∧ AllT P t
theorem allT_of {P : Str → Bool → Prop} : ∀ {t : List (Str × Bool)}, AllT P t → ∀ C b, t.lookup C = some b → P C b
  | [], _, _, _, e => by cases e
  | (D, c) :: t, h, C, b, e => by
    unfold List.lookup at e
    cases hk : C == D with
    | true =>
      rw [hk] at e
      have := beq_iff_eq.mp hk
      subst this
      cases e
      exact h.1
    | false =>
      rw [hk] at e
      exact allT_of h.2 C b e
end
end Sm
namespace Sm
open PySem PySem.Spec PyProof.Rows L2
def fAddI (x y : IV) (S : Sto) : Out IV := asI x fun i => asI y fun j => .ok (.int (i + j)) S
end Sm
namespace Sm
open PySem
end Sm
/-! {k: v for x in xs} -/
namespace Sm
open PySem PySem.Spec PyProof.Rows L2
end Sm
namespace Sm
open PySem PySem.Spec PyProof.Rows L2
/-- a, b = x, y -/
def iPar (i j : Nat) (ma : IA) : IS := fun Λ S => (ma Λ S).bind fun xs S1 => a2 xs fun x y => .ok (.nx ((Λ.set i (some x)).set j (some y))) S1
end Sm
namespace Sm
open PySem PySem.Spec PyProof.Rows L2
end Sm
namespace Sm
open PySem PySem.Spec PyProof.Rows L2
section
variable {K : PySem.W.Frag} {t : Value} {D : Addr} {b : Bool}
theorem em_mk {cls : Value} (ex : PySem.W.subIn K (.ref D) (.type "BaseException") = some true) (hd : PySem.W.hasDictIn K D = true) (ty : PySem.W.typeIn K (.ref D) = some (.type "type")) (su : PySem.W.subIn K cls (.ref D) = some b) : PySem.W.exmOne K cls (.ref D) = some b := PySem.W.exm_ref ex hd ty su
end
end Sm
/-! repr of data -/
namespace Sm
open PySem PySem.Spec PyProof.Rows L2
def isRf : IV → Bool
  | .lst _ => true
  | .wls _ => true
  | .tup _ => true
  | .adr _ => true
  | _ => false
end Sm
/-! tools for the mathematics: stores that grow, comprehensions, loops -/
namespace Sm
open PySem PySem.Spec PyProof.Rows L2
theorem szL : (sizeLine : Nat) = 16777216 := sizeLine_eq
/-- S' is S with new cells; of the old ones only those of ds may differ -/
def Ext (ds : List Nat) (S S' : Sto) : Prop := S.length ≤ S'.length ∧ ∀ m c, S[m]? = some c → m ∉ ds → S'[m]? = some c
section
variable {ds es : List Nat} {S S1 S2 : Sto} {n : Nat} {c : Cell}
theorem Ext.refl : Ext ds S S := ⟨Nat.le_refl _, fun _ _ h _ => h⟩
theorem Ext.get (h : Ext ds S S1) (e : S[n]? = some c) (hn : n ∉ ds := by simp) : S1[n]? = some c := h.2 n c e hn
theorem lt_some {α : Type} {xs : List α} {i : Nat} {x : α} (h : xs[i]? = some x) : i < xs.length := (List.getElem?_eq_some_iff.mp h).1
theorem Ext.trans' (h : Ext ds S S1) (k : Ext es S1 S2) (he : ∀ e ∈ es, e ∈ ds ∨ S.length ≤ e) : Ext ds S S2 :=
  ⟨Nat.le_trans h.1 k.1, fun m c e hm => k.2 m c (h.2 m c e hm) fun z => (he m z).elim hm fun l => absurd (lt_some e) (by omega)⟩
theorem Ext.trans (h : Ext ds S S1) (k : Ext ds S1 S2) : Ext ds S S2 := h.trans' k fun _ z => .inl z
theorem Ext.up (h : Ext ds S S1) (hs : ∀ e ∈ ds, e ∈ es) : Ext es S S1 := ⟨h.1, fun m c e hm => h.2 m c e fun z => hm (hs m z)⟩
theorem Ext.nil (h : Ext [] S S1) : Ext ds S S1 := h.up fun _ z => by cases z
theorem Ext.app (T : Sto) : Ext ds S (S ++ T) := ⟨by simp, fun m c e _ => by rw [List.getElem?_append_left (lt_some e)]; exact e⟩
theorem Ext.set (hn : n ∈ ds ∨ S.length ≤ n) : Ext ds S (S.set n c) := ⟨by simp, fun m d e hm => by
  have : n ≠ m := fun z => hn.elim (fun q => hm (z ▸ q)) fun q => absurd (lt_some e) (by omega)
  rw [List.getElem?_set_ne this]; exact e⟩
theorem get_new (S : Sto) (c : Cell) : (S ++ [c])[S.length]? = some c := by simp
theorem get_setS (h : S[n]? = some c) (d : Cell) : (S.set n d)[n]? = some d := List.getElem?_set_self (lt_some h)
end
/-! ### statements, one by one -/
section
variable {Λ Λ1 : Slots} {S S1 : Sto} {a b : IS} {m : IE} {v : IV} {i : Nat} {o : Out Fl} {c : IT}
theorem sq_ok (h : a Λ S = .ok (.nx Λ1) S1) : iSeq a b Λ S = b Λ1 S1 := by rw [iSeq_e, h]; rfl
theorem sq_rt (h : a Λ S = .ok (.rt v) S1) : iSeq a b Λ S = .ok (.rt v) S1 := by rw [iSeq_e, h]; rfl
theorem sq_ex {C : Str} {n : Nat} {L : Slots} (h : a Λ S = .exc C n L S1) : iSeq a b Λ S = .exc C n L S1 := by rw [iSeq_e, h]; rfl
theorem st_ok (h : m Λ S = .ok v S1) : iSet i m Λ S = .ok (.nx (Λ.set i (some v))) S1 := by rw [iSet_e, h]; rfl
theorem dr_ok (h : m Λ S = .ok v S1) : iDrop m Λ S = .ok (.nx Λ) S1 := by rw [iDrop_e, h]; rfl
theorem rt_ok (h : m Λ S = .ok v S1) : iRet m Λ S = .ok (.rt v) S1 := by rw [iRet_e, h]; rfl
theorem if_ff {α : Type} {a b : Slots → Sto → Out α} (h : c Λ S = .ok false S1) : iIf c a b Λ S = b Λ S1 := by rw [iIf_e, h]; rfl
theorem if_tt {α : Type} {a b : Slots → Sto → Out α} (h : c Λ S = .ok true S1) : iIf c a b Λ S = a Λ S1 := by rw [iIf_e, h]; rfl
theorem md_rt {n : Nat} {b : IS} {xs : List IV} (h : b (xs.map some ++ List.replicate (n - xs.length) none) S = .ok (.rt v) S1) : mDef n b xs S = .ok v S1 := mDef_rt h
theorem md_nx {n : Nat} {b : IS} {xs : List IV} (h : b (xs.map some ++ List.replicate (n - xs.length) none) S = .ok (.nx Λ1) S1) : mDef n b xs S = .ok .non S1 := by rw [mDef_e, h]
theorem md_ex {n : Nat} {b : IS} {xs : List IV} {C : Str} {k : Nat} {L : Slots} (h : b (xs.map some ++ List.replicate (n - xs.length) none) S = .exc C k L S1) : mDef n b xs S = .exc C k [] S1 := by rw [mDef_e, h]
end
/-! ### comprehensions -/
section
variable {α : Type} {cell : Bool} {ms : IW} {gi : IV → Slots → Option Slots} {tt : IT} {te : IE} {vs : List Nat} {Λ : Slots} {S S1 : Sto} {k : Option Nat}
theorem lcgo_map {s : Src} (e : α → IV) (T : α → Bool) (F : α → IV) (st : s.stay S) : ∀ (as : List α) (acc : List IV), (∀ a ∈ as, ∃ L, gi (e a) Λ = some L ∧ tt L S = .ok (T a) S ∧ (T a = true → te L S = .ok (F a) S)) → acc.length + as.length ≤ sizeLine →
    iLcGo s gi tt te (as.map e) Λ S acc = .ok (acc ++ (as.filter T).map F) S
  | [], acc, _, _ => by show iLcGo s gi tt te [] Λ S acc = _; unfold iLcGo; rw [chkP_pos st]; simp
  | a :: as, acc, h, hl => by
    obtain ⟨L, h1, h2, h3⟩ := h a List.mem_cons_self
    rw [List.length_cons] at hl
    show iLcGo s gi tt te (e a :: as.map e) Λ S acc = _
    unfold iLcGo
    rw [chkP_pos st, h1, orBad_some, h2, noX_ok, Out.bind_ok]
    cases hT : T a with
    | true =>
      rw [if_pos rfl, h3 hT, noX_ok, Out.bind_ok, chk_pos (by omega), lcgo_map e T F st as _ (fun b hb => h b (List.mem_cons_of_mem _ hb)) (by rw [List.length_append, List.length_singleton]; omega), List.filter_cons, hT]
      simp
    | false =>
      rw [if_neg Bool.false_ne_true, lcgo_map e T F st as _ (fun b hb => h b (List.mem_cons_of_mem _ hb)) (by omega), List.filter_cons, hT]
      simp
/-- a comprehension that changes nothing -/
theorem lc_map (as : List α) (e : α → IV) (T : α → Bool) (F : α → IV) (hs : ms Λ S = .ok ⟨as.map e, k⟩ S1) (st : Src.stay ⟨as.map e, k⟩ S1)
    (h : ∀ a ∈ as, ∃ L, gi (e a) (wipeI Λ vs) = some L ∧ tt L S1 = .ok (T a) S1 ∧ (T a = true → te L S1 = .ok (F a) S1)) (hl : as.length ≤ sizeLine) : iLc cell ms gi tt te vs Λ S = mkL cell ((as.filter T).map F) S1 := by
  rw [iLc_e, hs]
  simp only [Out.bind_ok]
  rw [lcgo_map e T F st as [] h (by simpa using hl)]
  rfl
theorem lcgo_inv {s : Src} (hk : s.keep = none) (e : α → IV) (I : Nat → Sto → Prop) (P : IV → Prop) : ∀ (as : List α) (i : Nat) (S : Sto) (acc : List IV), I i S → (∀ j S a, as[j]? = some a → I (i + j) S → ∃ L v S', gi (e a) Λ = some L ∧ te L S = .ok v S' ∧ P v ∧ I (i + j + 1) S') → acc.length + as.length ≤ sizeLine →
    ∃ ys S', iLcGo s gi iYes te (as.map e) Λ S acc = .ok (acc ++ ys) S' ∧ ys.length = as.length ∧ (∀ y ∈ ys, P y) ∧ I (i + as.length) S'
  | [], i, S, acc, h0, _, _ => ⟨[], S, by
      show iLcGo s gi iYes te [] Λ S acc = _
      unfold iLcGo
      rw [chkP_pos (by unfold Src.stay; rw [hk]; trivial)]
      simp, rfl, (fun _ z => by cases z), h0⟩
  | a :: as, i, S, acc, h0, h, hl => by
    obtain ⟨L, v, S1, h1, h2, h3, h4⟩ := h 0 S a rfl h0
    rw [List.length_cons] at hl
    obtain ⟨ys, S', e1, e2, e3, e4⟩ := lcgo_inv hk e I P as (i + 1) S1 (acc ++ [v]) h4 (fun j S b hb hI => by
      have := h (j + 1) S b (by simpa using hb)
      rw [show i + (j + 1) = i + 1 + j by omega] at this
      exact this hI) (by rw [List.length_append, List.length_singleton]; omega)
    refine ⟨v :: ys, S', ?_, by rw [List.length_cons, e2, List.length_cons], fun y hy => ?_, by rw [List.length_cons, show i + (as.length + 1) = i + 1 + as.length by omega]; exact e4⟩
    · show iLcGo s gi iYes te (e a :: as.map e) Λ S acc = _
      unfold iLcGo
      rw [chkP_pos (by unfold Src.stay; rw [hk]; trivial), h1, orBad_some]
      show ((noX (Out.ok true S)).bind _) = _
      rw [noX_ok, Out.bind_ok, if_pos rfl, h2, noX_ok, Out.bind_ok, chk_pos (by omega), e1]
      simp
    · rcases List.mem_cons.mp hy with rfl | hy
      · exact h3
      · exact e3 y hy
/-- a comprehension whose items change the store, kept by I -/
theorem lc_inv (as : List α) (e : α → IV) (I : Nat → Sto → Prop) (P : IV → Prop) (hs : ms Λ S = .ok ⟨as.map e, none⟩ S1) (h0 : I 0 S1)
    (h : ∀ i S a, as[i]? = some a → I i S → ∃ L v S', gi (e a) (wipeI Λ vs) = some L ∧ te L S = .ok v S' ∧ P v ∧ I (i + 1) S') (hl : as.length ≤ sizeLine) :
    ∃ ys S', iLc cell ms gi iYes te vs Λ S = mkL cell ys S' ∧ ys.length = as.length ∧ (∀ y ∈ ys, P y) ∧ I as.length S' := by
  obtain ⟨ys, S', e1, e2, e3, e4⟩ := lcgo_inv (s := ⟨as.map e, none⟩) (gi := gi) (te := te) (Λ := wipeI Λ vs) rfl e I P as 0 S1 [] h0 (fun j S a ha hI => by
    rw [Nat.zero_add] at hI
    have := h j S a ha hI
    rw [Nat.zero_add]
    exact this) (by simpa using hl)
  refine ⟨ys, S', ?_, e2, e3, by rw [Nat.zero_add] at e4; exact e4⟩
  rw [iLc_e, hs]
  simp only [Out.bind_ok]
  rw [e1]
  rfl
end
/-! ### loops -/
/-- a loop is left by its body: a value, an exception -/
inductive Left : Out Fl → Prop
  | rt (v : IV) (S : Sto) : Left (.ok (.rt v) S)
  | ex (C : Str) (n : Nat) (L : Slots) (S : Sto) : Left (.exc C n L S)
section
variable {α : Type} {ms : IW} {g : IG} {b : IS} {c : IT} {Λ : Slots} {S S1 : Sto} {k : Option Nat}
theorem iter_gen {s : Src} (e : α → IV) (I : Nat → Slots → Sto → Prop) (E : Out Fl → Prop) (st : ∀ i Λ S, I i Λ S → s.stay S) : ∀ (as : List α) (i : Nat) (Λ : Slots) (S : Sto), I i Λ S →
    (∀ j Λ S a, as[j]? = some a → I (i + j) Λ S → ∃ Λ1 S1, g (e a) Λ S = .ok Λ1 S1 ∧ ((∃ Λ2 S2, (b Λ1 S1 = .ok (.nx Λ2) S2 ∨ b Λ1 S1 = .ok (.ct Λ2) S2) ∧ I (i + j + 1) Λ2 S2) ∨ (Left (b Λ1 S1) ∧ E (b Λ1 S1)))) →
    (∃ Λ' S', iIter s g b (as.map e) Λ S = .ok (.nx Λ') S' ∧ I (i + as.length) Λ' S') ∨ (Left (iIter s g b (as.map e) Λ S) ∧ E (iIter s g b (as.map e) Λ S))
  | [], i, Λ, S, h0, _ => .inl ⟨Λ, S, by show iIter s g b [] Λ S = _; unfold iIter; rw [chkP_pos (st i Λ S h0)], h0⟩
  | a :: as, i, Λ, S, h0, h => by
    obtain ⟨Λ1, S1, h1, h2⟩ := h 0 Λ S a rfl h0
    have go : iIter s g b ((a :: as).map e) Λ S = (b Λ1 S1).bind fun fl S2 => match fl with
        | .nx L => iIter s g b (as.map e) L S2
        | .ct L => iIter s g b (as.map e) L S2
        | .bk L => .ok (.nx L) S2
        | .rt v => .ok (.rt v) S2 := by
      show iIter s g b (e a :: as.map e) Λ S = _
      rw [iIter, chkP_pos (st i Λ S h0), h1]
      rfl
    rcases h2 with ⟨Λ2, S2, h2, h3⟩ | ⟨h2, h3⟩
    · have go2 : iIter s g b ((a :: as).map e) Λ S = iIter s g b (as.map e) Λ2 S2 := by
        rw [go]
        rcases h2 with h2 | h2 <;> rw [h2] <;> rfl
      rw [go2]
      have := iter_gen e I E st as (i + 1) Λ2 S2 h3 fun j Λ S x hx hI => by
        have z := h (j + 1) Λ S x (by simpa using hx)
        rw [show i + (j + 1) = i + 1 + j by omega] at z
        exact z hI
      rw [show i + 1 + as.length = i + (a :: as).length by rw [List.length_cons]; omega] at this
      exact this
    · right
      have : iIter s g b ((a :: as).map e) Λ S = b Λ1 S1 := by
        rw [go]
        generalize b Λ1 S1 = o at h2
        cases h2 <;> rfl
      rw [this]
      exact ⟨h2, h3⟩
/-- a for with its invariant; E: what is told where the body leaves it -/
theorem for_gen (as : List α) (e : α → IV) (I : Nat → Slots → Sto → Prop) (E : Out Fl → Prop) (hs : ms Λ S = .ok ⟨as.map e, k⟩ S1) (h0 : I 0 Λ S1) (st : ∀ i Λ S, I i Λ S → Src.stay ⟨as.map e, k⟩ S)
    (h : ∀ i Λ S a, as[i]? = some a → I i Λ S → ∃ Λ1 S1, g (e a) Λ S = .ok Λ1 S1 ∧ ((∃ Λ2 S2, (b Λ1 S1 = .ok (.nx Λ2) S2 ∨ b Λ1 S1 = .ok (.ct Λ2) S2) ∧ I (i + 1) Λ2 S2) ∨ (Left (b Λ1 S1) ∧ E (b Λ1 S1)))) :
    (∃ Λ' S', iFor ms g b Λ S = .ok (.nx Λ') S' ∧ I as.length Λ' S') ∨ (Left (iFor ms g b Λ S) ∧ E (iFor ms g b Λ S)) := by
  have := iter_gen (s := ⟨as.map e, k⟩) (g := g) (b := b) e I E st as 0 Λ S1 h0 fun j Λ S a ha hI => by
    rw [Nat.zero_add] at hI ⊢
    exact h j Λ S a ha hI
  rw [iFor_e, hs, Out.bind_ok]
  rw [Nat.zero_add] at this
  exact this
/-- .. that is never left -/
theorem for_inv (as : List α) (e : α → IV) (I : Nat → Slots → Sto → Prop) (hs : ms Λ S = .ok ⟨as.map e, k⟩ S1) (h0 : I 0 Λ S1) (st : ∀ i Λ S, I i Λ S → Src.stay ⟨as.map e, k⟩ S)
    (h : ∀ i Λ S a, as[i]? = some a → I i Λ S → ∃ Λ1 S1 Λ2 S2, g (e a) Λ S = .ok Λ1 S1 ∧ b Λ1 S1 = .ok (.nx Λ2) S2 ∧ I (i + 1) Λ2 S2) :
    ∃ Λ' S', iFor ms g b Λ S = .ok (.nx Λ') S' ∧ I as.length Λ' S' := by
  rcases for_gen as e I (fun _ => False) hs h0 st (fun i Λ S a ha hI => by
    obtain ⟨Λ1, S1, Λ2, S2, h1, h2, h3⟩ := h i Λ S a ha hI
    exact ⟨Λ1, S1, h1, .inl ⟨Λ2, S2, .inl h2, h3⟩⟩) with z | ⟨_, z⟩
  · exact z
  · exact z.elim
theorem wh_ex {o : Out Fl} (h : iWhile c b Λ S = o) (hn : o ≠ .bad) : ∃ n, iWh c b n Λ S = o := by
  unfold iWhile at h
  split at h
  · exact ⟨_, h⟩
  · exact absurd h.symm hn
theorem wh_f (hc : c Λ S = .ok false S1) : iWhile c b Λ S = .ok (.nx Λ) S1 := iWhile_of (n := 1) (by unfold iWh; rw [hc]; rfl) (by simp)
theorem wh_t {L : Slots} {S2 : Sto} {o : Out Fl} (hc : c Λ S = .ok true S1) (hb : b Λ S1 = .ok (.nx L) S2) (h : iWhile c b L S2 = o) (hn : o ≠ .bad) : iWhile c b Λ S = o := by
  obtain ⟨n, e⟩ := wh_ex h hn
  exact iWhile_of (n := n + 1) (by unfold iWh; rw [hc, Out.bind_ok, if_pos rfl, hb]; exact e) hn
theorem wh_l (hc : c Λ S = .ok true S1) (hb : Left (b Λ S1)) : iWhile c b Λ S = b Λ S1 := by
  generalize e : b Λ S1 = o at hb
  cases hb with
  | rt v S2 => exact iWhile_of (n := 1) (by unfold iWh; rw [hc, Out.bind_ok, if_pos rfl, e]; rfl) (by simp)
  | ex C n L S2 => exact iWhile_of (n := 1) (by unfold iWh; rw [hc, Out.bind_ok, if_pos rfl, e]; rfl) (by simp)
/-- a while with its invariant and a number that falls -/
theorem while_gen (I : Nat → Slots → Sto → Prop) (E : Out Fl → Prop) (hE : ¬ E .bad)
    (h : ∀ n Λ S, I n Λ S → (∃ S1, c Λ S = .ok false S1 ∧ E (.ok (.nx Λ) S1)) ∨ ∃ S1, c Λ S = .ok true S1 ∧ ((∃ m Λ2 S2, m < n ∧ b Λ S1 = .ok (.nx Λ2) S2 ∧ I m Λ2 S2) ∨ (Left (b Λ S1) ∧ E (b Λ S1)))) :
    ∀ n Λ S, I n Λ S → E (iWhile c b Λ S) := by
  intro n
  induction n using Nat.strongRecOn with
  | ind n ih =>
    intro Λ S hI
    rcases h n Λ S hI with ⟨S1, h1, h2⟩ | ⟨S1, h1, ⟨m, Λ2, S2, h2, h3, h4⟩ | ⟨h2, h3⟩⟩
    · rw [wh_f h1]; exact h2
    · have z := ih m h2 Λ2 S2 h4
      rw [wh_t h1 h3 rfl (fun q => hE (q ▸ z))]
      exact z
    · rw [wh_l h1 h2]; exact h3
end
theorem rangeI_map (lo : Int) (n : Nat) : rangeI lo n = (List.range n).map fun i : Nat => IV.int (lo + i) := rfl
end Sm
/-! Sm19: len(x) by an own __len__ -/
namespace Sm
open PySem PySem.Spec PyProof.Rows L2 NwS
theorem RmG.in1 {k : Nat} {A : Around} (r : RmG (k + 1) A) : RmG k A.in1 := ⟨r.toRoom.in1, r.gd⟩
end Sm
/-! Sm20: dicts: == {}, sorted, list, len, setdefault, update; slices of tuples; sorted lists of texts -/
namespace Sm
open PySem PySem.Spec PyProof.Rows L2
/-! ### the order of texts -/
/-! ### dicts -/
section
variable {K : KX} {w : Wd}
theorem relKV_keys {κ : Type} : ∀ {ps : List (κ × V)} {kvs : List (κ × IV)}, RelKV K w ps kvs → ps.map (·.1) = kvs.map (·.1)
  | _, _, .nil => rfl
  | (a, v) :: ps, (a', u) :: kvs, .cons ⟨h1, h2⟩ t => by
    have h1 : a = a' := h1
    subst h1
    rw [List.map_cons, List.map_cons, relKV_keys t]
theorem relKV_len {κ : Type} {ps : List (κ × V)} {kvs : List (κ × IV)} (h : RelKV K w ps kvs) : ps.length = kvs.length := by
  have := congrArg List.length (relKV_keys h)
  rwa [List.length_map, List.length_map] at this
end
def keyT : Key → Option Str
  | .inr s => some s
  | .inl _ => none
def keysT : List (Key × IV) → Option (List Str)
  | [] => some []
  | kv :: kvs => match keyT kv.1, keysT kvs with
    | some k, some ks => some (k :: ks)
    | _, _ => none
/-! ### list(d) -/
def fListD (cell : Bool) (xs : List IV) (S : Sto) : Out IV := a1 xs fun x => onD S x fun _ kvs => mkL cell (kvs.map fun kv => keyV kv.1) S
theorem call_listDs {X : Cx} (hc : X.calm = true) : CallR X (.type "list") (fun xs H Q => ∃ (a : Addr) (kvs : List (Key × V)), xs = [.ref a] ∧ Rd H a (.dK kvs) ∧ ∀ p, H p = none → Q (.ref p) (upd H p (.lst (kvs.map fun kv => kV kv.1)))) := by
  intro pins s σ H xs us Q I r h
  obtain ⟨a, kvs, rfl, hd, q⟩ := h
  obtain ⟨u, rfl, ru⟩ := vals1 r
  cases ru
  obtain ⟨z, lo, vs, rel, dd⟩ := dk_rd I.hok hd
  obtain ⟨ep, hat⟩ := dd.dictAt
  have hl : vs.length = kvs.length := rel.length.symm
  refine PySem.W.kdl_call (PySem.W.kdl_dict (knd := mixKind X.prog X.w) (kvs := vs) (ep := ep) lo) (I.ok.hd hc) hat (by rw [hl]; exact z) fun h' tk acc c' hk hS hacc => ?_
  have hf : H s.heap.objs.size = none := I.hok.fresh (Nat.le_refl _)
  refine ⟨.ref s.heap.objs.size, upd H s.heap.objs.size (.lst (kvs.map fun kv => kV kv.1)), I.laid (t' := tk) hk (Nat.le_refl _) ⟨by rw [List.length_map]; exact z, acc.toList, c', ?_, by simpa using hS⟩, rfl, q _ hf⟩
  have hv : ∀ (i : Nat) (k : Key) (v : Value), vs[i]? = some (k, v) → ∃ x, kvs[i]? = some (k, x) := fun i k v e => by
    have := congrArg (fun l : List Key => l[i]?) rel.keys
    simp only [List.getElem?_map, e] at this
    cases hx : kvs[i]? with
    | none => rw [hx] at this; cases this
    | some p =>
      rw [hx] at this
      obtain ⟨k', x⟩ := p
      cases this
      exact ⟨x, rfl⟩
  have key : ∀ (ks : List (Key × V)) (us : List Value), ks.length = us.length → (∀ (i : Nat) (u : Value), us[i]? = some u → ∃ k x, ks[i]? = some (k, x) ∧ RelV (kV k) u) → Vals (ks.map fun kv => kV kv.1) us := by
    intro ks
    induction ks with
    | nil => intro us e _; cases us with | nil => exact .nil | cons _ _ => cases e
    | cons p ks ih =>
      intro us e h
      cases us with
      | nil => cases e
      | cons u us =>
        obtain ⟨k, x, e1, e2⟩ := h 0 u rfl
        cases e1
        exact .cons e2 (ih us (by simpa using e) fun i u hu => h (i + 1) u hu)
  have h1 : acc.toList.length = vs.length := by rw [Array.length_toList]; exact hacc.1
  refine key kvs acc.toList (by rw [h1, hl]) fun i u hu => ?_
  obtain ⟨k, x, e1, e2⟩ := hacc.2 i u (by rw [← Array.getElem?_toList]; exact hu)
  obtain ⟨y, hy⟩ := hv i k x e1
  refine ⟨k, y, hy, ?_⟩
  rcases keyIs_shape e2 with ⟨j, t, rfl, rfl⟩ | ⟨z, t, rfl, rfl⟩
  · exact ⟨t, rfl⟩
  · exact ⟨t, rfl⟩
theorem relL_keys {K : KX} {w : Wd} : ∀ {ps : List (Key × V)} {kvs : List (Key × IV)}, RelKV K w ps kvs → RelL K w (ps.map fun kv => kV kv.1) (kvs.map fun kv => keyV kv.1)
  | _, _, .nil => .nil
  | (a, v) :: ps, (a', u) :: kvs, .cons ⟨h1, h2⟩ t => by
    have h1 : a = a' := h1
    subst h1
    exact .cons (keyV_rel a) (relL_keys t)
theorem cs_listD {K : KX} {W : WX} (cell : Bool) : CaS K W (fun xs H Q => ∃ (a : Addr) (kvs : List (Key × V)), xs = [.ref a] ∧ Rd H a (.dK kvs) ∧ ∀ p, H p = none → Q (.ref p) (upd H p (.lst (kvs.map fun kv => kV kv.1)))) (fListD cell) := fun w S H xs ix Q r rx p => by
  obtain ⟨v, x, rfl, rfl, rv, p⟩ := a1_post p rx
  obtain ⟨n, kvs, a, ps, rfl, h1, h2, p⟩ := onD_post p r rv
  exact ⟨a, ps, rfl, h1, (mkL_post p r (relL_keys h2)).2⟩
/-! ### d == {}, d != {} -/
abbrev rNe0 : R2 := fun x y H Q => ∃ a b ks, x = .ref a ∧ y = .ref b ∧ Rd H a (.dK ks) ∧ H b = some (.dK ([] : List (Key × V))) ∧ Q (.bl (!ks.isEmpty)) H
theorem kv_nil {vs : List (Key × Value)} (h : KV ([] : List (Key × V)) vs) : vs = [] := List.length_eq_zero_iff.mp h.length.symm
theorem empty_len {ks : List (Key × V)} {va : List (Key × Value)} (ra : KV ks va) : ks.isEmpty = (va.length == 0) := by
  rw [← ra.length]
  cases ks <;> simp
theorem op_ne0 {X : Cx} (hu : X.A.units + 64 < cLine) : OpR X (compareOp .NotEq) rNe0 := by
  intro pins s σ H x y v u Q I rx ry h
  obtain ⟨a, b, ks, rfl, rfl, ea, eb, q⟩ := h
  obtain rfl : v = Value.ref a := rx
  obtain rfl : u = Value.ref b := ry
  obtain ⟨_, ya, va, ra, da⟩ := dk_rd I.hok ea
  obtain ⟨_, yb, vb, rb, db⟩ := dk_of I.hok eb
  have hb := kv_nil rb
  subst hb
  refine PySem.W.keq_ne (knd := mixKind X.prog X.w) (r := true) ya yb da db (by omega) (fun hl => ?_) (fin_bl I q ?_)
  · have : va = [] := List.length_eq_zero_iff.mp hl
    subst this
    exact .nil
  · rw [empty_len ra, Bool.and_true]; rfl
def fNe0 (x y : IV) (S : Sto) : Out IV := onD S x fun _ kvs => onDw S y fun _ ls => chk (ls.length = 0) (.ok (.bl (!kvs.isEmpty)) S)
theorem empty_rel {κ : Type} {K : KX} {w : Wd} {ps : List (κ × V)} {kvs : List (κ × IV)} (h : RelKV K w ps kvs) : ps.isEmpty = kvs.isEmpty := by
  have := relKV_len h
  cases ps <;> cases kvs <;> simp at this ⊢
theorem os_ne0 {K : KX} {W : WX} : OpS K W rNe0 fNe0 := fun w S H x y ix iy Q r rx ry p => by
  obtain ⟨n, kvs, a, ps, rfl, h1, h2, p⟩ := onD_post p r rx
  obtain ⟨m, ls, b, qs, _, _, rfl, h4, h5, p⟩ := onDw_post p r ry
  obtain ⟨hl, p⟩ := chk_post p
  have : qs = [] := List.length_eq_zero_iff.mp ((relKV_len h5).trans hl)
  subst this
  refine ⟨a, b, ps, rfl, rfl, h1, h4, ?_⟩
  rw [empty_rel h2]
  exact p.now r _ (.bl _)
/-! ### d.setdefault(k, v), d.update(e) -/
/-! ### defs that call themselves: by their fuel -/
/-! ### slices of tuples -/
end Sm
namespace Sm
open PySem PySem.Spec PyProof.Rows L2
/-! ### properties -/
end Sm
/-! Sm21: for i, x in enumerate(xs) -/
namespace Sm
open PySem PySem.Spec PyProof.Rows L2
end Sm
/-! Sm22: xs == [], xs != [] for lists of anything -/
namespace Sm
open PySem PySem.Spec PyProof.Rows L2
end Sm
/-! Sm23: comprehensions over the keys of a dict. -/
namespace Sm
open PySem PySem.Spec PyProof.Rows L2
end Sm
/-! Sm24: str.replace of written texts, where a token is out (in a def with a parameter and no cells). -/
namespace Sm
open PySem PySem.Spec PyProof.Rows L2
end Sm
/-! Sm25: len(set(texts)), dicts of lists compared. -/
namespace SetL
open PySem PySem.Spec PyProof.Rows
/-- the first i texts, each once -/
def firsts (xs : List Str) (i : Nat) : List Str := (xs.take i).foldl step_dedup []
theorem firsts_succ (xs : List Str) {i : Nat} (h : i < xs.length) : firsts xs (i + 1) = step_dedup (firsts xs i) (xs.getD i Str.empty) := by
  unfold firsts
  rw [← List.take_append_getElem h, List.foldl_append]
  simp [List.getD, h]
theorem step_has (σ : List Str) (v k : Str) : (step_dedup σ v).any (· == k) = (σ.any (· == k) || decide (k = v)) := by
  unfold step_dedup
  by_cases h : σ.any (· == v) = true
  · rw [if_pos h]
    by_cases e : k = v
    · subst e; simp [h]
    · simp [e]
  · rw [if_neg h, List.any_append]
    congr 1
    by_cases e : k = v
    · subst e; simp
    · have : ¬ v = k := fun h => e h.symm
      simp [e, this]
theorem step_len (σ : List Str) (v : Str) : (step_dedup σ v).length = if σ.any (· == v) then σ.length else σ.length + 1 := by
  unfold step_dedup; split <;> simp
theorem firsts_le (xs : List Str) : ∀ i, i ≤ xs.length → (firsts xs i).length ≤ i
  | 0, _ => by simp [firsts]
  | i + 1, h => by
    have := firsts_le xs i (by omega)
    rw [firsts_succ xs (by omega), step_len]
    split <;> omega
section
variable {prog : Program} {w : World} {A : Around} {R : Result → Shared → Prop} {I : Addr} {fp wr : List Addr} {G : Array GenState → Array GenState → Prop} {n : Nat} {P : Nat → Value → Prop} {St : Nat → Shared → Prop}
theorem loop_texts (W : WalksS prog w A.in1 I fp wr G n P St) (S : Addr) (hSf : S ∉ fp) (xs : List Str) (hn : xs.length = n)
    (hval : ∀ i v, P i v → ∃ t, v = .str (xs.getD i Str.empty) t) (hb : n + 1 < scanBound) :
    ∀ (k i : Nat) (s : Shared), n - i = k → i ≤ n → St i s → s.heap.SetOf (PySem.strKind prog w) S (fun k' => (firsts xs i).any (· == k')) (firsts xs i).length →
      (∀ s', Moved (S :: wr) G s s' → s'.heap.SetOf (PySem.strKind prog w) S (fun k' => (firsts xs n).any (· == k')) (firsts xs n).length → R (.ok (.ret .none)) s') →
      codeAny (model prog w) A (.builtin "set.update.loop" ⟨[.ref S, .ref I], []⟩) R s := by
  have hSw : S ∉ wr := fun h => hSf (W.sub _ h)
  have moved : ∀ {s s' : Shared} {T : Str → Bool} {m : Nat}, Moved wr G s s' → s.heap.SetOf (PySem.strKind prog w) S T m → s'.heap.SetOf (PySem.strKind prog w) S T m := fun hm hS => by
    obtain ⟨o, es, ep, t, ho, rest⟩ := hS
    exact ⟨o, es, ep, t, hm.heap S _ hSw ho, rest⟩
  intro k
  induction k with
  | zero =>
    intro i s hk hi hst hS hR
    obtain rfl : i = n := by omega
    refine codeAny_builtin PyProof.Rows.F.entry_set_update_loop ?_
    rw [Around.under_plainId PyProof.Rows.F.plain_set_update_loop _]
    show wpAny _ A.in1 (pyNext (.ref I) >>= _) _ _ s
    refine wpAny_bind (W.done s _ _ hst fun s' hm => ?_)
    show wpAny _ A.in1 (ret Value.none) _ _ s'
    exact wpAny_pure (hR s' (hm.mono fun b hb => List.mem_cons_of_mem _ hb) (moved hm hS))
  | succ k ih =>
    intro i s hk hi hst hS hR
    have hlt : i < n := by omega
    refine codeAny_builtin PyProof.Rows.F.entry_set_update_loop ?_
    rw [Around.under_plainId PyProof.Rows.F.plain_set_update_loop _]
    show wpAny _ A.in1 (pyNext (.ref I) >>= _) _ _ s
    refine wpAny_bind (W.item i s _ _ hlt hst fun v s' hP hst' hm => ?_)
    obtain ⟨t, rfl⟩ := hval i v hP
    show wpAny _ A.in1 (holding [Value.str (xs.getD i Str.empty) t] (setAdd S (.str (xs.getD i Str.empty) t)) >>= _) _ _ s'
    refine wpAny_bind (wpAny_holding ?_)
    unfold setAdd
    refine wpAny_holding ?_
    refine wpAny_bind ((PySem.strKind prog w).pyHash (k := xs.getD i Str.empty) (strKind_is _ _ _ _) ?_)
    have hroom : (firsts xs i).length + 1 < scanBound := by have := firsts_le xs i (by omega); omega
    refine wpAny_setAddHashed_of (knd := PySem.strKind prog w) (s := { s' with toks := s'.toks + 1 }) (strKind_is _ _ _ _) rfl (show s'.heap.SetOf (PySem.strKind prog w) S _ _ from moved hm hS) hroom fun h' hsb hS2 => ?_
    have hSi : h'.SetOf (PySem.strKind prog w) S (fun k' => (firsts xs (i + 1)).any (· == k')) (firsts xs (i + 1)).length :=
      SetOf_congr hS2 (fun k' => by rw [firsts_succ xs (by omega), step_has]) (by rw [firsts_succ xs (by omega), step_len])
    refine wpAny_pure ⟨plainId_quiet PyProof.Rows.F.plain_set_update_loop _, ih (i + 1) _ (by omega) hlt (W.frame _ s' _ _ hst' (Nat.le_succ _) fun b hb o e => ?_) hSi fun s'' hm'' hS'' => ?_⟩
    · rw [hsb.2 b (fun h : b = S => hSf (by rw [← h]; exact hb))]; exact e
    · refine hR s'' (Moved.trans W.gtrans ((hm.mono fun b hb => List.mem_cons_of_mem _ hb).then_heap (Nat.le_succ _) fun b o hb e => ?_) hm'') hS''
      rw [hsb.2 b (fun h : b = S => hb (by rw [h]; exact List.mem_cons_self))]; exact e
end
section
variable {prog : Program} {w : World} {A : Around} {E : Value → Shared → Prop} {s : Shared}
theorem text_at : ∀ {vs : List Value} {xs : List Str}, StrsAre vs xs → ∀ (i : Nat) (v : Value), vs[i]? = some v → ∃ t, v = .str (xs.getD i Str.empty) t
  | _, _, .nil, i, v, h => by simp at h
  | _, _, .cons y k r, 0, v, h => by simp at h; exact ⟨k, h.symm⟩
  | _, _, .cons y k r, i + 1, v, h => by
    obtain ⟨t, e⟩ := text_at r i v (by simpa using h)
    exact ⟨t, by simpa using e⟩
set_option maxHeartbeats 3200000 in
theorem call_set_texts {l : Addr} {items : Array Value} {xs : List Str} {Q : Value → Shared → Prop}
    (hh : A.handled = none) (hl : s.heap.IsList l items) (hi : StrsAre items.toList xs) (hsz : xs.length = items.size) (hb : items.size + 1 < scanBound)
    (h : ∀ (h' : Heap) (tk : Nat), h'.SetOf (PySem.strKind prog w) s.heap.objs.size (fun k' => (firsts xs items.size).any (· == k')) (firsts xs items.size).length →
      (∀ b o, b < s.heap.objs.size → s.heap.get? b = some o → h'.get? b = some o) → Q (.ref s.heap.objs.size) { s with heap := h', toks := tk }) :
    wpAny (model prog w) A (call (.type "set") [.ref l]) Q E s := by
  obtain ⟨c, tl, hmro⟩ := PySem.F.called_set.mro
  have hmade := PySem.F.called_set.made
  have hsub := PySem.F.called_set.sub
  refine wpAny_call (codeAny_of_tree ?_)
  show wpAny _ _ (callAny (.type "set") _) _ _ _
  refine wpAny_pure ⟨Code.quiet_builtin _ (by decide +kernel), codeAny_builtin PySem.F.entry_type_call ?_⟩
  rw [Around.under_plain (weight_type_call_type "set" [.ref l] []) rfl]
  have h1 := PySem.F.called_set.notType
  have h2 := PySem.F.called_set.canCreate
  have hct := PySem.F.typeCall_set_1 (.ref l)
  repeat (any_goals (first | assumption | wp_step))
  refine codeAny_mono (code_set_new_1 (.ref l) (E := E) (Q₁ := fun obj s₁ => ∃ led : Bool, obj = .ref s.heap.objs.size ∧ s₁ = { s with heap := s.heap.push { cls := .type "set", dict := none, data := .set #[] 0 (.fresh 0 0 led) } }) fun led => ⟨led, rfl, rfl⟩) fun r s₁ hr => ?_
  cases r with
  | error e => exact hr
  | ok fl =>
    cases fl with
    | ret obj =>
      obtain ⟨led, rfl, rfl⟩ := hr
      have hS : (s.heap.push { cls := .type "set", dict := none, data := .set #[] 0 (.fresh 0 0 led) }).get? s.heap.objs.size = some { cls := .type "set", dict := none, data := .set #[] 0 (.fresh 0 0 led) } := Heap.get?_push_size _ rfl
      have hT : Shared.TypeIs { s with heap := s.heap.push { cls := .type "set", dict := none, data := .set #[] 0 (.fresh 0 0 led) } } (.ref s.heap.objs.size) "set" := ⟨_, hS, rfl⟩
      have hli := PySem.F.called_set.init.lookup
      have hbi := PySem.F.called_set.init.bind (.ref s.heap.objs.size)
      repeat (any_goals (first | assumption | wp_step))
      refine codeAny_mono (codeAny_call_builtin (R := wants (fun r s₂ => r = .none ∧ ∃ h' tk, s₂ = { s with heap := h', toks := tk } ∧
          h'.SetOf (PySem.strKind prog w) s.heap.objs.size (fun k' => (firsts xs items.size).any (· == k')) (firsts xs items.size).length ∧
          (∀ b o, b < s.heap.objs.size → s.heap.get? b = some o → h'.get? b = some o)) E) PySem.F.called_set.init.plain PySem.F.entry_set_init (check_set_init_1 hT ?_)) fun r₂ s₂ hr₂ => ?_
      · obtain ⟨⟨ocls, odict, odata, oslots⟩, hol, hcl, nl, hdl⟩ := hl
        simp only at hcl hdl
        subst hcl; subst hdl
        have hol' : (s.heap.push { cls := .type "set", dict := none, data := .set #[] 0 (.fresh 0 0 led) }).get? l = some { cls := .type "list", dict := odict, data := .seq items nl, slots := oslots } := Heap.get?_push_of_some _ hol
        have hsls := PySem.F.sub_list_set
        have hslf := PySem.F.sub_list_frozenset
        have hne : (Value.type "list" == Value.type "dict") = false := by decide
        have hl1 : (s.heap.push { cls := .type "set", dict := none, data := .set #[] 0 (.fresh 0 0 led) }).IsList l items := ⟨_, hol', rfl, nl, rfl⟩
        unfold Builtin.«set.__init__» noKeywords Builtin.Frozenset.updateFrom
        generalize hPI : pyIter = PI
        wp_walk
        subst hPI
        refine wpAny_pyIter_list hl1 ?_
        refine wpAny_bind (wpAny_runValue ?_)
        have hlS : l < s.heap.objs.size := Heap.lt_size hol
        have hsz' : (s.heap.push { cls := .type "set", dict := none, data := .set #[] 0 (.fresh 0 0 led) }).objs.size = s.heap.objs.size + 1 := Heap.size_push _ _
        have hh3 : A.in1.in1.in1.handled = none := by simp [hh]
        have hneI : l ≠ (s.heap.push { cls := .type "set", dict := none, data := .set #[] 0 (.fresh 0 0 led) }).objs.size := by rw [hsz']; exact Nat.ne_of_lt (Nat.lt_succ_of_lt hlS)
        have hSf : s.heap.objs.size ∉ [(s.heap.push { cls := .type "set", dict := none, data := .set #[] 0 (.fresh 0 0 led) }).objs.size, l] := by
          rw [hsz']; simp only [List.mem_cons, List.not_mem_nil, or_false, not_or]
          exact ⟨Nat.ne_of_lt (Nat.lt_succ_self _), Nat.ne_of_gt hlS⟩
        refine loop_texts ((Walks.list hh3 _ l hneI items).toS) s.heap.objs.size hSf xs hsz (fun i v hv => text_at hi i v (by rw [Array.getElem?_toList]; exact hv)) hb (items.size - 0) 0 _ (by omega) (Nat.zero_le _)
          ⟨⟨_, Heap.get?_push_size _ rfl, rfl, rfl⟩, (hl1.push _)⟩ ?hS0 ?hR
        case hS0 =>
          have hget : ((s.heap.push { cls := .type "set", dict := none, data := .set #[] 0 (.fresh 0 0 led) }).push { cls := .type "list_iterator", data := .fields #[.ref l, .int 0 0] }).get? s.heap.objs.size
              = some { cls := .type "set", dict := none, data := .set #[] 0 (.fresh 0 0 led) } := Heap.get?_push_of_some _ hS
          exact SetOf_congr ((setObjOf_fresh (knd := PySem.strKind prog w) led).setOf hget (by unfold scanBound; omega)) (fun _ => rfl) rfl
        case hR =>
          intro s' hm hS'
          obtain ⟨h', g', d', tk', os'⟩ := s'
          have eg : g' = s.gens := hm.gens
          have ed : d' = s.drawn := hm.drawn
          have eo : os' = s.os := hm.os
          subst eg; subst ed; subst eo
          show wpAny _ _ _ _ _ _
          refine wpAny_pure ?_
          show wpAny _ _ (ret Value.none) _ _ _
          refine wpAny_pure ⟨rfl, h', tk', rfl, hS', fun b o hb e => ?_⟩
          exact hm.heap b o (by rw [hsz']; simp only [List.mem_cons, List.not_mem_nil, or_false, not_or]; exact ⟨Nat.ne_of_lt hb, Nat.ne_of_lt (Nat.lt_succ_of_lt hb)⟩) (Heap.get?_push_of_some _ (Heap.get?_push_of_some _ e))
      · cases r₂ with
        | error e => exact hr₂
        | ok fl₂ =>
          cases fl₂ with
          | ret r =>
            obtain ⟨rfl, h', tk, rfl, hS', hk'⟩ := hr₂
            repeat (any_goals (first | assumption | wp_step))
            exact h _ _ hS' hk'
          | _ => exact hr₂.elim
    | _ => exact hr.elim
end
end SetL
namespace Sm
open PySem PySem.Spec PyProof.Rows L2
/-! ### len(set(texts)) -/
def tLenT (K : PySem.W.Frag) (ta : TE) : TE := fun σ H Q => ta σ H fun x H1 => ∃ l, ∃ xs : List Str, x = .ref l ∧ SqL K H1 l (xs.map V.str) ∧ xs.length ≤ 4000 ∧ Q (.int ((SetL.firsts xs xs.length).length : Nat)) H1
theorem pe_lenT {X : Cx} {a : Expr} {ta : TE} {p p2 q pos : Pos} (hc : X.calm = true) (ha : PE X a ta) (hm : X.mg "len" = none) (hm2 : X.mg "set" = none) (hg : Gl X "len" := by rfl) (hg2 : Gl X "set" := by rfl)
    (na : starEach [a] X.env = (false, eval a X.env) :: starEach [] X.env := by rfl) : PE X (.Call (.Name "len" p) [.Call (.Name "set" p2) [a] [] q] [] pos) (tLenT X.K ta) := by
  refine ⟨fun pins s σ H Q I h => ?_⟩
  refine Call_ (ld_blt I hg hm boot_len ?_)
  refine PyProof.Rows.callWith_builtin1 (PyProof.Rows.args_cons ?_ rfl) rfl rfl
  refine Call_ (ld_blt I hg2 hm2 boot_set ?_)
  refine PyProof.Rows.callWith_type1 (PyProof.Rows.args_cons (thn (ha.run pins s σ H _ I h) fun v s1 ⟨x, H1, I1, r1, q1⟩ => PyProof.Rows.args_nil ?_) na) na rfl
  obtain ⟨l, xs, rfl, hq, hl, q1⟩ := q1
  cases r1
  obtain ⟨its, r, pl, hz⟩ := I1.list hq
  have hlen : its.toArray.size = xs.length := by rw [List.size_toArray, ← r.length, List.length_map]
  have hle := SetL.firsts_le xs xs.length (Nat.le_refl _)
  refine SetL.call_set_texts (xs := xs) (I1.ok.hd hc) pl.isList (by simpa using strsAre_of r) hlen.symm (by rw [hlen]; unfold scanBound; omega) fun h' tk hS hk => ?_
  refine PyProof.Rows.args_nil ?_
  rw [hlen] at hS
  obtain ⟨o, es, ep, t, ho, hex, hd, _, _, _, hf, hn⟩ := hS
  have I2 : Inv X pins σ H1 { s1 with heap := h', toks := tk } := I1.kept fun b o e => hk b o (Heap.lt_size e) e
  exact call_len_set ho hex hd hf (by rw [hn] <;> omega) ⟨.int ((SetL.firsts xs xs.length).length : Nat), H1, I2.tok _, ⟨_, by rw [hn]⟩, q1⟩
def iLenT (m : IE) : IE := fun Λ S => (m Λ S).bind fun x S1 => orBad (lstOf S1 x) fun ys => orBad (strsOf ys) fun zs => chk (zs.length ≤ 4000) (.ok (.int ((SetL.firsts zs zs.length).length : Nat)) S1)
theorem de_lenT {X : Cx} {W : WZ} {a : Expr} {m : IE} {p p2 q pos : Pos} (hc : X.calm = true) (ha : DE X W a m) (hm : X.mg "len" = none) (hm2 : X.mg "set" = none) (hg : Gl X "len" := by rfl) (hg2 : Gl X "set" := by rfl)
    (na : starEach [a] X.env = (false, eval a X.env) :: starEach [] X.env := by rfl) : DE X W (.Call (.Name "len" p) [.Call (.Name "set" p2) [a] [] q] [] pos) (iLenT m) :=
  (pe_lenT hc ha hm hm2 hg hg2 na).imp fun σ H Q ⟨w, S, Λ, r0, s0, h⟩ => ⟨w, S, Λ, r0, s0, h.bind.imp fun w1 H1 S1 ix l1 r1 p1 v1 rv1 => by
    obtain ⟨ys, e1, p1⟩ := orBad_post p1
    obtain ⟨zs, e2, p1⟩ := orBad_post p1
    obtain ⟨c, p1⟩ := chk_post p1
    obtain ⟨b, vs, rfl, h1, h2⟩ := lstOf_sq e1 r1 rv1
    have := strsOf_rel e2 h2
    subst this
    exact ⟨b, zs, rfl, h1, c, p1.now r1 _ (.int _)⟩⟩
/-! ### dicts of data that are equal -/
def SameP (K : PySem.W.Frag) (H : Hp) (x y : V) : Prop := ∃ d e, Dp K H x d ∧ Dp K H y e ∧ SeqAt.shaped d = true ∧ SeqAt.shaped e = true ∧ PyData.eqv d e = true ∧ d.depth ≤ 32
abbrev rDD (K : PySem.W.Frag) (out : Bool) : R2 := fun x y H Q => ∃ a b ks ls, x = .ref a ∧ y = .ref b ∧ H a = some (.dK ks) ∧ H b = some (.dK ls) ∧ ks.length = ls.length ∧ (∀ p ∈ ks, ∃ u, valV ls p.1 = some u ∧ SameP K H p.2 u) ∧ Q (.bl out) H
theorem hits_dd {X : Cx} {pins : List (Addr × Obj)} {σ : L2.St} {H : Hp} {s : Shared} {A : Around} (I : Inv X pins σ H s) (hu : A.units + 33 < cLine) {ls : List (Key × V)} {vb : List (Key × Value)} (rb : KV ls vb) {ks : List (Key × V)}
    {va : List (Key × Value)} (ra : KV ks va) : (∀ p ∈ ks, ∃ u, valV ls p.1 = some u ∧ SameP X.K H p.2 u) → PySem.W.KeqHits A s vb va true := by
  unfold KV at ra
  induction ra with
  | nil => intro _; exact .nil
  | @cons p q ps qs h t k =>
    intro hp
    obtain ⟨h1, h2⟩ := h
    obtain ⟨u, e, d1, d2, f1, f2, s1, s2, ee, dp⟩ := hp p List.mem_cons_self
    have rr : RelO (some u) (valueAt vb p.1) := by rw [← e]; exact rb.val p.1
    obtain ⟨y, hy, ry⟩ := rr.some_of
    obtain ⟨key, v⟩ := q
    have h1' : p.1 = key := h1
    rw [h1'] at hy
    obtain ⟨as, r1⟩ := Dp.reads I d1 _ _ f1 h2
    obtain ⟨bs, r2⟩ := Dp.reads I d2 _ _ f2 ry
    have z := SeqAt.eqAt_plain d1 d2 A s v y as bs r1 r2 (PyData.plain_of_canLay0 _ (SeqAt.canLay_of_shaped s1)) (PyData.plain_of_canLay0 _ (SeqAt.canLay_of_shaped s2)) (by have := Nat.min_le_left d1.depth d2.depth; omega)
    rw [ee] at z
    show PySem.W.KeqHits A s vb ((key, v) :: qs) (true && true)
    exact .hit hy z (k fun p' hm => hp p' (List.mem_cons_of_mem _ hm))
theorem op_neDD {X : Cx} (hu : X.A.units + 64 < cLine) : OpR X (compareOp .NotEq) (rDD X.K false) := by
  intro pins s σ H x y v u Q I rx ry h
  obtain ⟨a, b, ks, ls, rfl, rfl, ea, eb, hl, hp, q⟩ := h
  obtain rfl : v = Value.ref a := rx
  obtain rfl : u = Value.ref b := ry
  obtain ⟨_, ya, va, ra, da⟩ := dk_of I.hok ea
  obtain ⟨_, yb, vb, rb, db⟩ := dk_of I.hok eb
  have e : va.length = vb.length := by rw [← ra.length, ← rb.length]; exact hl
  refine PySem.W.keq_ne (knd := mixKind X.prog X.w) (r := true) ya yb da db (by omega) (fun _ => hits_dd I (by show X.A.units + 1 + 33 < cLine; omega) rb ra hp) (fin_bl I q ?_)
  rw [e]; simp
def sameI (S : Sto) (x y : IV) : Bool := match view 8 S x, view 8 S y with
  | some d, some e => SeqAt.shaped d && SeqAt.shaped e && PyData.eqv d e && decide (d.depth ≤ 32)
  | _, _ => false
def sameD (S : Sto) (ks ls : List (Key × IV)) : Bool := decide (ks.length = ls.length) && ks.all fun p => match valI ls p.1 with
  | some u => sameI S p.2 u
  | none => false
def fNeDD (x y : IV) (S : Sto) : Out IV := onDw S x fun _ ks => onDw S y fun _ ls => chk (sameD S ks ls = true) (.ok (.bl false) S)
theorem sameI_p {K : KX} {w : Wd} {S : Sto} {H : Hp} (r : R K w S H) {x y : IV} {u v : V} (h : sameI S x y = true) (rx : Rel K w u x) (ry : Rel K w v y) : SameP K.k H u v := by
  unfold sameI at h
  split at h
  · rename_i d e h1 h2
    simp only [Bool.and_eq_true, decide_eq_true_eq] at h
    exact ⟨d, e, view_dp r _ _ _ _ h1 rx, view_dp r _ _ _ _ h2 ry, h.1.1.1, h.1.1.2, h.1.2, h.2⟩
  · cases h
theorem rel_mem {κ : Type} {K : KX} {w : Wd} : ∀ {ps : List (κ × V)} {kvs : List (κ × IV)}, RelKV K w ps kvs → ∀ p ∈ ps, ∃ q ∈ kvs, p.1 = q.1 ∧ Rel K w p.2 q.2
  | _, _, .nil, _, h => by cases h
  | _, _, .cons a t, p, h => by
    rcases List.mem_cons.mp h with rfl | h
    · exact ⟨_, List.mem_cons_self, a⟩
    · obtain ⟨q, h1, h2⟩ := rel_mem (ps := _) t p h
      exact ⟨q, List.mem_cons_of_mem _ h1, h2⟩
theorem os_neDD {K : KX} {W : WX} : OpS K W (rDD K.k false) fNeDD := fun w S H x y ix iy Q r rx ry p => by
  obtain ⟨n, kvs, a, ps, _, _, rfl, h1, h2, p⟩ := onDw_post p r rx
  obtain ⟨m, ls, b, qs, _, _, rfl, h4, h5, p⟩ := onDw_post p r ry
  obtain ⟨hl, p⟩ := chk_post p
  unfold sameD at hl
  simp only [Bool.and_eq_true, decide_eq_true_eq, List.all_eq_true] at hl
  refine ⟨a, b, ps, qs, rfl, rfl, h1, h4, by rw [relKV_length h2, relKV_length h5]; exact hl.1, fun pp hp => ?_, p.now r _ (.bl _)⟩
  obtain ⟨q, hq, e1, e2⟩ := rel_mem h2 pp hp
  have z := hl.2 q hq
  rcases relKV_val (k := q.1) h5 with ⟨z1, _⟩ | ⟨iv, v, z1, z2, z3⟩
  · rw [z1] at z; cases z
  · rw [z1] at z
    exact ⟨v, by rw [e1]; exact z2, sameI_p r z e2 z3⟩
end Sm
set_option maxHeartbeats 1000000
/-! what the laws have in common: draws, sources, the walk over the script -/
namespace Lw
open PySem PySem.Spec PyProof.Rows L2 Sm
/-- the draws' state: a list of three ints at n; K bounds how often was drawn -/
def Dr (S : Sto) (n : Nat) (K : Nat) : Prop := ∃ a b c : Int, S[n]? = some (.lst [.int a, .int b, .int c]) ∧ 0 ≤ c ∧ c ≤ K
theorem Dr.up {S : Sto} {n K M : Nat} (h : Dr S n K) (l : K ≤ M) : Dr S n M := by
  obtain ⟨a, b, c, e, c0, c1⟩ := h
  exact ⟨a, b, c, e, c0, by omega⟩
theorem Dr.lt {S : Sto} {n K : Nat} (h : Dr S n K) : n < S.length := by
  obtain ⟨a, b, c, e, _⟩ := h
  exact lt_some e
theorem Dr.ext {S S' : Sto} {n K : Nat} {ds : List Nat} (h : Dr S n K) (x : Ext ds S S') (hn : n ∉ ds := by simp) : Dr S' n K := by
  obtain ⟨a, b, c, e, c0, c1⟩ := h
  exact ⟨a, b, c, x.get e hn, c0, c1⟩
def drawB (A B C M Hh N : Int) : IS := (iSeq (iIf (iTest (iBin fGt (iBin fIx (iVar 0) (iC (.int 0))) (iC (.int 0)))) (iSeq (iSet 2 (iBin fMod (iCa fInt (iCons (iBin fIx (iVar 0) (iC (.int 0))) iNil)) (iVar 1))) (iSeq (iAsg (iBin fDiv (iBin fIx (iVar 0) (iC (.int 0))) (iVar 1)) (iGSub (iVar 0) (iC (.int 0)))) (iRet (iVar 2)))) iNext)
  (iSeq (iAsg (iBin fAdd (iBin fIx (iVar 0) (iC (.int 2))) (iC (.int 1))) (iGSub (iVar 0) (iC (.int 2)))) (iSeq (iAsg (iBin fMod (iCa fInt (iCons (iBin fAdd (iBin fAdd (iBin fMul (iBin fIx (iVar 0) (iC (.int 1))) (iC (.int A))) (iBin fMul (iBin fMul (iBin fIx (iVar 0) (iC (.int 2))) (iBin fIx (iVar 0) (iC (.int 2)))) (iC (.int B)))) (iC (.int C))) iNil)) (iC (.int M))) (iGSub (iVar 0) (iC (.int 1))))
  (iSeq (iSet 3 (iBin fDiv (iBin fIx (iVar 0) (iC (.int 1))) (iC (.int Hh)))) (iRet (iBin fMod (iBin fMod (iCa fInt (iCons (iBin fAdd (iBin fMul (iVar 3) (iVar 3)) (iBin fIx (iVar 0) (iC (.int 1)))) iNil)) (iC (.int N))) (iVar 1)))))))
structure DrC (A B M Hh N : Int) : Prop where
  a : -(2 ^ 64) < A ∧ A < 2 ^ 64
  b : -(2 ^ 64) < B ∧ B < 2 ^ 64
  m : 0 < M
  m2 : M ≤ 2147483648
  h : 0 < Hh ∧ Hh < 1073741824
  n : 0 < N
theorem draw_ok {A B C M Hh N : Int} (k : DrC A B M Hh N) {S : Sto} {n K : Nat} {m : Int} (h : Dr S n K) (hN : K ≤ 1000000) (h0 : 0 < m) (h1 : m < 1073741824) :
    ∃ r S', mDef 4 (drawB A B C M Hh N) [.adr n, .int m] S = .ok (.int r) S' ∧ 0 ≤ r ∧ r < m ∧ Dr S' n (K + 1) ∧ Ext [n] S S' := by
  obtain ⟨a, b, c, e, c0, c1⟩ := h
  have hn : n < S.length := lt_some e
  have hd : CDiv a m := ⟨h0, h1⟩
  have ex : ∀ c, Ext [n] S (S.set n c) := fun c => Ext.set (.inl (by simp))
  by_cases ha : 0 < a
  · refine ⟨a % m, S.set n (.lst [.int (a / m), .int b, .int c]), mDef_rt ?_, Int.emod_nonneg _ (by omega), Int.emod_lt_of_pos _ h0, ⟨_, _, _, List.getElem?_set_self hn, c0, by omega⟩, ex _⟩
    unfold drawB
    simp [iVar_s, fIx_a e, ha, chk_pos, h0, hd, onL_s e]
  · have hm := k.m
    have hm2 := k.m2
    obtain ⟨hh0, hh1⟩ := k.h
    have hn0 := k.n
    generalize hy : (b * A + (c + 1) * (c + 1) * B + C) % M = y
    have y1 : y < M := hy ▸ Int.emod_lt_of_pos _ hm
    have y0 : 0 ≤ y := hy ▸ Int.emod_nonneg _ (by omega)
    have k1 : CMul b A := .inr ⟨k.a.1, k.a.2⟩
    have k2 : CMul (c + 1) (c + 1) := .inl ⟨by omega, by omega⟩
    have k3 : CMul ((c + 1) * (c + 1)) B := .inr ⟨k.b.1, k.b.2⟩
    have k4 : CDiv y Hh := ⟨hh0, hh1⟩
    have z0 : 0 ≤ y / Hh := Int.ediv_nonneg y0 (by omega)
    have z1 : y / Hh ≤ y := Int.ediv_le_self _ y0
    have k5 : CMul (y / Hh) (y / Hh) := .inl ⟨by omega, by omega⟩
    refine ⟨(y / Hh * (y / Hh) + y) % N % m, S.set n (.lst [.int a, .int y, .int (c + 1)]), mDef_rt ?_, Int.emod_nonneg _ (by omega), Int.emod_lt_of_pos _ h0, ⟨_, _, _, List.getElem?_set_self hn, by omega, by omega⟩, ex _⟩
    have e1 : (S.set n (.lst [.int a, .int b, .int (c + 1)]))[n]? = some (.lst [.int a, .int b, .int (c + 1)]) := List.getElem?_set_self hn
    have e2 : (S.set n (.lst [.int a, .int y, .int (c + 1)]))[n]? = some (.lst [.int a, .int y, .int (c + 1)]) := List.getElem?_set_self hn
    unfold drawB
    simp [iVar_s, fIx_a e, fIx_a e1, fIx_a e2, ha, chk_pos, h0, onL_s e, onL_s e1, k1, k2, k3, hy, k4, k5, hm, hn0]
/-! ### sources -/
def sourceB (P : Int) (cc : Int) (D : Int) : IS := (iSeq (iSet 2 (iIf (iTest (iBin fLt (iVar 1) (iCa fLen (iCons (iVar 0) iNil)))) (iBin fIx (iVar 0) (iVar 1)) (iC (.int 0)))) (iSeq (iSet 3 (iIf (iTest (iBin fGe (iCa fAbs (iCons (iVar 2) iNil)) (iBin fPow (iC (.int 10)) (iC (.int 18))))) (iCa fAbs (iCons (iVar 2) iNil)) (iC (.int 0))))
  (iRet (iLst true (iCons (iVar 3) (iCons (iBin fAdd (iBin fAdd (iBin fMod (iCa fInt (iCons (iVar 2) iNil)) (iC (.int P))) (iBin fMul (iC (.int cc)) (iVar 1))) (iC (.int D))) (iCons (iC (.int 0)) iNil)))))))
theorem source_ok {P cc D : Int} (hP : 0 < P) (hc : -(2 ^ 64) < cc ∧ cc < 2 ^ 64) {S : Sto} {ns : List Int} {i : Nat} : ∃ S', mDef 4 (sourceB P cc D) [.wls (ns.map IV.int), .int i] S = .ok (.adr S.length) S' ∧ Dr S' S.length 0 ∧ Ext [] S S' ∧ S'.length = S.length + 1 := by
  have z3 : (3 : Nat) ≤ sizeLine := by rw [szL]; decide
  have kp : CPow 10 18 := by decide
  have km : CMul cc (i : Int) := .inl ⟨hc.1, hc.2⟩
  obtain ⟨c, hc⟩ : ∃ c : Int, (iIf (iTest (iBin fLt (iVar 1) (iCa fLen (iCons (iVar 0) iNil)))) (iBin fIx (iVar 0) (iVar 1)) (iC (.int 0)) : IE) [some (.wls (ns.map IV.int)), some (.int i), none, none] S = .ok (.int c) S := by
    by_cases h : i < ns.length
    · refine ⟨ns[i], ?_⟩
      have e : atI (ns.map IV.int) (i : Int) = some (.int ns[i]) := atI_nat (by rw [List.getElem?_map, List.getElem?_eq_getElem h]; rfl)
      simp [iVar_s, h, e]
    · refine ⟨0, ?_⟩
      simp [iVar_s, h]
  let a : Int := if (10 : Int) ^ 18 ≤ (if c < 0 then -c else c) then (if c < 0 then -c else c) else 0
  refine ⟨S ++ [.lst [.int a, .int (c % P + cc * i + D), .int 0]], ?_, ⟨_, _, _, get_new _ _, Int.le_refl 0, Int.le_refl 0⟩, .app _, by simp⟩
  refine mDef_rt ?_
  unfold sourceB
  rw [iSeq_e, iSet_e]
  show ((Out.bind (iIf _ _ _ [some (.wls (ns.map IV.int)), some (.int i), none, none] S) _).bind _) = _
  rw [hc]
  by_cases h : (10 : Int) ^ 18 ≤ (if c < 0 then -c else c)
  · have ha : a = (if c < 0 then -c else c) := if_pos h
    have h' : (1000000000000000000 : Int) ≤ (if c < 0 then -c else c) := h
    simp [iVar_s, kp, chk_pos, km, z3, h', hP, ha]
  · have ha : a = 0 := if_neg h
    have h' : ¬ (1000000000000000000 : Int) ≤ (if c < 0 then -c else c) := h
    simp [iVar_s, kp, chk_pos, km, z3, h', hP, ha]
/-! ### range(max(1, min(t, len(script)))) -/
def turns (t : Int) (ns : List Int) : Nat := (if (if (ns.length : Int) < t then (ns.length : Int) else t) > 1 then (if (ns.length : Int) < t then (ns.length : Int) else t) else 1).toNat
def placesW (t : Int) : IW := iSrcR1 (iCa fMax2 (iCons (iC (.int 1)) (iCons (iCa fMin2 (iCons (iC (.int t)) (iCons (iCa fLen (iCons (iVar 0) iNil)) iNil))) iNil)))
theorem places_src {t : Int} (ht : t ≤ 1000) {ns : List Int} {Λ : Slots} {S : Sto} (h0 : Λ[0]? = some (some (.wls (ns.map IV.int)))) (hl : ns.length ≤ 63) : placesW t Λ S = .ok ⟨(List.range (turns t ns)).map fun i : Nat => IV.int i, none⟩ S := by
  unfold placesW turns
  have q : -(2 ^ 62) ≤ (if (if (ns.length : Int) < t then (ns.length : Int) else t) > 1 then (if (ns.length : Int) < t then (ns.length : Int) else t) else 1) ∧ (if (if (ns.length : Int) < t then (ns.length : Int) else t) > 1 then (if (ns.length : Int) < t then (ns.length : Int) else t) else 1) < 2 ^ 62 := by
    split <;> split <;> omega
  simp only [iSrcR1_e, iCa_e, iCons_e, iC_e, iNil_e, Out.bind_ok]
  rw [iVar_s h0]
  simp only [Out.bind_ok, fLen_e, lenN_w, orBad_some, List.length_map, fMin2_i, fMax2_i, asI_i]
  rw [chk_pos q, rangeI_map]
  simp only [Int.zero_add]
theorem src_range {Λ : Slots} {S S1 : Sto} {m : IE} {j : Int} (h : m Λ S = .ok (.int j) S1) (h0 : 0 ≤ j) (h1 : j < 1000000) : iSrcR1 m Λ S = .ok ⟨(List.range j.toNat).map fun i : Nat => IV.int i, none⟩ S1 := by
  rw [iSrcR1_e, h]
  simp only [Out.bind_ok, asI_i]
  rw [chk_pos (⟨by omega, by omega⟩ : -(2 ^ 62) ≤ j ∧ j < 2 ^ 62), rangeI_map]
  simp only [Int.zero_add]
end Lw
set_option maxHeartbeats 2000000
/-! names drawn by the laws -/
namespace Lw
open PySem PySem.Spec PyProof.Rows L2 Sm
def alpha : Str := "abcdefghijklmnopqrstuvwxyz"
theorem alpha_len : alpha.length = 26 := by decide +kernel
theorem alpha_lt {c : Nat} (h : c ∈ sg alpha) : c < 1114112 := by
  have h2 : (sg alpha).all (fun c => decide (c < 1114112)) = true := by decide +kernel
  exact of_decide_eq_true (List.all_eq_true.mp h2 c h)
/-- all signs are letters -/
def Abc (s : Str) : Prop := ∀ c ∈ sg s, c ∈ sg alpha
theorem Abc.ok {s : Str} (h : Abc s) : okS s := fun c hc => alpha_lt (h c hc)
theorem strsOf_map : ∀ zs : List Str, strsOf (zs.map IV.str) = some zs
  | [] => rfl
  | z :: zs => by
    show (strsOf (zs.map IV.str)).map (z :: ·) = _
    rw [strsOf_map zs]; rfl
theorem sum_ones : ∀ {l : List Str}, (∀ z ∈ l, z.length = 1) → (l.map (·.length)).sum = l.length
  | [], _ => rfl
  | z :: l, h => by
    rw [List.map_cons, List.sum_cons, sum_ones fun y hy => h y (List.mem_cons_of_mem _ hy), h z List.mem_cons_self, List.length_cons]
    omega
theorem join_len (zs : List Str) : (PySem.Txt.join ⟨#[]⟩ zs).length = (zs.map (·.length)).sum := by
  rw [← sg_len, sg_join0, List.length_flatten, List.map_map]
  exact congrArg List.sum (List.map_congr_left fun z _ => sg_len z)
theorem join_e {Λ : Slots} {S S1 : Sto} {ma : IE} {zs : List Str} (h : ma Λ S = .ok (.lst (zs.map IV.str)) S1) (h1 : ∀ z ∈ zs, z.length = 1) (hl : zs.length ≤ 1000000) :
    iBM "str" fJoin (iC (.str "")) (iCons ma iNil) Λ S = .ok (.str (PySem.Txt.join ⟨#[]⟩ zs)) S1 := by
  have q2 : (zs.map (·.length)).sum + zs.length * (Str.mk #[]).length ≤ 16777216 := by
    rw [sum_ones h1]
    show _ + _ * 0 ≤ _
    omega
  rw [iBM_e, iC_e, Out.bind_ok, empty_eq, chk_pos (show hasTy "str" S (.str ⟨#[]⟩) = true from rfl), iCons_e, h]
  simp only [Out.bind_ok, iNil_e]
  unfold fJoin
  have q5 : seqOf S1 (.lst (zs.map IV.str)) = some (zs.map IV.str) := rfl
  simp only [asS_s, a1_1, q5, orBad_some, strsOf_map]
  rw [chk_pos q2]
theorem inB_a {S : Sto} {n : Nat} (s : Str) (zs : List Str) (h : S[n]? = some (.lst (zs.map IV.str))) : inB S (.str s) (.adr n) = some (decide (s ∈ zs)) := by
  have e : seqOf S (.adr n) = seqOf S (.lst (zs.map IV.str)) := by
    unfold seqOf tupOf lstOf
    simp only [h]
  have e2 : inB S (.str s) (.adr n) = inB S (.str s) (.lst (zs.map IV.str)) := by
    unfold inB
    simp only [e]
  rw [e2, inB_lst]
theorem app_e {Λ : Slots} {S S1 S2 : Sto} {mo mv : IE} {n : Nat} {xs : List IV} {v : IV} (ho : mo Λ S = .ok (.adr n) S1) (hv : mv Λ S1 = .ok v S2) (h1 : S1[n]? = some (.lst xs)) (h : S2[n]? = some (.lst xs)) (hl : xs.length < 1000000) :
    iBM "list" fApp mo (iCons mv iNil) Λ S = .ok .non (S2.set n (.lst (xs ++ [v]))) := by
  have ht : hasTy "list" S1 (.adr n) = true := by
    unfold hasTy lstOf
    simp only [h1]
    rfl
  rw [iBM_e, ho, Out.bind_ok, chk_pos ht, iCons_e, hv]
  simp only [Out.bind_ok, iNil_e]
  show (a1 [v] fun y => onL S2 (.adr n) _) = _
  rw [a1_1, onL_s h, chk_pos (by rw [szL]; omega)]
theorem atI_sg {c : Int} {z : Str} (h0 : 0 ≤ c) (h1 : c < z.length) : ∃ d, atI z.cps.toList c = some d ∧ d ∈ sg z := atI_lt h0 (by rw [show z.cps.toList.length = z.length from sg_len z]; exact h1)
/-- the names of a pool -/
structure Pool (ps kept : List Str) : Prop where
  abc : ∀ p ∈ ps, Abc p
  len : ∀ p ∈ ps, 1 ≤ p.length ∧ p.length ≤ 5
  nk : ∀ p ∈ ps, p ∉ kept
  nd : ps.Nodup
def keptA : List Str := ["ahead", "all", "as", "at", "call", "class", "def", "end", "for", "from", "keep", "none", "often"]
def keptB : List Str := ["once", "or", "patch", "set", "stand", "start", "stop", "table", "test", "using", "with"]
def keptL : List Str := keptA ++ keptB
def spareS (k : Nat) : Str := ((⟨#[97 + k]⟩ : Str) ++ (⟨#[122 - k]⟩ : Str)) ++ "x"
def spareL : List Str := (List.range 26).map spareS
theorem spare_all : spareL.all (fun s => decide (s.length = 3) && (sg s).all (fun c => decide (c ∈ sg alpha)) && !decide (s ∈ keptL)) = true := by decide +kernel
theorem spare_nd : spareL.Nodup := by decide +kernel
theorem spare_mem {s : Str} (h : s ∈ spareL) : s.length = 3 ∧ Abc s ∧ s ∉ keptL := by
  have := List.all_eq_true.mp spare_all s h
  simp only [Bool.and_eq_true, decide_eq_true_eq, List.all_eq_true, Bool.not_eq_true', decide_eq_false_iff_not] at this
  exact ⟨this.1.1, this.1.2, this.2⟩
/-- of more names than those some is not among them -/
theorem one_free : ∀ (l xs : List Str), l.Nodup → xs.length < l.length → (l.filter fun s => !decide (s ∈ xs)) ≠ []
  | [], xs, _, h => by simp at h
  | s :: l, xs, hd, h => by
    by_cases hs : s ∈ xs
    · have h2 := one_free l (xs.erase s) (List.nodup_cons.mp hd).2 (by rw [List.length_erase_of_mem hs]; rw [List.length_cons] at h; have := List.length_pos_of_mem hs; omega)
      intro z
      rw [List.filter_cons] at z
      simp only [decide_eq_true hs, Bool.not_true, Bool.false_eq_true, if_false] at z
      apply h2
      rw [List.filter_eq_nil_iff] at z ⊢
      intro y hy
      have := z y hy
      simp only [Bool.not_eq_true', decide_eq_false_iff_not, Decidable.not_not] at this ⊢
      have ne : y ≠ s := fun e => (List.nodup_cons.mp hd).1 (e ▸ hy)
      exact (List.mem_erase_of_ne ne).mpr this
    · intro z
      rw [List.filter_cons] at z
      simp [hs] at z
/-! ### a pool of twelve names -/
/-- elt: a letter is drawn (as a text of one sign) -/
noncomputable def poolB (draw elt : IE) : IS := (iSeq (iSet 1 (iLst false (iCons (iC (.str "ahead")) (iCons (iC (.str "all")) (iCons (iC (.str "as")) (iCons (iC (.str "at")) (iCons (iC (.str "call")) (iCons (iC (.str "class")) (iCons (iC (.str "def")) (iCons (iC (.str "end")) (iCons (iC (.str "for")) (iCons (iC (.str "from")) (iCons (iC (.str "keep")) (iCons (iC (.str "none")) (iCons (iC (.str "often")) iNil)))))))))))))))
  (iSeq (iSet 1 (iBin fAdd (iVar 1) (iLst false (iCons (iC (.str "once")) (iCons (iC (.str "or")) (iCons (iC (.str "patch")) (iCons (iC (.str "set")) (iCons (iC (.str "stand")) (iCons (iC (.str "start")) (iCons (iC (.str "stop")) (iCons (iC (.str "table")) (iCons (iC (.str "test")) (iCons (iC (.str "using")) (iCons (iC (.str "with")) iNil))))))))))))))
  (iSeq (iSet 2 (iC (.str "abcdefghijklmnopqrstuvwxyz"))) (iSeq (iSet 3 (iLst true iNil)) (iSeq (iFor (iSrcR1 (iC (.int 12))) (iName 4) (iSeq (iSet 5 (iBin fAdd (iC (.int 1)) draw)) (iSeq (iSet 6 (iBM "str" fJoin (iC (.str "")) (iCons (iLc false (iSrcR1 (iVar 5)) (giN 8) iYes elt [8]) iNil)))
  (iSeq (iIf (iOr (iTest (iBin fIn (iVar 6) (iVar 1))) (iTest (iBin fIn (iVar 6) (iVar 3)))) (iSeq (iSet 7 (iLc false (iSrcR1 (iC (.int 26))) (giN 8) iYes (iBin fAdd (iBin fAdd (iBin fIx (iVar 2) (iVar 8)) (iBin fIx (iVar 2) (iBin fSub (iC (.int 25)) (iVar 8)))) (iC (.str "x"))) [8]))
  (iSet 6 (iBin fIx (iLc false (iSrcL (iVar 7)) (giN 9) (iTest (iBin fNotIn (iVar 9) (iVar 3))) (iVar 9) [9]) (iC (.int 0))))) iNext) (iDrop (iBM "list" fApp (iVar 3) (iCons (iVar 6) iNil))))))) (iRet (iVar 3)))))))
/-- what is asked of a drawing expression: an int below m -/
def DrawsI (m : Int) (n : Nat) (e : IE) : Prop := ∀ (Λ : Slots) (S : Sto) (K : Nat), Λ[0]? = some (some (.adr n)) → Dr S n K → K ≤ 1000000 → ∃ r S', e Λ S = .ok (.int r) S' ∧ 0 ≤ r ∧ r < m ∧ Dr S' n (K + 1) ∧ Ext [n] S S'
def DrawsL (n : Nat) (e : IE) : Prop := ∀ (Λ : Slots) (S : Sto) (K : Nat), Λ[0]? = some (some (.adr n)) → Λ[2]? = some (some (.str alpha)) → Dr S n K → K ≤ 1000000 → ∃ c S', e Λ S = .ok (.str ⟨#[c]⟩) S' ∧ c ∈ sg alpha ∧ Dr S' n (K + 1) ∧ Ext [n] S S'
theorem spare_e {S : Sto} {Λ : Slots} {k : Nat} (hk : k < 26) (h2 : Λ[2]? = some (some (.str alpha))) (h8 : Λ[8]? = some (some (.int k))) :
    (iBin fAdd (iBin fAdd (iBin fIx (iVar 2) (iVar 8)) (iBin fIx (iVar 2) (iBin fSub (iC (.int 25)) (iVar 8)))) (iC (.str "x")) : IE) Λ S = .ok (.str (spareS k)) S := by
  have z : alpha.length ≤ sizeLine := by rw [alpha_len, szL]; decide
  have e1 : atI (sg alpha) (k : Int) = some (97 + k) := by
    refine atI_nat ?_
    have : (List.range 26).all (fun k => (sg alpha)[k]? == some (97 + k)) = true := by decide +kernel
    exact beq_iff_eq.mp (List.all_eq_true.mp this k (List.mem_range.mpr hk))
  have e2 : atI (sg alpha) (25 - (k : Int)) = some (122 - k) := by
    rw [show (25 : Int) - k = ((25 - k : Nat) : Int) by omega]
    refine atI_nat ?_
    have : (List.range 26).all (fun k => (sg alpha)[25 - k]? == some (122 - k)) = true := by decide +kernel
    exact beq_iff_eq.mp (List.all_eq_true.mp this k (List.mem_range.mpr hk))
  have l1 : (Str.mk #[97 + k]).length + (Str.mk #[122 - k]).length ≤ sizeLine := by rw [szL]; show 1 + 1 ≤ _; decide
  have l2 : ((⟨#[97 + k]⟩ : Str) ++ (⟨#[122 - k]⟩ : Str)).length + ("x" : Str).length ≤ sizeLine := by rw [szL, len_app]; show (1 + 1) + 1 ≤ _; decide
  have c1 : (25 : Int) - k ≤ 2 ^ 62 := by omega
  unfold spareS
  simp [iVar_s h2, iVar_s h8, z, chk_pos, e1, e2, l1, l2]
theorem letters_e {n : Nat} {elt : IE} (he : DrawsL n elt) {Λ : Slots} {S : Sto} {K : Nat} {r : Int} (h0 : Λ[0]? = some (some (.adr n))) (h2 : Λ[2]? = some (some (.str alpha))) (h5 : Λ[5]? = some (some (.int r))) (r0 : 0 ≤ r) (r1 : r ≤ 1000) (hd : Dr S n K) (hK : K ≤ 900000) :
    ∃ w S', iBM "str" fJoin (iC (.str "")) (iCons (iLc false (iSrcR1 (iVar 5)) (giN 8) iYes elt [8]) iNil) Λ S = .ok (.str w) S' ∧ Abc w ∧ (w.length : Int) = r ∧ Dr S' n (K + r.toNat) ∧ Ext [n] S S' := by
  have src : iSrcR1 (iVar 5) Λ S = .ok ⟨(List.range r.toNat).map fun i : Nat => IV.int i, none⟩ S := src_range (iVar_s h5) r0 (by omega)
  obtain ⟨ys, S', e1, e2, e3, e4⟩ := lc_inv (cell := false) (gi := giN 8) (te := elt) (vs := [8]) (Λ := Λ) (List.range r.toNat) (fun i : Nat => IV.int i) (fun j S2 => Dr S2 n (K + j) ∧ Ext [n] S S2) (fun v => ∃ z : Str, v = .str z ∧ z.length = 1 ∧ Abc z) src ⟨hd, .refl⟩
    (fun i S2 a ha ⟨d2, x2⟩ => by
      have hi : i < (List.range r.toNat).length := lt_some ha
      rw [List.length_range] at hi
      have g0 : ((wipeI Λ [8]).set 8 (some (IV.int a)))[0]? = some (some (.adr n)) := by
        show ((Λ.set 8 none).set 8 _)[0]? = _
        rw [List.getElem?_set_ne (by decide), List.getElem?_set_ne (by decide)]; exact h0
      have g2 : ((wipeI Λ [8]).set 8 (some (IV.int a)))[2]? = some (some (.str alpha)) := by
        show ((Λ.set 8 none).set 8 _)[2]? = _
        rw [List.getElem?_set_ne (by decide), List.getElem?_set_ne (by decide)]; exact h2
      obtain ⟨c, S3, f1, f2, f3, f4⟩ := he _ S2 _ g0 g2 d2 (by omega)
      exact ⟨_, _, S3, rfl, f1, ⟨⟨#[c]⟩, rfl, rfl, fun d hd => by
        have : d = c := by simpa [sg] using hd
        subst this; exact f2⟩, f3, x2.trans f4⟩) (by rw [List.length_range, szL]; omega)
  obtain ⟨zs, rfl, hz⟩ : ∃ zs : List Str, ys = zs.map IV.str ∧ ∀ z ∈ zs, z.length = 1 ∧ Abc z := by
    clear e1 e2 e4
    induction ys with
    | nil => exact ⟨[], rfl, fun _ h => by cases h⟩
    | cons y ys ih =>
      obtain ⟨zs, rfl, h2⟩ := ih fun y hy => e3 y (List.mem_cons_of_mem _ hy)
      obtain ⟨z, rfl, h3, h4⟩ := e3 y List.mem_cons_self
      exact ⟨z :: zs, rfl, fun u hu => (List.mem_cons.mp hu).elim (fun e => e ▸ ⟨h3, h4⟩) (h2 u)⟩
  rw [List.length_map, List.length_range] at e2
  rw [List.length_range] at e4
  rw [mkL_f, chk_pos (by rw [List.length_map, szL]; omega)] at e1
  refine ⟨_, S', join_e e1 (fun z h => (hz z h).1) (by omega), fun c hc => ?_, ?_, e4.1, e4.2⟩
  · rw [sg_join0] at hc
    obtain ⟨l, hl, hc⟩ := List.mem_flatten.mp hc
    obtain ⟨z, hz1, rfl⟩ := List.mem_map.mp hl
    exact (hz z hz1).2 c hc
  · rw [join_len, sum_ones fun z h => (hz z h).1, e2]
    omega
theorem kept_e : keptA.map IV.str ++ keptB.map IV.str = keptL.map IV.str := by rw [← List.map_append]; rfl
theorem pool_ok {n : Nat} {draw elt : IE} (hd : DrawsI 5 n draw) (he : DrawsL n elt) {S : Sto} {K : Nat} (h : Dr S n K) (hK : K ≤ 800000) :
    ∃ ps S', mDef 10 (poolB draw elt) [.adr n] S = .ok (.adr S.length) S' ∧ S'[S.length]? = some (.lst (ps.map IV.str)) ∧ ps.length = 12 ∧ Pool ps keptL ∧ Dr S' n (K + 72) ∧ Ext [n] S S' := by
  have z13 : (13 : Nat) ≤ sizeLine := by rw [szL]; decide
  have z11 : (11 : Nat) ≤ sizeLine := by rw [szL]; decide
  have z24 : (24 : Nat) ≤ sizeLine := by rw [szL]; decide
  have hn := h.lt
  let p := S.length
  let Λs : Option IV → Option IV → Option IV → Option IV → Slots := fun a b c d => [some (.adr n), some (.lst (keptL.map IV.str)), some (.str alpha), some (.adr p), a, b, c, d, none, none]
  have src : iSrcR1 (iC (.int 12)) (Λs none none none none) (S ++ [.lst []]) = .ok ⟨(List.range 12).map fun i : Nat => IV.int i, none⟩ (S ++ [.lst []]) := src_range (j := 12) rfl (by decide) (by decide)
  obtain ⟨Λ', S', e1, ⟨a, b, c, d, rfl⟩, ps, g1, g2, g3, g4, g5⟩ := for_inv (Λ := Λs none none none none) (g := iName 4) (b := iSeq (iSet 5 (iBin fAdd (iC (.int 1)) draw)) (iSeq (iSet 6 (iBM "str" fJoin (iC (.str "")) (iCons (iLc false (iSrcR1 (iVar 5)) (giN 8) iYes elt [8]) iNil)))
      (iSeq (iIf (iOr (iTest (iBin fIn (iVar 6) (iVar 1))) (iTest (iBin fIn (iVar 6) (iVar 3)))) (iSeq (iSet 7 (iLc false (iSrcR1 (iC (.int 26))) (giN 8) iYes (iBin fAdd (iBin fAdd (iBin fIx (iVar 2) (iVar 8)) (iBin fIx (iVar 2) (iBin fSub (iC (.int 25)) (iVar 8)))) (iC (.str "x"))) [8]))
        (iSet 6 (iBin fIx (iLc false (iSrcL (iVar 7)) (giN 9) (iTest (iBin fNotIn (iVar 9) (iVar 3))) (iVar 9) [9]) (iC (.int 0))))) iNext) (iDrop (iBM "list" fApp (iVar 3) (iCons (iVar 6) iNil))))))
    (List.range 12) (fun i : Nat => IV.int i) (fun i Λ S1 => (∃ a b c d, Λ = Λs a b c d) ∧ ∃ ps, S1[p]? = some (.lst (ps.map IV.str)) ∧ ps.length = i ∧ Pool ps keptL ∧ Dr S1 n (K + 6 * i) ∧ Ext [n] S S1) src
    ⟨⟨_, _, _, _, rfl⟩, [], get_new _ _, rfl, ⟨fun _ z => (by cases z), fun _ z => (by cases z), fun _ z => (by cases z), List.nodup_nil⟩, h.ext (.app _) (ds := []), .app _⟩ (fun _ _ _ _ => trivial) (by
      rintro i Λ S1 x hx ⟨⟨a, b, c, d, rfl⟩, ps, g1, g2, g3, g4, g5⟩
      have hi : i < 12 := by have := lt_some hx; rwa [List.length_range] at this
      have pl : p < S1.length := lt_some g1
      have np : p ≠ n := by show S.length ≠ n; omega
      obtain ⟨r, S2, f1, r0, r1, d2, x2⟩ := hd (Λs (some (.int x)) b c d) S1 _ rfl g4 (by omega)
      have t5 : iBin fAdd (iC (.int 1)) draw (Λs (some (.int x)) b c d) S1 = .ok (.int (1 + r)) S2 := by simp [f1]
      obtain ⟨w, S3, f3, wa, wl, d3, x3⟩ := letters_e he (Λ := Λs (some (.int x)) (some (.int (1 + r))) c d) rfl rfl rfl (by omega) (by omega) d2 (by omega)
      have x13 := x2.trans x3
      have q3 := x13.get g1 (by simp [np])
      have hin : iOr (iTest (iBin fIn (iVar 6) (iVar 1))) (iTest (iBin fIn (iVar 6) (iVar 3))) (Λs (some (.int x)) (some (.int (1 + r))) (some (.str w)) d) S3 = .ok (decide (w ∈ keptL ∨ w ∈ ps)) S3 := by
        have i1 : iVar 6 (Λs (some (.int x)) (some (.int (1 + r))) (some (.str w)) d) S3 = .ok (.str w) S3 := iVar_s rfl
        have i2 : iVar 1 (Λs (some (.int x)) (some (.int (1 + r))) (some (.str w)) d) S3 = .ok (.lst (keptL.map IV.str)) S3 := iVar_s rfl
        have i3 : iVar 3 (Λs (some (.int x)) (some (.int (1 + r))) (some (.str w)) d) S3 = .ok (.adr p) S3 := iVar_s rfl
        simp only [iOr_e, iTest_e, iBin_e, i1, i2, i3, Out.bind_ok, fIn_e, inB_lst, inB_a w ps q3, orBad_some, asB_b]
        by_cases k1 : w ∈ keptL
        · simp [k1]
        · simp [k1]
      have fin : ∃ v Λ4, (iIf (iOr (iTest (iBin fIn (iVar 6) (iVar 1))) (iTest (iBin fIn (iVar 6) (iVar 3)))) (iSeq (iSet 7 (iLc false (iSrcR1 (iC (.int 26))) (giN 8) iYes (iBin fAdd (iBin fAdd (iBin fIx (iVar 2) (iVar 8)) (iBin fIx (iVar 2) (iBin fSub (iC (.int 25)) (iVar 8)))) (iC (.str "x"))) [8]))
          (iSet 6 (iBin fIx (iLc false (iSrcL (iVar 7)) (giN 9) (iTest (iBin fNotIn (iVar 9) (iVar 3))) (iVar 9) [9]) (iC (.int 0))))) iNext : IS) (Λs (some (.int x)) (some (.int (1 + r))) (some (.str w)) d) S3 = .ok (.nx Λ4) S3 ∧ (∃ d', Λ4 = Λs (some (.int x)) (some (.int (1 + r))) (some (.str v)) d') ∧ Abc v ∧ (1 ≤ v.length ∧ v.length ≤ 5) ∧ v ∉ keptL ∧ v ∉ ps := by
        by_cases hk : w ∈ keptL ∨ w ∈ ps
        · rw [decide_eq_true hk] at hin
          rw [if_tt hin]
          have m1 : iLc false (iSrcR1 (iC (.int 26))) (giN 8) iYes (iBin fAdd (iBin fAdd (iBin fIx (iVar 2) (iVar 8)) (iBin fIx (iVar 2) (iBin fSub (iC (.int 25)) (iVar 8)))) (iC (.str "x"))) [8] (Λs (some (.int x)) (some (.int (1 + r))) (some (.str w)) d) S3 = .ok (.lst (spareL.map IV.str)) S3 := by
            rw [lc_map (List.range 26) (fun i : Nat => IV.int i) (fun _ => true) (fun k => .str (spareS k)) (src_range (j := 26) rfl (by decide) (by decide)) trivial (fun k hk => ⟨_, rfl, rfl, fun _ => spare_e (List.mem_range.mp hk) rfl rfl⟩) (by rw [List.length_range, szL]; decide)]
            rw [mkL_f, chk_pos (by rw [List.length_map, szL]; decide)]
            congr 2
          have m2 : iLc false (iSrcL (iVar 7)) (giN 9) (iTest (iBin fNotIn (iVar 9) (iVar 3))) (iVar 9) [9] (Λs (some (.int x)) (some (.int (1 + r))) (some (.str w)) (some (.lst (spareL.map IV.str)))) S3 = .ok (.lst ((spareL.filter fun s => !decide (s ∈ ps)).map IV.str)) S3 := by
            rw [lc_map spareL IV.str (fun s => !decide (s ∈ ps)) IV.str (k := none) (S1 := S3) (by rw [iSrcL_e, iVar_s (x := .lst (spareL.map IV.str)) rfl]; rfl) trivial (fun s hs => ⟨_, rfl, by
              have i1 : iVar 9 ((wipeI (Λs (some (.int x)) (some (.int (1 + r))) (some (.str w)) (some (.lst (spareL.map IV.str)))) [9]).set 9 (some (.str s))) S3 = .ok (.str s) S3 := iVar_s rfl
              have i3 : iVar 3 ((wipeI (Λs (some (.int x)) (some (.int (1 + r))) (some (.str w)) (some (.lst (spareL.map IV.str)))) [9]).set 9 (some (.str s))) S3 = .ok (.adr p) S3 := iVar_s rfl
              simp only [iTest_e, iBin_e, i1, i3, Out.bind_ok, fNotIn_e, inB_a s ps q3, orBad_some, asB_b], fun _ => iVar_s rfl⟩) (by rw [szL]; decide)]
            rw [mkL_f, chk_pos (by rw [List.length_map, szL]; have := List.length_filter_le (fun s => !decide (s ∈ ps)) spareL; have : spareL.length = 26 := rfl; omega)]
          have ne := one_free spareL ps spare_nd (by rw [g2]; show i < 26; omega)
          cases hf : spareL.filter fun s => !decide (s ∈ ps) with
          | nil => exact absurd hf ne
          | cons v vs =>
            have hv : v ∈ spareL.filter fun s => !decide (s ∈ ps) := by rw [hf]; exact List.mem_cons_self
            obtain ⟨v1, v2⟩ := List.mem_filter.mp hv
            obtain ⟨s1, s2, s3⟩ := spare_mem v1
            refine ⟨v, Λs (some (.int x)) (some (.int (1 + r))) (some (.str v)) (some (.lst (spareL.map IV.str))), ?_, ⟨_, rfl⟩, s2, by omega, s3, by simpa using v2⟩
            rw [sq_ok (st_ok m1)]
            refine (st_ok (v := .str v) (S1 := S3) ?_).trans rfl
            rw [hf] at m2
            rw [iBin_e]
            show Out.bind (iLc false (iSrcL (iVar 7)) (giN 9) (iTest (iBin fNotIn (iVar 9) (iVar 3))) (iVar 9) [9] (Λs (some (.int x)) (some (.int (1 + r))) (some (.str w)) (some (.lst (spareL.map IV.str)))) S3) _ = _
            rw [m2]
            simp
        · rw [decide_eq_false hk] at hin
          rw [if_ff hin]
          exact ⟨w, _, rfl, ⟨d, rfl⟩, wa, by omega, fun z => hk (.inl z), fun z => hk (.inr z)⟩
      obtain ⟨v, Λ4, u1, ⟨d', rfl⟩, u3, u4, u5, u6⟩ := fin
      have i6 : iVar 6 (Λs (some (.int x)) (some (.int (1 + r))) (some (.str v)) d') S3 = .ok (.str v) S3 := iVar_s rfl
      have i3 : iVar 3 (Λs (some (.int x)) (some (.int (1 + r))) (some (.str v)) d') S3 = .ok (.adr p) S3 := iVar_s rfl
      have t8 := app_e i3 i6 q3 q3 (by rw [List.length_map]; omega)
      have x4 : Ext [n] S (S3.set p (.lst (ps.map IV.str ++ [.str v]))) := (g5.trans x13).trans' (.set (ds := [p]) (.inl (by simp))) fun e he => .inr (Nat.le_of_eq (List.mem_singleton.mp he).symm)
      refine ⟨_, S1, _, _, rfl, ((sq_ok (st_ok t5)).trans ((sq_ok (st_ok f3)).trans ((sq_ok u1).trans (dr_ok t8)))), ⟨_, _, _, _, rfl⟩, ps ++ [v], ?_, ?_, ⟨fun y hy => ?_, fun y hy => ?_, fun y hy => ?_, ?_⟩, ?_, x4⟩
      · rw [List.map_append]; exact get_setS q3 _
      · rw [List.length_append, g2, List.length_singleton]
      · exact (List.mem_append.mp hy).elim (g3.abc y) fun e => (List.mem_singleton.mp e) ▸ u3
      · exact (List.mem_append.mp hy).elim (g3.len y) fun e => (List.mem_singleton.mp e) ▸ u4
      · exact (List.mem_append.mp hy).elim (g3.nk y) fun e => (List.mem_singleton.mp e) ▸ u5
      · rw [List.nodup_append]
        exact ⟨g3.nd, by simp, fun a ha b hb => by rw [List.mem_singleton.mp hb]; exact fun e => u6 (e ▸ ha)⟩
      · exact (d3.up (by omega)).ext (.set (ds := [p]) (.inl (by simp))) (by simp [Ne.symm np]))
  rw [List.length_range] at g2 g4
  refine ⟨ps, S', ?_, g1, g2, g3, g4, g5⟩
  refine mDef_rt ?_
  have s1 : iLst false (iCons (iC (.str "ahead")) (iCons (iC (.str "all")) (iCons (iC (.str "as")) (iCons (iC (.str "at")) (iCons (iC (.str "call")) (iCons (iC (.str "class")) (iCons (iC (.str "def")) (iCons (iC (.str "end")) (iCons (iC (.str "for")) (iCons (iC (.str "from")) (iCons (iC (.str "keep")) (iCons (iC (.str "none")) (iCons (iC (.str "often")) iNil))))))))))))) [some (.adr n), none, none, none, none, none, none, none, none, none] S = .ok (.lst (keptA.map IV.str)) S := by
    simp only [iLst_e, iCons_e, iC_e, iNil_e, Out.bind_ok, mkL_f]
    rw [chk_pos (by exact z13)]
    rfl
  have s2 : iBin fAdd (iVar 1) (iLst false (iCons (iC (.str "once")) (iCons (iC (.str "or")) (iCons (iC (.str "patch")) (iCons (iC (.str "set")) (iCons (iC (.str "stand")) (iCons (iC (.str "start")) (iCons (iC (.str "stop")) (iCons (iC (.str "table")) (iCons (iC (.str "test")) (iCons (iC (.str "using")) (iCons (iC (.str "with")) iNil)))))))))))) [some (.adr n), some (.lst (keptA.map IV.str)), none, none, none, none, none, none, none, none] S = .ok (.lst (keptL.map IV.str)) S := by
    have i1 : iVar 1 [some (.adr n), some (.lst (keptA.map IV.str)), none, none, none, none, none, none, none, none] S = .ok (.lst (keptA.map IV.str)) S := iVar_s rfl
    simp only [iBin_e, i1, iLst_e, iCons_e, iC_e, iNil_e, Out.bind_ok, mkL_f]
    rw [chk_pos (by exact z11)]
    show mkF (keptA.map IV.str ++ keptB.map IV.str) S = _
    rw [kept_e, mkF_e, chk_pos (by exact z24)]
  show poolB draw elt [some (.adr n), none, none, none, none, none, none, none, none, none] S = _
  unfold poolB
  refine (sq_ok (st_ok s1)).trans ((sq_ok (st_ok s2)).trans ((sq_ok (st_ok (v := .str alpha) rfl)).trans ((sq_ok (Λ1 := Λs none none none none) (S1 := S ++ [.lst []]) (st_ok (v := .adr p) ?_)).trans ((sq_ok e1).trans (rt_ok (iVar_s rfl))))))
  simp only [iLst_e, iNil_e, Out.bind_ok, mkL_t]
  rw [chk_pos (by exact Nat.zero_le _)]
end Lw
set_option maxHeartbeats 2000000
/-! merging rows: the program's way and the law's -/
namespace Lw
open PySem PySem.Spec PyProof.Rows L2 Sm
def enR (r : List Str) : IV := .lst (r.map IV.str)
/-- a row that is not empty -/
abbrev NR := Str × List Str
def enN (p : NR) : IV := enR (p.1 :: p.2)
def toN : List (List Str) → List NR
  | [] => []
  | [] :: r => toN r
  | (h :: t) :: r => (h, t) :: toN r
def tailsIn (rs : List NR) (s : Str) : Bool := rs.any fun q => decide (s ∈ q.2)
def firstP (rs : List NR) : Option Str := (rs.find? fun p => !tailsIn rs p.1).map (·.1)
def cutP (f : Str) (p : NR) : List Str := if p.1 = f then p.2 else p.1 :: p.2
def stepR (f : Str) (rs : List NR) : List NR := toN (rs.map (cutP f))
def mergeP : Nat → List NR → List Str → List Str × List NR
  | 0, rs, acc => (acc, rs)
  | n + 1, rs, acc => if rs = [] then (acc, []) else match firstP rs with
    | none => (acc, rs)
    | some f => mergeP n (stepR f rs) (acc ++ [f])
def sizeP : List NR → Nat
  | [] => 0
  | p :: r => p.2.length + 1 + sizeP r
theorem toN_map (rs : List (List Str)) : (toN rs).map enN = (rs.filter fun r => decide (0 < r.length)).map enR := by
  induction rs with
  | nil => rfl
  | cons r rs ih =>
    cases r with
    | nil => rw [toN, ih]; rfl
    | cons h t =>
      rw [toN, List.map_cons, ih, List.filter_cons]
      rfl
theorem firstP_mem {rs : List NR} {f : Str} (h : firstP rs = some f) : ∃ t, (f, t) ∈ rs ∧ tailsIn rs f = false := by
  unfold firstP at h
  obtain ⟨p, h1, h2⟩ := Option.map_eq_some_iff.mp h
  have h3 := List.find?_some h1
  have h4 := List.mem_of_find?_eq_some h1
  obtain ⟨a, b⟩ := p
  have h2 : a = f := h2
  subst h2
  exact ⟨b, h4, by simpa using h3⟩
theorem sizeP_cut (f : Str) : ∀ rs : List NR, sizeP (toN (rs.map (cutP f))) ≤ sizeP rs ∧ ((∃ t, (f, t) ∈ rs) → sizeP (toN (rs.map (cutP f))) < sizeP rs)
  | [] => ⟨Nat.le_refl _, fun ⟨_, h⟩ => by cases h⟩
  | (a, t) :: rs => by
    obtain ⟨h1, h2⟩ := sizeP_cut f rs
    by_cases ha : a = f
    · have : sizeP (toN (((a, t) :: rs).map (cutP f))) ≤ t.length + sizeP rs := by
        rw [List.map_cons]
        unfold cutP
        rw [if_pos ha]
        cases t with
        | nil => rw [toN]; exact Nat.le_trans h1 (Nat.le_add_left _ _)
        | cons x xs => rw [toN, sizeP]; show xs.length + 1 + _ ≤ _; rw [List.length_cons]; exact Nat.add_le_add_left h1 _
      refine ⟨?_, fun _ => ?_⟩ <;> (show _ ≤ t.length + 1 + sizeP rs; omega)
    · have : sizeP (toN (((a, t) :: rs).map (cutP f))) = t.length + 1 + sizeP (toN (rs.map (cutP f))) := by
        rw [List.map_cons]
        conv => lhs; unfold cutP; rw [if_neg ha]
        rw [toN, sizeP]
        rfl
      refine ⟨by rw [this]; show _ ≤ t.length + 1 + sizeP rs; omega, fun ⟨u, hu⟩ => ?_⟩
      have hu : (f, u) ∈ rs := by
        rcases List.mem_cons.mp hu with e | e
        · cases e; exact absurd rfl ha
        · exact e
      have := h2 ⟨u, hu⟩
      rw [‹sizeP _ = _›]
      show _ < t.length + 1 + sizeP rs
      omega
theorem sizeP_step {f : Str} {rs : List NR} (h : firstP rs = some f) : sizeP (stepR f rs) < sizeP rs := by
  obtain ⟨t, h1, _⟩ := firstP_mem h
  exact (sizeP_cut f rs).2 ⟨t, h1⟩
theorem cut1 {α : Type} (x : α) (xs : List α) : HT.sIx (x :: xs).length 0 (some 1) = 1 := by
  show min 1 (xs.length + 1) = 1
  omega
theorem cutI1 (x : IV) (xs : List IV) : cutI (x :: xs) (some 1) none = xs := by
  unfold cutI
  rw [cut1]
  show (xs).take ((xs.length + 1) - 1) = xs
  rw [Nat.add_sub_cancel, List.take_length]
/-- sizes -/
structure RsOk (rs : List NR) : Prop where
  n : rs.length ≤ 100000
  r : ∀ p ∈ rs, p.2.length ≤ 100000 ∧ okS p.1 ∧ ∀ s ∈ p.2, okS s
theorem toN_mem {p : NR} : ∀ {rs : List (List Str)}, p ∈ toN rs → p.1 :: p.2 ∈ rs
  | [], h => by cases h
  | [] :: rs, h => List.mem_cons_of_mem _ (toN_mem (show p ∈ toN rs from h))
  | (a :: t) :: rs, h => by
    rcases List.mem_cons.mp (show p ∈ (a, t) :: toN rs from h) with e | e
    · subst e; exact List.mem_cons_self
    · exact List.mem_cons_of_mem _ (toN_mem e)
theorem toN_len : ∀ rs : List (List Str), (toN rs).length ≤ rs.length
  | [] => Nat.le_refl _
  | [] :: rs => Nat.le_succ_of_le (toN_len rs)
  | (a :: t) :: rs => Nat.succ_le_succ (toN_len rs)
theorem RsOk.step {rs : List NR} (h : RsOk rs) (f : Str) : RsOk (stepR f rs) := by
  refine ⟨Nat.le_trans (toN_len _) (by rw [List.length_map]; exact h.n), fun p hp => ?_⟩
  have := toN_mem hp
  obtain ⟨q, h1, h2⟩ := List.mem_map.mp this
  obtain ⟨g1, g2, g3⟩ := h.r q h1
  unfold cutP at h2
  split at h2
  · rw [h2] at g1 g3
    exact ⟨by rw [List.length_cons] at g1; omega, g3 _ List.mem_cons_self, fun s hs => g3 s (List.mem_cons_of_mem _ hs)⟩
  · injection h2 with e1 e2
    rw [← e1, ← e2]
    exact ⟨g1, g2, g3⟩
/-! ### the program: the first free item -/
noncomputable def ffB : IS := (iSeq (iFor (iSrcL (iVar 0)) (iName 1) (iIf (iNot (iTru (iCa fAny (iCons (iLc false (iSrcL (iVar 0)) (giN 2) iYes (iBin fIn (iBin fIx (iVar 1) (iC (.int 0))) (iSl false (iVar 2) (iPart (iC (.int 1))) iNoPart)) [2]) iNil)))) (iRet (iBin fIx (iVar 1) (iC (.int 0)))) iNext)) (iRet (iC .non)))
theorem blsOf_map : ∀ bs : List Bool, blsOf (bs.map IV.bl) = some bs
  | [] => rfl
  | b :: bs => by show (blsOf (bs.map IV.bl)).map (b :: ·) = _; rw [blsOf_map bs]; rfl
theorem src_cell {Λ : Slots} {S : Sto} {i l : Nat} {xs : List IV} (h : Λ[i]? = some (some (.adr l))) (hl : S[l]? = some (.lst xs)) : iSrcL (iVar i) Λ S = .ok ⟨xs, some l⟩ S := by
  rw [iSrcL_e, iVar_s h]
  show fSrcL (.adr l) S = _
  unfold fSrcL
  simp only [hl]
def ivO : Option Str → IV
  | none => .non
  | some s => .str s
theorem ff_ok {S : Sto} {l : Nat} {rs : List NR} (hl : S[l]? = some (.lst (rs.map enN))) (ok : RsOk rs) : mDef 3 ffB [.adr l] S = .ok (ivO (firstP rs)) S := by
  have turn : ∀ (p : NR), iIf (iNot (iTru (iCa fAny (iCons (iLc false (iSrcL (iVar 0)) (giN 2) iYes (iBin fIn (iBin fIx (iVar 1) (iC (.int 0))) (iSl false (iVar 2) (iPart (iC (.int 1))) iNoPart)) [2]) iNil)))) (iRet (iBin fIx (iVar 1) (iC (.int 0)))) iNext [some (.adr l), some (enN p), none] S =
      if tailsIn rs p.1 = true then .ok (.nx [some (.adr l), some (enN p), none]) S else .ok (.rt (.str p.1)) S := fun p => by
    have ix : ∀ u, iBin fIx (iVar 1) (iC (.int 0)) [some (.adr l), some (enN p), u] S = .ok (.str p.1) S := fun u => by
      have i1 : iVar 1 [some (.adr l), some (enN p), u] S = .ok (enN p) S := iVar_s rfl
      rw [iBin_e, i1]
      show orBad (atI ((p.1 :: p.2).map IV.str) 0) _ = _
      rw [List.map_cons, atI_0]
      rfl
    have lc : iLc false (iSrcL (iVar 0)) (giN 2) iYes (iBin fIn (iBin fIx (iVar 1) (iC (.int 0))) (iSl false (iVar 2) (iPart (iC (.int 1))) iNoPart)) [2] [some (.adr l), some (enN p), none] S = .ok (.lst ((rs.map fun q => decide (p.1 ∈ q.2)).map IV.bl)) S := by
      rw [lc_map rs enN (fun _ => true) (fun q => .bl (decide (p.1 ∈ q.2))) (src_cell rfl hl) hl (fun q hq => ⟨_, rfl, rfl, fun _ => by
        show iBin fIn _ _ [some (.adr l), some (enN p), some (enN q)] S = _
        have sl : iSl false (iVar 2) (iPart (iC (.int 1))) iNoPart [some (.adr l), some (enN p), some (enN q)] S = .ok (.lst (q.2.map IV.str)) S := by
          have i2 : iVar 2 [some (.adr l), some (enN p), some (enN q)] S = .ok (enN q) S := iVar_s rfl
          rw [iSl_e, i2]
          show fSl false (.lst ((q.1 :: q.2).map IV.str)) (some 1) none S = _
          rw [fSl_l, List.map_cons, cutI1, mkL_f, chk_pos (by rw [List.length_map, szL]; have := (ok.r q hq).1; omega)]
        rw [iBin_e, ix, Out.bind_ok, sl, Out.bind_ok, fIn_e, inB_lst]
        rfl⟩) (by rw [szL]; have := ok.n; omega)]
      rw [mkL_f, chk_pos (by rw [List.length_map, szL]; have := ok.n; have := List.length_filter_le (fun _ : NR => true) rs; omega)]
      rw [List.filter_eq_self.mpr fun _ _ => rfl, List.map_map]
      rfl
    have any : iNot (iTru (iCa fAny (iCons (iLc false (iSrcL (iVar 0)) (giN 2) iYes (iBin fIn (iBin fIx (iVar 1) (iC (.int 0))) (iSl false (iVar 2) (iPart (iC (.int 1))) iNoPart)) [2]) iNil))) [some (.adr l), some (enN p), none] S = .ok (!tailsIn rs p.1) S := by
      rw [iNot_e, iTru_e, iCa_e, iCons_e, lc]
      simp only [Out.bind_ok, iNil_e]
      unfold fAny
      rw [a1_1]
      show (Out.bind (Out.bind (orBad (blsOf ((rs.map fun q => decide (p.1 ∈ q.2)).map IV.bl)) _) _) _) = _
      rw [blsOf_map]
      simp only [orBad_some, Out.bind_ok, truB_bl]
      unfold tailsIn
      rw [List.any_map]
      rfl
    cases ht : tailsIn rs p.1 with
    | true => rw [ht] at any; rw [if_ff any]; rfl
    | false => rw [ht] at any; rw [if_tt any, rt_ok (ix none)]; rfl
  have src := src_cell (Λ := [some (.adr l), none, none]) (i := 0) rfl hl
  have go := for_gen (ms := iSrcL (iVar 0)) (g := iName 1) (b := iIf (iNot (iTru (iCa fAny (iCons (iLc false (iSrcL (iVar 0)) (giN 2) iYes (iBin fIn (iBin fIx (iVar 1) (iC (.int 0))) (iSl false (iVar 2) (iPart (iC (.int 1))) iNoPart)) [2]) iNil)))) (iRet (iBin fIx (iVar 1) (iC (.int 0)))) iNext)
    rs enN (fun i Λ S' => S' = S ∧ (∃ x, Λ = [some (.adr l), x, none]) ∧ ∀ j p, j < i → rs[j]? = some p → tailsIn rs p.1 = true) (fun o => ∃ f, o = .ok (.rt (.str f)) S ∧ firstP rs = some f) src ⟨rfl, ⟨_, rfl⟩, fun j p h => by omega⟩ (fun i Λ S' ⟨e, _⟩ => by subst e; exact hl)
    (by
      rintro i Λ S' p hp ⟨rfl, ⟨x, rfl⟩, hj⟩
      refine ⟨_, S', rfl, ?_⟩
      show _ ∨ (Left (iIf _ _ _ [some (.adr l), some (enN p), none] S') ∧ _)
      have t := turn p
      cases ht : tailsIn rs p.1 with
      | true =>
        left
        rw [ht, if_pos rfl] at t
        refine ⟨_, S', .inl t, rfl, ⟨_, rfl⟩, fun j q hlt hq => ?_⟩
        by_cases h : j = i
        · subst h; rw [hp] at hq; cases hq; exact ht
        · exact hj j q (by omega) hq
      | false =>
        right
        rw [ht, if_neg Bool.false_ne_true] at t
        have e : iName 1 (enN p) [some (.adr l), x, none] S' = .ok [some (.adr l), some (enN p), none] S' := rfl
        refine ⟨by show Left (iIf _ _ _ [some (.adr l), some (enN p), none] S'); rw [t]; exact .rt _ _, p.1, t, ?_⟩
        have : rs.find? (fun p => !tailsIn rs p.1) = some p := by
          rw [List.find?_eq_some_iff_getElem]
          refine ⟨by rw [ht]; rfl, i, (List.getElem?_eq_some_iff.mp hp).1, (List.getElem?_eq_some_iff.mp hp).2, fun j hlt => ?_⟩
          rw [hj j _ hlt (List.getElem?_eq_getElem _)]
          rfl
        unfold firstP
        rw [this]
        rfl)
  refine mDef_rt ?_
  show ffB [some (.adr l), none, none] S = _
  unfold ffB
  rcases go with ⟨Λ', S', e1, rfl, ⟨x, rfl⟩, h3⟩ | ⟨_, f, e1, e2⟩
  · rw [sq_ok e1]
    have : firstP rs = none := by
      unfold firstP
      rw [Option.map_eq_none_iff, List.find?_eq_none]
      intro p hp
      obtain ⟨j, hj⟩ := List.getElem?_of_mem hp
      rw [h3 j p (lt_some hj) hj]
      simp
    rw [this]
    rfl
  · rw [sq_rt e1, e2]
    rfl
/-! ### the program: merge -/
noncomputable def mgBody (ff : List IV → Sto → Out IV) : IS := (iSeq (iSet 3 (iCall 1 ff (iCons (iVar 1) iNil))) (iSeq (iIf (iTest (iBin gIsN (iVar 3) (iC .non))) (iRaise "NoOrder" "rows" (iCons (iVar 1) iNil)) iNext) (iSeq (iDrop (iBM "list" fApp (iVar 2) (iCons (iVar 3) iNil)))
  (iSeq (iSet 4 (iLc false (iSrcL (iVar 1)) (giN 5) iYes (iIf (iTest (iBin fEq (iBin fIx (iVar 5) (iC (.int 0))) (iVar 3))) (iSl false (iVar 5) (iPart (iC (.int 1))) iNoPart) (iVar 5)) [5])) (iSet 1 (iLc true (iSrcL (iVar 4)) (giN 5) (iTest (iBin fGt (iCa fLen (iCons (iVar 5) iNil)) (iC (.int 0)))) (iVar 5) [5]))))))
noncomputable def mgB (ff : List IV → Sto → Out IV) : IS := (iSeq (iSet 1 (iLc true (iSrcL (iVar 0)) (giN 5) (iTest (iBin fGt (iCa fLen (iCons (iVar 5) iNil)) (iC (.int 0)))) (iCa (fList false) (iCons (iVar 5) iNil)) [5])) (iSeq (iSet 2 (iLst true iNil)) (iSeq (iWhile (iTru (iVar 1)) (mgBody ff)) (iRet (iVar 2)))))
/-- where merging ends: the list, or the exception with the rows that are left; ds: the cells that stood before -/
def Ended (S0 : Sto) (R : List Str × List NR) (o : Out Fl) : Prop :=
  (R.2 = [] ∧ ∃ Λ' S' t, o = .ok (.nx Λ') S' ∧ Λ'[2]? = some (some (.adr t)) ∧ S'[t]? = some (.lst (R.1.map IV.str)) ∧ S0.length ≤ t ∧ Ext [] S0 S') ∨
  (R.2 ≠ [] ∧ ∃ n Λ' S' l, o = .exc "NoOrder" n Λ' S' ∧ S'[n]? = some (.xd [("rows", .adr l)]) ∧ S'[l]? = some (.lst (R.2.map enN)) ∧ S0.length ≤ l ∧ Ext [] S0 S')
theorem eqB_str {S : Sto} (a b : Str) : eqB S (.str a) (.str b) = some (decide (a = b)) := rfl
theorem enN_cut {S : Sto} {Λ : Slots} {f : Str} {q : NR} (h5 : Λ[5]? = some (some (enN q))) (h3 : Λ[3]? = some (some (.str f))) (hl : q.2.length ≤ 100000) :
    iIf (iTest (iBin fEq (iBin fIx (iVar 5) (iC (.int 0))) (iVar 3))) (iSl false (iVar 5) (iPart (iC (.int 1))) iNoPart) (iVar 5) Λ S = .ok (enR (cutP f q)) S := by
  have i5 : iVar 5 Λ S = .ok (enN q) S := iVar_s h5
  have t : iTest (iBin fEq (iBin fIx (iVar 5) (iC (.int 0))) (iVar 3)) Λ S = .ok (decide (q.1 = f)) S := by
    rw [iTest_e, iBin_e, iBin_e, i5]
    show Out.bind (Out.bind (orBad (atI ((q.1 :: q.2).map IV.str) 0) fun v => Out.ok v S) fun x S1 => (iVar 3 Λ S1).bind fun y S2 => fEq x y S2) _ = _
    rw [List.map_cons, atI_0, orBad_some, Out.bind_ok, iVar_s h3, Out.bind_ok, fEq_e, eqB_str]
    rfl
  unfold cutP
  by_cases hq : q.1 = f
  · rw [decide_eq_true hq] at t
    rw [if_tt t, if_pos hq, iSl_e, i5]
    show fSl false (.lst ((q.1 :: q.2).map IV.str)) (some 1) none S = _
    rw [fSl_l, List.map_cons, cutI1, mkL_f, chk_pos (by rw [List.length_map, szL]; omega)]
    rfl
  · rw [decide_eq_false hq] at t
    rw [if_ff t, if_neg hq, i5]
    rfl
theorem long_t {S : Sto} {Λ : Slots} {i : Nat} {r : List Str} (h : Λ[i]? = some (some (enR r))) : iTest (iBin fGt (iCa fLen (iCons (iVar i) iNil)) (iC (.int 0))) Λ S = .ok (decide (0 < r.length)) S := by
  have i5 : iVar i Λ S = .ok (enR r) S := iVar_s h
  rw [iTest_e, iBin_e, iCa_e, iCons_e, i5]
  simp only [Out.bind_ok, iNil_e, fLen_e, iC_e]
  show Out.bind (Out.bind (orBad (some (r.map IV.str).length) _) _) _ = _
  rw [orBad_some, Out.bind_ok]
  show Out.ok (decide ((0 : Int) < ((r.map IV.str).length : Int))) S = _
  rw [List.length_map]
  congr 1
  simp
theorem merge_while {ff : List IV → Sto → Out IV} (hff : ∀ (S : Sto) (l : Nat) (rs : List NR), S[l]? = some (.lst (rs.map enN)) → RsOk rs → ff [.adr l] S = .ok (ivO (firstP rs)) S) {S0 : Sto} {R : List Str × List NR} (m : Nat) (Λ : Slots) (S : Sto)
    (h : ∃ rs acc x0 l t x3 x4, Λ = [x0, some (.adr l), some (.adr t), x3, x4, none] ∧ S[l]? = some (.lst (rs.map enN)) ∧ S[t]? = some (.lst (acc.map IV.str)) ∧ l ≠ t ∧ sizeP rs = m ∧ RsOk rs ∧ acc.length + m ≤ 100000 ∧ S0.length ≤ l ∧ S0.length ≤ t ∧ Ext [] S0 S ∧ mergeP (m + 1) rs acc = R) :
    Ended S0 R (iWhile (iTru (iVar 1)) (mgBody ff) Λ S) := by
  refine while_gen (fun m Λ S => ∃ rs acc x0 l t x3 x4, Λ = [x0, some (.adr l), some (.adr t), x3, x4, none] ∧ S[l]? = some (.lst (rs.map enN)) ∧ S[t]? = some (.lst (acc.map IV.str)) ∧ l ≠ t ∧ sizeP rs = m ∧ RsOk rs ∧ acc.length + m ≤ 100000 ∧ S0.length ≤ l ∧ S0.length ≤ t ∧ Ext [] S0 S ∧ mergeP (m + 1) rs acc = R) (Ended S0 R)
    (fun z => by rcases z with ⟨_, _, _, _, z, _⟩ | ⟨_, _, _, _, _, z, _⟩ <;> cases z) ?_ m Λ S h
  rintro m Λ S ⟨rs, acc, x0, l, t, x3, x4, rfl, hl, ht, hne, hm, ok, hb, bl, bt, ex, hR⟩
  have tr : iTru (iVar 1) [x0, some (.adr l), some (.adr t), x3, x4, none] S = .ok (!rs.isEmpty) S := by
    rw [iTru_e, iVar_s (x := .adr l) rfl, Out.bind_ok]
    have : truB S (.adr l) = some (!rs.isEmpty) := by
      unfold truB
      simp only [hl]
      cases rs <;> rfl
    rw [this]
    rfl
  cases hrs : rs with
  | nil =>
    left
    subst hrs
    refine ⟨S, tr, .inl ?_⟩
    have : R = (acc, []) := by rw [← hR]; unfold mergeP; rw [if_pos rfl]
    subst this
    exact ⟨rfl, _, S, t, rfl, rfl, ht, bt, ex⟩
  | cons p0 rs0 =>
    right
    refine ⟨S, by rw [tr, hrs]; rfl, ?_⟩
    have rne : rs ≠ [] := by rw [hrs]; simp
    have c1 : iCall 1 ff (iCons (iVar 1) iNil) [x0, some (.adr l), some (.adr t), x3, x4, none] S = .ok (ivO (firstP rs)) S := by
      rw [iCall_e, iCons_e, iVar_s (x := .adr l) rfl]
      simp only [Out.bind_ok, iNil_e]
      rw [chk_pos (by rfl), hff S l rs hl ok]
      rfl
    have hR' : (match firstP rs with
      | none => (acc, rs)
      | some f => mergeP m (stepR f rs) (acc ++ [f])) = R := by
      rw [← hR]
      conv => rhs; unfold mergeP; rw [if_neg rne]
    cases hf : firstP rs with
    | none =>
      rw [hf] at hR' c1
      have hR' : (acc, rs) = R := hR'
      subst hR'
      right
      have t2 : iTest (iBin gIsN (iVar 3) (iC .non)) [x0, some (.adr l), some (.adr t), some .non, x4, none] S = .ok true S := by
        rw [iTest_e, iBin_e, iVar_s (x := .non) rfl]
        rfl
      have rz : iRaise "NoOrder" "rows" (iCons (iVar 1) iNil) [x0, some (.adr l), some (.adr t), some .non, x4, none] S = .exc "NoOrder" S.length [x0, some (.adr l), some (.adr t), some .non, x4, none] (S ++ [.xd [("rows", .adr l)]]) := by
        unfold iRaise
        rw [iCons_e, iVar_s (x := .adr l) rfl]
        rfl
      have bd : mgBody ff [x0, some (.adr l), some (.adr t), x3, x4, none] S = .exc "NoOrder" S.length [x0, some (.adr l), some (.adr t), some .non, x4, none] (S ++ [.xd [("rows", .adr l)]]) := by
        unfold mgBody
        exact (sq_ok (st_ok c1)).trans (sq_ex ((if_tt t2).trans rz))
      rw [bd]
      refine ⟨.ex _ _ _ _, .inr ⟨rne, _, _, _, l, rfl, get_new _ _, (Ext.app (ds := []) _).get hl, bl, ex.trans (.app _)⟩⟩
    | some f =>
      rw [hf] at hR' c1
      have hR' : mergeP m (stepR f rs) (acc ++ [f]) = R := hR'
      left
      have sz := sizeP_step hf
      have t2 : iTest (iBin gIsN (iVar 3) (iC .non)) [x0, some (.adr l), some (.adr t), some (.str f), x4, none] S = .ok false S := by
        rw [iTest_e, iBin_e, iVar_s (x := .str f) rfl]
        rfl
      have t3 := app_e (Λ := [x0, some (.adr l), some (.adr t), some (.str f), x4, none]) (S := S) (mo := iVar 2) (mv := iVar 3) (n := t) (v := .str f) (iVar_s rfl) (iVar_s rfl) ht ht (by rw [List.length_map]; omega)
      let S1 := S.set t (.lst (acc.map IV.str ++ [.str f]))
      have x1 : Ext [t] S S1 := .set (.inl (by simp))
      have hl1 : S1[l]? = some (.lst (rs.map enN)) := x1.get hl (by simpa using hne)
      have ht1 : S1[t]? = some (.lst ((acc ++ [f]).map IV.str)) := by rw [List.map_append]; exact get_setS ht _
      have t4 : iLc false (iSrcL (iVar 1)) (giN 5) iYes (iIf (iTest (iBin fEq (iBin fIx (iVar 5) (iC (.int 0))) (iVar 3))) (iSl false (iVar 5) (iPart (iC (.int 1))) iNoPart) (iVar 5)) [5] [x0, some (.adr l), some (.adr t), some (.str f), x4, none] S1 = .ok (.lst ((rs.map (cutP f)).map enR)) S1 := by
        rw [lc_map rs enN (fun _ => true) (fun q => enR (cutP f q)) (src_cell rfl hl1) hl1 (fun q hq => ⟨_, rfl, rfl, fun _ => enN_cut rfl rfl (ok.r q hq).1⟩) (by rw [szL]; have := ok.n; omega)]
        rw [mkL_f, chk_pos (by rw [List.length_map, szL]; have := ok.n; have := List.length_filter_le (fun _ : NR => true) rs; omega)]
        rw [List.filter_eq_self.mpr fun _ _ => rfl, List.map_map]
        rfl
      have t5 : iLc true (iSrcL (iVar 4)) (giN 5) (iTest (iBin fGt (iCa fLen (iCons (iVar 5) iNil)) (iC (.int 0)))) (iVar 5) [5] [x0, some (.adr l), some (.adr t), some (.str f), some (.lst ((rs.map (cutP f)).map enR)), none] S1 = .ok (.adr S1.length) (S1 ++ [.lst ((stepR f rs).map enN)]) := by
        rw [lc_map (rs.map (cutP f)) enR (fun r => decide (0 < r.length)) enR (k := none) (S1 := S1) (by rw [iSrcL_e, iVar_s (x := .lst ((rs.map (cutP f)).map enR)) rfl]; rfl) trivial (fun r hr => ⟨_, rfl, long_t rfl, fun _ => iVar_s rfl⟩) (by rw [List.length_map, szL]; have := ok.n; omega)]
        rw [mkL_t, chk_pos (by rw [List.length_map, szL]; have := ok.n; have := List.length_filter_le (fun r : List Str => decide (0 < r.length)) (rs.map (cutP f)); rw [List.length_map] at this; omega)]
        unfold stepR
        rw [toN_map]
      have x2 : Ext [] S1 (S1 ++ [.lst ((stepR f rs).map enN)]) := .app _
      have lt1 : t < S1.length := lt_some ht1
      have lS : S1.length = S.length := by simp [S1]
      refine ⟨sizeP (stepR f rs), _, _, hm ▸ sz, ?_, stepR f rs, acc ++ [f], x0, S1.length, t, some (.str f), some (.lst ((rs.map (cutP f)).map enR)), rfl, get_new _ _, x2.get ht1, Nat.ne_of_gt lt1, rfl, ok.step f, ?_, ?_, bt, ?_, ?_⟩
      · unfold mgBody
        exact (sq_ok (st_ok c1)).trans ((sq_ok (S1 := S) ((if_ff t2).trans rfl)).trans ((sq_ok (dr_ok t3)).trans ((sq_ok (st_ok t4)).trans (st_ok t5))))
      · rw [List.length_append, List.length_singleton]; omega
      · have := ex.1; omega
      · exact (ex.trans' x1 fun e he => .inr (by rw [List.mem_singleton.mp he]; exact bt)).trans x2
      · have mono : ∀ (n k : Nat) (rs : List NR) (acc : List Str), sizeP rs < n → n ≤ k → mergeP k rs acc = mergeP n rs acc := by
          intro n
          induction n with
          | zero => intro k rs acc h; omega
          | succ n ih =>
            intro k rs acc h hk
            cases k with
            | zero => omega
            | succ k =>
              unfold mergeP
              by_cases hr : rs = []
              · rw [if_pos hr, if_pos hr]
              · rw [if_neg hr, if_neg hr]
                cases hq : firstP rs with
                | none => rfl
                | some g => exact ih k (stepR g rs) _ (by have := sizeP_step hq; omega) (by omega)
        rw [← hR']
        exact (mono (sizeP (stepR f rs) + 1) m (stepR f rs) (acc ++ [f]) (Nat.lt_succ_self _) (by omega)).symm
def MergeEnd (S0 : Sto) (R : List Str × List NR) (o : Out IV) : Prop :=
  (R.2 = [] ∧ ∃ S' t, o = .ok (.adr t) S' ∧ S'[t]? = some (.lst (R.1.map IV.str)) ∧ S0.length ≤ t ∧ Ext [] S0 S') ∨
  (R.2 ≠ [] ∧ ∃ n S' l, o = .exc "NoOrder" n [] S' ∧ S'[n]? = some (.xd [("rows", .adr l)]) ∧ S'[l]? = some (.lst (R.2.map enN)) ∧ S0.length ≤ l ∧ Ext [] S0 S')
def mergeR (rows : List (List Str)) : List Str × List NR := mergeP (sizeP (toN rows) + 1) (toN rows) []
/-- sizes of rows -/
structure RowsOk (rows : List (List Str)) : Prop where
  n : rows.length ≤ 100000
  r : ∀ r ∈ rows, r.length ≤ 100000 ∧ ∀ s ∈ r, okS s
  z : sizeP (toN rows) ≤ 100000
theorem RowsOk.rs {rows : List (List Str)} (h : RowsOk rows) : RsOk (toN rows) := ⟨Nat.le_trans (toN_len _) h.n, fun p hp => by
  obtain ⟨h1, h2⟩ := h.r _ (toN_mem hp)
  exact ⟨by rw [List.length_cons] at h1; omega, h2 _ List.mem_cons_self, fun s hs => h2 s (List.mem_cons_of_mem _ hs)⟩⟩
theorem list_row {S : Sto} {Λ : Slots} {i : Nat} {r : List Str} (h : Λ[i]? = some (some (enR r))) (hl : r.length ≤ 100000) : iCa (fList false) (iCons (iVar i) iNil) Λ S = .ok (enR r) S := by
  rw [iCa_e, iCons_e, iVar_s h]
  simp only [Out.bind_ok, iNil_e]
  show mkL false (r.map IV.str) S = _
  rw [mkL_f, chk_pos (by rw [List.length_map, szL]; omega)]
  rfl
theorem merge_ok {ff : List IV → Sto → Out IV} (hff : ∀ (S : Sto) (l : Nat) (rs : List NR), S[l]? = some (.lst (rs.map enN)) → RsOk rs → ff [.adr l] S = .ok (ivO (firstP rs)) S) {S : Sto} {x : IV} {rows : List (List Str)} {k : Option Nat} (hs : fSrcL x S = .ok ⟨rows.map enR, k⟩ S) (st : Src.stay ⟨rows.map enR, k⟩ S) (ok : RowsOk rows) :
    MergeEnd S (mergeR rows) (mDef 6 (mgB ff) [x] S) := by
  have src : iSrcL (iVar 0) [some x, none, none, none, none, none] S = .ok ⟨rows.map enR, k⟩ S := by rw [iSrcL_e, iVar_s (x := x) rfl]; exact hs
  have hf := List.length_filter_le (fun r : List Str => decide (0 < r.length)) rows
  have t1 : iLc true (iSrcL (iVar 0)) (giN 5) (iTest (iBin fGt (iCa fLen (iCons (iVar 5) iNil)) (iC (.int 0)))) (iCa (fList false) (iCons (iVar 5) iNil)) [5] [some x, none, none, none, none, none] S = .ok (.adr S.length) (S ++ [.lst ((toN rows).map enN)]) := by
    rw [lc_map rows enR (fun r => decide (0 < r.length)) enR src st (fun r hr => ⟨_, rfl, long_t rfl, fun _ => list_row rfl (ok.r r hr).1⟩) (by rw [szL]; have := ok.n; omega)]
    rw [mkL_t, chk_pos (by rw [List.length_map, szL]; have := ok.n; omega), toN_map]
  have t2 : iLst true iNil [some x, some (.adr S.length), none, none, none, none] (S ++ [.lst ((toN rows).map enN)]) = .ok (.adr (S.length + 1)) (S ++ [.lst ((toN rows).map enN)] ++ [.lst []]) := by
    simp only [iLst_e, iNil_e, Out.bind_ok, mkL_t]
    rw [chk_pos (by exact Nat.zero_le _), List.length_append]
    rfl
  have e := merge_while hff (S0 := S) (R := mergeR rows) (sizeP (toN rows)) [some x, some (.adr S.length), some (.adr (S.length + 1)), none, none, none] (S ++ [.lst ((toN rows).map enN)] ++ [.lst []])
    ⟨toN rows, [], some x, S.length, S.length + 1, none, none, rfl, by simp, by simp, by omega, rfl, ok.rs, by have := ok.z; simpa using this, Nat.le_refl _, Nat.le_succ _, (Ext.app _).trans (.app _), rfl⟩
  have go : mgB ff [some x, none, none, none, none, none] S = iSeq (iWhile (iTru (iVar 1)) (mgBody ff)) (iRet (iVar 2)) [some x, some (.adr S.length), some (.adr (S.length + 1)), none, none, none] (S ++ [.lst ((toN rows).map enN)] ++ [.lst []]) := by
    unfold mgB
    exact (sq_ok (st_ok t1)).trans ((sq_ok (st_ok t2)).trans rfl)
  rcases e with ⟨h1, Λ', S', t, e1, e2, e3, e4, e5⟩ | ⟨h1, n, Λ', S', l, e1, e2, e3, e4, e5⟩
  · refine .inl ⟨h1, S', t, mDef_rt (go.trans ((sq_ok e1).trans (rt_ok (iVar_s e2)))), e3, e4, e5⟩
  · exact .inr ⟨h1, n, S', l, md_ex (go.trans (sq_ex e1)), e2, e3, e4, e5⟩
/-! ### the law's own way -/
noncomputable def mdBody : IS := (iSeq (iSet 3 (iLst true iNil)) (iSeq (iFor (iSrcL (iVar 2)) (iName 4) (iDrop (iBM "list" fExt (iVar 3) (iCons (iSl false (iVar 4) (iPart (iC (.int 1))) iNoPart) iNil)))) (iSeq (iSet 5 (iLc false (iSrcL (iVar 2)) (giN 4) (iTest (iBin fNotIn (iBin fIx (iVar 4) (iC (.int 0))) (iVar 3))) (iBin fIx (iVar 4) (iC (.int 0))) [4]))
  (iSeq (iIf (iTest (iBin fEq (iVar 5) (iLst false iNil))) (iRet (iTup (iCons (iVar 1) (iCons (iVar 2) iNil)))) iNext) (iSeq (iDrop (iBM "list" fApp (iVar 1) (iCons (iBin fIx (iVar 5) (iC (.int 0))) iNil))) (iSeq (iSet 6 (iLc false (iSrcL (iVar 2)) (giN 4) iYes (iIf (iTest (iBin fEq (iBin fIx (iVar 4) (iC (.int 0))) (iBin fIx (iVar 5) (iC (.int 0))))) (iSl false (iVar 4) (iPart (iC (.int 1))) iNoPart) (iVar 4)) [4]))
  (iSet 2 (iLc false (iSrcL (iVar 6)) (giN 4) (iTest (iBin fNe (iVar 4) (iLst false iNil))) (iVar 4) [4]))))))))
noncomputable def mdB : IS := (iSeq (iSet 1 (iLst true iNil)) (iSeq (iSet 2 (iLc false (iSrcL (iVar 0)) (giN 4) (iTest (iBin fNe (iVar 4) (iLst false iNil))) (iVar 4) [4])) (iSeq (iWhile (iTest (iBin fNe (iVar 2) (iLst false iNil))) mdBody) (iRet (iTup (iCons (iVar 1) (iCons (iLst false iNil) iNil)))))))
theorem viewL_rows {f : IV → Option PyData} (hf : ∀ r : List Str, f (enR r) = some (.list (r.map PyData.str))) : ∀ rows : List (List Str), viewL f (rows.map enR) = some (rows.map fun r => .list (r.map PyData.str))
  | [] => rfl
  | r :: rows => by
    show viewL f (enR r :: rows.map enR) = _
    unfold viewL
    rw [hf, viewL_rows hf rows]
    rfl
theorem view_row {S : Sto} (n : Nat) (r : List Str) : view (n + 2) S (enR r) = some (.list (r.map PyData.str)) := view_strs n r
theorem view_rows {S : Sto} (n : Nat) (rows : List (List Str)) : view (n + 3) S (.lst (rows.map enR)) = some (.list (rows.map fun r => .list (r.map PyData.str))) := by
  show (viewL (view (n + 2) S) (rows.map enR)).map PyData.list = _
  rw [viewL_rows fun r => view_row n r]
  rfl
theorem canLay_rows : ∀ {rows : List (List Str)}, (∀ r ∈ rows, ∀ s ∈ r, okS s) → PyData.canLayAll0 (rows.map fun r => .list (r.map PyData.str)) = true
  | [], _ => by simp [PyData.canLayAll0]
  | r :: rows, h => by
    show PyData.canLayAll0 (.list (r.map PyData.str) :: rows.map fun r => .list (r.map PyData.str)) = true
    rw [PyData.canLayAll0, PyData.canLay0, canLay_strs (h r List.mem_cons_self), canLay_rows fun q hq => h q (List.mem_cons_of_mem _ hq)]
    rfl
theorem depth_rows : ∀ rows : List (List Str), PyData.depthAll (rows.map fun r => .list (r.map PyData.str)) ≤ 1
  | [] => by simp [PyData.depthAll]
  | r :: rows => by
    show PyData.depthAll (.list (r.map PyData.str) :: rows.map fun r => .list (r.map PyData.str)) ≤ 1
    rw [PyData.depthAll, PyData.depth, depth_strs]
    have := depth_rows rows
    omega
theorem shaped_rows {rows : List (List Str)} (h : ∀ r ∈ rows, ∀ s ∈ r, okS s) : SeqAt.shaped (.list (rows.map fun r => .list (r.map PyData.str))) = true := by
  unfold SeqAt.shaped
  rw [PyData.canLay0, PyData.depth, canLay_rows h]
  have := depth_rows rows
  simp
  omega
theorem eqv_rows : ∀ a b : List (List Str), PyData.eqvAll (a.map fun r => .list (r.map PyData.str)) (b.map fun r => .list (r.map PyData.str)) = decide (a = b)
  | [], [] => by simp [PyData.eqvAll]
  | [], _ :: _ => by simp [PyData.eqvAll]
  | _ :: _, [] => by simp [PyData.eqvAll]
  | r :: a, q :: b => by
    show PyData.eqvAll (.list (r.map PyData.str) :: a.map fun r => .list (r.map PyData.str)) (.list (q.map PyData.str) :: b.map fun r => .list (r.map PyData.str)) = _
    rw [PyData.eqvAll, PyData.eqv, eqv_strs, eqv_rows a b]
    by_cases h1 : r = q
    · subst h1
      by_cases h2 : a = b
      · subst h2; simp
      · simp [h2]
    · simp [h1]
theorem eqB_rows {S : Sto} {a b : List (List Str)} (ha : ∀ r ∈ a, ∀ s ∈ r, okS s) (hb : ∀ r ∈ b, ∀ s ∈ r, okS s) : eqB S (.lst (a.map enR)) (.lst (b.map enR)) = some (decide (a = b)) := by
  rw [eqB_lst (view_rows 5 a) (view_rows 5 b) (shaped_rows ha) (shaped_rows hb), PyData.eqv, eqv_rows]
theorem firsts_head (rs : List NR) : ((rs.filter fun p => !tailsIn rs p.1).map (·.1)).head? = firstP rs := by
  unfold firstP
  rw [List.head?_map, List.head?_filter]
def flatT (rs : List NR) : List Str := (rs.map (·.2)).flatten
theorem flat_in (rs : List NR) (s : Str) : decide (s ∈ flatT rs) = tailsIn rs s := by
  unfold tailsIn flatT
  rw [Bool.eq_iff_iff, decide_eq_true_iff, List.any_eq_true]
  simp only [List.mem_flatten, List.mem_map, decide_eq_true_iff]
  exact ⟨fun ⟨l, ⟨p, h1, h2⟩, h3⟩ => ⟨p, h1, h2 ▸ h3⟩, fun ⟨p, h1, h2⟩ => ⟨p.2, ⟨p, h1, rfl⟩, h2⟩⟩
theorem flat_len : ∀ rs : List NR, (flatT rs).length ≤ sizeP rs
  | [] => Nat.le_refl _
  | p :: rs => by
    have := flat_len rs
    unfold flatT at this ⊢
    rw [List.map_cons, List.flatten_cons, List.length_append]
    show _ ≤ p.2.length + 1 + sizeP rs
    omega
theorem flat_take (rs : List NR) (i : Nat) (p : NR) (h : rs[i]? = some p) : flatT (rs.take (i + 1)) = flatT (rs.take i) ++ p.2 := by
  unfold flatT
  rw [List.take_add_one, h]
  simp
theorem size_take (rs : List NR) (i : Nat) : sizeP (rs.take i) ≤ sizeP rs := by
  induction rs generalizing i with
  | nil => simp
  | cons p rs ih =>
    cases i with
    | zero => exact Nat.zero_le _
    | succ i => rw [List.take_succ_cons]; exact Nat.add_le_add_left (ih i) _
theorem mergeP_mono : ∀ (n k : Nat) (rs : List NR) (acc : List Str), sizeP rs < n → n ≤ k → mergeP k rs acc = mergeP n rs acc
  | 0, k, rs, acc, h, _ => by omega
  | n + 1, 0, rs, acc, h, hk => by omega
  | n + 1, k + 1, rs, acc, h, hk => by
    unfold mergeP
    by_cases hr : rs = []
    · rw [if_pos hr, if_pos hr]
    · rw [if_neg hr, if_neg hr]
      cases hq : firstP rs with
      | none => rfl
      | some g => exact mergeP_mono n k (stepR g rs) _ (by have := sizeP_step hq; omega) (by omega)
theorem head_ix {S : Sto} {Λ : Slots} {i : Nat} {q : NR} (h : Λ[i]? = some (some (enN q))) : iBin fIx (iVar i) (iC (.int 0)) Λ S = .ok (.str q.1) S := by
  rw [iBin_e, iVar_s h]
  show orBad (atI ((q.1 :: q.2).map IV.str) 0) _ = _
  rw [List.map_cons, atI_0]
  rfl
theorem tail_sl {S : Sto} {Λ : Slots} {i : Nat} {q : NR} (h : Λ[i]? = some (some (enN q))) (hl : q.2.length ≤ 100000) : iSl false (iVar i) (iPart (iC (.int 1))) iNoPart Λ S = .ok (.lst (q.2.map IV.str)) S := by
  rw [iSl_e, iVar_s h]
  show fSl false (.lst ((q.1 :: q.2).map IV.str)) (some 1) none S = _
  rw [fSl_l, List.map_cons, cutI1, mkL_f, chk_pos (by rw [List.length_map, szL]; omega)]
def EndedL (S0 : Sto) (R : List Str × List NR) (o : Out Fl) : Prop :=
  (R.2 = [] ∧ ∃ Λ' S' t, o = .ok (.nx Λ') S' ∧ Λ'[1]? = some (some (.adr t)) ∧ S'[t]? = some (.lst (R.1.map IV.str)) ∧ S0.length ≤ t ∧ Ext [] S0 S') ∨
  (R.2 ≠ [] ∧ ∃ S' t, o = .ok (.rt (.tup [.adr t, .lst (R.2.map enN)])) S' ∧ S'[t]? = some (.lst (R.1.map IV.str)) ∧ S0.length ≤ t ∧ Ext [] S0 S')
theorem rs_rows (rs : List NR) : rs.map enN = (rs.map fun p => p.1 :: p.2).map enR := by rw [List.map_map]; rfl
theorem RsOk.ok {rs : List NR} (h : RsOk rs) : ∀ r ∈ rs.map (fun p : NR => p.1 :: p.2), ∀ s ∈ r, okS s := fun r hr s hs => by
  obtain ⟨p, hp, rfl⟩ := List.mem_map.mp hr
  obtain ⟨_, h2, h3⟩ := h.r p hp
  exact (List.mem_cons.mp hs).elim (fun e => e ▸ h2) (h3 s)
theorem set_last (S : Sto) (c d : Cell) : (S ++ [c]).set S.length d = S ++ [d] := by simp
theorem tup2 {S : Sto} (a b : IV) : mkT [a, b] S = .ok (.tup [a, b]) S := by rw [mkT_e, chk_pos (by rw [szL]; show 2 ≤ 16777216; decide)]
theorem empty_l {Λ : Slots} {S : Sto} : iLst false iNil Λ S = .ok (.lst []) S := by
  simp only [iLst_e, iNil_e, Out.bind_ok, mkL_f]
  rw [chk_pos (by exact Nat.zero_le _)]
theorem ne_nil_row {S : Sto} {Λ : Slots} {i : Nat} {r : List Str} (h : Λ[i]? = some (some (enR r))) (ok : ∀ s ∈ r, okS s) : iTest (iBin fNe (iVar i) (iLst false iNil)) Λ S = .ok (decide (0 < r.length)) S := by
  rw [iTest_e, iBin_e, iVar_s h, Out.bind_ok, empty_l, Out.bind_ok, fNe_e]
  have e : eqB S (enR r) (.lst []) = some (decide (r = [])) := eqB_strs (ys := []) ok fun _ z => by cases z
  rw [e, orBad_some, Out.bind_ok, asB_b]
  congr 1
  cases r <;> simp
theorem merged_while {S0 : Sto} {R : List Str × List NR} (m : Nat) (Λ : Slots) (S : Sto)
    (h : ∃ rs acc x0 t x3 x4 x5 x6, Λ = [x0, some (.adr t), some (.lst (rs.map enN)), x3, x4, x5, x6] ∧ S[t]? = some (.lst (acc.map IV.str)) ∧ sizeP rs = m ∧ RsOk rs ∧ acc.length + m ≤ 100000 ∧ S0.length ≤ t ∧ Ext [] S0 S ∧ mergeP (m + 1) rs acc = R) :
    EndedL S0 R (iWhile (iTest (iBin fNe (iVar 2) (iLst false iNil))) mdBody Λ S) := by
  refine while_gen (fun m Λ S => ∃ rs acc x0 t x3 x4 x5 x6, Λ = [x0, some (.adr t), some (.lst (rs.map enN)), x3, x4, x5, x6] ∧ S[t]? = some (.lst (acc.map IV.str)) ∧ sizeP rs = m ∧ RsOk rs ∧ acc.length + m ≤ 100000 ∧ S0.length ≤ t ∧ Ext [] S0 S ∧ mergeP (m + 1) rs acc = R) (EndedL S0 R)
    (fun z => by rcases z with ⟨_, _, _, _, z, _⟩ | ⟨_, _, _, z, _⟩ <;> cases z) ?_ m Λ S h
  rintro m Λ S ⟨rs, acc, x0, t, x3, x4, x5, x6, rfl, ht, hm, ok, hb, bt, ex, hR⟩
  have tr : iTest (iBin fNe (iVar 2) (iLst false iNil)) [x0, some (.adr t), some (.lst (rs.map enN)), x3, x4, x5, x6] S = .ok (!decide (rs = [])) S := by
    rw [iTest_e, iBin_e, iVar_s (x := .lst (rs.map enN)) rfl, Out.bind_ok, empty_l, Out.bind_ok, fNe_e]
    have e : eqB S (.lst (rs.map enN)) (.lst []) = some (decide (rs = [])) := by
      rw [rs_rows]
      have := eqB_rows (S := S) (a := rs.map fun p => p.1 :: p.2) (b := []) ok.ok fun _ z => by cases z
      rw [List.map_nil] at this
      rw [this]
      cases rs <;> simp
    rw [e, orBad_some, Out.bind_ok, asB_b]
  by_cases hrs : rs = []
  · left
    subst hrs
    refine ⟨S, tr, .inl ?_⟩
    have : R = (acc, []) := by rw [← hR]; unfold mergeP; rw [if_pos rfl]
    subst this
    exact ⟨rfl, _, S, t, rfl, rfl, ht, bt, ex⟩
  · right
    refine ⟨S, by rw [tr, decide_eq_false hrs]; rfl, ?_⟩
    have hR' : (match firstP rs with
      | none => (acc, rs)
      | some f => mergeP m (stepR f rs) (acc ++ [f])) = R := by
      rw [← hR]
      conv => rhs; unfold mergeP; rw [if_neg hrs]
    have lt := lt_some ht
    have t1 : iLst true iNil [x0, some (.adr t), some (.lst (rs.map enN)), x3, x4, x5, x6] S = .ok (.adr S.length) (S ++ [.lst []]) := by
      simp only [iLst_e, iNil_e, Out.bind_ok, mkL_t]
      rw [chk_pos (by exact Nat.zero_le _)]
    have hlen := ok.n
    obtain ⟨Λ2, S2, f1, ⟨y, rfl⟩, rfl⟩ := for_inv (ms := iSrcL (iVar 2)) (g := iName 4) (b := iDrop (iBM "list" fExt (iVar 3) (iCons (iSl false (iVar 4) (iPart (iC (.int 1))) iNoPart) iNil))) (Λ := [x0, some (.adr t), some (.lst (rs.map enN)), some (.adr S.length), x4, x5, x6]) (S := S ++ [.lst []]) (S1 := S ++ [.lst []]) (k := none)
      rs enN (fun i Λ S2 => (∃ y, Λ = [x0, some (.adr t), some (.lst (rs.map enN)), some (.adr S.length), y, x5, x6]) ∧ S2 = S ++ [.lst ((flatT (rs.take i)).map IV.str)]) (by rw [iSrcL_e, iVar_s (x := .lst (rs.map enN)) rfl]; rfl) ⟨⟨_, rfl⟩, rfl⟩ (fun _ _ _ _ => trivial) (by
        rintro i Λ S2 p hp ⟨⟨y, rfl⟩, rfl⟩
        have hp2 := (ok.r p (List.mem_of_getElem? hp)).1
        refine ⟨_, _, _, _, rfl, dr_ok (v := .non) (S1 := S ++ [.lst ((flatT (rs.take (i + 1))).map IV.str)]) ?_, ⟨_, rfl⟩, rfl⟩
        show iBM "list" fExt (iVar 3) _ [x0, some (.adr t), some (.lst (rs.map enN)), some (.adr S.length), some (enN p), x5, x6] _ = _
        have hg : (S ++ [Cell.lst ((flatT (rs.take i)).map IV.str)])[S.length]? = some (.lst ((flatT (rs.take i)).map IV.str)) := get_new _ _
        have hty : hasTy "list" (S ++ [Cell.lst ((flatT (rs.take i)).map IV.str)]) (.adr S.length) = true := by
          unfold hasTy lstOf
          simp only [hg]
          rfl
        rw [iBM_e, iVar_s (x := .adr S.length) rfl, Out.bind_ok, chk_pos hty, iCons_e, tail_sl (q := p) rfl hp2]
        simp only [Out.bind_ok, iNil_e]
        unfold fExt
        rw [a1_1, onL_s hg]
        show orBad (some (p.2.map IV.str)) _ = _
        have h1 := flat_len (rs.take (i + 1))
        have h2 := size_take rs (i + 1)
        rw [flat_take rs i p hp, List.length_append] at h1
        rw [orBad_some, chk_pos (by rw [List.length_map, List.length_map, szL]; omega), set_last, flat_take rs i p hp, List.map_append])
    rw [List.take_length] at f1
    have hg : (S ++ [Cell.lst ((flatT rs).map IV.str)])[S.length]? = some (.lst ((flatT rs).map IV.str)) := get_new _ _
    have t5 : iLc false (iSrcL (iVar 2)) (giN 4) (iTest (iBin fNotIn (iBin fIx (iVar 4) (iC (.int 0))) (iVar 3))) (iBin fIx (iVar 4) (iC (.int 0))) [4] [x0, some (.adr t), some (.lst (rs.map enN)), some (.adr S.length), y, x5, x6] (S ++ [.lst ((flatT rs).map IV.str)]) = .ok (.lst (((rs.filter fun p => !tailsIn rs p.1).map (·.1)).map IV.str)) (S ++ [.lst ((flatT rs).map IV.str)]) := by
      rw [lc_map rs enN (fun p => !tailsIn rs p.1) (fun p => .str p.1) (k := none) (S1 := S ++ [.lst ((flatT rs).map IV.str)]) (by rw [iSrcL_e, iVar_s (x := .lst (rs.map enN)) rfl]; rfl) trivial (fun p hp => ⟨_, rfl, by
        show iTest _ [x0, some (.adr t), some (.lst (rs.map enN)), some (.adr S.length), some (enN p), x5, x6] _ = _
        rw [iTest_e, iBin_e, head_ix (q := p) rfl, Out.bind_ok, iVar_s (x := .adr S.length) rfl, Out.bind_ok, fNotIn_e, inB_a p.1 (flatT rs) hg, orBad_some, Out.bind_ok, asB_b, flat_in], fun _ => head_ix (q := p) rfl⟩) (by rw [szL]; omega)]
      have := List.length_filter_le (fun p : NR => !tailsIn rs p.1) rs
      rw [mkL_f, chk_pos (by rw [List.length_map, szL]; omega), List.map_map]
      rfl
    have hd := firsts_head rs
    generalize hF : ((rs.filter fun p => !tailsIn rs p.1).map (·.1)) = F at t5 hd
    have okF : ∀ s ∈ F, okS s := fun s hs => by
      rw [← hF] at hs
      obtain ⟨p, hp, rfl⟩ := List.mem_map.mp hs
      exact (ok.r p (List.mem_filter.mp hp).1).2.1
    have t6 : iTest (iBin fEq (iVar 5) (iLst false iNil)) [x0, some (.adr t), some (.lst (rs.map enN)), some (.adr S.length), y, some (.lst (F.map IV.str)), x6] (S ++ [.lst ((flatT rs).map IV.str)]) = .ok (decide (F = [])) (S ++ [.lst ((flatT rs).map IV.str)]) := by
      rw [iTest_e, iBin_e, iVar_s (x := .lst (F.map IV.str)) rfl, Out.bind_ok, empty_l, Out.bind_ok, fEq_e]
      have e : eqB (S ++ [.lst ((flatT rs).map IV.str)]) (.lst (F.map IV.str)) (.lst []) = some (decide (F = [])) := eqB_strs (ys := []) okF fun _ z => by cases z
      rw [e, orBad_some, Out.bind_ok, asB_b]
    have x1 : Ext [] S (S ++ [.lst ((flatT rs).map IV.str)]) := .app _
    have front : ∀ {o : Out Fl} {G : IS}, G [x0, some (.adr t), some (.lst (rs.map enN)), some (.adr S.length), y, some (.lst (F.map IV.str)), x6] (S ++ [.lst ((flatT rs).map IV.str)]) = o →
        iSeq (iSet 3 (iLst true iNil)) (iSeq (iFor (iSrcL (iVar 2)) (iName 4) (iDrop (iBM "list" fExt (iVar 3) (iCons (iSl false (iVar 4) (iPart (iC (.int 1))) iNoPart) iNil)))) (iSeq (iSet 5 (iLc false (iSrcL (iVar 2)) (giN 4) (iTest (iBin fNotIn (iBin fIx (iVar 4) (iC (.int 0))) (iVar 3))) (iBin fIx (iVar 4) (iC (.int 0))) [4])) G)) [x0, some (.adr t), some (.lst (rs.map enN)), x3, x4, x5, x6] S = o :=
      fun h => (sq_ok (st_ok t1)).trans ((sq_ok f1).trans ((sq_ok (st_ok t5)).trans h))
    cases F with
    | nil =>
      right
      have hf : firstP rs = none := hd.symm
      rw [hf] at hR'
      have hR' : (acc, rs) = R := hR'
      subst hR'
      have bd : mdBody [x0, some (.adr t), some (.lst (rs.map enN)), x3, x4, x5, x6] S = .ok (.rt (.tup [.adr t, .lst (rs.map enN)])) (S ++ [.lst ((flatT rs).map IV.str)]) := by
        unfold mdBody
        refine front ?_
        refine sq_rt ((if_tt t6).trans (rt_ok ?_))
        rw [iTup_e, iCons_e, iVar_s (x := .adr t) rfl, Out.bind_ok, iCons_e, iVar_s (x := .lst (rs.map enN)) rfl]
        simp only [Out.bind_ok, iNil_e]
        exact tup2 _ _
      rw [bd]
      exact ⟨.rt _ _, .inr ⟨hrs, _, t, rfl, x1.get ht, bt, ex.trans x1⟩⟩
    | cons f F' =>
      left
      have hf : firstP rs = some f := hd.symm
      rw [hf] at hR'
      have hR' : mergeP m (stepR f rs) (acc ++ [f]) = R := hR'
      have sz := sizeP_step hf
      have ixF : ∀ (S : Sto) (a b c d e g : Option IV), iBin fIx (iVar 5) (iC (.int 0)) [a, b, c, d, e, some (.lst ((f :: F').map IV.str)), g] S = .ok (.str f) S := fun S a b c d e g => by
        rw [iBin_e, iVar_s (x := .lst ((f :: F').map IV.str)) rfl]
        show orBad (atI ((f :: F').map IV.str) 0) _ = _
        rw [List.map_cons, atI_0]
        rfl
      have ht1 := x1.get ht
      have t7 := app_e (Λ := [x0, some (.adr t), some (.lst (rs.map enN)), some (.adr S.length), y, some (.lst ((f :: F').map IV.str)), x6]) (S := S ++ [.lst ((flatT rs).map IV.str)]) (mo := iVar 1) (mv := iBin fIx (iVar 5) (iC (.int 0))) (n := t) (v := .str f) (iVar_s rfl) (ixF _ _ _ _ _ _ _) ht1 ht1 (by rw [List.length_map]; omega)
      generalize hS3 : (S ++ [Cell.lst ((flatT rs).map IV.str)]).set t (Cell.lst (acc.map IV.str ++ [IV.str f])) = S3 at t7
      have x2 : Ext [t] (S ++ [.lst ((flatT rs).map IV.str)]) S3 := hS3 ▸ .set (.inl (by simp))
      have ht3 : S3[t]? = some (.lst ((acc ++ [f]).map IV.str)) := by rw [List.map_append, ← hS3]; exact get_setS ht1 _
      have t8 : iLc false (iSrcL (iVar 2)) (giN 4) iYes (iIf (iTest (iBin fEq (iBin fIx (iVar 4) (iC (.int 0))) (iBin fIx (iVar 5) (iC (.int 0))))) (iSl false (iVar 4) (iPart (iC (.int 1))) iNoPart) (iVar 4)) [4] [x0, some (.adr t), some (.lst (rs.map enN)), some (.adr S.length), y, some (.lst ((f :: F').map IV.str)), x6] S3 = .ok (.lst ((rs.map (cutP f)).map enR)) S3 := by
        rw [lc_map rs enN (fun _ => true) (fun q => enR (cutP f q)) (k := none) (S1 := S3) (by rw [iSrcL_e, iVar_s (x := .lst (rs.map enN)) rfl]; rfl) trivial (fun q hq => ⟨_, rfl, rfl, fun _ => by
          show iIf _ _ _ [x0, some (.adr t), some (.lst (rs.map enN)), some (.adr S.length), some (enN q), some (.lst ((f :: F').map IV.str)), x6] S3 = _
          have tt : iTest (iBin fEq (iBin fIx (iVar 4) (iC (.int 0))) (iBin fIx (iVar 5) (iC (.int 0)))) [x0, some (.adr t), some (.lst (rs.map enN)), some (.adr S.length), some (enN q), some (.lst ((f :: F').map IV.str)), x6] S3 = .ok (decide (q.1 = f)) S3 := by
            rw [iTest_e, iBin_e, head_ix (q := q) rfl, Out.bind_ok, ixF, Out.bind_ok, fEq_e, eqB_str]
            rfl
          unfold cutP
          by_cases hq2 : q.1 = f
          · rw [decide_eq_true hq2] at tt
            rw [if_tt tt, if_pos hq2, tail_sl (q := q) rfl (ok.r q hq).1]
            rfl
          · rw [decide_eq_false hq2] at tt
            rw [if_ff tt, if_neg hq2, iVar_s (x := enN q) rfl]
            rfl⟩) (by rw [szL]; omega)]
        have := List.length_filter_le (fun _ : NR => true) rs
        rw [mkL_f, chk_pos (by rw [List.length_map, szL]; omega)]
        rw [List.filter_eq_self.mpr fun _ _ => rfl, List.map_map]
        rfl
      have okC : ∀ r ∈ rs.map (cutP f), ∀ s ∈ r, okS s := fun r hr s hs => by
        obtain ⟨q, hq, rfl⟩ := List.mem_map.mp hr
        obtain ⟨_, h2, h3⟩ := ok.r q hq
        unfold cutP at hs
        split at hs
        · exact h3 s hs
        · exact (List.mem_cons.mp hs).elim (fun e => e ▸ h2) (h3 s)
      have t9 : iLc false (iSrcL (iVar 6)) (giN 4) (iTest (iBin fNe (iVar 4) (iLst false iNil))) (iVar 4) [4] [x0, some (.adr t), some (.lst (rs.map enN)), some (.adr S.length), y, some (.lst ((f :: F').map IV.str)), some (.lst ((rs.map (cutP f)).map enR))] S3 = .ok (.lst ((stepR f rs).map enN)) S3 := by
        rw [lc_map (rs.map (cutP f)) enR (fun r => decide (0 < r.length)) enR (k := none) (S1 := S3) (by rw [iSrcL_e, iVar_s (x := .lst ((rs.map (cutP f)).map enR)) rfl]; rfl) trivial (fun r hr => ⟨_, rfl, ne_nil_row rfl (okC r hr), fun _ => iVar_s rfl⟩) (by rw [List.length_map, szL]; omega)]
        have := List.length_filter_le (fun r : List Str => decide (0 < r.length)) (rs.map (cutP f))
        rw [List.length_map] at this
        rw [mkL_f, chk_pos (by rw [List.length_map, szL]; omega)]
        unfold stepR
        rw [toN_map]
      refine ⟨sizeP (stepR f rs), _, S3, hm ▸ sz, ?_, stepR f rs, acc ++ [f], x0, t, some (.adr S.length), y, some (.lst ((f :: F').map IV.str)), some (.lst ((rs.map (cutP f)).map enR)), rfl, ht3, rfl, ok.step f, ?_, bt, ?_, ?_⟩
      · unfold mdBody
        refine front ?_
        exact (sq_ok ((if_ff t6).trans rfl)).trans ((sq_ok (dr_ok t7)).trans ((sq_ok (st_ok t8)).trans (st_ok t9)))
      · rw [List.length_append, List.length_singleton]; omega
      · exact (ex.trans x1).trans' x2 fun e he => .inr (by rw [List.mem_singleton.mp he]; exact bt)
      · rw [← hR']
        exact (mergeP_mono (sizeP (stepR f rs) + 1) m (stepR f rs) (acc ++ [f]) (Nat.lt_succ_self _) (by omega)).symm
theorem merged_ok {S : Sto} {rows : List (List Str)} (ok : RowsOk rows) : ∃ S' t, mDef 7 mdB [.lst (rows.map enR)] S = .ok (.tup [.adr t, .lst ((mergeR rows).2.map enN)]) S' ∧ S'[t]? = some (.lst ((mergeR rows).1.map IV.str)) ∧ S.length ≤ t ∧ Ext [] S S' := by
  have hf := List.length_filter_le (fun r : List Str => decide (0 < r.length)) rows
  have t1 : iLst true iNil [some (.lst (rows.map enR)), none, none, none, none, none, none] S = .ok (.adr S.length) (S ++ [.lst []]) := by
    simp only [iLst_e, iNil_e, Out.bind_ok, mkL_t]
    rw [chk_pos (by exact Nat.zero_le _)]
  have t2 : iLc false (iSrcL (iVar 0)) (giN 4) (iTest (iBin fNe (iVar 4) (iLst false iNil))) (iVar 4) [4] [some (.lst (rows.map enR)), some (.adr S.length), none, none, none, none, none] (S ++ [.lst []]) = .ok (.lst ((toN rows).map enN)) (S ++ [.lst []]) := by
    rw [lc_map rows enR (fun r => decide (0 < r.length)) enR (k := none) (S1 := S ++ [.lst []]) (by rw [iSrcL_e, iVar_s (x := .lst (rows.map enR)) rfl]; rfl) trivial (fun r hr => ⟨_, rfl, ne_nil_row rfl (ok.r r hr).2, fun _ => iVar_s rfl⟩) (by rw [szL]; have := ok.n; omega)]
    rw [mkL_f, chk_pos (by rw [List.length_map, szL]; have := ok.n; omega), toN_map]
  have e := merged_while (S0 := S) (R := mergeR rows) (sizeP (toN rows)) [some (.lst (rows.map enR)), some (.adr S.length), some (.lst ((toN rows).map enN)), none, none, none, none] (S ++ [.lst []])
    ⟨toN rows, [], _, S.length, none, none, none, none, rfl, by simp, rfl, ok.rs, by have := ok.z; simpa using this, Nat.le_refl _, .app _, rfl⟩
  have go : mdB [some (.lst (rows.map enR)), none, none, none, none, none, none] S = iSeq (iWhile (iTest (iBin fNe (iVar 2) (iLst false iNil))) mdBody) (iRet (iTup (iCons (iVar 1) (iCons (iLst false iNil) iNil)))) [some (.lst (rows.map enR)), some (.adr S.length), some (.lst ((toN rows).map enN)), none, none, none, none] (S ++ [.lst []]) := by
    unfold mdB
    exact (sq_ok (st_ok t1)).trans ((sq_ok (st_ok t2)).trans rfl)
  rcases e with ⟨h1, Λ', S', t, e1, e2, e3, e4, e5⟩ | ⟨h1, S', t, e1, e3, e4, e5⟩
  · refine ⟨S', t, mDef_rt (go.trans ((sq_ok e1).trans (rt_ok ?_))), e3, e4, e5⟩
    rw [iTup_e, iCons_e, iVar_s e2, Out.bind_ok, iCons_e, empty_l]
    simp only [Out.bind_ok, iNil_e]
    rw [tup2, h1]
    rfl
  · exact ⟨S', t, mDef_rt (go.trans (sq_rt e1)), e3, e4, e5⟩
end Lw
set_option maxHeartbeats 2000000
/-! what is told of merged rows, as data -/
namespace Lw
open PySem PySem.Spec PyProof.Rows L2 Sm
/-- == of the same data -/
theorem eqB_same {S : Sto} {x y : IV} {d : PyData} (hx : view 8 S x = some d) (hy : view 8 S y = some d) (hs : SeqAt.shaped d = true) (hr : isRf x = true) : eqB S x y = some true := by
  have e : eqB S x y = (match view 8 S x, view 8 S y with
    | some d, some e => if SeqAt.shaped d = true ∧ SeqAt.shaped e = true then some (PyData.eqv d e) else none
    | _, _ => none) := by
    cases x with
    | lst _ => rfl
    | wls _ => rfl
    | tup _ => rfl
    | adr _ => rfl
    | _ => cases hr
  rw [e, hx, hy]
  show (if SeqAt.shaped d = true ∧ SeqAt.shaped d = true then some (PyData.eqv d d) else none) = _
  rw [if_pos ⟨hs, hs⟩, PySem.SeqAt.eqv_refl d (SeqAt.canLay_of_shaped hs)]
/-- the strings of rows and of a list keep P through merging; sizes do not grow -/
theorem mergeP_keep (P : Str → Prop) : ∀ (n : Nat) (rs : List NR) (acc : List Str), (∀ p ∈ rs, P p.1 ∧ ∀ s ∈ p.2, P s) → (∀ s ∈ acc, P s) →
    (∀ p ∈ (mergeP n rs acc).2, P p.1 ∧ ∀ s ∈ p.2, P s) ∧ (∀ s ∈ (mergeP n rs acc).1, P s) ∧ (mergeP n rs acc).1.length + sizeP (mergeP n rs acc).2 ≤ acc.length + sizeP rs
  | 0, rs, acc, h1, h2 => ⟨h1, h2, Nat.le_refl _⟩
  | n + 1, rs, acc, h1, h2 => by
    unfold mergeP
    by_cases hr : rs = []
    · rw [if_pos hr]
      exact ⟨fun _ z => (by cases z), h2, Nat.add_le_add_left (Nat.zero_le _) _⟩
    · rw [if_neg hr]
      cases hf : firstP rs with
      | none => exact ⟨h1, h2, Nat.le_refl _⟩
      | some f =>
        have z := sizeP_step hf
        obtain ⟨t, hm, _⟩ := firstP_mem hf
        have hP : ∀ p ∈ stepR f rs, P p.1 ∧ ∀ s ∈ p.2, P s := fun p hp => by
          obtain ⟨q, hq, e⟩ := List.mem_map.mp (toN_mem hp)
          obtain ⟨g1, g2⟩ := h1 q hq
          unfold cutP at e
          split at e
          · rw [e] at g2
            exact ⟨g2 _ List.mem_cons_self, fun s hs => g2 s (List.mem_cons_of_mem _ hs)⟩
          · injection e with e1 e2
            rw [← e1, ← e2]
            exact ⟨g1, g2⟩
        obtain ⟨k1, k2, k3⟩ := mergeP_keep P n (stepR f rs) (acc ++ [f]) hP fun s hs => (List.mem_append.mp hs).elim (h2 s) fun e => (List.mem_singleton.mp e) ▸ (h1 _ hm).1
        exact ⟨k1, k2, by rw [List.length_append, List.length_singleton] at k3; show (mergeP n (stepR f rs) (acc ++ [f])).1.length + sizeP (mergeP n (stepR f rs) (acc ++ [f])).2 ≤ _; omega⟩
/-- the word and the list that are told -/
def outW (R : List Str × List NR) : Str := if R.2 = [] then "list" else "left"
def outL (R : List Str × List NR) : List IV := if R.2 = [] then R.1.map IV.str else R.2.map enN
def outD (R : List Str × List NR) : List PyData := if R.2 = [] then R.1.map PyData.str else R.2.map fun p => .list ((p.1 :: p.2).map PyData.str)
/-- what the result keeps to -/
structure ROk (R : List Str × List NR) : Prop where
  a : ∀ s ∈ R.1, okS s ∧ s.length ≤ 100
  b : ∀ p ∈ R.2, (okS p.1 ∧ p.1.length ≤ 100) ∧ ∀ s ∈ p.2, okS s ∧ s.length ≤ 100
  z : R.1.length + sizeP R.2 ≤ 5000
theorem mergeR_ok {rows : List (List Str)} (h : ∀ r ∈ rows, ∀ s ∈ r, okS s ∧ s.length ≤ 100) (hz : sizeP (toN rows) ≤ 5000) : ROk (mergeR rows) := by
  obtain ⟨a, b, c⟩ := mergeP_keep (fun s => okS s ∧ s.length ≤ 100) (sizeP (toN rows) + 1) (toN rows) [] (fun p hp => ⟨h _ (toN_mem hp) _ List.mem_cons_self, fun s hs => h _ (toN_mem hp) s (List.mem_cons_of_mem _ hs)⟩) fun _ z => by cases z
  exact ⟨b, a, by unfold mergeR; simpa using Nat.le_trans c (by simpa using hz)⟩
theorem viewL_out {S : Sto} (n : Nat) (R : List Str × List NR) : viewL (view (n + 2) S) (outL R) = some (outD R) := by
  unfold outL outD
  split
  · exact viewL_strs (fun s => rfl) R.1
  · rw [rs_rows, viewL_rows fun r => view_row n r, List.map_map]
    rfl
theorem strs_w : ∀ l : List Str, (∀ s ∈ l, s.length ≤ 100) → PyData.weightAll (l.map PyData.str) ≤ 101 * l.length
  | [], _ => by simp [PyData.weightAll]
  | s :: l, h => by
    have h1 := strs_w l fun x hx => h x (List.mem_cons_of_mem _ hx)
    have h2 := h s List.mem_cons_self
    have h3 : s.cps.size = s.length := rfl
    rw [List.map_cons, PyData.weightAll, PyData.weight, List.length_cons, h3]
    omega
theorem rows_w : ∀ l : List NR, (∀ p ∈ l, p.1.length ≤ 100 ∧ ∀ s ∈ p.2, s.length ≤ 100) → PyData.weightAll (l.map fun p : NR => .list ((p.1 :: p.2).map PyData.str)) ≤ 102 * sizeP l
  | [], _ => by simp [PyData.weightAll, sizeP]
  | p :: l, h => by
    have h1 := rows_w l fun x hx => h x (List.mem_cons_of_mem _ hx)
    obtain ⟨h2, h3⟩ := h p List.mem_cons_self
    have h4 := strs_w (p.1 :: p.2) fun s hs => (List.mem_cons.mp hs).elim (fun e => e ▸ h2) (h3 s)
    rw [List.map_cons, PyData.weightAll, PyData.weight, sizeP]
    rw [List.length_cons] at h4
    omega
theorem show_strs (l : List Str) : PyData.showableAll (l.map PyData.str) = true := by
  induction l with
  | nil => rfl
  | cons s l ih => rw [List.map_cons, PyData.showableAll, PyData.showable, ih]; rfl
theorem show_rows (l : List NR) : PyData.showableAll (l.map fun p : NR => .list ((p.1 :: p.2).map PyData.str)) = true := by
  induction l with
  | nil => rfl
  | cons p l ih => rw [List.map_cons, PyData.showableAll, PyData.showable, show_strs, ih]; rfl
theorem ints_rows (l : List NR) : PyData.intsShortAll 13 (l.map fun p : NR => .list ((p.1 :: p.2).map PyData.str)) = true := by
  induction l with
  | nil => rfl
  | cons p l ih => rw [List.map_cons, PyData.intsShortAll, PyData.intsShort, PyData.intsShortAll_strs, ih]; rfl
/-- the data that is told -/
def toldD (R : List Str × List NR) : PyData := .tuple [.str (outW R), .list (outD R)]
theorem w_ok (R : List Str × List NR) : okS (outW R) ∧ (outW R).length = 4 := by
  have h : ∀ s ∈ [("list" : Str), "left"], ((sg s).all (fun c => decide (c < 1114112)) && decide (s.length = 4)) = true := by decide +kernel
  have hm : outW R ∈ [("list" : Str), "left"] := by unfold outW; split <;> simp
  have := h _ hm
  simp only [Bool.and_eq_true, List.all_eq_true, decide_eq_true_eq] at this
  exact this
theorem outD_ok {R : List Str × List NR} (h : ROk R) : PyData.canLayAll0 (outD R) = true ∧ PyData.depthAll (outD R) ≤ 1 ∧ PyData.weightAll (outD R) ≤ 600000 ∧ PyData.showableAll (outD R) = true ∧ PyData.intsShortAll 13 (outD R) = true := by
  have hz := h.z
  unfold outD
  split
  · exact ⟨canLay_strs fun s hs => (h.a s hs).1, by rw [depth_strs]; omega, Nat.le_trans (strs_w R.1 fun s hs => (h.a s hs).2) (by omega), show_strs _, PyData.intsShortAll_strs 13 _⟩
  · refine ⟨?_, ?_, Nat.le_trans (rows_w R.2 fun p hp => ⟨(h.b p hp).1.2, fun s hs => ((h.b p hp).2 s hs).2⟩) (by omega), show_rows _, ints_rows _⟩
    · have := canLay_rows (rows := R.2.map fun p => p.1 :: p.2) fun r hr s hs => by
        obtain ⟨p, hp, rfl⟩ := List.mem_map.mp hr
        exact (List.mem_cons.mp hs).elim (fun e => e ▸ (h.b p hp).1.1) fun z => ((h.b p hp).2 s z).1
      rwa [List.map_map] at this
    · have := depth_rows (R.2.map fun p => p.1 :: p.2)
      rwa [List.map_map] at this
theorem toldD_shaped {R : List Str × List NR} (h : ROk R) : SeqAt.shaped (toldD R) = true := by
  obtain ⟨h1, h2, _⟩ := outD_ok h
  unfold SeqAt.shaped toldD
  rw [PyData.canLay0, PyData.canLayAll0, PyData.canLayAll0, PyData.canLayAll0, PyData.canLay0, PyData.canLay0, okS_b (w_ok R).1, h1, PyData.depth, PyData.depthAll, PyData.depthAll, PyData.depthAll, PyData.depth, PyData.depth]
  simp
  omega
theorem view_found {S : Sto} {R : List Str × List NR} {q : Nat} (h : S[q]? = some (.lst (outL R))) : view 8 S (.tup [.str (outW R), .adr q]) = some (toldD R) := by
  have h7 : view 7 S (.adr q) = some (.list (outD R)) := by
    unfold view
    simp only [h]
    rw [show viewL (view 6 S) (outL R) = some (outD R) from viewL_out 4 R]
    rfl
  show (viewL (view 7 S) [.str (outW R), .adr q]).map PyData.tuple = _
  unfold viewL
  rw [show view 7 S (.str (outW R)) = some (.str (outW R)) from rfl]
  unfold viewL
  rw [h7]
  rfl
theorem view_lst {S : Sto} {R : List Str × List NR} : view 8 S (.tup [.str (outW R), .lst (outL R)]) = some (toldD R) := by
  have h7 : view 7 S (.lst (outL R)) = some (.list (outD R)) := by
    show (viewL (view 6 S) (outL R)).map PyData.list = _
    rw [show viewL (view 6 S) (outL R) = some (outD R) from viewL_out 4 R]
    rfl
  show (viewL (view 7 S) [.str (outW R), .lst (outL R)]).map PyData.tuple = _
  unfold viewL
  rw [show view 7 S (.str (outW R)) = some (.str (outW R)) from rfl]
  unfold viewL
  rw [h7]
  rfl
end Lw
set_option maxHeartbeats 4000000
namespace RD
open PySem PySem.Spec PyProof.Rows L2 Sm
def c_LETTERS : Str := "abcdefghijklmnopqrstuvwxyz"
def c_KEYWORDS : List Str := ["ahead", "all", "as", "at", "call", "class", "def", "either", "end", "for", "from", "\x69mport", "keep", "module", "none", "often", "once", "or", "outside", "patch", "set", "stand", "start", "stop", "table", "test", "using", "with"]
noncomputable def b_is_word : IS := (iSeq (iIf (iOr (iNot (iTru (iCa fIsi (iCons (iVar 0) (iCons (iC (.ty "str")) iNil))))) (iNot (iTest (iChain fLe fLe (iC (.int 1)) (iCa fLen (iCons (iVar 0) iNil)) (iC (.int 8)))))) (iRet (iC (.bl false))) iNext) (iSeq (iFor (iSrcS (iVar 0)) (iName 1) (iIf (iTest (iBin fNotIn (iVar 1) (iC (.str c_LETTERS)))) (iRet (iC (.bl false))) iNext)) (iRet (iC (.bl true)))))
noncomputable def m_is_word : List IV → Sto → Out IV := mDef 2 b_is_word
noncomputable def b_name_fits : IS := (iRet (iAndV (iCall 1 m_is_word (iCons (iVar 0) iNil)) (iBin fNotIn (iVar 0) (iC (.tup (c_KEYWORDS.map IV.str))))))
noncomputable def m_name_fits : List IV → Sto → Out IV := mDef 1 b_name_fits
noncomputable def b_read_step : IS := (iSeq (iIf (iTest (iBin fEq (iBin fIx (iVar 0) (iC (.int 0))) (iC (.str "[")))) (iSeq (iAsg (iBM "str" fPart (iSl false (iVar 0) (iPart (iC (.int 1))) iNoPart) (iCons (iC (.str "]")) iNil)) (iGTup 3 (iGCons (iName 1) (iGCons (iName 2) (iGCons (iName 3) iGNil))))) (iSeq (iIf (iOr (iTest (iBin fEq (iVar 2) (iC (.str "")))) (iNot (iTru (iCall 1 m_name_fits (iCons (iVar 1) iNil))))) (iRet (iC .non)) iNext) (iRet (iTup (iCons (iC (.str "[")) (iCons (iVar 1) (iCons (iVar 3) iNil))))))) iNext) (iSeq (iIf (iTest (iBin fNe (iBin fIx (iVar 0) (iC (.int 0))) (iC (.str ".")))) (iRet (iC .non)) iNext) (iSeq (iSet 4 (iC (.int 1))) (iSeq (iWhile (iAnd (iTest (iBin fLt (iVar 4) (iCa fLen (iCons (iVar 0) iNil)))) (iTest (iBin fIn (iBin fIx (iVar 0) (iVar 4)) (iC (.str c_LETTERS))))) (iAug 4 fAddI (iC (.int 1)))) (iSeq (iIf (iNot (iTru (iCall 1 m_name_fits (iCons (iSl false (iVar 0) (iPart (iC (.int 1))) (iPart (iVar 4))) iNil)))) (iRet (iC .non)) iNext) (iRet (iTup (iCons (iC (.str ".")) (iCons (iSl false (iVar 0) (iPart (iC (.int 1))) (iPart (iVar 4))) (iCons (iSl false (iVar 0) (iPart (iVar 4)) iNoPart) iNil))))))))))
noncomputable def m_read_step : List IV → Sto → Out IV := mDef 5 b_read_step
noncomputable def b_read_path : IS := (iSeq (iIf (iNot (iTru (iCa fIsi (iCons (iVar 0) (iCons (iC (.ty "str")) iNil))))) (iRet (iC .non)) iNext) (iSeq (iSet 1 (iC (.int 0))) (iSeq (iWhile (iAnd (iTest (iBin fLt (iVar 1) (iCa fLen (iCons (iVar 0) iNil)))) (iTest (iBin fIn (iBin fIx (iVar 0) (iVar 1)) (iC (.str c_LETTERS))))) (iAug 1 fAddI (iC (.int 1)))) (iSeq (iSet 2 (iSl false (iVar 0) iNoPart (iPart (iVar 1)))) (iSeq (iIf (iNot (iTru (iCall 1 m_name_fits (iCons (iVar 2) iNil)))) (iRet (iC .non)) iNext) (iSeq (iSet 3 (iLst true iNil)) (iSeq (iSet 4 (iSl false (iVar 0) (iPart (iVar 1)) iNoPart)) (iSeq (iWhile (iTest (iBin fNe (iVar 4) (iC (.str "")))) (iSeq (iSet 5 (iCall 1 m_read_step (iCons (iVar 4) iNil))) (iSeq (iIf (iOr (iTest (iBin gIsN (iVar 5) (iC .non))) (iTest (iBin fEq (iCa fLen (iCons (iVar 3) iNil)) (iC (.int 3))))) (iRet (iC .non)) iNext) (iSeq (iDrop (iBM "list" fApp (iVar 3) (iCons (iTup (iCons (iBin fIx (iVar 5) (iC (.int 0))) (iCons (iBin fIx (iVar 5) (iC (.int 1))) iNil))) iNil))) (iSet 4 (iBin fIx (iVar 5) (iC (.int 2)))))))) (iRet (iTup (iCons (iVar 0) (iCons (iVar 2) (iCons (iCa fTuple (iCons (iVar 3) iNil)) iNil)))))))))))))
noncomputable def m_read_path : List IV → Sto → Out IV := mDef 6 b_read_path
noncomputable def b_Reader_need : IS := (iIf (iNot (iTru (iVar 1))) (iRaise "BadLine" "at" (iCons (iUn (fFld "Reader" "at") (iVar 0)) iNil)) iNext)
noncomputable def m_Reader_need : List IV → Sto → Out IV := mDef 2 b_Reader_need
noncomputable def b_Reader_module : IS := (iRet (iBin fIx (iUn (fFld "Reader" "modules") (iVar 0)) (iUn fNeg (iC (.int 1)))))
noncomputable def m_Reader_module : List IV → Sto → Out IV := mDef 1 b_Reader_module
noncomputable def b_Reader_path_above : IS := (iSeq (iSet 3 (iCall 1 m_read_path (iCons (iVar 1) iNil))) (iSeq (iDrop (iMeth "Reader" "need" 2 m_Reader_need (iVar 0) (iCons (iBin gNotN (iVar 3) (iC .non)) iNil))) (iSeq (iSet 4 (iBin fDGet (iUn (fFld "Reader" "declared") (iVar 0)) (iMeth "Reader" "module" 1 m_Reader_module (iVar 0) iNil))) (iSeq (iDrop (iMeth "Reader" "need" 2 m_Reader_need (iVar 0) (iCons (iAndV (iBin fDIn (iBin fIx (iVar 3) (iC (.int 1))) (iVar 4)) (iBin fLt (iBin fDGet (iVar 4) (iBin fIx (iVar 3) (iC (.int 1)))) (iVar 2))) iNil))) (iRet (iVar 3))))))
noncomputable def m_Reader_path_above : List IV → Sto → Out IV := mDef 5 b_Reader_path_above
noncomputable def b_Reader_worth : IS := (iSeq (iIf (iTest (iBin fEq (iVar 1) (iC (.str "none")))) (iRet (iC .non)) iNext) (iRet (iMeth "Reader" "path_above" 3 m_Reader_path_above (iVar 0) (iCons (iVar 1) (iCons (iVar 2) iNil)))))
noncomputable def m_Reader_worth : List IV → Sto → Out IV := mDef 3 b_Reader_worth
end RD
set_option maxHeartbeats 2000000
/-! the project's reader: words and paths -/
namespace RD
open PySem PySem.Spec PyProof.Rows L2 Sm
theorem szl : (sizeLine : Nat) = 16777216 := sizeLine_eq
def alpha : Str := "abcdefghijklmnopqrstuvwxyz"
theorem alpha_len : alpha.length = 26 := by decide +kernel
/-- all signs are letters -/
def abc (s : Str) : Bool := (sg s).all (fun c => decide (c ∈ sg alpha))
def nameB (s : Str) : Bool := decide (1 ≤ s.length ∧ s.length ≤ 8) && abc s && !decide (s ∈ c_KEYWORDS)
def wordB : IS := iIf (iTest (iBin fNotIn (iVar 1) (iC (.str c_LETTERS)))) (iRet (iC (.bl false))) iNext
theorem word_step {S : Sto} {x : IV} {c : Nat} : wordB [some x, some (.str ⟨#[c]⟩)] S = if c ∈ sg alpha then .ok (.nx [some x, some (.str ⟨#[c]⟩)]) S else .ok (.rt (.bl false)) S := by
  have hi : inB S (.str ⟨#[c]⟩) (.str c_LETTERS) = some (decide (c ∈ sg alpha)) := rfl
  unfold wordB
  by_cases h : c ∈ sg alpha
  · rw [if_pos h]; simp [iVar_s, hi, h]
  · rw [if_neg h]; simp [iVar_s, hi, h]
theorem word_t {S : Sto} {all : List IV} {x : IV} : ∀ (cs : List Nat) (u : Option IV), (∀ c ∈ cs, c ∈ sg alpha) → ∃ u', iIter ⟨all, none⟩ (iName 1) wordB (cs.map fun c => .str ⟨#[c]⟩) [some x, u] S = .ok (.nx [some x, u']) S
  | [], u, _ => ⟨u, by unfold iIter; exact chkP_pos (stay_none _ _)⟩
  | c :: cs, u, h => by
    obtain ⟨u', e⟩ := word_t cs (some (.str ⟨#[c]⟩)) fun d hd => h d (List.mem_cons_of_mem _ hd)
    refine ⟨u', ?_⟩
    rw [List.map_cons]
    unfold iIter
    rw [chkP_pos (stay_none _ _)]
    simp only [iName_e, Out.bind_ok, List.set_cons_succ, List.set_cons_zero]
    rw [word_step, if_pos (h c List.mem_cons_self)]
    exact e
theorem word_f {S : Sto} {all : List IV} {x : IV} : ∀ (cs : List Nat) (u : Option IV), ¬ (∀ c ∈ cs, c ∈ sg alpha) → iIter ⟨all, none⟩ (iName 1) wordB (cs.map fun c => .str ⟨#[c]⟩) [some x, u] S = .ok (.rt (.bl false)) S
  | [], u, h => absurd (fun _ z => by cases z) h
  | c :: cs, u, h => by
    rw [List.map_cons]
    unfold iIter
    rw [chkP_pos (stay_none _ _)]
    simp only [iName_e, Out.bind_ok, List.set_cons_succ, List.set_cons_zero]
    rw [word_step]
    by_cases hc : c ∈ sg alpha
    · rw [if_pos hc]
      exact word_f cs (some (.str ⟨#[c]⟩)) fun q => h fun d hd => (List.mem_cons.mp hd).elim (fun e => e ▸ hc) (q d)
    · rw [if_neg hc]
      rfl
theorem abc_iff {s : Str} : abc s = true ↔ ∀ c ∈ sg s, c ∈ sg alpha := by
  unfold abc
  rw [List.all_eq_true]
  exact ⟨fun h c hc => of_decide_eq_true (h c hc), fun h c hc => decide_eq_true (h c hc)⟩
theorem is_word_ok {S : Sto} {s : Str} (hs : s.length ≤ 1000000) : m_is_word [.str s] S = .ok (.bl (decide (1 ≤ s.length ∧ s.length ≤ 8) && abc s)) S := by
  unfold m_is_word
  refine mDef_rt ?_
  have q0 : s.length ≤ sizeLine := by rw [szl]; omega
  have k1 : kitN "str" "str" = some true := by decide +kernel
  show (iSeq _ (iSeq (iFor (iSrcS (iVar 0)) (iName 1) wordB) (iRet (iC (.bl true)))) : IS) _ _ = _
  by_cases h1 : 1 ≤ s.length
  · have g1 : (1 : Int) ≤ s.length := by omega
    by_cases h2 : s.length ≤ 8
    · have g2 : (s.length : Int) ≤ 8 := by omega
      by_cases h3 : abc s = true
      · obtain ⟨u', e⟩ := word_t (S := S) (all := (sg s).map fun c => .str ⟨#[c]⟩) (x := .str s) (sg s) none (abc_iff.mp h3)
        simp [iVar_s, q0, k1, g1, g2, h1, h2, h3, e]
      · have e := word_f (S := S) (all := (sg s).map fun c => .str ⟨#[c]⟩) (x := .str s) (sg s) none (fun z => h3 (abc_iff.mpr z))
        simp [iVar_s, q0, k1, g1, g2, h1, h2, h3, e]
    · have g2 : ¬ (s.length : Int) ≤ 8 := by omega
      simp [iVar_s, q0, k1, g1, g2, h1, h2]
  · have g1 : ¬ (1 : Int) ≤ s.length := by omega
    simp [iVar_s, q0, k1, g1, h1]
theorem fits_ok {S : Sto} {s : Str} (hs : s.length ≤ 1000000) : m_name_fits [.str s] S = .ok (.bl (nameB s)) S := by
  unfold m_name_fits
  refine mDef_rt ?_
  unfold b_name_fits
  simp [iVar_s, is_word_ok hs, chk_pos, inB_tup, nameB]
  by_cases q : (1 ≤ s.length ∧ s.length ≤ 8) ∧ abc s = true
  · simp [q.1, q.2]
  · simp [q]
/-! ### lines and words -/
def wordsOf (s : Str) : List Str := Txt.split s " "
/-- a line that can be read -/
structure LnOk (s : Str) : Prop where
  len : s.length ≤ 1000000
  cnt : (wordsOf s).length ≤ 1000000
  ok : ∀ w ∈ wordsOf s, w.length ≤ 1000000 ∧ okS w
/-! ### the reader's store -/
/-- a module: its name, the cells of its rows and of its names, and what they hold -/
structure Mod where
  name : Str
  a : Nat
  d : Nat
  rows : List IV
  decl : List (Str × Nat)
def declV (l : List (Str × Nat)) : List (Key × IV) := l.map fun p => (.inr p.1, .int p.2)
structure RQ where
  pos : Nat
  ms : List Mod
  places : List (Key × IV)
  defs : List (Key × IV)
  kept : IV
def rFs (r : Nat) (L : List Str) (pos : Nat) (kept : IV) : List (Str × IV) :=
  [("lines", .lst (L.map .str)), ("at", .int pos), ("modules", .adr (r + 1)), ("rows", .adr (r + 2)), ("declared", .adr (r + 3)), ("places", .adr (r + 4)), ("defs", .adr (r + 5)), ("kept", kept)]
structure MR (S : Sto) (r : Nat) (m : Mod) : Prop where
  a : S[m.a]? = some (.lst m.rows)
  d : S[m.d]? = some (.dic (declV m.decl))
  la : r + 5 < m.a
  ld : r + 5 < m.d
  nm : nameB m.name = true
  db : ∀ p ∈ m.decl, p.2 < 1000000
structure Rep (B : Sto) (r : Nat) (L : List Str) (S : Sto) (q : RQ) : Prop where
  base : Ext [] B S
  bl : B.length ≤ r
  self : S[r]? = some (.ins "Reader" (rFs r L q.pos q.kept))
  mods : S[r + 1]? = some (.lst (q.ms.map fun m => .str m.name))
  rows : S[r + 2]? = some (.dic (q.ms.map fun m => (.inr m.name, .adr m.a)))
  decl : S[r + 3]? = some (.dic (q.ms.map fun m => (.inr m.name, .adr m.d)))
  places : S[r + 4]? = some (.dic q.places)
  defs : S[r + 5]? = some (.dic q.defs)
  ms : ∀ m ∈ q.ms, MR S r m
  na : (q.ms.map (·.a)).Nodup
  nd : (q.ms.map (·.d)).Nodup
  nn : (q.ms.map (·.name)).Nodup
theorem bs {B S : Sto} {n : Nat} {c : Cell} (h : Ext [] B S) (hn : B.length ≤ n) : Ext [] B (S.set n c) := h.trans' (.set (ds := [n]) (.inl (by simp))) fun e he => .inr (by rw [List.mem_singleton.mp he]; exact hn)
theorem ba {B S T : Sto} (h : Ext [] B S) : Ext [] B (S ++ T) := h.trans (.app T)
/-- a line is wrong -/
def Err {α : Type} (B : Sto) (o : Out α) (k : Int) : Prop := ∃ n Λ S', o = .exc "BadLine" n Λ S' ∧ S'[n]? = some (.xd [("at", .int k)]) ∧ Ext [] B S'
theorem Err.bind {B : Sto} {α β : Type} {o : Out α} {k : Int} (h : Err B o k) (f : α → Sto → Out β) : Err B (o.bind f) k := by
  obtain ⟨n, Λ, S', e, h⟩ := h
  exact ⟨n, Λ, S', by rw [e]; rfl, h⟩
theorem Err.relab {B : Sto} {o : Out IV} {k : Int} (h : Err B o k) (Λ : Slots) : Err B (relab Λ o) k := by
  obtain ⟨n, Λ', S', e, h⟩ := h
  exact ⟨n, Λ, S', by rw [e]; rfl, h⟩
theorem Err.mdef {B : Sto} {n : Nat} {b : IS} {xs : List IV} {S : Sto} {k : Int} (h : Err B (b (xs.map some ++ List.replicate (n - xs.length) none) S) k) : Err B (mDef n b xs S) k := by
  obtain ⟨n', Λ', S', e, h⟩ := h
  exact ⟨n', [], S', by rw [mDef_e, e], h⟩
section
variable {B : Sto} {r : Nat} {L : List Str} {S : Sto} {q : RQ}
@[simp] theorem iUn_fld {C f : Str} {m : IE} {Λ : Slots} : iUn (fFld C f) m Λ S = (m Λ S).bind fun x S1 => fFld C f x S1 := rfl
theorem fFld_s {C f : Str} {n : Nat} {fs : List (Str × IV)} {v : IV} (h : S[n]? = some (.ins C fs)) (hl : fs.lookup f = some v) : fFld C f (.adr n) S = .ok v S := by
  unfold fFld
  rw [onI_s h, hl]
  rfl
theorem fld_at (h : Rep B r L S q) : fFld "Reader" "at" (.adr r) S = .ok (.int q.pos) S := fFld_s h.self rfl
theorem fld_modules (h : Rep B r L S q) : fFld "Reader" "modules" (.adr r) S = .ok (.adr (r + 1)) S := fFld_s h.self rfl
theorem fld_declared (h : Rep B r L S q) : fFld "Reader" "declared" (.adr r) S = .ok (.adr (r + 3)) S := fFld_s h.self rfl
theorem fld_kept (h : Rep B r L S q) : fFld "Reader" "kept" (.adr r) S = .ok q.kept S := fFld_s h.self rfl
/-- o.m(..) of the reader -/
theorem meth_s {m : Str} {np : Nat} {mf : List IV → Sto → Out IV} {ma : IA} {C : Str} {n : Nat} {fs : List (Str × IV)} {mo : IE} {Λ : Slots} {S1 : Sto} (ho : mo Λ S = .ok (.adr n) S1) (h : S1[n]? = some (.ins C fs)) (hl : fs.lookup m = none) :
    iMeth C m np mf mo ma Λ S = (ma Λ S1).bind fun xs S2 => chk (xs.length + 1 = np) (relab Λ (mf (.adr n :: xs) S2)) := by
  unfold iMeth
  rw [ho, Out.bind_ok, onI_s h, chk_pos hl]
theorem need_t {b : Bool} (hb : b = true) (x : IV) : m_Reader_need [x, .bl b] S = .ok .non S := by
  subst hb
  unfold m_Reader_need b_Reader_need
  rw [mDef_e]
  simp [iVar_s]
theorem need_f {b : Bool} (hb : b = false) (h : Rep B r L S q) : Err B (m_Reader_need [.adr r, .bl b] S) q.pos := by
  subst hb
  unfold m_Reader_need b_Reader_need
  refine Err.mdef ⟨S.length, [some (.adr r), some (.bl false)], S ++ [.xd [("at", .int q.pos)]], ?_, by simp, ba h.base⟩
  simp [iVar_s, iRaise, fld_at h]
end
end RD
set_option maxHeartbeats 2000000
/-! the reader's store, changed -/
namespace RD
open PySem PySem.Spec PyProof.Rows L2 Sm
theorem get_app {S T : Sto} {n : Nat} {c : Cell} (h : S[n]? = some c) : (S ++ T)[n]? = some c := by
  rw [List.getElem?_append_left (List.getElem?_eq_some_iff.mp h).1]; exact h
theorem get_set {S : Sto} {n m : Nat} {c c' : Cell} (h : S[n]? = some c) (hn : m ≠ n) : (S.set m c')[n]? = some c := by
  rw [List.getElem?_set_ne hn]; exact h
theorem get_self {S : Sto} {n : Nat} {c c' : Cell} (h : S[n]? = some c) : (S.set n c')[n]? = some c' := List.getElem?_set_self (List.getElem?_eq_some_iff.mp h).1
section
variable {B : Sto} {r : Nat} {L : List Str} {S : Sto} {q : RQ}
theorem MR.app {m : Mod} (h : MR S r m) (T : Sto) : MR (S ++ T) r m := ⟨get_app h.a, get_app h.d, h.la, h.ld, h.nm, h.db⟩
theorem MR.set {m : Mod} (h : MR S r m) {n : Nat} {c : Cell} (ha : n ≠ m.a) (hd : n ≠ m.d) : MR (S.set n c) r m := ⟨get_set h.a ha, get_set h.d hd, h.la, h.ld, h.nm, h.db⟩
theorem Rep.bset (h : Rep B r L S q) {n : Nat} {c : Cell} (hn : r ≤ n) : Ext [] B (S.set n c) := h.base.trans' (.set (ds := [n]) (.inl (by simp))) fun e he => .inr (by have := h.bl; rw [List.mem_singleton.mp he]; omega)
theorem Rep.app (h : Rep B r L S q) (T : Sto) : Rep B r L (S ++ T) q :=
  ⟨h.base.trans (.app T), h.bl, get_app h.self, get_app h.mods, get_app h.rows, get_app h.decl, get_app h.places, get_app h.defs, fun m hm => (h.ms m hm).app T, h.na, h.nd, h.nn⟩
theorem Rep.low (h : Rep B r L S q) {n : Nat} {c : Cell} (hr : n ≤ r + 5) : ∀ m ∈ q.ms, MR (S.set n c) r m := fun m hm => (h.ms m hm).set (by have := (h.ms m hm).la; omega) (by have := (h.ms m hm).ld; omega)
theorem Rep.self' (h : Rep B r L S q) {pos : Nat} {kept : IV} : Rep B r L (S.set r (.ins "Reader" (rFs r L pos kept))) { q with pos := pos, kept := kept } :=
  ⟨h.bset (by omega), h.bl, get_self h.self, get_set h.mods (by omega), get_set h.rows (by omega), get_set h.decl (by omega), get_set h.places (by omega), get_set h.defs (by omega), h.low (by omega), h.na, h.nd, h.nn⟩
/-! ### module, is_above, keep_row, declare -/
theorem atI_neg1 {α : Type} (xs : List α) (x : α) : atI (xs ++ [x]) (-1) = some x := by
  unfold atI ixN
  rw [if_neg (by omega), if_pos (by simp; omega)]
  have e : (-1 + ((xs ++ [x]).length : Int)).toNat = xs.length := by simp; omega
  rw [e]
  simp
@[simp] theorem fNeg_i (i : Int) : fNeg (.int i) S = .ok (.int (-i)) S := rfl
theorem module_ok (h : Rep B r L S q) {init : List Mod} {m : Mod} (hq : q.ms = init ++ [m]) : m_Reader_module [.adr r] S = .ok (.str m.name) S := by
  unfold m_Reader_module b_Reader_module
  refine mDef_rt ?_
  have e := h.mods
  rw [hq, List.map_append] at e
  have e2 : fIx (.adr (r + 1)) (.int (-1)) S = .ok (.str m.name) S := by
    rw [fIx_a e]
    show orBad (atI (_ ++ [IV.str m.name]) (-1)) _ = _
    rw [atI_neg1]
    rfl
  simp [iVar_s, fld_modules h, e2]
theorem find_map {β : Type} (f : Mod → β) {ms : List Mod} {m : Mod} (hm : m ∈ ms) (nn : (ms.map (·.name)).Nodup) : ((ms.map fun m => ((.inr m.name, f m) : Key × β)).find? fun kv => decide (kv.1 = .inr m.name)).map (·.2) = some (f m) := by
  induction ms with
  | nil => cases hm
  | cons x ms ih =>
    rw [List.map_cons, List.find?_cons]
    rcases List.mem_cons.mp hm with rfl | hm'
    · simp
    · have hne : x.name ≠ m.name := fun e => by
        rw [List.map_cons, List.nodup_cons] at nn
        exact nn.1 (List.mem_map.mpr ⟨m, hm', e.symm⟩)
      have : decide ((Sum.inr x.name : Key) = .inr m.name) = false := decide_eq_false fun e => hne (Sum.inr.inj e)
      simp only [this]
      exact ih hm' (List.nodup_cons.mp nn).2
theorem get_decl (h : Rep B r L S q) {m : Mod} (hm : m ∈ q.ms) : fDGet (.adr (r + 3)) (.str m.name) S = .ok (.adr m.d) S := by
  unfold fDGet
  rw [onD_s h.decl]
  show orBad (valI _ (.inr m.name)) _ = _
  have : valI (q.ms.map fun m => (.inr m.name, .adr m.d)) (.inr m.name) = some (.adr m.d) := find_map (fun m => IV.adr m.d) hm h.nn
  rw [this]
  rfl
theorem hasTy_a {n : Nat} {xs : List IV} (h : S[n]? = some (.lst xs)) : hasTy "list" S (.adr n) = true := by
  unfold hasTy lstOf
  simp only [h]
  rfl
theorem app_s {n : Nat} {xs : List IV} {v : IV} (h : S[n]? = some (.lst xs)) (hl : xs.length < sizeLine) : fApp (.adr n) [v] S = .ok .non (S.set n (.lst (xs ++ [v]))) := by
  unfold fApp
  rw [a1_1, onL_s h, chk_pos hl]
theorem mMod {mo : IE} {Λ : Slots} {S0 : Sto} (ho : mo Λ S0 = .ok (.adr r) S) (h : Rep B r L S q) {init : List Mod} {m : Mod} (hq : q.ms = init ++ [m]) : iMeth "Reader" "module" 1 m_Reader_module mo iNil Λ S0 = .ok (.str m.name) S := by
  rw [meth_s ho h.self rfl]
  simp [module_ok h hq, chk_pos]
theorem mNeed {mo : IE} {Λ : Slots} {S0 : Sto} (ho : mo Λ S0 = .ok (.adr r) S) (h : Rep B r L S q) {me : IE} {b : Bool} {S1 : Sto} (e : me Λ S = .ok (.bl b) S1) (hb : b = true) : iMeth "Reader" "need" 2 m_Reader_need mo (iCons me iNil) Λ S0 = .ok .non S1 := by
  rw [meth_s ho h.self rfl]
  simp [e, chk_pos, need_t hb]
theorem mNeedF {mo : IE} {Λ : Slots} {S0 : Sto} (ho : mo Λ S0 = .ok (.adr r) S) (h : Rep B r L S q) {me : IE} {b : Bool} {S1 : Sto} {q1 : RQ} (e : me Λ S = .ok (.bl b) S1) (h1 : Rep B r L S1 q1) (hb : b = false) : Err B (iMeth "Reader" "need" 2 m_Reader_need mo (iCons me iNil) Λ S0) q1.pos := by
  rw [meth_s ho h.self rfl]
  simp only [iCons_e, iNil_e, e, Out.bind_ok]
  rw [chk_pos (show [IV.bl b].length + 1 = 2 from rfl)]
  exact (need_f hb h1).relab _
end
end RD
set_option maxHeartbeats 2000000
/-! while, turn by turn; paths -/
namespace RD
open PySem PySem.Spec PyProof.Rows L2 Sm
section
variable {B : Sto} {c : IT} {b : IS} {Λ L : Slots} {S S1 S2 : Sto} {o : Out Fl}
theorem iWhile_ex (h : iWhile c b Λ S = o) (hn : o ≠ .bad) : ∃ n, iWh c b n Λ S = o := by
  unfold iWhile at h
  split at h
  · exact ⟨_, h⟩
  · exact absurd h.symm hn
theorem iWhile_f (hc : c Λ S = .ok false S1) : iWhile c b Λ S = .ok (.nx Λ) S1 := iWhile_of (n := 1) (by unfold iWh; rw [hc]; rfl) (by simp)
theorem iWhile_t (hc : c Λ S = .ok true S1) (hb : b Λ S1 = .ok (.nx L) S2) (h : iWhile c b L S2 = o) (hn : o ≠ .bad) : iWhile c b Λ S = o := by
  obtain ⟨n, e⟩ := iWhile_ex h hn
  refine iWhile_of (n := n + 1) ?_ hn
  unfold iWh
  rw [hc, Out.bind_ok, if_pos rfl, hb, Out.bind_ok]
  exact e
theorem iWhile_r {v : IV} (hc : c Λ S = .ok true S1) (hb : b Λ S1 = .ok (.rt v) S2) : iWhile c b Λ S = .ok (.rt v) S2 := iWhile_of (n := 1) (by unfold iWh; rw [hc, Out.bind_ok, if_pos rfl, hb]; rfl) (by simp)
theorem Err.nb {B : Sto} {α : Type} {o : Out α} {k : Int} (h : Err B o k) : o ≠ .bad := by
  obtain ⟨n, Λ', S', e, h⟩ := h
  rw [e]; simp
end
/-! ### the letters that follow -/
def isL (c : Nat) : Bool := decide (c ∈ sg alpha)
def lets (cs : List Nat) : Nat := (cs.takeWhile isL).length
def letT (j : Nat) : IT := iAnd (iTest (iBin fLt (iVar j) (iCa fLen (iCons (iVar 0) iNil)))) (iTest (iBin fIn (iBin fIx (iVar 0) (iVar j)) (iC (.str c_LETTERS))))
def letB (j : Nat) : IS := iAug j fAddI (iC (.int 1))
theorem lt_get {xs : Slots} {i : Nat} {x : Option IV} (h : xs[i]? = some x) : i < xs.length := (List.getElem?_eq_some_iff.mp h).1
theorem letters_while {s : Str} {j : Nat} (hj : j ≠ 0) (hs : s.length ≤ 1000000) {S : Sto} : ∀ (cs : List Nat) (k : Nat) (Λ : Slots), (sg s).drop k = cs → Λ[0]? = some (some (.str s)) → Λ[j]? = some (some (.int k)) →
    iWhile (letT j) (letB j) Λ S = .ok (.nx (Λ.set j (some (.int ((k + lets cs : Nat) : Int))))) S
  | [], k, Λ, hd, h0, hj' => by
    have hk : s.length ≤ k := by
      have := congrArg List.length hd
      rw [List.length_drop, sg_len] at this
      simp at this
      omega
    have q0 : s.length ≤ sizeLine := by rw [szl]; omega
    have e1 : ¬ ((k : Int) < (s.length : Int)) := by omega
    have e : letT j Λ S = .ok false S := by
      unfold letT
      simp [iVar_s h0, iVar_s hj', q0, e1]
    rw [iWhile_f e]
    have : Λ.set j (some (.int ((k + lets [] : Nat) : Int))) = Λ := by
      refine List.ext_getElem? fun i => ?_
      by_cases hi : i = j
      · subst hi
        rw [List.getElem?_set_self (lt_get hj'), hj']
        rfl
      · rw [List.getElem?_set_ne (Ne.symm hi)]
    rw [this]
  | c :: cs, k, Λ, hd, h0, hj' => by
    have hk : k < s.length := by
      have := congrArg List.length hd
      rw [List.length_drop, sg_len] at this
      simp at this
      omega
    have q0 : s.length ≤ sizeLine := by rw [szl]; omega
    have hc : (sg s)[k]? = some c := by
      have := congrArg (fun l => l[0]?) hd
      simpa using this
    have e1 : (k : Int) < (s.length : Int) := by omega
    have e2 : atI (sg s) (k : Int) = some c := atI_n hc
    have e2' : atI s.cps.toList (k : Int) = some c := e2
    have hi : inB S (.str ⟨#[c]⟩) (.str c_LETTERS) = some (isL c) := rfl
    have e : letT j Λ S = .ok (isL c) S := by
      unfold letT
      simp [iVar_s h0, iVar_s hj', q0, e1, e2', chk_pos, hi]
    cases hl : isL c with
    | false =>
      rw [hl] at e
      rw [iWhile_f e]
      have hz : lets (c :: cs) = 0 := by unfold lets; rw [List.takeWhile_cons, hl]; rfl
      have : Λ.set j (some (.int ((k + lets (c :: cs) : Nat) : Int))) = Λ := by
        rw [hz]
        refine List.ext_getElem? fun i => ?_
        by_cases hi : i = j
        · subst hi
          rw [List.getElem?_set_self (lt_get hj'), hj']
          rfl
        · rw [List.getElem?_set_ne (Ne.symm hi)]
      rw [this]
    | true =>
      rw [hl] at e
      have hz : lets (c :: cs) = lets cs + 1 := by unfold lets; rw [List.takeWhile_cons, hl]; simp
      have hb : letB j Λ S = .ok (.nx (Λ.set j (some (.int ((k + 1 : Nat) : Int))))) S := by
        unfold letB iAug
        rw [iVar_s hj']
        simp [fAddI]
      have ih := letters_while hj hs (S := S) cs (k + 1) (Λ.set j (some (.int ((k + 1 : Nat) : Int)))) (by
        have : (sg s).drop (k + 1) = ((sg s).drop k).drop 1 := by rw [List.drop_drop]
        rw [this, hd]; rfl) (by rw [List.getElem?_set_ne hj]; exact h0) (List.getElem?_set_self (lt_get hj'))
      rw [List.set_set] at ih
      rw [iWhile_t e hb ih (by simp), hz]
      rw [show k + 1 + lets cs = k + (lets cs + 1) by omega]
/-! ### a step -/
def stepP (s : Str) : Option (Str × Str × Str) := match sg s with
  | [] => none
  | c :: cs => if c = 91 then (if (Txt.partition (cutS s (some 1) none) "]").2.1 = "" ∨ nameB (Txt.partition (cutS s (some 1) none) "]").1 = false then none else some ("[", (Txt.partition (cutS s (some 1) none) "]").1, (Txt.partition (cutS s (some 1) none) "]").2.2))
    else if c = 46 then (if nameB (cutS s (some 1) (some ((1 + lets cs : Nat) : Int))) = true then some (".", cutS s (some 1) (some ((1 + lets cs : Nat) : Int)), cutS s (some ((1 + lets cs : Nat) : Int)) none) else none)
    else none
def ivStep (o : Option (Str × Str × Str)) : IV := match o with
  | none => .non
  | some (a, b, c) => .tup [.str a, .str b, .str c]
theorem one_inj {c d : Nat} (h : (⟨#[c]⟩ : Str) = ⟨#[d]⟩) : c = d := by
  have := congrArg sg h
  simpa [sg] using this
theorem part_len (s y : Str) : (Txt.partition s y).1.length ≤ s.length ∧ (Txt.partition s y).2.2.length ≤ s.length := by
  unfold Txt.partition
  split
  · exact ⟨le_strSub _ _ _, le_strSub _ _ _⟩
  · exact ⟨Nat.le_refl _, Nat.zero_le _⟩
theorem one_eq (c d : Nat) (y : Str) (h : y = ⟨#[d]⟩) : ((⟨#[c]⟩ : Str) = y) = (c = d) := by
  subst h
  exact propext ⟨one_inj, fun e => by rw [e]⟩
@[simp] theorem tupOf_t (xs : List IV) : tupOf (.tup xs) = some xs := rfl
@[simp] theorem iGTup_e (n : Nat) (g : IGs) (v : IV) (Λ : Slots) (S : Sto) : iGTup n g v Λ S = orBad (tupOf v) fun xs => chk (xs.length = n) (g xs Λ S) := rfl
@[simp] theorem iGCons_e (g : IG) (r : IGs) (x : IV) (xs : List IV) (Λ : Slots) (S : Sto) : iGCons g r (x :: xs) Λ S = (g x Λ S).bind fun L S1 => r xs L S1 := rfl
@[simp] theorem iGNil_e (Λ : Slots) (S : Sto) : iGNil [] Λ S = .ok Λ S := rfl
theorem read_step_ok {S : Sto} {s : Str} (hs : s.length ≤ 1000000) (h0 : 0 < s.length) : m_read_step [.str s] S = .ok (ivStep (stepP s)) S := by
  unfold m_read_step
  refine mDef_rt ?_
  have q0 : s.length ≤ sizeLine := by rw [szl]; omega
  cases hc : sg s with
  | nil => have := sg_len s; rw [hc] at this; simp at this; omega
  | cons c cs =>
    have e0 : fIx (.str s) (.int 0) S = .ok (.str ⟨#[c]⟩) S := by
      have : s.cps.toList = c :: cs := hc
      rw [fIx_s, chk_pos q0, this]; simp
    have oL := one_eq c 91 "[" (by decide +kernel)
    have oD := one_eq c 46 "." (by decide +kernel)
    have eR : ((("]" : Str).length == 0) = false) := by decide +kernel
    have q1 : (cutS s (some 1) none).length ≤ 1000000 := Nat.le_trans (len_cut _ _ _) hs
    have q2 : (cutS s (some 1) none).length ≤ sizeLine := by rw [szl]; omega
    have q3 := part_len (cutS s (some 1) none) "]"
    have three : (3 : Nat) ≤ sizeLine := by rw [szl]; omega
    have eP : fPart (.str (cutS s (some 1) none)) [.str "]"] S = .ok (.tup [.str (Txt.partition (cutS s (some 1) none) "]").1, .str (Txt.partition (cutS s (some 1) none) "]").2.1, .str (Txt.partition (cutS s (some 1) none) "]").2.2]) S := by
      show chk _ _ = _
      rw [chk_pos ⟨eR, q2⟩]
    have eT : hasTy "str" S (.str (cutS s (some 1) none)) = true := rfl
    unfold stepP
    rw [hc]
    simp only []
    by_cases h1 : c = 91
    · have dL : (⟨#[c]⟩ : Str) = "[" := by rw [oL]; exact h1
      rw [dL] at e0
      have eF := fits_ok (S := S) (s := (Txt.partition (cutS s (some 1) none) "]").1) (by omega)
      rw [if_pos h1]
      by_cases h2 : (Txt.partition (cutS s (some 1) none) "]").2.1 = ""
      · rw [if_pos (.inl h2)]
        unfold b_read_step
        simp [iVar_s, q0, e0, chk_pos, eT, eP, h2, ivStep]
      · cases h3 : nameB (Txt.partition (cutS s (some 1) none) "]").1 with
        | false =>
          rw [if_pos (.inr rfl)]
          unfold b_read_step
          simp [iVar_s, q0, e0, chk_pos, eT, eP, h2, ivStep, eF, h3]
        | true =>
          rw [if_neg (by simp [h2])]
          unfold b_read_step
          simp [iVar_s, q0, e0, chk_pos, eT, eP, h2, ivStep, eF, h3, three]
    · have dL : ¬ (⟨#[c]⟩ : Str) = "[" := by rw [oL]; exact h1
      rw [if_neg h1]
      by_cases h2 : c = 46
      · have dD : (⟨#[c]⟩ : Str) = "." := by rw [oD]; exact h2
        have dLD : ¬ ("." : Str) = "[" := by decide +kernel
        rw [dD] at e0
        rw [if_pos h2]
        have eW := letters_while (s := s) (j := 4) (by decide) hs (S := S) cs 1 [some (.str s), none, none, none, some (.int 1)] (by rw [hc]; rfl) rfl rfl
        have eW' : iWhile (iAnd (iTest (iBin fLt (iVar 4) (iCa fLen (iCons (iVar 0) iNil)))) (iTest (iBin fIn (iBin fIx (iVar 0) (iVar 4)) (iC (.str c_LETTERS))))) (iAug 4 fAddI (iC (.int 1))) [some (.str s), none, none, none, some (.int 1)] S = .ok (.nx [some (.str s), none, none, none, some (.int ((1 + lets cs : Nat) : Int))]) S := eW
        have eF := fits_ok (S := S) (s := cutS s (some 1) (some ((1 + lets cs : Nat) : Int))) (Nat.le_trans (len_cut _ _ _) hs)
        generalize ((1 + lets cs : Nat) : Int) = k at *
        cases h3 : nameB (cutS s (some 1) (some k)) with
        | false =>
          rw [if_neg Bool.false_ne_true]
          unfold b_read_step
          simp [iVar_s, q0, e0, chk_pos, dLD, ivStep, eW', eF, h3]
        | true =>
          rw [if_pos rfl]
          unfold b_read_step
          simp [iVar_s, q0, e0, chk_pos, dLD, ivStep, eW', eF, h3, three]
      · have dD : ¬ (⟨#[c]⟩ : Str) = "." := by rw [oD]; exact h2
        rw [if_neg h2]
        unfold b_read_step
        simp [iVar_s, q0, e0, chk_pos, dL, dD, ivStep]
end RD
set_option maxHeartbeats 2000000
namespace RD
open PySem PySem.Spec PyProof.Rows L2 Sm
theorem eq_empty {s : Str} (h : s.length = 0) : s = "" := by
  rw [empty_eq]
  refine sg_inj ?_
  have := sg_len s
  rw [h] at this
  rw [List.length_eq_zero_iff.mp this]
  try rfl
theorem len_pos {s : Str} (h : s ≠ "") : 0 < s.length := Nat.pos_of_ne_zero fun e => h (eq_empty e)
theorem stepP_len {s a b r : Str} (h : stepP s = some (a, b, r)) : r.length ≤ s.length := by
  unfold stepP at h
  split at h
  · cases h
  · split at h
    · split at h
      · cases h
      · cases h
        exact Nat.le_trans (part_len _ _).2 (len_cut _ _ _)
    · split at h
      · split at h
        · cases h
          exact len_cut _ _ _
        · cases h
      · cases h
def stepsP : Nat → Str → List (Str × Str) → Option (List (Str × Str))
  | 0, _, _ => none
  | n + 1, rest, acc => if rest = "" then some acc else match stepP rest with
    | none => none
    | some (a, b, r) => if acc.length = 3 then none else stepsP n r (acc ++ [(a, b)])
def pathP (s : Str) : Option (Str × List (Str × Str)) :=
  if nameB (cutS s none (some (lets (sg s) : Int))) = true then (stepsP 5 (cutS s (some (lets (sg s) : Int)) none) []).map fun st => (cutS s none (some (lets (sg s) : Int)), st) else none
def ivSt (p : Str × Str) : IV := .tup [.str p.1, .str p.2]
def ivPath (s : Str) : Option (Str × List (Str × Str)) → IV
  | none => .non
  | some (hd, st) => .tup [.str s, .str hd, .tup (st.map ivSt)]
noncomputable def pathT : IT := iTest (iBin fNe (iVar 4) (iC (.str "")))
noncomputable def pathB : IS := iSeq (iSet 5 (iCall 1 m_read_step (iCons (iVar 4) iNil))) (iSeq (iIf (iOr (iTest (iBin gIsN (iVar 5) (iC .non))) (iTest (iBin fEq (iCa fLen (iCons (iVar 3) iNil)) (iC (.int 3))))) (iRet (iC .non)) iNext) (iSeq (iDrop (iBM "list" fApp (iVar 3) (iCons (iTup (iCons (iBin fIx (iVar 5) (iC (.int 0))) (iCons (iBin fIx (iVar 5) (iC (.int 1))) iNil))) iNil))) (iSet 4 (iBin fIx (iVar 5) (iC (.int 2))))))
theorem lenN_a {S : Sto} {n : Nat} {xs : List IV} (h : S[n]? = some (.lst xs)) : lenN S (.adr n) = some xs.length := by
  unfold lenN seqOf tupOf lstOf
  simp only [h]
  rfl
theorem steps_while {S0 : Sto} {s hd : IV} {k : IV} : ∀ (n : Nat) (rest : Str) (acc : List (Str × Str)) (x : Option IV), acc.length ≤ 3 → 5 ≤ n + acc.length → rest.length ≤ 1000000 →
    (∀ st, stepsP n rest acc = some st → ∃ x', iWhile pathT pathB [some s, some k, some hd, some (.adr S0.length), some (.str rest), x] (S0 ++ [.lst (acc.map ivSt)]) = .ok (.nx [some s, some k, some hd, some (.adr S0.length), some (.str ""), x']) (S0 ++ [.lst (st.map ivSt)])) ∧
    (stepsP n rest acc = none → ∃ T, iWhile pathT pathB [some s, some k, some hd, some (.adr S0.length), some (.str rest), x] (S0 ++ [.lst (acc.map ivSt)]) = .ok (.rt .non) (S0 ++ T))
  | 0, rest, acc, x, h1, h2, h3 => by omega
  | n + 1, rest, acc, x, h1, h2, h3 => by
    by_cases hr : rest = ""
    · have e : pathT [some s, some k, some hd, some (.adr S0.length), some (.str rest), x] (S0 ++ [.lst (acc.map ivSt)]) = .ok false (S0 ++ [.lst (acc.map ivSt)]) := by
        unfold pathT
        simp [iVar_s, hr]
      refine ⟨fun st he => ⟨x, ?_⟩, fun he => ?_⟩
      · rw [iWhile_f e, hr]
        unfold stepsP at he
        rw [if_pos hr] at he
        cases he
        rfl
      · unfold stepsP at he
        rw [if_pos hr] at he
        cases he
    · have e : pathT [some s, some k, some hd, some (.adr S0.length), some (.str rest), x] (S0 ++ [.lst (acc.map ivSt)]) = .ok true (S0 ++ [.lst (acc.map ivSt)]) := by
        unfold pathT
        simp [iVar_s, hr]
      have ec : (S0 ++ [Cell.lst (acc.map ivSt)])[S0.length]? = some (.lst (acc.map ivSt)) := by simp
      have es := read_step_ok (S := S0 ++ [.lst (acc.map ivSt)]) h3 (len_pos hr)
      have two : (2 : Nat) ≤ sizeLine := by rw [szl]; omega
      have hty := hasTy_a ec
      cases hp : stepP rest with
      | none =>
        have eb : pathB [some s, some k, some hd, some (.adr S0.length), some (.str rest), x] (S0 ++ [.lst (acc.map ivSt)]) = .ok (.rt .non) (S0 ++ [.lst (acc.map ivSt)]) := by
          unfold pathB
          rw [hp] at es
          simp [iVar_s, es, chk_pos, ivStep, isN]
        refine ⟨fun st he => ?_, fun _ => ⟨_, iWhile_r e eb⟩⟩
        unfold stepsP at he
        rw [if_neg hr, hp] at he
        cases he
      | some t =>
        obtain ⟨a, b, r⟩ := t
        have hlen := stepP_len hp
        by_cases h4 : acc.length = 3
        · have eb : pathB [some s, some k, some hd, some (.adr S0.length), some (.str rest), x] (S0 ++ [.lst (acc.map ivSt)]) = .ok (.rt .non) (S0 ++ [.lst (acc.map ivSt)]) := by
            unfold pathB
            rw [hp] at es
            simp [iVar_s, es, chk_pos, ivStep, isN, lenN_a ec, h4]
          refine ⟨fun st he => ?_, fun _ => ⟨_, iWhile_r e eb⟩⟩
          unfold stepsP at he
          rw [if_neg hr, hp] at he
          simp only [if_pos h4] at he
          cases he
        · have h5 : ¬ ((acc.length : Int) = 3) := by omega
          have h6 : (acc.map ivSt).length < sizeLine := by rw [List.length_map, szl]; omega
          have eb : pathB [some s, some k, some hd, some (.adr S0.length), some (.str rest), x] (S0 ++ [.lst (acc.map ivSt)]) = .ok (.nx [some s, some k, some hd, some (.adr S0.length), some (.str r), some (ivStep (some (a, b, r)))]) (S0 ++ [.lst ((acc ++ [(a, b)]).map ivSt)]) := by
            unfold pathB
            rw [hp] at es
            simp [iVar_s, es, chk_pos, ivStep, isN, lenN_a ec, h5, two, hty, app_s ec h6, ivSt]
          have ih := steps_while (S0 := S0) (s := s) (hd := hd) (k := k) n r (acc ++ [(a, b)]) (some (ivStep (some (a, b, r)))) (by simp; omega) (by simp; omega) (by omega)
          have hs : stepsP (n + 1) rest acc = stepsP n r (acc ++ [(a, b)]) := by
            show (if rest = "" then some acc else match stepP rest with
              | none => none
              | some (a, b, r) => if acc.length = 3 then none else stepsP n r (acc ++ [(a, b)])) = _
            rw [if_neg hr, hp]
            exact if_neg h4
          rw [hs]
          refine ⟨fun st he => ?_, fun he => ?_⟩
          · obtain ⟨x', e'⟩ := ih.1 st he
            exact ⟨x', iWhile_t e eb e' (by simp)⟩
          · obtain ⟨T, e'⟩ := ih.2 he
            exact ⟨T, iWhile_t e eb e' (by simp)⟩
theorem stepsP_len : ∀ (n : Nat) (rest : Str) (acc st : List (Str × Str)), acc.length ≤ 3 → stepsP n rest acc = some st → st.length ≤ 3
  | 0, _, _, _, _, h => by cases h
  | n + 1, rest, acc, st, h1, h => by
    unfold stepsP at h
    split at h
    · cases h; exact h1
    · split at h
      · cases h
      · split at h
        · cases h
        · exact stepsP_len n _ _ st (by simp; omega) h
theorem read_path_ok {S : Sto} {s : Str} (hs : s.length ≤ 1000000) : ∃ T, m_read_path [.str s] S = .ok (ivPath s (pathP s)) (S ++ T) := by
  unfold m_read_path
  have q0 : s.length ≤ sizeLine := by rw [szl]; omega
  have k1 : kitN "str" "str" = some true := by decide +kernel
  have three : (3 : Nat) ≤ sizeLine := by rw [szl]; omega
  have zero : (0 : Nat) ≤ sizeLine := Nat.zero_le _
  have eW := letters_while (s := s) (j := 1) (by decide) hs (S := S) (sg s) 0 [some (.str s), some (.int 0), none, none, none, none] rfl rfl rfl
  have eW' : iWhile (iAnd (iTest (iBin fLt (iVar 1) (iCa fLen (iCons (iVar 0) iNil)))) (iTest (iBin fIn (iBin fIx (iVar 0) (iVar 1)) (iC (.str c_LETTERS))))) (iAug 1 fAddI (iC (.int 1))) [some (.str s), some (.int 0), none, none, none, none] S = .ok (.nx [some (.str s), some (.int (lets (sg s) : Int)), none, none, none, none]) S := by
    have := eW
    rw [Nat.zero_add] at this
    exact this
  unfold pathP
  generalize (lets (sg s) : Int) = k at *
  have eF := fits_ok (S := S) (s := cutS s none (some k)) (Nat.le_trans (len_cut _ _ _) hs)
  have lr : (cutS s (some k) none).length ≤ 1000000 := Nat.le_trans (len_cut _ _ _) hs
  cases h3 : nameB (cutS s none (some k)) with
  | false =>
    rw [if_neg Bool.false_ne_true]
    refine ⟨[], mDef_rt ?_⟩
    unfold b_read_path
    simp [iVar_s, q0, chk_pos, k1, eW', eF, h3, ivPath]
  | true =>
    rw [if_pos rfl]
    obtain ⟨g1, g2⟩ := steps_while (S0 := S) (s := .str s) (hd := .str (cutS s none (some k))) (k := .int k) 5 (cutS s (some k) none) [] none (by simp) (by simp) lr
    cases h4 : stepsP 5 (cutS s (some k) none) [] with
    | none =>
      obtain ⟨T, e⟩ := g2 h4
      refine ⟨T, mDef_rt ?_⟩
      unfold pathT pathB at e
      unfold b_read_path
      simp [iVar_s, q0, chk_pos, k1, eW', eF, h3, ivPath]
      simp only [List.map_nil] at e
      rw [e]
      simp
    | some st =>
      obtain ⟨x', e⟩ := g1 st h4
      have hl := stepsP_len 5 _ _ st (by simp) h4
      refine ⟨[.lst (st.map ivSt)], mDef_rt ?_⟩
      have ec : (S ++ [Cell.lst (st.map ivSt)])[S.length]? = some (.lst (st.map ivSt)) := by simp
      have et : fTuple [.adr S.length] (S ++ [Cell.lst (st.map ivSt)]) = .ok (.tup (st.map ivSt)) (S ++ [Cell.lst (st.map ivSt)]) := by
        unfold fTuple lstX
        simp only [a1_1, ec]
        show mkT _ _ = _
        rw [mkT_e, chk_pos (by rw [List.length_map, szl]; omega)]
      unfold pathT pathB at e
      unfold b_read_path
      simp [iVar_s, q0, chk_pos, k1, eW', eF, h3, ivPath]
      simp only [List.map_nil] at e
      rw [e]
      simp [iVar_s, et, three, chk_pos]
end RD
set_option maxHeartbeats 2000000
/-! heads above, declarations -/
namespace RD
open PySem PySem.Spec PyProof.Rows L2 Sm
theorem valI_declV (x : Str) : ∀ l : List (Str × Nat), valI (declV l) (.inr x) = (l.lookup x).map fun k => .int k
  | [] => rfl
  | (n, k) :: l => by
    by_cases h : n = x
    · subst h
      simp [valI, declV, List.find?_cons, List.lookup]
    · have h' : (x == n) = false := by
        rw [beq_eq_false_iff_ne]; exact fun e => h e.symm
      have e1 : valI (declV ((n, k) :: l)) (.inr x) = valI (declV l) (.inr x) := by simp [valI, declV, List.find?_cons, h]
      rw [e1, valI_declV x l]
      simp [List.lookup, h']
theorem name_len {s : Str} (h : nameB s = true) : 1 ≤ s.length ∧ s.length ≤ 8 := by
  unfold nameB at h
  obtain ⟨h1, _⟩ := Bool.and_eq_true_iff.mp h
  obtain ⟨h2, _⟩ := Bool.and_eq_true_iff.mp h1
  exact of_decide_eq_true h2
section
variable {B : Sto} {r : Nat} {L : List Str} {S : Sto} {q : RQ}
theorem isN_path (s : Str) (o : Option (Str × List (Str × Str))) : isN (ivPath s o) = o.isNone := by
  cases o with
  | none => rfl
  | some p => rfl
theorem dget_s {n : Nat} {kvs : List (Key × IV)} {x : Str} {v : IV} (h : S[n]? = some (.dic kvs)) (e : valI kvs (.inr x) = some v) : fDGet (.adr n) (.str x) S = .ok v S := by
  unfold fDGet
  rw [onD_s h]
  show orBad (valI kvs (.inr x)) _ = _
  rw [e]
  rfl
theorem din_s {n : Nat} {kvs : List (Key × IV)} {x : Str} (h : S[n]? = some (.dic kvs)) : fDIn (.str x) (.adr n) S = .ok (.bl (valI kvs (.inr x)).isSome) S := by
  unfold fDIn
  rw [onD_s h]
  rfl
/-- a head above the line -/
def aboveP (m : Mod) (s : Str) (line : Nat) : Option (Str × List (Str × Str)) := match pathP s with
  | some p => (match m.decl.lookup p.1 with
    | some k => if k < line then some p else none
    | none => none)
  | none => none
theorem path_above_ok (h : Rep B r L S q) {init : List Mod} {m : Mod} (hq : q.ms = init ++ [m]) {s : Str} {line : Nat} (hs : s.length ≤ 1000000) :
    (∀ p, aboveP m s line = some p → ∃ T, m_Reader_path_above [.adr r, .str s, .int line] S = .ok (ivPath s (some p)) (S ++ T)) ∧
    (aboveP m s line = none → Err B (m_Reader_path_above [.adr r, .str s, .int line] S) q.pos) := by
  have hm : m ∈ q.ms := by rw [hq]; simp
  obtain ⟨T, e1⟩ := read_path_ok (S := S) hs
  have h1 := h.app T
  unfold m_Reader_path_above b_Reader_path_above
  cases hp : pathP s with
  | none =>
    have ha : aboveP m s line = none := by unfold aboveP; rw [hp]
    refine ⟨fun p hp' => (by rw [ha] at hp'; cases hp'), fun _ => Err.mdef ?_⟩
    rw [hp] at e1
    have eN := mNeedF (mo := iVar 0) (me := iBin gNotN (iVar 3) (iC .non)) (Λ := [some (.adr r), some (.str s), some (.int line), some .non, none]) (S0 := S ++ T) (b := false) (S1 := S ++ T) (iVar_s rfl) h1 (by simp [iVar_s, isN]) h1 rfl
    simp [iVar_s, e1, chk_pos, ivPath]
    exact (eN.bind _).bind _
  | some p =>
    obtain ⟨hd, st⟩ := p
    rw [hp] at e1
    have eN := mNeed (mo := iVar 0) (me := iBin gNotN (iVar 3) (iC .non)) (Λ := [some (.adr r), some (.str s), some (.int line), some (ivPath s (some (hd, st))), none]) (S0 := S ++ T) (b := true) (S1 := S ++ T) (iVar_s rfl) h1 (by simp [iVar_s, isN_path]) rfl
    have eM := mMod (mo := iVar 0) (Λ := [some (.adr r), some (.str s), some (.int line), some (ivPath s (some (hd, st))), none]) (S0 := S ++ T) (iVar_s rfl) h1 hq
    have eD := get_decl h1 hm
    have hd' := (h1.ms m hm).d
    have ix1 : ∀ S', fIx (ivPath s (some (hd, st))) (.int 1) S' = .ok (.str hd) S' := fun S' => by simp [ivPath]
    cases hl : m.decl.lookup hd with
    | none =>
      have ha : aboveP m s line = none := by unfold aboveP; rw [hp]; simp only [hl]
      refine ⟨fun p hp' => (by rw [ha] at hp'; cases hp'), fun _ => Err.mdef ?_⟩
      have eI : fDIn (.str hd) (.adr m.d) (S ++ T) = .ok (.bl false) (S ++ T) := by rw [din_s hd', valI_declV, hl]; rfl
      have eN2 := mNeedF (mo := iVar 0) (me := iAndV (iBin fDIn (iBin fIx (iVar 3) (iC (.int 1))) (iVar 4)) (iBin fLt (iBin fDGet (iVar 4) (iBin fIx (iVar 3) (iC (.int 1)))) (iVar 2))) (Λ := [some (.adr r), some (.str s), some (.int line), some (ivPath s (some (hd, st))), some (.adr m.d)]) (S0 := S ++ T) (b := false) (S1 := S ++ T) (iVar_s rfl) h1 (by simp [iVar_s, ix1, eI]) h1 rfl
      simp only [List.map_cons, List.map_nil, List.length_cons, List.length_nil, List.replicate, List.cons_append, List.nil_append]
      simp [iVar_s, e1, chk_pos, eN, fld_declared h1, eM, eD]
      exact (eN2.bind _).bind _
    | some k =>
      have eI : fDIn (.str hd) (.adr m.d) (S ++ T) = .ok (.bl true) (S ++ T) := by rw [din_s hd', valI_declV, hl]; rfl
      have eG : fDGet (.adr m.d) (.str hd) (S ++ T) = .ok (.int k) (S ++ T) := dget_s hd' (by rw [valI_declV, hl]; rfl)
      by_cases hk : k < line
      · have ha : aboveP m s line = some (hd, st) := by unfold aboveP; rw [hp]; simp only [hl, if_pos hk]
        refine ⟨fun p hp' => ?_, fun hn => by rw [ha] at hn; cases hn⟩
        rw [ha] at hp'
        cases hp'
        refine ⟨T, mDef_rt ?_⟩
        have hk' : (k : Int) < (line : Int) := by omega
        have eN2 := mNeed (mo := iVar 0) (me := iAndV (iBin fDIn (iBin fIx (iVar 3) (iC (.int 1))) (iVar 4)) (iBin fLt (iBin fDGet (iVar 4) (iBin fIx (iVar 3) (iC (.int 1)))) (iVar 2))) (Λ := [some (.adr r), some (.str s), some (.int line), some (ivPath s (some (hd, st))), some (.adr m.d)]) (S0 := S ++ T) (b := true) (S1 := S ++ T) (iVar_s rfl) h1 (by simp [iVar_s, ix1, eI, eG, hk']) rfl
        simp [iVar_s, e1, chk_pos, eN, fld_declared h1, eM, eD, eN2]
      · have ha : aboveP m s line = none := by unfold aboveP; rw [hp]; simp only [hl, if_neg hk]
        refine ⟨fun p hp' => (by rw [ha] at hp'; cases hp'), fun _ => Err.mdef ?_⟩
        have hk' : ¬ (k : Int) < (line : Int) := by omega
        have eN2 := mNeedF (mo := iVar 0) (me := iAndV (iBin fDIn (iBin fIx (iVar 3) (iC (.int 1))) (iVar 4)) (iBin fLt (iBin fDGet (iVar 4) (iBin fIx (iVar 3) (iC (.int 1)))) (iVar 2))) (Λ := [some (.adr r), some (.str s), some (.int line), some (ivPath s (some (hd, st))), some (.adr m.d)]) (S0 := S ++ T) (b := false) (S1 := S ++ T) (iVar_s rfl) h1 (by simp [iVar_s, ix1, eI, eG, hk']) h1 rfl
        simp only [List.map_cons, List.map_nil, List.length_cons, List.length_nil, List.replicate, List.cons_append, List.nil_append]
        simp [iVar_s, e1, chk_pos, eN, fld_declared h1, eM, eD]
        exact (eN2.bind _).bind _
end
end RD
set_option maxHeartbeats 2000000
/-! declarations, rows -/
namespace RD
open PySem PySem.Spec PyProof.Rows L2 Sm
def lab (a b : Str) : Str := ((Str.empty ++ a) ++ ".") ++ b
end RD
set_option maxHeartbeats 4000000
/-! rows: module, outside -/
namespace RD
open PySem PySem.Spec PyProof.Rows L2 Sm
section
variable {B : Sto} {r : Nat} {L : List Str} {S : Sto} {q : RQ}
def modQ (q : RQ) (n : Str) (a d : Nat) : RQ := { q with pos := q.pos + 1, ms := q.ms ++ [⟨n, a, d, [], []⟩], places := putK' q.places (.inr n) (.int q.pos) }
end
end RD
set_option maxHeartbeats 4000000
/-! rows: outside; the loop over the rows -/
namespace RD
open PySem PySem.Spec PyProof.Rows L2 Sm
end RD
set_option maxHeartbeats 4000000
/-! bodies -/
namespace RD
open PySem PySem.Spec PyProof.Rows L2 Sm
structure Blk where
  kind : Str
  start : Nat
  a : Nat
  starts : List Nat
def ivBlk (k : Blk) : IV := .tup [.str k.kind, .int k.start, .adr k.a]
structure BQ where
  hid : Option Str
  line : Nat
  body : List IV
  blocks : List Blk
def ivHid : Option Str → IV
  | none => .non
  | some s => .str s
def bFs (b r : Nat) (p : BQ) : List (Str × IV) := [("reader", .adr r), ("hidden", ivHid p.hid), ("line", .int p.line), ("body", .adr (b + 1)), ("blocks", .adr (b + 2))]
structure RepB (b r : Nat) (S : Sto) (q : RQ) (p : BQ) : Prop where
  self : S[b]? = some (.ins "BodyReader" (bFs b r p))
  body : S[b + 1]? = some (.lst p.body)
  blocks : S[b + 2]? = some (.lst (p.blocks.map ivBlk))
  lo : r + 5 < b
  ms : ∀ m ∈ q.ms, m.a < b ∧ m.d < b
  st : ∀ k ∈ p.blocks, S[k.a]? = some (.lst (k.starts.map fun i => .int (i : Nat))) ∧ b + 2 < k.a
  nd : (p.blocks.map (·.a)).Nodup
section
variable {B : Sto} {b r : Nat} {L : List Str} {S : Sto} {q : RQ} {p : BQ}
theorem RepB.app (h : RepB b r S q p) (T : Sto) : RepB b r (S ++ T) q p := ⟨get_app h.self, get_app h.body, get_app h.blocks, h.lo, h.ms, fun k hk => ⟨get_app (h.st k hk).1, (h.st k hk).2⟩, h.nd⟩
/-- the reader's own cells are changed -/
theorem RepB.low (h : RepB b r S q p) {n : Nat} {c : Cell} (hn : n < b) : RepB b r (S.set n c) q p :=
  ⟨get_set h.self (by omega), get_set h.body (by omega), get_set h.blocks (by omega), h.lo, h.ms, fun k hk => ⟨get_set (h.st k hk).1 (by have := (h.st k hk).2; omega), (h.st k hk).2⟩, h.nd⟩
theorem RepB.q' (h : RepB b r S q p) {q2 : RQ} (e : q2.ms = q.ms) : RepB b r S q2 p := ⟨h.self, h.body, h.blocks, h.lo, e ▸ h.ms, h.st, h.nd⟩
theorem mPath {mo : IE} {Λ : Slots} {S0 : Sto} (ho : mo Λ S0 = .ok (.adr r) S) (h : Rep B r L S q) {init : List Mod} {m : Mod} (hq : q.ms = init ++ [m]) {s : Str} {line : Nat} (hs : s.length ≤ 1000000) {m1 m2 : IE} (e1 : m1 Λ S = .ok (.str s) S) (e2 : m2 Λ S = .ok (.int line) S) :
    (∀ p, aboveP m s line = some p → ∃ T, iMeth "Reader" "path_above" 3 m_Reader_path_above mo (iCons m1 (iCons m2 iNil)) Λ S0 = .ok (ivPath s (some p)) (S ++ T)) ∧
    (aboveP m s line = none → Err B (iMeth "Reader" "path_above" 3 m_Reader_path_above mo (iCons m1 (iCons m2 iNil)) Λ S0) q.pos) := by
  obtain ⟨g1, g2⟩ := path_above_ok h hq (line := line) hs
  have e0 : iMeth "Reader" "path_above" 3 m_Reader_path_above mo (iCons m1 (iCons m2 iNil)) Λ S0 = relab Λ (m_Reader_path_above [.adr r, .str s, .int line] S) := by
    rw [meth_s ho h.self rfl]
    simp [e1, e2, chk_pos]
  rw [e0]
  refine ⟨fun p hp => ?_, fun hn => (g2 hn).relab _⟩
  obtain ⟨T, e⟩ := g1 p hp
  exact ⟨T, by rw [e]; rfl⟩
end
end RD
set_option maxHeartbeats 4000000
/-! bodies: call rows, the walk over a body -/
namespace RD
open PySem PySem.Spec PyProof.Rows L2 Sm
end RD
set_option maxHeartbeats 4000000
/-! the walk over a body -/
namespace RD
open PySem PySem.Spec PyProof.Rows L2 Sm
end RD
set_option maxHeartbeats 4000000
/-! a def without a hidden name -/
namespace RD
open PySem PySem.Spec PyProof.Rows L2 Sm
end RD
set_option maxHeartbeats 4000000
/-! rows "def"; bodies of calls alone -/
namespace RD
open PySem PySem.Spec PyProof.Rows L2 Sm
end RD
set_option maxHeartbeats 4000000
/-! the reading as a whole -/
namespace RD
open PySem PySem.Spec PyProof.Rows L2 Sm
section
variable {B : Sto} {b r : Nat} {L : List Str} {S : Sto} {q : RQ} {p : BQ}
/-! ### weights -/
/-- is a row of a body a call -/
def isCall : IV → Bool
  | .tup (.str w :: _) => decide (w = "call")
  | _ => false
def rowOk : IV → Bool
  | .tup (.str _ :: _) => true
  | _ => false
end
end RD
set_option maxHeartbeats 4000000
/-! weights -/
namespace RD
open PySem PySem.Spec PyProof.Rows L2 Sm
section
variable {S : Sto}
def callsN (body : List IV) : Nat := (body.filter isCall).length
/-- the greatest weight, def by def -/
def weigh : List (List IV) → Nat → Nat
  | [], g => g
  | body :: r, g => weigh r (max g (1 + callsN body * max 1 g))
end
end RD
set_option maxHeartbeats 4000000
/-! the greatest weight -/
namespace RD
open PySem PySem.Spec PyProof.Rows L2 Sm
structure DefV where
  key : Str
  v : IV
  body : List IV
structure DefV.Ok (d : DefV) : Prop where
  row : ∃ row, (∀ S, fIx d.v (.int 1) S = .ok row S) ∧ ∀ S, fIx row (.int 5) S = .ok (.tup d.body) S
  rows : ∀ v ∈ d.body, rowOk v = true
  len : d.body.length ≤ 1000
def kvsD (ds : List DefV) : List (Key × IV) := ds.map fun d => (.inr d.key, d.v)
end RD
set_option maxHeartbeats 4000000
/-! the greatest weight of all defs -/
namespace RD
open PySem PySem.Spec PyProof.Rows L2 Sm
end RD
namespace RD
open PySem PySem.Spec PyProof.Rows L2 Sm
end RD
set_option maxHeartbeats 4000000
/-! a new reader -/
namespace RD
open PySem PySem.Spec PyProof.Rows L2 Sm
end RD
set_option maxHeartbeats 4000000
/-! lines of a text -/
namespace RD
open PySem PySem.Spec PyProof.Rows L2 Sm
/-- a text of lines, read back -/
theorem split_lines {L : List Str} (hne : L ≠ []) (h : ∀ s ∈ L, 10 ∉ sg s) : Txt.split (Txt.join "\n" L) "\n" = L :=
  TL.split_join (y := "\n") (s := 10) (S := []) (by decide +kernel) (by decide +kernel) hne h
end RD
set_option maxHeartbeats 4000000
/-! a project is made -/
namespace RD
open PySem PySem.Spec PyProof.Rows L2 Sm
/-- a text of lines -/
structure TxOk (t : Str) (L : List Str) : Prop where
  len : t.length ≤ 1000000
  ne : ¬ t = ""
  sp : Txt.split t "\n" = L
  cnt : L.length ≤ 1000000
end RD
set_option maxHeartbeats 2000000
/-! a project is made, to the end -/
namespace RD
open PySem PySem.Spec PyProof.Rows L2 Sm
theorem putK_end (acc : List (Key × IV)) (k : Key) (z : IV) (h : k ∉ acc.map (·.1)) : putK' acc k z = acc ++ [(k, z)] := by
  unfold putK'
  rw [if_neg]
  intro hz
  apply h
  simp only [List.any_eq_true, decide_eq_true_eq] at hz
  obtain ⟨p, hp, e⟩ := hz
  exact List.mem_map.mpr ⟨p, hp, e⟩
end RD
set_option maxHeartbeats 2000000
/-! rows of bodies: what is no block and names no module -/
namespace RD
open PySem PySem.Spec PyProof.Rows L2 Sm
end RD
set_option maxHeartbeats 2000000
/-! heads and acts in bodies, of all forms -/
namespace RD
open PySem PySem.Spec PyProof.Rows L2 Sm
abbrev Path := Str × List (Str × Str)
abbrev Decl := List (Str × Nat)
/-- a head above the line, among the names declared -/
def aboveD (d : Decl) (s : Str) (line : Nat) : Option Path := match pathP s with
  | some p => (match d.lookup p.1 with
    | some k => if k < line then some p else none
    | none => none)
  | none => none
/-- a head in a body: d the names of the module named ahead of it -/
def headM (own : Decl) (hid : Option Str) (s : Str) (d : Option Decl) (line : Nat) (may : Bool) : Option Path := match d with
  | some d => (match pathP s with
    | some p => if (d.lookup p.1).isSome = true then some p else none
    | none => none)
  | none => (match pathP s with
    | none => none
    | some pt => if some pt.1 = hid then (if may = true then some pt else none) else aboveD own s line)
section
variable {B : Sto} {b r : Nat} {L : List Str} {S : Sto} {q : RQ} {p : BQ}
/-! ### calls -/
def callRowM (md : IV) (x : Str) (pt : Path) : IV := .tup [.str "call", md, ivPath x (some pt)]
end
end RD
set_option maxHeartbeats 2000000
/-! rows keep and once in bodies -/
namespace RD
open PySem PySem.Spec PyProof.Rows L2 Sm
/-- the line that a kept name has -/
def lineM (own : Decl) (hid : Option Str) (x : Str) (line : Nat) : Option Nat := if some x = hid then some line else match own.lookup x with
  | some k => if k < line then some k else none
  | none => none
def keptQ (q : RQ) : RQ := { q with kept := if isN q.kept = true then .int q.pos else q.kept }
def keepRow (w : Str) (md : IV) (x t : Str) (pt : Path) : IV := .tup [.str w, md, .str x, ivPath t (some pt)]
def keepW (w : Str) : Bool := decide (w = "keep") || decide (w = "once")
section
variable {B : Sto} {b r : Nat} {L : List Str} {S : Sto} {q : RQ} {p : BQ}
theorem kept_e (h : Rep B r L S q) (hB : RepB b r S q p) {Λ : Slots} (h3 : Λ[3]? = some (some (.adr r))) : ∃ S', (iIf (iTest (iBin gIsN (iUn (fFld "Reader" "kept") (iVar 3)) (iC .non))) (iSetF "Reader" "kept" (iVar 3) (iUn (fFld "Reader" "at") (iVar 3))) iNext : IS) Λ S = .ok (.nx Λ) S' ∧ Rep B r L S' (keptQ q) ∧ RepB b r S' (keptQ q) p := by
  have t : iTest (iBin gIsN (iUn (fFld "Reader" "kept") (iVar 3)) (iC .non)) Λ S = .ok (isN q.kept) S := by
    rw [iTest_e, iBin_e, iUn_fld, iVar_s h3, Out.bind_ok, fld_kept h, Out.bind_ok]
    rfl
  cases hk : isN q.kept with
  | true =>
    have e : keptQ q = { q with pos := q.pos, kept := .int q.pos } := by unfold keptQ; rw [if_pos hk]
    refine ⟨S.set r (.ins "Reader" (rFs r L q.pos (.int q.pos))), ?_, ?_, ?_⟩
    · rw [hk] at t
      refine (if_tt t).trans ?_
      unfold iSetF
      rw [iUn_fld, iVar_s h3, Out.bind_ok, fld_at h, Out.bind_ok, iVar_s h3, Out.bind_ok, onI_s h.self, chk_pos (by simp [rFs])]
      rfl
    · rw [e]; exact h.self'
    · rw [e]; exact (hB.low (by have := hB.lo; omega)).q' rfl
  | false =>
    have e : keptQ q = q := by unfold keptQ; rw [if_neg (by rw [hk]; exact Bool.false_ne_true)]
    rw [hk] at t
    rw [e]
    exact ⟨S, (if_ff t).trans rfl, h, hB⟩
end
end RD
set_option maxHeartbeats 2000000
/-! blocks in bodies: either, often, or -/
namespace RD
open PySem PySem.Spec PyProof.Rows L2 Sm
end RD
set_option maxHeartbeats 2000000
/-! ends of blocks -/
namespace RD
open PySem PySem.Spec PyProof.Rows L2 Sm
def setOr (here : Nat) (body : List IV) (s : Nat) : List IV := body.set (s - 1) (.tup [.str "or", .int here])
/-- a body behind the end of its last block -/
def endBody (k : Blk) (body : List IV) : List IV := if k.kind = ("often" : Str) then (body.set k.start (.tup [.str "often", .int body.length])) ++ [.tup [.str "end", .int k.start]]
  else ((k.starts.drop 1).foldl (setOr body.length) (body.set k.start (.tup [.str "either", .tup (k.starts.map fun i => .int (i : Nat)), .int body.length]))) ++ [.tup [.str "end", .int (-1)]]
theorem setOr_len (here : Nat) : ∀ (ss : List Nat) (body : List IV), (ss.foldl (setOr here) body).length = body.length
  | [], _ => rfl
  | s :: ss, body => by rw [List.foldl_cons, setOr_len here ss]; unfold setOr; rw [List.length_set]
end RD
set_option maxHeartbeats 2000000
/-! a row of a body, of any kind -/
namespace RD
open PySem PySem.Spec PyProof.Rows L2 Sm
structure Ctx where
  ab : List (Str × Decl)
  own : Decl
  hid : Option Str
  line : Nat
abbrev BlkM := Str × Nat × List Nat
structure BM where
  body : List IV
  blocks : List BlkM
  kept : IV
def strip (k : Blk) : BlkM := (k.kind, k.start, k.starts)
def callM (c : Ctx) (x : BM) (md : IV) (d : Option Decl) (ws : List Str) : Option BM := match ws with
  | [t] => (headM c.own c.hid t d c.line true).map fun pt => { x with body := x.body ++ [callRowM md t pt] }
  | _ => none
def keepM (c : Ctx) (x : BM) (pos : Nat) (md : IV) (d : Option Decl) (w : Str) (ws : List Str) : Option BM := match ws with
  | [y, e, t] => if keepW w = true ∧ e = ("=" : Str) then (lineM c.own c.hid y c.line).bind fun ln => (headM c.own c.hid t d ln false).map fun pt => { x with body := x.body ++ [keepRow w md y t pt], kept := if isN x.kept = true then .int pos else x.kept } else none
  | _ => none
def actM (c : Ctx) (x : BM) (pos : Nat) (md : IV) (d : Option Decl) (ws : List Str) : Option BM := match ws with
  | [] => none
  | w :: ws => if w = ("call" : Str) then callM c x md d ws else keepM c x pos md d w ws
theorem actM_cons (c : Ctx) (x : BM) (pos : Nat) (md : IV) (d : Option Decl) (w : Str) (ws : List Str) : actM c x pos md d (w :: ws) = if w = ("call" : Str) then callM c x md d ws else keepM c x pos md d w ws := rfl
def impRow (n : Str) : IV := .tup [.str "\x69mport", .str n]
def endM (k : BlkM) (body : List IV) : List IV := endBody ⟨k.1, k.2.1, 0, k.2.2⟩ body
def blkM (x : BM) (w : Str) : Option BM := if x.blocks.length < 4 then some { x with body := x.body ++ [.tup [.str w]], blocks := x.blocks ++ [(w, x.body.length, [x.body.length + 1])] } else none
def orM (x : BM) : Option BM := match x.blocks.getLast? with
  | some k => if k.1 = ("either" : Str) ∧ k.2.2.length < 5 then some { x with body := x.body ++ [.tup [.str "or"]], blocks := x.blocks.dropLast ++ [(k.1, k.2.1, k.2.2 ++ [x.body.length + 1])] } else none
  | none => none
def endbM (x : BM) : Option BM := match x.blocks.getLast? with
  | some k => if k.1 = ("often" : Str) ∨ 1 < k.2.2.length then some { x with body := endM k x.body, blocks := x.blocks.dropLast } else none
  | none => none
def impM (c : Ctx) (x : BM) (ws : List Str) : Option BM := match ws with
  | [n] => if (c.ab.lookup n).isSome = true then some { x with body := x.body ++ [impRow n] } else none
  | _ => none
def fromM (c : Ctx) (x : BM) (pos : Nat) (ws : List Str) : Option BM := match ws with
  | n :: a :: as => (match c.ab.lookup n with
    | some d => actM c x pos (.str n) (some d) (a :: as)
    | none => none)
  | _ => none
def rowM (c : Ctx) (x : BM) (pos : Nat) (ws : List Str) : Option BM :=
  if ws = [("either" : Str)] ∨ ws = [("often" : Str)] then blkM x (ws.headD ("" : Str))
  else if ws = [("or" : Str)] then orM x
  else if ws = [("end" : Str)] then endbM x
  else if ws.head? = some ("\x69mport" : Str) then impM c x ws.tail
  else if ws.head? = some ("from" : Str) then fromM c x pos ws.tail
  else actM c x pos .non none ws
structure RepM (b r : Nat) (S : Sto) (q : RQ) (c : Ctx) (x : BM) (p : BQ) : Prop where
  B : RepB b r S q p
  hid : p.hid = c.hid
  line : p.line = c.line
  body : p.body = x.body
  blocks : p.blocks.map strip = x.blocks
  kept : q.kept = x.kept
end RD
set_option maxHeartbeats 2000000
/-! a row of a body against its model -/
namespace RD
open PySem PySem.Spec PyProof.Rows L2 Sm
section
variable {B : Sto} {b r : Nat} {L : List Str} {S : Sto} {q : RQ} {p : BQ} {c : Ctx} {x : BM} {init : List Mod} {m : Mod}
/-- what a step of a body gives -/
def Step (B : Sto) (b r : Nat) (L : List Str) (q : RQ) (c : Ctx) (x' : BM) (S' : Sto) : Prop := ∃ p', Rep B r L S' { q with kept := x'.kept } ∧ RepM b r S' { q with kept := x'.kept } c x' p'
theorem q_kept (q : RQ) {k : IV} (h : q.kept = k) : ({ q with kept := k } : RQ) = q := by rw [← h]
theorem Step.of (M : RepM b r S q c x p) {S' : Sto} {x' : BM} {p' : BQ} (R : Rep B r L S' q) (hB : RepB b r S' q p') (hk : x'.kept = x.kept) (h1 : p'.hid = p.hid) (h2 : p'.line = p.line) (h3 : p'.body = x'.body) (h4 : p'.blocks.map strip = x'.blocks) : Step B b r L q c x' S' := by
  have e : ({ q with kept := x'.kept } : RQ) = q := q_kept q (by rw [hk, M.kept])
  unfold Step
  rw [e]
  exact ⟨p', R, hB, h1.trans M.hid, h2.trans M.line, h3, h4, by rw [M.kept, hk]⟩
/-! ### all rows -/
end
end RD
set_option maxHeartbeats 2000000
/-! a whole body against its model -/
namespace RD
open PySem PySem.Spec PyProof.Rows L2 Sm
end RD
set_option maxHeartbeats 2000000
/-! the walk over a body against its model -/
namespace RD
open PySem PySem.Spec PyProof.Rows L2 Sm
/-- a body read: the index of the first wrong line, or what was read and where it goes on -/
def bodyM (c : Ctx) : List Str → BM → Nat → Except Nat (BM × Nat)
  | [], x, pos => .error pos
  | s :: ls, x, pos => if wordsOf s = [("end" : Str)] ∧ x.blocks = [] then .ok (x, pos + 1) else match rowM c x pos (wordsOf s) with
    | none => .error pos
    | some x' => bodyM c ls x' (pos + 1)
section
variable {B : Sto} {b r : Nat} {L : List Str} {S : Sto} {q : RQ} {p : BQ} {c : Ctx} {x : BM} {init : List Mod} {m : Mod}
theorem drop_get {L ls : List Str} {n : Nat} {s : Str} (h : L.drop n = s :: ls) : L[n]? = some s ∧ L.drop (n + 1) = ls ∧ L.length = n + 1 + ls.length := by
  have l := congrArg List.length h
  rw [List.length_drop, List.length_cons] at l
  refine ⟨?_, ?_, by omega⟩
  · have := congrArg (fun l => l[0]?) h
    simp only [List.getElem?_drop, Nat.add_zero] at this
    exact this
  · have := congrArg List.tail h
    rw [List.tail_drop] at this
    exact this
end
end RD
set_option maxHeartbeats 2000000
/-! rows of modules: names brought in, names -/
namespace RD
open PySem PySem.Spec PyProof.Rows L2 Sm
section
variable {B : Sto} {r : Nat} {L : List Str} {S : Sto} {q : RQ} {init : List Mod} {m : Mod} {w : Str} {ws : List Str}
def addQ (q : RQ) (init : List Mod) (m : Mod) (n : Str) (row : IV) : RQ :=
  { q with pos := q.pos + 1, ms := init ++ [{ m with decl := m.decl ++ [(n, q.pos)], rows := m.rows ++ [row] }], places := putK' q.places (.inr (lab m.name n)) (.int q.pos) }
def impRowT (n x : Str) (pos : Nat) : IV := .tup [.str "\x69mport", .str n, .int pos, .str x]
/-- the names that a row with "as" or without it takes: ws behind the first word -/
def asW (k : Nat) (ws : List Str) : Bool := decide (ws.length = k) || (decide (ws.length = k + 2) && decide (ws[k]? = some ("as" : Str)))
end
end RD
set_option maxHeartbeats 2000000
/-! rows that bring names in, rows that give names -/
namespace RD
open PySem PySem.Spec PyProof.Rows L2 Sm
def fromRowT (n x y : Str) (pos : Nat) : IV := .tup [.str "from", .str n, .int pos, .str x, .str y]
def bindRowT (n : Str) (pos : Nat) (v : IV) : IV := .tup [.str "bind", .str n, .int pos, v]
/-- none, or a head above the line -/
def worthD (d : Decl) (s : Str) (line : Nat) : Option IV := if s = ("none" : Str) then some .non else (aboveD d s line).map fun p => ivPath s (some p)
end RD
set_option maxHeartbeats 2000000
/-! rows that give names; defs -/
namespace RD
open PySem PySem.Spec PyProof.Rows L2 Sm
section
variable {B : Sto} {r : Nat} {L : List Str} {S : Sto} {q : RQ} {init : List Mod} {m : Mod} {w : Str} {ws : List Str}
theorem worth_ok (h : Rep B r L S q) (hq : q.ms = init ++ [m]) {s : Str} {line : Nat} (hs : s.length ≤ 1000000) {Λ : Slots} {m1 m2 : IE} (h0 : Λ[0]? = some (some (.adr r))) (e1 : m1 Λ S = .ok (.str s) S) (e2 : m2 Λ S = .ok (.int line) S) :
    (∀ v, worthD m.decl s line = some v → ∃ T, iMeth "Reader" "worth" 3 m_Reader_worth (iVar 0) (iCons m1 (iCons m2 iNil)) Λ S = .ok v (S ++ T)) ∧ (worthD m.decl s line = none → Err B (iMeth "Reader" "worth" 3 m_Reader_worth (iVar 0) (iCons m1 (iCons m2 iNil)) Λ S) q.pos) := by
  let Λ0 : Slots := [some (.adr r), some (.str s), some (.int line)]
  have e0 : iMeth "Reader" "worth" 3 m_Reader_worth (iVar 0) (iCons m1 (iCons m2 iNil)) Λ S = relab Λ (m_Reader_worth [.adr r, .str s, .int line] S) := by
    rw [meth_s (iVar_s h0) h.self rfl, iCons_e, e1, Out.bind_ok, iCons_e, e2]
    simp only [Out.bind_ok, iNil_e]
    rw [chk_pos (by rfl)]
  have t : iTest (iBin fEq (iVar 1) (iC (.str "none"))) Λ0 S = .ok (decide (s = ("none" : Str))) S := by
    rw [iTest_e, iBin_e, iVar_s (x := .str s) rfl, Out.bind_ok, iC_e, Out.bind_ok, fEq_e, eqB_s]
    rfl
  obtain ⟨g1, g2⟩ := mPath (mo := iVar 0) (m1 := iVar 1) (m2 := iVar 2) (Λ := Λ0) (S0 := S) (iVar_s rfl) h hq hs (line := line) (iVar_s rfl) (iVar_s rfl)
  rw [e0]
  unfold worthD m_Reader_worth
  by_cases hn : s = ("none" : Str)
  · rw [if_pos hn]
    rw [decide_eq_true hn] at t
    refine ⟨fun v e => ?_, fun e => by cases e⟩
    cases e
    refine ⟨[], ?_⟩
    rw [md_rt (v := .non) (S1 := S) (by
      show b_Reader_worth Λ0 S = _
      unfold b_Reader_worth
      exact sq_rt ((if_tt t).trans (rt_ok rfl))), List.append_nil]
    rfl
  · rw [if_neg hn]
    rw [decide_eq_false hn] at t
    have go : ∀ F G : IS, iSeq (iIf (iTest (iBin fEq (iVar 1) (iC (.str "none")))) F iNext) G Λ0 S = G Λ0 S := fun F G => sq_ok ((if_ff t).trans rfl)
    have ha : aboveD m.decl s line = aboveP m s line := rfl
    rw [ha]
    cases hp : aboveP m s line with
    | none =>
      refine ⟨fun v e => (by cases e), fun _ => Err.relab (Err.mdef ?_) _⟩
      show Err B (b_Reader_worth Λ0 S) _
      unfold b_Reader_worth
      rw [go, iRet_e]
      exact (g2 hp).bind _
    | some p =>
      refine ⟨fun v e => ?_, fun e => by cases e⟩
      cases e
      obtain ⟨T, e3⟩ := g1 p hp
      refine ⟨T, ?_⟩
      rw [md_rt (v := ivPath s (some p)) (S1 := S ++ T) (by
        show b_Reader_worth Λ0 S = _
        unfold b_Reader_worth
        rw [go]
        exact rt_ok e3)]
      rfl
/-! ### defs -/
def defRowM (n : Str) (line : Nat) (hid : Option Str) (pv : IV) (body : List IV) : IV := .tup [.str "def", .str n, .int line, ivHid hid, pv, .tup body]
def labH (l hd : Str) : Str := (((Str.empty ++ l) ++ ("(" : Str)) ++ hd) ++ (")" : Str)
def hidPl (ps : List (Key × IV)) (l : Str) (hid : Option Str) (line : Nat) : List (Key × IV) := match hid with
  | none => ps
  | some hd => putK' ps (.inr (labH l hd)) (.int line)
def defQM (q : RQ) (init : List Mod) (m : Mod) (n : Str) (hid : Option Str) (row : IV) (k : Nat) (kept : IV) : RQ :=
  { pos := k, kept := kept, ms := init ++ [{ m with decl := m.decl ++ [(n, q.pos)], rows := m.rows ++ [row] }], places := hidPl (putK' q.places (.inr (lab m.name n)) (.int q.pos)) (lab m.name n) hid q.pos, defs := putK' q.defs (.inr (lab m.name n)) (.tup [.str m.name, row]) }
end
end RD
set_option maxHeartbeats 2000000
/-! defs, of all forms -/
namespace RD
open PySem PySem.Spec PyProof.Rows L2 Sm
section
variable {B : Sto} {r : Nat} {L : List Str} {S : Sto} {q : RQ} {init : List Mod} {m : Mod} {w : Str} {ws : List Str}
def ctxD (q : RQ) (init : List Mod) (m : Mod) (n : Str) (hid : Option Str) : Ctx := ⟨init.map fun m => (m.name, m.decl), m.decl ++ [(n, q.pos)], hid, q.pos⟩
end
end RD
set_option maxHeartbeats 2000000
/-! heads of defs -/
namespace RD
open PySem PySem.Spec PyProof.Rows L2 Sm
/-- what stands behind "def": the name, the hidden name, its path -/
def hdrM (d : Decl) (pos : Nat) (ws : List Str) : Option (Str × Option Str × IV) := match ws with
  | [n] => some (n, none, .non)
  | [n, u, hd, e, t] => if u = ("using" : Str) ∧ nameB hd = true ∧ e = ("=" : Str) then (aboveD d t pos).map fun p => (n, some hd, ivPath t (some p)) else none
  | _ => none
section
variable {B : Sto} {r : Nat} {L : List Str} {S : Sto} {q : RQ} {init : List Mod} {m : Mod} {w : Str} {ws : List Str}
/-- a def, of any form -/
def defM (init : List Mod) (m : Mod) (q : RQ) (L : List Str) (ws : List Str) : Except Nat RQ := match hdrM m.decl q.pos ws with
  | none => .error q.pos
  | some (n, hid, pv) => if nameB n = true ∧ m.decl.lookup n = none then (match bodyM (ctxD q init m n hid) (L.drop (q.pos + 1)) ⟨[], [], q.kept⟩ (q.pos + 1) with
    | .ok (x', pos') => .ok (defQM q init m n hid (defRowM n q.pos hid pv x'.body) pos' x'.kept)
    | .error k => .error k) else .error q.pos
end
end RD
set_option maxHeartbeats 2000000
/-! entries of tables and classes -/
namespace RD
open PySem PySem.Spec PyProof.Rows L2 Sm
def labE (l s0 a s1 : Str) : Str := (((Str.empty ++ l) ++ s0) ++ a) ++ s1
def entRow (a : Str) (v : IV) (pos : Nat) : IV := .tup [.str a, v, .int pos]
/-- one entry: its key, its worth -/
def ent1 (d : Decl) (l s0 s1 : Str) (line : Nat) (pl : List (Key × IV)) (ws : List Str) : Option (Str × IV) := match ws with
  | [a, e, t] => if (e = ("=" : Str) ∧ nameB a = true) ∧ valI pl (.inr (labE l s0 a s1)) = none then (worthD d t line).map fun v => (a, v) else none
  | _ => none
def entM (d : Decl) (l s0 s1 : Str) (line : Nat) : List Str → List (Key × IV) → Nat → List IV → Except Nat (List IV × List (Key × IV) × Nat)
  | [], _, pos, _ => .error pos
  | s :: ls, pl, pos, acc => if wordsOf s = [("end" : Str)] then .ok (acc, pl, pos + 1) else match ent1 d l s0 s1 line pl (wordsOf s) with
    | none => .error pos
    | some (a, v) => entM d l s0 s1 line ls (putK' pl (.inr (labE l s0 a s1)) (.int pos)) (pos + 1) (acc ++ [entRow a v pos])
noncomputable def eT : IT := iTest (iBin fNe (iVar 5) (iLst false (iCons (iC (.str "end")) iNil)))
noncomputable def eW : IE := (iMeth "Reader" "worth" 3 m_Reader_worth (iVar 0) (iCons (iBin fIx (iVar 5) (iC (.int 2))) (iCons (iVar 3) iNil)))
end RD
set_option maxHeartbeats 2000000
/-! all entries; tables -/
namespace RD
open PySem PySem.Spec PyProof.Rows L2 Sm
end RD
set_option maxHeartbeats 2000000
/-! tables and classes -/
namespace RD
open PySem PySem.Spec PyProof.Rows L2 Sm
def tabQ (q : RQ) (init : List Mod) (m : Mod) (n : Str) (row : IV) (pl : List (Key × IV)) (pos : Nat) : RQ :=
  { q with pos := pos, ms := init ++ [{ m with decl := m.decl ++ [(n, q.pos)], rows := m.rows ++ [row] }], places := pl }
/-- what stands behind the head of a table or class -/
def boxM (init : List Mod) (m : Mod) (q : RQ) (L : List Str) (n s0 s1 : Str) (row : IV → IV) : Except Nat RQ :=
  if nameB n = true ∧ m.decl.lookup n = none then (match entM (m.decl ++ [(n, q.pos)]) (lab m.name n) s0 s1 q.pos (L.drop (q.pos + 1)) (putK' q.places (.inr (lab m.name n)) (.int q.pos)) (q.pos + 1) [] with
    | .ok (acc, pl, pos) => .ok (tabQ q init m n (row (.tup acc)) pl pos)
    | .error k => .error k) else .error q.pos
section
variable {B : Sto} {r : Nat} {L : List Str} {S : Sto} {q : RQ} {init : List Mod} {m : Mod} {w : Str} {ws : List Str}
def tabRow (n : Str) (line : Nat) (v : IV) : IV := .tup [.str "table", .str n, .int line, v]
def tableM (init : List Mod) (m : Mod) (q : RQ) (L : List Str) (ws : List Str) : Except Nat RQ := match ws with
  | [n] => boxM init m q L n "[" "]" (tabRow n q.pos)
  | _ => .error q.pos
end
end RD
set_option maxHeartbeats 2000000
/-! classes whose bases are above, or that have none -/
namespace RD
open PySem PySem.Spec PyProof.Rows L2 Sm
def pathV (d : Decl) (pos : Nat) (t : Str) : IV := match aboveD d t pos with
  | some p => ivPath t (some p)
  | none => .non
/-- the form of a class's head, behind "class" -/
def clsB (ws : List Str) : Bool := decide (ws.length = 1) || (decide (3 ≤ ws.length ∧ ws.length ≤ 5) && decide (ws[1]? = some ("from" : Str)))
def clsRow (n : Str) (line : Nat) (bs : List IV) (v : IV) : IV := .tup [.str "class", .str n, .int line, .tup bs, v]
def classM (init : List Mod) (m : Mod) (q : RQ) (L : List Str) (ws : List Str) : Except Nat RQ := if clsB ws = true then (match ws with
  | n :: ts => boxM init m q L n "." "" (clsRow n q.pos ((ts.drop 1).map (pathV m.decl q.pos)))
  | [] => .error q.pos) else .error q.pos
section
variable {B : Sto} {r : Nat} {L : List Str} {S : Sto} {q : RQ} {init : List Mod} {m : Mod} {w : Str} {ws : List Str}
/-- all bases are above -/
def BasesOk (d : Decl) (pos : Nat) (ws : List Str) : Prop := ∀ t ∈ ws.drop 2, aboveD d t pos ≠ none
end
end RD
set_option maxHeartbeats 2000000
/-! every row of a project -/
namespace RD
open PySem PySem.Spec PyProof.Rows L2 Sm
def outRowT (n : Str) (pos : Nat) : IV := .tup [.str "outside", .str n, .int pos]
def freshB (m : Mod) (n : Str) : Bool := nameB n && (m.decl.lookup n).isNone
theorem fresh_iff {m : Mod} {n : Str} : freshB m n = true ↔ (nameB n = true ∧ m.decl.lookup n = none) := by
  unfold freshB
  rw [Bool.and_eq_true, Option.isNone_iff_eq_none]
def outM (init : List Mod) (m : Mod) (q : RQ) (ws : List Str) : Except Nat RQ := match ws with
  | [n] => if freshB m n = true then .ok (addQ q init m n (outRowT n q.pos)) else .error q.pos
  | _ => .error q.pos
def impQ (init : List Mod) (m : Mod) (q : RQ) (ws : List Str) : Except Nat RQ := match ws[0]?, ws.getLast? with
  | some x, some n => if (asW 1 ws = true ∧ x ∈ init.map (·.name)) ∧ freshB m n = true then .ok (addQ q init m n (impRowT n x q.pos)) else .error q.pos
  | _, _ => .error q.pos
def abB (init : List Mod) (x y : Str) : Bool := match (init.map fun m => (m.name, m.decl)).lookup x with
  | some d => (d.lookup y).isSome
  | none => false
def fromQ (init : List Mod) (m : Mod) (q : RQ) (ws : List Str) : Except Nat RQ := match ws[0]?, ws[2]?, ws.getLast? with
  | some x, some y, some n => if (asW 3 ws = true ∧ ws[1]? = some ("\x69mport" : Str) ∧ abB init x y = true) ∧ freshB m n = true then .ok (addQ q init m n (fromRowT n x y q.pos)) else .error q.pos
  | _, _, _ => .error q.pos
def nameQ (init : List Mod) (m : Mod) (q : RQ) (w : Str) (ws : List Str) : Except Nat RQ := match ws with
  | [e, t] => if e = ("=" : Str) ∧ freshB m w = true then (match worthD m.decl t q.pos with
    | some v => .ok (addQ q init m w (bindRowT w q.pos v))
    | none => .error q.pos) else .error q.pos
  | _ => .error q.pos
def rowQ (init : List Mod) (m : Mod) (q : RQ) (L : List Str) (w : Str) (ws : List Str) : Except Nat RQ :=
  if w = ("outside" : Str) then outM init m q ws
  else if w = ("\x69mport" : Str) then impQ init m q ws
  else if w = ("from" : Str) then fromQ init m q ws
  else if w = ("table" : Str) then tableM init m q L ws
  else if w = ("class" : Str) then classM init m q L ws
  else if w = ("def" : Str) then defM init m q L ws
  else nameQ init m q w ws
end RD
set_option maxHeartbeats 2000000
/-! the model without addresses -/
namespace RD
open PySem PySem.Spec PyProof.Rows L2 Sm
def em (m : Mod) : Mod := { m with a := 0, d := 0 }
def er (q : RQ) : RQ := { q with ms := q.ms.map em }
/-- one row of a project -/
def topM (L : List Str) (q : RQ) (s : Str) : Except Nat RQ := match wordsOf s with
  | [] => .error q.pos
  | w :: ws => if w = ("module" : Str) then (match ws with
      | [n] => if nameB n = true ∧ n ∉ q.ms.map (·.name) then .ok (modQ q n 0 0) else .error q.pos
      | _ => .error q.pos)
    else (match q.ms.getLast? with
      | none => .error q.pos
      | some m => rowQ q.ms.dropLast m q L w ws)
/-- all rows; fuel: more than the lines left -/
def readM (L : List Str) : Nat → RQ → Except Nat RQ
  | 0, q => .ok q
  | n + 1, q => match L[q.pos]? with
    | none => .ok q
    | some s => (match topM L q s with
      | .ok q' => readM L n q'
      | .error k => .error k)
section
variable {B : Sto} {r : Nat} {L : List Str} {S : Sto} {q : RQ} {init : List Mod} {m : Mod} {w : Str} {ws : List Str}
/-- a class row whose bases are above -/
def ClsOk (q : RQ) (s : Str) : Prop := ∀ ws m, wordsOf s = ("class" : Str) :: ws → clsB ws = true → q.ms.getLast? = some m → BasesOk m.decl q.pos ws
end
end RD
set_option maxHeartbeats 2000000
/-! the walk over all rows -/
namespace RD
open PySem PySem.Spec PyProof.Rows L2 Sm
/-- sizes that the lines read bound -/
structure Bd (q : RQ) : Prop where
  places : q.places.length ≤ 2 * q.pos
  ms : q.ms.length ≤ q.pos
  rows : ∀ m ∈ q.ms, m.rows.length ≤ q.pos
  decl : ∀ m ∈ q.ms, m.decl.length ≤ q.pos
  defs : q.defs.length ≤ q.pos
theorem Bd.next {q q' : RQ} {init : List Mod} {m m' : Mod} (h : Bd q) (hq : q.ms = init ++ [m]) (hq' : q'.ms = init ++ [m']) (hp : q.pos < q'.pos) (h1 : q'.places.length ≤ 2 * q'.pos) (h2 : m'.rows.length ≤ m.rows.length + 1) (h3 : m'.decl.length ≤ m.decl.length + 1) (h4 : q'.defs.length ≤ q.defs.length + 1) : Bd q' := by
  have mm : m ∈ q.ms := by rw [hq]; simp
  have a := h.rows m mm
  have b := h.decl m mm
  have c := h.ms
  have d := h.defs
  refine ⟨h1, ?_, fun x hx => ?_, fun x hx => ?_, by omega⟩
  · rw [hq'] ; rw [hq] at c
    rw [List.length_append] at c ⊢
    simp only [List.length_singleton] at c ⊢
    omega
  · rw [hq'] at hx
    rcases List.mem_append.mp hx with hx | hx
    · have := h.rows x (by rw [hq]; exact List.mem_append.mpr (.inl hx)); omega
    · rw [List.mem_singleton.mp hx]; omega
  · rw [hq'] at hx
    rcases List.mem_append.mp hx with hx | hx
    · have := h.decl x (by rw [hq]; exact List.mem_append.mpr (.inl hx)); omega
    · rw [List.mem_singleton.mp hx]; omega
end RD
set_option maxHeartbeats 2000000
/-! the walk over all rows, to the end -/
namespace RD
open PySem PySem.Spec PyProof.Rows L2 Sm
/-- class rows on the way have their bases above -/
def clsM (L : List Str) : Nat → RQ → Prop
  | 0, _ => True
  | n + 1, q => match L[q.pos]? with
    | none => True
    | some s => ClsOk q s ∧ ∀ q', topM L q s = .ok q' → clsM L n q'
theorem clsM_none {L : List Str} (h : ∀ s ∈ L, (wordsOf s).head? ≠ some ("class" : Str)) : ∀ (n : Nat) (q : RQ), clsM L n q
  | 0, _ => trivial
  | n + 1, q => by
    unfold clsM
    split
    · trivial
    · rename_i s hs
      refine ⟨fun ws m hw => ?_, fun q' _ => clsM_none h n q'⟩
      exact absurd (by rw [hw]; rfl) (h s (List.mem_of_getElem? hs))
end RD
set_option maxHeartbeats 2000000
/-! a whole reading -/
namespace RD
open PySem PySem.Spec PyProof.Rows L2 Sm
def zQ : RQ := ⟨0, [], [], [], .non⟩
end RD
set_option maxHeartbeats 2000000
/-! the rows of bodies, the defs -/
namespace RD
open PySem PySem.Spec PyProof.Rows L2 Sm
def RowsB (body : List IV) : Prop := ∀ v ∈ body, rowOk v = true
theorem RowsB.app {body : List IV} {v : IV} (h : RowsB body) (hv : rowOk v = true) : RowsB (body ++ [v]) := fun u hu => by
  rcases List.mem_append.mp hu with hu | hu
  · exact h u hu
  · rw [List.mem_singleton.mp hu]; exact hv
theorem RowsB.set {body : List IV} {i : Nat} {v : IV} (h : RowsB body) (hv : rowOk v = true) : RowsB (body.set i v) := fun u hu => by
  rcases List.mem_or_eq_of_mem_set hu with hu | hu
  · exact h u hu
  · rw [hu]; exact hv
end RD
set_option maxHeartbeats 2000000
/-! what the defs hold -/
namespace RD
open PySem PySem.Spec PyProof.Rows L2 Sm
def dBody : IV → List IV
  | .tup [_, .tup [_, _, _, _, _, .tup b]] => b
  | _ => []
/-- one def kept -/
def DKv (N : Nat) (kv : Key × IV) : Prop := ∃ (k : Str) (m a b c d e : IV) (body : List IV), kv = (.inr k, .tup [m, .tup [a, b, c, d, e, .tup body]]) ∧ RowsB body ∧ body.length ≤ N
structure DQ (N : Nat) (defs : List (Key × IV)) : Prop where
  kv : ∀ kv ∈ defs, DKv N kv
  nd : (defs.map (·.1)).Nodup
theorem DQ.put {N : Nat} {defs : List (Key × IV)} (h : DQ N defs) {k : Str} {v : IV} (hv : DKv N (.inr k, v)) : DQ N (putK' defs (.inr k) v) := by
  unfold putK'
  split
  · refine ⟨fun kv hkv => ?_, ?_⟩
    · obtain ⟨u, hu, rfl⟩ := List.mem_map.mp hkv
      split
      · rename_i e
        rw [e]
        exact hv
      · exact h.kv u hu
    · rw [List.map_map]
      have : ((fun x : Key × IV => x.1) ∘ fun kv : Key × IV => if kv.1 = Sum.inr k then (kv.1, v) else kv) = fun kv => kv.1 := by
        funext kv
        simp only [Function.comp]
        split <;> rfl
      rw [this]
      exact h.nd
  · rename_i hn
    refine ⟨fun kv hkv => ?_, ?_⟩
    · rcases List.mem_append.mp hkv with hkv | hkv
      · exact h.kv kv hkv
      · rw [List.mem_singleton.mp hkv]; exact hv
    · rw [List.map_append, List.nodup_append]
      refine ⟨h.nd, by simp, fun a ha b hb e => hn ?_⟩
      obtain ⟨u, hu, rfl⟩ := List.mem_map.mp ha
      simp only [List.map_cons, List.map_nil, List.mem_singleton] at hb
      exact List.any_eq_true.mpr ⟨u, hu, decide_eq_true (e.trans hb)⟩
def dsOf (defs : List (Key × IV)) : List DefV := defs.map fun kv => ⟨(match kv.1 with | .inr k => k | _ => ("" : Str)), kv.2, dBody kv.2⟩
theorem DQ.ds {defs : List (Key × IV)} (h : DQ 1000 defs) : defs = kvsD (dsOf defs) ∧ ((dsOf defs).map (·.key)).Nodup ∧ ∀ d ∈ dsOf defs, d.Ok := by
  refine ⟨?_, ?_, fun d hd => ?_⟩
  · unfold kvsD dsOf
    rw [List.map_map]
    conv => lhs; rw [← List.map_id defs]
    refine List.map_congr_left fun kv hkv => ?_
    obtain ⟨k, m, a, b, c, d, e, body, rfl, _⟩ := h.kv kv hkv
    rfl
  · have e : defs.map (·.1) = ((dsOf defs).map (·.key)).map (fun k => (.inr k : Key)) := by
      unfold dsOf
      rw [List.map_map, List.map_map]
      refine List.map_congr_left fun kv hkv => ?_
      obtain ⟨k, m, a, b, c, d, e, body, rfl, _⟩ := h.kv kv hkv
      rfl
    have nd := h.nd
    rw [e] at nd
    exact List.Pairwise.imp (fun hab z => hab (by rw [z])) (List.pairwise_map.mp nd)
  · obtain ⟨kv, hkv, rfl⟩ := List.mem_map.mp hd
    obtain ⟨k, m, a, b, c, d, e, body, rfl, hb, hl⟩ := h.kv kv hkv
    exact ⟨⟨.tup [a, b, c, d, e, .tup body], fun S => rfl, fun S => rfl⟩, hb, hl⟩
end RD
set_option maxHeartbeats 2000000
/-! the defs of a reading -/
namespace RD
open PySem PySem.Spec PyProof.Rows L2 Sm
end RD
set_option maxHeartbeats 2000000
/-! the defs of a whole reading -/
namespace RD
open PySem PySem.Spec PyProof.Rows L2 Sm
section
variable {q q' : RQ} {init : List Mod} {m : Mod} {L : List Str} {w : Str} {ws : List Str}
theorem DQ.up {N M : Nat} {defs : List (Key × IV)} (h : DQ N defs) (hl : N ≤ M) : DQ M defs := ⟨fun kv hkv => by
  obtain ⟨k, m, a, b, c, d, e, body, e1, e2, e3⟩ := h.kv kv hkv
  exact ⟨k, m, a, b, c, d, e, body, e1, e2, by omega⟩, h.nd⟩
end
end RD
set_option maxHeartbeats 2000000
/-! a whole project -/
namespace RD
open PySem PySem.Spec PyProof.Rows L2 Sm
end RD
set_option maxHeartbeats 2000000
/-! words of lines put together; lines that can be read; a reading piece by piece -/
namespace RD
open PySem PySem.Spec PyProof.Rows L2 Sm
/-! ### words -/
theorem words_spl (s : Str) : (wordsOf s).map sg = TL.spl [32] 0 [] (sg s) := TL.split_spl s " " (by decide +kernel) (TL.kind_ok (by decide +kernel))
theorem map_sg_inj : ∀ {a b : List Str}, a.map sg = b.map sg → a = b
  | [], [], _ => rfl
  | [], b :: bs, h => by cases h
  | a :: as, [], h => by cases h
  | a :: as, b :: bs, h => by
    rw [List.map_cons, List.map_cons] at h
    injection h with h1 h2
    rw [sg_inj h1, map_sg_inj h2]
theorem words_one {a : Str} (h : 32 ∉ sg a) : wordsOf a = [a] := map_sg_inj (by rw [words_spl, TL.spl_last1 h]; rfl)
theorem words_sp {a t : Str} (h : 32 ∉ sg a) : wordsOf (a ++ ((" " : Str) ++ t)) = a :: wordsOf t := map_sg_inj (by
  rw [words_spl, List.map_cons, words_spl, sg_app, sg_app]
  exact TL.spl_part1 (s := 32) (S := []) (acc := []) h)
theorem app_as (a b c : Str) : (a ++ b) ++ c = a ++ (b ++ c) := sg_inj (by rw [sg_app, sg_app, sg_app, sg_app, List.append_assoc])
theorem spl_bd : ∀ (l acc : List Nat) (M : Nat), acc.length + l.length ≤ M → (∀ p ∈ TL.spl [32] 0 acc l, p.length ≤ M ∧ ∀ c ∈ p, c ∈ acc ∨ c ∈ l) ∧ (TL.spl [32] 0 acc l).length ≤ l.length + 1
  | [], acc, M, hM => by
    rw [TL.spl_nil]
    refine ⟨fun p hp => ?_, Nat.le_refl _⟩
    rw [List.mem_singleton.mp hp]
    exact ⟨by simpa using hM, fun c hc => .inl hc⟩
  | c :: r, acc, M, hM => by
    rw [List.length_cons] at hM
    by_cases h : TL.pre [32] (c :: r) = true
    · rw [TL.spl_hit h]
      obtain ⟨h1, h2⟩ := spl_bd r [] M (by simp; omega)
      refine ⟨fun p hp => ?_, by rw [List.length_cons, List.length_cons]; exact Nat.succ_le_succ h2⟩
      rcases List.mem_cons.mp hp with rfl | hp
      · exact ⟨by omega, fun c hc => .inl hc⟩
      · obtain ⟨g1, g2⟩ := h1 p hp
        exact ⟨g1, fun d hd => .inr (List.mem_cons_of_mem _ ((g2 d hd).elim (fun z => by cases z) id))⟩
    · rw [TL.spl_miss (by simpa using h)]
      obtain ⟨h1, h2⟩ := spl_bd r (acc ++ [c]) M (by rw [List.length_append, List.length_singleton]; omega)
      refine ⟨fun p hp => ?_, by rw [List.length_cons]; omega⟩
      obtain ⟨g1, g2⟩ := h1 p hp
      refine ⟨g1, fun d hd => ?_⟩
      rcases g2 d hd with z | z
      · rcases List.mem_append.mp z with z | z
        · exact .inl z
        · rw [List.mem_singleton.mp z]; exact .inr List.mem_cons_self
      · exact .inr (List.mem_cons_of_mem _ z)
theorem LnOk.of {s : Str} (hl : s.length ≤ 900000) (h : okS s) : LnOk s := by
  obtain ⟨h1, h2⟩ := spl_bd (sg s) [] s.length (by rw [← sg_len]; simp)
  have hc : (wordsOf s).length ≤ s.length + 1 := by
    have := congrArg List.length (words_spl s)
    rw [List.length_map] at this
    rw [this, ← sg_len]
    exact h2
  refine ⟨by omega, by omega, fun w hw => ?_⟩
  have : sg w ∈ TL.spl [32] 0 [] (sg s) := by rw [← words_spl]; exact List.mem_map.mpr ⟨w, hw, rfl⟩
  obtain ⟨g1, g2⟩ := h1 _ this
  refine ⟨by rw [← sg_len]; omega, fun c hc => ?_⟩
  rcases g2 c hc with z | z
  · cases z
  · exact h c z
/-! ### a text of lines -/
/-- a line that can stand in a text -/
structure LineOk (m : Nat) (s : Str) : Prop where
  len : s.length ≤ m
  ok : okS s
  nl : 10 ∉ sg s
theorem joinL_len (m : Nat) : ∀ parts : List (List Nat), (∀ p ∈ parts, p.length ≤ m) → (TL.joinL [10] parts).length ≤ (m + 1) * parts.length
  | [], _ => Nat.zero_le _
  | [p], h => by
    have := h p List.mem_cons_self
    simp [TL.joinL]
    omega
  | p :: q :: r, h => by
    have h1 := h p List.mem_cons_self
    have h2 := joinL_len m (q :: r) fun z hz => h z (List.mem_cons_of_mem _ hz)
    have e : TL.joinL [10] (p :: q :: r) = p ++ ([10] ++ TL.joinL [10] (q :: r)) := rfl
    rw [e, List.length_append, List.length_append, List.length_cons, List.length_cons (a := p), Nat.mul_add]
    simp only [List.length_cons, List.length_nil] at *
    omega
theorem sg_joinN (L : List Str) : sg (PySem.Txt.join "\n" L) = TL.joinL [10] (L.map sg) := by
  rw [TL.join_eq]
  exact TL.tl_join "\n" L
theorem TxOk.of {L : List Str} {m : Nat} (hne : L ≠ []) (h0 : L ≠ [("" : Str)]) (h : ∀ s ∈ L, LineOk m s) (hm : (m + 1) * L.length ≤ 1000000) : TxOk (PySem.Txt.join "\n" L) L := by
  refine ⟨?_, fun e => h0 ?_, split_lines hne fun s hs => (h s hs).nl, ?_⟩
  · rw [← sg_len, sg_joinN]
    refine Nat.le_trans (joinL_len m _ fun p hp => ?_) (by rw [List.length_map]; exact hm)
    obtain ⟨s, hs, rfl⟩ := List.mem_map.mp hp
    rw [sg_len]
    exact (h s hs).len
  · have := split_lines hne fun s hs => (h s hs).nl
    rw [e] at this
    rw [← this]
    decide +kernel
  · have : L.length ≤ (m + 1) * L.length := Nat.le_mul_of_pos_left _ (by omega)
    omega
theorem LineOk.ln {m : Nat} {s : Str} (h : LineOk m s) (hm : m ≤ 900000) : LnOk s := .of (by have := h.len; omega) h.ok
theorem LineOk.up {m k : Nat} {s : Str} (h : LineOk m s) (hm : m ≤ k) : LineOk k s := ⟨Nat.le_trans h.len hm, h.ok, h.nl⟩
theorem LineOk.app {m k : Nat} {a b : Str} (h : LineOk m a) (g : LineOk k b) : LineOk (m + k) (a ++ b) :=
  ⟨by rw [len_app]; have := h.len; have := g.len; omega, okS_app h.ok g.ok, fun z => by rw [sg_app] at z; exact (List.mem_append.mp z).elim h.nl g.nl⟩
def lineB (s : Str) : Bool := !decide (10 ∈ sg s) && (sg s).all fun c => decide (c < 1114112)
theorem LineOk.lit {s : Str} {m : Nat} (h : lineB s = true) (hm : s.length ≤ m) : LineOk m s := by
  unfold lineB at h
  simp only [Bool.and_eq_true, Bool.not_eq_true', decide_eq_false_iff_not, List.all_eq_true, decide_eq_true_eq] at h
  exact ⟨hm, h.2, h.1⟩
/-! ### a reading, piece by piece -/
/-- from q the reading of L comes to q' -/
def Go (L : List Str) (q q' : RQ) : Prop := ∃ k, k + q.pos ≤ q'.pos ∧ ∀ n, readM L (n + k) q = readM L n q'
theorem Go.refl (L : List Str) (q : RQ) : Go L q q := ⟨0, by omega, fun _ => rfl⟩
theorem Go.trans {L : List Str} {a b c : RQ} (h : Go L a b) (g : Go L b c) : Go L a c := by
  obtain ⟨k, h1, h2⟩ := h
  obtain ⟨j, g1, g2⟩ := g
  exact ⟨k + j, by omega, fun n => by rw [show n + (k + j) = (n + j) + k by omega, h2, g2]⟩
theorem Go.le {L : List Str} {a b : RQ} (h : Go L a b) : a.pos ≤ b.pos := by
  obtain ⟨k, h1, _⟩ := h
  omega
/-- what is still to be read -/
theorem drop_hd {L ls : List Str} {n : Nat} {s : Str} (h : L.drop n = s :: ls) : L[n]? = some s ∧ L.drop (n + 1) = ls := ⟨(drop_get h).1, (drop_get h).2.1⟩
/-! ### bodies, piece by piece -/
/-- the rows ls bring the body from x to x' -/
def BGo (c : Ctx) (ls : List Str) (x x' : BM) : Prop := ∀ (pos : Nat) (rest : List Str), bodyM c (ls ++ rest) x pos = bodyM c rest x' (pos + ls.length)
theorem BGo.nil (c : Ctx) (x : BM) : BGo c [] x x := fun pos rest => rfl
theorem BGo.app {c : Ctx} {l1 l2 : List Str} {x y z : BM} (h : BGo c l1 x y) (g : BGo c l2 y z) : BGo c (l1 ++ l2) x z := fun pos rest => by
  rw [List.append_assoc, h, g, List.length_append, Nat.add_assoc]
theorem BGo.one {c : Ctx} {s : Str} {x x' : BM} (h : ∀ pos, rowM c x pos (wordsOf s) = some x') (hn : wordsOf s ≠ [("end" : Str)] ∨ x.blocks ≠ []) : BGo c [s] x x' := fun pos rest => by
  show bodyM c (s :: rest) x pos = _
  rw [bodyM, if_neg (fun z => hn.elim (fun q => q z.1) fun q => q z.2), h]
  rfl
theorem BGo.bad {c : Ctx} {ls rest : List Str} {x x' : BM} {s : Str} (h : BGo c ls x x') (pos : Nat) (hs : rowM c x' (pos + ls.length) (wordsOf s) = none) (hn : wordsOf s ≠ [("end" : Str)] ∨ x'.blocks ≠ []) : bodyM c (ls ++ s :: rest) x pos = .error (pos + ls.length) := by
  rw [h, bodyM, if_neg (fun z => hn.elim (fun q => q z.1) fun q => q z.2), hs]
theorem BGo.out {c : Ctx} {ls : List Str} {x x' : BM} (h : BGo c ls x x') (pos : Nat) : bodyM c ls x pos = .error (pos + ls.length) := by
  have := h pos []
  rw [List.append_nil] at this
  rw [this]
  rfl
/-! ### how many calls a body has -/
theorem _root_.List.mem_of_mem_dropLast' {α : Type} {l : List α} {a : α} (h : a ∈ l.dropLast) : a ∈ l := List.dropLast_subset l h
def NC (body : List IV) (i : Nat) : Prop := ∀ u, body[i]? = some u → isCall u = false
structure BNc (x : BM) : Prop where
  b : ∀ k ∈ x.blocks, (k.2.1 < x.body.length ∧ NC x.body k.2.1) ∧ ∀ s ∈ k.2.2.drop 1, s - 1 < x.body.length ∧ NC x.body (s - 1)
theorem nc_app {body : List IV} {i : Nat} {v : IV} (h : i < body.length) (n : NC body i) : NC (body ++ [v]) i := fun u e => n u (by rwa [List.getElem?_append_left h] at e)
theorem nc_new (body : List IV) {v : IV} (h : isCall v = false) : NC (body ++ [v]) body.length := fun u e => by simp at e; rw [← e]; exact h
theorem nc_set {body : List IV} {i j : Nat} {v : IV} (n : NC body i) (h : isCall v = false) : NC (body.set j v) i := fun u e => by
  by_cases hj : j = i
  · subst hj
    by_cases hl : j < body.length
    · rw [List.getElem?_set_self hl] at e; cases e; exact h
    · rw [List.getElem?_eq_none (by rw [List.length_set]; omega)] at e; cases e
  · rw [List.getElem?_set_ne hj] at e; exact n u e
theorem calls_set {v : IV} (hv : isCall v = false) : ∀ {body : List IV} {i : Nat}, NC body i → callsN (body.set i v) = callsN body
  | [], _, _ => rfl
  | b :: bs, 0, n => by
    have hb := n b rfl
    unfold callsN
    rw [List.set_cons_zero, List.filter_cons, List.filter_cons, hv, hb]
    rfl
  | b :: bs, i + 1, n => by
    have ih := calls_set hv (body := bs) (i := i) fun u e => n u (by simpa using e)
    unfold callsN at ih ⊢
    rw [List.set_cons_succ, List.filter_cons, List.filter_cons]
    cases isCall b with
    | true => simp only [if_true, List.length_cons, ih]
    | false => simpa using ih
theorem calls_app (body : List IV) (v : IV) : callsN (body ++ [v]) = callsN body + (if isCall v = true then 1 else 0) := by
  unfold callsN
  rw [List.filter_append, List.length_append]
  cases h : isCall v with
  | true => simp [h]
  | false => simp [h]
theorem calls_fold (here : Nat) : ∀ (ss : List Nat) (body : List IV), (∀ s ∈ ss, NC body (s - 1)) → callsN (ss.foldl (setOr here) body) = callsN body ∧ ∀ i, NC body i → NC (ss.foldl (setOr here) body) i
  | [], body, _ => ⟨rfl, fun _ h => h⟩
  | s :: ss, body, h => by
    rw [List.foldl_cons]
    have n0 := h s List.mem_cons_self
    have hv : isCall (.tup [.str "or", .int here]) = false := by show decide (("or" : Str) = "call") = false; decide +kernel
    obtain ⟨h1, h2⟩ := calls_fold here ss (setOr here body s) fun t ht => nc_set (h t (List.mem_cons_of_mem _ ht)) hv
    exact ⟨by rw [h1]; exact calls_set hv n0, fun i hi => h2 i (nc_set hi hv)⟩
theorem calls_end {k : BlkM} {body : List IV} (h1 : NC body k.2.1) (h2 : ∀ s ∈ k.2.2.drop 1, NC body (s - 1)) : callsN (endM k body) = callsN body ∧ (∀ i, i < body.length → NC body i → NC (endM k body) i) := by
  unfold endM endBody
  split
  · have hv : isCall (.tup [.str "often", .int body.length]) = false := by show decide (("often" : Str) = "call") = false; decide +kernel
    have hw : isCall (.tup [.str "end", .int k.2.1]) = false := by show decide (("end" : Str) = "call") = false; decide +kernel
    refine ⟨by rw [calls_app, hw, calls_set hv h1]; rfl, fun i hi n => nc_app (by rw [List.length_set]; exact hi) (nc_set n hv)⟩
  · have hv : isCall (.tup [.str "either", .tup (k.2.2.map fun i => .int (i : Nat)), .int body.length]) = false := by
      show decide (("either" : Str) = "call") = false
      decide +kernel
    have hw : isCall (.tup [.str "end", .int (-1)]) = false := by decide +kernel
    obtain ⟨g1, g2⟩ := calls_fold body.length (k.2.2.drop 1) (body.set k.2.1 (.tup [.str "either", .tup (k.2.2.map fun i => .int (i : Nat)), .int body.length])) fun s hs => nc_set (h2 s hs) hv
    refine ⟨by rw [calls_app, hw, g1, calls_set hv h1]; rfl, fun i hi n => nc_app (by rw [setOr_len, List.length_set]; exact hi) (g2 i (nc_set n hv))⟩
theorem endM_len (k : BlkM) (body : List IV) : (endM k body).length = body.length + 1 := by
  unfold endM endBody
  split
  · rw [List.length_append, List.length_set]; rfl
  · rw [List.length_append, setOr_len, List.length_set]; rfl
def callW (ws : List Str) : Bool := decide (ws.head? = some ("call" : Str)) || (decide (ws.head? = some ("from" : Str)) && decide (ws[2]? = some ("call" : Str)))
theorem BNc.app {x : BM} (n : BNc x) {v kept : IV} : BNc ⟨x.body ++ [v], x.blocks, kept⟩ := ⟨fun k hk => by
  obtain ⟨⟨a, b⟩, c⟩ := n.b k hk
  have e : (x.body ++ [v]).length = x.body.length + 1 := by simp
  exact ⟨⟨by show _ < (x.body ++ [v]).length; omega, nc_app a b⟩, fun s hs => ⟨by have := (c s hs).1; show _ < (x.body ++ [v]).length; omega, nc_app (c s hs).1 (c s hs).2⟩⟩⟩
theorem act_calls {c : Ctx} {x x' : BM} {pos : Nat} {md : IV} {d : Option Decl} {ws : List Str} (n : BNc x) (h : actM c x pos md d ws = some x') : BNc x' ∧ callsN x'.body = callsN x.body + (if ws.head? = some ("call" : Str) then 1 else 0) := by
  match ws, h with
  | [], h => cases h
  | w :: ws, h =>
    rw [actM_cons] at h
    have hh : (w :: ws).head? = some w := rfl
    rw [hh]
    split at h
    · rename_i hw
      rw [if_pos (by rw [hw])]
      match ws, h with
      | [], h => cases h
      | [t], h =>
        obtain ⟨pt, e1, e2⟩ := Option.map_eq_some_iff.mp h
        subst e2
        exact ⟨n.app, by show callsN (x.body ++ [_]) = _; rw [calls_app, if_pos (show isCall (callRowM md t pt) = true from by show decide (("call" : Str) = "call") = true; decide +kernel)]⟩
      | _ :: _ :: _, h => cases h
    · rename_i hw
      rw [if_neg (fun z => hw (Option.some.inj z))]
      match ws, h with
      | [], h => cases h
      | [_], h => cases h
      | [_, _], h => cases h
      | [y, e, t], h =>
        simp only [keepM] at h
        split at h
        · obtain ⟨ln, _, h⟩ := Option.bind_eq_some_iff.mp h
          obtain ⟨pt, _, e2⟩ := Option.map_eq_some_iff.mp h
          subst e2
          exact ⟨n.app, by show callsN (x.body ++ [_]) = _; rw [calls_app, show isCall (keepRow w md y t pt) = false from decide_eq_false hw]; rfl⟩
        · cases h
      | _ :: _ :: _ :: _ :: _, h => cases h
theorem row_calls {c : Ctx} {x x' : BM} {pos : Nat} {ws : List Str} (n : BNc x) (h : rowM c x pos ws = some x') : BNc x' ∧ callsN x'.body = callsN x.body + (if callW ws = true then 1 else 0) := by
  unfold rowM at h
  split at h
  · rename_i hw
    have hc : callW ws = false := by rcases hw with e | e <;> (rw [e]; decide +kernel)
    have hv : isCall (.tup [.str (ws.headD ("" : Str))]) = false := by rcases hw with e | e <;> (rw [e]; decide +kernel)
    unfold blkM at h
    split at h
    · cases h
      refine ⟨⟨fun k hk => ?_⟩, by show callsN (x.body ++ [_]) = _; rw [calls_app, hv, hc]⟩
      have e : (x.body ++ [IV.tup [.str (ws.headD ("" : Str))]]).length = x.body.length + 1 := by simp
      rcases List.mem_append.mp hk with hk | hk
      · obtain ⟨⟨a, b⟩, d⟩ := n.b k hk
        exact ⟨⟨by show _ < (x.body ++ [_]).length; omega, nc_app a b⟩, fun s hs => ⟨by have := (d s hs).1; show _ < (x.body ++ [_]).length; omega, nc_app (d s hs).1 (d s hs).2⟩⟩
      · rw [List.mem_singleton.mp hk]
        exact ⟨⟨by show x.body.length < (x.body ++ [_]).length; omega, nc_new _ hv⟩, fun s hs => by cases hs⟩
    · cases h
  split at h
  · rename_i _ hw
    have hc : callW ws = false := by rw [hw]; decide +kernel
    have hv : isCall (.tup [.str "or"]) = false := by decide +kernel
    unfold orM at h
    split at h
    · rename_i k hk
      split at h
      · cases h
        refine ⟨⟨fun k' hk' => ?_⟩, by show callsN (x.body ++ [_]) = _; rw [calls_app, hv, hc]⟩
        have e : (x.body ++ [IV.tup [.str "or"]]).length = x.body.length + 1 := by simp
        have hm : k ∈ x.blocks := List.mem_of_getLast? hk
        rcases List.mem_append.mp hk' with hk' | hk'
        · obtain ⟨⟨a, b⟩, d⟩ := n.b k' (List.mem_of_mem_dropLast' hk')
          exact ⟨⟨by show _ < (x.body ++ [_]).length; omega, nc_app a b⟩, fun s hs => ⟨by have := (d s hs).1; show _ < (x.body ++ [_]).length; omega, nc_app (d s hs).1 (d s hs).2⟩⟩
        · rw [List.mem_singleton.mp hk']
          obtain ⟨⟨a, b⟩, d⟩ := n.b k hm
          refine ⟨⟨by show k.2.1 < (x.body ++ [_]).length; omega, nc_app a b⟩, fun s hs => ?_⟩
          have hs : s ∈ (k.2.2 ++ [x.body.length + 1]).drop 1 := hs
          have : s ∈ k.2.2.drop 1 ∨ s = x.body.length + 1 := by
            cases hk2 : k.2.2 with
            | nil => rw [hk2] at hs; cases hs
            | cons z zs =>
              rw [hk2] at hs
              rcases List.mem_append.mp (show s ∈ zs ++ [x.body.length + 1] from hs) with q | q
              · exact .inl q
              · exact .inr (List.mem_singleton.mp q)
          rcases this with q | q
          · exact ⟨by have := (d s q).1; show _ < (x.body ++ [_]).length; omega, nc_app (d s q).1 (d s q).2⟩
          · subst q
            exact ⟨by show _ < (x.body ++ [_]).length; omega, nc_new _ hv⟩
      · cases h
    · cases h
  split at h
  · rename_i _ _ hw
    have hc : callW ws = false := by rw [hw]; decide +kernel
    unfold endbM at h
    split at h
    · rename_i k hk
      split at h
      · cases h
        have hm : k ∈ x.blocks := List.mem_of_getLast? hk
        obtain ⟨⟨a, b⟩, d⟩ := n.b k hm
        obtain ⟨g1, g2⟩ := calls_end (k := k) (body := x.body) b fun s hs => (d s hs).2
        refine ⟨⟨fun k' hk' => ?_⟩, by show callsN (endM k x.body) = _; rw [g1, hc]; rfl⟩
        obtain ⟨⟨a', b'⟩, d'⟩ := n.b k' (List.mem_of_mem_dropLast' hk')
        have e := endM_len k x.body
        exact ⟨⟨by show _ < (endM k x.body).length; omega, g2 _ a' b'⟩, fun s hs => ⟨by have := (d' s hs).1; show _ < (endM k x.body).length; omega, g2 _ (d' s hs).1 (d' s hs).2⟩⟩
      · cases h
    · cases h
  split at h
  · rename_i _ _ _ hw
    have hc : callW ws = false := by
      unfold callW
      rw [hw]
      rw [decide_eq_false (show ¬ some ("\x69mport" : Str) = some ("call" : Str) by decide +kernel), decide_eq_false (show ¬ some ("\x69mport" : Str) = some ("from" : Str) by decide +kernel)]
      rfl
    match hws : ws.tail, h with
    | [], h => cases h
    | [m], h =>
      simp only [impM] at h
      split at h
      · cases h
        exact ⟨n.app, by show callsN (x.body ++ [_]) = _; rw [calls_app, hc, show isCall (impRow m) = false from by show decide (("\x69mport" : Str) = "call") = false; decide +kernel]⟩
      · cases h
    | _ :: _ :: _, h => cases h
  split at h
  · rename_i _ _ _ _ hw
    match ws, hw, h with
    | w :: ws, hw, h =>
      have hw : w = ("from" : Str) := Option.some.inj hw
      subst hw
      match ws, h with
      | [], h => cases h
      | [_], h => cases h
      | m :: a :: as, h =>
        have h : fromM c x pos (m :: a :: as) = some x' := h
        simp only [fromM] at h
        split at h
        · rename_i d hd
          obtain ⟨g1, g2⟩ := act_calls n h
          refine ⟨g1, ?_⟩
          rw [g2]
          congr 1
          rw [show (a :: as).head? = some a from rfl]
          unfold callW
          have e1 : (("from" : Str) :: m :: a :: as).head? = some ("from" : Str) := rfl
          have e2 : (("from" : Str) :: m :: a :: as)[2]? = some a := rfl
          rw [e1, e2, decide_eq_false (show ¬ some ("from" : Str) = some ("call" : Str) by decide +kernel), decide_eq_true (show some ("from" : Str) = some ("from" : Str) from rfl)]
          by_cases ha : a = ("call" : Str)
          · rw [if_pos (by rw [ha]), decide_eq_true (by rw [ha])]; rfl
          · rw [if_neg (fun z => ha (Option.some.inj z)), decide_eq_false (fun z => ha (Option.some.inj z))]; rfl
        · cases h
  · rename_i _ _ _ _ hw
    obtain ⟨g1, g2⟩ := act_calls n h
    refine ⟨g1, ?_⟩
    rw [g2]
    congr 1
    unfold callW
    rw [decide_eq_false hw]
    by_cases ha : ws.head? = some ("call" : Str)
    · rw [if_pos ha, decide_eq_true ha]; rfl
    · rw [if_neg ha, decide_eq_false ha]; rfl
/-- the calls among the lines that a body has read -/
theorem body_calls {c : Ctx} : ∀ {ls : List Str} {x x' : BM} {pos pos' : Nat}, BNc x → bodyM c ls x pos = .ok (x', pos') → pos < pos' ∧ callsN x'.body = callsN x.body + (ls.take (pos' - pos)).countP fun s => callW (wordsOf s)
  | [], x, x', pos, pos', _, h => by cases h
  | s :: ls, x, x', pos, pos', n, h => by
    unfold bodyM at h
    split at h
    · rename_i he
      cases h
      refine ⟨Nat.lt_succ_self _, ?_⟩
      rw [show pos + 1 - pos = 1 by omega, List.take_succ_cons, List.take_zero, List.countP_cons, he.1]
      rfl
    · split at h
      · cases h
      · rename_i x1 hr
        obtain ⟨n1, e1⟩ := row_calls n hr
        obtain ⟨h1, h2⟩ := body_calls n1 h
        refine ⟨by omega, ?_⟩
        rw [show pos' - pos = (pos' - (pos + 1)) + 1 by omega, List.take_succ_cons, List.countP_cons, h2, e1]
        cases callW (wordsOf s) <;> simp <;> omega
end RD
set_option maxHeartbeats 2000000
/-! rows that are right, each by its words -/
namespace RD
open PySem PySem.Spec PyProof.Rows L2 Sm
section
variable {L : List Str} {q : RQ} {init : List Mod} {m : Mod} {s w n x y : Str} {ws : List Str}
theorem topM_mod (h : wordsOf s = [("module" : Str), n]) (hn : nameB n = true) (hq : n ∉ q.ms.map (·.name)) : topM L q s = .ok (modQ q n 0 0) := by
  unfold topM
  rw [h]
  show (if ("module" : Str) = ("module" : Str) then (if nameB n = true ∧ n ∉ q.ms.map (·.name) then Except.ok (modQ q n 0 0) else .error q.pos) else _) = _
  rw [if_pos rfl, if_pos ⟨hn, hq⟩]
theorem topM_w (h : wordsOf s = w :: ws) (hw : w ≠ ("module" : Str)) (hq : q.ms = init ++ [m]) : topM L q s = rowQ init m q L w ws := by
  unfold topM
  rw [h]
  show (if w = ("module" : Str) then _ else (match q.ms.getLast? with | none => Except.error q.pos | some m => rowQ q.ms.dropLast m q L w ws)) = _
  rw [if_neg hw, hq]
  simp
theorem rowQ_out : rowQ init m q L "outside" ws = outM init m q ws := if_pos rfl
theorem rowQ_imp : rowQ init m q L "\x69mport" ws = impQ init m q ws := by
  unfold rowQ
  rw [if_neg (by decide +kernel), if_pos rfl]
theorem rowQ_from : rowQ init m q L "from" ws = fromQ init m q ws := by
  unfold rowQ
  rw [if_neg (by decide +kernel), if_neg (by decide +kernel), if_pos rfl]
theorem rowQ_table : rowQ init m q L "table" ws = tableM init m q L ws := by
  unfold rowQ
  rw [if_neg (by decide +kernel), if_neg (by decide +kernel), if_neg (by decide +kernel), if_pos rfl]
theorem rowQ_class : rowQ init m q L "class" ws = classM init m q L ws := by
  unfold rowQ
  rw [if_neg (by decide +kernel), if_neg (by decide +kernel), if_neg (by decide +kernel), if_neg (by decide +kernel), if_pos rfl]
theorem rowQ_def : rowQ init m q L "def" ws = defM init m q L ws := by
  unfold rowQ
  rw [if_neg (by decide +kernel), if_neg (by decide +kernel), if_neg (by decide +kernel), if_neg (by decide +kernel), if_neg (by decide +kernel), if_pos rfl]
def rowW : List Str := ["outside", "\x69mport", "from", "table", "class", "def"]
theorem rowQ_name (h : w ∉ rowW) : rowQ init m q L w ws = nameQ init m q w ws := by
  unfold rowQ
  rw [if_neg (fun e => h (by rw [e]; decide +kernel)), if_neg (fun e => h (by rw [e]; decide +kernel)), if_neg (fun e => h (by rw [e]; decide +kernel)), if_neg (fun e => h (by rw [e]; decide +kernel)), if_neg (fun e => h (by rw [e]; decide +kernel)), if_neg (fun e => h (by rw [e]; decide +kernel))]
theorem out_ok (h : freshB m n = true) : outM init m q [n] = .ok (addQ q init m n (outRowT n q.pos)) := if_pos h
theorem from_ok (h : freshB m y = true) (ha : abB init x y = true) : fromQ init m q [x, "\x69mport", y] = .ok (addQ q init m y (fromRowT y x y q.pos)) := by
  show (if (asW 3 [x, ("\x69mport" : Str), y] = true ∧ ([x, ("\x69mport" : Str), y] : List Str)[1]? = some ("\x69mport" : Str) ∧ abB init x y = true) ∧ freshB m y = true then Except.ok (addQ q init m y (fromRowT y x y q.pos)) else .error q.pos) = _
  rw [if_pos ⟨⟨rfl, rfl, ha⟩, h⟩]
theorem def_ok_ {hid : Option Str} {pv : IV} {x' : BM} {pos' : Nat} (h : hdrM m.decl q.pos ws = some (n, hid, pv)) (hn : nameB n = true) (hf : m.decl.lookup n = none) (hb : bodyM (ctxD q init m n hid) (L.drop (q.pos + 1)) ⟨[], [], q.kept⟩ (q.pos + 1) = .ok (x', pos')) :
    defM init m q L ws = .ok (defQM q init m n hid (defRowM n q.pos hid pv x'.body) pos' x'.kept) := by
  unfold defM
  rw [h]
  show (if nameB n = true ∧ m.decl.lookup n = none then (match bodyM (ctxD q init m n hid) (L.drop (q.pos + 1)) ⟨[], [], q.kept⟩ (q.pos + 1) with | .ok (x', pos') => Except.ok (defQM q init m n hid (defRowM n q.pos hid pv x'.body) pos' x'.kept) | .error k => .error k) else .error q.pos) = _
  rw [if_pos ⟨hn, hf⟩, hb]
end
section
variable {β : Type} {l r : List (Str × β)} {k x : Str} {v : β}
theorem lookup_app (h : l.lookup k = some v) : (l ++ r).lookup k = some v := by
  induction l with
  | nil => cases h
  | cons p l ih =>
    obtain ⟨a, b⟩ := p
    show List.lookup k ((a, b) :: (l ++ r)) = some v
    rw [List.lookup_cons] at h ⊢
    split at h
    · exact h
    · exact ih h
end
theorem get_app_ {P rest : List Str} {s : Str} : (P ++ s :: rest)[P.length]? = some s := by simp
theorem weigh_app : ∀ (bs : List (List IV)) (b : List IV) (g : Nat), weigh (bs ++ [b]) g = max (weigh bs g) (1 + callsN b * max 1 (weigh bs g))
  | [], b, g => rfl
  | x :: bs, b, g => by
    show weigh (bs ++ [b]) _ = _
    rw [weigh_app bs b]
    rfl
end RD
set_option maxHeartbeats 1000000
/-! Wp: a mirror runs through, and what is told of its end; one rule for each form, so that a walk goes by itself -/
namespace Sm
open PySem PySem.Spec PyProof.Rows L2
def Wp {α : Type} (o : Out α) (Q : α → Sto → Prop) : Prop := ∃ a S, o = .ok a S ∧ Q a S
structure Chk (p q : Prop) : Prop where
  l : p
  r : q
section
variable {α β : Type} {S S1 : Sto} {Λ Λ1 : Slots}
theorem Wp.ok {a : α} {Q : α → Sto → Prop} (q : Q a S) : Wp (.ok a S) Q := ⟨a, S, rfl, q⟩
theorem Wp.of {o : Out α} {a : α} {Q : α → Sto → Prop} (e : o = .ok a S) (q : Q a S) : Wp o Q := ⟨a, S, e, q⟩
theorem Wp.bind {o : Out α} {k : α → Sto → Out β} {Q : β → Sto → Prop} (h : Wp o fun a S => Wp (k a S) Q) : Wp (o.bind k) Q := by
  obtain ⟨a, S, rfl, h⟩ := h
  exact h
theorem Wp.imp {o : Out α} {P Q : α → Sto → Prop} (h : Wp o P) (f : ∀ a S, P a S → Q a S) : Wp o Q := by
  obtain ⟨a, S, e, h⟩ := h
  exact ⟨a, S, e, f a S h⟩
theorem wp_chk {p : Prop} [Decidable p] {o : Out α} {Q : α → Sto → Prop} (h : Chk p (Wp o Q)) : Wp (chk p o) Q := by rw [chk_pos h.l]; exact h.r
theorem wp_orBad {o : Option β} {b : β} {k : β → Out α} {Q : α → Sto → Prop} (e : o = some b) (h : Wp (k b) Q) : Wp (orBad o k) Q := by rw [e]; exact h
section
variable {Q : IV → Sto → Prop} {a b c d : IE} {f g : IV → IV → Sto → Out IV} {ma : IA}
theorem wp_var {i : Nat} {x : IV} (h : Λ[i]? = some (some x)) (q : Q x S) : Wp (iVar i Λ S) Q := .of (iVar_s h) q
theorem wp_c {x : IV} (q : Q x S) : Wp (iC x Λ S) Q := .ok q
theorem wp_bin (h : Wp (a Λ S) fun x S1 => Wp (b Λ S1) fun y S2 => Wp (f x y S2) Q) : Wp (iBin f a b Λ S) Q := .bind (h.imp fun _ _ h => .bind h)
theorem wp_un {f : IV → Sto → Out IV} (h : Wp (a Λ S) fun x S1 => Wp (f x S1) Q) : Wp (iUn f a Λ S) Q := .bind h
theorem wp_ca {f : List IV → Sto → Out IV} (h : Wp (ma Λ S) fun x S1 => Wp (f x S1) Q) : Wp (iCa f ma Λ S) Q := .bind h
theorem wp_nil {Q : List IV → Sto → Prop} (q : Q [] S) : Wp (iNil Λ S) Q := .ok q
theorem wp_cons {Q : List IV → Sto → Prop} (h : Wp (a Λ S) fun x S1 => Wp (ma Λ S1) fun xs S2 => Q (x :: xs) S2) : Wp (iCons a ma Λ S) Q := .bind (h.imp fun _ _ h => .bind (h.imp fun _ _ q => .ok q))
theorem wp_lst {cell : Bool} (h : Wp (ma Λ S) fun x S1 => Wp (mkL cell x S1) Q) : Wp (iLst cell ma Λ S) Q := .bind h
theorem wp_tup (h : Wp (ma Λ S) fun x S1 => Wp (mkT x S1) Q) : Wp (iTup ma Λ S) Q := .bind h
theorem wp_call {np : Nat} {mf : List IV → Sto → Out IV} (h : Wp (ma Λ S) fun xs S1 => Chk (xs.length = np) (Wp (mf xs S1) Q)) : Wp (iCall np mf ma Λ S) Q := .bind (h.imp fun xs S1 h => by
  obtain ⟨e, v, S2, e2, q⟩ := h
  rw [chk_pos e, e2]
  exact .ok q)
theorem wp_call0 {mf : List IV → Sto → Out IV} (h : Wp (mf [] S) Q) : Wp (iCall0 mf Λ S) Q := by
  obtain ⟨v, S2, e2, q⟩ := h
  unfold iCall0
  rw [e2]
  exact .ok q
theorem wp_bm {T : String} {f : IV → List IV → Sto → Out IV} (h : Wp (a Λ S) fun o S1 => Chk (hasTy T S1 o = true) (Wp (ma Λ S1) fun xs S2 => Wp (f o xs S2) Q)) : Wp (iBM T f a ma Λ S) Q := .bind (h.imp fun _ _ h => wp_chk ⟨h.l, .bind h.r⟩)
theorem wp_sl {cell : Bool} {ml mh : IO} (h : Wp (a Λ S) fun x S1 => Wp (ml Λ S1) fun lo S2 => Wp (mh Λ S2) fun hi S3 => Wp (fSl cell x lo hi S3) Q) : Wp (iSl cell a ml mh Λ S) Q := .bind (h.imp fun _ _ h => .bind (h.imp fun _ _ h => .bind h))
theorem wp_noPart {Q : Option Int → Sto → Prop} (q : Q none S) : Wp (iNoPart Λ S) Q := .ok q
theorem wp_asI {k : Int → Out α} {Q : α → Sto → Prop} {i : Int} (q : Wp (k i) Q) : Wp (asI (.int i) k) Q := q
theorem wp_part {Q : Option Int → Sto → Prop} {a : IE} (h : Wp (a Λ S) fun x S1 => ∃ i : Int, x = .int i ∧ Q (some i) S1) : Wp (iPart a Λ S) Q := .bind (h.imp fun _ _ ⟨i, e, q⟩ => by rw [e]; exact .ok q)
end
/-! ### tests -/
section
variable {Q : Bool → Sto → Prop} {m : IE} {c d : IT}
theorem wp_test (h : Wp (m Λ S) fun x S1 => ∃ b : Bool, x = .bl b ∧ Q b S1) : Wp (iTest m Λ S) Q := .bind (h.imp fun _ _ ⟨b, e, q⟩ => by rw [e]; exact .ok q)
theorem wp_tru (h : Wp (m Λ S) fun x S1 => ∃ b : Bool, truB S1 x = some b ∧ Q b S1) : Wp (iTru m Λ S) Q := .bind (h.imp fun _ _ ⟨b, e, q⟩ => wp_orBad e (.ok q))
theorem ex_bl {b : Bool} {P : Bool → Prop} (q : P b) : ∃ b' : Bool, IV.bl b = .bl b' ∧ P b' := ⟨b, rfl, q⟩
theorem ex_int {i : Int} {P : Int → Prop} (q : P i) : ∃ i' : Int, IV.int i = .int i' ∧ P i' := ⟨i, rfl, q⟩
theorem tr_bl {b : Bool} {P : Bool → Prop} (q : P b) : ∃ b' : Bool, truB S (.bl b) = some b' ∧ P b' := ⟨b, rfl, q⟩
theorem wp_not (h : Wp (c Λ S) fun b S1 => Q (!b) S1) : Wp (iNot c Λ S) Q := .bind (h.imp fun _ _ q => .ok q)
theorem wp_if {Q : α → Sto → Prop} {a b : Slots → Sto → Out α} (h : Wp (c Λ S) fun k S1 => (k = true → Wp (a Λ S1) Q) ∧ (k = false → Wp (b Λ S1) Q)) : Wp (iIf c a b Λ S) Q := .bind (h.imp fun k S1 h => by
  cases k with
  | true => exact h.1 rfl
  | false => exact h.2 rfl)
theorem wp_ift {Q : α → Sto → Prop} {a b : Slots → Sto → Out α} (h : c Λ S = .ok true S1) (q : Wp (a Λ S1) Q) : Wp (iIf c a b Λ S) Q := by rw [if_tt h]; exact q
theorem wp_iff {Q : α → Sto → Prop} {a b : Slots → Sto → Out α} (h : c Λ S = .ok false S1) (q : Wp (b Λ S1) Q) : Wp (iIf c a b Λ S) Q := by rw [if_ff h]; exact q
end
/-- tests that change nothing -/
theorem te_and {c d : IT} {B C : Bool} (h : Wp (c Λ S) fun k S1 => k = B ∧ S1 = S) (g : Wp (d Λ S) fun k S1 => k = C ∧ S1 = S) : Wp (iAnd c d Λ S) fun k S1 => k = (B && C) ∧ S1 = S := by
  obtain ⟨_, _, e1, rfl, rfl⟩ := h
  obtain ⟨_, _, e2, rfl, rfl⟩ := g
  refine .bind (.of e1 ?_)
  rename_i k _ _
  cases k with
  | true => exact .of e2 ⟨rfl, rfl⟩
  | false => exact .ok ⟨rfl, rfl⟩
theorem te_or {c d : IT} {B C : Bool} (h : Wp (c Λ S) fun k S1 => k = B ∧ S1 = S) (g : Wp (d Λ S) fun k S1 => k = C ∧ S1 = S) : Wp (iOr c d Λ S) fun k S1 => k = (B || C) ∧ S1 = S := by
  obtain ⟨_, _, e1, rfl, rfl⟩ := h
  obtain ⟨_, _, e2, rfl, rfl⟩ := g
  refine .bind (.of e1 ?_)
  rename_i k _ _
  cases k with
  | false => exact .of e2 ⟨rfl, rfl⟩
  | true => exact .ok ⟨rfl, rfl⟩
theorem wp_ifP {Q : α → Sto → Prop} {c : IT} {a b : Slots → Sto → Out α} {B : Bool} (h : Wp (c Λ S) fun k S1 => k = B ∧ S1 = S) (ht : B = true → Wp (a Λ S) Q) (hf : B = false → Wp (b Λ S) Q) : Wp (iIf c a b Λ S) Q := by
  obtain ⟨_, _, e1, rfl, rfl⟩ := h
  refine .bind (.of e1 ?_)
  rename_i k _
  cases k with
  | true => exact ht rfl
  | false => exact hf rfl
section
variable {Q : IV → Sto → Prop} {c d : IE}
/-- the same as values -/
theorem te_andV {c d : IE} {B C : Bool} (h : Wp (c Λ S) fun k S1 => k = .bl B ∧ S1 = S) (g : Wp (d Λ S) fun k S1 => k = .bl C ∧ S1 = S) : Wp (iAndV c d Λ S) fun k S1 => k = .bl (B && C) ∧ S1 = S := by
  obtain ⟨_, _, e1, rfl, rfl⟩ := h
  obtain ⟨_, _, e2, rfl, rfl⟩ := g
  refine .bind (.of e1 ?_)
  cases B with
  | true => exact .of e2 ⟨rfl, rfl⟩
  | false => exact .ok ⟨rfl, rfl⟩
theorem te_orV {c d : IE} {B C : Bool} (h : Wp (c Λ S) fun k S1 => k = .bl B ∧ S1 = S) (g : Wp (d Λ S) fun k S1 => k = .bl C ∧ S1 = S) : Wp (iOrV c d Λ S) fun k S1 => k = .bl (B || C) ∧ S1 = S := by
  obtain ⟨_, _, e1, rfl, rfl⟩ := h
  obtain ⟨_, _, e2, rfl, rfl⟩ := g
  refine .bind (.of e1 ?_)
  cases B with
  | false => exact .of e2 ⟨rfl, rfl⟩
  | true => exact .ok ⟨rfl, rfl⟩
theorem wp_notV (h : Wp (c Λ S) fun x S1 => ∃ b : Bool, x = .bl b ∧ Q (.bl (!b)) S1) : Wp (iNotV c Λ S) Q := .bind (h.imp fun _ _ ⟨b, e, q⟩ => by rw [e]; exact .ok q)
theorem wp_andV (h : Wp (c Λ S) fun x S1 => ∃ b : Bool, x = .bl b ∧ (b = true → Wp (d Λ S1) Q) ∧ (b = false → Q (.bl false) S1)) : Wp (iAndV c d Λ S) Q := .bind (h.imp fun _ _ ⟨b, e, h1, h2⟩ => by
  rw [e]
  cases b with
  | true => exact h1 rfl
  | false => exact .ok (h2 rfl))
theorem wp_orV (h : Wp (c Λ S) fun x S1 => ∃ b : Bool, x = .bl b ∧ (b = true → Q (.bl true) S1) ∧ (b = false → Wp (d Λ S1) Q)) : Wp (iOrV c d Λ S) Q := .bind (h.imp fun _ _ ⟨b, e, h1, h2⟩ => by
  rw [e]
  cases b with
  | true => exact .ok (h1 rfl)
  | false => exact h2 rfl)
end
/-! ### statements -/
section
variable {Q : Fl → Sto → Prop} {a b : IS} {m : IE} {i : Nat}
theorem wp_next (q : Q (.nx Λ) S) : Wp (iNext Λ S) Q := .ok q
theorem wp_seq (h : Wp (a Λ S) fun fl S1 => Wp (fSeq b fl S1) Q) : Wp (iSeq a b Λ S) Q := .bind h
theorem wp_join_ (J : Slots → Sto → Prop) (h : Wp (a Λ S) fun fl S1 => ∃ L, fl = .nx L ∧ J L S1) (q : ∀ L S, J L S → Wp (b L S) Q) : Wp (iSeq a b Λ S) Q := .bind (h.imp fun fl S1 ⟨L, e, j⟩ => by rw [e]; exact q L S1 j)
theorem ex_nx {J : Slots → Prop} (j : J Λ) : ∃ L, Fl.nx Λ = .nx L ∧ J L := ⟨Λ, rfl, j⟩
theorem wp_nx (h : Wp (b Λ S) Q) : Wp (fSeq b (.nx Λ) S) Q := h
theorem wp_rt {v : IV} (q : Q (.rt v) S) : Wp (fSeq b (.rt v) S) Q := .ok q
theorem wp_bk (q : Q (.bk Λ) S) : Wp (fSeq b (.bk Λ) S) Q := .ok q
theorem wp_ct (q : Q (.ct Λ) S) : Wp (fSeq b (.ct Λ) S) Q := .ok q
theorem wp_drop (h : Wp (m Λ S) fun _ S1 => Q (.nx Λ) S1) : Wp (iDrop m Λ S) Q := .bind (h.imp fun _ _ q => .ok q)
theorem wp_ret (h : Wp (m Λ S) fun x S1 => Q (.rt x) S1) : Wp (iRet m Λ S) Q := .bind (h.imp fun _ _ q => .ok q)
theorem wp_retN (q : Q (.rt .non) S) : Wp (iRetN Λ S) Q := .ok q
theorem wp_brk (q : Q (.bk Λ) S) : Wp (iBrk Λ S) Q := .ok q
theorem wp_cnt (q : Q (.ct Λ) S) : Wp (iCnt Λ S) Q := .ok q
theorem wp_set (h : Wp (m Λ S) fun x S1 => Q (.nx (Λ.set i (some x))) S1) : Wp (iSet i m Λ S) Q := .bind (h.imp fun _ _ q => .ok q)
theorem wp_asg {g : IG} (h : Wp (m Λ S) fun x S1 => Wp (g x Λ S1) fun L S2 => Q (.nx L) S2) : Wp (iAsg m g Λ S) Q := .bind (h.imp fun _ _ h => .bind (h.imp fun _ _ q => .ok q))
theorem wp_aug {f : IV → IV → Sto → Out IV} {x : IV} (e : Λ[i]? = some (some x)) (h : Wp (m Λ S) fun y S1 => Wp (f x y S1) fun z S2 => Q (.nx (Λ.set i (some z))) S2) : Wp (iAug i f m Λ S) Q := by
  unfold iAug
  rw [iVar_s e]
  exact .bind (.ok (.bind (h.imp fun _ _ h => .bind (h.imp fun _ _ q => .ok q))))
theorem wp_par {j : Nat} {ma : IA} (h : Wp (ma Λ S) fun xs S1 => ∃ x y : IV, xs = [x, y] ∧ Q (.nx ((Λ.set i (some x)).set j (some y))) S1) : Wp (iPar i j ma Λ S) Q := .bind (h.imp fun _ _ ⟨x, y, e, q⟩ => by rw [e]; exact .ok q)
theorem ex_two {x y : IV} {P : IV → IV → Prop} (q : P x y) : ∃ x' y' : IV, [x, y] = [x', y'] ∧ P x' y' := ⟨x, y, rfl, q⟩
theorem wp_name {Q : Slots → Sto → Prop} {x : IV} (q : Q (Λ.set i (some x)) S) : Wp (iName i x Λ S) Q := .ok q
theorem wp_gnil {Q : Slots → Sto → Prop} (q : Q Λ S) : Wp (iGNil [] Λ S) Q := .ok q
theorem wp_gcons {Q : Slots → Sto → Prop} {g : IG} {r : IGs} {x : IV} {xs : List IV} (h : Wp (g x Λ S) fun L S1 => Wp (r xs L S1) Q) : Wp (iGCons g r (x :: xs) Λ S) Q := .bind h
theorem wp_gtup {Q : Slots → Sto → Prop} {n : Nat} {gs : IGs} {xs : List IV} (h : Chk (xs.length = n) (Wp (gs xs Λ S) Q)) : Wp (iGTup n gs (.tup xs) Λ S) Q := wp_chk h
end
/-- what a def gives -/
def FlQ (Q : IV → Sto → Prop) : Fl → Sto → Prop
  | .rt v, S => Q v S
  | .nx _, S => Q .non S
  | _, _ => False
theorem fq_rt {Q : IV → Sto → Prop} {v : IV} (q : Q v S) : FlQ Q (.rt v) S := q
theorem fq_nx {Q : IV → Sto → Prop} (q : Q .non S) : FlQ Q (.nx Λ) S := q
theorem wp_def {n : Nat} {b : IS} {xs : List IV} {Q : IV → Sto → Prop} (h : Wp (b (xs.map some ++ List.replicate (n - xs.length) none) S) (FlQ Q)) : Wp (mDef n b xs S) Q := by
  obtain ⟨fl, S', e, q⟩ := h
  cases fl with
  | rt v => exact .of (md_rt e) q
  | nx L => exact .of (md_nx e) q
  | bk L => exact q.elim
  | ct L => exact q.elim
/-! ### loops -/
def LpQ (I : Slots → Sto → Prop) (Q : Fl → Sto → Prop) : Fl → Sto → Prop
  | .nx L, S => I L S
  | .ct L, S => I L S
  | .bk L, S => Q (.nx L) S
  | .rt v, S => Q (.rt v) S
section
variable {I : Slots → Sto → Prop} {Q : Fl → Sto → Prop}
theorem lq_nx (q : I Λ S) : LpQ I Q (.nx Λ) S := q
theorem lq_ct (q : I Λ S) : LpQ I Q (.ct Λ) S := q
theorem lq_bk (q : Q (.nx Λ) S) : LpQ I Q (.bk Λ) S := q
theorem lq_rt {v : IV} (q : Q (.rt v) S) : LpQ I Q (.rt v) S := q
end
theorem wp_iter {s : Src} {g : IG} {b : IS} {Q : Fl → Sto → Prop} (e : α → IV) (I : Nat → Slots → Sto → Prop) (st : ∀ i Λ S, I i Λ S → s.stay S) :
    ∀ (as : List α) (i : Nat) (Λ : Slots) (S : Sto), I i Λ S → (∀ j Λ S a, as[j]? = some a → I (i + j) Λ S → Wp (g (e a) Λ S) fun L S1 => Wp (b L S1) (LpQ (I (i + j + 1)) Q)) → (∀ Λ S, I (i + as.length) Λ S → Q (.nx Λ) S) → Wp (iIter s g b (as.map e) Λ S) Q
  | [], i, Λ, S, h0, _, q => by
    show Wp (iIter s g b [] Λ S) Q
    unfold iIter
    rw [chkP_pos (st i Λ S h0)]
    exact .ok (q Λ S h0)
  | a :: as, i, Λ, S, h0, h, q => by
    show Wp (iIter s g b (e a :: as.map e) Λ S) Q
    rw [iIter, chkP_pos (st i Λ S h0)]
    refine .bind ((h 0 Λ S a rfl h0).imp fun L S1 h1 => .bind (h1.imp fun fl S2 h2 => ?_))
    have go : ∀ L, I (i + 0 + 1) L S2 → Wp (iIter s g b (as.map e) L S2) Q := fun L hI => wp_iter e I st as (i + 1) L S2 hI (fun j Λ S x hx hI => by
      have z := h (j + 1) Λ S x (by simpa using hx)
      rw [show i + (j + 1) = i + 1 + j by omega] at z
      exact z hI) fun Λ S hI => q Λ S (by rw [List.length_cons, show i + (as.length + 1) = i + 1 + as.length by omega]; exact hI)
    cases fl with
    | nx L => exact go L h2
    | ct L => exact go L h2
    | bk L => exact .ok h2
    | rt v => exact .ok h2
theorem wp_for {ms : IW} {g : IG} {b : IS} {Q : Fl → Sto → Prop} (as : List α) (e : α → IV) (I : Nat → Slots → Sto → Prop) {k : Option Nat} (hs : Wp (ms Λ S) fun s S1 => s = ⟨as.map e, k⟩ ∧ I 0 Λ S1) (st : ∀ i Λ S, I i Λ S → Src.stay ⟨as.map e, k⟩ S)
    (h : ∀ i Λ S a, as[i]? = some a → I i Λ S → Wp (g (e a) Λ S) fun L S1 => Wp (b L S1) (LpQ (I (i + 1)) Q)) (q : ∀ Λ S, I as.length Λ S → Q (.nx Λ) S) : Wp (iFor ms g b Λ S) Q := by
  refine .bind (hs.imp fun s S1 ⟨e1, h0⟩ => ?_)
  subst e1
  exact wp_iter e I st as 0 Λ S1 h0 (fun j Λ S a ha hI => by
    rw [Nat.zero_add] at hI ⊢
    exact h j Λ S a ha hI) fun Λ S hI => q Λ S (by rw [Nat.zero_add] at hI; exact hI)
/-- range(j), range(i, j) -/
theorem wp_range {m : IE} {Q : Src → Sto → Prop} (h : Wp (m Λ S) fun x S1 => ∃ j : Int, x = .int j ∧ Chk (-(2 ^ 62) ≤ j ∧ j < 2 ^ 62) (Q ⟨(List.range j.toNat).map fun i : Nat => IV.int i, none⟩ S1)) : Wp (iSrcR1 m Λ S) Q := .bind (h.imp fun _ _ ⟨j, e, c, q⟩ => by
  rw [e]
  refine wp_asI (wp_chk ⟨c, .ok ?_⟩)
  rw [rangeI_map]
  simp only [Int.zero_add]
  exact q)
theorem wp_range2 {m m' : IE} {Q : Src → Sto → Prop} (h : Wp (m Λ S) fun x S1 => Wp (m' Λ S1) fun y S2 => ∃ i j : Int, x = .int i ∧ y = .int j ∧ Chk (-(2 ^ 62) ≤ i ∧ i < 2 ^ 62 ∧ -(2 ^ 62) ≤ j ∧ j < 2 ^ 62) (Q ⟨(List.range (j - i).toNat).map fun k : Nat => IV.int (i + k), none⟩ S2)) : Wp (iSrcR2 m m' Λ S) Q := .bind (h.imp fun _ _ h => .bind (h.imp fun _ _ ⟨i, j, e, e', c, q⟩ => by
  rw [e, e']
  exact wp_asI (wp_asI (wp_chk ⟨c, .ok q⟩))))
theorem wp_srcL {m : IE} {Q : Src → Sto → Prop} (h : Wp (m Λ S) fun x S1 => Wp (fSrcL x S1) Q) : Wp (iSrcL m Λ S) Q := .bind h
theorem stay_n {as : List α} {e : α → IV} {I : Nat → Slots → Sto → Prop} : ∀ i Λ S, I i Λ S → Src.stay ⟨as.map e, none⟩ S := fun _ _ _ _ => trivial
theorem rg_some {i n a : Nat} (h : (List.range n)[i]? = some a) : a = i ∧ i < n := by
  have hi := lt_some h
  rw [List.length_range] at hi
  rw [List.getElem?_range hi] at h
  exact ⟨(Option.some.inj h).symm, hi⟩
/-! ### comprehensions -/
theorem wp_lcgo {s : Src} {gi : IV → Slots → Option Slots} {tt : IT} {te : IE} {Q : List IV → Sto → Prop} (e : α → IV) (I : Nat → Sto → List IV → Prop) (st : ∀ i S acc, I i S acc → s.stay S) :
    ∀ (as : List α) (i : Nat) (S : Sto) (acc : List IV), I i S acc → (∀ j S acc a, as[j]? = some a → I (i + j) S acc → ∃ L, gi (e a) Λ = some L ∧ Wp (tt L S) fun b S1 => (b = true → Wp (te L S1) fun y S2 => I (i + j + 1) S2 (acc ++ [y])) ∧ (b = false → I (i + j + 1) S1 acc)) →
      acc.length + as.length ≤ sizeLine → (∀ S acc, I (i + as.length) S acc → Q acc S) → Wp (iLcGo s gi tt te (as.map e) Λ S acc) Q
  | [], i, S, acc, h0, _, _, q => by
    show Wp (iLcGo s gi tt te [] Λ S acc) Q
    unfold iLcGo
    rw [chkP_pos (st i S acc h0)]
    exact .ok (q S acc h0)
  | a :: as, i, S, acc, h0, h, hl, q => by
    rw [List.length_cons] at hl
    obtain ⟨L, hL, b, S1, hb, h1, h2⟩ := h 0 S acc a rfl h0
    show Wp (iLcGo s gi tt te (e a :: as.map e) Λ S acc) Q
    unfold iLcGo
    rw [chkP_pos (st i S acc h0), hL, orBad_some, hb, noX_ok, Out.bind_ok]
    have go : ∀ S2 acc2, acc2.length ≤ acc.length + 1 → I (i + 0 + 1) S2 acc2 → Wp (iLcGo s gi tt te (as.map e) Λ S2 acc2) Q := fun S2 acc2 hl2 hI => wp_lcgo e I st as (i + 1) S2 acc2 hI (fun j S acc x hx hI => by
      have z := h (j + 1) S acc x (by simpa using hx)
      rw [show i + (j + 1) = i + 1 + j by omega] at z
      exact z hI) (by omega) fun S acc hI => q S acc (by rw [List.length_cons, show i + (as.length + 1) = i + 1 + as.length by omega]; exact hI)
    cases b with
    | true =>
      obtain ⟨y, S2, hy, hI⟩ := h1 rfl
      rw [if_pos rfl, hy, noX_ok, Out.bind_ok, chk_pos (by omega)]
      exact go S2 _ (by rw [List.length_append, List.length_singleton]; exact Nat.le_refl _) hI
    | false =>
      rw [if_neg Bool.false_ne_true]
      exact go S1 acc (by omega) (h2 rfl)
theorem wp_lc {cell : Bool} {ms : IW} {gi : IV → Slots → Option Slots} {tt : IT} {te : IE} {vs : List Nat} {Q : IV → Sto → Prop} (as : List α) (e : α → IV) (I : Nat → Sto → List IV → Prop) {k : Option Nat} (hs : Wp (ms Λ S) fun s S1 => s = ⟨as.map e, k⟩ ∧ I 0 S1 []) (st : ∀ i S acc, I i S acc → Src.stay ⟨as.map e, k⟩ S)
    (h : ∀ i S acc a, as[i]? = some a → I i S acc → ∃ L, gi (e a) (wipeI Λ vs) = some L ∧ Wp (tt L S) fun b S1 => (b = true → Wp (te L S1) fun y S2 => I (i + 1) S2 (acc ++ [y])) ∧ (b = false → I (i + 1) S1 acc)) (hl : as.length ≤ sizeLine)
    (q : ∀ S acc, I as.length S acc → Wp (mkL cell acc S) Q) : Wp (iLc cell ms gi tt te vs Λ S) Q := by
  rw [iLc_e]
  refine .bind (hs.imp fun s S1 ⟨e1, h0⟩ => ?_)
  subst e1
  exact .bind (wp_lcgo (s := ⟨as.map e, k⟩) e I st as 0 S1 [] h0 (fun j S acc a ha hI => by
    rw [Nat.zero_add] at hI ⊢
    exact h j S acc a ha hI) (by simpa using hl) fun S acc hI => q S acc (by rw [Nat.zero_add] at hI; exact hI))
theorem wp_yes {Q : Bool → Sto → Prop} (q : Q true S) : Wp (iYes Λ S) Q := .ok q
/-! ### operators -/
theorem one_len (c : Nat) : (Str.mk #[c]).length = 1 := rfl
theorem cdiv_mk {i j : Int} (h0 : 0 < j) (h1 : j < 1073741824) : CDiv i j := ⟨h0, h1⟩
theorem cmul_l {i j : Int} (h0 : -(2 ^ 64) < i) (h1 : i < 2 ^ 64) : CMul i j := .inl ⟨h0, h1⟩
theorem cmul_r {i j : Int} (h0 : -(2 ^ 64) < j) (h1 : j < 2 ^ 64) : CMul i j := .inr ⟨h0, h1⟩
section
variable {Q : IV → Sto → Prop}
theorem wp_fI {C : Int → Int → Prop} [∀ i j, Decidable (C i j)] {g : Int → Int → Int} {i j : Int} (h : Chk (C i j) (Q (.int (g i j)) S)) : Wp (fI C g (.int i) (.int j) S) Q := wp_chk ⟨h.l, .ok h.r⟩
theorem wp_fB {g : Int → Int → Bool} {i j : Int} (q : Q (.bl (g i j)) S) : Wp (fB g (.int i) (.int j) S) Q := .ok q
theorem wp_addi {i j : Int} (q : Q (.int (i + j)) S) : Wp (fAdd (.int i) (.int j) S) Q := .ok q
theorem wp_addI {i j : Int} (q : Q (.int (i + j)) S) : Wp (fAddI (.int i) (.int j) S) Q := .ok q
theorem wp_adds {a b : Str} (h : Chk (a.length + b.length ≤ sizeLine) (Q (.str (a ++ b)) S)) : Wp (fAdd (.str a) (.str b) S) Q := wp_chk ⟨h.l, .ok h.r⟩
theorem wp_addl {a b : List IV} (h : Chk ((a ++ b).length ≤ sizeLine) (Q (.lst (a ++ b)) S)) : Wp (fAdd (.lst a) (.lst b) S) Q := wp_chk ⟨h.l, .ok h.r⟩
theorem wp_neg {i : Int} (q : Q (.int (-i)) S) : Wp (fNeg (.int i) S) Q := .ok q
theorem wp_mkf {a : List IV} (h : Chk (a.length ≤ sizeLine) (Q (.lst a) S)) : Wp (mkL false a S) Q := wp_chk ⟨h.l, .ok h.r⟩
theorem wp_mkF {a : List IV} (h : Chk (a.length ≤ sizeLine) (Q (.lst a) S)) : Wp (mkF a S) Q := wp_chk ⟨h.l, .ok h.r⟩
theorem wp_mkT {a : List IV} (h : Chk (a.length ≤ sizeLine) (Q (.tup a) S)) : Wp (mkT a S) Q := wp_chk ⟨h.l, .ok h.r⟩
theorem wp_ixl {xs : List IV} {i : Int} {v : IV} (e : atI xs i = some v) (q : Q v S) : Wp (fIx (.lst xs) (.int i) S) Q := by rw [fIx_l]; exact wp_orBad e (.ok q)
theorem wp_ixt {xs : List IV} {i : Int} {v : IV} (e : atI xs i = some v) (q : Q v S) : Wp (fIx (.tup xs) (.int i) S) Q := by rw [fIx_t]; exact wp_orBad e (.ok q)
theorem wp_ixa {xs : List IV} {n : Nat} {i : Int} {v : IV} (g : S[n]? = some (.lst xs)) (e : atI xs i = some v) (q : Q v S) : Wp (fIx (.adr n) (.int i) S) Q := by rw [fIx_a g]; exact wp_orBad e (.ok q)
theorem wp_inti {i : Int} (q : Q (.int i) S) : Wp (fInt [.int i] S) Q := .ok q
theorem wp_intb {i : Bool} (q : Q (.int (if i then 1 else 0)) S) : Wp (fInt [.bl i] S) Q := .ok q
theorem wp_len {x : IV} {n : Nat} (e : lenN S x = some n) (q : Q (.int n) S) : Wp (fLen [x] S) Q := by rw [fLen_e, e]; exact .ok q
theorem wp_max2 {i j : Int} (q : Q (.int (if j > i then j else i)) S) : Wp (fMax2 [.int i, .int j] S) Q := .ok q
theorem wp_min2 {i j : Int} (q : Q (.int (if j < i then j else i)) S) : Wp (fMin2 [.int i, .int j] S) Q := .ok q
theorem wp_isi {x : IV} {n t : String} {b : Bool} (e : tyN S x = some t) (k : kitN t n = some b) (q : Q (.bl b) S) : Wp (fIsi [x, .ty n] S) Q := by rw [fIsi_e, e, orBad_some, k]; exact .ok q
theorem wp_notin {x y : IV} {b : Bool} (e : inB S x y = some b) (q : Q (.bl (!b)) S) : Wp (fNotIn x y S) Q := by rw [fNotIn_e, e]; exact .ok q
theorem wp_ne {x y : IV} {b : Bool} (e : eqB S x y = some b) (q : Q (.bl (!b)) S) : Wp (fNe x y S) Q := by rw [fNe_e, e]; exact .ok q
theorem wp_eqi {i j : Int} (q : Q (.bl (decide (i = j))) S) : Wp (fEq (.int i) (.int j) S) Q := .ok q
theorem wp_nei {i j : Int} (q : Q (.bl (!decide (i = j))) S) : Wp (fNe (.int i) (.int j) S) Q := .ok q
theorem wp_eqs {i j : Str} (q : Q (.bl (decide (i = j))) S) : Wp (fEq (.str i) (.str j) S) Q := .ok q
theorem wp_nes {i j : Str} (q : Q (.bl (!decide (i = j))) S) : Wp (fNe (.str i) (.str j) S) Q := .ok q
theorem wp_isN {x : IV} (q : Q (.bl (isN x)) S) : Wp (gIsN x .non S) Q := .ok q
theorem wp_notN {x : IV} (q : Q (.bl (!isN x)) S) : Wp (gNotN x .non S) Q := .ok q
theorem wp_sls {cell : Bool} {z : Str} {lo hi : Option Int} (h : Chk (z.length ≤ sizeLine) (Q (.str (cutS z lo hi)) S)) : Wp (fSl cell (.str z) lo hi S) Q := wp_chk ⟨h.l, .ok h.r⟩
theorem wp_sll {cell : Bool} {z : List IV} {lo hi : Option Int} (h : Wp (mkL cell (cutI z lo hi) S) Q) : Wp (fSl cell (.lst z) lo hi S) Q := h
end
end
/-! ### the store: the draws' cell at n, and cells that are known -/
structure Hd (n K : Nat) (fs : List (Nat × Cell)) (S : Sto) : Prop where
  dr : Lw.Dr S n K
  get : ∀ p ∈ fs, S[p.1]? = some p.2
  nd : (n :: fs.map (·.1)).Nodup
section
variable {n K : Nat} {fs : List (Nat × Cell)} {S S' : Sto} {l : Nat} {c : Cell}
theorem Hd.at (h : Hd n K fs S) (i : Nat) (e : fs[i]? = some (l, c)) : S[l]? = some c := h.get (l, c) (List.mem_of_getElem? e)
theorem Hd.up {M : Nat} (h : Hd n K fs S) (l : K ≤ M) : Hd n M fs S := ⟨h.dr.up l, h.get, h.nd⟩
theorem Hd.ne (h : Hd n K fs S) (i : Nat) (e : fs[i]? = some (l, c)) : l ≠ n := fun z => by
  have := (List.nodup_cons.mp h.nd).1
  exact this (z ▸ List.mem_map.mpr ⟨(l, c), List.mem_of_getElem? e, rfl⟩)
theorem Hd.lt (h : Hd n K fs S) {p : Nat × Cell} (hp : p ∈ fs) : p.1 < S.length := lt_some (h.get p hp)
/-- only the draws' cell may differ, or what is not told of -/
theorem Hd.ext {ds : List Nat} {M : Nat} (h : Hd n K fs S) (x : Ext ds S S') (d : Lw.Dr S' n M) (hd : ∀ p ∈ fs, p.1 ∉ ds) : Hd n M fs S' := ⟨d, fun p hp => x.2 _ _ (h.get p hp) (hd p hp), h.nd⟩
theorem Hd.ext0 (h : Hd n K fs S) (x : Ext [] S S') : Hd n K fs S' := h.ext x (h.dr.ext x) (fun _ _ z => by cases z)
theorem Hd.extn {M : Nat} (h : Hd n K fs S) (x : Ext [n] S S') (d : Lw.Dr S' n M) : Hd n M fs S' := h.ext x d fun p hp z => by
  have := (List.nodup_cons.mp h.nd).1
  exact this (List.mem_map.mpr ⟨p, hp, List.mem_singleton.mp z⟩)
theorem Hd.alloc (h : Hd n K fs S) (c : Cell) : Hd n K ((S.length, c) :: fs) (S ++ [c]) := by
  have x : Ext [] S (S ++ [c]) := .app _
  have h' := h.ext0 x
  refine ⟨h'.dr, fun p hp => ?_, ?_⟩
  · rcases List.mem_cons.mp hp with rfl | hp
    · exact get_new _ _
    · exact h'.get p hp
  · obtain ⟨h1, h2⟩ := List.nodup_cons.mp h.nd
    refine List.nodup_cons.mpr ⟨fun z => ?_, List.nodup_cons.mpr ⟨fun z => ?_, h2⟩⟩
    · rcases List.mem_cons.mp z with z | z
      · have q := h.dr.lt
        have z : n = S.length := z
        omega
      · exact h1 z
    · obtain ⟨p, hp, e⟩ := List.mem_map.mp z
      have := h.lt hp
      exact absurd (show p.1 = S.length from e) (by omega)
theorem Hd.put (h : Hd n K fs S) (i : Nat) (e : fs[i]? = some (l, c)) (d : Cell) : Hd n K (fs.set i (l, d)) (S.set l d) := by
  have hl : l < S.length := lt_some (h.at i e)
  have hi := lt_some e
  have ek : (fs.set i (l, d)).map (·.1) = fs.map (·.1) := by
    refine List.ext_getElem? fun j => ?_
    rw [List.getElem?_map, List.getElem?_map]
    by_cases hj : i = j
    · subst hj
      rw [List.getElem?_set_self hi, e]
      rfl
    · rw [List.getElem?_set_ne hj]
  refine ⟨h.dr.ext (Ext.set (ds := [l]) (.inl (by simp))) (by simp [(h.ne i e).symm]), fun p hp => ?_, by rw [ek]; exact h.nd⟩
  obtain ⟨j, hj⟩ := List.getElem?_of_mem hp
  by_cases hij : i = j
  · subst hij
    rw [List.getElem?_set_self hi] at hj
    cases hj
    exact List.getElem?_set_self hl
  · rw [List.getElem?_set_ne hij] at hj
    have hne : l ≠ p.1 := fun z => by
      have nd := (List.nodup_cons.mp h.nd).2
      have a1 : (fs.map (·.1))[i]? = some l := by rw [List.getElem?_map, e]; rfl
      have a2 : (fs.map (·.1))[j]? = some l := by rw [List.getElem?_map, hj, z]; rfl
      obtain ⟨i1, e1⟩ := List.getElem?_eq_some_iff.mp a1
      obtain ⟨i2, e2⟩ := List.getElem?_eq_some_iff.mp a2
      exact hij ((List.getElem_inj nd).mp (e1.trans e2.symm))
    rw [List.getElem?_set_ne hne]
    exact h.get p (List.mem_of_getElem? hj)
theorem Hd.sub {gs : List (Nat × Cell)} (h : Hd n K fs S) (hs : gs.Sublist fs) : Hd n K gs S := ⟨h.dr, fun p hp => h.get p (hs.subset hp), h.nd.sublist ((hs.map _).cons₂ n)⟩
theorem Hd.tail {p : Nat × Cell} (h : Hd n K (p :: fs) S) : Hd n K fs S := h.sub (List.sublist_cons_self p fs)
theorem Hd.snd {p q : Nat × Cell} (h : Hd n K (p :: q :: fs) S) : Hd n K (p :: fs) S := h.sub ((List.sublist_cons_self q fs).cons₂ p)
theorem Hd.nil {fs : List (Nat × Cell)} (h : Hd n K fs S) : Hd n K [] S := h.sub (List.nil_sublist _)
section
variable {Q : IV → Sto → Prop}
theorem wp_mkt {xs : List IV} (h : Hd n K fs S) (q : Chk (xs.length ≤ sizeLine) (∀ (l : Nat) (S' : Sto), Hd n K ((l, .lst xs) :: fs) S' → Q (.adr l) S')) : Wp (mkL true xs S) Q := wp_chk ⟨q.l, .ok (q.r _ _ (h.alloc _))⟩
theorem wp_app {xs : List IV} {v : IV} (h : Hd n K fs S) (i : Nat) (e : fs[i]? = some (l, .lst xs)) (q : Chk (xs.length < sizeLine) (∀ S' : Sto, Hd n K (fs.set i (l, .lst (xs ++ [v]))) S' → Q .non S')) : Wp (fApp (.adr l) [v] S) Q := by
  show Wp (onL S (.adr l) fun n ys => chk (ys.length < sizeLine) (.ok .non (S.set n (.lst (ys ++ [v]))))) Q
  rw [onL_s (h.at i e)]
  exact wp_chk ⟨q.l, .ok (q.r _ (h.put i e _))⟩
theorem wp_ext {xs zs : List IV} {y : IV} (h : Hd n K fs S) (i : Nat) (e : fs[i]? = some (l, .lst xs)) (ey : lstX S y = some zs) (q : Chk (xs.length + zs.length ≤ sizeLine) (∀ S' : Sto, Hd n K (fs.set i (l, .lst (xs ++ zs))) S' → Q .non S')) : Wp (fExt (.adr l) [y] S) Q := by
  show Wp (onL S (.adr l) fun n ys => orBad (lstX S y) fun zs => chk (ys.length + zs.length ≤ sizeLine) (.ok .non (S.set n (.lst (ys ++ zs))))) Q
  rw [onL_s (h.at i e)]
  exact wp_orBad ey (wp_chk ⟨q.l, .ok (q.r _ (h.put i e _))⟩)
theorem cty_a {xs : List IV} (g : S[l]? = some (.lst xs)) : hasTy "list" S (.adr l) = true := by
  unfold hasTy lstOf
  simp only [g]
  rfl
theorem lstX_a {xs : List IV} (g : S[l]? = some (.lst xs)) : lstX S (.adr l) = some xs := by
  unfold lstX
  simp only [g]
theorem seqOf_a {xs : List IV} (g : S[l]? = some (.lst xs)) : seqOf S (.adr l) = some xs := by
  unfold seqOf tupOf lstOf
  simp only [g]
theorem lenN_a {xs : List IV} (g : S[l]? = some (.lst xs)) : lenN S (.adr l) = some xs.length := by
  show (seqOf S (.adr l)).map _ = _
  rw [seqOf_a g]
  rfl
theorem srcL_l {xs : List IV} {Q : Src → Sto → Prop} (q : Q ⟨xs, none⟩ S) : Wp (fSrcL (.lst xs) S) Q := .ok q
theorem wp_adda {y : IV} {xs ys : List IV} (g : S[l]? = some (.lst xs)) (e2 : lstX S y = some ys) (h : Chk (xs.length + ys.length ≤ sizeLine) (Q (.lst (xs ++ ys)) S)) : Wp (fAdd (.adr l) y S) Q := by
  show Wp (orBad (lstX S (.adr l)) fun xs => orBad (lstX S y) fun ys => mkF (xs ++ ys) S) Q
  exact wp_orBad (lstX_a g) (wp_orBad e2 (wp_mkF ⟨by rw [List.length_append]; exact h.l, h.r⟩))
theorem wp_addb {a : List IV} {ys : List IV} (g : S[l]? = some (.lst ys)) (h : Chk (a.length + ys.length ≤ sizeLine) (Q (.lst (a ++ ys)) S)) : Wp (fAdd (.lst a) (.adr l) S) Q := by
  show Wp (orBad (lstX S (.lst a)) fun xs => orBad (lstX S (.adr l)) fun ys => mkF (xs ++ ys) S) Q
  exact wp_orBad rfl (wp_orBad (lstX_a g) (wp_mkF ⟨by rw [List.length_append]; exact h.l, h.r⟩))
/-- xs.append(e), xs.extend(e) as statements -/
theorem wp_appV {Λ : Slots} {Q : Fl → Sto → Prop} {i : Nat} {a : IE} {ys : List IV} (hv : Λ[i]? = some (some (.adr l))) (g : S[l]? = some (.lst ys)) (h : Wp (a Λ S) fun v S1 => ∃ (n K : Nat) (fs : List (Nat × Cell)) (k : Nat) (xs : List IV), Hd n K fs S1 ∧ fs[k]? = some (l, .lst xs) ∧ Chk (xs.length < sizeLine) (∀ S' : Sto, Hd n K (fs.set k (l, .lst (xs ++ [v]))) S' → Q (.nx Λ) S')) : Wp (iDrop (iBM "list" fApp (iVar i) (iCons a iNil)) Λ S) Q := by
  refine wp_drop (wp_bm (wp_var hv ⟨cty_a g, wp_cons (h.imp fun v S1 h => wp_nil ?_)⟩))
  obtain ⟨n, K, fs, k, xs, h, e, q⟩ := h
  exact wp_app h k e q
theorem wp_extV {Λ : Slots} {Q : Fl → Sto → Prop} {i : Nat} {a : IE} {ys : List IV} (hv : Λ[i]? = some (some (.adr l))) (g : S[l]? = some (.lst ys)) (h : Wp (a Λ S) fun v S1 => ∃ (n K : Nat) (fs : List (Nat × Cell)) (k : Nat) (xs zs : List IV), Hd n K fs S1 ∧ fs[k]? = some (l, .lst xs) ∧ lstX S1 v = some zs ∧ Chk (xs.length + zs.length ≤ sizeLine) (∀ S' : Sto, Hd n K (fs.set k (l, .lst (xs ++ zs))) S' → Q (.nx Λ) S')) : Wp (iDrop (iBM "list" fExt (iVar i) (iCons a iNil)) Λ S) Q := by
  refine wp_drop (wp_bm (wp_var hv ⟨cty_a g, wp_cons (h.imp fun v S1 h => wp_nil ?_)⟩))
  obtain ⟨n, K, fs, k, xs, zs, h, e, e2, q⟩ := h
  exact wp_ext h k e e2 q
end
end
end Sm
namespace Lw
open PySem PySem.Spec PyProof.Rows L2 Sm
theorem wp_drawB {A B C M Hh N : Int} (k : DrC A B M Hh N) {n K : Nat} {fs : List (Nat × Cell)} {S : Sto} {m : Int} {Q : IV → Sto → Prop} (h : Hd n K fs S) (hK : K ≤ 1000000) (h0 : 0 < m) (h1 : m < 1073741824)
    (q : ∀ (r : Int) (S' : Sto), Hd n (K + 1) fs S' → 0 ≤ r → r < m → Q (.int r) S') : Wp (mDef 4 (drawB A B C M Hh N) [.adr n, .int m] S) Q := by
  obtain ⟨r, S', e, a, b, c, d⟩ := draw_ok (C := C) k h.dr hK h0 h1
  exact .of e (q r S' (h.extn d c) a b)
theorem wp_sourceB {P cc D : Int} (hP : 0 < P) (hc : -(2 ^ 64) < cc ∧ cc < 2 ^ 64) {S : Sto} {ns : List Int} {i : Nat} {Q : IV → Sto → Prop} (q : ∀ (n : Nat) (S' : Sto), Hd n 0 [] S' → Q (.adr n) S') : Wp (mDef 4 (sourceB P cc D) [.wls (ns.map IV.int), .int i] S) Q := by
  obtain ⟨S', e, d, x, l⟩ := source_ok (P := P) (cc := cc) (D := D) hP hc (S := S) (ns := ns) (i := i)
  exact .of e (q _ _ ⟨d, fun _ z => (by cases z), List.nodup_cons.mpr ⟨fun z => (by cases z), List.nodup_nil⟩⟩)
end Lw
set_option maxHeartbeats 1000000
/-! what may raise; try; a project made -/
namespace Sm
open PySem PySem.Spec PyProof.Rows L2
/-- runs through, or ends by an exception -/
def Wx {α : Type} (o : Out α) (Q : α → Sto → Prop) (E : Str → Nat → Slots → Sto → Prop) : Prop := match o with
  | .ok a S => Q a S
  | .exc C n L S => E C n L S
  | .bad => False
section
variable {α β : Type} {S S1 : Sto} {Λ : Slots} {E : Str → Nat → Slots → Sto → Prop}
theorem Wx.of {o : Out α} {Q : α → Sto → Prop} (h : Wp o Q) : Wx o Q E := by
  obtain ⟨a, S, rfl, q⟩ := h
  exact q
theorem Wx.bind {o : Out α} {k : α → Sto → Out β} {Q : β → Sto → Prop} (h : Wx o (fun a S => Wx (k a S) Q E) E) : Wx (o.bind k) Q E := by
  cases o with
  | ok a S => exact h
  | exc C n L S => exact h
  | bad => exact h
theorem Wx.imp {o : Out α} {P Q : α → Sto → Prop} {F : Str → Nat → Slots → Sto → Prop} (h : Wx o P F) (f : ∀ a S, P a S → Q a S) (g : ∀ C n L S, F C n L S → E C n L S) : Wx o Q E := by
  cases o with
  | ok a S => exact f a S h
  | exc C n L S => exact g C n L S h
  | bad => exact h
theorem wp_xis {i m : Nat} {ist : List (Str × Bool)} {C : Str} {b : Bool} {fs : List (Str × IV)} {Q : IV → Sto → Prop} (e : ist.lookup C = some b) (h1 : Λ[i]? = some none) (h2 : S[m]? = some (.xd fs)) (q : Q (.bl b) S) : Wp (iXIsT i m ist C Λ S) Q := by
  unfold iXIsT
  rw [e]
  show Wp (iXIs i m b Λ S) Q
  unfold iXIs
  rw [h1, h2]
  exact .ok q
theorem wp_xf {i m : Nat} {f : Str} {v : IV} {fs : List (Str × IV)} {Q : IV → Sto → Prop} (h1 : Λ[i]? = some none) (h2 : S[m]? = some (.xd fs)) (h3 : fs.lookup f = some v) (q : Q v S) : Wp (iXf i m f Λ S) Q := by
  unfold iXf
  rw [h1, h2]
  simp only [h3]
  exact .ok q
end
end Sm
namespace RD
open PySem PySem.Spec PyProof.Rows L2 Sm
/-- lines that a project can be made of -/
structure PLn (L : List Str) : Prop where
  tx : TxOk (PySem.Txt.join "\n" L) L
  n : L.length ≤ 1000
  ok : ∀ s ∈ L, LnOk s
  cl : clsM L (L.length + 1) zQ
theorem PLn.of {L : List Str} {m : Nat} (hne : L ≠ []) (h0 : L ≠ [("" : Str)]) (h : ∀ s ∈ L, LineOk m s) (hn : L.length ≤ 1000) (hm : m ≤ 900) (hc : ∀ s ∈ L, (wordsOf s).head? ≠ some ("class" : Str)) : PLn L :=
  ⟨.of hne h0 h (Nat.le_trans (Nat.mul_le_mul (by omega : m + 1 ≤ 901) hn) (by decide)), hn, fun s hs => (h s hs).ln (by omega), clsM_none hc _ _⟩
end RD
namespace RD
open PySem PySem.Spec PyProof.Rows L2 Sm
end RD
set_option maxHeartbeats 1000000
/-! names drawn; lines made of names -/
namespace RD
open PySem PySem.Spec PyProof.Rows L2 Sm
theorem alpha_b : (sg alpha).all (fun c => decide (c < 1114112) && !decide (c = 32) && !decide (c = 10)) = true := by decide +kernel
/-- signs of a name -/
theorem nm_sg {x : Str} (h : nameB x = true) {c : Nat} (hc : c ∈ sg x) : c ∈ sg alpha := by
  unfold nameB abc at h
  simp only [Bool.and_eq_true, List.all_eq_true, decide_eq_true_eq] at h
  exact h.1.2 c hc
theorem nm_no {x : Str} (h : nameB x = true) : okS x ∧ 32 ∉ sg x ∧ 10 ∉ sg x := by
  have a := List.all_eq_true.mp alpha_b
  refine ⟨fun c hc => ?_, fun hc => ?_, fun hc => ?_⟩ <;>
  · have := a _ (nm_sg h hc)
    simp at this <;> omega
theorem nm_ne {x y : Str} (h : nameB x = true) (hy : nameB y = false) : x ≠ y := fun e => by rw [e, hy] at h; cases h
/-! ### lines -/
/-! ### a head, then steps -/
theorem tw_app {p : Nat → Bool} : ∀ (a b : List Nat), (∀ c ∈ a, p c = true) → (∀ c, b.head? = some c → p c = false) → (a ++ b).takeWhile p = a
  | [], [], _, _ => rfl
  | [], c :: b, _, h => by
    show (c :: b).takeWhile p = []
    rw [List.takeWhile_cons, h c rfl]
    rfl
  | c :: a, b, h, g => by
    show (c :: (a ++ b)).takeWhile p = c :: a
    rw [List.takeWhile_cons, h c List.mem_cons_self, if_pos rfl, tw_app a b (fun d hd => h d (List.mem_cons_of_mem _ hd)) g]
theorem cut_pre (x r : Str) : cutS (x ++ r) none (some (x.length : Int)) = x := sg_inj (by
  rw [sg_cut, sg_app]
  have h0 : HT.sIx (x ++ r).length 0 none = 0 := rfl
  have h1 : HT.sIx (x ++ r).length (x ++ r).length (some (x.length : Int)) = x.length := by
    unfold HT.sIx
    rw [len_app]
    simp
    omega
  rw [h0, h1, List.drop_zero, Nat.sub_zero, ← sg_len, List.take_left])
theorem cut_suf (x r : Str) : cutS (x ++ r) (some (x.length : Int)) none = r := sg_inj (by
  rw [sg_cut, sg_app]
  have h0 : HT.sIx (x ++ r).length 0 (some (x.length : Int)) = x.length := by
    unfold HT.sIx
    rw [len_app]
    simp
    omega
  have h1 : HT.sIx (x ++ r).length (x ++ r).length none = (x ++ r).length := rfl
  rw [h0, h1, ← sg_len x, List.drop_left, len_app, List.take_of_length_le (by rw [sg_len, sg_len]; omega)])
theorem pathP_app {x r : Str} (h : nameB x = true) (g : ∀ c, (sg r).head? = some c → isL c = false) : pathP (x ++ r) = (stepsP 5 r []).map fun st => (x, st) := by
  have el : lets (sg (x ++ r)) = x.length := by
    unfold lets
    rw [sg_app, tw_app (p := isL) _ _ (fun c hc => decide_eq_true (nm_sg h hc)) g, sg_len]
  unfold pathP
  rw [el, cut_pre, cut_suf, if_pos h]
theorem str_nil (x : Str) : x ++ ("" : Str) = x := sg_inj (by rw [sg_app]; show sg x ++ [] = _; simp)
end RD
namespace Lw
open PySem PySem.Spec PyProof.Rows L2 Sm RD
theorem kw_b : c_KEYWORDS.all (fun k => decide (k ∈ keptL) || decide (5 < k.length)) = true := by decide +kernel
theorem Pool.nb {ps : List Str} (h : Pool ps keptL) : ∀ x ∈ ps, nameB x = true ∧ x.length ≤ 5 := fun x hx => by
  obtain ⟨l1, l2⟩ := h.len x hx
  refine ⟨?_, l2⟩
  unfold nameB RD.abc
  rw [Bool.and_eq_true, Bool.and_eq_true, List.all_eq_true]
  refine ⟨⟨decide_eq_true ⟨l1, by omega⟩, fun c hc => decide_eq_true (h.abc x hx c hc)⟩, ?_⟩
  rw [Bool.not_eq_true', decide_eq_false_iff_not]
  intro z
  have := List.all_eq_true.mp kw_b x z
  rw [Bool.or_eq_true, decide_eq_true_eq, decide_eq_true_eq] at this
  rcases this with q | q
  · exact h.nk x hx q
  · omega
/-- twelve names -/
structure Names (ps : List Str) : Prop where
  len : ps.length = 12
  nd : ps.Nodup
  nb : ∀ x ∈ ps, nameB x = true ∧ x.length ≤ 5
/-- a name by its place -/
theorem Names.get {ps : List Str} (h : Names ps) (i : Nat) (hi : i < 12) : ∃ x, ps[i]? = some x ∧ nameB x = true ∧ x.length ≤ 5 := by
  have hl : i < ps.length := by rw [h.len]; exact hi
  exact ⟨ps[i], List.getElem?_eq_getElem hl, h.nb _ (List.getElem_mem hl)⟩
theorem Names.ne {ps : List Str} (h : Names ps) {i j : Nat} {x y : Str} (hx : ps[i]? = some x) (hy : ps[j]? = some y) (hij : i ≠ j) : x ≠ y := fun e => by
  subst e
  obtain ⟨i1, e1⟩ := List.getElem?_eq_some_iff.mp hx
  obtain ⟨i2, e2⟩ := List.getElem?_eq_some_iff.mp hy
  exact hij ((List.getElem_inj h.nd).mp (e1.trans e2.symm))
theorem Names.at {ps : List Str} {i : Nat} {x : Str} (hx : ps[i]? = some x) : atI (ps.map IV.str) (i : Int) = some (.str x) := atI_nat (by rw [List.getElem?_map, hx]; rfl)
end Lw
set_option maxHeartbeats 1000000
/-! pop, the last one, lists of ints, slices of texts put together, told and due -/
namespace Sm
open PySem PySem.Spec PyProof.Rows L2
section
variable {n K : Nat} {fs : List (Nat × Cell)} {S S' : Sto} {l : Nat}
theorem set_last {α : Type} (xs : List α) (x y : α) : (xs ++ [x]).set xs.length y = xs ++ [y] := by
  rw [List.set_append_right _ _ (Nat.le_refl _), Nat.sub_self]
  rfl
end
end Sm
namespace RD
open PySem PySem.Spec PyProof.Rows L2 Sm
end RD
namespace Lw
open PySem PySem.Spec PyProof.Rows L2 Sm RD
end Lw
set_option maxHeartbeats 4000000
namespace GP
open PySem PySem.Spec PyProof.Rows L2 Sm
theorem lits : ("abcdefghijklmnopqrstuvwxyz" : Str).length = 26 ∧ ("ahead" : Str).length = 5 ∧ ("all" : Str).length = 3 ∧ ("as" : Str).length = 2 ∧ ("at" : Str).length = 2 ∧ ("call" : Str).length = 4 ∧ ("class" : Str).length = 5 ∧ ("def" : Str).length = 3 ∧ ("end" : Str).length = 3 ∧ ("for" : Str).length = 3 ∧ ("from" : Str).length = 4 ∧ ("keep" : Str).length = 4 ∧ ("none" : Str).length = 4 ∧ ("often" : Str).length = 5 ∧ ("once" : Str).length = 4 ∧ ("or" : Str).length = 2 ∧ ("patch" : Str).length = 5 ∧ ("set" : Str).length = 3 ∧ ("stand" : Str).length = 5 ∧ ("start" : Str).length = 5 ∧ ("stop" : Str).length = 4 ∧ ("table" : Str).length = 5 ∧ ("test" : Str).length = 4 ∧ ("using" : Str).length = 5 ∧ ("with" : Str).length = 4 ∧ ("" : Str).length = 0 ∧ ("x" : Str).length = 1 ∧ ("module" : Str).length = 6 ∧ ("]" : Str).length = 1 ∧ ("." : Str).length = 1 ∧ ("[" : Str).length = 1 ∧ ("function" : Str).length = 8 ∧ ("\x69mport" : Str).length = 6 ∧ ("either" : Str).length = 6 ∧ ("outside" : Str).length = 7 ∧ ("bind" : Str).length = 4 ∧ ("\x69mport " : Str).length = 7 ∧ (" " : Str).length = 1 ∧ ("from " : Str).length = 5 ∧ (" = " : Str).length = 3 ∧ ("outside " : Str).length = 8 ∧ (" as " : Str).length = 4 ∧ (" from " : Str).length = 6 ∧ (" \x69mport " : Str).length = 8 ∧ (" using " : Str).length = 7 ∧ ("def " : Str).length = 4 ∧ ("module " : Str).length = 7 := by decide +kernel
noncomputable def b__law_source : IS := (iSeq (iSet 2 (iIf (iTest (iBin fLt (iVar 1) (iCa fLen (iCons (iVar 0) iNil)))) (iBin fIx (iVar 0) (iVar 1)) (iC (.int 0)))) (iSeq (iSet 3 (iIf (iTest (iBin fGe (iCa fAbs (iCons (iVar 2) iNil)) (iBin fPow (iC (.int 10)) (iC (.int 18))))) (iCa fAbs (iCons (iVar 2) iNil)) (iC (.int 0)))) (iRet (iLst true (iCons (iVar 3) (iCons (iBin fAdd (iBin fAdd (iBin fMod (iCa fInt (iCons (iVar 2) iNil)) (iC (.int 2147483587))) (iBin fMul (iC (.int 7919)) (iVar 1))) (iC (.int 11))) (iCons (iC (.int 0)) iNil)))))))
noncomputable def m__law_source : List IV → Sto → Out IV := mDef 4 b__law_source
noncomputable def b__law_draw : IS := (iSeq (iIf (iTest (iBin fGt (iBin fIx (iVar 0) (iC (.int 0))) (iC (.int 0)))) (iSeq (iSet 2 (iBin fMod (iCa fInt (iCons (iBin fIx (iVar 0) (iC (.int 0))) iNil)) (iVar 1))) (iSeq (iAsg (iBin fDiv (iBin fIx (iVar 0) (iC (.int 0))) (iVar 1)) (iGSub (iVar 0) (iC (.int 0)))) (iRet (iVar 2)))) iNext) (iSeq (iAsg (iBin fAdd (iBin fIx (iVar 0) (iC (.int 2))) (iC (.int 1))) (iGSub (iVar 0) (iC (.int 2)))) (iSeq (iAsg (iBin fMod (iCa fInt (iCons (iBin fAdd (iBin fAdd (iBin fMul (iBin fIx (iVar 0) (iC (.int 1))) (iC (.int 39373))) (iBin fMul (iBin fMul (iBin fIx (iVar 0) (iC (.int 2))) (iBin fIx (iVar 0) (iC (.int 2)))) (iC (.int 30011)))) (iC (.int 1013))) iNil)) (iC (.int 2147483563))) (iGSub (iVar 0) (iC (.int 1)))) (iSeq (iSet 3 (iBin fDiv (iBin fIx (iVar 0) (iC (.int 1))) (iC (.int 128)))) (iRet (iBin fMod (iBin fMod (iCa fInt (iCons (iBin fAdd (iBin fMul (iVar 3) (iVar 3)) (iBin fIx (iVar 0) (iC (.int 1)))) iNil)) (iC (.int 2147399993))) (iVar 1)))))))
noncomputable def m__law_draw : List IV → Sto → Out IV := mDef 4 b__law_draw
noncomputable def b__law_pool : IS := (iSeq (iSet 1 (iLst false (iCons (iC (.str "ahead")) (iCons (iC (.str "all")) (iCons (iC (.str "as")) (iCons (iC (.str "at")) (iCons (iC (.str "call")) (iCons (iC (.str "class")) (iCons (iC (.str "def")) (iCons (iC (.str "end")) (iCons (iC (.str "for")) (iCons (iC (.str "from")) (iCons (iC (.str "keep")) (iCons (iC (.str "none")) (iCons (iC (.str "often")) iNil))))))))))))))) (iSeq (iSet 1 (iBin fAdd (iVar 1) (iLst false (iCons (iC (.str "once")) (iCons (iC (.str "or")) (iCons (iC (.str "patch")) (iCons (iC (.str "set")) (iCons (iC (.str "stand")) (iCons (iC (.str "start")) (iCons (iC (.str "stop")) (iCons (iC (.str "table")) (iCons (iC (.str "test")) (iCons (iC (.str "using")) (iCons (iC (.str "with")) iNil)))))))))))))) (iSeq (iSet 2 (iC (.str "abcdefghijklmnopqrstuvwxyz"))) (iSeq (iSet 3 (iLst true iNil)) (iSeq (iFor (iSrcR1 (iC (.int 12))) (iName 4) (iSeq (iSet 5 (iBin fAdd (iC (.int 1)) (iCall 2 m__law_draw (iCons (iVar 0) (iCons (iC (.int 5)) iNil))))) (iSeq (iSet 6 (iBM "str" fJoin (iC (.str "")) (iCons (iLc false (iSrcR1 (iVar 5)) (giN 8) iYes (iBin fIx (iVar 2) (iCall 2 m__law_draw (iCons (iVar 0) (iCons (iC (.int 26)) iNil)))) [8]) iNil))) (iSeq (iIf (iOr (iTest (iBin fIn (iVar 6) (iVar 1))) (iTest (iBin fIn (iVar 6) (iVar 3)))) (iSeq (iSet 7 (iLc false (iSrcR1 (iC (.int 26))) (giN 8) iYes (iBin fAdd (iBin fAdd (iBin fIx (iVar 2) (iVar 8)) (iBin fIx (iVar 2) (iBin fSub (iC (.int 25)) (iVar 8)))) (iC (.str "x"))) [8])) (iSet 6 (iBin fIx (iLc false (iSrcL (iVar 7)) (giN 9) (iTest (iBin fNotIn (iVar 9) (iVar 3))) (iVar 9) [9]) (iC (.int 0))))) iNext) (iDrop (iBM "list" fApp (iVar 3) (iCons (iVar 6) iNil))))))) (iRet (iVar 3)))))))
noncomputable def m__law_pool : List IV → Sto → Out IV := mDef 10 b__law_pool
end GP
set_option maxHeartbeats 2000000
/-! projects put together of rows: lines as joined words; bodies that are right -/
namespace GP
open PySem PySem.Spec PyProof.Rows L2 Sm RD
/-! ### lines -/
def J : List Str → Str
  | [] => ""
  | [a] => a
  | a :: b :: r => a ++ ((" " : Str) ++ J (b :: r))
structure WordOk (w : Str) : Prop where
  ok : okS w
  sp : 32 ∉ sg w
  nl : 10 ∉ sg w
  len : w.length ≤ 40
theorem J_words : ∀ {ws : List Str}, ws ≠ [] → (∀ w ∈ ws, 32 ∉ sg w) → RD.wordsOf (J ws) = ws
  | [], h, _ => absurd rfl h
  | [a], _, h => words_one (h a (List.mem_singleton.mpr rfl))
  | a :: b :: r, _, h => by
    show RD.wordsOf (a ++ ((" " : Str) ++ J (b :: r))) = _
    rw [words_sp (h a List.mem_cons_self), J_words (by simp) fun w hw => h w (List.mem_cons_of_mem _ hw)]
theorem WordOk.lit {s : Str} (h : (lineB s && !decide (32 ∈ sg s) && decide (s.length ≤ 40)) = true) : WordOk s := by
  simp only [Bool.and_eq_true, Bool.not_eq_true', decide_eq_false_iff_not, decide_eq_true_eq] at h
  have := LineOk.lit h.1.1 h.2
  exact ⟨this.ok, h.1.2, this.nl, h.2⟩
theorem WordOk.name {x : Str} (h : nameB x = true) : WordOk x := ⟨(nm_no h).1, (nm_no h).2.1, (nm_no h).2.2, by have := (name_len h).2; omega⟩
/-! ### paths -/
def PathOk (hs : List Str) (p : Str) : Prop := ∃ h st, h ∈ hs ∧ nameB h = true ∧ pathP p = some (h, st) ∧ WordOk p
theorem PathOk.mono {a b : List Str} {p : Str} (h : PathOk a p) (s : ∀ x ∈ a, x ∈ b) : PathOk b p := by
  obtain ⟨x, st, h1, h2⟩ := h
  exact ⟨x, st, s x h1, h2⟩
theorem PathOk.word {a : List Str} {p : Str} (h : PathOk a p) : WordOk p := by
  obtain ⟨_, _, _, _, _, h⟩ := h
  exact h
/-! ### bodies -/
def before (n : Str) (own : List Str) : List Str := own.takeWhile fun x => decide (x ≠ n)
structure CtxR (c : RD.Ctx) (ab : List (Str × List Str)) (own : List Str) (hid : Option Str) : Prop where
  hidO : c.hid = hid
  abO : ∀ M ns, (M, ns) ∈ ab → ∃ d, c.ab.lookup M = some d ∧ ∀ n ∈ ns, (d.lookup n).isSome = true
  ownO : ∀ n ∈ own, ∃ k, c.own.lookup n = some k ∧ k < c.line
  befO : ∀ n h, n ∈ own → h ∈ before n own → ∃ k j, c.own.lookup n = some k ∧ c.own.lookup h = some j ∧ j < k
def BStep (c : RD.Ctx) (d : Nat) (ls : List Str) : Prop := ∀ (x : BM) (pos : Nat) (rest : List Str), x.blocks.length + d ≤ 4 → ∃ x' : BM, bodyM c (ls ++ rest) x pos = bodyM c rest x' (pos + ls.length) ∧ x'.blocks = x.blocks
def BR (ab : List (Str × List Str)) (own : List Str) (hid : Option Str) (d : Nat) (ls : List Str) : Prop := ∀ c : RD.Ctx, CtxR c ab own hid → BStep c d ls
section
variable {ab : List (Str × List Str)} {own : List Str} {hid : Option Str} {d e : Nat} {ls ms : List Str}
theorem BR.nil : BR ab own hid d [] := fun c _ x pos rest _ => ⟨x, rfl, rfl⟩
theorem BR.up (h : BR ab own hid d ls) (l : d ≤ e) : BR ab own hid e ls := fun c C x pos rest hx => h c C x pos rest (by omega)
theorem BR.app (h : BR ab own hid d ls) (g : BR ab own hid d ms) : BR ab own hid d (ls ++ ms) := fun c C x pos rest hx => by
  obtain ⟨x1, e1, b1⟩ := h c C x pos (ms ++ rest) hx
  obtain ⟨x2, e2, b2⟩ := g c C x1 (pos + ls.length) rest (by rw [b1]; exact hx)
  exact ⟨x2, by rw [List.append_assoc, e1, e2, List.length_append, Nat.add_assoc], b2.trans b1⟩
theorem BR.one {ws : List Str} (hn : ws ≠ []) (hw : ∀ w ∈ ws, 32 ∉ sg w) (he : ws ≠ [("end" : Str)]) (h : ∀ c : RD.Ctx, CtxR c ab own hid → ∀ x pos, ∃ x' : BM, rowM c x pos ws = some x' ∧ x'.blocks = x.blocks) : BR ab own hid d [J ws] := fun c C x pos rest _ => by
  obtain ⟨x', e, b⟩ := h c C x pos
  refine ⟨x', ?_, b⟩
  show bodyM c (J ws :: rest) x pos = _
  rw [bodyM, J_words hn hw, if_neg (fun z => he z.1), e]
  rfl
theorem head_in {c : RD.Ctx} (C : CtxR c ab own hid) {p : Str} (h : PathOk (hid.toList ++ own) p) : ∃ pt, headM c.own c.hid p none c.line true = some pt := by
  obtain ⟨x, st, h1, h2, h3, _⟩ := h
  by_cases hx : some x = hid
  · refine ⟨(x, st), ?_⟩
    simp only [headM, h3, C.hidO, hx, if_true]
  · rcases List.mem_append.mp h1 with z | z
    · exact absurd (by cases hid with | none => cases z | some y => rw [List.mem_singleton.mp z]) hx
    · obtain ⟨k, e1, e2⟩ := C.ownO x z
      refine ⟨(x, st), ?_⟩
      simp only [headM, h3, C.hidO, hx, if_false, aboveD, e1, if_pos e2]
theorem head_mod {c : RD.Ctx} {p : Str} {ns : List Str} {dc : Decl} {line : Nat} {may : Bool} (hd : ∀ n ∈ ns, (dc.lookup n).isSome = true) (h : PathOk ns p) : ∃ pt, headM c.own c.hid p (some dc) line may = some pt := by
  obtain ⟨x, st, h1, h2, h3, _⟩ := h
  exact ⟨(x, st), by simp only [headM, h3]; rw [if_pos (hd x h1)]⟩
theorem w_call : WordOk "call" := .lit (by decide +kernel)
theorem w_from : WordOk "from" := .lit (by decide +kernel)
theorem w_imp : WordOk "\x69mport" := .lit (by decide +kernel)
theorem w_eq : WordOk "=" := .lit (by decide +kernel)
theorem w_kw {w : Str} (h : w = "keep" ∨ w = "once") : WordOk w := by
  rcases h with rfl | rfl <;> exact .lit (by decide +kernel)
theorem w_as : WordOk "as" := .lit (by decide +kernel)
theorem all2 {P : Str → Prop} {a b : Str} (h1 : P a) (h2 : P b) : ∀ w ∈ [a, b], P w := fun w hw => by
  simp only [List.mem_cons, List.not_mem_nil, or_false] at hw
  rcases hw with rfl | rfl <;> assumption
theorem all4 {P : Str → Prop} {a b c d : Str} (h1 : P a) (h2 : P b) (h3 : P c) (h4 : P d) : ∀ w ∈ [a, b, c, d], P w := fun w hw => by
  simp only [List.mem_cons, List.not_mem_nil, or_false] at hw
  rcases hw with rfl | rfl | rfl | rfl <;> assumption
theorem all6 {P : Str → Prop} {a b c d e f : Str} (h1 : P a) (h2 : P b) (h3 : P c) (h4 : P d) (h5 : P e) (h6 : P f) : ∀ w ∈ [a, b, c, d, e, f], P w := fun w hw => by
  simp only [List.mem_cons, List.not_mem_nil, or_false] at hw
  rcases hw with rfl | rfl | rfl | rfl | rfl | rfl <;> assumption
theorem BR.call0 {p : Str} (h : PathOk (hid.toList ++ own) p) : BR ab own hid d [J ["call", p]] :=
  .one (by simp) (all2 w_call.sp h.word.sp) (by simp) fun c C x pos => by
    obtain ⟨pt, e⟩ := head_in C h
    refine ⟨{ x with body := x.body ++ [callRowM .non p pt] }, ?_, rfl⟩
    show (headM c.own c.hid p none c.line true).map _ = _
    rw [e]
    rfl
theorem BR.callM {M p : Str} {ns : List Str} (hM : (M, ns) ∈ ab) (hn : nameB M = true) (h : PathOk ns p) : BR ab own hid d [J ["from", M, "call", p]] :=
  .one (by simp) (all4 w_from.sp (WordOk.name hn).sp w_call.sp h.word.sp) (by simp) fun c C x pos => by
    obtain ⟨dc, e1, e2⟩ := C.abO M ns hM
    obtain ⟨pt, e⟩ := head_mod (c := c) (line := c.line) (may := true) e2 h
    refine ⟨{ x with body := x.body ++ [callRowM (.str M) p pt] }, ?_, rfl⟩
    show (match c.ab.lookup M with | some d => _ | none => none) = _
    rw [e1]
    show (headM c.own c.hid p (some dc) c.line true).map _ = _
    rw [e]
    rfl
/-- the name that a row keeps, and the line above which its head must be -/
theorem line_in {c : RD.Ctx} (C : CtxR c ab own hid) {n : Str} (h : some n = hid ∨ n ∈ own) : ∃ k, lineM c.own c.hid n c.line = some k ∧ k ≤ c.line ∧ (some n = hid → k = c.line) ∧ (some n ≠ hid → c.own.lookup n = some k) := by
  unfold lineM
  rw [C.hidO]
  by_cases hx : some n = hid
  · exact ⟨c.line, if_pos hx, Nat.le_refl _, fun _ => rfl, fun z => absurd hx z⟩
  · obtain ⟨k, e1, e2⟩ := C.ownO n (h.resolve_left hx)
    refine ⟨k, ?_, by omega, fun z => absurd z hx, fun _ => e1⟩
    rw [if_neg hx, e1]
    exact if_pos e2
theorem keep_row {c : RD.Ctx} {x : BM} {pos : Nat} {md : IV} {dd : Option Decl} {w n p : Str} {k : Nat} {pt : Path} (hw : w = "keep" ∨ w = "once") (e1 : lineM c.own c.hid n c.line = some k) (e2 : headM c.own c.hid p dd k false = some pt) :
    actM c x pos md dd [w, n, "=", p] = some { x with body := x.body ++ [keepRow w md n p pt], kept := if isN x.kept = true then .int pos else x.kept } := by
  have hc : w ≠ ("call" : Str) := by rcases hw with rfl | rfl <;> decide +kernel
  have hk : keepW w = true := by rcases hw with rfl | rfl <;> decide +kernel
  rw [actM_cons, if_neg hc]
  show (if keepW w = true ∧ ("=" : Str) = ("=" : Str) then (lineM c.own c.hid n c.line).bind fun ln => (headM c.own c.hid p dd ln false).map fun pt => { x with body := x.body ++ [keepRow w md n p pt], kept := if isN x.kept = true then .int pos else x.kept } else none) = _
  rw [if_pos ⟨hk, rfl⟩, e1, Option.bind_some, e2]
  rfl
theorem BR.keep0 {w n p : Str} (hw : w = "keep" ∨ w = "once") (hn : nameB n = true) (h : some n = hid ∨ n ∈ own) (hp : PathOk (if some n = hid then own.filter (fun x => decide (some x ≠ hid)) else (before n own).filter (fun x => decide (some x ≠ hid))) p) : BR ab own hid d [J [w, n, "=", p]] := by
  have hh : w ≠ ("\x69mport" : Str) ∧ w ≠ ("from" : Str) := by rcases hw with rfl | rfl <;> exact ⟨by decide +kernel, by decide +kernel⟩
  refine .one (by simp) (all4 (w_kw hw).sp (WordOk.name hn).sp w_eq.sp hp.word.sp) (by simp) fun c C x pos => ?_
  obtain ⟨k, e1, hk, k1, k2⟩ := line_in C h
  obtain ⟨y, st, y1, y2, y3, _⟩ := hp
  have hy : some y ≠ hid ∧ ∃ j, c.own.lookup y = some j ∧ j < k := by
    by_cases hx : some n = hid
    · rw [if_pos hx] at y1
      obtain ⟨z1, z2⟩ := List.mem_filter.mp y1
      obtain ⟨j, q1, q2⟩ := C.ownO y z1
      exact ⟨of_decide_eq_true z2, j, q1, by rw [k1 hx]; exact q2⟩
    · rw [if_neg hx] at y1
      obtain ⟨z1, z2⟩ := List.mem_filter.mp y1
      obtain ⟨k', j, q1, q2, q3⟩ := C.befO n y (h.resolve_left hx) z1
      rw [k2 hx] at q1
      cases q1
      exact ⟨of_decide_eq_true z2, j, q2, q3⟩
  obtain ⟨hy0, j, hy1, hy2⟩ := hy
  have e2 : headM c.own c.hid p none k false = some (y, st) := by
    simp only [headM, y3, C.hidO, hy0, if_false, aboveD, hy1, if_pos hy2]
  refine ⟨{ x with body := x.body ++ [keepRow w .non n p (y, st)], kept := if isN x.kept = true then .int pos else x.kept }, ?_, rfl⟩
  have er : rowM c x pos [w, n, "=", p] = actM c x pos .non none [w, n, "=", p] := by
    unfold rowM
    rw [if_neg (by simp), if_neg (by simp), if_neg (by simp), if_neg (by simpa using hh.1), if_neg (by simpa using hh.2)]
  rw [er]
  exact keep_row hw e1 e2
theorem BR.keepM {w M n p : Str} {ns : List Str} (hw : w = "keep" ∨ w = "once") (hM : (M, ns) ∈ ab) (hm : nameB M = true) (hn : nameB n = true) (h : some n = hid ∨ n ∈ own) (hp : PathOk ns p) : BR ab own hid d [J ["from", M, w, n, "=", p]] := by
  refine .one (by simp) (all6 w_from.sp (WordOk.name hm).sp (w_kw hw).sp (WordOk.name hn).sp w_eq.sp hp.word.sp) (by simp) fun c C x pos => ?_
  obtain ⟨k, e1, hk, k1, k2⟩ := line_in C h
  obtain ⟨dc, a1, a2⟩ := C.abO M ns hM
  obtain ⟨pt, e2⟩ := head_mod (c := c) (line := k) (may := false) a2 hp
  refine ⟨{ x with body := x.body ++ [keepRow w (.str M) n p pt], kept := if isN x.kept = true then .int pos else x.kept }, ?_, rfl⟩
  show (match c.ab.lookup M with | some d => actM c x pos (.str M) (some d) [w, n, "=", p] | none => none) = _
  rw [a1]
  exact keep_row hw e1 e2
theorem BR.imp {M : Str} {ns : List Str} (hM : (M, ns) ∈ ab) (hm : nameB M = true) : BR ab own hid d [J ["\x69mport", M]] :=
  .one (by simp) (all2 w_imp.sp (WordOk.name hm).sp) (by simp) fun c C x pos => by
    obtain ⟨dc, e1, _⟩ := C.abO M ns hM
    refine ⟨{ x with body := x.body ++ [impRow M] }, ?_, rfl⟩
    show (if (c.ab.lookup M).isSome = true then _ else none) = _
    rw [e1]
    rfl
theorem words_lit4 : RD.wordsOf ("often" : Str) = [("often" : Str)] ∧ RD.wordsOf ("either" : Str) = [("either" : Str)] ∧ RD.wordsOf ("or" : Str) = [("or" : Str)] ∧ RD.wordsOf ("end" : Str) = [("end" : Str)] := ⟨by decide +kernel, by decide +kernel, by decide +kernel, by decide +kernel⟩
theorem blk_step {c : RD.Ctx} {x : BM} {pos : Nat} {rest : List Str} {w : Str} (hw : w = "often" ∨ w = "either") (hx : x.blocks.length < 4) :
    bodyM c (w :: rest) x pos = bodyM c rest ⟨x.body ++ [.tup [.str w]], x.blocks ++ [(w, x.body.length, [x.body.length + 1])], x.kept⟩ (pos + 1) := by
  have e : RD.wordsOf w = [w] := by rcases hw with rfl | rfl <;> decide +kernel
  have er : rowM c x pos [w] = some ⟨x.body ++ [.tup [.str w]], x.blocks ++ [(w, x.body.length, [x.body.length + 1])], x.kept⟩ := by
    unfold rowM
    rw [if_pos (by rcases hw with rfl | rfl <;> simp)]
    show blkM x w = _
    unfold blkM
    rw [if_pos hx]
  have hne : w ≠ ("end" : Str) := by rcases hw with rfl | rfl <;> decide +kernel
  rw [bodyM, e, if_neg (fun z => hne (List.cons.inj z.1).1), er]
theorem end_step {c : RD.Ctx} {x : BM} {pos : Nat} {rest : List Str} {bs : List BlkM} {k : BlkM} (hb : x.blocks = bs ++ [k]) (hk : k.1 = ("often" : Str) ∨ 1 < k.2.2.length) : ∃ x' : BM, bodyM c (("end" : Str) :: rest) x pos = bodyM c rest x' (pos + 1) ∧ x'.blocks = bs := by
  refine ⟨{ x with body := endM k x.body, blocks := bs }, ?_, rfl⟩
  have er : rowM c x pos [("end" : Str)] = some { x with body := endM k x.body, blocks := bs } := by
    show endbM x = _
    unfold endbM
    rw [hb, List.getLast?_concat]
    show (if k.1 = ("often" : Str) ∨ 1 < k.2.2.length then some { x with body := endM k x.body, blocks := (bs ++ [k]).dropLast } else none) = _
    rw [if_pos hk, List.dropLast_concat]
  rw [bodyM, words_lit4.2.2.2, if_neg (fun z => by rw [hb] at z; simp at z), er]
theorem or_step {c : RD.Ctx} {x : BM} {pos : Nat} {rest : List Str} {bs : List BlkM} {i j : Nat} (hb : x.blocks = bs ++ [(("either" : Str), i, [j])]) : ∃ (x' : BM) (k : Nat), bodyM c (("or" : Str) :: rest) x pos = bodyM c rest x' (pos + 1) ∧ x'.blocks = bs ++ [(("either" : Str), i, [j, k])] := by
  refine ⟨{ x with body := x.body ++ [.tup [.str "or"]], blocks := bs ++ [(("either" : Str), i, [j, x.body.length + 1])] }, x.body.length + 1, ?_, rfl⟩
  have er : rowM c x pos [("or" : Str)] = some { x with body := x.body ++ [.tup [.str "or"]], blocks := bs ++ [(("either" : Str), i, [j, x.body.length + 1])] } := by
    show RD.orM x = _
    unfold RD.orM
    rw [hb, List.getLast?_concat]
    show (if ("either" : Str) = ("either" : Str) ∧ [j].length < 5 then some { x with body := x.body ++ [IV.tup [.str "or"]], blocks := (bs ++ [(("either" : Str), i, [j])]).dropLast ++ [(("either" : Str), i, [j] ++ [x.body.length + 1])] } else none) = _
    rw [if_pos ⟨rfl, by show 1 < 5; decide⟩, List.dropLast_concat]
    rfl
  rw [bodyM, words_lit4.2.2.1, if_neg (fun z => absurd (List.cons.inj z.1).1 (by decide +kernel)), er]
theorem BR.often (h : BR ab own hid d ls) : BR ab own hid (d + 1) ([("often" : Str)] ++ ls ++ [("end" : Str)]) := fun c C x pos rest hx => by
  obtain ⟨x2, e2, b2⟩ := h c C ⟨x.body ++ [.tup [.str "often"]], x.blocks ++ [(("often" : Str), x.body.length, [x.body.length + 1])], x.kept⟩ (pos + 1) ([("end" : Str)] ++ rest) (by show (x.blocks ++ [_]).length + d ≤ 4; rw [List.length_append]; show x.blocks.length + 1 + d ≤ 4; omega)
  obtain ⟨x3, e3, b3⟩ := end_step (c := c) (x := x2) (pos := pos + 1 + ls.length) (rest := rest) b2 (.inl rfl)
  refine ⟨x3, ?_, b3⟩
  rw [List.append_assoc, List.append_assoc]
  show bodyM c (("often" : Str) :: (ls ++ ([("end" : Str)] ++ rest))) x pos = _
  rw [blk_step (.inl rfl) (by omega), e2]
  show bodyM c (("end" : Str) :: rest) x2 _ = _
  rw [e3]
  congr 1
  rw [List.length_append, List.length_append]
  show pos + 1 + ls.length + 1 = pos + (1 + ls.length + 1)
  omega
theorem BR.either (h : BR ab own hid d ls) (g : BR ab own hid d ms) : BR ab own hid (d + 1) (("either" : Str) :: (ls ++ (("or" : Str) :: (ms ++ [("end" : Str)])))) := fun c C x pos rest hx => by
  obtain ⟨x2, e2, b2⟩ := h c C ⟨x.body ++ [.tup [.str "either"]], x.blocks ++ [(("either" : Str), x.body.length, [x.body.length + 1])], x.kept⟩ (pos + 1) (("or" : Str) :: (ms ++ ([("end" : Str)] ++ rest))) (by show (x.blocks ++ [_]).length + d ≤ 4; rw [List.length_append]; show x.blocks.length + 1 + d ≤ 4; omega)
  obtain ⟨x3, k, e3, b3⟩ := or_step (c := c) (x := x2) (pos := pos + 1 + ls.length) (rest := ms ++ ([("end" : Str)] ++ rest)) b2
  obtain ⟨x4, e4, b4⟩ := g c C x3 (pos + 1 + ls.length + 1) ([("end" : Str)] ++ rest) (by rw [b3, List.length_append]; show x.blocks.length + 1 + d ≤ 4; omega)
  rw [b3] at b4
  obtain ⟨x5, e5, b5⟩ := end_step (c := c) (x := x4) (pos := pos + 1 + ls.length + 1 + ms.length) (rest := rest) b4 (.inr (by show 1 < 2; decide))
  refine ⟨x5, ?_, b5⟩
  rw [List.cons_append, List.append_assoc, List.cons_append, List.append_assoc, blk_step (.inr rfl) (by omega), e2, e3, e4]
  show bodyM c (("end" : Str) :: rest) x4 _ = _
  rw [e5]
  congr 1
  rw [List.length_cons, List.length_append, List.length_cons, List.length_append]
  show _ = pos + (ls.length + (ms.length + 1 + 1) + 1)
  omega
/-- a whole body -/
theorem BR.whole (h : BR ab own hid d ls) (hd : d ≤ 4) {c : RD.Ctx} (C : CtxR c ab own hid) (kept : IV) (pos : Nat) (rest : List Str) : ∃ x' : BM, bodyM c (ls ++ ("end" : Str) :: rest) ⟨[], [], kept⟩ pos = .ok (x', pos + ls.length + 1) := by
  obtain ⟨x', e, b⟩ := h c C ⟨[], [], kept⟩ pos (("end" : Str) :: rest) (by show 0 + d ≤ 4; omega)
  refine ⟨x', ?_⟩
  rw [e, bodyM, words_lit4.2.2.2, if_pos ⟨rfl, b⟩]
end
end GP
set_option maxHeartbeats 400000
/-! rows of modules that are right, and how they are read -/
namespace GP
open PySem PySem.Spec PyProof.Rows L2 Sm RD
abbrev Ents := List (Str × Option Str)
inductive GR where
  | out (n : Str)
  | imp (n m : Str)
  | frm (n m x : Str)
  | bind (n : Str) (p : Option Str)
  | tab (n : Str) (es : Ents)
  | cls (n : Str) (bs : List Str) (es : Ents)
  | dfn (n : Str) (h : Option (Str × Str)) (b : List Str)
def GR.name : GR → Str
  | .out n => n
  | .imp n _ => n
  | .frm n _ _ => n
  | .bind n _ => n
  | .tab n _ => n
  | .cls n _ _ => n
  | .dfn n _ _ => n
def wth : Option Str → Str
  | none => "none"
  | some p => p
def entL (e : Str × Option Str) : Str := J [e.1, "=", wth e.2]
def hdL (n : Str) : Option (Str × Str) → Str
  | none => J ["def", n]
  | some (h, p) => J ["def", n, "using", h, "=", p]
def clsL (n : Str) (bs : List Str) : Str := if bs = [] then J ["class", n] else J ("class" :: n :: "from" :: bs)
def GR.lines : GR → List Str
  | .out n => [J ["outside", n]]
  | .imp n m => [if m = n then J ["\x69mport", m] else J ["\x69mport", m, "as", n]]
  | .frm n m x => [if x = n then J ["from", m, "\x69mport", x] else J ["from", m, "\x69mport", x, "as", n]]
  | .bind n p => [J [n, "=", wth p]]
  | .tab n es => J ["table", n] :: (es.map entL ++ [("end" : Str)])
  | .cls n bs es => clsL n bs :: (es.map entL ++ [("end" : Str)])
  | .dfn n h b => hdL n h :: (b ++ [("end" : Str)])
def WthOk (own : List Str) : Option Str → Prop
  | none => True
  | some p => PathOk own p
def EntsOk (own : List Str) (es : Ents) : Prop := (es.map (·.1)).Nodup ∧ ∀ e ∈ es, nameB e.1 = true ∧ WthOk own e.2
def callC (b : List Str) : Nat := b.countP fun s => callW (RD.wordsOf s)
def GR.Right (ab : List (Str × List Str)) (own : List Str) : GR → Prop
  | .out _ => True
  | .imp _ m => m ∈ ab.map (·.1) ∧ nameB m = true
  | .frm _ m x => ∃ ns, (m, ns) ∈ ab ∧ x ∈ ns ∧ nameB m = true ∧ nameB x = true
  | .bind _ p => WthOk own p
  | .tab _ es => EntsOk own es
  | .cls _ bs es => bs.length ≤ 3 ∧ (∀ b ∈ bs, PathOk own b) ∧ EntsOk own es
  | .dfn _ h b => (∀ hd p, h = some (hd, p) → nameB hd = true ∧ PathOk own p) ∧ BR ab own (h.map (·.1)) 4 b ∧ ∀ s ∈ b, LineOk 250 s ∧ (RD.wordsOf s).head? ≠ some ("class" : Str)
structure GR.New (own : List Str) (g : GR) : Prop where
  nb : nameB g.name = true
  fr : g.name ∉ own
/-- the greatest weight behind a row -/
def GR.wt (w : Nat) : GR → Nat
  | .dfn _ _ b => max w (1 + callC b * max 1 w)
  | _ => w
/-! ### places -/
def entPl (l s0 s1 : Str) (line : Nat) : Nat → Ents → List (Str × Nat)
  | _, [] => []
  | i, e :: es => (labE l s0 e.1 s1, line + 1 + i) :: entPl l s0 s1 line (i + 1) es
def GR.pl (M : Str) (line : Nat) (g : GR) : List (Str × Nat) := (lab M g.name, line) :: (match g with
  | .tab n es => entPl (lab M n) "[" "]" line 0 es
  | .cls n _ es => entPl (lab M n) "." "" line 0 es
  | .dfn n (some (h, _)) _ => [(labH (lab M n) h, line)]
  | _ => [])
def kvP (l : List (Str × Nat)) : List (Key × IV) := l.map fun p => (.inr p.1, .int p.2)
structure GM where
  nm : Str
  line : Nat
  rows : List (GR × Nat)
def GM.own (m : GM) : List Str := m.rows.map (·.1.name)
def GM.ds (m : GM) : List (Str × Nat) := m.rows.map fun r => (r.1.name, r.2)
def GM.ps (m : GM) : List (Str × Nat) := (m.nm, m.line) :: m.rows.flatMap fun r => r.1.pl m.nm r.2
def abG (G : List GM) : List (Str × List Str) := G.map fun m => (m.nm, m.own)
def outN : IV → Option Str
  | .tup (.str k :: .str n :: _) => if k = ("outside" : Str) then some n else none
  | _ => none
def GR.outN : GR → Option Str
  | .out n => some n
  | _ => none
/-- label's form -/
def LabOf (M n : Str) (s : Str) : Prop := ∃ t, sg s = sg M ++ 46 :: (sg n ++ t) ∧ ∀ c, t.head? = some c → isL c = false
theorem isL46 : isL 46 = false := by decide +kernel
theorem nm_isL {x : Str} (h : nameB x = true) : ∀ c ∈ sg x, isL c = true := fun c hc => decide_eq_true (nm_sg h hc)
theorem lab_sg (M n : Str) : sg (lab M n) = sg M ++ 46 :: (sg n ++ []) := by
  unfold lab
  rw [sg_app, sg_app, sg_app]
  show (([] ++ sg M) ++ [46]) ++ sg n = _
  simp
theorem LabOf.self (M n : Str) : LabOf M n (lab M n) := ⟨[], lab_sg M n, fun c hc => by cases hc⟩
theorem LabOf.inj {M n M' n' s : Str} (h : LabOf M n s) (g : LabOf M' n' s) (hM : nameB M = true) (hn : nameB n = true) (hM' : nameB M' = true) (hn' : nameB n' = true) : M = M' ∧ n = n' := by
  obtain ⟨t, e, ht⟩ := h
  obtain ⟨t', e', ht'⟩ := g
  have hd : ∀ (u : List Nat) c, ((46 :: u).head? = some c) → isL c = false := fun u c hc => by cases hc; exact isL46
  have h1 : sg M = sg M' := by
    rw [← tw_app (p := isL) (sg M) (46 :: (sg n ++ t)) (nm_isL hM) (hd _), ← e, e', tw_app (p := isL) _ _ (nm_isL hM') (hd _)]
  rw [e, h1] at e'
  have e2 := List.cons.inj (List.append_cancel_left e')
  have h2 : sg n = sg n' := by rw [← tw_app (p := isL) (sg n) t (nm_isL hn) ht, e2.2, tw_app (p := isL) _ _ (nm_isL hn') ht']
  exact ⟨sg_inj h1, sg_inj h2⟩
theorem LabOf.ne {M n s : Str} (h : LabOf M n s) {x : Str} (hx : nameB x = true) : s ≠ x := fun z => by
  obtain ⟨t, e, _⟩ := h
  rw [z] at e
  have : 46 ∈ sg x := by rw [e]; simp
  have := nm_isL hx 46 this
  rw [isL46] at this
  cases this
theorem labE_sg (l s0 a s1 : Str) : sg (labE l s0 a s1) = sg l ++ (sg s0 ++ (sg a ++ sg s1)) := by
  unfold labE
  rw [sg_app, sg_app, sg_app, sg_app]
  show ((([] ++ sg l) ++ sg s0) ++ sg a) ++ sg s1 = _
  simp
theorem labH_sg (l a : Str) : sg (labH l a) = sg l ++ (40 :: (sg a ++ [41])) := by
  unfold labH
  rw [sg_app, sg_app, sg_app, sg_app]
  show ((([] ++ sg l) ++ [40]) ++ sg a) ++ [41] = _
  simp
def sgn (s0 : Str) : Prop := ∃ c r, sg s0 = c :: r ∧ isL c = false
theorem LabOf.ent {M n s0 a s1 : Str} (h : sgn s0) : LabOf M n (labE (lab M n) s0 a s1) := by
  obtain ⟨c, r, e, hc⟩ := h
  refine ⟨sg s0 ++ (sg a ++ sg s1), ?_, fun d hd => ?_⟩
  · rw [labE_sg, lab_sg]; simp
  · rw [e] at hd; cases hd; exact hc
theorem LabOf.hid {M n a : Str} : LabOf M n (labH (lab M n) a) := ⟨40 :: (sg a ++ [41]), by rw [labH_sg, lab_sg]; simp, fun d hd => by cases hd; decide +kernel⟩
/-! ### the state of a reading -/
structure QR (q : RQ) (init : List GM) (m : GM) (w : Nat) : Prop where
  ms : q.ms.map (fun m => (m.name, m.decl)) = init.map (fun m => (m.nm, m.ds)) ++ [(m.nm, m.ds)]
  outs : q.ms.map (fun m => m.rows.filterMap outN) = init.map (fun m => m.rows.filterMap fun r => r.1.outN) ++ [m.rows.filterMap fun r => r.1.outN]
  places : q.places = kvP (init.flatMap GM.ps ++ m.ps)
  nd : (init.map (·.nm) ++ [m.nm]).Nodup
  nb : ∀ x ∈ init ++ [m], nameB x.nm = true ∧ ∀ n ∈ x.own, nameB n = true
  ond : m.own.Nodup
  inc : m.ds.Pairwise fun a b => a.2 < b.2
  lt : ∀ p ∈ m.ds, p.2 < q.pos
  defs : ∀ kv ∈ q.defs, ∃ x ∈ init ++ [m], ∃ n ∈ x.own, kv.1 = .inr (lab x.nm n)
  wg : weigh (q.defs.map fun kv => dBody kv.2) 0 ≤ w
section
variable {q : RQ} {init : List GM} {m : GM} {w : Nat}
theorem own_ds (m : GM) : m.ds.map (·.1) = m.own := by unfold GM.ds GM.own; rw [List.map_map]; rfl
/-- every place's form -/
theorem pl_form {x : GM} {p : Str × Nat} (h : p ∈ x.ps) : p.1 = x.nm ∨ ∃ n ∈ x.own, LabOf x.nm n p.1 := by
  unfold GM.ps at h
  rcases List.mem_cons.mp h with e | h
  · exact .inl (by rw [e])
  · obtain ⟨r, hr, h⟩ := List.mem_flatMap.mp h
    refine .inr ⟨r.1.name, List.mem_map.mpr ⟨r, hr, rfl⟩, ?_⟩
    unfold GR.pl at h
    rcases List.mem_cons.mp h with e | h
    · rw [e]; exact .self _ _
    · have ents : ∀ (l s0 s1 : Str) (line : Nat) (es : Ents) (i : Nat) (p : Str × Nat), p ∈ entPl l s0 s1 line i es → ∃ a, p.1 = labE l s0 a s1 := by
        intro l s0 s1 line es
        induction es with
        | nil => intro i p h; cases h
        | cons e es ih =>
          intro i p h
          rcases List.mem_cons.mp h with z | h
          · exact ⟨e.1, by rw [z]⟩
          · exact ih _ _ h
      split at h
      · rename_i n es he
        obtain ⟨a, e⟩ := ents _ _ _ _ _ _ _ h
        rw [e, he]
        exact .ent ⟨91, [], rfl, by decide +kernel⟩
      · rename_i n bs es he
        obtain ⟨a, e⟩ := ents _ _ _ _ _ _ _ h
        rw [e, he]
        exact .ent ⟨46, [], rfl, isL46⟩
      · rename_i n hd pp b he
        rw [List.mem_singleton.mp h, he]
        exact .hid
      · cases h
theorem QR.fresh (Q : QR q init m w) {n s : Str} (hn : nameB n = true) (hf : n ∉ m.own) (hs : LabOf m.nm n s) : (.inr s : Key) ∉ q.places.map (·.1) := fun z => by
  rw [Q.places] at z
  unfold kvP at z
  rw [List.map_map] at z
  obtain ⟨p, hp, e⟩ := List.mem_map.mp z
  have e : p.1 = s := Sum.inr.inj e
  have hx : ∃ x ∈ init ++ [m], p ∈ x.ps := by
    rcases List.mem_append.mp hp with hp | hp
    · obtain ⟨x, hx, hp⟩ := List.mem_flatMap.mp hp
      exact ⟨x, List.mem_append_left _ hx, hp⟩
    · exact ⟨m, by simp, hp⟩
  obtain ⟨x, hx, hp⟩ := hx
  obtain ⟨xb, xo⟩ := Q.nb x hx
  have mb := (Q.nb m (by simp)).1
  rcases pl_form hp with h | ⟨n', hn', h⟩
  · exact hs.ne xb (e ▸ h)
  · rw [e] at h
    obtain ⟨e1, e2⟩ := hs.inj h mb hn xb (xo n' hn')
    have : x = m := by
      rcases List.mem_append.mp hx with hx | hx
      · have := List.nodup_append.mp Q.nd
        exact absurd e1 (fun z => this.2.2 x.nm (List.mem_map.mpr ⟨x, hx, rfl⟩) m.nm (by simp) z.symm)
      · exact List.mem_singleton.mp hx
    rw [this] at hn'
    exact hf (e2 ▸ hn')
end
end GP
set_option maxHeartbeats 400000
/-! a row more -/
namespace GP
open PySem PySem.Spec PyProof.Rows L2 Sm RD
/-! ### lists of pairs -/
section
variable {β : Type} {l : List (Str × β)} {k : Str} {v : β}
theorem lk_none : ∀ {l : List (Str × β)}, k ∉ l.map (·.1) → l.lookup k = none
  | [], _ => rfl
  | (a, b) :: l, h => by
    rw [List.map_cons, List.mem_cons, not_or] at h
    rw [List.lookup_cons, beq_eq_false_iff_ne.mpr h.1]
    exact lk_none h.2
theorem lk_some : ∀ {l : List (Str × β)}, (l.map (·.1)).Nodup → (k, v) ∈ l → l.lookup k = some v
  | (a, b) :: l, nd, h => by
    rw [List.map_cons, List.nodup_cons] at nd
    rcases List.mem_cons.mp h with e | h
    · cases e
      rw [List.lookup_cons, beq_self_eq_true]
    · have : k ≠ a := fun z => nd.1 (z ▸ List.mem_map.mpr ⟨(k, v), h, rfl⟩)
      rw [List.lookup_cons, beq_eq_false_iff_ne.mpr this]
      exact lk_some nd.2 h
end
theorem bef_lt {n h : Str} : ∀ {ds : List (Str × Nat)}, (ds.Pairwise fun a b => a.2 < b.2) → n ∈ ds.map (·.1) → h ∈ before n (ds.map (·.1)) → ∃ k j, (n, k) ∈ ds ∧ (h, j) ∈ ds ∧ j < k
  | [], _, hn, _ => by cases hn
  | (a, i) :: ds, hp, hn, hb => by
    obtain ⟨p1, p2⟩ := List.pairwise_cons.mp hp
    unfold before at hb
    rw [List.map_cons, List.takeWhile_cons] at hb
    by_cases ha : a ≠ n
    · rw [if_pos (decide_eq_true ha)] at hb
      rw [List.map_cons, List.mem_cons] at hn
      have hn := hn.resolve_left (fun z => ha z.symm)
      rcases List.mem_cons.mp hb with e | hb
      · obtain ⟨⟨x, k⟩, hq, e2⟩ := List.mem_map.mp hn
        have e2 : x = n := e2
        have e : h = a := e
        subst e2 e
        exact ⟨k, i, List.mem_cons_of_mem _ hq, List.mem_cons_self, p1 _ hq⟩
      · obtain ⟨k, j, h1, h2, h3⟩ := bef_lt p2 hn hb
        exact ⟨k, j, List.mem_cons_of_mem _ h1, List.mem_cons_of_mem _ h2, h3⟩
    · rw [if_neg (by simpa using ha)] at hb
      cases hb
theorem valI_none {kvs : List (Key × IV)} {k : Key} (h : k ∉ kvs.map (·.1)) : valI kvs k = none := by
  unfold valI
  rw [List.find?_eq_none.mpr fun p hp => by
    rw [decide_eq_true_eq]
    exact fun e => h (e ▸ List.mem_map.mpr ⟨p, hp, rfl⟩)]
  rfl
/-! ### a reading with classes -/
def GoC (L : List Str) (q q' : RQ) : Prop := ∃ k, k + q.pos ≤ q'.pos ∧ ∀ n, readM L (n + k) q = readM L n q' ∧ (clsM L n q' → clsM L (n + k) q)
theorem GoC.refl (L : List Str) (q : RQ) : GoC L q q := ⟨0, by omega, fun _ => ⟨rfl, id⟩⟩
theorem GoC.trans {L : List Str} {a b c : RQ} (h : GoC L a b) (g : GoC L b c) : GoC L a c := by
  obtain ⟨k, h1, h2⟩ := h
  obtain ⟨j, g1, g2⟩ := g
  refine ⟨k + j, by omega, fun n => ?_⟩
  rw [show n + (k + j) = (n + j) + k by omega]
  exact ⟨(h2 _).1.trans (g2 _).1, fun z => (h2 _).2 ((g2 _).2 z)⟩
theorem goC_one {L : List Str} {q q' : RQ} {s : Str} (hs : L[q.pos]? = some s) (h : topM L q s = .ok q') (hp : q.pos < q'.pos) (hc : ClsOk q s) : GoC L q q' := ⟨1, by omega, fun n => ⟨by
  show (match L[q.pos]? with | none => _ | some s => _) = _
  rw [hs]
  show (match topM L q s with | .ok q' => _ | .error k => _) = _
  rw [h], fun z => by
  show (match L[q.pos]? with | none => True | some s => _)
  rw [hs]
  refine ⟨hc, fun q2 h2 => ?_⟩
  rw [h] at h2
  cases h2
  exact z⟩⟩
theorem cls_no {q : RQ} {s w : Str} {ws : List Str} (h : RD.wordsOf s = w :: ws) (hw : w ≠ ("class" : Str)) : ClsOk q s := fun ws' m e => by
  rw [h] at e
  exact absurd (List.cons.inj e).1 hw
/-! ### entries -/
theorem w_none : WordOk "none" := .lit (by decide +kernel)
theorem wth_word {own : List Str} {p : Option Str} (h : WthOk own p) : WordOk (wth p) := by
  cases p with
  | none => exact w_none
  | some p => exact PathOk.word h
theorem path_none : pathP "none" = none := by decide +kernel
theorem worth_ok {d : Decl} {own : List Str} {line : Nat} (hd : ∀ n ∈ own, ∃ k, d.lookup n = some k ∧ k < line) {p : Option Str} (h : WthOk own p) : ∃ v, worthD d (wth p) line = some v := by
  unfold worthD
  cases p with
  | none => exact ⟨.non, if_pos rfl⟩
  | some p =>
    obtain ⟨x, st, h1, h2, h3, _⟩ := h
    have hp : p ≠ ("none" : Str) := fun z => by rw [z, path_none] at h3; cases h3
    obtain ⟨k, e1, e2⟩ := hd x h1
    refine ⟨ivPath p (some (x, st)), ?_⟩
    show (if p = ("none" : Str) then _ else (aboveD d p line).map _) = _
    rw [if_neg hp]
    simp only [aboveD, h3, e1, if_pos e2]
    rfl
theorem labE_inj {l s0 s1 a b : Str} (h : labE l s0 a s1 = labE l s0 b s1) : a = b := by
  have := congrArg sg h
  rw [labE_sg, labE_sg] at this
  exact sg_inj (List.append_cancel_right (List.append_cancel_left (List.append_cancel_left this)))
theorem kvP_app (a b : List (Str × Nat)) : kvP (a ++ b) = kvP a ++ kvP b := by unfold kvP; rw [List.map_append]
theorem entM_cons {d : Decl} {l s0 s1 s a : Str} {line pos : Nat} {ls : List Str} {pl : List (Key × IV)} {acc : List IV} {v : IV} (h : RD.wordsOf s ≠ [("end" : Str)]) (e : ent1 d l s0 s1 line pl (RD.wordsOf s) = some (a, v)) :
    entM d l s0 s1 line (s :: ls) pl pos acc = entM d l s0 s1 line ls (putK' pl (.inr (labE l s0 a s1)) (.int pos)) (pos + 1) (acc ++ [entRow a v pos]) := by
  rw [entM, if_neg h, e]
theorem ent_one {d : Decl} {own : List Str} {l s0 s1 : Str} {line : Nat} (hd : ∀ n ∈ own, ∃ k, d.lookup n = some k ∧ k < line) {pl : List (Key × IV)} {e : Str × Option Str} (e1 : nameB e.1 = true) (e2 : WthOk own e.2) (h0 : (.inr (labE l s0 e.1 s1) : Key) ∉ pl.map (·.1)) :
    RD.wordsOf (entL e) ≠ [("end" : Str)] ∧ ∃ v, ent1 d l s0 s1 line pl (RD.wordsOf (entL e)) = some (e.1, v) := by
  obtain ⟨v, hv⟩ := worth_ok hd e2
  have hw : RD.wordsOf (entL e) = [e.1, "=", wth e.2] := J_words (by simp) fun w hw => by
    simp only [List.mem_cons, List.not_mem_nil, or_false] at hw
    rcases hw with rfl | rfl | rfl
    · exact (WordOk.name e1).sp
    · exact w_eq.sp
    · exact (wth_word e2).sp
  rw [hw]
  refine ⟨by simp, v, ?_⟩
  show (if (("=" : Str) = ("=" : Str) ∧ nameB e.1 = true) ∧ valI pl (.inr (labE l s0 e.1 s1)) = none then (worthD d (wth e.2) line).map fun v => (e.1, v) else none) = _
  rw [if_pos ⟨⟨rfl, e1⟩, valI_none h0⟩, hv]
  rfl
theorem ents_read {d : Decl} {own : List Str} {l s0 s1 : Str} {line : Nat} (hd : ∀ n ∈ own, ∃ k, d.lookup n = some k ∧ k < line) (rest : List Str) (es : Ents) :
    ∀ (i : Nat) (pl : List (Key × IV)) (acc : List IV), EntsOk own es → (∀ e ∈ es, (.inr (labE l s0 e.1 s1) : Key) ∉ pl.map (·.1)) →
      ∃ acc', entM d l s0 s1 line (es.map entL ++ ("end" : Str) :: rest) pl (line + 1 + i) acc = .ok (acc', pl ++ kvP (entPl l s0 s1 line i es), line + 1 + i + es.length + 1) := by
  induction es with
  | nil =>
    intro i pl acc _ _
    refine ⟨acc, ?_⟩
    rw [List.map_nil, List.nil_append, entM, words_lit4.2.2.2, if_pos rfl, List.length_nil, Nat.add_zero]
    rw [show kvP (entPl l s0 s1 line i []) = [] from rfl, List.append_nil]
  | cons e es ih =>
    intro i pl acc h hf
    have h1 := List.nodup_cons.mp (show (e.1 :: es.map (·.1)).Nodup from h.1)
    have h2 := h.2
    obtain ⟨e1, e2⟩ := h2 e List.mem_cons_self
    have h0 := hf e List.mem_cons_self
    obtain ⟨hw, v, ee⟩ := ent_one hd e1 e2 h0
    have hf' : ∀ x ∈ es, (.inr (labE l s0 x.1 s1) : Key) ∉ (pl ++ [((.inr (labE l s0 e.1 s1) : Key), IV.int ((line + 1 + i : Nat) : Int))]).map (·.1) := fun x hx z => by
      rw [List.map_append] at z
      rcases List.mem_append.mp z with z | z
      · exact hf x (List.mem_cons_of_mem _ hx) z
      · rw [List.map_cons, List.map_nil, List.mem_singleton] at z
        have e3 : x.1 = e.1 := labE_inj (Sum.inr.inj z)
        exact h1.1 (e3 ▸ List.mem_map.mpr ⟨x, hx, rfl⟩)
    obtain ⟨acc', ih'⟩ := ih (i + 1) (pl ++ [(.inr (labE l s0 e.1 s1), .int (line + 1 + i : Nat))]) (acc ++ [entRow e.1 v (line + 1 + i)]) ⟨h1.2, fun x hx => h2 x (List.mem_cons_of_mem _ hx)⟩ hf'
    refine ⟨acc', ?_⟩
    rw [List.map_cons, List.cons_append, entM_cons hw ee, putK_end _ _ _ h0]
    have ep : line + 1 + i + 1 = line + 1 + (i + 1) := by omega
    rw [ep, ih']
    have e5 : kvP (entPl l s0 s1 line i (e :: es)) = [((.inr (labE l s0 e.1 s1) : Key), IV.int ((line + 1 + i : Nat) : Int))] ++ kvP (entPl l s0 s1 line (i + 1) es) := rfl
    rw [e5, List.append_assoc, List.length_cons]
    have e6 : line + 1 + (i + 1) + es.length + 1 = line + 1 + i + (es.length + 1) + 1 := by omega
    rw [e6]
/-! ### a row more in the state -/
section
variable {q : RQ} {init : List GM} {m : GM} {w : Nat}
theorem QR.split (Q : QR q init m w) : ∃ (i : List Mod) (mm : Mod), q.ms = i ++ [mm] ∧ mm.name = m.nm ∧ mm.decl = m.ds ∧ i.map (fun m => (m.name, m.decl)) = init.map (fun m => (m.nm, m.ds)) ∧ i.map (fun m => m.rows.filterMap outN) = init.map (fun m => m.rows.filterMap fun r => r.1.outN) ∧ mm.rows.filterMap outN = m.rows.filterMap fun r => r.1.outN := by
  have hne : q.ms ≠ [] := fun z => by have := Q.ms; rw [z] at this; simp at this
  have e := List.dropLast_concat_getLast hne
  have h1 := Q.ms
  have h2 := Q.outs
  rw [← e, List.map_append] at h1 h2
  have a1 := List.append_inj' h1 rfl
  have a2 := List.append_inj' h2 rfl
  have b1 := List.cons.inj a1.2
  have b2 := List.cons.inj a2.2
  exact ⟨_, _, e.symm, (Prod.mk.inj b1.1).1, (Prod.mk.inj b1.1).2, a1.1, a2.1, b2.1⟩
theorem QR.step (Q : QR q init m w) {g : GR} (N : g.New m.own) {q' : RQ} {i : List Mod} {mm : Mod} {row : IV} {w' : Nat} (hi : q.ms = i ++ [mm]) (hm : q'.ms = i ++ [{ mm with decl := mm.decl ++ [(g.name, q.pos)], rows := mm.rows ++ [row] }]) (ho : outN row = g.outN)
    (hp : q'.places = q.places ++ kvP (g.pl m.nm q.pos)) (hl : q.pos < q'.pos) (hd : ∀ kv ∈ q'.defs, kv ∈ q.defs ∨ kv.1 = .inr (lab m.nm g.name)) (hw : weigh (q'.defs.map fun kv => dBody kv.2) 0 ≤ w') : QR q' init ⟨m.nm, m.line, m.rows ++ [(g, q.pos)]⟩ w' := by
  have em : q.ms.map (fun m => (m.name, m.decl)) = init.map (fun m => (m.nm, m.ds)) ++ [(m.nm, m.ds)] := Q.ms
  have eo := Q.outs
  rw [hi, List.map_append] at em eo
  obtain ⟨em1, em2⟩ := List.append_inj' em rfl
  obtain ⟨eo1, eo2⟩ := List.append_inj' eo rfl
  obtain ⟨n1, n2⟩ := Prod.mk.inj (List.cons.inj em2).1
  have n3 : mm.rows.filterMap outN = m.rows.filterMap fun r => r.1.outN := (List.cons.inj eo2).1
  have n1 : mm.name = m.nm := n1
  have n2 : mm.decl = m.ds := n2
  have eds : GM.ds ⟨m.nm, m.line, m.rows ++ [(g, q.pos)]⟩ = m.ds ++ [(g.name, q.pos)] := by unfold GM.ds; rw [List.map_append]; rfl
  have eown : GM.own ⟨m.nm, m.line, m.rows ++ [(g, q.pos)]⟩ = m.own ++ [g.name] := by unfold GM.own; rw [List.map_append]; rfl
  constructor
  · rw [hm, List.map_append, em1, eds]
    show _ ++ [(mm.name, mm.decl ++ [(g.name, q.pos)])] = _
    rw [n1, n2]
  · rw [hm, List.map_append, eo1]
    show _ ++ [(mm.rows ++ [row]).filterMap outN] = _ ++ [(m.rows ++ [(g, q.pos)]).filterMap fun r => r.1.outN]
    rw [List.filterMap_append, List.filterMap_append, n3]
    congr 3
    simp only [List.filterMap_cons, List.filterMap_nil, ho]
  · rw [hp, Q.places, ← kvP_app]
    congr 1
    rw [List.append_assoc]
    congr 1
    unfold GM.ps
    rw [List.flatMap_append]
    simp
  · exact Q.nd
  · intro x hx
    rcases List.mem_append.mp hx with hx | hx
    · exact Q.nb x (List.mem_append_left _ hx)
    · rw [List.mem_singleton.mp hx, eown]
      have := Q.nb m (by simp)
      refine ⟨this.1, fun n hn => ?_⟩
      rcases List.mem_append.mp hn with hn | hn
      · exact this.2 n hn
      · rw [List.mem_singleton.mp hn]; exact N.nb
  · rw [eown]
    refine List.nodup_append.mpr ⟨Q.ond, by simp, fun a ha b hb e => ?_⟩
    rw [List.mem_singleton.mp hb] at e
    exact N.fr (e ▸ ha)
  · rw [eds]
    refine List.pairwise_append.mpr ⟨Q.inc, by simp, fun a ha b hb => ?_⟩
    rw [List.mem_singleton.mp hb]
    exact Q.lt a ha
  · rw [eds]
    intro p hp
    rcases List.mem_append.mp hp with hp | hp
    · have := Q.lt p hp; omega
    · rw [List.mem_singleton.mp hp]; exact hl
  · intro kv hkv
    rcases hd kv hkv with h | h
    · obtain ⟨x, hx, n, hn, e⟩ := Q.defs kv h
      rcases List.mem_append.mp hx with hx | hx
      · exact ⟨x, List.mem_append_left _ hx, n, hn, e⟩
      · rw [List.mem_singleton.mp hx] at hn e
        exact ⟨_, List.mem_append_right _ (List.mem_singleton.mpr rfl), n, by rw [eown]; exact List.mem_append_left _ hn, e⟩
    · exact ⟨_, List.mem_append_right _ (List.mem_singleton.mpr rfl), g.name, by rw [eown]; simp, h⟩
  · exact hw
end
end GP
set_option maxHeartbeats 400000
/-! every row is read -/
namespace GP
open PySem PySem.Spec PyProof.Rows L2 Sm RD
section
variable {q : RQ} {init : List GM} {m : GM} {w : Nat} {i : List Mod} {mm : Mod} {L rest : List Str}
theorem own_lk (Q : QR q init m w) (hd : mm.decl = m.ds) : ∀ n ∈ m.own, ∃ k, mm.decl.lookup n = some k ∧ k < q.pos := fun n hn => by
  rw [← own_ds] at hn
  obtain ⟨⟨x, k⟩, hp, e⟩ := List.mem_map.mp hn
  have e : x = n := e
  subst e
  exact ⟨k, by rw [hd]; exact lk_some (by rw [own_ds]; exact Q.ond) hp, Q.lt _ hp⟩
theorem new_lk {g : GR} (N : g.New m.own) (hd : mm.decl = m.ds) : mm.decl.lookup g.name = none := by
  rw [hd]
  exact lk_none (by rw [own_ds]; exact N.fr)
theorem new_fresh {g : GR} (N : g.New m.own) (hd : mm.decl = m.ds) : freshB mm g.name = true := fresh_iff.mpr ⟨N.nb, new_lk N hd⟩
theorem ab_lk (Q : QR q init m w) (hi : i.map (fun m => (m.name, m.decl)) = init.map (fun m => (m.nm, m.ds))) {M : Str} {ns : List Str} (h : (M, ns) ∈ abG init) : ∃ d, (i.map fun m => (m.name, m.decl)).lookup M = some d ∧ ∀ n ∈ ns, (d.lookup n).isSome = true := by
  obtain ⟨x, hx, e⟩ := List.mem_map.mp h
  cases e
  refine ⟨x.ds, ?_, fun n hn => ?_⟩
  · rw [hi]
    refine lk_some ?_ (List.mem_map.mpr ⟨x, hx, rfl⟩)
    rw [List.map_map]
    exact (List.nodup_append.mp Q.nd).1
  · rw [← own_ds] at hn
    obtain ⟨⟨y, k⟩, hp, e⟩ := List.mem_map.mp hn
    have e : y = n := e
    subst e
    cases hl : x.ds.lookup y with
    | some _ => rfl
    | none =>
      rw [List.lookup_eq_none_iff] at hl
      have := hl _ hp
      simp at this
theorem ab_nm (hi : i.map (fun m => (m.name, m.decl)) = init.map (fun m => (m.nm, m.ds))) {M : Str} (h : M ∈ (abG init).map (·.1)) : M ∈ i.map (·.name) := by
  have : i.map (·.name) = init.map (·.nm) := by
    have := congrArg (List.map (·.1)) hi
    rw [List.map_map, List.map_map] at this
    exact this
  rw [this]
  unfold abG at h
  rw [List.map_map] at h
  exact h
theorem get_drop {L rest : List Str} {n : Nat} {s : Str} (h : L.drop n = s :: rest) : L[n]? = some s := (drop_hd h).1
theorem ctx_of (Q : QR q init m w) (hd : mm.decl = m.ds) (hi : i.map (fun m => (m.name, m.decl)) = init.map (fun m => (m.nm, m.ds))) (n : Str) (hid : Option Str) : CtxR (ctxD q i mm n hid) (abG init) m.own hid := by
  refine ⟨rfl, fun M ns h => ab_lk Q hi h, fun x hx => ?_, fun n' h hn hb => ?_⟩
  · obtain ⟨k, e1, e2⟩ := own_lk Q hd x hx
    exact ⟨k, lookup_app e1, e2⟩
  · rw [← own_ds] at hn hb
    obtain ⟨k, j, h1, h2, h3⟩ := bef_lt Q.inc hn hb
    have nd : (m.ds.map (·.1)).Nodup := by rw [own_ds]; exact Q.ond
    have g1 := lk_some nd h1
    have g2 := lk_some nd h2
    rw [← hd] at g1 g2
    exact ⟨k, j, lookup_app g1, lookup_app g2, h3⟩
/-- rows of one line -/
theorem row_one (Q : QR q init m w) {g : GR} (N : g.New m.own) {ws : List Str} {w0 : Str} {row : IV} (hi : q.ms = i ++ [mm]) (hn : mm.name = m.nm) (hL : L.drop q.pos = g.lines ++ rest) (hl : g.lines = [J (w0 :: ws)]) (hws : ∀ x ∈ w0 :: ws, 32 ∉ sg x) (h1 : w0 ≠ ("module" : Str)) (h2 : w0 ≠ ("class" : Str))
    (hr : rowQ i mm q L w0 ws = .ok (addQ q i mm g.name row)) (ho : outN row = g.outN) (hp : g.pl m.nm q.pos = [(lab m.nm g.name, q.pos)]) (hw : g.wt w = w) :
    ∃ q', GoC L q q' ∧ q'.pos = q.pos + g.lines.length ∧ QR q' init ⟨m.nm, m.line, m.rows ++ [(g, q.pos)]⟩ (g.wt w) := by
  have hwd := J_words (ws := w0 :: ws) (by simp) hws
  rw [hl] at hL
  refine ⟨addQ q i mm g.name row, goC_one (get_drop hL) (by rw [topM_w hwd h1 hi]; exact hr) (Nat.lt_succ_self _) (cls_no hwd h2), by rw [hl]; rfl, ?_⟩
  refine Q.step N hi rfl ho ?_ (Nat.lt_succ_self _) (fun kv hkv => .inl hkv) (by rw [hw]; exact Q.wg)
  rw [hp]
  show putK' q.places (.inr (lab mm.name g.name)) (.int q.pos) = _
  rw [hn, putK_end _ _ _ (Q.fresh N.nb N.fr (.self _ _))]
  rfl
theorem w_out : WordOk "outside" := .lit (by decide +kernel)
theorem w_tab : WordOk "table" := .lit (by decide +kernel)
theorem w_cls : WordOk "class" := .lit (by decide +kernel)
theorem w_def : WordOk "def" := .lit (by decide +kernel)
theorem w_using : WordOk "using" := .lit (by decide +kernel)
theorem w_mod : WordOk "module" := .lit (by decide +kernel)
theorem all3 {P : Str → Prop} {a b c : Str} (h1 : P a) (h2 : P b) (h3 : P c) : ∀ w ∈ [a, b, c], P w := fun w hw => by
  simp only [List.mem_cons, List.not_mem_nil, or_false] at hw
  rcases hw with rfl | rfl | rfl <;> assumption
theorem nm_kw {x : Str} (h : nameB x = true) : x ∉ rowW ∧ x ≠ ("module" : Str) ∧ x ≠ ("class" : Str) := by
  refine ⟨fun z => ?_, nm_ne h (by decide +kernel), nm_ne h (by decide +kernel)⟩
  have : rowW.all (fun s => !nameB s) = true := by decide +kernel
  have := List.all_eq_true.mp this x z
  rw [h] at this
  cases this
theorem one_row (Q : QR q init m w) {g : GR} (N : g.New m.own) (R : g.Right (abG init) m.own) (hL : L.drop q.pos = g.lines ++ rest) (hk : match g with | .tab _ _ => False | .cls _ _ _ => False | .dfn _ _ _ => False | _ => True) :
    ∃ q', GoC L q q' ∧ q'.pos = q.pos + g.lines.length ∧ QR q' init ⟨m.nm, m.line, m.rows ++ [(g, q.pos)]⟩ (g.wt w) := by
  obtain ⟨i, mm, hi, hn, hd, ha, _, _⟩ := Q.split
  have fr := new_fresh N hd
  match g, N, R, hL, fr, hk with
  | .out n, N, R, hL, fr, _ => exact row_one Q N hi hn hL rfl (all2 w_out.sp (WordOk.name N.nb).sp) (by decide +kernel) (by decide +kernel) (by rw [rowQ_out]; exact out_ok fr) rfl rfl rfl
  | .imp n x, N, R, hL, fr, _ =>
    obtain ⟨r1, r2⟩ := R
    have hx := ab_nm ha r1
    by_cases e : x = n
    · subst e
      refine row_one Q N hi hn hL (by show [if x = x then _ else _] = _; rw [if_pos rfl]; rfl) (all2 w_imp.sp (WordOk.name N.nb).sp) (by decide +kernel) (by decide +kernel) (row := impRowT x x q.pos) ?_ rfl rfl rfl
      rw [rowQ_imp]
      show (if (asW 1 [x] = true ∧ x ∈ i.map (·.name)) ∧ freshB mm x = true then _ else _) = _
      rw [if_pos ⟨⟨rfl, hx⟩, fr⟩]
      rfl
    · refine row_one Q N hi hn hL (by show [if x = n then _ else _] = _; rw [if_neg e]; rfl) (all4 w_imp.sp (WordOk.name r2).sp w_as.sp (WordOk.name N.nb).sp) (by decide +kernel) (by decide +kernel) (row := impRowT n x q.pos) ?_ rfl rfl rfl
      rw [rowQ_imp]
      show (if (asW 1 [x, "as", n] = true ∧ x ∈ i.map (·.name)) ∧ freshB mm n = true then _ else _) = _
      rw [if_pos ⟨⟨rfl, hx⟩, fr⟩]
      rfl
  | .frm n x y, N, R, hL, fr, _ =>
    obtain ⟨ns, r1, r2, r3, r4⟩ := R
    obtain ⟨d, d1, d2⟩ := ab_lk Q ha r1
    have hB : abB i x y = true := by unfold abB; rw [d1]; exact d2 y r2
    by_cases e : y = n
    · subst e
      refine row_one Q N hi hn hL (by show [if y = y then _ else _] = _; rw [if_pos rfl]) (all4 w_from.sp (WordOk.name r3).sp w_imp.sp (WordOk.name r4).sp) (by decide +kernel) (by decide +kernel) (row := fromRowT y x y q.pos) ?_ rfl rfl rfl
      rw [rowQ_from]
      exact from_ok fr hB
    · refine row_one Q N hi hn hL (by show [if y = n then _ else _] = _; rw [if_neg e]; rfl) (all6 w_from.sp (WordOk.name r3).sp w_imp.sp (WordOk.name r4).sp w_as.sp (WordOk.name N.nb).sp) (by decide +kernel) (by decide +kernel) (row := fromRowT n x y q.pos) ?_ rfl rfl rfl
      rw [rowQ_from]
      show (if (asW 3 [x, ("\x69mport" : Str), y, "as", n] = true ∧ ([x, ("\x69mport" : Str), y, "as", n] : List Str)[1]? = some ("\x69mport" : Str) ∧ abB i x y = true) ∧ freshB mm n = true then _ else _) = _
      rw [if_pos ⟨⟨rfl, rfl, hB⟩, fr⟩]
      rfl
  | .bind n p, N, R, hL, fr, _ =>
    obtain ⟨v, hv⟩ := worth_ok (own_lk Q hd) (show WthOk m.own p from R)
    obtain ⟨k1, k2, k3⟩ := nm_kw N.nb
    refine row_one Q N hi hn hL rfl (all3 (WordOk.name N.nb).sp w_eq.sp (wth_word (show WthOk m.own p from R)).sp) k2 k3 (row := bindRowT n q.pos v) ?_ rfl rfl rfl
    rw [show GR.name (.bind n p) = n from rfl] at *
    rw [rowQ_name k1]
    show (if ("=" : Str) = ("=" : Str) ∧ freshB mm n = true then (match worthD mm.decl (wth p) q.pos with | some v => Except.ok (addQ q i mm n (bindRowT n q.pos v)) | none => .error q.pos) else .error q.pos) = _
    rw [if_pos ⟨rfl, fr⟩, hv]
/-- heads above a line, entries behind it -/
theorem box_row (Q : QR q init m w) {g : GR} (N : g.New m.own) {es : Ents} {hl : Str} {w0 s0 s1 : Str} {ws : List Str} {row : IV → IV} (hi : q.ms = i ++ [mm]) (hn : mm.name = m.nm) (hd : mm.decl = m.ds) (hL : L.drop q.pos = g.lines ++ rest) (hg : g.lines = hl :: (es.map entL ++ [("end" : Str)]))
    (hE : EntsOk m.own es) (hs : sgn s0) (hwd : RD.wordsOf hl = w0 :: ws) (h1 : w0 ≠ ("module" : Str)) (hc : ClsOk q hl) (hr : rowQ i mm q L w0 ws = boxM i mm q L g.name s0 s1 row) (ho : ∀ v, outN (row v) = g.outN)
    (hp : g.pl m.nm q.pos = (lab m.nm g.name, q.pos) :: entPl (lab m.nm g.name) s0 s1 q.pos 0 es) (hw : g.wt w = w) :
    ∃ q', GoC L q q' ∧ q'.pos = q.pos + g.lines.length ∧ QR q' init ⟨m.nm, m.line, m.rows ++ [(g, q.pos)]⟩ (g.wt w) := by
  rw [hg] at hL
  have dr : L.drop (q.pos + 1) = es.map entL ++ ("end" : Str) :: rest := by
    rw [(drop_hd hL).2]
    show (es.map entL ++ [("end" : Str)]) ++ rest = _
    rw [List.append_assoc]
    rfl
  have f0 := Q.fresh N.nb N.fr (.self m.nm g.name)
  have dl : ∀ n ∈ m.own, ∃ k, (mm.decl ++ [(g.name, q.pos)]).lookup n = some k ∧ k < q.pos := fun n hx => by
    obtain ⟨k, e1, e2⟩ := own_lk Q hd n hx
    exact ⟨k, lookup_app e1, e2⟩
  have hf : ∀ e ∈ es, (.inr (labE (lab m.nm g.name) s0 e.1 s1) : Key) ∉ (q.places ++ [((.inr (lab m.nm g.name) : Key), IV.int (q.pos : Nat))]).map (·.1) := fun e he z => by
    rw [List.map_append] at z
    rcases List.mem_append.mp z with z | z
    · exact Q.fresh N.nb N.fr (.ent hs) z
    · rw [List.map_cons, List.map_nil, List.mem_singleton] at z
      have := congrArg (fun s => (sg s).length) (Sum.inr.inj z)
      obtain ⟨c, r, e0, _⟩ := hs
      simp only [labE_sg, List.length_append, e0, List.length_cons] at this
      omega
  obtain ⟨acc, he⟩ := ents_read dl rest es 0 _ [] hE hf
  have hb : boxM i mm q L g.name s0 s1 row = .ok (tabQ q i mm g.name (row (.tup acc)) ((q.places ++ [((.inr (lab m.nm g.name) : Key), IV.int (q.pos : Nat))]) ++ kvP (entPl (lab m.nm g.name) s0 s1 q.pos 0 es)) (q.pos + 1 + 0 + es.length + 1)) := by
    unfold boxM
    rw [if_pos ⟨N.nb, new_lk N hd⟩, dr, hn, putK_end _ _ _ f0]
    show (match entM _ _ _ _ _ _ _ (q.pos + 1 + 0) [] with | .ok (acc, pl, pos) => _ | .error k => _) = _
    rw [he]
  have hlen : g.lines.length = es.length + 2 := by rw [hg, List.length_cons, List.length_append, List.length_map]; rfl
  refine ⟨_, goC_one (get_drop hL) (by rw [topM_w hwd h1 hi, hr]; exact hb) (by show q.pos < q.pos + 1 + 0 + es.length + 1; omega) hc, by rw [hlen]; show q.pos + 1 + 0 + es.length + 1 = _; omega, ?_⟩
  refine Q.step N hi rfl (ho _) ?_ (by show q.pos < q.pos + 1 + 0 + es.length + 1; omega) (fun kv hkv => .inl hkv) (by rw [hw]; exact Q.wg)
  rw [hp]
  show (q.places ++ [_]) ++ _ = q.places ++ kvP (_ :: _)
  rw [List.append_assoc]
  rfl
theorem bases_ok (Q : QR q init m w) (hd : mm.decl = m.ds) {bs : List Str} (h : ∀ b ∈ bs, PathOk m.own b) : ∀ b ∈ bs, aboveD mm.decl b q.pos ≠ none := fun b hb z => by
  obtain ⟨x, st, h1, h2, h3, _⟩ := h b hb
  obtain ⟨k, e1, e2⟩ := own_lk Q hd x h1
  simp only [aboveD, h3, e1, if_pos e2] at z
  cases z
theorem cls_words {n : Str} (hn : nameB n = true) {bs : List Str} (h : ∀ b ∈ bs, WordOk b) : RD.wordsOf (clsL n bs) = ("class" : Str) :: n :: (if bs = [] then [] else ("from" : Str) :: bs) := by
  unfold clsL
  by_cases hb : bs = []
  · rw [if_pos hb, if_pos hb]
    exact J_words (by simp) (all2 w_cls.sp (WordOk.name hn).sp)
  · rw [if_neg hb, if_neg hb]
    refine J_words (by simp) fun w hw => ?_
    rcases List.mem_cons.mp hw with rfl | hw
    · exact w_cls.sp
    rcases List.mem_cons.mp hw with rfl | hw
    · exact (WordOk.name hn).sp
    rcases List.mem_cons.mp hw with rfl | hw
    · exact w_from.sp
    · exact (h w hw).sp
theorem callC_body {b : List Str} {c : RD.Ctx} {x' : BM} {kept : IV} {pos : Nat} {rest : List Str} (h : bodyM c (b ++ ("end" : Str) :: rest) ⟨[], [], kept⟩ pos = .ok (x', pos + b.length + 1)) : callsN x'.body = callC b := by
  obtain ⟨_, hc⟩ := body_calls ⟨fun k hk => by cases hk⟩ h
  rw [hc, show pos + b.length + 1 - pos = b.length + 1 by omega]
  have e : (b ++ ("end" : Str) :: rest).take (b.length + 1) = b ++ [("end" : Str)] := by
    rw [List.take_append, List.take_of_length_le (by omega), show b.length + 1 - b.length = 1 by omega]
    rfl
  rw [e, List.countP_append]
  have e1 : [("end" : Str)].countP (fun s => callW (RD.wordsOf s)) = 0 := by decide +kernel
  rw [e1]
  show 0 + _ = _
  unfold callC
  omega
theorem row_go (Q : QR q init m w) {g : GR} (N : g.New m.own) (R : g.Right (abG init) m.own) (hL : L.drop q.pos = g.lines ++ rest) :
    ∃ q', GoC L q q' ∧ q'.pos = q.pos + g.lines.length ∧ QR q' init ⟨m.nm, m.line, m.rows ++ [(g, q.pos)]⟩ (g.wt w) := by
  obtain ⟨i, mm, hi, hn, hd, ha, _, _⟩ := Q.split
  match g, N, R, hL with
  | .out n, N, R, hL => exact one_row Q N R hL trivial
  | .imp n x, N, R, hL => exact one_row Q N R hL trivial
  | .frm n x y, N, R, hL => exact one_row Q N R hL trivial
  | .bind n p, N, R, hL => exact one_row Q N R hL trivial
  | .tab n es, N, R, hL =>
    have hwd : RD.wordsOf (J [("table" : Str), n]) = [("table" : Str), n] := J_words (by simp) (all2 w_tab.sp (WordOk.name N.nb).sp)
    exact box_row Q N hi hn hd hL rfl R ⟨91, [], rfl, by decide +kernel⟩ hwd (by decide +kernel) (cls_no hwd (by decide +kernel)) (row := tabRow n q.pos) (s1 := "]") (by rw [rowQ_table]; rfl) (fun v => rfl) rfl rfl
  | .cls n bs es, N, R, hL =>
    obtain ⟨r1, r2, r3⟩ := R
    have hwd : RD.wordsOf (clsL n bs) = _ := cls_words (n := n) N.nb fun b hb => (r2 b hb).word
    have hb := bases_ok Q hd r2
    have hcb : clsB (n :: (if bs = [] then [] else ("from" : Str) :: bs)) = true := by
      unfold clsB
      by_cases hb : bs = []
      · rw [if_pos hb]; rfl
      · rw [if_neg hb]
        have : 0 < bs.length := List.length_pos_iff.mpr hb
        rw [Bool.or_eq_true]
        refine .inr (Bool.and_eq_true_iff.mpr ⟨decide_eq_true ?_, rfl⟩)
        rw [List.length_cons, List.length_cons]
        omega
    refine box_row Q N hi hn hd hL rfl r3 ⟨46, [], rfl, isL46⟩ hwd (by decide +kernel) (fun ws' m' e _ hm' => ?_) (row := clsRow n q.pos (((if bs = [] then [] else ("from" : Str) :: bs).drop 1).map (pathV mm.decl q.pos))) (s1 := "") ?_ (fun v => rfl) rfl rfl
    · rw [hwd] at e
      have e := (List.cons.inj e).2
      rw [hi, List.getLast?_concat] at hm'
      cases hm'
      rw [← e]
      intro t ht
      by_cases hbs : bs = []
      · rw [if_pos hbs] at ht; cases ht
      · rw [if_neg hbs] at ht
        exact hb t ht
    · rw [rowQ_class]
      unfold classM
      rw [if_pos hcb]
      rfl
  | .dfn n h b, N, R, hL =>
    obtain ⟨r1, r2, r3⟩ := R
    have hl : L.drop q.pos = hdL n h :: (b ++ ("end" : Str) :: rest) := by
      rw [hL]
      show (hdL n h :: (b ++ [("end" : Str)])) ++ rest = _
      rw [List.cons_append, List.append_assoc]
      rfl
    have dr := (drop_hd hl).2
    obtain ⟨x', hb⟩ := BR.whole r2 (by decide) (ctx_of Q hd ha n (h.map (·.1))) q.kept (q.pos + 1) rest
    have hcc := callC_body hb
    obtain ⟨pv, ws, hwd, hh⟩ : ∃ (pv : IV) (ws : List Str), RD.wordsOf (hdL n h) = ("def" : Str) :: ws ∧ hdrM mm.decl q.pos ws = some (n, h.map (·.1), pv) := by
      cases h with
      | none => exact ⟨.non, [n], J_words (by simp) (all2 w_def.sp (WordOk.name N.nb).sp), rfl⟩
      | some hp =>
        obtain ⟨hd', p⟩ := hp
        obtain ⟨s1, s2⟩ := r1 hd' p rfl
        have sw := s2.word
        obtain ⟨x, st, h1, h2, h3, _⟩ := s2
        obtain ⟨k, e1, e2⟩ := own_lk Q hd x h1
        refine ⟨ivPath p (some (x, st)), [n, "using", hd', "=", p], J_words (by simp) (all6 w_def.sp (WordOk.name N.nb).sp w_using.sp (WordOk.name s1).sp w_eq.sp sw.sp), ?_⟩
        show (if ("using" : Str) = ("using" : Str) ∧ nameB hd' = true ∧ ("=" : Str) = ("=" : Str) then (aboveD mm.decl p q.pos).map fun p' => (n, some hd', ivPath p (some p')) else none) = _
        rw [if_pos ⟨rfl, s1, rfl⟩]
        simp only [aboveD, h3, e1, if_pos e2]
        rfl
    have hlen : GR.lines (.dfn n h b) = hdL n h :: (b ++ [("end" : Str)]) := rfl
    refine ⟨defQM q i mm n (h.map (·.1)) (defRowM n q.pos (h.map (·.1)) pv x'.body) (q.pos + 1 + b.length + 1) x'.kept, goC_one (get_drop hl) (by rw [topM_w hwd (by decide +kernel) hi, rowQ_def]; exact def_ok_ hh N.nb (new_lk N hd) (by rw [dr]; exact hb)) (by show q.pos < q.pos + 1 + b.length + 1; omega) (cls_no hwd (by decide +kernel)), ?_, ?_⟩
    · rw [hlen, List.length_cons, List.length_append]
      show q.pos + 1 + b.length + 1 = q.pos + (b.length + 1 + 1)
      omega
    · have f0 := Q.fresh N.nb N.fr (.self m.nm n)
      have kn : (Sum.inr (lab m.nm n) : Key) ∉ q.defs.map (·.1) := fun z => by
        obtain ⟨kv, hkv, e⟩ := List.mem_map.mp z
        obtain ⟨x, hx, n', hn', e2⟩ := Q.defs kv hkv
        rw [e2] at e
        have e := Sum.inr.inj e
        obtain ⟨e3, e4⟩ := LabOf.inj (LabOf.self x.nm n') (e ▸ LabOf.self m.nm n) (Q.nb x hx).1 ((Q.nb x hx).2 n' hn') (Q.nb m (by simp)).1 N.nb
        have : x = m := by
          rcases List.mem_append.mp hx with hx | hx
          · exact absurd e3 ((List.nodup_append.mp Q.nd).2.2 x.nm (List.mem_map.mpr ⟨x, hx, rfl⟩) m.nm (by simp))
          · exact List.mem_singleton.mp hx
        rw [this, e4] at hn'
        exact N.fr hn'
      have df : (defQM q i mm n (h.map (·.1)) (defRowM n q.pos (h.map (·.1)) pv x'.body) (q.pos + 1 + b.length + 1) x'.kept).defs = q.defs ++ [(.inr (lab m.nm n), .tup [.str mm.name, defRowM n q.pos (h.map (·.1)) pv x'.body])] := by
        show putK' q.defs (.inr (lab mm.name n)) _ = _
        rw [hn]
        rw [putK_end _ _ _ kn]
      refine Q.step N hi rfl ?_ ?_ (by show q.pos < q.pos + 1 + b.length + 1; omega) (fun kv hkv => ?_) ?_
      · cases h <;> rfl
      · show hidPl (putK' q.places (.inr (lab mm.name n)) (.int q.pos)) (lab mm.name n) (h.map (·.1)) q.pos = _
        rw [hn, putK_end _ _ _ f0]
        cases h with
        | none => rfl
        | some hp =>
          obtain ⟨hd', p⟩ := hp
          show putK' (q.places ++ [_]) (.inr (labH (lab m.nm n) hd')) (.int q.pos) = _
          rw [putK_end _ _ _ (fun z => by
            rw [List.map_append] at z
            rcases List.mem_append.mp z with z | z
            · exact Q.fresh N.nb N.fr .hid z
            · rw [List.map_cons, List.map_nil, List.mem_singleton] at z
              have := congrArg (fun s => (sg s).length) (Sum.inr.inj z)
              simp only [labH_sg, List.length_append, List.length_cons] at this
              omega), List.append_assoc]
          rfl
      · rw [df] at hkv
        rcases List.mem_append.mp hkv with hkv | hkv
        · exact .inl hkv
        · rw [List.mem_singleton.mp hkv]; exact .inr rfl
      · rw [df, List.map_append, List.map_cons, List.map_nil, weigh_app]
        show max _ (1 + callsN x'.body * max 1 _) ≤ max w (1 + callC b * max 1 w)
        rw [hcc]
        have := Q.wg
        generalize weigh (q.defs.map fun kv => dBody kv.2) 0 = W at this
        have h2 : callC b * max 1 W ≤ callC b * max 1 w := Nat.mul_le_mul_left _ (by omega)
        omega
end
end GP
set_option maxHeartbeats 400000
/-! whole projects, rows that keep left out or not -/
namespace GP
open PySem PySem.Spec PyProof.Rows L2 Sm RD
def rowsL (rs : List GR) : List Str := rs.flatMap GR.lines
def wtR (w : Nat) (rs : List GR) : Nat := rs.foldl (fun w g => g.wt w) w
def rowsAt (l : Nat) : List GR → List (GR × Nat)
  | [] => []
  | g :: rs => (g, l) :: rowsAt (l + g.lines.length) rs
theorem rowsAt_snoc (g : GR) : ∀ (rs : List GR) (l : Nat), rowsAt l (rs ++ [g]) = rowsAt l rs ++ [(g, l + (rowsL rs).length)]
  | [], l => rfl
  | r :: rs, l => by
    show (r, l) :: rowsAt (l + r.lines.length) (rs ++ [g]) = _
    rw [rowsAt_snoc g rs]
    show _ = (r, l) :: (rowsAt (l + r.lines.length) rs ++ _)
    congr 3
    unfold rowsL
    rw [List.flatMap_cons, List.length_append]
    congr 1
    omega
theorem rowsAt_names : ∀ (rs : List GR) (l : Nat), (rowsAt l rs).map (·.1.name) = rs.map GR.name
  | [], _ => rfl
  | r :: rs, l => by
    show _ :: (rowsAt _ rs).map _ = _
    rw [rowsAt_names rs]
    rfl
/-- rows that are right behind the modules ab -/
inductive RowsR (ab : List (Str × List Str)) : List GR → Prop
  | nil : RowsR ab []
  | snoc {rs : List GR} {g : GR} : RowsR ab rs → g.New (rs.map GR.name) → g.Right ab (rs.map GR.name) → RowsR ab (rs ++ [g])
theorem wtR_snoc (w : Nat) (rs : List GR) (g : GR) : wtR w (rs ++ [g]) = g.wt (wtR w rs) := by unfold wtR; rw [List.foldl_append]; rfl
theorem mod_words {n : Str} (h : nameB n = true) : RD.wordsOf (J ["module", n]) = [("module" : Str), n] := J_words (by simp) (all2 w_mod.sp (WordOk.name h).sp)
/-- the reading of the lines P, whatever follows -/
def RI (P : List Str) (init : List GM) (m : GM) (w : Nat) : Prop := ∀ rest : List Str, ∃ q, GoC (P ++ rest) zQ q ∧ q.pos = P.length ∧ QR q init m w
theorem RI.row {P : List Str} {init : List GM} {m : GM} {w : Nat} (h : RI P init m w) {g : GR} (N : g.New m.own) (R : g.Right (abG init) m.own) : RI (P ++ g.lines) init ⟨m.nm, m.line, m.rows ++ [(g, P.length)]⟩ (g.wt w) := fun rest => by
  obtain ⟨q, g0, hp, Q⟩ := h (g.lines ++ rest)
  rw [← List.append_assoc] at g0
  have hL : (P ++ g.lines ++ rest).drop q.pos = g.lines ++ rest := by rw [hp, List.append_assoc, List.drop_left]
  obtain ⟨q', g1, hp', Q'⟩ := row_go Q N R hL
  exact ⟨q', g0.trans g1, by rw [hp', hp, List.length_append], by rw [hp] at Q'; exact Q'⟩
theorem RI.rows {ab : List (Str × List Str)} {P : List Str} {init : List GM} {n : Str} {l w : Nat} (h : RI P init ⟨n, l, []⟩ w) (ha : abG init = ab) : ∀ {rs : List GR}, RowsR ab rs → RI (P ++ rowsL rs) init ⟨n, l, rowsAt P.length rs⟩ (wtR w rs) := by
  intro rs hr
  induction hr with
  | nil => rw [show rowsL [] = [] from rfl, List.append_nil]; exact h
  | snoc hr N R ih =>
    rename_i rs g
    have eo : GM.own ⟨n, l, rowsAt P.length rs⟩ = rs.map GR.name := rowsAt_names rs _
    have := ih.row (g := g) (by rw [eo]; exact N) (by rw [eo, ha]; exact R)
    rw [wtR_snoc, rowsAt_snoc]
    rw [List.length_append] at this
    unfold rowsL
    rw [List.flatMap_append, ← List.append_assoc]
    have e : [g].flatMap GR.lines = g.lines := by simp
    rw [e]
    exact this
theorem QR.modQ_ {q : RQ} {init : List GM} {m : GM} {w : Nat} (Q : QR q init m w) {n : Str} (hn : nameB n = true) (hf : n ∉ (init ++ [m]).map (·.nm)) : QR (modQ q n 0 0) (init ++ [m]) ⟨n, q.pos, []⟩ w := by
  constructor
  · show (q.ms ++ [_]).map _ = _
    rw [List.map_append, Q.ms, List.map_append]
    rfl
  · show (q.ms ++ [_]).map _ = _
    rw [List.map_append, Q.outs, List.map_append]
    rfl
  · show putK' q.places (.inr n) (.int q.pos) = _
    have hk : (.inr n : Key) ∉ q.places.map (·.1) := fun z => by
      rw [Q.places] at z
      unfold kvP at z
      rw [List.map_map] at z
      obtain ⟨p, hp, e⟩ := List.mem_map.mp z
      have e : p.1 = n := Sum.inr.inj e
      have hx : ∃ x ∈ init ++ [m], p ∈ x.ps := by
        rcases List.mem_append.mp hp with hp | hp
        · obtain ⟨x, hx, hp⟩ := List.mem_flatMap.mp hp
          exact ⟨x, List.mem_append_left _ hx, hp⟩
        · exact ⟨m, by simp, hp⟩
      obtain ⟨x, hx, hp⟩ := hx
      rcases pl_form hp with h | ⟨n', _, h⟩
      · exact hf (List.mem_map.mpr ⟨x, hx, by rw [← h, e]⟩)
      · exact h.ne hn e
    rw [putK_end _ _ _ hk, Q.places, List.flatMap_append, kvP_app, kvP_app, kvP_app]
    simp [GM.ps, kvP]
  · rw [List.map_append, List.map_cons, List.map_nil]
    refine List.nodup_append.mpr ⟨Q.nd, by simp, fun a ha b hb e => ?_⟩
    rw [List.mem_singleton.mp hb] at e
    refine hf ?_
    have e : a = n := e
    rw [List.map_append, List.map_cons, List.map_nil]
    exact e ▸ ha
  · intro x hx
    rcases List.mem_append.mp hx with hx | hx
    · exact Q.nb x hx
    · rw [List.mem_singleton.mp hx]; exact ⟨hn, fun y hy => by cases hy⟩
  · exact List.nodup_nil
  · exact .nil
  · intro p hp; cases hp
  · intro kv hkv
    obtain ⟨x, hx, y, hy, e⟩ := Q.defs kv hkv
    exact ⟨x, List.mem_append_left _ hx, y, hy, e⟩
  · exact Q.wg
theorem RI.mod {P : List Str} {init : List GM} {m : GM} {w : Nat} (h : RI P init m w) {n : Str} (hn : nameB n = true) (hf : n ∉ (init ++ [m]).map (·.nm)) : RI (P ++ [J ["module", n]]) (init ++ [m]) ⟨n, P.length, []⟩ w := fun rest => by
  obtain ⟨q, g0, hp, Q⟩ := h (J ["module", n] :: rest)
  have e : P ++ [J ["module", n]] ++ rest = P ++ J ["module", n] :: rest := by simp
  have hwd := mod_words hn
  have hq : n ∉ q.ms.map (·.name) := fun z => by
    have := congrArg (List.map (·.1)) Q.ms
    rw [List.map_map, List.map_append, List.map_map] at this
    rw [show q.ms.map (·.name) = _ from this] at z
    rw [List.map_append] at hf
    exact hf z
  have hs : (P ++ [J ["module", n]] ++ rest)[q.pos]? = some (J ["module", n]) := by rw [e, hp]; exact get_app_
  refine ⟨modQ q n 0 0, (e ▸ g0).trans (goC_one hs (topM_mod hwd hn hq) (Nat.lt_succ_self _) (cls_no hwd (by decide +kernel))), ?_, hp ▸ Q.modQ_ hn hf⟩
  show q.pos + 1 = _
  rw [hp, List.length_append]
  rfl
/-! ### rows that keep left out -/
def nk (s : Str) : Bool := match RD.wordsOf s with
  | [] => true
  | w :: ws => if w = ("from" : Str) then !((ws.drop 1).head?.elim false keepW) else !keepW w
end GP
set_option maxHeartbeats 400000
/-! rules for walks over dicts; cells that stay -/
namespace Sm
open PySem PySem.Spec PyProof.Rows L2
section
variable {n K : Nat} {fs gs : List (Nat × Cell)} {S : Sto} {Λ : Slots} {Q : IV → Sto → Prop} {d : Nat} {kvs : List (Key × IV)}
theorem Hd.mem {l : Nat} {c : Cell} (h : Hd n K fs S) (hm : (l, c) ∈ fs) : S[l]? = some c := h.get (l, c) hm
theorem Hd.app {xs : List (Nat × Cell)} (h : Hd n K (xs ++ fs) S) : Hd n K fs S := h.sub (List.sublist_append_right _ _)
theorem wp_dnew (h : Hd n K fs S) (q : ∀ (l : Nat) (S' : Sto), Hd n K ((l, .dic []) :: fs) S' → Q (.adr l) S') : Wp (iDNew Λ S) Q := .ok (q _ _ (h.alloc _))
theorem wp_ne0 {i : Nat} (hv : Λ[i]? = some (some (.adr d))) (h : Hd n K fs S) (hm : (d, .dic kvs) ∈ fs) (q : ∀ S', Hd n K fs S' → Q (.bl (!kvs.isEmpty)) S') : Wp (iBin fNe0 (iVar i) iDNew Λ S) Q := by
  refine wp_bin (wp_var hv (wp_dnew h fun l S' h' => ?_))
  show Wp (onD S' (.adr d) fun _ kvs => onDw S' (.adr l) fun _ ls => chk (ls.length = 0) (.ok (.bl (!kvs.isEmpty)) S')) Q
  rw [onD_s (h'.mem (List.mem_cons_of_mem _ hm)), onDw_s (h'.at 0 rfl)]
  exact wp_chk ⟨List.length_nil, .ok (q _ h'.tail)⟩
theorem wp_dget {k : Str} {v : IV} (hm : S[d]? = some (.dic kvs)) (hv : valI kvs (.inr k) = some v) (q : Q v S) : Wp (fDGet (.adr d) (.str k) S) Q := by
  show Wp (onD S (.adr d) fun _ kvs => orBad (keyI (.str k)) fun k => orBad (valI kvs k) fun v => .ok v S) Q
  rw [onD_s hm]
  exact wp_orBad rfl (wp_orBad hv (.ok q))
theorem wp_dput {Q : Fl → Sto → Prop} {md my mv : IE} (h : Wp (mv Λ S) fun v S1 => Wp (md Λ S1) fun x S2 => Wp (my Λ S2) fun y S3 => ∃ (n K : Nat) (fs : List (Nat × Cell)) (i l : Nat) (kvs : List (Key × IV)) (k : Str), x = .adr l ∧ y = .str k ∧ Hd n K fs S3 ∧ fs[i]? = some (l, .dic kvs) ∧ kvs.length < sizeLine ∧ ∀ S', Hd n K (fs.set i (l, .dic (putK' kvs (.inr k) v))) S' → Q (.nx Λ) S') : Wp (iDPut md my mv Λ S) Q :=
  .bind (h.imp fun v S1 h => .bind (h.imp fun x S2 h => .bind (h.imp fun y S3 h => by
    obtain ⟨n, K, fs, i, l, kvs, k, rfl, rfl, h, e, hl, q⟩ := h
    rw [onDw_s (h.at i e)]
    exact wp_orBad rfl (wp_chk ⟨hl, .ok (q _ (h.put i e _))⟩))))
end
end Sm
namespace GP
open PySem PySem.Spec PyProof.Rows L2 Sm RD
/-! ### what is drawn, in cells that stay -/
abbrev Cells := List (Nat × Cell)
inductive All2 {α β : Type} (R : α → β → Prop) : List α → List β → Prop
  | nil : All2 R [] []
  | cons {a : α} {b : β} {as : List α} {bs : List β} : R a b → All2 R as bs → All2 R (a :: as) (b :: bs)
theorem All2.imp {α β : Type} {R T : α → β → Prop} (f : ∀ a b, R a b → T a b) : ∀ {as : List α} {bs : List β}, All2 R as bs → All2 T as bs
  | _, _, .nil => .nil
  | _, _, .cons h t => .cons (f _ _ h) (t.imp f)
theorem All2.app {α β : Type} {R : α → β → Prop} : ∀ {as cs : List α} {bs ds : List β}, All2 R as bs → All2 R cs ds → All2 R (as ++ cs) (bs ++ ds)
  | _, _, _, _, .nil, g => g
  | _, _, _, _, .cons h t, g => .cons h (t.app g)
theorem All2.length {α β : Type} {R : α → β → Prop} : ∀ {as : List α} {bs : List β}, All2 R as bs → as.length = bs.length
  | _, _, .nil => rfl
  | _, _, .cons _ t => by rw [List.length_cons, List.length_cons, t.length]
def optS : Option Str → IV
  | none => .non
  | some s => .str s
/-- a row of a body and its lines -/
inductive BRow (B : IV → List Str → Prop) : IV → List Str → Prop
  | call0 (p : Str) : BRow B (.tup [.str "call", .non, .str p]) [J ["call", p]]
  | callM (M p : Str) : BRow B (.tup [.str "call", .str M, .str p]) [J ["from", M, "call", p]]
  | keep0 (w n p : Str) : w = "keep" ∨ w = "once" → BRow B (.tup [.str w, .non, .str n, .str p]) [J [w, n, "=", p]]
  | keepM (w M n p : Str) : w = "keep" ∨ w = "once" → BRow B (.tup [.str w, .str M, .str n, .str p]) [J ["from", M, w, n, "=", p]]
  | impr (M : Str) : BRow B (.tup [.str "\x69mport", .str M]) [J ["\x69mport", M]]
  | often {v : IV} {ls : List Str} : B v ls → BRow B (.tup [.str "often", v]) ([("often" : Str)] ++ ls ++ [("end" : Str)])
  | either {v u : IV} {ls ms : List Str} : B v ls → B u ms → BRow B (.tup [.str "either", .lst [v, u]]) (("either" : Str) :: (ls ++ (("or" : Str) :: (ms ++ [("end" : Str)]))))
def BodyV (F : Cells) : Nat → IV → List Str → Prop
  | 0, _, _ => False
  | d + 1, v, ls => ∃ (l : Nat) (rows : List IV) (parts : List (List Str)), v = .adr l ∧ (l, .lst rows) ∈ F ∧ ls = parts.flatten ∧ All2 (BRow (BodyV F d)) rows parts
theorem BRow.imp {B C : IV → List Str → Prop} (f : ∀ v ls, B v ls → C v ls) {v : IV} {ls : List Str} (h : BRow B v ls) : BRow C v ls := by
  cases h with
  | call0 p => exact .call0 p
  | callM M p => exact .callM M p
  | keep0 w n p h => exact .keep0 w n p h
  | keepM w M n p h => exact .keepM w M n p h
  | impr M => exact .impr M
  | often h => exact .often (f _ _ h)
  | either h g => exact .either (f _ _ h) (f _ _ g)
theorem BodyV.mono {F G : Cells} (s : ∀ x ∈ F, x ∈ G) : ∀ {d : Nat} {v : IV} {ls : List Str}, BodyV F d v ls → BodyV G d v ls
  | 0, _, _, h => h
  | d + 1, v, ls, ⟨l, rows, parts, e, h1, h2, h3⟩ => ⟨l, rows, parts, e, s _ h1, h2, h3.imp fun _ _ h => h.imp fun _ _ h => BodyV.mono s h⟩
theorem BodyV.up {F : Cells} : ∀ {d e : Nat} {v : IV} {ls : List Str}, d ≤ e → BodyV F d v ls → BodyV F e v ls
  | 0, _, _, _, _, h => h.elim
  | d + 1, 0, _, _, l, _ => by omega
  | d + 1, e + 1, v, ls, l, ⟨a, rows, parts, e1, h1, h2, h3⟩ => ⟨a, rows, parts, e1, h1, h2, h3.imp fun _ _ h => h.imp fun _ _ h => BodyV.up (by omega) h⟩
def entV (e : Str × Option Str) : IV := .tup [.str e.1, optS e.2]
/-- a row of a module -/
inductive RowV (F : Cells) : IV → GR → Prop
  | out (n : Str) : RowV F (.tup [.str "outside", .str n]) (.out n)
  | imp (n m : Str) : RowV F (.tup [.str "\x69mport", .str n, .str m]) (.imp n m)
  | frm (n m x : Str) : RowV F (.tup [.str "from", .str n, .str m, .str x]) (.frm n m x)
  | bind (n : Str) (p : Option Str) : RowV F (.tup [.str "bind", .str n, optS p]) (.bind n p)
  | tab (n : Str) {l : Nat} {es : Ents} : (l, .lst (es.map entV)) ∈ F → RowV F (.tup [.str "table", .str n, .adr l]) (.tab n es)
  | cls (n : Str) {l k : Nat} {bs : List Str} {es : Ents} : (l, .lst (bs.map IV.str)) ∈ F → (k, .lst (es.map entV)) ∈ F → RowV F (.tup [.str "class", .str n, .adr l, .adr k]) (.cls n bs es)
  | dfn (n : Str) (h : Option (Str × Str)) {v : IV} {b : List Str} : BodyV F 3 v b → RowV F (.tup [.str "def", .str n, optS (h.map (·.1)), optS (h.map (·.2)), v]) (.dfn n h b)
theorem RowV.mono {F G : Cells} (s : ∀ x ∈ F, x ∈ G) {v : IV} {g : GR} (h : RowV F v g) : RowV G v g := by
  cases h with
  | out n => exact .out n
  | imp n m => exact .imp n m
  | frm n m x => exact .frm n m x
  | bind n p => exact .bind n p
  | tab n h => exact .tab n (s _ h)
  | cls n h g => exact .cls n (s _ h) (s _ g)
  | dfn n h b => exact .dfn n h (b.mono s)
/-! ### shapes -/
def Boxy (t : Str) : Prop := t = "module" ∨ t = "class" ∨ t = "table"
/-- all values are tuples -/
def Tp (kvs : List (Key × IV)) : Prop := ∀ kv ∈ kvs, ∃ xs, kv.2 = .tup xs
inductive Sh (F : Cells) : IV → Prop
  | leaf {t : Str} : ¬ Boxy t → Sh F (.tup [.str t])
  | box {t : Str} {d : Nat} {kvs : List (Key × IV)} : Boxy t → (d, .dic kvs) ∈ F → Tp kvs → Sh F (.tup [.str t, .adr d])
theorem Sh.mono {F G : Cells} (s : ∀ x ∈ F, x ∈ G) {v : IV} (h : Sh F v) : Sh G v := by
  cases h with
  | leaf h => exact .leaf h
  | box h g z => exact .box h (s _ g) z
/-- a dict of names and shapes -/
structure Dk (F : Cells) (ps : List Str) (kvs : List (Key × IV)) : Prop where
  nd : (kvs.map (·.1)).Nodup
  k : ∀ kv ∈ kvs, (∃ x ∈ ps, kv.1 = .inr x) ∧ Sh F kv.2
theorem Dk.mono {F G : Cells} {ps : List Str} (s : ∀ x ∈ F, x ∈ G) {kvs : List (Key × IV)} (h : Dk F ps kvs) : Dk G ps kvs := ⟨h.nd, fun kv hkv => ⟨(h.k kv hkv).1, (h.k kv hkv).2.mono s⟩⟩
theorem keysT_of : ∀ {kvs : List (Key × IV)} {ps : List Str}, (∀ kv ∈ kvs, ∃ x ∈ ps, kv.1 = (.inr x : Key)) → ∃ ks : List Str, keysT kvs = some ks ∧ kvs.map (·.1) = ks.map Sum.inr ∧ ∀ k ∈ ks, k ∈ ps
  | [], ps, _ => ⟨[], rfl, rfl, fun k hk => by cases hk⟩
  | (k, v) :: kvs, ps, h => by
    obtain ⟨x, hx, e⟩ := h _ List.mem_cons_self
    have e : k = .inr x := e
    subst e
    obtain ⟨ks, h1, h2, h3⟩ := keysT_of (kvs := kvs) fun kv hkv => h kv (List.mem_cons_of_mem _ hkv)
    refine ⟨x :: ks, ?_, by rw [List.map_cons, List.map_cons, h2], fun k hk => (List.mem_cons.mp hk).elim (fun e => e ▸ hx) (h3 k)⟩
    show (match keyT (.inr x), keysT kvs with | some k, some ks => some (k :: ks) | _, _ => none) = _
    rw [h1]
    rfl
theorem nodup_le {α : Type} [DecidableEq α] : ∀ {l ps : List α}, l.Nodup → (∀ x ∈ l, x ∈ ps) → l.length ≤ ps.length
  | [], ps, _, _ => Nat.zero_le _
  | a :: l, ps, nd, h => by
    obtain ⟨n1, n2⟩ := List.nodup_cons.mp nd
    have ha := h a List.mem_cons_self
    have := nodup_le (l := l) (ps := ps.erase a) n2 fun x hx => (List.mem_erase_of_ne (fun (z : x = a) => n1 (z ▸ hx))).mpr (h x (List.mem_cons_of_mem _ hx))
    rw [List.length_erase_of_mem ha] at this
    have := List.length_pos_of_mem ha
    rw [List.length_cons]
    omega
theorem Dk.keys {F : Cells} {ps : List Str} {kvs : List (Key × IV)} (h : Dk F ps kvs) : ∃ ks : List Str, keysT kvs = some ks ∧ kvs.map (·.1) = ks.map Sum.inr ∧ (∀ k ∈ ks, k ∈ ps) ∧ ks.Nodup ∧ ks.length = kvs.length ∧ ks.length ≤ ps.length := by
  obtain ⟨ks, h1, h2, h3⟩ := keysT_of (kvs := kvs) (ps := ps) fun kv hkv => (h.k kv hkv).1
  have nd : ks.Nodup := by
    have := h.nd
    rw [h2] at this
    exact (List.pairwise_map.mp this).imp fun h e => h (congrArg Sum.inr e)
  refine ⟨ks, h1, h2, h3, nd, ?_, nodup_le nd h3⟩
  have := congrArg List.length h2
  rw [List.length_map, List.length_map] at this
  exact this.symm
theorem valI_some : ∀ {kvs : List (Key × IV)} {k : Key}, k ∈ kvs.map (·.1) → ∃ v, valI kvs k = some v ∧ (k, v) ∈ kvs
  | [], _, h => by cases h
  | (a, b) :: kvs, k, h => by
    by_cases e : a = k
    · subst e
      exact ⟨b, by simp [valI, List.find?_cons], List.mem_cons_self⟩
    · rw [List.map_cons, List.mem_cons] at h
      obtain ⟨v, h1, h2⟩ := valI_some (h.resolve_left fun z => e z.symm)
      exact ⟨v, by rw [← h1]; simp [valI, List.find?_cons, e], List.mem_cons_of_mem _ h2⟩
end GP
set_option maxHeartbeats 400000
/-! paths as texts -/
namespace GP
open PySem PySem.Spec PyProof.Rows L2 Sm RD
inductive SP where
  | dot (x : Str)
  | br (x : Str)
def SP.x : SP → Str
  | .dot x => x
  | .br x => x
def SP.t : SP → Str
  | .dot x => ("." : Str) ++ x
  | .br x => (("[" : Str) ++ x) ++ ("]" : Str)
def SP.k : SP → Str × Str
  | .dot x => (".", x)
  | .br x => ("[", x)
def spsT : List SP → Str
  | [] => ""
  | s :: ss => s.t ++ spsT ss
theorem sg_dot : sg ("." : Str) = [46] := by decide +kernel
theorem sg_lb : sg ("[" : Str) = [91] := by decide +kernel
theorem sg_rb : sg ("]" : Str) = [93] := by decide +kernel
theorem SP.head (s : SP) : ∃ c r, sg s.t = c :: r ∧ isL c = false := by
  cases s with
  | dot x => exact ⟨46, sg x, by show sg (("." : Str) ++ x) = _; rw [sg_app, sg_dot]; rfl, isL46⟩
  | br x => exact ⟨91, sg x ++ [93], by show sg ((("[" : Str) ++ x) ++ ("]" : Str)) = _; rw [sg_app, sg_app, sg_lb, sg_rb]; rfl, by decide +kernel⟩
theorem sps_head (ss : List SP) : ∀ c, (sg (spsT ss)).head? = some c → isL c = false := fun c hc => by
  cases ss with
  | nil => cases hc
  | cons s ss =>
    obtain ⟨d, r, e, h⟩ := s.head
    show isL c = false
    rw [show spsT (s :: ss) = s.t ++ spsT ss from rfl, sg_app, e] at hc
    cases hc
    exact h
theorem cut_mid {a x r : Str} : cutS ((a ++ x) ++ r) (some (a.length : Int)) (some ((a.length + x.length : Nat) : Int)) = x := sg_inj (by
  rw [sg_cut]
  have l1 : ((a ++ x) ++ r).length = a.length + x.length + r.length := by rw [len_app, len_app]
  have h0 : HT.sIx ((a ++ x) ++ r).length 0 (some (a.length : Int)) = a.length := by
    show (if (a.length : Int) < 0 then ((a.length : Int) + (((a ++ x) ++ r).length : Int)).toNat else min (a.length : Int).toNat ((a ++ x) ++ r).length) = _
    rw [if_neg (by omega)]; omega
  have h1 : HT.sIx ((a ++ x) ++ r).length ((a ++ x) ++ r).length (some ((a.length + x.length : Nat) : Int)) = a.length + x.length := by
    show (if ((a.length + x.length : Nat) : Int) < 0 then (((a.length + x.length : Nat) : Int) + (((a ++ x) ++ r).length : Int)).toNat else min ((a.length + x.length : Nat) : Int).toNat ((a ++ x) ++ r).length) = _
    rw [if_neg (by omega)]; omega
  rw [h0, h1, sg_app, sg_app, List.append_assoc, ← sg_len a, List.drop_left, Nat.add_sub_cancel_left, ← sg_len x, List.take_left])
theorem one_len_dot : ("." : Str).length = 1 := by decide +kernel
theorem one_len_lb : ("[" : Str).length = 1 := by decide +kernel
theorem stepP_dot {x r : Str} (h : nameB x = true) (g : ∀ c, (sg r).head? = some c → isL c = false) : stepP ((("." : Str) ++ x) ++ r) = some (("." : Str), x, r) := by
  have es : sg ((("." : Str) ++ x) ++ r) = 46 :: (sg x ++ sg r) := by rw [sg_app, sg_app, sg_dot]; rfl
  have el : lets (sg x ++ sg r) = x.length := by
    unfold lets
    rw [tw_app (p := isL) _ _ (nm_isL h) g, sg_len]
  have c1 := cut_mid (a := ("." : Str)) (x := x) (r := r)
  have c2 := cut_suf (("." : Str) ++ x) r
  rw [len_app, one_len_dot] at c2
  rw [one_len_dot] at c1
  unfold stepP
  rw [es]
  show (if (46 : Nat) = 91 then _ else if (46 : Nat) = 46 then (if nameB (cutS _ (some 1) (some ((1 + lets (sg x ++ sg r) : Nat) : Int))) = true then some ((".", cutS _ (some 1) (some ((1 + lets (sg x ++ sg r) : Nat) : Int)), cutS _ (some ((1 + lets (sg x ++ sg r) : Nat) : Int)) none) : Str × Str × Str) else none) else none) = _
  rw [if_neg (by decide), if_pos rfl, el]
  have c1 : cutS ((("." : Str) ++ x) ++ r) (some 1) (some ((1 + x.length : Nat) : Int)) = x := c1
  have c2 : cutS ((("." : Str) ++ x) ++ r) (some ((1 + x.length : Nat) : Int)) none = r := c2
  rw [c1, c2, if_pos h]
theorem stepP_br {x r : Str} (h : nameB x = true) : stepP (((("[" : Str) ++ x) ++ ("]" : Str)) ++ r) = some (("[" : Str), x, r) := by
  have es : sg (((("[" : Str) ++ x) ++ ("]" : Str)) ++ r) = 91 :: (sg x ++ 93 :: sg r) := by rw [sg_app, sg_app, sg_app, sg_lb, sg_rb]; simp
  have e0 : ((("[" : Str) ++ x) ++ ("]" : Str)) ++ r = ("[" : Str) ++ ((x ++ ("]" : Str)) ++ r) := by rw [app_as, app_as, app_as]
  have c1 := cut_suf ("[" : Str) ((x ++ ("]" : Str)) ++ r)
  rw [one_len_lb, ← e0] at c1
  have c1 : cutS (((("[" : Str) ++ x) ++ ("]" : Str)) ++ r) (some 1) none = (x ++ ("]" : Str)) ++ r := c1
  have hp : Txt.partition ((x ++ ("]" : Str)) ++ r) "]" = (x, ("]" : Str), r) := TL.partition_app (y := ("]" : Str)) (s := 93) (S := []) (by decide +kernel) (fun z => by
    have := nm_isL h 93 z
    revert this
    decide +kernel)
  unfold stepP
  rw [es]
  show (if (91 : Nat) = 91 then (if (Txt.partition (cutS _ (some 1) none) "]").2.1 = "" ∨ nameB (Txt.partition (cutS _ (some 1) none) "]").1 = false then none else some ((("[" : Str), (Txt.partition (cutS _ (some 1) none) "]").1, (Txt.partition (cutS _ (some 1) none) "]").2.2) : Str × Str × Str)) else _) = _
  rw [if_pos rfl, c1, hp]
  show (if ("]" : Str) = "" ∨ nameB x = false then none else some (("[" : Str), x, r)) = _
  rw [if_neg]
  rintro (z | z)
  · exact absurd z (by decide +kernel)
  · rw [h] at z; cases z
theorem sps_ne (s : SP) (ss : List SP) : spsT (s :: ss) ≠ "" := fun z => by
  obtain ⟨c, r, e, _⟩ := s.head
  have := congrArg sg z
  rw [show spsT (s :: ss) = s.t ++ spsT ss from rfl, sg_app, e] at this
  cases this
theorem steps_ok : ∀ (ss : List SP) (n : Nat) (acc : List (Str × Str)), (∀ s ∈ ss, nameB s.x = true) → ss.length < n → acc.length + ss.length ≤ 3 → stepsP n (spsT ss) acc = some (acc ++ ss.map SP.k)
  | [], 0, acc, _, h, _ => by cases h
  | [], n + 1, acc, _, _, _ => by
    show (if ("" : Str) = "" then some acc else _) = _
    rw [if_pos rfl, List.map_nil, List.append_nil]
  | s :: ss, 0, acc, _, h, _ => by cases h
  | s :: ss, n + 1, acc, hn, h, hl => by
    rw [List.length_cons] at h hl
    have e : stepP (spsT (s :: ss)) = some (s.k.1, s.k.2, spsT ss) := by
      have hx := hn s List.mem_cons_self
      cases s with
      | dot x => exact stepP_dot hx (sps_head ss)
      | br x => exact stepP_br hx
    show (if spsT (s :: ss) = "" then some acc else match stepP (spsT (s :: ss)) with | none => none | some (a, b, r) => if acc.length = 3 then none else stepsP n r (acc ++ [(a, b)])) = _
    rw [if_neg (sps_ne s ss), e]
    show (if acc.length = 3 then none else stepsP n (spsT ss) (acc ++ [s.k])) = _
    rw [if_neg (by omega), steps_ok ss n _ (fun x hx => hn x (List.mem_cons_of_mem _ hx)) (by omega) (by rw [List.length_append, List.length_singleton]; omega), List.append_assoc]
    rfl
/-- a text of k steps behind a head -/
inductive PT (own ps : List Str) : Nat → Str → Prop
  | head {h : Str} : h ∈ own → PT own ps 0 h
  | dot {k : Nat} {p x : Str} : PT own ps k p → x ∈ ps → PT own ps (k + 1) ((p ++ ("." : Str)) ++ x)
  | br {k : Nat} {p x : Str} : PT own ps k p → x ∈ ps → PT own ps (k + 1) (((p ++ ("[" : Str)) ++ x) ++ ("]" : Str))
/-- short names -/
def Short (ps : List Str) : Prop := ∀ x ∈ ps, nameB x = true ∧ x.length ≤ 5
theorem spsT_snoc (s : SP) : ∀ ss : List SP, spsT (ss ++ [s]) = spsT ss ++ s.t
  | [] => by show s.t ++ "" = "" ++ s.t; exact sg_inj (by rw [sg_app, sg_app]; show sg s.t ++ [] = [] ++ sg s.t; simp)
  | a :: ss => by
    show a.t ++ spsT (ss ++ [s]) = (a.t ++ spsT ss) ++ s.t
    rw [spsT_snoc s ss, app_as]
theorem PT.split {own ps : List Str} {k : Nat} {p : Str} (h : PT own ps k p) : ∃ hd ss, hd ∈ own ∧ p = hd ++ spsT ss ∧ ss.length = k ∧ ∀ s ∈ ss, s.x ∈ ps := by
  induction h with
  | head h => exact ⟨_, [], h, (str_nil _).symm, rfl, fun s hs => by cases hs⟩
  | dot _ hx ih =>
    rename_i k p x _
    obtain ⟨hd, ss, h1, rfl, h3, h4⟩ := ih
    refine ⟨hd, ss ++ [.dot x], h1, ?_, by rw [List.length_append, h3]; rfl, fun s hs => ?_⟩
    · rw [spsT_snoc, app_as, app_as]; rfl
    · rcases List.mem_append.mp hs with hs | hs
      · exact h4 s hs
      · rw [List.mem_singleton.mp hs]; exact hx
  | br _ hx ih =>
    rename_i k p x _
    obtain ⟨hd, ss, h1, rfl, h3, h4⟩ := ih
    refine ⟨hd, ss ++ [.br x], h1, ?_, by rw [List.length_append, h3]; rfl, fun s hs => ?_⟩
    · rw [spsT_snoc]
      show (((hd ++ spsT ss) ++ ("[" : Str)) ++ x) ++ ("]" : Str) = hd ++ (spsT ss ++ ((("[" : Str) ++ x) ++ ("]" : Str)))
      rw [app_as, app_as, app_as, app_as]
    · rcases List.mem_append.mp hs with hs | hs
      · exact h4 s hs
      · rw [List.mem_singleton.mp hs]; exact hx
structure WordLe (m : Nat) (w : Str) : Prop where
  ok : okS w
  sp : 32 ∉ sg w
  nl : 10 ∉ sg w
  len : w.length ≤ m
theorem WordLe.app {m k : Nat} {a b : Str} (h : WordLe m a) (g : WordLe k b) : WordLe (m + k) (a ++ b) :=
  ⟨okS_app h.ok g.ok, fun z => by rw [sg_app] at z; exact (List.mem_append.mp z).elim h.sp g.sp, fun z => by rw [sg_app] at z; exact (List.mem_append.mp z).elim h.nl g.nl, by rw [len_app]; have := h.len; have := g.len; omega⟩
theorem WordLe.name {x : Str} (h : nameB x = true) (l : x.length ≤ 5) : WordLe 5 x := ⟨(nm_no h).1, (nm_no h).2.1, (nm_no h).2.2, l⟩
theorem WordLe.lit {s : Str} {m : Nat} (h : (lineB s && !decide (32 ∈ sg s) && decide (s.length ≤ m)) = true) : WordLe m s := by
  simp only [Bool.and_eq_true, Bool.not_eq_true', decide_eq_false_iff_not, decide_eq_true_eq] at h
  have := LineOk.lit h.1.1 h.2
  exact ⟨this.ok, h.1.2, this.nl, h.2⟩
theorem PT.word {own ps : List Str} (ho : Short own) (hp : Short ps) {k : Nat} {p : Str} (h : PT own ps k p) : WordLe (5 + 7 * k) p := by
  induction h with
  | head h => exact .name (ho _ h).1 (ho _ h).2
  | dot _ hx ih =>
    have := (ih.app (.lit (m := 1) (s := ".") (by decide +kernel))).app (WordLe.name (hp _ hx).1 (hp _ hx).2)
    exact ⟨this.ok, this.sp, this.nl, by have := this.len; omega⟩
  | br _ hx ih =>
    have := ((ih.app (.lit (m := 1) (s := "[") (by decide +kernel))).app (WordLe.name (hp _ hx).1 (hp _ hx).2)).app (.lit (m := 1) (s := "]") (by decide +kernel))
    exact ⟨this.ok, this.sp, this.nl, by have := this.len; omega⟩
theorem PT.ok {own ps : List Str} (ho : Short own) (hp : Short ps) {k : Nat} {p : Str} (h : PT own ps k p) (hk : k ≤ 3) : PathOk own p := by
  have hw := h.word ho hp
  obtain ⟨hd, ss, h1, h2, h3, h4⟩ := h.split
  have hn := (ho hd h1).1
  refine ⟨hd, ss.map SP.k, h1, hn, ?_, ⟨hw.ok, hw.sp, hw.nl, by have := hw.len; omega⟩⟩
  rw [h2, pathP_app hn (sps_head ss), steps_ok ss 5 [] (fun s hs => (hp _ (h4 s hs)).1) (by omega) (by rw [List.length_nil]; omega)]
  rfl
end GP
set_option maxHeartbeats 4000000
namespace K18
open PySem PySem.Spec PyProof.Rows L2 Sm
theorem lits : ("abcdefghijklmnopqrstuvwxyz" : Str).length = 26 ∧ ("ahead" : Str).length = 5 ∧ ("all" : Str).length = 3 ∧ ("as" : Str).length = 2 ∧ ("at" : Str).length = 2 ∧ ("call" : Str).length = 4 ∧ ("class" : Str).length = 5 ∧ ("def" : Str).length = 3 ∧ ("end" : Str).length = 3 ∧ ("for" : Str).length = 3 ∧ ("from" : Str).length = 4 ∧ ("keep" : Str).length = 4 ∧ ("none" : Str).length = 4 ∧ ("often" : Str).length = 5 ∧ ("once" : Str).length = 4 ∧ ("or" : Str).length = 2 ∧ ("patch" : Str).length = 5 ∧ ("set" : Str).length = 3 ∧ ("stand" : Str).length = 5 ∧ ("start" : Str).length = 5 ∧ ("stop" : Str).length = 4 ∧ ("table" : Str).length = 5 ∧ ("test" : Str).length = 4 ∧ ("using" : Str).length = 5 ∧ ("with" : Str).length = 4 ∧ ("" : Str).length = 0 ∧ ("x" : Str).length = 1 ∧ ("list" : Str).length = 4 ∧ ("left" : Str).length = 4 ∧ ("again" : Str).length = 5 ∧ ("." : Str).length = 1 := by decide +kernel
def topS (i : Nat) : Stmt := PySem.Challenge.pw_patchedplaces_k18_class_orders.main.body.getD i (.Pass ⟨0, 0, 0, 0⟩)
section
variable {P : Program} {w : World} {K : PySem.W.Frag} {mg : Str → Option Value} {base : Heap}
abbrev s_NoOrder___init__ : Stmt := inClass (topS 2) 0
theorem sc_NoOrder : FnScope ["self", "rows"] ["self", "rows"] (defScope s_NoOrder___init__) := ⟨rfl, rfl, rfl, by decide +kernel, rfl, by decide +kernel, by decide +kernel⟩
theorem ok_e_NoOrder (L : ELoc K mg "NoOrder" "rows" "self" "rows" "NoOrder.__init__" s_NoOrder___init__) (b_PatchedError : BaseC K mg "PatchedError") : ECal P w K mg base "NoOrder" "rows" :=
  ecal_def (z := "no order") L sc_NoOrder fun fI cdv A outer s H E => pss_cons (ps_expr (pe_clsinit rfl b_PatchedError (by decide) (pa_cons (pe_var (i := 0) rfl (Or.inl rfl)) (pa_cons pe_str pa_nil)))) (pss_one (ps_ost (pe_var (i := 0) rfl (Or.inl rfl)) (pe_var (i := 1) rfl (Or.inl rfl))))
abbrev s_first_free : Stmt := topS 4
abbrev n_first_free : List Str := ["rows", "row", "other"]
theorem sc_first_free : FnScope n_first_free ["rows"] (defScope s_first_free) := ⟨rfl, rfl, rfl, by decide +kernel, rfl, by decide +kernel, by decide +kernel⟩
noncomputable def b_first_free : IS := (iSeq (iFor (iSrcL (iVar 0)) (iName 1) (iIf (iNot (iTru (iCa fAny (iCons (iLc false (iSrcL (iVar 0)) (giN 2) iYes (iBin fIn (iBin fIx (iVar 1) (iC (.int 0))) (iSl false (iVar 2) (iPart (iC (.int 1))) iNoPart)) [2]) iNil)))) (iRet (iBin fIx (iVar 1) (iC (.int 0)))) iNext)) (iRet (iC .non)))
noncomputable def m_first_free : List IV → Sto → Out IV := mDef 3 b_first_free
theorem ok_first_free  (L : Loc K mg "first_free" s_first_free ["rows"]) (z_any : mg "any" = none) : Cal P w K mg base "first_free" 1 ["rows"] m_first_free :=
  cal_def (N := n_first_free) L sc_first_free fun f cdv A outer s H E hr tk po => (dss_cons (ds_for po rfl (di_list (de_var 0)) (dg_name 1 sc_first_free.nd) (dss_one (ds_if (dt_not (dt_tru (de_cb (cr_any rfl) cs_any z_any (by decide +kernel) (da_cons (de_lc (own := [("other", 2)]) false rfl sc_first_free.nd (di_list (de_var 0)) (blkOk_by (own := [("other", 2)]) (N := n_first_free) (sc := defScope s_first_free) (by decide +kernel)) (fun _ _ _ _ _ => pg_name (i := 2) sc_first_free.nd rfl (Or.inl rfl)) (gc_name (by decide)) (fun _ _ _ _ _ => dts_nil) (fun _ _ _ _ _ => (de_cmp op_inA os_in (de_ix (de_var 1) de_int) (de_slice false (de_var 2) (do_some de_int) do_none)))) da_nil)))) (dss_one (ds_ret (de_ix (de_var 1) de_int))) dss_nil))) (dss_one (ds_ret de_non)))
abbrev s_merge : Stmt := topS 5
abbrev n_merge : List Str := ["rows", "left", "merged", "first", "shorter", "row"]
theorem sc_merge : FnScope n_merge ["rows"] (defScope s_merge) := ⟨rfl, rfl, rfl, by decide +kernel, rfl, by decide +kernel, by decide +kernel⟩
noncomputable def b_merge : IS := (iSeq (iSet 1 (iLc true (iSrcL (iVar 0)) (giN 5) (iTest (iBin fGt (iCa fLen (iCons (iVar 5) iNil)) (iC (.int 0)))) (iCa (fList false) (iCons (iVar 5) iNil)) [5])) (iSeq (iSet 2 (iLst true iNil)) (iSeq (iWhile (iTru (iVar 1)) (iSeq (iSet 3 (iCall 1 m_first_free (iCons (iVar 1) iNil))) (iSeq (iIf (iTest (iBin gIsN (iVar 3) (iC .non))) (iRaise "NoOrder" "rows" (iCons (iVar 1) iNil)) iNext) (iSeq (iDrop (iBM "list" fApp (iVar 2) (iCons (iVar 3) iNil))) (iSeq (iSet 4 (iLc false (iSrcL (iVar 1)) (giN 5) iYes (iIf (iTest (iBin fEq (iBin fIx (iVar 5) (iC (.int 0))) (iVar 3))) (iSl false (iVar 5) (iPart (iC (.int 1))) iNoPart) (iVar 5)) [5])) (iSet 1 (iLc true (iSrcL (iVar 4)) (giN 5) (iTest (iBin fGt (iCa fLen (iCons (iVar 5) iNil)) (iC (.int 0)))) (iVar 5) [5]))))))) (iRet (iVar 2)))))
noncomputable def m_merge : List IV → Sto → Out IV := mDef 6 b_merge
theorem ok_merge  (L : Loc K mg "merge" s_merge ["rows"]) (z_len : mg "len" = none) (z_list : mg "list" = none) (e_NoOrder : ECal P w K mg base "NoOrder" "rows") (c_first_free : Cal P w K mg base "first_free" 1 ["rows"] m_first_free) : Cal P w K mg base "merge" 3 ["rows"] m_merge :=
  cal_def (N := n_merge) L sc_merge fun f cdv A outer s H E hr tk po => (dss_cons (ds_setLc (own := [("row", 5)]) true 1 rfl sc_merge.nd (di_list (de_var 0)) (blkOk_by (own := [("row", 5)]) (N := n_merge) (sc := defScope s_merge) (by decide +kernel)) (fun _ _ _ _ _ => pg_name (i := 5) sc_merge.nd rfl (Or.inl rfl)) (gc_name (by decide)) (fun _ _ _ _ _ => dts_one (dt_cmp op_gt os_B (de_cb call_len cs_len z_len (by decide +kernel) (da_cons (de_var 5) da_nil)) de_int)) (fun _ _ _ _ _ => (de_ct call_list_of (cs_list false) z_list (by decide +kernel) (da_cons (de_var 5) da_nil)))) (dss_cons (ds_set 2 sc_merge.nd (de_lst true da_nil)) (dss_cons (ds_while po (dt_tru (de_var 1)) (dss_cons (ds_set 3 sc_merge.nd (de_callC c_first_free tk (hr.mono (by decide)) (da_cons (de_var 1) da_nil))) (dss_cons (ds_if (dt_cmp op_isN os_isN (de_var 3) de_non) (dss_one (ds_raise rfl tk (hr.mono (by decide)) e_NoOrder (da_cons (de_var 1) da_nil))) dss_nil) (dss_cons (ds_expr (de_bm PySem.F.plainAttrs_list PySem.F.slot_list_append PySem.F.type_list_append mt_append ms_app (de_var 2) (da_cons (de_var 3) da_nil))) (dss_cons (ds_setLc (own := [("row", 5)]) false 4 rfl sc_merge.nd (di_list (de_var 1)) (blkOk_by (own := [("row", 5)]) (N := n_merge) (sc := defScope s_merge) (by decide +kernel)) (fun _ _ _ _ _ => pg_name (i := 5) sc_merge.nd rfl (Or.inl rfl)) (gc_name (by decide)) (fun _ _ _ _ _ => dts_nil) (fun _ _ _ _ _ => (de_if (dt_cmp (op_eqA hr.units) os_eq (de_ix (de_var 5) de_int) (de_var 3)) (de_slice false (de_var 5) (do_some de_int) do_none) (de_var 5)))) (dss_one (ds_setLc (own := [("row", 5)]) true 1 rfl sc_merge.nd (di_list (de_var 4)) (blkOk_by (own := [("row", 5)]) (N := n_merge) (sc := defScope s_merge) (by decide +kernel)) (fun _ _ _ _ _ => pg_name (i := 5) sc_merge.nd rfl (Or.inl rfl)) (gc_name (by decide)) (fun _ _ _ _ _ => dts_one (dt_cmp op_gt os_B (de_cb call_len cs_len z_len (by decide +kernel) (da_cons (de_var 5) da_nil)) de_int)) (fun _ _ _ _ _ => (de_var 5))))))))) (dss_one (ds_ret (de_var 2))))))
abbrev s_class_order : Stmt := topS 6
abbrev n_class_order : List Str := ["label", "bases", "orders", "rows", "base"]
theorem sc_class_order : FnScope n_class_order ["label", "bases", "orders"] (defScope s_class_order) := ⟨rfl, rfl, rfl, by decide +kernel, rfl, by decide +kernel, by decide +kernel⟩
noncomputable def b_class_order : IS := (iSeq (iIf (iTest (iBin fLt (iLenT (iVar 1)) (iCa fLen (iCons (iVar 1) iNil)))) (iRaise "NoOrder" "rows" (iCons (iLst true (iCons (iCa (fList false) (iCons (iVar 1) iNil)) iNil)) iNil)) iNext) (iSeq (iSet 3 (iLc true (iSrcL (iVar 1)) (giN 4) iYes (iCa (fList false) (iCons (iBin fDGet (iVar 2) (iVar 4)) iNil)) [4])) (iSeq (iDrop (iBM "list" fApp (iVar 3) (iCons (iCa (fList false) (iCons (iVar 1) iNil)) iNil))) (iRet (iBin fCatC (iLst false (iCons (iVar 0) iNil)) (iCall 1 m_merge (iCons (iVar 3) iNil)))))))
noncomputable def m_class_order : List IV → Sto → Out IV := mDef 5 b_class_order
theorem ok_class_order  (L : Loc K mg "class_order" s_class_order ["label", "bases", "orders"]) (z_list : mg "list" = none) (z_len : mg "len" = none) (z_set : mg "set" = none) (c_merge : Cal P w K mg base "merge" 3 ["rows"] m_merge) (e_NoOrder : ECal P w K mg base "NoOrder" "rows") : Cal P w K mg base "class_order" 4 ["label", "bases", "orders"] m_class_order :=
  cal_def (N := n_class_order) L sc_class_order fun f cdv A outer s H E hr tk po => (dss_cons (ds_if (dt_cmp op_lt os_B (de_lenT rfl (de_var 1) z_len z_set) (de_cb call_len cs_len z_len (by decide +kernel) (da_cons (de_var 1) da_nil))) (dss_one (ds_raise rfl tk (hr.mono (by decide)) e_NoOrder (da_cons (de_lst true (da_cons (de_ct call_list_of (cs_list false) z_list (by decide +kernel) (da_cons (de_var 1) da_nil)) da_nil)) da_nil))) dss_nil) (dss_cons (ds_setLc (own := [("base", 4)]) true 3 rfl sc_class_order.nd (di_list (de_var 1)) (blkOk_by (own := [("base", 4)]) (N := n_class_order) (sc := defScope s_class_order) (by decide +kernel)) (fun _ _ _ _ _ => pg_name (i := 4) sc_class_order.nd rfl (Or.inl rfl)) (gc_name (by decide)) (fun _ _ _ _ _ => dts_nil) (fun _ _ _ _ _ => (de_ct call_list_of (cs_list false) z_list (by decide +kernel) (da_cons (de_dget (hu_of hr.toRoom) (de_var 2) (de_var 4)) da_nil)))) (dss_cons (ds_expr (de_bm PySem.F.plainAttrs_list PySem.F.slot_list_append PySem.F.type_list_append mt_append ms_app (de_var 3) (da_cons (de_ct call_list_of (cs_list false) z_list (by decide +kernel) (da_cons (de_var 1) da_nil)) da_nil))) (dss_one (ds_ret (de_bin op_cat os_catC (de_lst false (da_cons (de_var 0) da_nil)) (de_callC c_merge tk (hr.mono (by decide)) (da_cons (de_var 3) da_nil))))))))
abbrev s__law_source : Stmt := topS 8
abbrev n__law_source : List Str := ["_law_script", "_law_at", "_law_cell", "_law_big"]
theorem sc__law_source : FnScope n__law_source ["_law_script", "_law_at"] (defScope s__law_source) := ⟨rfl, rfl, rfl, by decide +kernel, rfl, by decide +kernel, by decide +kernel⟩
noncomputable def b__law_source : IS := (iSeq (iSet 2 (iIf (iTest (iBin fLt (iVar 1) (iCa fLen (iCons (iVar 0) iNil)))) (iBin fIx (iVar 0) (iVar 1)) (iC (.int 0)))) (iSeq (iSet 3 (iIf (iTest (iBin fGe (iCa fAbs (iCons (iVar 2) iNil)) (iBin fPow (iC (.int 10)) (iC (.int 18))))) (iCa fAbs (iCons (iVar 2) iNil)) (iC (.int 0)))) (iRet (iLst true (iCons (iVar 3) (iCons (iBin fAdd (iBin fAdd (iBin fMod (iCa fInt (iCons (iVar 2) iNil)) (iC (.int 2147483587))) (iBin fMul (iC (.int 6007)) (iVar 1))) (iC (.int 1801))) (iCons (iC (.int 0)) iNil)))))))
noncomputable def m__law_source : List IV → Sto → Out IV := mDef 4 b__law_source
theorem ok__law_source  (L : Loc K mg "_law_source" s__law_source ["_law_script", "_law_at"]) (z_int : mg "int" = none) (z_abs : mg "abs" = none) (z_len : mg "len" = none) : Cal P w K mg base "_law_source" 1 ["_law_script", "_law_at"] m__law_source :=
  cal_def (N := n__law_source) L sc__law_source fun f cdv A outer s H E hr tk po => (dss_cons (ds_set 2 sc__law_source.nd (de_if (dt_cmp op_lt os_B (de_var 1) (de_cb call_len cs_len z_len (by decide +kernel) (da_cons (de_var 0) da_nil))) (de_ix (de_var 0) (de_var 1)) de_int)) (dss_cons (ds_set 3 sc__law_source.nd (de_if (dt_cmp op_ge os_B (de_cb call_abs cs_abs z_abs (by decide +kernel) (da_cons (de_var 2) da_nil)) (de_bin op_pow os_I de_int de_int)) (de_cb call_abs cs_abs z_abs (by decide +kernel) (da_cons (de_var 2) da_nil)) de_int)) (dss_one (ds_ret (de_lst true (da_cons (de_var 3) (da_cons (de_bin op_addA os_add (de_bin op_addA os_add (de_bin op_mod os_I (de_ct call_int1 cs_int z_int (by decide +kernel) (da_cons (de_var 2) da_nil)) de_int) (de_bin op_mul os_I de_int (de_var 1))) de_int) (da_cons de_int da_nil))))))))
abbrev s__law_draw : Stmt := topS 9
abbrev n__law_draw : List Str := ["_law_s", "_law_many", "_law_digit", "_law_mixed"]
theorem sc__law_draw : FnScope n__law_draw ["_law_s", "_law_many"] (defScope s__law_draw) := ⟨rfl, rfl, rfl, by decide +kernel, rfl, by decide +kernel, by decide +kernel⟩
noncomputable def b__law_draw : IS := (iSeq (iIf (iTest (iBin fGt (iBin fIx (iVar 0) (iC (.int 0))) (iC (.int 0)))) (iSeq (iSet 2 (iBin fMod (iCa fInt (iCons (iBin fIx (iVar 0) (iC (.int 0))) iNil)) (iVar 1))) (iSeq (iAsg (iBin fDiv (iBin fIx (iVar 0) (iC (.int 0))) (iVar 1)) (iGSub (iVar 0) (iC (.int 0)))) (iRet (iVar 2)))) iNext) (iSeq (iAsg (iBin fAdd (iBin fIx (iVar 0) (iC (.int 2))) (iC (.int 1))) (iGSub (iVar 0) (iC (.int 2)))) (iSeq (iAsg (iBin fMod (iCa fInt (iCons (iBin fAdd (iBin fAdd (iBin fMul (iBin fIx (iVar 0) (iC (.int 1))) (iC (.int 41077))) (iBin fMul (iBin fMul (iBin fIx (iVar 0) (iC (.int 2))) (iBin fIx (iVar 0) (iC (.int 2)))) (iC (.int 28001)))) (iC (.int 1801))) iNil)) (iC (.int 2147483549))) (iGSub (iVar 0) (iC (.int 1)))) (iSeq (iSet 3 (iBin fDiv (iBin fIx (iVar 0) (iC (.int 1))) (iC (.int 256)))) (iRet (iBin fMod (iBin fMod (iCa fInt (iCons (iBin fAdd (iBin fMul (iVar 3) (iVar 3)) (iBin fIx (iVar 0) (iC (.int 1)))) iNil)) (iC (.int 2147399873))) (iVar 1)))))))
noncomputable def m__law_draw : List IV → Sto → Out IV := mDef 4 b__law_draw
theorem ok__law_draw  (L : Loc K mg "_law_draw" s__law_draw ["_law_s", "_law_many"]) (z_int : mg "int" = none) : Cal P w K mg base "_law_draw" 1 ["_law_s", "_law_many"] m__law_draw :=
  cal_def (N := n__law_draw) L sc__law_draw fun f cdv A outer s H E hr tk po => (dss_cons (ds_if (dt_cmp op_gt os_B (de_ix (de_var 0) de_int) de_int) (dss_cons (ds_set 2 sc__law_draw.nd (de_bin op_mod os_I (de_ct call_int1 cs_int z_int (by decide +kernel) (da_cons (de_ix (de_var 0) de_int) da_nil)) (de_var 1))) (dss_cons (ds_asg (de_bin op_fdiv os_I (de_ix (de_var 0) de_int) (de_var 1)) (dg_sub (de_var 0) de_int)) (dss_one (ds_ret (de_var 2))))) dss_nil) (dss_cons (ds_asg (de_bin op_addA os_add (de_ix (de_var 0) de_int) de_int) (dg_sub (de_var 0) de_int)) (dss_cons (ds_asg (de_bin op_mod os_I (de_ct call_int1 cs_int z_int (by decide +kernel) (da_cons (de_bin op_addA os_add (de_bin op_addA os_add (de_bin op_mul os_I (de_ix (de_var 0) de_int) de_int) (de_bin op_mul os_I (de_bin op_mul os_I (de_ix (de_var 0) de_int) (de_ix (de_var 0) de_int)) de_int)) de_int) da_nil)) de_int) (dg_sub (de_var 0) de_int)) (dss_cons (ds_set 3 sc__law_draw.nd (de_bin op_fdiv os_I (de_ix (de_var 0) de_int) de_int)) (dss_one (ds_ret (de_bin op_mod os_I (de_bin op_mod os_I (de_ct call_int1 cs_int z_int (by decide +kernel) (da_cons (de_bin op_addA os_add (de_bin op_mul os_I (de_var 3) (de_var 3)) (de_ix (de_var 0) de_int)) da_nil)) de_int) (de_var 1))))))))
abbrev s__law_of : Stmt := topS 10
abbrev n__law_of : List Str := ["_law_s", "_law_some"]
theorem sc__law_of : FnScope n__law_of ["_law_s", "_law_some"] (defScope s__law_of) := ⟨rfl, rfl, rfl, by decide +kernel, rfl, by decide +kernel, by decide +kernel⟩
noncomputable def b__law_of : IS := (iRet (iBin fIx (iVar 1) (iCall 2 m__law_draw (iCons (iVar 0) (iCons (iCa fLen (iCons (iVar 1) iNil)) iNil)))))
noncomputable def m__law_of : List IV → Sto → Out IV := mDef 2 b__law_of
theorem wd__law_of {x0 x1 : IV} {S : Sto} {Q : IV → Sto → Prop} (h : Wp (b__law_of [some x0, some x1] S) (FlQ Q)) : Wp (m__law_of [x0, x1] S) Q := wp_def h
theorem ok__law_of  (L : Loc K mg "_law_of" s__law_of ["_law_s", "_law_some"]) (z_len : mg "len" = none) (c__law_draw : Cal P w K mg base "_law_draw" 1 ["_law_s", "_law_many"] m__law_draw) : Cal P w K mg base "_law_of" 2 ["_law_s", "_law_some"] m__law_of :=
  cal_def (N := n__law_of) L sc__law_of fun f cdv A outer s H E hr tk po => (dss_one (ds_ret (de_ix (de_var 1) (de_callC c__law_draw tk (hr.mono (by decide)) (da_cons (de_var 0) (da_cons (de_cb call_len cs_len z_len (by decide +kernel) (da_cons (de_var 1) da_nil)) da_nil))))))
abbrev s__law_pool : Stmt := topS 11
abbrev n__law_pool : List Str := ["_law_s", "_law_kept", "_law_letters", "_law_pool_here", "_law_turn", "_law_size", "_law_name", "_law_spare", "_law_k", "_law_one"]
theorem sc__law_pool : FnScope n__law_pool ["_law_s"] (defScope s__law_pool) := ⟨rfl, rfl, rfl, by decide +kernel, rfl, by decide +kernel, by decide +kernel⟩
noncomputable def b__law_pool : IS := (iSeq (iSet 1 (iLst false (iCons (iC (.str "ahead")) (iCons (iC (.str "all")) (iCons (iC (.str "as")) (iCons (iC (.str "at")) (iCons (iC (.str "call")) (iCons (iC (.str "class")) (iCons (iC (.str "def")) (iCons (iC (.str "end")) (iCons (iC (.str "for")) (iCons (iC (.str "from")) (iCons (iC (.str "keep")) (iCons (iC (.str "none")) (iCons (iC (.str "often")) iNil))))))))))))))) (iSeq (iSet 1 (iBin fAdd (iVar 1) (iLst false (iCons (iC (.str "once")) (iCons (iC (.str "or")) (iCons (iC (.str "patch")) (iCons (iC (.str "set")) (iCons (iC (.str "stand")) (iCons (iC (.str "start")) (iCons (iC (.str "stop")) (iCons (iC (.str "table")) (iCons (iC (.str "test")) (iCons (iC (.str "using")) (iCons (iC (.str "with")) iNil)))))))))))))) (iSeq (iSet 2 (iC (.str "abcdefghijklmnopqrstuvwxyz"))) (iSeq (iSet 3 (iLst true iNil)) (iSeq (iFor (iSrcR1 (iC (.int 12))) (iName 4) (iSeq (iSet 5 (iBin fAdd (iC (.int 1)) (iCall 2 m__law_draw (iCons (iVar 0) (iCons (iC (.int 5)) iNil))))) (iSeq (iSet 6 (iBM "str" fJoin (iC (.str "")) (iCons (iLc false (iSrcR1 (iVar 5)) (giN 8) iYes (iCall 2 m__law_of (iCons (iVar 0) (iCons (iVar 2) iNil))) [8]) iNil))) (iSeq (iIf (iOr (iTest (iBin fIn (iVar 6) (iVar 1))) (iTest (iBin fIn (iVar 6) (iVar 3)))) (iSeq (iSet 7 (iLc false (iSrcR1 (iC (.int 26))) (giN 8) iYes (iBin fAdd (iBin fAdd (iBin fIx (iVar 2) (iVar 8)) (iBin fIx (iVar 2) (iBin fSub (iC (.int 25)) (iVar 8)))) (iC (.str "x"))) [8])) (iSet 6 (iBin fIx (iLc false (iSrcL (iVar 7)) (giN 9) (iTest (iBin fNotIn (iVar 9) (iVar 3))) (iVar 9) [9]) (iC (.int 0))))) iNext) (iDrop (iBM "list" fApp (iVar 3) (iCons (iVar 6) iNil))))))) (iRet (iVar 3)))))))
noncomputable def m__law_pool : List IV → Sto → Out IV := mDef 10 b__law_pool
theorem ok__law_pool  (L : Loc K mg "_law_pool" s__law_pool ["_law_s"]) (z_range : mg "range" = none) (c__law_of : Cal P w K mg base "_law_of" 2 ["_law_s", "_law_some"] m__law_of) (c__law_draw : Cal P w K mg base "_law_draw" 1 ["_law_s", "_law_many"] m__law_draw) : Cal P w K mg base "_law_pool" 3 ["_law_s"] m__law_pool :=
  cal_def (N := n__law_pool) L sc__law_pool fun f cdv A outer s H E hr tk po => (dss_cons (ds_set 1 sc__law_pool.nd (de_lst false (da_cons de_str (da_cons de_str (da_cons de_str (da_cons de_str (da_cons de_str (da_cons de_str (da_cons de_str (da_cons de_str (da_cons de_str (da_cons de_str (da_cons de_str (da_cons de_str (da_cons de_str da_nil))))))))))))))) (dss_cons (ds_set 1 sc__law_pool.nd (de_bin op_addA os_add (de_var 1) (de_lst false (da_cons de_str (da_cons de_str (da_cons de_str (da_cons de_str (da_cons de_str (da_cons de_str (da_cons de_str (da_cons de_str (da_cons de_str (da_cons de_str (da_cons de_str da_nil)))))))))))))) (dss_cons (ds_set 2 sc__law_pool.nd de_str) (dss_cons (ds_set 3 sc__law_pool.nd (de_lst true da_nil)) (dss_cons (ds_for po rfl (di_range1 z_range (da_cons de_int da_nil)) (dg_name 4 sc__law_pool.nd) (dss_cons (ds_set 5 sc__law_pool.nd (de_bin op_addA os_add de_int (de_callC c__law_draw tk (hr.mono (by decide)) (da_cons (de_var 0) (da_cons de_int da_nil))))) (dss_cons (ds_set 6 sc__law_pool.nd (de_bm PySem.F.plainAttrs_str PySem.F.slot_str_join PySem.F.type_str_join mt_join ms_join de_str (da_cons (de_lc (own := [("_law_k", 8)]) false rfl sc__law_pool.nd (di_range1 z_range (da_cons (de_var 5) da_nil)) (blkOk_by (own := [("_law_k", 8)]) (N := n__law_pool) (sc := defScope s__law_pool) (by decide +kernel)) (fun _ _ _ _ _ => pg_name (i := 8) sc__law_pool.nd rfl (Or.inl rfl)) (gc_name (by decide)) (fun _ _ _ _ _ => dts_nil) (fun _ _ _ _ _ => (de_callC c__law_of takesW0 (hr.mono (by decide)) (da_cons (de_var 0) (da_cons (de_var 2) da_nil))))) da_nil))) (dss_cons (ds_if (dt_w (dw_or (dt_cmp op_inA os_in (de_var 6) (de_var 1)) (dw_or1 (dt_cmp op_inA os_in (de_var 6) (de_var 3))))) (dss_cons (ds_setLc (own := [("_law_k", 8)]) false 7 rfl sc__law_pool.nd (di_range1 z_range (da_cons de_int da_nil)) (blkOk_by (own := [("_law_k", 8)]) (N := n__law_pool) (sc := defScope s__law_pool) (by decide +kernel)) (fun _ _ _ _ _ => pg_name (i := 8) sc__law_pool.nd rfl (Or.inl rfl)) (gc_name (by decide)) (fun _ _ _ _ _ => dts_nil) (fun _ _ _ _ _ => (de_bin op_addA os_add (de_bin op_addA os_add (de_ix (de_var 2) (de_var 8)) (de_ix (de_var 2) (de_bin op_subT os_I de_int (de_var 8)))) de_str))) (dss_one (ds_set 6 sc__law_pool.nd (de_ix (de_lc (own := [("_law_one", 9)]) false rfl sc__law_pool.nd (di_list (de_var 7)) (blkOk_by (own := [("_law_one", 9)]) (N := n__law_pool) (sc := defScope s__law_pool) (by decide +kernel)) (fun _ _ _ _ _ => pg_name (i := 9) sc__law_pool.nd rfl (Or.inl rfl)) (gc_name (by decide)) (fun _ _ _ _ _ => dts_one (dt_cmp op_notInA os_notIn (de_var 9) (de_var 3))) (fun _ _ _ _ _ => (de_var 9))) de_int)))) dss_nil) (dss_one (ds_expr (de_bm PySem.F.plainAttrs_list PySem.F.slot_list_append PySem.F.type_list_append mt_append ms_app (de_var 3) (da_cons (de_var 6) da_nil)))))))) (dss_one (ds_ret (de_var 3))))))))
abbrev s__law_merged : Stmt := topS 12
abbrev n__law_merged : List Str := ["_law_rows", "_law_taken", "_law_left", "_law_later", "_law_row", "_law_firsts", "_law_shorter"]
theorem sc__law_merged : FnScope n__law_merged ["_law_rows"] (defScope s__law_merged) := ⟨rfl, rfl, rfl, by decide +kernel, rfl, by decide +kernel, by decide +kernel⟩
noncomputable def b__law_merged : IS := (iSeq (iSet 1 (iLst true iNil)) (iSeq (iSet 2 (iLc false (iSrcL (iVar 0)) (giN 4) (iTest (iBin fNe (iVar 4) (iLst false iNil))) (iVar 4) [4])) (iSeq (iWhile (iTest (iBin fNe (iVar 2) (iLst false iNil))) (iSeq (iSet 3 (iLst true iNil)) (iSeq (iFor (iSrcL (iVar 2)) (iName 4) (iDrop (iBM "list" fExt (iVar 3) (iCons (iSl false (iVar 4) (iPart (iC (.int 1))) iNoPart) iNil)))) (iSeq (iSet 5 (iLc false (iSrcL (iVar 2)) (giN 4) (iTest (iBin fNotIn (iBin fIx (iVar 4) (iC (.int 0))) (iVar 3))) (iBin fIx (iVar 4) (iC (.int 0))) [4])) (iSeq (iIf (iTest (iBin fEq (iVar 5) (iLst false iNil))) (iRet (iTup (iCons (iVar 1) (iCons (iVar 2) iNil)))) iNext) (iSeq (iDrop (iBM "list" fApp (iVar 1) (iCons (iBin fIx (iVar 5) (iC (.int 0))) iNil))) (iSeq (iSet 6 (iLc false (iSrcL (iVar 2)) (giN 4) iYes (iIf (iTest (iBin fEq (iBin fIx (iVar 4) (iC (.int 0))) (iBin fIx (iVar 5) (iC (.int 0))))) (iSl false (iVar 4) (iPart (iC (.int 1))) iNoPart) (iVar 4)) [4])) (iSet 2 (iLc false (iSrcL (iVar 6)) (giN 4) (iTest (iBin fNe (iVar 4) (iLst false iNil))) (iVar 4) [4]))))))))) (iRet (iTup (iCons (iVar 1) (iCons (iLst false iNil) iNil)))))))
noncomputable def m__law_merged : List IV → Sto → Out IV := mDef 7 b__law_merged
theorem ok__law_merged  (L : Loc K mg "_law_merged" s__law_merged ["_law_rows"])  : Cal P w K mg base "_law_merged" 1 ["_law_rows"] m__law_merged :=
  cal_def (N := n__law_merged) L sc__law_merged fun f cdv A outer s H E hr tk po => (dss_cons (ds_set 1 sc__law_merged.nd (de_lst true da_nil)) (dss_cons (ds_setLc (own := [("_law_row", 4)]) false 2 rfl sc__law_merged.nd (di_list (de_var 0)) (blkOk_by (own := [("_law_row", 4)]) (N := n__law_merged) (sc := defScope s__law_merged) (by decide +kernel)) (fun _ _ _ _ _ => pg_name (i := 4) sc__law_merged.nd rfl (Or.inl rfl)) (gc_name (by decide)) (fun _ _ _ _ _ => dts_one (dt_cmp (op_neA hr.units) os_ne (de_var 4) (de_lst false da_nil))) (fun _ _ _ _ _ => (de_var 4))) (dss_cons (ds_while po (dt_cmp (op_neA hr.units) os_ne (de_var 2) (de_lst false da_nil)) (dss_cons (ds_set 3 sc__law_merged.nd (de_lst true da_nil)) (dss_cons (ds_for po rfl (di_list (de_var 2)) (dg_name 4 sc__law_merged.nd) (dss_one (ds_expr (de_bm PySem.F.plainAttrs_list PySem.F.slot_list_extend PySem.F.type_list_extend mt_extend ms_ext (de_var 3) (da_cons (de_slice false (de_var 4) (do_some de_int) do_none) da_nil))))) (dss_cons (ds_set 5 sc__law_merged.nd (de_lc (own := [("_law_row", 4)]) false rfl sc__law_merged.nd (di_list (de_var 2)) (blkOk_by (own := [("_law_row", 4)]) (N := n__law_merged) (sc := defScope s__law_merged) (by decide +kernel)) (fun _ _ _ _ _ => pg_name (i := 4) sc__law_merged.nd rfl (Or.inl rfl)) (gc_name (by decide)) (fun _ _ _ _ _ => dts_one (dt_cmp op_notInA os_notIn (de_ix (de_var 4) de_int) (de_var 3))) (fun _ _ _ _ _ => (de_ix (de_var 4) de_int)))) (dss_cons (ds_if (dt_cmp (op_eqA hr.units) os_eq (de_var 5) (de_lst false da_nil)) (dss_one (ds_ret (de_tup (da_cons (de_var 1) (da_cons (de_var 2) da_nil))))) dss_nil) (dss_cons (ds_expr (de_bm PySem.F.plainAttrs_list PySem.F.slot_list_append PySem.F.type_list_append mt_append ms_app (de_var 1) (da_cons (de_ix (de_var 5) de_int) da_nil))) (dss_cons (ds_setLc (own := [("_law_row", 4)]) false 6 rfl sc__law_merged.nd (di_list (de_var 2)) (blkOk_by (own := [("_law_row", 4)]) (N := n__law_merged) (sc := defScope s__law_merged) (by decide +kernel)) (fun _ _ _ _ _ => pg_name (i := 4) sc__law_merged.nd rfl (Or.inl rfl)) (gc_name (by decide)) (fun _ _ _ _ _ => dts_nil) (fun _ _ _ _ _ => (de_if (dt_cmp (op_eqA hr.units) os_eq (de_ix (de_var 4) de_int) (de_ix (de_var 5) de_int)) (de_slice false (de_var 4) (do_some de_int) do_none) (de_var 4)))) (dss_one (ds_setLc (own := [("_law_row", 4)]) false 2 rfl sc__law_merged.nd (di_list (de_var 6)) (blkOk_by (own := [("_law_row", 4)]) (N := n__law_merged) (sc := defScope s__law_merged) (by decide +kernel)) (fun _ _ _ _ _ => pg_name (i := 4) sc__law_merged.nd rfl (Or.inl rfl)) (gc_name (by decide)) (fun _ _ _ _ _ => dts_one (dt_cmp (op_neA hr.units) os_ne (de_var 4) (de_lst false da_nil))) (fun _ _ _ _ _ => (de_var 4))))))))))) (dss_one (ds_ret (de_tup (da_cons (de_var 1) (da_cons (de_lst false da_nil) da_nil))))))))
abbrev s__law_asked : Stmt := topS 13
abbrev n__law_asked : List Str := ["_law_label", "_law_bases", "_law_orders", "e"]
theorem sc__law_asked : FnScope n__law_asked ["_law_label", "_law_bases", "_law_orders"] (defScope s__law_asked) := ⟨rfl, rfl, rfl, by decide +kernel, rfl, by decide +kernel, by decide +kernel⟩
noncomputable def b__law_asked : IS := (iTryAs [("NoOrder", true)] 3 (iRet (iTup (iCons (iC (.str "list")) (iCons (iCall 3 m_class_order (iCons (iVar 0) (iCons (iVar 1) (iCons (iVar 2) iNil)))) iNil)))) (fun C m => (iRet (iTup (iCons (iC (.str "left")) (iCons (iXf 3 m "rows") iNil))))))
noncomputable def m__law_asked : List IV → Sto → Out IV := mDef 4 b__law_asked
theorem ok__law_asked  (L : Loc K mg "_law_asked" s__law_asked ["_law_label", "_law_bases", "_law_orders"]) (tt__law_asked_0_NoOrder : TryT K mg "NoOrder" [("NoOrder", true)]) (xf__law_asked_0_rows : XfT K mg [("NoOrder", true)] "rows") (c_class_order : Cal P w K mg base "class_order" 4 ["label", "bases", "orders"] m_class_order) : Cal P w K mg base "_law_asked" 5 ["_law_label", "_law_bases", "_law_orders"] m__law_asked :=
  cal_def (N := n__law_asked) L sc__law_asked fun f cdv A outer s H E hr tk po => (dss_one (ds_tryN rfl rfl sc__law_asked.nd 3 tt__law_asked_0_NoOrder tk (fun W' pn xe tk' po' => (dss_one (ds_ret (de_tup (da_cons de_str (da_cons (de_callC c_class_order tk' (hr.mono (by decide)) (da_cons (de_var 0) (da_cons (de_var 1) (da_cons (de_var 2) da_nil)))) da_nil)))))) (fun C m a d oe pn hC hz hf => (dss_one (ds_ret (de_tup (da_cons de_str (da_cons (de_xfT xf__law_asked_0_rows hC hz hf) da_nil))))))))
abbrev s__law_passed : Stmt := topS 14
abbrev n__law_passed : List Str := ["_law_s", "_law_orders", "_law_labels", "_law_passed_here", "_law_label"]
theorem sc__law_passed : FnScope n__law_passed ["_law_s", "_law_orders"] (defScope s__law_passed) := ⟨rfl, rfl, rfl, by decide +kernel, rfl, by decide +kernel, by decide +kernel⟩
noncomputable def b__law_passed : IS := (iSeq (iSet 2 (iCa (fListD true) (iCons (iVar 1) iNil))) (iSeq (iSet 3 iDNew) (iSeq (iWhile (iTest (iBin fNe (iVar 2) (iLst false iNil))) (iSeq (iSet 4 (iBM "list" fPopAt (iVar 2) (iCons (iCall 2 m__law_draw (iCons (iVar 0) (iCons (iCa fLen (iCons (iVar 2) iNil)) iNil))) iNil))) (iDPut (iVar 3) (iVar 4) (iCa (fList false) (iCons (iBin fDGet (iVar 1) (iVar 4)) iNil))))) (iRet (iVar 3)))))
noncomputable def m__law_passed : List IV → Sto → Out IV := mDef 5 b__law_passed
theorem wd__law_passed {x0 x1 : IV} {S : Sto} {Q : IV → Sto → Prop} (h : Wp (b__law_passed [some x0, some x1, none, none, none] S) (FlQ Q)) : Wp (m__law_passed [x0, x1] S) Q := wp_def h
theorem ok__law_passed  (L : Loc K mg "_law_passed" s__law_passed ["_law_s", "_law_orders"]) (z_list : mg "list" = none) (z_len : mg "len" = none) (c__law_draw : Cal P w K mg base "_law_draw" 1 ["_law_s", "_law_many"] m__law_draw) : Cal P w K mg base "_law_passed" 2 ["_law_s", "_law_orders"] m__law_passed :=
  cal_def (N := n__law_passed) L sc__law_passed fun f cdv A outer s H E hr tk po => (dss_cons (ds_set 2 sc__law_passed.nd (de_ct (call_listDs rfl) (cs_listD true) z_list (by decide +kernel) (da_cons (de_var 1) da_nil))) (dss_cons (ds_set 3 sc__law_passed.nd de_dnew) (dss_cons (ds_while po (dt_cmp (op_neA hr.units) os_ne (de_var 2) (de_lst false da_nil)) (dss_cons (ds_set 4 sc__law_passed.nd (de_bm PySem.F.plainAttrs_list PySem.F.slot_list_pop PySem.F.type_list_pop mt_popAt ms_popAt (de_var 2) (da_cons (de_callC c__law_draw tk (hr.mono (by decide)) (da_cons (de_var 0) (da_cons (de_cb call_len cs_len z_len (by decide +kernel) (da_cons (de_var 2) da_nil)) da_nil))) da_nil))) (dss_one (ds_dput (hu_of hr.toRoom) (de_var 3) (de_var 4) (de_ct call_list_of (cs_list false) z_list (by decide +kernel) (da_cons (de_dget (hu_of hr.toRoom) (de_var 1) (de_var 4)) da_nil)))))) (dss_one (ds_ret (de_var 3))))))
abbrev s__law_right : Stmt := topS 15
abbrev n__law_right : List Str := ["_law_s", "_law_pool_here", "_law_orders", "_law_k", "_law_label", "_law_bases", "_law_rows", "_law_taken", "_law_left", "_law_due", "_law_passed_here", "_law_asked_here", "_law_found", "_law_turn", "_law_base"]
theorem sc__law_right : FnScope n__law_right ["_law_s"] (defScope s__law_right) := ⟨rfl, rfl, rfl, by decide +kernel, rfl, by decide +kernel, by decide +kernel⟩
noncomputable def b__law_right : IS := (iSeq (iSet 1 (iCall 1 m__law_pool (iCons (iVar 0) iNil))) (iSeq (iSet 2 iDNew) (iSeq (iFor (iSrcR1 (iBin fAdd (iC (.int 1)) (iCall 2 m__law_draw (iCons (iVar 0) (iCons (iC (.int 10)) iNil))))) (iName 3) (iSeq (iSet 4 (iBin fAdd (iBin fAdd (iBin fIx (iVar 1) (iC (.int 11))) (iC (.str "."))) (iBin fIx (iVar 1) (iVar 3)))) (iSeq (iSet 5 (iLst false iNil)) (iSeq (iIf (iTest (iBin fNe0 (iVar 2) iDNew)) (iSet 5 (iLc false (iSrcR1 (iCall 2 m__law_draw (iCons (iVar 0) (iCons (iC (.int 4)) iNil)))) (giN 13) iYes (iCall 2 m__law_of (iCons (iVar 0) (iCons (iCa (fListD false) (iCons (iVar 2) iNil)) iNil))) [13])) iNext) (iSeq (iIf (iTest (iBin fGt (iCall 2 m__law_draw (iCons (iVar 0) (iCons (iC (.int 3)) iNil))) (iC (.int 0)))) (iSet 5 (iLc false (iSrcR1 (iCa fLen (iCons (iVar 5) iNil))) (giN 3) (iTest (iBin fNotIn (iBin fIx (iVar 5) (iVar 3)) (iSl false (iVar 5) iNoPart (iPart (iVar 3))))) (iBin fIx (iVar 5) (iVar 3)) [3])) iNext) (iSeq (iSet 6 (iBin fAdd (iLc false (iSrcL (iVar 5)) (giN 14) iYes (iCa (fList false) (iCons (iBin fDGet (iVar 2) (iVar 14)) iNil)) [14]) (iLst false (iCons (iCa (fList false) (iCons (iVar 5) iNil)) iNil)))) (iSeq (iAsg (iCall 1 m__law_merged (iCons (iVar 6) iNil)) (iGTup 2 (iGCons (iName 7) (iGCons (iName 8) iGNil)))) (iSeq (iSet 9 (iIf (iTest (iBin fEq (iVar 8) (iLst false iNil))) (iTup (iCons (iC (.str "list")) (iCons (iBin fAdd (iLst false (iCons (iVar 4) iNil)) (iVar 7)) iNil))) (iTup (iCons (iC (.str "left")) (iCons (iVar 8) iNil))))) (iSeq (iIf (iTest (iBin fLt (iLenT (iVar 5)) (iCa fLen (iCons (iVar 5) iNil)))) (iSet 9 (iTup (iCons (iC (.str "left")) (iCons (iLst false (iCons (iCa (fList false) (iCons (iVar 5) iNil)) iNil)) iNil)))) iNext) (iSeq (iSet 10 (iCall 2 m__law_passed (iCons (iVar 0) (iCons (iVar 2) iNil)))) (iSeq (iSet 11 (iCa (fList false) (iCons (iVar 5) iNil))) (iSeq (iSet 12 (iCall 3 m__law_asked (iCons (iVar 4) (iCons (iVar 11) (iCons (iVar 10) iNil))))) (iSeq (iIf (iOr (iTest (iBin fNe (iVar 12) (iVar 9))) (iOr (iTest (iBin fNe (iVar 11) (iVar 5))) (iTest (iBin fNeDD (iVar 10) (iVar 2))))) (iRet (iC (.bl false))) iNext) (iSeq (iDrop (iBM "list" fApp (iBin fIx (iVar 12) (iC (.int 1))) (iCons (iC (.str "again")) iNil))) (iSeq (iIf (iTest (iBin fNe (iCall 3 m__law_asked (iCons (iVar 4) (iCons (iVar 5) (iCons (iCall 2 m__law_passed (iCons (iVar 0) (iCons (iVar 2) iNil))) iNil)))) (iVar 9))) (iRet (iC (.bl false))) iNext) (iSeq (iIf (iOr (iTest (iBin fNe (iVar 11) (iVar 5))) (iTest (iBin fNeDD (iVar 10) (iVar 2)))) (iRet (iC (.bl false))) iNext) (iIf (iTest (iBin fEq (iBin fIx (iVar 9) (iC (.int 0))) (iC (.str "list")))) (iDPut (iVar 2) (iVar 4) (iCa (fList false) (iCons (iBin fIx (iVar 9) (iC (.int 1))) iNil))) iNext))))))))))))))))) (iRet (iC (.bl true))))))
noncomputable def m__law_right : List IV → Sto → Out IV := mDef 15 b__law_right
theorem wd__law_right {x0 : IV} {S : Sto} {Q : IV → Sto → Prop} (h : Wp (b__law_right [some x0, none, none, none, none, none, none, none, none, none, none, none, none, none, none] S) (FlQ Q)) : Wp (m__law_right [x0] S) Q := wp_def h
theorem ok__law_right  (L : Loc K mg "_law_right" s__law_right ["_law_s"]) (z_range : mg "range" = none) (z_list : mg "list" = none) (z_len : mg "len" = none) (z_set : mg "set" = none) (c__law_draw : Cal P w K mg base "_law_draw" 1 ["_law_s", "_law_many"] m__law_draw) (c__law_passed : Cal P w K mg base "_law_passed" 2 ["_law_s", "_law_orders"] m__law_passed) (c__law_asked : Cal P w K mg base "_law_asked" 5 ["_law_label", "_law_bases", "_law_orders"] m__law_asked) (c__law_merged : Cal P w K mg base "_law_merged" 1 ["_law_rows"] m__law_merged) (c__law_of : Cal P w K mg base "_law_of" 2 ["_law_s", "_law_some"] m__law_of) (c__law_pool : Cal P w K mg base "_law_pool" 3 ["_law_s"] m__law_pool) : Cal P w K mg base "_law_right" 6 ["_law_s"] m__law_right :=
  cal_def (N := n__law_right) L sc__law_right fun f cdv A outer s H E hr tk po => (dss_cons (ds_set 1 sc__law_right.nd (de_callC c__law_pool tk (hr.mono (by decide)) (da_cons (de_var 0) da_nil))) (dss_cons (ds_set 2 sc__law_right.nd de_dnew) (dss_cons (ds_for po rfl (di_range1 z_range (da_cons (de_bin op_addA os_add de_int (de_callC c__law_draw tk (hr.mono (by decide)) (da_cons (de_var 0) (da_cons de_int da_nil)))) da_nil)) (dg_name 3 sc__law_right.nd) (dss_cons (ds_set 4 sc__law_right.nd (de_bin op_addA os_add (de_bin op_addA os_add (de_ix (de_var 1) de_int) de_str) (de_ix (de_var 1) (de_var 3)))) (dss_cons (ds_set 5 sc__law_right.nd (de_lst false da_nil)) (dss_cons (ds_if (dt_cmp (op_ne0 hr.units) os_ne0 (de_var 2) de_dnew) (dss_one (ds_set 5 sc__law_right.nd (de_lc (own := [("_law_turn", 13)]) false rfl sc__law_right.nd (di_range1 z_range (da_cons (de_callC c__law_draw tk (hr.mono (by decide)) (da_cons (de_var 0) (da_cons de_int da_nil))) da_nil)) (blkOk_by (own := [("_law_turn", 13)]) (N := n__law_right) (sc := defScope s__law_right) (by decide +kernel)) (fun _ _ _ _ _ => pg_name (i := 13) sc__law_right.nd rfl (Or.inl rfl)) (gc_name (by decide)) (fun _ _ _ _ _ => dts_nil) (fun _ _ _ _ _ => (de_callC c__law_of takesW0 (hr.mono (by decide)) (da_cons (de_var 0) (da_cons (de_ct (call_listDs rfl) (cs_listD false) z_list (by decide +kernel) (da_cons (de_var 2) da_nil)) da_nil))))))) dss_nil) (dss_cons (ds_if (dt_cmp op_gt os_B (de_callC c__law_draw tk (hr.mono (by decide)) (da_cons (de_var 0) (da_cons de_int da_nil))) de_int) (dss_one (ds_set 5 sc__law_right.nd (de_lc (own := [("_law_k", 3)]) false rfl sc__law_right.nd (di_range1 z_range (da_cons (de_cb call_len cs_len z_len (by decide +kernel) (da_cons (de_var 5) da_nil)) da_nil)) (blkOk_by (own := [("_law_k", 3)]) (N := n__law_right) (sc := defScope s__law_right) (by decide +kernel)) (fun _ _ _ _ _ => pg_name (i := 3) sc__law_right.nd rfl (Or.inl rfl)) (gc_name (by decide)) (fun _ _ _ _ _ => dts_one (dt_cmp op_notInA os_notIn (de_ix (de_var 5) (de_var 3)) (de_slice false (de_var 5) do_none (do_some (de_var 3))))) (fun _ _ _ _ _ => (de_ix (de_var 5) (de_var 3)))))) dss_nil) (dss_cons (ds_set 6 sc__law_right.nd (de_bin op_addA os_add (de_lc (own := [("_law_base", 14)]) false rfl sc__law_right.nd (di_list (de_var 5)) (blkOk_by (own := [("_law_base", 14)]) (N := n__law_right) (sc := defScope s__law_right) (by decide +kernel)) (fun _ _ _ _ _ => pg_name (i := 14) sc__law_right.nd rfl (Or.inl rfl)) (gc_name (by decide)) (fun _ _ _ _ _ => dts_nil) (fun _ _ _ _ _ => (de_ct call_list_of (cs_list false) z_list (by decide +kernel) (da_cons (de_dget (hu_of hr.toRoom) (de_var 2) (de_var 14)) da_nil)))) (de_lst false (da_cons (de_ct call_list_of (cs_list false) z_list (by decide +kernel) (da_cons (de_var 5) da_nil)) da_nil)))) (dss_cons (ds_asg (de_callC c__law_merged tk (hr.mono (by decide)) (da_cons (de_var 6) da_nil)) (dg_tup (n := 2) rfl (dgs_cons (dg_name 7 sc__law_right.nd) (dgs_cons (dg_name 8 sc__law_right.nd) dgs_nil)))) (dss_cons (ds_set 9 sc__law_right.nd (de_if (dt_cmp (op_eqA hr.units) os_eq (de_var 8) (de_lst false da_nil)) (de_tup (da_cons de_str (da_cons (de_bin op_addA os_add (de_lst false (da_cons (de_var 4) da_nil)) (de_var 7)) da_nil))) (de_tup (da_cons de_str (da_cons (de_var 8) da_nil))))) (dss_cons (ds_if (dt_cmp op_lt os_B (de_lenT rfl (de_var 5) z_len z_set) (de_cb call_len cs_len z_len (by decide +kernel) (da_cons (de_var 5) da_nil))) (dss_one (ds_set 9 sc__law_right.nd (de_tup (da_cons de_str (da_cons (de_lst false (da_cons (de_ct call_list_of (cs_list false) z_list (by decide +kernel) (da_cons (de_var 5) da_nil)) da_nil)) da_nil))))) dss_nil) (dss_cons (ds_set 10 sc__law_right.nd (de_callC c__law_passed tk (hr.mono (by decide)) (da_cons (de_var 0) (da_cons (de_var 2) da_nil)))) (dss_cons (ds_set 11 sc__law_right.nd (de_ct call_list_of (cs_list false) z_list (by decide +kernel) (da_cons (de_var 5) da_nil))) (dss_cons (ds_set 12 sc__law_right.nd (de_callC c__law_asked tk (hr.mono (by decide)) (da_cons (de_var 4) (da_cons (de_var 11) (da_cons (de_var 10) da_nil))))) (dss_cons (ds_if (dt_w (dw_or (dt_cmp (op_neA hr.units) os_ne (de_var 12) (de_var 9)) (dw_or (dt_cmp (op_neA hr.units) os_ne (de_var 11) (de_var 5)) (dw_or1 (dt_cmp (op_neDD hr.units) os_neDD (de_var 10) (de_var 2)))))) (dss_one (ds_ret de_bl)) dss_nil) (dss_cons (ds_expr (de_bm PySem.F.plainAttrs_list PySem.F.slot_list_append PySem.F.type_list_append mt_append ms_app (de_ix (de_var 12) de_int) (da_cons de_str da_nil))) (dss_cons (ds_if (dt_cmp (op_neA hr.units) os_ne (de_callC c__law_asked tk (hr.mono (by decide)) (da_cons (de_var 4) (da_cons (de_var 5) (da_cons (de_callC c__law_passed tk (hr.mono (by decide)) (da_cons (de_var 0) (da_cons (de_var 2) da_nil))) da_nil)))) (de_var 9)) (dss_one (ds_ret de_bl)) dss_nil) (dss_cons (ds_if (dt_w (dw_or (dt_cmp (op_neA hr.units) os_ne (de_var 11) (de_var 5)) (dw_or1 (dt_cmp (op_neDD hr.units) os_neDD (de_var 10) (de_var 2))))) (dss_one (ds_ret de_bl)) dss_nil) (dss_one (ds_if (dt_cmp (op_eqA hr.units) os_eq (de_ix (de_var 9) de_int) de_str) (dss_one (ds_dput (hu_of hr.toRoom) (de_var 2) (de_var 4) (de_ct call_list_of (cs_list false) z_list (by decide +kernel) (da_cons (de_ix (de_var 9) de_int) da_nil)))) dss_nil)))))))))))))))))) (dss_one (ds_ret de_bl)))))
abbrev s_law : Stmt := topS 16
abbrev n_law : List Str := ["_law_script", "_law_place", "_law_s", "_law_turn"]
theorem sc_law : FnScope n_law ["_law_script"] (defScope s_law) := ⟨rfl, rfl, rfl, by decide +kernel, rfl, by decide +kernel, by decide +kernel⟩
noncomputable def b_law : IS := (iSeq (iFor (iSrcR1 (iCa fMax2 (iCons (iC (.int 1)) (iCons (iCa fMin2 (iCons (iC (.int 8)) (iCons (iCa fLen (iCons (iVar 0) iNil)) iNil))) iNil)))) (iName 1) (iSeq (iSet 2 (iCall 2 m__law_source (iCons (iVar 0) (iCons (iVar 1) iNil)))) (iFor (iSrcR1 (iC (.int 3))) (iName 3) (iIf (iNot (iTru (iCall 1 m__law_right (iCons (iVar 2) iNil)))) (iRet (iC (.bl false))) iNext)))) (iRet (iC (.bl true))))
noncomputable def m_law : List IV → Sto → Out IV := mDef 4 b_law
theorem wd_law {x0 : IV} {S : Sto} {Q : IV → Sto → Prop} (h : Wp (b_law [some x0, none, none, none] S) (FlQ Q)) : Wp (m_law [x0] S) Q := wp_def h
theorem ok_law  {f : Addr} {fd : FuncData} (F : Fun K "law" "law" s_law f fd) (z_range : mg "range" = none) (z_len : mg "len" = none) (z_min : mg "min" = none) (z_max : mg "max" = none) (c__law_right : Cal P w K mg base "_law_right" 6 ["_law_s"] m__law_right) (c__law_source : Cal P w K mg base "_law_source" 1 ["_law_script", "_law_at"] m__law_source) : FnG P w K mg base (L2.CX P w) 7 f fd ["_law_script"] (spM K mg 1 m_law) :=
  ok_def (N := n_law) F sc_law fun cdv A outer s H E hr tk po => (dss_cons (ds_for po rfl (di_range1 z_range (da_cons (de_cb (call_max2 rfl) cs_max2 z_max (by decide +kernel) (da_cons de_int (da_cons (de_cb (call_min2 rfl) cs_min2 z_min (by decide +kernel) (da_cons de_int (da_cons (de_cb call_len cs_len z_len (by decide +kernel) (da_cons (de_var 0) da_nil)) da_nil))) da_nil))) da_nil)) (dg_name 1 sc_law.nd) (dss_cons (ds_set 2 sc_law.nd (de_callC c__law_source tk (hr.mono (by decide)) (da_cons (de_var 0) (da_cons (de_var 1) da_nil)))) (dss_one (ds_for po rfl (di_range1 z_range (da_cons de_int da_nil)) (dg_name 3 sc_law.nd) (dss_one (ds_if (dt_not (dt_tru (de_callC c__law_right tk (hr.mono (by decide)) (da_cons (de_var 2) da_nil)))) (dss_one (ds_ret de_bl)) dss_nil)))))) (dss_one (ds_ret de_bl)))
end
end K18
set_option maxHeartbeats 2000000
/-! what class_order tells -/
namespace K18
open PySem PySem.Spec PyProof.Rows L2 Sm Lw
local macro_rules | `(tactic| decreasing_trivial) => `(tactic| first | assumption | with_unfolding_all exact Eq.refl _ | omega | (simp only [szL, len_app, one_len, lits, List.length_append, List.length_cons, List.length_map, List.length_nil, List.length_replicate]; omega) | decide | exact trivial | exact cdiv_mk (by decide) (by decide) | exact cmul_l (by omega) (by omega) | exact cmul_r (by omega) (by omega))
local macro_rules | `(tactic| decreasing_trivial_pre_omega) => `(tactic| with_reducible first
  | refine wp_seq ?_ | (refine wp_appV (by with_unfolding_all exact rfl) (Hd.at (by assumption) 0 (by with_unfolding_all exact rfl)) ?_) | (refine wp_extV (by with_unfolding_all exact rfl) (Hd.at (by assumption) 0 (by with_unfolding_all exact rfl)) ?_) | (refine wp_appV (by with_unfolding_all exact rfl) (Hd.at (by assumption) 1 (by with_unfolding_all exact rfl)) ?_) | (refine wp_extV (by with_unfolding_all exact rfl) (Hd.at (by assumption) 1 (by with_unfolding_all exact rfl)) ?_) | (refine wp_appV (by with_unfolding_all exact rfl) (Hd.at (by assumption) 2 (by with_unfolding_all exact rfl)) ?_) | (refine wp_extV (by with_unfolding_all exact rfl) (Hd.at (by assumption) 2 (by with_unfolding_all exact rfl)) ?_) | (refine wp_appV (by with_unfolding_all exact rfl) (Hd.at (by assumption) 3 (by with_unfolding_all exact rfl)) ?_) | (refine wp_extV (by with_unfolding_all exact rfl) (Hd.at (by assumption) 3 (by with_unfolding_all exact rfl)) ?_) | refine wp_nx ?_ | refine wp_set ?_ | (apply wp_var; with_unfolding_all exact rfl) | refine wp_c ?_ | refine wp_bin ?_ | refine wp_cons ?_ | refine wp_nil ?_ | refine wp_ca ?_ | refine wp_call ?_ | refine wp_bm ?_ | refine wp_drop ?_ | refine wp_ret ?_ | refine wp_rt ?_ | refine wp_un ?_
  | (refine Chk.mk ?_ ?_; decreasing_trivial)
  | refine wp_lst ?_ | refine wp_tup ?_ | refine wp_mkf ?_ | refine wp_mkT ?_ | refine wp_fI ?_ | refine wp_fB ?_ | refine wp_addi ?_ | refine wp_addI ?_ | refine wp_adds ?_ | refine wp_addl ?_
  | refine wp_test ?_ | refine wp_tru ?_ | refine ex_bl ?_ | refine tr_bl ?_ | refine ex_int ?_ | refine wp_not ?_ | refine wp_eqi ?_ | refine wp_nei ?_ | refine wp_eqs ?_ | refine wp_nes ?_ | refine wp_inti ?_ | refine wp_intb ?_ | refine wp_max2 ?_ | refine wp_min2 ?_ | refine wp_isN ?_ | refine wp_notN ?_
  | (refine ⟨_, _, _, 0, _, (by assumption), (by with_unfolding_all exact rfl), ?_⟩) | (refine ⟨_, _, _, 0, _, _, (by assumption), (by with_unfolding_all exact rfl), (by with_unfolding_all exact rfl), ?_⟩) | (refine wp_len (Sm.lenN_a (Hd.at (by assumption) 0 (by with_unfolding_all exact rfl))) ?_) | (refine ⟨_, _, _, 1, _, (by assumption), (by with_unfolding_all exact rfl), ?_⟩) | (refine ⟨_, _, _, 1, _, _, (by assumption), (by with_unfolding_all exact rfl), (by with_unfolding_all exact rfl), ?_⟩) | (refine wp_len (Sm.lenN_a (Hd.at (by assumption) 1 (by with_unfolding_all exact rfl))) ?_) | (refine ⟨_, _, _, 2, _, (by assumption), (by with_unfolding_all exact rfl), ?_⟩) | (refine ⟨_, _, _, 2, _, _, (by assumption), (by with_unfolding_all exact rfl), (by with_unfolding_all exact rfl), ?_⟩) | (refine wp_len (Sm.lenN_a (Hd.at (by assumption) 2 (by with_unfolding_all exact rfl))) ?_) | (refine ⟨_, _, _, 3, _, (by assumption), (by with_unfolding_all exact rfl), ?_⟩) | (refine ⟨_, _, _, 3, _, _, (by assumption), (by with_unfolding_all exact rfl), (by with_unfolding_all exact rfl), ?_⟩) | (refine wp_len (Sm.lenN_a (Hd.at (by assumption) 3 (by with_unfolding_all exact rfl))) ?_) | (refine wp_len (lenN_l _) ?_) | (refine wp_len (lenN_t _) ?_) | (refine wp_len (lenN_w _) ?_)
  | (refine wp_adda (Hd.at (by assumption) 0 (by with_unfolding_all exact rfl)) (by with_unfolding_all exact rfl) ?_) | (refine wp_adda (Hd.at (by assumption) 1 (by with_unfolding_all exact rfl)) (by with_unfolding_all exact rfl) ?_) | (refine wp_adda (Hd.at (by assumption) 2 (by with_unfolding_all exact rfl)) (by with_unfolding_all exact rfl) ?_) | (refine wp_adda (Hd.at (by assumption) 3 (by with_unfolding_all exact rfl)) (by with_unfolding_all exact rfl) ?_) | (refine wp_addb (Hd.at (by assumption) 0 (by with_unfolding_all exact rfl)) ?_) | (refine wp_addb (Hd.at (by assumption) 1 (by with_unfolding_all exact rfl)) ?_) | (refine wp_addb (Hd.at (by assumption) 2 (by with_unfolding_all exact rfl)) ?_) | (refine wp_addb (Hd.at (by assumption) 3 (by with_unfolding_all exact rfl)) ?_)
  | (refine wp_isi (b := true) (by with_unfolding_all exact rfl) (by decide +kernel) ?_) | (refine wp_isi (b := false) (by with_unfolding_all exact rfl) (by decide +kernel) ?_) | (refine wp_xis (b := true) (by decide +kernel) (by with_unfolding_all exact rfl) (by assumption) ?_) | (refine wp_xis (b := false) (by decide +kernel) (by with_unfolding_all exact rfl) (by assumption) ?_) | (refine wp_xf (by with_unfolding_all exact rfl) (by assumption) (by with_unfolding_all exact rfl) ?_)
  | refine wp_next ?_ | refine wp_retN ?_ | refine wp_brk ?_ | refine wp_cnt ?_ | refine wp_bk ?_ | refine wp_ct ?_ | refine fq_rt ?_ | refine fq_nx ?_ | refine lq_nx ?_ | refine lq_ct ?_ | refine lq_bk ?_ | refine lq_rt ?_ | refine wp_name ?_ | refine wp_asg ?_ | refine wp_gtup ?_ | refine wp_gcons ?_ | refine wp_gnil ?_
  | refine wp_sl ?_ | refine wp_noPart ?_ | refine wp_part ?_ | refine wp_sls ?_ | refine wp_sll ?_ | refine wp_notV ?_ | refine wp_andV ?_ | refine wp_orV ?_ | (apply wp_aug; with_unfolding_all exact rfl) | refine wp_par ?_ | refine ex_two ?_ | refine wp_yes ?_ | refine wp_range ?_ | refine wp_range2 ?_ | refine wp_srcL ?_ | refine srcL_l ?_ | refine wp_neg ?_ | exact And.intro (Eq.refl _) (Eq.refl _) | apply te_and | apply te_or | apply te_andV | apply te_orV | (apply wp_ifP; (focus (decreasing_tactic; done))) | refine ex_nx ?_ | refine fun (_ : Sto) (_ : Hd _ _ _ _) => ?_ | refine wp_call0 ?_)
local macro_rules | `(tactic| decreasing_tactic) => `(tactic| repeat decreasing_trivial_pre_omega)
theorem mergeP_nodup : ∀ (n : Nat) (rs : List NR) (acc : List Str), acc.Nodup → (∀ s ∈ acc, ∀ p ∈ rs, s ≠ p.1 ∧ s ∉ p.2) → (mergeP n rs acc).1.Nodup
  | 0, _, _, h, _ => h
  | n + 1, rs, acc, h, d => by
    unfold mergeP
    by_cases hr : rs = []
    · rw [if_pos hr]; exact h
    · rw [if_neg hr]
      cases hf : firstP rs with
      | none => exact h
      | some f =>
        obtain ⟨t, hm, ht⟩ := firstP_mem hf
        have nt : ∀ q ∈ rs, f ∉ q.2 := fun q hq z => by
          have : tailsIn rs f = true := List.any_eq_true.mpr ⟨q, hq, decide_eq_true z⟩
          rw [ht] at this; cases this
        refine mergeP_nodup n (stepR f rs) (acc ++ [f]) (List.nodup_append.mpr ⟨h, by simp, fun a ha b hb => ?_⟩) fun s hs p hp => ?_
        · rw [List.mem_singleton.mp hb]
          exact (d a ha _ hm).1
        · obtain ⟨q, hq, e⟩ := List.mem_map.mp (toN_mem hp)
          unfold cutP at e
          have key : s ∉ q.2 := (List.mem_append.mp hs).elim (fun z => (d s z q hq).2) fun z => List.mem_singleton.mp z ▸ nt q hq
          split at e
          · rw [e] at key
            exact ⟨fun z => key (z ▸ List.mem_cons_self), fun z => key (List.mem_cons_of_mem _ z)⟩
          · rename_i hne
            injection e with e1 e2
            rw [← e1, ← e2]
            refine ⟨?_, key⟩
            exact (List.mem_append.mp hs).elim (fun z => (d s z q hq).1) fun z => List.mem_singleton.mp z ▸ fun z => hne z.symm
theorem mergeR_nodup (rows : List (List Str)) : (mergeR rows).1.Nodup := mergeP_nodup _ _ _ List.nodup_nil fun _ z => by cases z
theorem hff (S : Sto) (l : Nat) (rs : List NR) (h : S[l]? = some (.lst (rs.map enN))) (ok : RsOk rs) : m_first_free [.adr l] S = .ok (ivO (firstP rs)) S := ff_ok h ok
theorem merge_e {S : Sto} {x : IV} {rows : List (List Str)} {k : Option Nat} (hs : fSrcL x S = .ok ⟨rows.map enR, k⟩ S) (st : Src.stay ⟨rows.map enR, k⟩ S) (ok : RowsOk rows) : MergeEnd S (mergeR rows) (m_merge [x] S) := merge_ok (ff := m_first_free) hff hs st ok
theorem merged_e {S : Sto} {rows : List (List Str)} (ok : RowsOk rows) : ∃ (S' : Sto) (t : Nat), m__law_merged [.lst (rows.map enR)] S = .ok (.tup [.adr t, .lst ((mergeR rows).2.map enN)]) S' ∧ S'[t]? = some (.lst ((mergeR rows).1.map IV.str)) ∧ S.length ≤ t ∧ Ext [] S S' := merged_ok ok
/-- some text stands twice -/
def dupB (bs : List Str) : Bool := decide (((SetL.firsts bs bs.length).length : Int) < (bs.length : Int))
theorem wp_dup {Λ : Slots} {S : Sto} {i : Nat} {bs : List Str} (h : Λ[i]? = some (some (.lst (bs.map IV.str)))) (hl : bs.length ≤ 4000) : iTest (iBin fLt (iLenT (iVar i)) (iCa fLen (iCons (iVar i) iNil))) Λ S = .ok (dupB bs) S := by
  have e : ∀ l : List Str, strsOf (l.map IV.str) = some l := fun l => by
    induction l with
    | nil => rfl
    | cons a l ih => show (strsOf (l.map IV.str)).map _ = _; rw [ih]; rfl
  have e1 : iLenT (iVar i) Λ S = .ok (.int ((SetL.firsts bs bs.length).length : Nat)) S := by
    unfold iLenT
    rw [iVar_s h, Out.bind_ok]
    show orBad (some (bs.map IV.str)) _ = _
    rw [orBad_some, e, orBad_some, chk_pos hl]
  rw [iTest_e, iBin_e, e1, Out.bind_ok, iCa_e, iCons_e, iVar_s h]
  simp only [Out.bind_ok, iNil_e, fLen_e, lenN_l, orBad_some, List.length_map]
  rfl
def rowsOf (ord : Str → List Str) (bs : List Str) : List (List Str) := bs.map ord ++ [bs]
def resR (label : Str) (ord : Str → List Str) (bs : List Str) : List Str × List NR :=
  if dupB bs = true then ([], toN [bs]) else if (mergeR (rowsOf ord bs)).2 = [] then (label :: (mergeR (rowsOf ord bs)).1, []) else mergeR (rowsOf ord bs)
theorem dup_ne {bs : List Str} (h : dupB bs = true) : ∃ b r, bs = b :: r := by
  cases bs with
  | nil => exact absurd h (by decide)
  | cons b r => exact ⟨b, r, rfl⟩
section
variable {S : Sto} {d : Nat} {kvs : List (Key × IV)} {label : Str} {bs : List Str} {ord : Str → List Str}
theorem raise_e {Λ : Slots} {ma : IA} {v : IV} {S1 : Sto} (h : ma Λ S = .ok [v] S1) : iRaise "NoOrder" "rows" ma Λ S = .exc "NoOrder" S1.length Λ (S1 ++ [.xd [("rows", v)]]) := by
  unfold iRaise
  rw [h]
  rfl
theorem dget_e {Λ : Slots} {i j : Nat} {b : Str} {v : IV} (h1 : Λ[i]? = some (some (.adr d))) (h2 : Λ[j]? = some (some (.str b))) (hd : S[d]? = some (.dic kvs)) (hv : valI kvs (.inr b) = some v) : iBin fDGet (iVar i) (iVar j) Λ S = .ok v S := by
  rw [iBin_e, iVar_s h1, Out.bind_ok, iVar_s h2, Out.bind_ok]
  show onD S (.adr d) _ = _
  rw [onD_s hd]
  show orBad (valI kvs (.inr b)) _ = _
  rw [hv, orBad_some]
theorem listr_e {Λ : Slots} {m : IE} {r : List Str} (h : m Λ S = .ok (enR r) S) (hl : r.length ≤ 100000) : iCa (fList false) (iCons m iNil) Λ S = .ok (enR r) S := by
  rw [iCa_e, iCons_e, h]
  simp only [Out.bind_ok, iNil_e]
  unfold fList enR
  rw [a1_1, show seqOf S (.lst (r.map IV.str)) = some (r.map IV.str) from rfl, orBad_some, mkL_f, chk_pos (by rw [List.length_map, szL]; omega)]
theorem co_ok (hd : S[d]? = some (.dic kvs)) (hv : ∀ b ∈ bs, valI kvs (.inr b) = some (enR (ord b))) (ok : RowsOk (rowsOf ord bs)) (hb : bs.length ≤ 4000) (hz : (mergeR (rowsOf ord bs)).1.length ≤ 100000) :
    MergeEnd S (resR label ord bs) (m_class_order [.str label, .lst (bs.map IV.str), .adr d] S) := by
  have hΛ : ([some (.str label), some (.lst (bs.map IV.str)), some (.adr d), none, none] : Slots)[1]? = some (some (.lst (bs.map IV.str))) := rfl
  have t := wp_dup (S := S) hΛ hb
  have t2 : iCa (fList false) (iCons (iVar 1) iNil) [some (.str label), some (.lst (bs.map IV.str)), some (.adr d), none, none] S = .ok (enR bs) S := listr_e (iVar_s rfl) (by omega)
  by_cases hD : dupB bs = true
  · rw [hD] at t
    obtain ⟨b, r, rfl⟩ := dup_ne hD
    unfold resR
    rw [if_pos hD]
    refine .inr ⟨by simp [toN], S.length + 1, S ++ [.lst [enR (b :: r)]] ++ [.xd [("rows", .adr S.length)]], S.length, ?_, by simp, by simp [toN, enN], Nat.le_refl _, (Ext.app _).trans (.app _)⟩
    unfold m_class_order
    refine md_ex (L := [some (.str label), some (.lst ((b :: r).map IV.str)), some (.adr d), none, none]) ?_
    show b_class_order [some (.str label), some (.lst ((b :: r).map IV.str)), some (.adr d), none, none] S = _
    unfold b_class_order
    refine sq_ex ((if_tt t).trans ?_)
    have : iCons (iLst true (iCons (iCa (fList false) (iCons (iVar 1) iNil)) iNil)) iNil [some (.str label), some (.lst ((b :: r).map IV.str)), some (.adr d), none, none] S = .ok [.adr S.length] (S ++ [.lst [enR (b :: r)]]) := by
      rw [iCons_e, iLst_e, iCons_e, t2]
      simp only [Out.bind_ok, iNil_e, mkL_t]
      rw [chk_pos (by rw [szL]; show 1 ≤ 16777216; decide)]
      rfl
    have z := raise_e this
    rw [List.length_append] at z
    exact z
  · rw [Bool.not_eq_true] at hD
    have nD : ¬ dupB bs = true := by rw [hD]; exact Bool.false_ne_true
    rw [hD] at t
    have t3 : iLc true (iSrcL (iVar 1)) (giN 4) iYes (iCa (fList false) (iCons (iBin fDGet (iVar 2) (iVar 4)) iNil)) [4] [some (.str label), some (.lst (bs.map IV.str)), some (.adr d), none, none] S = .ok (.adr S.length) (S ++ [.lst ((bs.map ord).map enR)]) := by
      rw [lc_map bs IV.str (fun _ => true) (fun b => enR (ord b)) (k := none) (S1 := S) (by rw [iSrcL_e, iVar_s rfl]; rfl) trivial (fun b hb => ⟨_, rfl, rfl, fun _ => listr_e (dget_e rfl rfl hd (hv b hb)) (ok.r _ (List.mem_append_left _ (List.mem_map_of_mem hb))).1⟩) (by rw [szL]; omega)]
      rw [mkL_t, chk_pos (by rw [List.length_map, szL]; have := List.length_filter_le (fun _ : Str => true) bs; omega), List.filter_eq_self.mpr fun _ _ => rfl, List.map_map]
      rfl
    have g : (S ++ [Cell.lst ((bs.map ord).map enR)])[S.length]? = some (.lst ((bs.map ord).map enR)) := by simp
    have t4 : iCa (fList false) (iCons (iVar 1) iNil) [some (.str label), some (.lst (bs.map IV.str)), some (.adr d), some (.adr S.length), none] (S ++ [.lst ((bs.map ord).map enR)]) = .ok (enR bs) (S ++ [.lst ((bs.map ord).map enR)]) := listr_e (iVar_s rfl) (by omega)
    have t5 := app_e (mo := iVar 3) (mv := iCa (fList false) (iCons (iVar 1) iNil)) (Λ := [some (.str label), some (.lst (bs.map IV.str)), some (.adr d), some (.adr S.length), none]) (iVar_s rfl) t4 g g (by rw [List.length_map, List.length_map]; omega)
    have e5 : (S ++ [Cell.lst ((bs.map ord).map enR)]).set S.length (.lst ((bs.map ord).map enR ++ [enR bs])) = S ++ [.lst ((rowsOf ord bs).map enR)] := by
      rw [Lw.set_last]
      unfold rowsOf
      rw [List.map_append]; rfl
    rw [e5] at t5
    generalize hS1 : S ++ [Cell.lst ((rowsOf ord bs).map enR)] = S1 at t5
    have x1 : Ext [] S S1 := hS1 ▸ .app _
    have g1 : S1[S.length]? = some (.lst ((rowsOf ord bs).map enR)) := by rw [← hS1]; simp
    have src : fSrcL (.adr S.length) S1 = .ok ⟨(rowsOf ord bs).map enR, some S.length⟩ S1 := by unfold fSrcL; simp only [g1]
    have M := merge_e src g1 ok
    have c : iCall 1 m_merge (iCons (iVar 3) iNil) [some (.str label), some (.lst (bs.map IV.str)), some (.adr d), some (.adr S.length), none] S1 = relab [some (.str label), some (.lst (bs.map IV.str)), some (.adr d), some (.adr S.length), none] (m_merge [.adr S.length] S1) := by
      rw [iCall_e, iCons_e, iVar_s rfl]
      simp only [Out.bind_ok, iNil_e]
      rw [chk_pos (by rfl)]
    have lb : iLst false (iCons (iVar 0) iNil) [some (.str label), some (.lst (bs.map IV.str)), some (.adr d), some (.adr S.length), none] S1 = .ok (.lst [.str label]) S1 := by
      rw [iLst_e, iCons_e, iVar_s rfl]
      simp only [Out.bind_ok, iNil_e, mkL_f]
      rw [chk_pos (by rw [szL]; show 1 ≤ 16777216; decide)]
    have go : ∀ o, iRet (iBin fCatC (iLst false (iCons (iVar 0) iNil)) (iCall 1 m_merge (iCons (iVar 3) iNil))) [some (.str label), some (.lst (bs.map IV.str)), some (.adr d), some (.adr S.length), none] S1 = o → b_class_order [some (.str label), some (.lst (bs.map IV.str)), some (.adr d), none, none] S = o := fun o h => by
      unfold b_class_order
      exact (sq_ok (S1 := S) ((if_ff t).trans rfl)).trans ((sq_ok (st_ok t3)).trans ((sq_ok (dr_ok t5)).trans h))
    unfold resR
    rw [if_neg nD]
    generalize mergeR (rowsOf ord bs) = R at M hz
    rcases M with ⟨h1, S', t', e1, e2, e3, e4⟩ | ⟨h1, n, S', l, e1, e2, e3, e4, e5⟩
    · rw [if_pos h1]
      have l1 : lstX S' (.adr t') = some (R.1.map IV.str) := lstX_a e2
      refine .inl ⟨rfl, S' ++ [.lst ((label :: R.1).map IV.str)], S'.length, ?_, by simp, Nat.le_trans x1.1 e4.1, x1.trans (e4.trans (.app _))⟩
      unfold m_class_order
      refine mDef_rt (go _ (rt_ok ?_))
      rw [iBin_e, lb, Out.bind_ok, c, e1]
      simp only [relab_ok, Out.bind_ok]
      unfold fCatC
      show orBad (some [IV.str label]) _ = _
      rw [orBad_some, l1, orBad_some]
      unfold mkC
      rw [chk_pos (by rw [List.length_append, List.length_map, szL]; show 1 + _ ≤ _; omega)]
      rfl
    · rw [if_neg h1]
      refine .inr ⟨h1, n, S', l, ?_, e2, e3, Nat.le_trans x1.1 e4, x1.trans e5⟩
      unfold m_class_order
      refine md_ex (L := [some (.str label), some (.lst (bs.map IV.str)), some (.adr d), some (.adr S.length), none]) (go _ ?_)
      rw [iRet_e, iBin_e, lb, Out.bind_ok, c, e1]
      rfl
theorem asked_ok (hd : S[d]? = some (.dic kvs)) (hv : ∀ b ∈ bs, valI kvs (.inr b) = some (enR (ord b))) (ok : RowsOk (rowsOf ord bs)) (hb : bs.length ≤ 4000) (hz : (mergeR (rowsOf ord bs)).1.length ≤ 100000) :
    ∃ (S' : Sto) (q : Nat), m__law_asked [.str label, .lst (bs.map IV.str), .adr d] S = .ok (.tup [.str (outW (resR label ord bs)), .adr q]) S' ∧ S'[q]? = some (.lst (outL (resR label ord bs))) ∧ S.length ≤ q ∧ Ext [] S S' := by
  have e := co_ok (label := label) hd hv ok hb hz
  generalize resR label ord bs = R at e
  have c : iCall 3 m_class_order (iCons (iVar 0) (iCons (iVar 1) (iCons (iVar 2) iNil))) [some (.str label), some (.lst (bs.map IV.str)), some (.adr d), none] S = relab [some (.str label), some (.lst (bs.map IV.str)), some (.adr d), none] (m_class_order [.str label, .lst (bs.map IV.str), .adr d] S) := by
    rw [iCall_e, iCons_e, iVar_s rfl]
    simp only [Out.bind_ok, iCons_e, iNil_e]
    rw [iVar_s (x := .lst (bs.map IV.str)) rfl]
    simp only [Out.bind_ok]
    rw [iVar_s (x := .adr d) rfl]
    simp only [Out.bind_ok]
    rw [chk_pos (by rfl)]
  rcases e with ⟨h1, S', t, e1, e2, e3, e4⟩ | ⟨h1, n, S', l, e1, e2, e3, e4, e5⟩
  · refine ⟨S', t, mDef_rt ?_, by unfold outL; rw [if_pos h1]; exact e2, e3, e4⟩
    show b__law_asked [some (.str label), some (.lst (bs.map IV.str)), some (.adr d), none] S = _
    unfold b__law_asked iTryAs
    have : iRet (iTup (iCons (iC (.str "list")) (iCons (iCall 3 m_class_order (iCons (iVar 0) (iCons (iVar 1) (iCons (iVar 2) iNil)))) iNil))) [some (.str label), some (.lst (bs.map IV.str)), some (.adr d), none] S = .ok (.rt (.tup [.str "list", .adr t])) S' := by
      refine rt_ok ?_
      rw [iTup_e, iCons_e, iC_e, Out.bind_ok, iCons_e, c, e1]
      simp only [relab_ok, Out.bind_ok, iNil_e]
      exact tup2 _ _
    rw [this]
    unfold outW
    rw [if_pos h1]
  · refine ⟨S', l, mDef_rt ?_, by unfold outL; rw [if_neg h1]; exact e3, e4, e5⟩
    show b__law_asked [some (.str label), some (.lst (bs.map IV.str)), some (.adr d), none] S = _
    unfold b__law_asked iTryAs
    have : iRet (iTup (iCons (iC (.str "list")) (iCons (iCall 3 m_class_order (iCons (iVar 0) (iCons (iVar 1) (iCons (iVar 2) iNil)))) iNil))) [some (.str label), some (.lst (bs.map IV.str)), some (.adr d), none] S = .exc "NoOrder" n [some (.str label), some (.lst (bs.map IV.str)), some (.adr d), none] S' := by
      rw [iRet_e, iTup_e, iCons_e, iC_e, Out.bind_ok, iCons_e, c, e1]
      rfl
    rw [this]
    have x : iXf 3 n "rows" [some (.str label), some (.lst (bs.map IV.str)), some (.adr d), none] S' = .ok (.adr l) S' := by
      unfold iXf
      simp only [e2]
      rfl
    have r : iRet (iTup (iCons (iC (.str "left")) (iCons (iXf 3 n "rows") iNil))) [some (.str label), some (.lst (bs.map IV.str)), some (.adr d), none] S' = .ok (.rt (.tup [.str "left", .adr l])) S' := by
      refine rt_ok ?_
      rw [iTup_e, iCons_e, iC_e, Out.bind_ok, iCons_e, x]
      simp only [Out.bind_ok, iNil_e]
      exact tup2 _ _
    show Out.bind (noX (iRet (iTup (iCons (iC (.str "left")) (iCons (iXf 3 n "rows") iNil))) [some (.str label), some (.lst (bs.map IV.str)), some (.adr d), none] S')) _ = _
    rw [r]
    unfold outW
    rw [if_neg h1]
    rfl
end
end K18
set_option maxHeartbeats 2000000
/-! draws, the pool, the dict that is passed -/
namespace K18
open PySem PySem.Spec PyProof.Rows L2 Sm Lw
local macro_rules | `(tactic| decreasing_trivial) => `(tactic| first | assumption | with_unfolding_all exact Eq.refl _ | omega | (simp only [szL, len_app, one_len, lits, List.length_append, List.length_cons, List.length_map, List.length_nil, List.length_replicate]; omega) | decide | exact trivial | exact cdiv_mk (by decide) (by decide) | exact cmul_l (by omega) (by omega) | exact cmul_r (by omega) (by omega))
local macro_rules | `(tactic| decreasing_trivial_pre_omega) => `(tactic| with_reducible first
  | refine wp_seq ?_ | (refine wp_appV (by with_unfolding_all exact rfl) (Hd.at (by assumption) 0 (by with_unfolding_all exact rfl)) ?_) | (refine wp_extV (by with_unfolding_all exact rfl) (Hd.at (by assumption) 0 (by with_unfolding_all exact rfl)) ?_) | (refine wp_appV (by with_unfolding_all exact rfl) (Hd.at (by assumption) 1 (by with_unfolding_all exact rfl)) ?_) | (refine wp_extV (by with_unfolding_all exact rfl) (Hd.at (by assumption) 1 (by with_unfolding_all exact rfl)) ?_) | (refine wp_appV (by with_unfolding_all exact rfl) (Hd.at (by assumption) 2 (by with_unfolding_all exact rfl)) ?_) | (refine wp_extV (by with_unfolding_all exact rfl) (Hd.at (by assumption) 2 (by with_unfolding_all exact rfl)) ?_) | (refine wp_appV (by with_unfolding_all exact rfl) (Hd.at (by assumption) 3 (by with_unfolding_all exact rfl)) ?_) | (refine wp_extV (by with_unfolding_all exact rfl) (Hd.at (by assumption) 3 (by with_unfolding_all exact rfl)) ?_) | refine wp_nx ?_ | refine wp_set ?_ | (apply wp_var; with_unfolding_all exact rfl) | refine wp_c ?_ | refine wp_bin ?_ | refine wp_cons ?_ | refine wp_nil ?_ | refine wp_ca ?_ | refine wp_call ?_ | refine wp_bm ?_ | refine wp_drop ?_ | refine wp_ret ?_ | refine wp_rt ?_ | refine wp_un ?_
  | (refine Chk.mk ?_ ?_; decreasing_trivial)
  | refine wp_lst ?_ | refine wp_tup ?_ | refine wp_mkf ?_ | refine wp_mkT ?_ | refine wp_fI ?_ | refine wp_fB ?_ | refine wp_addi ?_ | refine wp_addI ?_ | refine wp_adds ?_ | refine wp_addl ?_
  | refine wp_test ?_ | refine wp_tru ?_ | refine ex_bl ?_ | refine tr_bl ?_ | refine ex_int ?_ | refine wp_not ?_ | refine wp_eqi ?_ | refine wp_nei ?_ | refine wp_eqs ?_ | refine wp_nes ?_ | refine wp_inti ?_ | refine wp_intb ?_ | refine wp_max2 ?_ | refine wp_min2 ?_ | refine wp_isN ?_ | refine wp_notN ?_
  | (refine ⟨_, _, _, 0, _, (by assumption), (by with_unfolding_all exact rfl), ?_⟩) | (refine ⟨_, _, _, 0, _, _, (by assumption), (by with_unfolding_all exact rfl), (by with_unfolding_all exact rfl), ?_⟩) | (refine wp_len (Sm.lenN_a (Hd.at (by assumption) 0 (by with_unfolding_all exact rfl))) ?_) | (refine ⟨_, _, _, 1, _, (by assumption), (by with_unfolding_all exact rfl), ?_⟩) | (refine ⟨_, _, _, 1, _, _, (by assumption), (by with_unfolding_all exact rfl), (by with_unfolding_all exact rfl), ?_⟩) | (refine wp_len (Sm.lenN_a (Hd.at (by assumption) 1 (by with_unfolding_all exact rfl))) ?_) | (refine ⟨_, _, _, 2, _, (by assumption), (by with_unfolding_all exact rfl), ?_⟩) | (refine ⟨_, _, _, 2, _, _, (by assumption), (by with_unfolding_all exact rfl), (by with_unfolding_all exact rfl), ?_⟩) | (refine wp_len (Sm.lenN_a (Hd.at (by assumption) 2 (by with_unfolding_all exact rfl))) ?_) | (refine ⟨_, _, _, 3, _, (by assumption), (by with_unfolding_all exact rfl), ?_⟩) | (refine ⟨_, _, _, 3, _, _, (by assumption), (by with_unfolding_all exact rfl), (by with_unfolding_all exact rfl), ?_⟩) | (refine wp_len (Sm.lenN_a (Hd.at (by assumption) 3 (by with_unfolding_all exact rfl))) ?_) | (refine wp_len (lenN_l _) ?_) | (refine wp_len (lenN_t _) ?_) | (refine wp_len (lenN_w _) ?_)
  | (refine wp_adda (Hd.at (by assumption) 0 (by with_unfolding_all exact rfl)) (by with_unfolding_all exact rfl) ?_) | (refine wp_adda (Hd.at (by assumption) 1 (by with_unfolding_all exact rfl)) (by with_unfolding_all exact rfl) ?_) | (refine wp_adda (Hd.at (by assumption) 2 (by with_unfolding_all exact rfl)) (by with_unfolding_all exact rfl) ?_) | (refine wp_adda (Hd.at (by assumption) 3 (by with_unfolding_all exact rfl)) (by with_unfolding_all exact rfl) ?_) | (refine wp_addb (Hd.at (by assumption) 0 (by with_unfolding_all exact rfl)) ?_) | (refine wp_addb (Hd.at (by assumption) 1 (by with_unfolding_all exact rfl)) ?_) | (refine wp_addb (Hd.at (by assumption) 2 (by with_unfolding_all exact rfl)) ?_) | (refine wp_addb (Hd.at (by assumption) 3 (by with_unfolding_all exact rfl)) ?_)
  | (refine wp_isi (b := true) (by with_unfolding_all exact rfl) (by decide +kernel) ?_) | (refine wp_isi (b := false) (by with_unfolding_all exact rfl) (by decide +kernel) ?_) | (refine wp_xis (b := true) (by decide +kernel) (by with_unfolding_all exact rfl) (by assumption) ?_) | (refine wp_xis (b := false) (by decide +kernel) (by with_unfolding_all exact rfl) (by assumption) ?_) | (refine wp_xf (by with_unfolding_all exact rfl) (by assumption) (by with_unfolding_all exact rfl) ?_)
  | refine wp_next ?_ | refine wp_retN ?_ | refine wp_brk ?_ | refine wp_cnt ?_ | refine wp_bk ?_ | refine wp_ct ?_ | refine fq_rt ?_ | refine fq_nx ?_ | refine lq_nx ?_ | refine lq_ct ?_ | refine lq_bk ?_ | refine lq_rt ?_ | refine wp_name ?_ | refine wp_asg ?_ | refine wp_gtup ?_ | refine wp_gcons ?_ | refine wp_gnil ?_
  | refine wp_sl ?_ | refine wp_noPart ?_ | refine wp_part ?_ | refine wp_sls ?_ | refine wp_sll ?_ | refine wp_notV ?_ | refine wp_andV ?_ | refine wp_orV ?_ | (apply wp_aug; with_unfolding_all exact rfl) | refine wp_par ?_ | refine ex_two ?_ | refine wp_yes ?_ | refine wp_range ?_ | refine wp_range2 ?_ | refine wp_srcL ?_ | refine srcL_l ?_ | refine wp_neg ?_ | exact And.intro (Eq.refl _) (Eq.refl _) | apply te_and | apply te_or | apply te_andV | apply te_orV | (apply wp_ifP; (focus (decreasing_tactic; done))) | refine ex_nx ?_ | refine fun (_ : Sto) (_ : Hd _ _ _ _) => ?_ | refine wp_call0 ?_)
local macro_rules | `(tactic| decreasing_tactic) => `(tactic| repeat decreasing_trivial_pre_omega)
theorem dcK : Lw.DrC 41077 28001 2147483549 256 2147399873 := ⟨by decide, by decide, by decide, by decide, by decide, by decide⟩
theorem draw_ok {S : Sto} {n K : Nat} {m : Int} (h : Dr S n K) (hK : K ≤ 1000000) (h0 : 0 < m) (h1 : m < 1073741824) :
    ∃ r S', m__law_draw [.adr n, .int m] S = .ok (.int r) S' ∧ 0 ≤ r ∧ r < m ∧ Dr S' n (K + 1) ∧ Ext [n] S S' := Lw.draw_ok (C := 1801) dcK h hK h0 h1
theorem draw_e {S : Sto} {n K : Nat} {m : Int} {Λ : Slots} (h : Dr S n K) (hK : K ≤ 1000000) (h0 : 0 < m) (h1 : m < 1073741824) (hn : Λ[0]? = some (some (.adr n))) :
    ∃ r S', iCall 2 m__law_draw (iCons (iVar 0) (iCons (iC (.int m)) iNil)) Λ S = .ok (.int r) S' ∧ 0 ≤ r ∧ r < m ∧ Dr S' n (K + 1) ∧ Ext [n] S S' := by
  obtain ⟨r, S', e, a, b, c, d⟩ := draw_ok h hK h0 h1
  refine ⟨r, S', ?_, a, b, c, d⟩
  rw [iCall_e, iCons_e, iVar_s hn]
  simp only [Out.bind_ok, iCons_e, iC_e, iNil_e]
  rw [chk_pos (by rfl), e]
  rfl
theorem of_str {S : Sto} {n K : Nat} (h : Dr S n K) (hK : K ≤ 1000000) : ∃ c S', m__law_of [.adr n, .str alpha] S = .ok (.str ⟨#[c]⟩) S' ∧ c ∈ sg alpha ∧ Dr S' n (K + 1) ∧ Ext [n] S S' := by
  obtain ⟨r, S', e, a, b, c, d⟩ := draw_ok (m := 26) h hK (by omega) (by omega)
  obtain ⟨v, hv, hm⟩ := atI_sg (z := alpha) a (by rw [alpha_len]; exact b)
  have z : (26 : Nat) ≤ sizeLine := by rw [szL]; decide
  refine ⟨v, S', mDef_rt ?_, hm, c, d⟩
  show b__law_of [some (.adr n), some (.str alpha)] S = _
  unfold b__law_of
  simp [iVar_s, chk_pos, z, alpha_len, e, hv]
theorem pool_ok {S : Sto} {n K : Nat} (h : Dr S n K) (hK : K ≤ 800000) :
    ∃ ps S', m__law_pool [.adr n] S = .ok (.adr S.length) S' ∧ S'[S.length]? = some (.lst (ps.map IV.str)) ∧ ps.length = 12 ∧ Pool ps keptL ∧ Dr S' n (K + 72) ∧ Ext [n] S S' :=
  Lw.pool_ok (n := n) (draw := iCall 2 m__law_draw (iCons (iVar 0) (iCons (iC (.int 5)) iNil))) (elt := iCall 2 m__law_of (iCons (iVar 0) (iCons (iVar 2) iNil)))
    (fun Λ S K h0 hd hk => draw_e hd hk (by decide) (by decide) h0)
    (fun Λ S K h0 h2 hd hk => by
      obtain ⟨c, S', e, a, b, x⟩ := of_str hd hk
      refine ⟨c, S', ?_, a, b, x⟩
      rw [iCall_e, iCons_e, iVar_s h0]
      simp only [Out.bind_ok, iCons_e, iNil_e]
      rw [iVar_s h2]
      simp only [Out.bind_ok]
      rw [chk_pos (by rfl), e]
      rfl) h hK
section
variable {n K : Nat} {fs : List (Nat × Cell)} {S : Sto} {Q : IV → Sto → Prop}
theorem wp_drawK {m : Int} (h : Hd n K fs S) (hK : K ≤ 1000000) (h0 : 0 < m) (h1 : m < 1073741824) (q : ∀ (r : Int) (S' : Sto), Hd n (K + 1) fs S' → 0 ≤ r → r < m → Q (.int r) S') : Wp (m__law_draw [.adr n, .int m] S) Q := Lw.wp_drawB (C := 1801) dcK h hK h0 h1 q
theorem wp_sourceK {ns : List Int} {i : Nat} (q : ∀ (n : Nat) (S' : Sto), Hd n 0 [] S' → Q (.adr n) S') : Wp (m__law_source [.wls (ns.map IV.int), .int i] S) Q := Lw.wp_sourceB (P := 2147483587) (cc := 6007) (D := 1801) (by decide) ⟨by decide, by decide⟩ q
theorem Hd_more {S' : Sto} {M l : Nat} {c : Cell} (h : Hd n M fs S') (h0 : Hd n K fs S) (g : S'[l]? = some c) (hl : S.length ≤ l) : Hd n M ((l, c) :: fs) S' := by
  have hn := h0.dr.lt
  refine ⟨h.dr, fun p hp => ?_, ?_⟩
  · rcases List.mem_cons.mp hp with rfl | hp
    · exact g
    · exact h.get p hp
  · rw [List.map_cons]
    refine List.nodup_cons.mpr ⟨fun z => ?_, List.nodup_cons.mpr ⟨fun z => ?_, (List.nodup_cons.mp h.nd).2⟩⟩
    · rcases List.mem_cons.mp z with z | z
      · have z : n = l := z
        omega
      · exact (List.nodup_cons.mp h.nd).1 z
    · obtain ⟨p, hp, e⟩ := List.mem_map.mp z
      have := h0.lt hp
      have e : p.1 = l := e
      omega
theorem wp_pool (h : Hd n K fs S) (hK : K ≤ 800000) (q : ∀ (a : Nat) (ps : List Str) (S' : Sto), ps.length = 12 → Pool ps keptL → Hd n (K + 72) ((a, .lst (ps.map IV.str)) :: fs) S' → Q (.adr a) S') : Wp (m__law_pool [.adr n] S) Q := by
  obtain ⟨ps, S', e, g, h1, h2, h3, h4⟩ := pool_ok h.dr hK
  exact ⟨_, S', e, q _ ps S' h1 h2 (Hd_more (h.extn h4 h3) h g (Nat.le_refl _))⟩
theorem ixN_nat {r m : Nat} (h : r < m) : ixN m (r : Nat) = some r := by
  unfold ixN
  rw [if_pos (by omega), if_pos (by omega)]
  rfl
theorem wp_popAt {l r : Nat} {xs : List IV} {v : IV} (h : Hd n K fs S) (i : Nat) (e : fs[i]? = some (l, .lst xs)) (hr : xs[r]? = some v) (hl : xs.length ≤ 1000000) (q : ∀ S', Hd n K (fs.set i (l, .lst (xs.eraseIdx r))) S' → Q v S') : Wp (fPopAt (.adr l) [.int (r : Nat)] S) Q := by
  have hlt := (List.getElem?_eq_some_iff.mp hr).1
  show Wp (onL S (.adr l) fun n ys => chk (ys.length < 2 ^ 62) (orBad (ixN ys.length (r : Nat)) fun j => orBad (ys[j]?) fun v => .ok v (S.set n (.lst (ys.eraseIdx j))))) Q
  rw [onL_s (h.at i e)]
  refine wp_chk ⟨by omega, wp_orBad (ixN_nat hlt) (wp_orBad hr (.ok (q _ (h.put i e _))))⟩
abbrev Os := List (Str × List Str)
def kvD (os : Os) : List (Key × IV) := os.map fun p => ((.inr p.1 : Key), enR p.2)
theorem kvD_keys (os : Os) : (kvD os).map (·.1) = os.map fun p => (.inr p.1 : Key) := by
  unfold kvD
  rw [List.map_map]; rfl
theorem valD {os : Os} (nd : (os.map (·.1)).Nodup) {p : Str × List Str} (h : p ∈ os) : valI (kvD os) (.inr p.1) = some (enR p.2) := by
  obtain ⟨v, e, hm⟩ := GP.valI_some (kvs := kvD os) (k := .inr p.1) (by rw [kvD_keys]; exact List.mem_map_of_mem (f := fun p : Str × List Str => (Sum.inr p.1 : Key)) h)
  rw [e]
  obtain ⟨p', hp', e'⟩ := List.mem_map.mp hm
  have e1 : (Sum.inr p'.1 : Key) = .inr p.1 := congrArg Prod.fst e'
  have e2 : enR p'.2 = v := congrArg Prod.snd e'
  have e1 : p'.1 = p.1 := by injection e1
  have : p' = p := by
    clear e hm e2 e'
    induction os with
    | nil => cases h
    | cons o os ih =>
      rw [List.map_cons] at nd
      obtain ⟨n1, n2⟩ := List.nodup_cons.mp nd
      rcases List.mem_cons.mp h with g | g
      · rcases List.mem_cons.mp hp' with k | k
        · rw [g, k]
        · exact absurd (List.mem_map.mpr ⟨p', k, by rw [e1, g]⟩) n1
      · rcases List.mem_cons.mp hp' with k | k
        · exact absurd (List.mem_map.mpr ⟨p, g, by rw [← e1, k]⟩) n1
        · exact ih n2 g k
  rw [← e2, this]
theorem keyD (os : Os) : (kvD os).map (fun kv => keyV kv.1) = (os.map (·.1)).map IV.str := by
  unfold kvD
  rw [List.map_map, List.map_map]; rfl
theorem eqB_cellE {l : Nat} {ss : List Str} (g : S[l]? = some (.lst (ss.map IV.str))) (ok : ∀ s ∈ ss, okS s) : eqB S (.adr l) (.lst []) = some (decide (ss = [])) := by
  have v1 : view 8 S (.adr l) = some (.list (ss.map PyData.str)) := by
    unfold view
    simp only [g]
    rw [viewL_strs fun s => rfl]
    rfl
  have v2 : view 8 S (.lst []) = some (.list (([] : List Str).map PyData.str)) := view_strs (S := S) 6 []
  have e : eqB S (.adr l) (.lst []) = (match view 8 S (.adr l), view 8 S (.lst []) with
    | some d, some e => if SeqAt.shaped d = true ∧ SeqAt.shaped e = true then some (PyData.eqv d e) else none
    | _, _ => none) := rfl
  rw [e, v1, v2]
  show (if SeqAt.shaped (.list (ss.map PyData.str)) = true ∧ SeqAt.shaped (.list (([] : List Str).map PyData.str)) = true then some (PyData.eqv (.list (ss.map PyData.str)) (.list (([] : List Str).map PyData.str))) else none) = _
  rw [if_pos ⟨shaped_strs ok, shaped_strs (zs := []) fun _ z => by cases z⟩, PyData.eqv, eqv_strs]
/-- what the dict keeps to -/
structure OsOk (os : Os) : Prop where
  nd : (os.map (·.1)).Nodup
  n : os.length ≤ 10
  k : ∀ p ∈ os, okS p.1 ∧ p.1.length ≤ 11
  v : ∀ p ∈ os, p.2.length ≤ 10 ∧ ∀ s ∈ p.2, okS s ∧ s.length ≤ 11
noncomputable def paB : IS := (iSeq (iSet 4 (iBM "list" fPopAt (iVar 2) (iCons (iCall 2 m__law_draw (iCons (iVar 0) (iCons (iCa fLen (iCons (iVar 2) iNil)) iNil))) iNil))) (iDPut (iVar 3) (iVar 4) (iCa (fList false) (iCons (iBin fDGet (iVar 1) (iVar 4)) iNil))))
def paL (n d l e : Nat) (x : Option IV) : Slots := [some (.adr n), some (.adr d), some (.adr l), some (.adr e), x]
/-- what the loop keeps -/
structure PaI (n K d l e : Nat) (os : Os) (fs : List (Nat × Cell)) (m : Nat) (done rem : Os) (S : Sto) : Prop where
  m : m = rem.length
  p : (done ++ rem).Perm os
  h : Hd n (K + done.length) ((e, .dic (kvD done)) :: (l, .lst ((rem.map (·.1)).map IV.str)) :: fs) S
theorem putD {done : Os} {p : Str × List Str} (h : p.1 ∉ done.map (·.1)) : putK' (kvD done) (.inr p.1) (enR p.2) = kvD (done ++ [p]) := by
  unfold putK'
  rw [if_neg ?_]
  · unfold kvD
    rw [List.map_append]; rfl
  · intro z
    obtain ⟨kv, hk, e⟩ := List.any_eq_true.mp z
    have e := of_decide_eq_true e
    obtain ⟨q, hq, rfl⟩ := List.mem_map.mp hk
    injection e with e
    exact h (e ▸ List.mem_map_of_mem hq)
theorem map_erase {α β : Type} (f : α → β) : ∀ (l : List α) (k : Nat), (l.eraseIdx k).map f = (l.map f).eraseIdx k
  | [], _ => rfl
  | _ :: _, 0 => rfl
  | a :: l, k + 1 => by
    show f a :: (l.eraseIdx k).map f = f a :: (l.map f).eraseIdx k
    rw [map_erase f l k]
theorem pa_turn {d l e : Nat} {os done rem : Os} {m : Nat} {x : Option IV} (ok : OsOk os) (hd : (d, .dic (kvD os)) ∈ fs) (hK : K ≤ 900000) (I : PaI n K d l e os fs m done rem S) (hne : rem ≠ []) :
    ∃ (done' rem' : Os) (x' : Option IV) (S' : Sto), paB (paL n d l e x) S = .ok (.nx (paL n d l e x')) S' ∧ rem'.length < rem.length ∧ PaI n K d l e os fs rem'.length done' rem' S' := by
  have hp := I.p.length_eq
  rw [List.length_append] at hp
  have hn := ok.n
  have hpos : 0 < rem.length := List.length_pos_iff.mpr hne
  have G : Wp (paB (paL n d l e x) S) fun fl S' => ∃ (done' rem' : Os) (x' : Option IV), fl = .nx (paL n d l e x') ∧ rem'.length < rem.length ∧ PaI n K d l e os fs rem'.length done' rem' S' := by
    unfold paB
    refine wp_seq (wp_set (wp_bm (wp_var rfl ⟨cty_a (I.h.at 1 rfl), wp_cons (wp_call (wp_cons (wp_var rfl (wp_cons (wp_ca (wp_cons (wp_var rfl (wp_nil (wp_len (lenN_a (I.h.at 1 rfl)) (wp_nil ⟨rfl, ?_⟩))))))))))⟩)))
    rw [List.length_map, List.length_map]
    refine wp_drawK I.h (by omega) (by omega) (by omega) fun r S h r0 r1 => wp_nil ?_
    obtain ⟨k, rfl⟩ := Int.eq_ofNat_of_zero_le r0
    have hk : k < rem.length := by omega
    have hr : ((rem.map (·.1)).map IV.str)[k]? = some (.str (rem[k]).1) := by simp [hk]
    refine wp_popAt h 1 rfl hr (by rw [List.length_map, List.length_map]; omega) fun S h => wp_nx ?_
    have hmem : rem[k] ∈ os := I.p.subset (List.mem_append_right _ (List.getElem_mem hk))
    have vd := valD ok.nd hmem
    have vl := (ok.v _ hmem).1
    have pp : (rem[k] :: rem.eraseIdx k).Perm rem := erase_perm rem k _ (List.getElem?_eq_getElem hk)
    have nd2 : ((done ++ rem).map (·.1)).Nodup := (I.p.map _).nodup_iff.mpr ok.nd
    have hnew : (rem[k]).1 ∉ done.map (·.1) := fun z => by
      rw [List.map_append] at nd2
      exact (List.nodup_append.mp nd2).2.2 _ z _ (List.mem_map_of_mem (List.getElem_mem hk)) rfl
    have hd' := h.mem (show (d, .dic (kvD os)) ∈ _ from List.mem_cons_of_mem _ (List.mem_cons_of_mem _ hd))
    refine wp_dput (wp_ca (wp_cons (wp_bin (wp_var (by with_unfolding_all exact rfl) (wp_var (by with_unfolding_all exact rfl) (wp_dget hd' vd (wp_nil ?_)))))))
    refine Wp.of (a := enR (rem[k]).2) (S := S) ?_ (wp_var (by with_unfolding_all exact rfl) (wp_var (by with_unfolding_all exact rfl) ⟨_, _, _, 0, _, _, _, rfl, rfl, h, rfl, ?_, fun S h => ?_⟩))
    · unfold fList enR
      rw [a1_1, show seqOf S (.lst ((rem[k]).2.map IV.str)) = some ((rem[k]).2.map IV.str) from rfl, orBad_some, mkL_f, chk_pos (by rw [List.length_map, szL]; omega)]
    · show (kvD done).length < sizeLine
      unfold kvD
      rw [List.length_map, szL]; omega
    · refine ⟨done ++ [rem[k]], rem.eraseIdx k, _, rfl, by rw [List.length_eraseIdx_of_lt hk]; omega, rfl, ?_, ?_⟩
      · rw [List.append_assoc]
        exact ((pp.append_left done)).trans I.p
      · rw [putD hnew] at h
        rw [List.length_append, ← Nat.add_assoc, map_erase, map_erase]
        exact h
  obtain ⟨fl, S', e1, done', rem', x', rfl, h1, h2⟩ := G
  exact ⟨done', rem', x', S', e1, h1, h2⟩
theorem wp_passed {d : Nat} {os : Os} (ok : OsOk os) (h : Hd n K fs S) (hd : (d, .dic (kvD os)) ∈ fs) (hK : K ≤ 800000) (q : ∀ (e : Nat) (os' : Os) (S' : Sto), os'.Perm os → Hd n (K + 10) ((e, .dic (kvD os')) :: fs) S' → Q (.adr e) S') : Wp (m__law_passed [.adr n, .adr d] S) Q := by
  have hn := ok.n
  have lk : ((os.map (·.1)).map IV.str).length ≤ sizeLine := by rw [List.length_map, List.length_map, szL]; omega
  refine wd__law_passed ?_
  unfold b__law_passed
  refine wp_seq (wp_set (wp_ca (wp_cons (wp_var rfl (wp_nil ?_)))))
  show Wp (onD S (.adr d) fun _ kvs => mkL true (kvs.map fun kv => keyV kv.1) S) _
  rw [onD_s (h.mem hd), keyD]
  refine wp_mkt h ⟨lk, fun l S h => wp_nx (wp_seq (wp_set (wp_dnew h fun e S h => wp_nx ?_)))⟩
  have hw := while_gen (c := iTest (iBin fNe (iVar 2) (iLst false iNil))) (b := paB) (fun m Λ S => ∃ (done rem : Os) (x : Option IV), Λ = paL n d l e x ∧ PaI n K d l e os fs m done rem S)
    (fun o => ∃ (x : Option IV) (S' : Sto) (os' : Os), o = .ok (.nx (paL n d l e x)) S' ∧ os'.Perm os ∧ Hd n (K + 10) ((e, .dic (kvD os')) :: fs) S') (by rintro ⟨_, _, _, z, _⟩; cases z)
    (fun m Λ S ⟨done, rem, x, e1, I⟩ => by
      subst e1
      have hp := I.p.length_eq
      rw [List.length_append] at hp
      have okk : ∀ s ∈ rem.map (·.1), okS s := fun s hs => by
        obtain ⟨p, hp, rfl⟩ := List.mem_map.mp hs
        exact (ok.k p (I.p.subset (List.mem_append_right _ hp))).1
      have t : iTest (iBin fNe (iVar 2) (iLst false iNil)) (paL n d l e x) S = .ok (!decide (rem.map (·.1) = [])) S := by
        rw [iTest_e, iBin_e, iVar_s rfl, Out.bind_ok, empty_l, Out.bind_ok, fNe_e, eqB_cellE (I.h.at 1 rfl) okk]
        rfl
      by_cases hr : rem = []
      · subst hr
        refine .inl ⟨S, t, x, S, done, rfl, by simpa using I.p, (show Hd n (K + 10) ((e, .dic (kvD done)) :: fs) S from (I.h.snd).up (by simp at hp; omega))⟩
      · rw [decide_eq_false (by simpa using hr)] at t
        obtain ⟨done', rem', x', S', h1, h2, h3⟩ := pa_turn ok hd (by omega) I hr
        exact .inr ⟨S, t, .inl ⟨rem'.length, _, S', by have := I.m; omega, h1, done', rem', x', rfl, h3⟩⟩)
    os.length _ S ⟨[], os, none, rfl, rfl, by simp, h⟩
  obtain ⟨x, S', os', e1, e2, e3⟩ := hw
  exact wp_seq (.of e1 (wp_nx (wp_ret (wp_var rfl (fq_rt (q e os' S' e2 e3))))))
end
end K18
set_option maxHeartbeats 2000000
/-! what the dict of orders keeps to -/
namespace K18
open PySem PySem.Spec PyProof.Rows L2 Sm Lw
local macro_rules | `(tactic| decreasing_trivial) => `(tactic| first | assumption | with_unfolding_all exact Eq.refl _ | omega | (simp only [szL, len_app, one_len, lits, List.length_append, List.length_cons, List.length_map, List.length_nil, List.length_replicate]; omega) | decide | exact trivial | exact cdiv_mk (by decide) (by decide) | exact cmul_l (by omega) (by omega) | exact cmul_r (by omega) (by omega))
local macro_rules | `(tactic| decreasing_trivial_pre_omega) => `(tactic| with_reducible first
  | refine wp_seq ?_ | (refine wp_appV (by with_unfolding_all exact rfl) (Hd.at (by assumption) 0 (by with_unfolding_all exact rfl)) ?_) | (refine wp_extV (by with_unfolding_all exact rfl) (Hd.at (by assumption) 0 (by with_unfolding_all exact rfl)) ?_) | (refine wp_appV (by with_unfolding_all exact rfl) (Hd.at (by assumption) 1 (by with_unfolding_all exact rfl)) ?_) | (refine wp_extV (by with_unfolding_all exact rfl) (Hd.at (by assumption) 1 (by with_unfolding_all exact rfl)) ?_) | (refine wp_appV (by with_unfolding_all exact rfl) (Hd.at (by assumption) 2 (by with_unfolding_all exact rfl)) ?_) | (refine wp_extV (by with_unfolding_all exact rfl) (Hd.at (by assumption) 2 (by with_unfolding_all exact rfl)) ?_) | (refine wp_appV (by with_unfolding_all exact rfl) (Hd.at (by assumption) 3 (by with_unfolding_all exact rfl)) ?_) | (refine wp_extV (by with_unfolding_all exact rfl) (Hd.at (by assumption) 3 (by with_unfolding_all exact rfl)) ?_) | refine wp_nx ?_ | refine wp_set ?_ | (apply wp_var; with_unfolding_all exact rfl) | refine wp_c ?_ | refine wp_bin ?_ | refine wp_cons ?_ | refine wp_nil ?_ | refine wp_ca ?_ | refine wp_call ?_ | refine wp_bm ?_ | refine wp_drop ?_ | refine wp_ret ?_ | refine wp_rt ?_ | refine wp_un ?_
  | (refine Chk.mk ?_ ?_; decreasing_trivial)
  | refine wp_lst ?_ | refine wp_tup ?_ | refine wp_mkf ?_ | refine wp_mkT ?_ | refine wp_fI ?_ | refine wp_fB ?_ | refine wp_addi ?_ | refine wp_addI ?_ | refine wp_adds ?_ | refine wp_addl ?_
  | refine wp_test ?_ | refine wp_tru ?_ | refine ex_bl ?_ | refine tr_bl ?_ | refine ex_int ?_ | refine wp_not ?_ | refine wp_eqi ?_ | refine wp_nei ?_ | refine wp_eqs ?_ | refine wp_nes ?_ | refine wp_inti ?_ | refine wp_intb ?_ | refine wp_max2 ?_ | refine wp_min2 ?_ | refine wp_isN ?_ | refine wp_notN ?_
  | (refine ⟨_, _, _, 0, _, (by assumption), (by with_unfolding_all exact rfl), ?_⟩) | (refine ⟨_, _, _, 0, _, _, (by assumption), (by with_unfolding_all exact rfl), (by with_unfolding_all exact rfl), ?_⟩) | (refine wp_len (Sm.lenN_a (Hd.at (by assumption) 0 (by with_unfolding_all exact rfl))) ?_) | (refine ⟨_, _, _, 1, _, (by assumption), (by with_unfolding_all exact rfl), ?_⟩) | (refine ⟨_, _, _, 1, _, _, (by assumption), (by with_unfolding_all exact rfl), (by with_unfolding_all exact rfl), ?_⟩) | (refine wp_len (Sm.lenN_a (Hd.at (by assumption) 1 (by with_unfolding_all exact rfl))) ?_) | (refine ⟨_, _, _, 2, _, (by assumption), (by with_unfolding_all exact rfl), ?_⟩) | (refine ⟨_, _, _, 2, _, _, (by assumption), (by with_unfolding_all exact rfl), (by with_unfolding_all exact rfl), ?_⟩) | (refine wp_len (Sm.lenN_a (Hd.at (by assumption) 2 (by with_unfolding_all exact rfl))) ?_) | (refine ⟨_, _, _, 3, _, (by assumption), (by with_unfolding_all exact rfl), ?_⟩) | (refine ⟨_, _, _, 3, _, _, (by assumption), (by with_unfolding_all exact rfl), (by with_unfolding_all exact rfl), ?_⟩) | (refine wp_len (Sm.lenN_a (Hd.at (by assumption) 3 (by with_unfolding_all exact rfl))) ?_) | (refine wp_len (lenN_l _) ?_) | (refine wp_len (lenN_t _) ?_) | (refine wp_len (lenN_w _) ?_)
  | (refine wp_adda (Hd.at (by assumption) 0 (by with_unfolding_all exact rfl)) (by with_unfolding_all exact rfl) ?_) | (refine wp_adda (Hd.at (by assumption) 1 (by with_unfolding_all exact rfl)) (by with_unfolding_all exact rfl) ?_) | (refine wp_adda (Hd.at (by assumption) 2 (by with_unfolding_all exact rfl)) (by with_unfolding_all exact rfl) ?_) | (refine wp_adda (Hd.at (by assumption) 3 (by with_unfolding_all exact rfl)) (by with_unfolding_all exact rfl) ?_) | (refine wp_addb (Hd.at (by assumption) 0 (by with_unfolding_all exact rfl)) ?_) | (refine wp_addb (Hd.at (by assumption) 1 (by with_unfolding_all exact rfl)) ?_) | (refine wp_addb (Hd.at (by assumption) 2 (by with_unfolding_all exact rfl)) ?_) | (refine wp_addb (Hd.at (by assumption) 3 (by with_unfolding_all exact rfl)) ?_)
  | (refine wp_isi (b := true) (by with_unfolding_all exact rfl) (by decide +kernel) ?_) | (refine wp_isi (b := false) (by with_unfolding_all exact rfl) (by decide +kernel) ?_) | (refine wp_xis (b := true) (by decide +kernel) (by with_unfolding_all exact rfl) (by assumption) ?_) | (refine wp_xis (b := false) (by decide +kernel) (by with_unfolding_all exact rfl) (by assumption) ?_) | (refine wp_xf (by with_unfolding_all exact rfl) (by assumption) (by with_unfolding_all exact rfl) ?_)
  | refine wp_next ?_ | refine wp_retN ?_ | refine wp_brk ?_ | refine wp_cnt ?_ | refine wp_bk ?_ | refine wp_ct ?_ | refine fq_rt ?_ | refine fq_nx ?_ | refine lq_nx ?_ | refine lq_ct ?_ | refine lq_bk ?_ | refine lq_rt ?_ | refine wp_name ?_ | refine wp_asg ?_ | refine wp_gtup ?_ | refine wp_gcons ?_ | refine wp_gnil ?_
  | refine wp_sl ?_ | refine wp_noPart ?_ | refine wp_part ?_ | refine wp_sls ?_ | refine wp_sll ?_ | refine wp_notV ?_ | refine wp_andV ?_ | refine wp_orV ?_ | (apply wp_aug; with_unfolding_all exact rfl) | refine wp_par ?_ | refine ex_two ?_ | refine wp_yes ?_ | refine wp_range ?_ | refine wp_range2 ?_ | refine wp_srcL ?_ | refine srcL_l ?_ | refine wp_neg ?_ | exact And.intro (Eq.refl _) (Eq.refl _) | apply te_and | apply te_or | apply te_andV | apply te_orV | (apply wp_ifP; (focus (decreasing_tactic; done))) | refine ex_nx ?_ | refine fun (_ : Sto) (_ : Hd _ _ _ _) => ?_ | refine wp_call0 ?_)
local macro_rules | `(tactic| decreasing_tactic) => `(tactic| repeat decreasing_trivial_pre_omega)
theorem size_toN : ∀ (rows : List (List Str)) (k : Nat), (∀ r ∈ rows, r.length ≤ k) → sizeP (toN rows) ≤ k * rows.length
  | [], k, _ => Nat.zero_le _
  | [] :: rows, k, h => by
    have := size_toN rows k fun r hr => h r (List.mem_cons_of_mem _ hr)
    show sizeP (toN rows) ≤ _
    rw [List.length_cons, Nat.mul_succ]
    omega
  | (a :: t) :: rows, k, h => by
    have := size_toN rows k fun r hr => h r (List.mem_cons_of_mem _ hr)
    have h2 := h (a :: t) List.mem_cons_self
    show t.length + 1 + sizeP (toN rows) ≤ _
    rw [List.length_cons] at h2
    rw [List.length_cons, Nat.mul_succ]
    omega
def lb (P x : Str) : Str := P ++ "." ++ x
theorem lb_inj {P x y : Str} (h : lb P x = lb P y) : x = y := by
  have e := congrArg sg h
  unfold lb at e
  rw [sg_app, sg_app, sg_app, sg_app] at e
  exact sg_inj (List.append_cancel_left e)
def labs (P : Str) (ps : List Str) (k : Nat) : List Str := (ps.take k).map (lb P)
/-- the orders of the first classes -/
structure Inv (P : Str) (ps : List Str) (k : Nat) (os : Os) : Prop where
  nd : (os.map (·.1)).Nodup
  ky : ∀ p ∈ os, p.1 ∈ labs P ps k
  v : ∀ p ∈ os, p.2.Nodup ∧ ∀ s ∈ p.2, s ∈ labs P ps k
/-- the names that are drawn -/
structure PsOk (P : Str) (ps : List Str) : Prop where
  n : ps.length = 12
  p : okS P ∧ P.length ≤ 5
  m : ∀ x ∈ ps, okS x ∧ x.length ≤ 5
  nd : ps.Nodup
section
variable {P : Str} {ps : List Str} {k : Nat} {os : Os}
theorem labs_len (h : PsOk P ps) (hk : k ≤ 10) : (labs P ps k).length = k := by
  unfold labs
  rw [List.length_map, List.length_take, h.n]
  omega
theorem labs_ok (h : PsOk P ps) : ∀ s ∈ labs P ps k, okS s ∧ s.length ≤ 11 := fun s hs => by
  obtain ⟨x, hx, rfl⟩ := List.mem_map.mp hs
  obtain ⟨h1, h2⟩ := h.m x (List.mem_of_mem_take hx)
  have d : okS ("." : Str) ∧ ("." : Str).length = 1 := by
    have h : (((sg ("." : Str)).all fun c => decide (c < 1114112)) && decide (("." : Str).length = 1)) = true := by decide +kernel
    simp only [Bool.and_eq_true, List.all_eq_true, decide_eq_true_eq] at h
    exact h
  refine ⟨okS_app (okS_app h.p.1 d.1) h1, ?_⟩
  unfold lb
  rw [len_app, len_app, d.2]
  have := h.p.2
  omega
theorem labs_up : ∀ s ∈ labs P ps k, s ∈ labs P ps (k + 1) := fun s hs => by
  obtain ⟨x, hx, rfl⟩ := List.mem_map.mp hs
  refine List.mem_map_of_mem ?_
  exact (List.take_sublist_take_left (Nat.le_succ k)).subset hx
theorem lab_in (h : PsOk P ps) {x : Str} (hx : ps[k]? = some x) : lb P x ∈ labs P ps (k + 1) ∧ lb P x ∉ labs P ps k := by
  obtain ⟨hk, e⟩ := List.getElem?_eq_some_iff.mp hx
  subst e
  constructor
  · refine List.mem_map_of_mem ?_
    rw [← List.take_append_getElem hk]
    exact List.mem_append_right _ List.mem_cons_self
  · intro z
    obtain ⟨y, hy, e⟩ := List.mem_map.mp z
    have := lb_inj e
    subst this
    have nd := h.nd
    rw [← List.take_append_drop k ps, List.drop_eq_getElem_cons hk] at nd
    exact (List.nodup_append.mp nd).2.2 _ hy _ List.mem_cons_self rfl
theorem Inv.ok (h : PsOk P ps) (hk : k ≤ 10) (I : Inv P ps k os) : OsOk os := by
  have L := labs_len h hk
  refine ⟨I.nd, ?_, fun p hp => labs_ok h _ (I.ky p hp), fun p hp => ⟨?_, fun s hs => labs_ok h _ ((I.v p hp).2 s hs)⟩⟩
  · have := GP.nodup_le I.nd (ps := labs P ps k) fun x hx => by
      obtain ⟨p, hp, rfl⟩ := List.mem_map.mp hx
      exact I.ky p hp
    rw [List.length_map] at this
    omega
  · have := GP.nodup_le (I.v p hp).1 (I.v p hp).2
    omega
def ordO (os : Os) (b : Str) : List Str := ((os.find? fun p => decide (p.1 = b)).map (·.2)).getD []
theorem uniqK (nd : (os.map (·.1)).Nodup) {p p' : Str × List Str} (h : p ∈ os) (h' : p' ∈ os) (e : p'.1 = p.1) : p' = p := by
  have v1 := valD nd h
  have v2 := valD nd h'
  rw [e, v1] at v2
  injection v2 with v2
  have v2 : IV.lst (p.2.map IV.str) = .lst (p'.2.map IV.str) := v2
  injection v2 with v2
  have inj : ∀ a b : List Str, a.map IV.str = b.map IV.str → a = b := fun a => by
    induction a with
    | nil => intro b h; cases b with
      | nil => rfl
      | cons _ _ => cases h
    | cons x a ih => intro b h; cases b with
      | nil => cases h
      | cons y b =>
        injection h with h1 h2
        injection h1 with h1
        rw [h1, ih b h2]
  exact Prod.ext e (inj _ _ v2).symm
theorem ordD (nd : (os.map (·.1)).Nodup) {p : Str × List Str} (h : p ∈ os) : ordO os p.1 = p.2 := by
  unfold ordO
  cases hf : os.find? fun q => decide (q.1 = p.1) with
  | none =>
    have := List.find?_eq_none.mp hf p h
    simp at this
  | some q =>
    have e : q.1 = p.1 := by simpa using List.find?_some hf
    have := uniqK nd h (List.mem_of_find?_eq_some hf) e
    rw [this]
    rfl
theorem val_of {os' : Os} (nd : (os.map (·.1)).Nodup) (p : os'.Perm os) {b : Str} (hb : b ∈ os.map (·.1)) : valI (kvD os') (.inr b) = some (enR (ordO os b)) := by
  obtain ⟨q, hq, rfl⟩ := List.mem_map.mp hb
  rw [ordD nd hq]
  exact valD ((p.map _).nodup_iff.mpr nd) (p.mem_iff.mpr hq)
/-- the rows of right bases -/
structure BsOk (os : Os) (bs : List Str) : Prop where
  n : bs.length ≤ 3
  m : ∀ b ∈ bs, b ∈ os.map (·.1)
variable {bs : List Str}
theorem rows_of (h : PsOk P ps) (hk : k ≤ 10) (I : Inv P ps k os) (B : BsOk os bs) : ∀ r ∈ rowsOf (ordO os) bs, r.length ≤ 10 ∧ ∀ s ∈ r, s ∈ labs P ps k := fun r hr => by
  have ok := I.ok h hk
  have key : ∀ b ∈ bs, ∃ p ∈ os, p.1 = b := fun b hb => List.mem_map.mp (B.m b hb)
  rcases List.mem_append.mp hr with hr | hr
  · obtain ⟨b, hb, rfl⟩ := List.mem_map.mp hr
    obtain ⟨p, hp, rfl⟩ := key b hb
    rw [ordD I.nd hp]
    exact ⟨(ok.v p hp).1, (I.v p hp).2⟩
  · rw [List.mem_singleton.mp hr]
    refine ⟨by have := B.n; omega, fun s hs => ?_⟩
    obtain ⟨p, hp, rfl⟩ := key s hs
    exact I.ky p hp
theorem rows_ok (h : PsOk P ps) (hk : k ≤ 10) (I : Inv P ps k os) (B : BsOk os bs) : RowsOk (rowsOf (ordO os) bs) ∧ ROk (mergeR (rowsOf (ordO os) bs)) ∧ (∀ s ∈ (mergeR (rowsOf (ordO os) bs)).1, s ∈ labs P ps k) := by
  have R := rows_of h hk I B
  have l : (rowsOf (ordO os) bs).length ≤ 4 := by
    unfold rowsOf
    rw [List.length_append, List.length_map]
    have := B.n
    show _ + 1 ≤ 4
    omega
  have z := size_toN (rowsOf (ordO os) bs) 10 fun r hr => (R r hr).1
  refine ⟨⟨by omega, fun r hr => ⟨by have := (R r hr).1; omega, fun s hs => (labs_ok h _ ((R r hr).2 s hs)).1⟩, by omega⟩, mergeR_ok (fun r hr s hs => ⟨(labs_ok h _ ((R r hr).2 s hs)).1, by have := (labs_ok h _ ((R r hr).2 s hs)).2; omega⟩) (by omega), ?_⟩
  exact (mergeP_keep (fun s => s ∈ labs P ps k) _ (toN (rowsOf (ordO os) bs)) [] (fun p hp => ⟨(R _ (toN_mem hp)).2 _ List.mem_cons_self, fun s hs => (R _ (toN_mem hp)).2 s (List.mem_cons_of_mem _ hs)⟩) fun _ z => by cases z).2.1
theorem res_ok (h : PsOk P ps) (hk : k ≤ 10) (I : Inv P ps k os) (B : BsOk os bs) {label : Str} (hl : okS label ∧ label.length ≤ 11) : ROk (resR label (ordO os) bs) := by
  obtain ⟨R1, R2, R3⟩ := rows_ok h hk I B
  have rw' := rows_of h hk I B bs (List.mem_append_right _ List.mem_cons_self)
  unfold resR
  split
  · rename_i hD
    obtain ⟨b, r, rfl⟩ := dup_ne hD
    have o : ∀ s ∈ b :: r, okS s ∧ s.length ≤ 100 := fun s hs => ⟨(labs_ok h _ (rw'.2 s hs)).1, by have := (labs_ok h _ (rw'.2 s hs)).2; omega⟩
    refine ⟨fun _ z => (by cases z), fun p hp => ?_, ?_⟩
    · have : p = (b, r) := List.mem_singleton.mp hp
      subst this
      exact ⟨o b List.mem_cons_self, fun s hs => o s (List.mem_cons_of_mem _ hs)⟩
    · have := rw'.1
      rw [List.length_cons] at this
      show 0 + (r.length + 1 + 0) ≤ 5000
      omega
  · split
    · have z := R2.z
      refine ⟨fun s hs => ?_, fun _ z => (by cases z), ?_⟩
      · rcases List.mem_cons.mp hs with rfl | hs
        · exact ⟨hl.1, by have := hl.2; omega⟩
        · exact ⟨(labs_ok h _ (R3 s hs)).1, by have := (labs_ok h _ (R3 s hs)).2; omega⟩
      · have := GP.nodup_le (mergeR_nodup (rowsOf (ordO os) bs)) R3
        rw [labs_len h hk] at this
        show (mergeR (rowsOf (ordO os) bs)).1.length + 1 + 0 ≤ 5000
        omega
    · exact R2
/-- one class more -/
theorem Inv.more (h : PsOk P ps) (hk : k ≤ 10) (I : Inv P ps k os) (B : BsOk os bs) {x : Str} (hx : ps[k]? = some x) : Inv P ps (k + 1) (os ++ [(lb P x, lb P x :: (mergeR (rowsOf (ordO os) bs)).1)]) ∧ lb P x ∉ os.map (·.1) := by
  obtain ⟨R1, R2, R3⟩ := rows_ok h hk I B
  obtain ⟨l1, l2⟩ := lab_in h hx
  have nw : lb P x ∉ os.map (·.1) := fun z => by
    obtain ⟨p, hp, e⟩ := List.mem_map.mp z
    exact l2 (e ▸ I.ky p hp)
  refine ⟨⟨?_, fun p hp => ?_, fun p hp => ?_⟩, nw⟩
  · rw [List.map_append]
    refine List.nodup_append.mpr ⟨I.nd, by simp, fun a ha b hb => ?_⟩
    rw [List.mem_singleton.mp hb]
    exact fun z => nw (show lb P x ∈ os.map (·.1) from (show a = lb P x from z) ▸ ha)
  · rcases List.mem_append.mp hp with hp | hp
    · exact labs_up _ (I.ky p hp)
    · rw [List.mem_singleton.mp hp]; exact l1
  · rcases List.mem_append.mp hp with hp | hp
    · exact ⟨(I.v p hp).1, fun s hs => labs_up _ ((I.v p hp).2 s hs)⟩
    · rw [List.mem_singleton.mp hp]
      refine ⟨List.nodup_cons.mpr ⟨fun z => l2 (R3 _ z), mergeR_nodup _⟩, fun s hs => ?_⟩
      rcases List.mem_cons.mp hs with rfl | hs
      · exact l1
      · exact labs_up _ (R3 s hs)
theorem Inv.up (I : Inv P ps k os) : Inv P ps (k + 1) os := ⟨I.nd, fun p hp => labs_up _ (I.ky p hp), fun p hp => ⟨(I.v p hp).1, fun s hs => labs_up _ ((I.v p hp).2 s hs)⟩⟩
end
section
variable {n K : Nat} {fs : List (Nat × Cell)} {S : Sto} {Q : IV → Sto → Prop} {os : Os}
theorem wp_sameD {os' : Os} {d e : Nat} (ok : OsOk os) (p : os'.Perm os) (he : S[e]? = some (.dic (kvD os'))) (hd : S[d]? = some (.dic (kvD os))) (q : Q (.bl false) S) : Wp (fNeDD (.adr e) (.adr d) S) Q := by
  show Wp (onDw S (.adr e) fun _ ks => onDw S (.adr d) fun _ ls => chk (sameD S ks ls = true) (.ok (.bl false) S)) Q
  rw [onDw_s he, onDw_s hd]
  refine wp_chk ⟨?_, .ok q⟩
  unfold sameD
  rw [Bool.and_eq_true, decide_eq_true_eq, List.all_eq_true]
  refine ⟨by unfold kvD; rw [List.length_map, List.length_map, p.length_eq], fun kv hkv => ?_⟩
  obtain ⟨o, ho, rfl⟩ := List.mem_map.mp hkv
  have ho := p.mem_iff.mp ho
  have v := valD ok.nd ho
  simp only [v]
  have o2 : ∀ s ∈ o.2, okS s := fun s hs => ((ok.v o ho).2 s hs).1
  have w : view 8 S (enR o.2) = some (.list (o.2.map PyData.str)) := view_strs 6 o.2
  have sh := shaped_strs o2
  unfold sameI
  rw [w]
  show (SeqAt.shaped (.list (o.2.map PyData.str)) && SeqAt.shaped (.list (o.2.map PyData.str)) && PyData.eqv (.list (o.2.map PyData.str)) (.list (o.2.map PyData.str)) && decide (PyData.depth (.list (o.2.map PyData.str)) ≤ 32)) = true
  rw [sh, PySem.SeqAt.eqv_refl _ (SeqAt.canLay_of_shaped sh), PyData.depth, depth_strs]
  rfl
theorem wp_of {xs : List IV} (h : Hd n K fs S) (hK : K ≤ 1000000) (h0 : xs ≠ []) (h1 : xs.length ≤ 100000) (q : ∀ v S', v ∈ xs → Hd n (K + 1) fs S' → Q v S') : Wp (m__law_of [.adr n, .lst xs] S) Q := by
  have hp : 0 < xs.length := List.length_pos_iff.mpr h0
  refine wd__law_of ?_
  unfold b__law_of
  refine wp_ret (wp_bin (wp_var rfl (wp_call (wp_cons (wp_var rfl (wp_cons (wp_ca (wp_cons (wp_var rfl (wp_nil (wp_len (lenN_l _) (wp_nil ⟨rfl, wp_drawK h hK (by omega) (by omega) fun r S h r0 r1 => ?_⟩))))))))))))
  obtain ⟨j, rfl⟩ := Int.eq_ofNat_of_zero_le r0
  have hj : j < xs.length := by omega
  exact wp_ixl (atI_nat (List.getElem?_eq_getElem hj)) (fq_rt (q _ S (List.getElem_mem hj) h))
variable {d : Nat} {kvs : List (Key × IV)} {label : Str} {bs : List Str} {ord : Str → List Str}
theorem wp_asked (h : Hd n K fs S) (hd : S[d]? = some (.dic kvs)) (hv : ∀ b ∈ bs, valI kvs (.inr b) = some (enR (ord b))) (ok : RowsOk (rowsOf ord bs)) (hb : bs.length ≤ 4000) (hz : (mergeR (rowsOf ord bs)).1.length ≤ 100000)
    (q : ∀ (c : Nat) (S' : Sto), Hd n K ((c, .lst (outL (resR label ord bs))) :: fs) S' → Q (.tup [.str (outW (resR label ord bs)), .adr c]) S') : Wp (m__law_asked [.str label, .lst (bs.map IV.str), .adr d] S) Q := by
  obtain ⟨S', c, e1, e2, e3, e4⟩ := asked_ok (label := label) hd hv ok hb hz
  exact ⟨_, S', e1, q c S' (Hd_more (h.ext0 e4) h e2 e3)⟩
theorem wp_merged {rows : List (List Str)} (h : Hd n K fs S) (ok : RowsOk rows) (q : ∀ (t : Nat) (S' : Sto), Hd n K ((t, .lst ((mergeR rows).1.map IV.str)) :: fs) S' → Q (.tup [.adr t, .lst ((mergeR rows).2.map enN)]) S') : Wp (m__law_merged [.lst (rows.map enR)] S) Q := by
  obtain ⟨S', t, e1, e2, e3, e4⟩ := merged_e ok (S := S)
  exact ⟨_, S', e1, q t S' (Hd_more (h.ext0 e4) h e2 e3)⟩
end
end K18
set_option maxHeartbeats 2000000
/-! one class of the law -/
namespace K18
open PySem PySem.Spec PyProof.Rows L2 Sm Lw
local macro_rules | `(tactic| decreasing_trivial) => `(tactic| first | assumption | with_unfolding_all exact Eq.refl _ | omega | (simp only [szL, len_app, one_len, lits, List.length_append, List.length_cons, List.length_map, List.length_nil, List.length_replicate]; omega) | decide | exact trivial | exact cdiv_mk (by decide) (by decide) | exact cmul_l (by omega) (by omega) | exact cmul_r (by omega) (by omega))
local macro_rules | `(tactic| decreasing_trivial_pre_omega) => `(tactic| with_reducible first
  | refine wp_seq ?_ | (refine wp_appV (by with_unfolding_all exact rfl) (Hd.at (by assumption) 0 (by with_unfolding_all exact rfl)) ?_) | (refine wp_extV (by with_unfolding_all exact rfl) (Hd.at (by assumption) 0 (by with_unfolding_all exact rfl)) ?_) | (refine wp_appV (by with_unfolding_all exact rfl) (Hd.at (by assumption) 1 (by with_unfolding_all exact rfl)) ?_) | (refine wp_extV (by with_unfolding_all exact rfl) (Hd.at (by assumption) 1 (by with_unfolding_all exact rfl)) ?_) | (refine wp_appV (by with_unfolding_all exact rfl) (Hd.at (by assumption) 2 (by with_unfolding_all exact rfl)) ?_) | (refine wp_extV (by with_unfolding_all exact rfl) (Hd.at (by assumption) 2 (by with_unfolding_all exact rfl)) ?_) | (refine wp_appV (by with_unfolding_all exact rfl) (Hd.at (by assumption) 3 (by with_unfolding_all exact rfl)) ?_) | (refine wp_extV (by with_unfolding_all exact rfl) (Hd.at (by assumption) 3 (by with_unfolding_all exact rfl)) ?_) | refine wp_nx ?_ | refine wp_set ?_ | (apply wp_var; with_unfolding_all exact rfl) | refine wp_c ?_ | refine wp_bin ?_ | refine wp_cons ?_ | refine wp_nil ?_ | refine wp_ca ?_ | refine wp_call ?_ | refine wp_bm ?_ | refine wp_drop ?_ | refine wp_ret ?_ | refine wp_rt ?_ | refine wp_un ?_
  | (refine Chk.mk ?_ ?_; decreasing_trivial)
  | refine wp_lst ?_ | refine wp_tup ?_ | refine wp_mkf ?_ | refine wp_mkT ?_ | refine wp_fI ?_ | refine wp_fB ?_ | refine wp_addi ?_ | refine wp_addI ?_ | refine wp_adds ?_ | refine wp_addl ?_
  | refine wp_test ?_ | refine wp_tru ?_ | refine ex_bl ?_ | refine tr_bl ?_ | refine ex_int ?_ | refine wp_not ?_ | refine wp_eqi ?_ | refine wp_nei ?_ | refine wp_eqs ?_ | refine wp_nes ?_ | refine wp_inti ?_ | refine wp_intb ?_ | refine wp_max2 ?_ | refine wp_min2 ?_ | refine wp_isN ?_ | refine wp_notN ?_
  | (refine ⟨_, _, _, 0, _, (by assumption), (by with_unfolding_all exact rfl), ?_⟩) | (refine ⟨_, _, _, 0, _, _, (by assumption), (by with_unfolding_all exact rfl), (by with_unfolding_all exact rfl), ?_⟩) | (refine wp_len (Sm.lenN_a (Hd.at (by assumption) 0 (by with_unfolding_all exact rfl))) ?_) | (refine ⟨_, _, _, 1, _, (by assumption), (by with_unfolding_all exact rfl), ?_⟩) | (refine ⟨_, _, _, 1, _, _, (by assumption), (by with_unfolding_all exact rfl), (by with_unfolding_all exact rfl), ?_⟩) | (refine wp_len (Sm.lenN_a (Hd.at (by assumption) 1 (by with_unfolding_all exact rfl))) ?_) | (refine ⟨_, _, _, 2, _, (by assumption), (by with_unfolding_all exact rfl), ?_⟩) | (refine ⟨_, _, _, 2, _, _, (by assumption), (by with_unfolding_all exact rfl), (by with_unfolding_all exact rfl), ?_⟩) | (refine wp_len (Sm.lenN_a (Hd.at (by assumption) 2 (by with_unfolding_all exact rfl))) ?_) | (refine ⟨_, _, _, 3, _, (by assumption), (by with_unfolding_all exact rfl), ?_⟩) | (refine ⟨_, _, _, 3, _, _, (by assumption), (by with_unfolding_all exact rfl), (by with_unfolding_all exact rfl), ?_⟩) | (refine wp_len (Sm.lenN_a (Hd.at (by assumption) 3 (by with_unfolding_all exact rfl))) ?_) | (refine wp_len (lenN_l _) ?_) | (refine wp_len (lenN_t _) ?_) | (refine wp_len (lenN_w _) ?_)
  | (refine wp_adda (Hd.at (by assumption) 0 (by with_unfolding_all exact rfl)) (by with_unfolding_all exact rfl) ?_) | (refine wp_adda (Hd.at (by assumption) 1 (by with_unfolding_all exact rfl)) (by with_unfolding_all exact rfl) ?_) | (refine wp_adda (Hd.at (by assumption) 2 (by with_unfolding_all exact rfl)) (by with_unfolding_all exact rfl) ?_) | (refine wp_adda (Hd.at (by assumption) 3 (by with_unfolding_all exact rfl)) (by with_unfolding_all exact rfl) ?_) | (refine wp_addb (Hd.at (by assumption) 0 (by with_unfolding_all exact rfl)) ?_) | (refine wp_addb (Hd.at (by assumption) 1 (by with_unfolding_all exact rfl)) ?_) | (refine wp_addb (Hd.at (by assumption) 2 (by with_unfolding_all exact rfl)) ?_) | (refine wp_addb (Hd.at (by assumption) 3 (by with_unfolding_all exact rfl)) ?_)
  | (refine wp_isi (b := true) (by with_unfolding_all exact rfl) (by decide +kernel) ?_) | (refine wp_isi (b := false) (by with_unfolding_all exact rfl) (by decide +kernel) ?_) | (refine wp_xis (b := true) (by decide +kernel) (by with_unfolding_all exact rfl) (by assumption) ?_) | (refine wp_xis (b := false) (by decide +kernel) (by with_unfolding_all exact rfl) (by assumption) ?_) | (refine wp_xf (by with_unfolding_all exact rfl) (by assumption) (by with_unfolding_all exact rfl) ?_)
  | refine wp_next ?_ | refine wp_retN ?_ | refine wp_brk ?_ | refine wp_cnt ?_ | refine wp_bk ?_ | refine wp_ct ?_ | refine fq_rt ?_ | refine fq_nx ?_ | refine lq_nx ?_ | refine lq_ct ?_ | refine lq_bk ?_ | refine lq_rt ?_ | refine wp_name ?_ | refine wp_asg ?_ | refine wp_gtup ?_ | refine wp_gcons ?_ | refine wp_gnil ?_
  | refine wp_sl ?_ | refine wp_noPart ?_ | refine wp_part ?_ | refine wp_sls ?_ | refine wp_sll ?_ | refine wp_notV ?_ | refine wp_andV ?_ | refine wp_orV ?_ | (apply wp_aug; with_unfolding_all exact rfl) | refine wp_par ?_ | refine ex_two ?_ | refine wp_yes ?_ | refine wp_range ?_ | refine wp_range2 ?_ | refine wp_srcL ?_ | refine srcL_l ?_ | refine wp_neg ?_ | exact And.intro (Eq.refl _) (Eq.refl _) | apply te_and | apply te_or | apply te_andV | apply te_orV | (apply wp_ifP; (focus (decreasing_tactic; done))) | refine ex_nx ?_ | refine fun (_ : Sto) (_ : Hd _ _ _ _) => ?_ | refine wp_call0 ?_)
local macro_rules | `(tactic| decreasing_tactic) => `(tactic| repeat decreasing_trivial_pre_omega)
/-- the slots of _law_right -/
def wl (n a d : Nat) (x3 x4 x5 x6 x7 x8 x9 x10 x11 x12 : Option IV) : Slots := [some (.adr n), some (.adr a), some (.adr d), x3, x4, x5, x6, x7, x8, x9, x10, x11, x12, none, none]
noncomputable def tA1 : IS := (iIf (iTest (iBin fNe0 (iVar 2) iDNew)) (iSet 5 (iLc false (iSrcR1 (iCall 2 m__law_draw (iCons (iVar 0) (iCons (iC (.int 4)) iNil)))) (giN 13) iYes (iCall 2 m__law_of (iCons (iVar 0) (iCons (iCa (fListD false) (iCons (iVar 2) iNil)) iNil))) [13])) iNext)
noncomputable def tA2 : IS := (iIf (iTest (iBin fGt (iCall 2 m__law_draw (iCons (iVar 0) (iCons (iC (.int 3)) iNil))) (iC (.int 0)))) (iSet 5 (iLc false (iSrcR1 (iCa fLen (iCons (iVar 5) iNil))) (giN 3) (iTest (iBin fNotIn (iBin fIx (iVar 5) (iVar 3)) (iSl false (iVar 5) iNoPart (iPart (iVar 3))))) (iBin fIx (iVar 5) (iVar 3)) [3])) iNext)
section
variable {n K a d : Nat} {fs : List (Nat × Cell)} {S : Sto} {Q : IV → Sto → Prop} {os : Os} {x3 x4 x5 x6 x7 x8 x9 x10 x11 x12 : Option IV}
theorem keys_in {v : IV} (h : v ∈ (os.map (·.1)).map IV.str) : ∃ b, v = .str b ∧ b ∈ os.map (·.1) := by
  obtain ⟨b, hb, e⟩ := List.mem_map.mp h
  exact ⟨b, e.symm, hb⟩
theorem a1_ok (ok : OsOk os) (h : Hd n K fs S) (hd : (d, .dic (kvD os)) ∈ fs) (hK : K ≤ 900000) :
    Wp (tA1 (wl n a d x3 x4 (some (.lst [])) x6 x7 x8 x9 x10 x11 x12) S) fun fl S1 => ∃ L, fl = .nx L ∧ ∃ bs, L = wl n a d x3 x4 (some (.lst (bs.map IV.str))) x6 x7 x8 x9 x10 x11 x12 ∧ BsOk os bs ∧ Hd n (K + 4) fs S1 := by
  have hn := ok.n
  unfold tA1
  refine wp_if (wp_test (wp_ne0 rfl h hd fun S h => ex_bl ⟨fun hne => ?_, fun _ => ?_⟩))
  · have lk : ((os.map (·.1)).map IV.str).length = os.length := by rw [List.length_map, List.length_map]
    have one : (os.map (·.1)).map IV.str ≠ [] := fun z => by
      have e : os = [] := List.length_eq_zero_iff.mp (by rw [← lk, z]; rfl)
      rw [e] at hne
      cases hne
    have D : Wp (iCall 2 m__law_draw (iCons (iVar 0) (iCons (iC (.int 4)) iNil)) (wl n a d x3 x4 (some (.lst [])) x6 x7 x8 x9 x10 x11 x12) S) fun x S1 => ∃ j : Nat, x = .int j ∧ j < 4 ∧ Hd n (K + 1) fs S1 :=
      wp_call (wp_cons (wp_var (by with_unfolding_all exact rfl) (wp_cons (wp_c (wp_nil ⟨rfl, wp_drawK h (by omega) (by omega) (by omega) fun r S h r0 r1 => ⟨r.toNat, by rw [Int.toNat_of_nonneg r0], by omega, h⟩⟩)))))
    obtain ⟨_, S1, e1, j, rfl, hj, h1⟩ := D
    refine wp_set (wp_lc (k := none) (List.range j) (fun i : Nat => IV.int i) (fun i S acc => Hd n (K + 1 + i) fs S ∧ ∃ ws : List Str, acc = ws.map IV.str ∧ ws.length = i ∧ ∀ w ∈ ws, w ∈ os.map (·.1)) (wp_range (.of e1 ⟨_, rfl, ⟨by omega, by omega⟩, by simp, h1, [], rfl, rfl, fun _ z => by cases z⟩)) (fun _ _ _ _ => trivial) ?_ (by rw [List.length_range, szL]; omega) ?_)
    · rintro i S acc b hb ⟨h, ws, rfl, hl, hw⟩
      have hi := (rg_some hb).2
      refine ⟨_, rfl, wp_yes ⟨fun _ => ?_, fun z => by cases z⟩⟩
      have hd' := h.mem hd
      refine wp_call (wp_cons (wp_var (by with_unfolding_all exact rfl) (wp_cons (wp_ca (wp_cons (wp_var (by with_unfolding_all exact rfl) (wp_nil ?_)))))))
      show Wp (onD S (.adr d) fun _ kvs => mkL false (kvs.map fun kv => keyV kv.1) S) _
      rw [onD_s hd', keyD]
      refine wp_mkf ⟨by rw [lk, szL]; omega, wp_nil ⟨rfl, wp_of h (by omega) one (by rw [lk]; omega) fun v S hv h => ?_⟩⟩
      obtain ⟨w, rfl, hw'⟩ := keys_in hv
      refine ⟨h, ws ++ [w], by rw [List.map_append]; rfl, by rw [List.length_append, hl]; rfl, fun z hz => ?_⟩
      rcases List.mem_append.mp hz with z1 | z1
      · exact hw z z1
      · rw [List.mem_singleton.mp z1]; exact hw'
    · rintro S acc ⟨h, ws, rfl, hl, hw⟩
      rw [List.length_range] at hl h
      exact wp_mkf ⟨by rw [List.length_map, szL]; omega, _, rfl, ws, rfl, ⟨by omega, hw⟩, h.up (by omega)⟩
  · exact wp_next ⟨_, rfl, [], rfl, ⟨Nat.zero_le _, fun _ z => by cases z⟩, h.up (by omega)⟩
theorem cut_strs (bs : List Str) (lo hi : Option Int) : ∃ zs : List Str, cutI (bs.map IV.str) lo hi = zs.map IV.str ∧ zs.length ≤ bs.length := by
  refine ⟨(bs.drop (HT.sIx (bs.map IV.str).length 0 lo)).take (HT.sIx (bs.map IV.str).length (bs.map IV.str).length hi - HT.sIx (bs.map IV.str).length 0 lo), ?_, ?_⟩
  · unfold cutI
    rw [List.map_take, List.map_drop]
  · rw [List.length_take, List.length_drop]
    omega
theorem a2_ok {bs : List Str} (B : BsOk os bs) (h : Hd n K fs S) (hK : K ≤ 900000) :
    Wp (tA2 (wl n a d x3 x4 (some (.lst (bs.map IV.str))) x6 x7 x8 x9 x10 x11 x12) S) fun fl S1 => ∃ L, fl = .nx L ∧ ∃ bs, L = wl n a d x3 x4 (some (.lst (bs.map IV.str))) x6 x7 x8 x9 x10 x11 x12 ∧ BsOk os bs ∧ Hd n (K + 1) fs S1 := by
  have hb := B.n
  unfold tA2
  refine wp_if (wp_test (wp_bin (wp_call (wp_cons (wp_var (by with_unfolding_all exact rfl) (wp_cons (wp_c (wp_nil ⟨rfl, wp_drawK h (by omega) (by omega) (by omega) fun r S h r0 r1 => wp_c (wp_fB (ex_bl ⟨fun _ => ?_, fun _ => ?_⟩))⟩))))))))
  · refine wp_set (wp_lc (k := none) (List.range bs.length) (fun i : Nat => IV.int i) (fun i S' acc => S' = S ∧ ∃ ws : List Str, acc = ws.map IV.str ∧ ws.length ≤ i ∧ ∀ w ∈ ws, w ∈ bs) (wp_range (wp_ca (wp_cons (wp_var (by with_unfolding_all exact rfl) (wp_nil (wp_len (lenN_l _) ⟨_, rfl, ⟨by omega, by rw [List.length_map]; omega⟩, by simp, rfl, [], rfl, Nat.le_refl _, fun _ z => by cases z⟩)))))) (fun _ _ _ _ => trivial) ?_ (by rw [List.length_range, szL]; omega) ?_)
    · rintro i S' acc b hb' ⟨rfl, ws, rfl, hl, hw⟩
      obtain ⟨rfl, hi⟩ := rg_some hb'
      obtain ⟨zs, ez, lz⟩ := cut_strs bs none (some (b : Int))
      have at1 : atI (bs.map IV.str) (b : Nat) = some (.str bs[b]) := atI_nat (by simp [hi])
      refine ⟨_, rfl, wp_test (wp_bin (wp_bin (wp_var (by with_unfolding_all exact rfl) (wp_var (by with_unfolding_all exact rfl) (wp_ixl at1 (wp_sl (wp_var (by with_unfolding_all exact rfl) (wp_noPart (wp_part (wp_var (by with_unfolding_all exact rfl) ⟨_, rfl, wp_sll ?_⟩))))))))))⟩
      rw [ez]
      refine wp_mkf ⟨by rw [List.length_map, szL]; omega, wp_notin (inB_lst _ _) (ex_bl ⟨fun _ => ?_, fun _ => ⟨rfl, ws, rfl, by omega, hw⟩⟩)⟩
      refine wp_bin (wp_var (by with_unfolding_all exact rfl) (wp_var (by with_unfolding_all exact rfl) (wp_ixl at1 ⟨rfl, ws ++ [bs[b]], by rw [List.map_append]; rfl, by rw [List.length_append]; exact Nat.succ_le_succ hl, fun z hz => ?_⟩)))
      rcases List.mem_append.mp hz with z1 | z1
      · exact hw z z1
      · rw [List.mem_singleton.mp z1]; exact List.getElem_mem hi
    · rintro S' acc ⟨rfl, ws, rfl, hl, hw⟩
      rw [List.length_range] at hl
      exact wp_mkf ⟨by rw [List.length_map, szL]; omega, _, rfl, ws, rfl, ⟨by omega, fun b hb => B.m b (hw b hb)⟩, h⟩
  · exact wp_next ⟨_, rfl, bs, rfl, B, h⟩
end
end K18
set_option maxHeartbeats 4000000
/-! one class of the law: what is due, what is told -/
namespace K18
open PySem PySem.Spec PyProof.Rows L2 Sm Lw
local macro_rules | `(tactic| decreasing_trivial) => `(tactic| first | assumption | with_unfolding_all exact Eq.refl _ | omega | (simp only [szL, len_app, one_len, lits, List.length_append, List.length_cons, List.length_map, List.length_nil, List.length_replicate]; omega) | decide | exact trivial | exact cdiv_mk (by decide) (by decide) | exact cmul_l (by omega) (by omega) | exact cmul_r (by omega) (by omega))
local macro_rules | `(tactic| decreasing_trivial_pre_omega) => `(tactic| with_reducible first
  | refine wp_seq ?_ | (refine wp_appV (by with_unfolding_all exact rfl) (Hd.at (by assumption) 0 (by with_unfolding_all exact rfl)) ?_) | (refine wp_extV (by with_unfolding_all exact rfl) (Hd.at (by assumption) 0 (by with_unfolding_all exact rfl)) ?_) | (refine wp_appV (by with_unfolding_all exact rfl) (Hd.at (by assumption) 1 (by with_unfolding_all exact rfl)) ?_) | (refine wp_extV (by with_unfolding_all exact rfl) (Hd.at (by assumption) 1 (by with_unfolding_all exact rfl)) ?_) | (refine wp_appV (by with_unfolding_all exact rfl) (Hd.at (by assumption) 2 (by with_unfolding_all exact rfl)) ?_) | (refine wp_extV (by with_unfolding_all exact rfl) (Hd.at (by assumption) 2 (by with_unfolding_all exact rfl)) ?_) | (refine wp_appV (by with_unfolding_all exact rfl) (Hd.at (by assumption) 3 (by with_unfolding_all exact rfl)) ?_) | (refine wp_extV (by with_unfolding_all exact rfl) (Hd.at (by assumption) 3 (by with_unfolding_all exact rfl)) ?_) | refine wp_nx ?_ | refine wp_set ?_ | (apply wp_var; with_unfolding_all exact rfl) | refine wp_c ?_ | refine wp_bin ?_ | refine wp_cons ?_ | refine wp_nil ?_ | refine wp_ca ?_ | refine wp_call ?_ | refine wp_bm ?_ | refine wp_drop ?_ | refine wp_ret ?_ | refine wp_rt ?_ | refine wp_un ?_
  | (refine Chk.mk ?_ ?_; decreasing_trivial)
  | refine wp_lst ?_ | refine wp_tup ?_ | refine wp_mkf ?_ | refine wp_mkT ?_ | refine wp_fI ?_ | refine wp_fB ?_ | refine wp_addi ?_ | refine wp_addI ?_ | refine wp_adds ?_ | refine wp_addl ?_
  | refine wp_test ?_ | refine wp_tru ?_ | refine ex_bl ?_ | refine tr_bl ?_ | refine ex_int ?_ | refine wp_not ?_ | refine wp_eqi ?_ | refine wp_nei ?_ | refine wp_eqs ?_ | refine wp_nes ?_ | refine wp_inti ?_ | refine wp_intb ?_ | refine wp_max2 ?_ | refine wp_min2 ?_ | refine wp_isN ?_ | refine wp_notN ?_
  | (refine ⟨_, _, _, 0, _, (by assumption), (by with_unfolding_all exact rfl), ?_⟩) | (refine ⟨_, _, _, 0, _, _, (by assumption), (by with_unfolding_all exact rfl), (by with_unfolding_all exact rfl), ?_⟩) | (refine wp_len (Sm.lenN_a (Hd.at (by assumption) 0 (by with_unfolding_all exact rfl))) ?_) | (refine ⟨_, _, _, 1, _, (by assumption), (by with_unfolding_all exact rfl), ?_⟩) | (refine ⟨_, _, _, 1, _, _, (by assumption), (by with_unfolding_all exact rfl), (by with_unfolding_all exact rfl), ?_⟩) | (refine wp_len (Sm.lenN_a (Hd.at (by assumption) 1 (by with_unfolding_all exact rfl))) ?_) | (refine ⟨_, _, _, 2, _, (by assumption), (by with_unfolding_all exact rfl), ?_⟩) | (refine ⟨_, _, _, 2, _, _, (by assumption), (by with_unfolding_all exact rfl), (by with_unfolding_all exact rfl), ?_⟩) | (refine wp_len (Sm.lenN_a (Hd.at (by assumption) 2 (by with_unfolding_all exact rfl))) ?_) | (refine ⟨_, _, _, 3, _, (by assumption), (by with_unfolding_all exact rfl), ?_⟩) | (refine ⟨_, _, _, 3, _, _, (by assumption), (by with_unfolding_all exact rfl), (by with_unfolding_all exact rfl), ?_⟩) | (refine wp_len (Sm.lenN_a (Hd.at (by assumption) 3 (by with_unfolding_all exact rfl))) ?_) | (refine wp_len (lenN_l _) ?_) | (refine wp_len (lenN_t _) ?_) | (refine wp_len (lenN_w _) ?_)
  | (refine wp_adda (Hd.at (by assumption) 0 (by with_unfolding_all exact rfl)) (by with_unfolding_all exact rfl) ?_) | (refine wp_adda (Hd.at (by assumption) 1 (by with_unfolding_all exact rfl)) (by with_unfolding_all exact rfl) ?_) | (refine wp_adda (Hd.at (by assumption) 2 (by with_unfolding_all exact rfl)) (by with_unfolding_all exact rfl) ?_) | (refine wp_adda (Hd.at (by assumption) 3 (by with_unfolding_all exact rfl)) (by with_unfolding_all exact rfl) ?_) | (refine wp_addb (Hd.at (by assumption) 0 (by with_unfolding_all exact rfl)) ?_) | (refine wp_addb (Hd.at (by assumption) 1 (by with_unfolding_all exact rfl)) ?_) | (refine wp_addb (Hd.at (by assumption) 2 (by with_unfolding_all exact rfl)) ?_) | (refine wp_addb (Hd.at (by assumption) 3 (by with_unfolding_all exact rfl)) ?_)
  | (refine wp_isi (b := true) (by with_unfolding_all exact rfl) (by decide +kernel) ?_) | (refine wp_isi (b := false) (by with_unfolding_all exact rfl) (by decide +kernel) ?_) | (refine wp_xis (b := true) (by decide +kernel) (by with_unfolding_all exact rfl) (by assumption) ?_) | (refine wp_xis (b := false) (by decide +kernel) (by with_unfolding_all exact rfl) (by assumption) ?_) | (refine wp_xf (by with_unfolding_all exact rfl) (by assumption) (by with_unfolding_all exact rfl) ?_)
  | refine wp_next ?_ | refine wp_retN ?_ | refine wp_brk ?_ | refine wp_cnt ?_ | refine wp_bk ?_ | refine wp_ct ?_ | refine fq_rt ?_ | refine fq_nx ?_ | refine lq_nx ?_ | refine lq_ct ?_ | refine lq_bk ?_ | refine lq_rt ?_ | refine wp_name ?_ | refine wp_asg ?_ | refine wp_gtup ?_ | refine wp_gcons ?_ | refine wp_gnil ?_
  | refine wp_sl ?_ | refine wp_noPart ?_ | refine wp_part ?_ | refine wp_sls ?_ | refine wp_sll ?_ | refine wp_notV ?_ | refine wp_andV ?_ | refine wp_orV ?_ | (apply wp_aug; with_unfolding_all exact rfl) | refine wp_par ?_ | refine ex_two ?_ | refine wp_yes ?_ | refine wp_range ?_ | refine wp_range2 ?_ | refine wp_srcL ?_ | refine srcL_l ?_ | refine wp_neg ?_ | exact And.intro (Eq.refl _) (Eq.refl _) | apply te_and | apply te_or | apply te_andV | apply te_orV | (apply wp_ifP; (focus (decreasing_tactic; done))) | refine ex_nx ?_ | refine fun (_ : Sto) (_ : Hd _ _ _ _) => ?_ | refine wp_call0 ?_)
local macro_rules | `(tactic| decreasing_tactic) => `(tactic| repeat decreasing_trivial_pre_omega)
noncomputable def eB : IE := (iBin fAdd (iLc false (iSrcL (iVar 5)) (giN 14) iYes (iCa (fList false) (iCons (iBin fDGet (iVar 2) (iVar 14)) iNil)) [14]) (iLst false (iCons (iCa (fList false) (iCons (iVar 5) iNil)) iNil)))
noncomputable def eC : IE := (iIf (iTest (iBin fEq (iVar 8) (iLst false iNil))) (iTup (iCons (iC (.str "list")) (iCons (iBin fAdd (iLst false (iCons (iVar 4) iNil)) (iVar 7)) iNil))) (iTup (iCons (iC (.str "left")) (iCons (iVar 8) iNil))))
noncomputable def tC : IS := (iIf (iTest (iBin fLt (iLenT (iVar 5)) (iCa fLen (iCons (iVar 5) iNil)))) (iSet 9 (iTup (iCons (iC (.str "left")) (iCons (iLst false (iCons (iCa (fList false) (iCons (iVar 5) iNil)) iNil)) iNil)))) iNext)
noncomputable def tD : IS := (iIf (iOr (iTest (iBin fNe (iVar 12) (iVar 9))) (iOr (iTest (iBin fNe (iVar 11) (iVar 5))) (iTest (iBin fNeDD (iVar 10) (iVar 2))))) (iRet (iC (.bl false))) iNext)
noncomputable def tE : IS := (iIf (iTest (iBin fNe (iCall 3 m__law_asked (iCons (iVar 4) (iCons (iVar 5) (iCons (iCall 2 m__law_passed (iCons (iVar 0) (iCons (iVar 2) iNil))) iNil)))) (iVar 9))) (iRet (iC (.bl false))) iNext)
noncomputable def tE3 : IS := (iIf (iOr (iTest (iBin fNe (iVar 11) (iVar 5))) (iTest (iBin fNeDD (iVar 10) (iVar 2)))) (iRet (iC (.bl false))) iNext)
noncomputable def tF : IS := (iIf (iTest (iBin fEq (iBin fIx (iVar 9) (iC (.int 0))) (iC (.str "list")))) (iDPut (iVar 2) (iVar 4) (iCa (fList false) (iCons (iBin fIx (iVar 9) (iC (.int 1))) iNil))) iNext)
noncomputable def tRest : IS := (iSeq (iSet 6 eB) (iSeq (iAsg (iCall 1 m__law_merged (iCons (iVar 6) iNil)) (iGTup 2 (iGCons (iName 7) (iGCons (iName 8) iGNil)))) (iSeq (iSet 9 eC) (iSeq tC (iSeq (iSet 10 (iCall 2 m__law_passed (iCons (iVar 0) (iCons (iVar 2) iNil)))) (iSeq (iSet 11 (iCa (fList false) (iCons (iVar 5) iNil))) (iSeq (iSet 12 (iCall 3 m__law_asked (iCons (iVar 4) (iCons (iVar 11) (iCons (iVar 10) iNil))))) (iSeq tD (iSeq (iDrop (iBM "list" fApp (iBin fIx (iVar 12) (iC (.int 1))) (iCons (iC (.str "again")) iNil))) (iSeq tE (iSeq tE3 tF)))))))))))
section
variable {n K a d k : Nat} {S : Sto} {os : Os} {P label : Str} {ps bs : List Str} {x3 x6 x7 x8 x9 x10 x11 x12 : Option IV}
theorem eB_ok (hd : S[d]? = some (.dic (kvD os))) (hp : PsOk P ps) (hk : k ≤ 10) (I : Inv P ps k os) (B : BsOk os bs) :
    eB (wl n a d x3 (some (.str label)) (some (.lst (bs.map IV.str))) x6 x7 x8 x9 x10 x11 x12) S = .ok (.lst ((rowsOf (ordO os) bs).map enR)) S := by
  have hb := B.n
  have R := rows_of hp hk I B
  unfold eB
  have e1 : iLc false (iSrcL (iVar 5)) (giN 14) iYes (iCa (fList false) (iCons (iBin fDGet (iVar 2) (iVar 14)) iNil)) [14] (wl n a d x3 (some (.str label)) (some (.lst (bs.map IV.str))) x6 x7 x8 x9 x10 x11 x12) S = .ok (.lst ((bs.map (ordO os)).map enR)) S := by
    rw [lc_map bs IV.str (fun _ => true) (fun b => enR (ordO os b)) (k := none) (S1 := S) (by rw [iSrcL_e, iVar_s rfl]; rfl) trivial (fun b hb => ⟨_, rfl, rfl, fun _ => listr_e (dget_e rfl rfl hd (val_of I.nd (List.Perm.refl _) (B.m b hb))) (by
      have := (R _ (List.mem_append_left _ (List.mem_map_of_mem hb))).1
      omega)⟩) (by rw [szL]; omega)]
    rw [mkL_f, chk_pos (by rw [List.length_map, szL]; have := List.length_filter_le (fun _ : Str => true) bs; omega), List.filter_eq_self.mpr fun _ _ => rfl, List.map_map]
    rfl
  have e2 : iLst false (iCons (iCa (fList false) (iCons (iVar 5) iNil)) iNil) (wl n a d x3 (some (.str label)) (some (.lst (bs.map IV.str))) x6 x7 x8 x9 x10 x11 x12) S = .ok (.lst [enR bs]) S := by
    rw [iLst_e, iCons_e, listr_e (r := bs) (iVar_s rfl) (by omega)]
    simp only [Out.bind_ok, iNil_e, mkL_f]
    rw [chk_pos (by rw [szL]; show 1 ≤ 16777216; decide)]
  rw [iBin_e, e1, Out.bind_ok, e2, Out.bind_ok, fAdd_l, mkF_e, chk_pos (by rw [List.length_append, List.length_map, List.length_map, szL]; show _ + 1 ≤ _; omega)]
  unfold rowsOf
  rw [List.map_append]
  rfl
theorem eC_ok {t : Nat} (ht : S[t]? = some (.lst ((mergeR (rowsOf (ordO os) bs)).1.map IV.str))) (h : ROk (mergeR (rowsOf (ordO os) bs))) :
    Wp (eC (wl n a d x3 (some (.str label)) (some (.lst (bs.map IV.str))) x6 (some (.adr t)) (some (.lst ((mergeR (rowsOf (ordO os) bs)).2.map enN))) x9 x10 x11 x12) S) fun x S1 => S1 = S ∧ (dupB bs = false → x = .tup [.str (outW (resR label (ordO os) bs)), .lst (outL (resR label (ordO os) bs))]) := by
  unfold resR
  generalize mergeR (rowsOf (ordO os) bs) = R at ht h
  have tt : iTest (iBin fEq (iVar 8) (iLst false iNil)) (wl n a d x3 (some (.str label)) (some (.lst (bs.map IV.str))) x6 (some (.adr t)) (some (.lst (R.2.map enN))) x9 x10 x11 x12) S = .ok (decide (R.2 = [])) S := by
    rw [iTest_e, iBin_e, iVar_s (x := .lst (R.2.map enN)) rfl, Out.bind_ok, empty_l, Out.bind_ok, fEq_e]
    have e : eqB S (.lst (R.2.map enN)) (.lst []) = some (decide (R.2 = [])) := by
      rw [rs_rows]
      have := eqB_rows (S := S) (a := R.2.map fun p => p.1 :: p.2) (b := []) (fun r hr s hs => by
        obtain ⟨p, hp, rfl⟩ := List.mem_map.mp hr
        exact (List.mem_cons.mp hs).elim (fun e => e ▸ (h.b p hp).1.1) fun z => ((h.b p hp).2 s z).1) fun _ z => by cases z
      rw [List.map_nil] at this
      rw [this]
      cases R.2 <;> simp
    rw [e, orBad_some, Out.bind_ok, asB_b]
  unfold eC
  by_cases hR : R.2 = []
  · rw [decide_eq_true hR] at tt
    have hz := h.z
    refine wp_ift tt (wp_tup (wp_cons (wp_c (wp_cons (wp_bin (wp_lst (wp_cons (wp_var rfl (wp_nil (wp_mkf ⟨by rw [szL]; show 1 ≤ 16777216; decide, wp_var rfl (wp_addb ht ⟨by rw [List.length_map, szL]; show 1 + _ ≤ _; omega, wp_nil (wp_mkT ⟨by rw [szL]; show 2 ≤ 16777216; decide, rfl, fun nD => ?_⟩)⟩)⟩))))))))))
    rw [if_neg (by rw [nD]; exact Bool.false_ne_true), if_pos hR]
    unfold outW outL
    rw [if_pos rfl, if_pos rfl]
    rfl
  · rw [decide_eq_false hR] at tt
    refine wp_iff tt (wp_tup (wp_cons (wp_c (wp_cons (wp_var rfl (wp_nil (wp_mkT ⟨by rw [szL]; show 2 ≤ 16777216; decide, rfl, fun nD => ?_⟩)))))))
    rw [if_neg (by rw [nD]; exact Bool.false_ne_true), if_neg hR]
    unfold outW outL
    rw [if_neg hR, if_neg hR]
theorem tC_ok {v : IV} (hb : bs.length ≤ 3) (hv : dupB bs = false → v = .tup [.str (outW (resR label (ordO os) bs)), .lst (outL (resR label (ordO os) bs))]) :
    Wp (tC (wl n a d x3 (some (.str label)) (some (.lst (bs.map IV.str))) x6 x7 x8 (some v) x10 x11 x12) S) fun fl S1 => ∃ L, fl = .nx L ∧ L = wl n a d x3 (some (.str label)) (some (.lst (bs.map IV.str))) x6 x7 x8 (some (.tup [.str (outW (resR label (ordO os) bs)), .lst (outL (resR label (ordO os) bs))])) x10 x11 x12 ∧ S1 = S := by
  have t := wp_dup (S := S) (Λ := wl n a d x3 (some (.str label)) (some (.lst (bs.map IV.str))) x6 x7 x8 (some v) x10 x11 x12) (i := 5) (bs := bs) rfl (by omega)
  unfold tC
  cases hD : dupB bs with
  | false =>
    rw [hD] at t
    rw [hv hD]
    rw [hv hD] at t
    exact wp_iff t (wp_next ⟨_, rfl, rfl, rfl⟩)
  | true =>
    rw [hD] at t
    refine wp_ift t (wp_set (wp_tup (wp_cons (wp_c (wp_cons (wp_lst (wp_cons (.of (listr_e (r := bs) (iVar_s rfl) (by omega)) (wp_nil (wp_mkf ⟨by rw [szL]; show 1 ≤ 16777216; decide, wp_nil (wp_mkT ⟨by rw [szL]; show 2 ≤ 16777216; decide, _, rfl, ?_, rfl⟩)⟩))))))))))
    obtain ⟨b, r, rfl⟩ := dup_ne hD
    unfold resR
    rw [if_pos hD]
    rfl
end
end K18
set_option maxHeartbeats 4000000
/-! one class of the law -/
namespace K18
open PySem PySem.Spec PyProof.Rows L2 Sm Lw
local macro_rules | `(tactic| decreasing_trivial) => `(tactic| first | assumption | with_unfolding_all exact Eq.refl _ | omega | (simp only [szL, len_app, one_len, lits, List.length_append, List.length_cons, List.length_map, List.length_nil, List.length_replicate]; omega) | decide | exact trivial | exact cdiv_mk (by decide) (by decide) | exact cmul_l (by omega) (by omega) | exact cmul_r (by omega) (by omega))
local macro_rules | `(tactic| decreasing_trivial_pre_omega) => `(tactic| with_reducible first
  | refine wp_seq ?_ | (refine wp_appV (by with_unfolding_all exact rfl) (Hd.at (by assumption) 0 (by with_unfolding_all exact rfl)) ?_) | (refine wp_extV (by with_unfolding_all exact rfl) (Hd.at (by assumption) 0 (by with_unfolding_all exact rfl)) ?_) | (refine wp_appV (by with_unfolding_all exact rfl) (Hd.at (by assumption) 1 (by with_unfolding_all exact rfl)) ?_) | (refine wp_extV (by with_unfolding_all exact rfl) (Hd.at (by assumption) 1 (by with_unfolding_all exact rfl)) ?_) | (refine wp_appV (by with_unfolding_all exact rfl) (Hd.at (by assumption) 2 (by with_unfolding_all exact rfl)) ?_) | (refine wp_extV (by with_unfolding_all exact rfl) (Hd.at (by assumption) 2 (by with_unfolding_all exact rfl)) ?_) | (refine wp_appV (by with_unfolding_all exact rfl) (Hd.at (by assumption) 3 (by with_unfolding_all exact rfl)) ?_) | (refine wp_extV (by with_unfolding_all exact rfl) (Hd.at (by assumption) 3 (by with_unfolding_all exact rfl)) ?_) | refine wp_nx ?_ | refine wp_set ?_ | (apply wp_var; with_unfolding_all exact rfl) | refine wp_c ?_ | refine wp_bin ?_ | refine wp_cons ?_ | refine wp_nil ?_ | refine wp_ca ?_ | refine wp_call ?_ | refine wp_bm ?_ | refine wp_drop ?_ | refine wp_ret ?_ | refine wp_rt ?_ | refine wp_un ?_
  | (refine Chk.mk ?_ ?_; decreasing_trivial)
  | refine wp_lst ?_ | refine wp_tup ?_ | refine wp_mkf ?_ | refine wp_mkT ?_ | refine wp_fI ?_ | refine wp_fB ?_ | refine wp_addi ?_ | refine wp_addI ?_ | refine wp_adds ?_ | refine wp_addl ?_
  | refine wp_test ?_ | refine wp_tru ?_ | refine ex_bl ?_ | refine tr_bl ?_ | refine ex_int ?_ | refine wp_not ?_ | refine wp_eqi ?_ | refine wp_nei ?_ | refine wp_eqs ?_ | refine wp_nes ?_ | refine wp_inti ?_ | refine wp_intb ?_ | refine wp_max2 ?_ | refine wp_min2 ?_ | refine wp_isN ?_ | refine wp_notN ?_
  | (refine ⟨_, _, _, 0, _, (by assumption), (by with_unfolding_all exact rfl), ?_⟩) | (refine ⟨_, _, _, 0, _, _, (by assumption), (by with_unfolding_all exact rfl), (by with_unfolding_all exact rfl), ?_⟩) | (refine wp_len (Sm.lenN_a (Hd.at (by assumption) 0 (by with_unfolding_all exact rfl))) ?_) | (refine ⟨_, _, _, 1, _, (by assumption), (by with_unfolding_all exact rfl), ?_⟩) | (refine ⟨_, _, _, 1, _, _, (by assumption), (by with_unfolding_all exact rfl), (by with_unfolding_all exact rfl), ?_⟩) | (refine wp_len (Sm.lenN_a (Hd.at (by assumption) 1 (by with_unfolding_all exact rfl))) ?_) | (refine ⟨_, _, _, 2, _, (by assumption), (by with_unfolding_all exact rfl), ?_⟩) | (refine ⟨_, _, _, 2, _, _, (by assumption), (by with_unfolding_all exact rfl), (by with_unfolding_all exact rfl), ?_⟩) | (refine wp_len (Sm.lenN_a (Hd.at (by assumption) 2 (by with_unfolding_all exact rfl))) ?_) | (refine ⟨_, _, _, 3, _, (by assumption), (by with_unfolding_all exact rfl), ?_⟩) | (refine ⟨_, _, _, 3, _, _, (by assumption), (by with_unfolding_all exact rfl), (by with_unfolding_all exact rfl), ?_⟩) | (refine wp_len (Sm.lenN_a (Hd.at (by assumption) 3 (by with_unfolding_all exact rfl))) ?_) | (refine wp_len (lenN_l _) ?_) | (refine wp_len (lenN_t _) ?_) | (refine wp_len (lenN_w _) ?_)
  | (refine wp_adda (Hd.at (by assumption) 0 (by with_unfolding_all exact rfl)) (by with_unfolding_all exact rfl) ?_) | (refine wp_adda (Hd.at (by assumption) 1 (by with_unfolding_all exact rfl)) (by with_unfolding_all exact rfl) ?_) | (refine wp_adda (Hd.at (by assumption) 2 (by with_unfolding_all exact rfl)) (by with_unfolding_all exact rfl) ?_) | (refine wp_adda (Hd.at (by assumption) 3 (by with_unfolding_all exact rfl)) (by with_unfolding_all exact rfl) ?_) | (refine wp_addb (Hd.at (by assumption) 0 (by with_unfolding_all exact rfl)) ?_) | (refine wp_addb (Hd.at (by assumption) 1 (by with_unfolding_all exact rfl)) ?_) | (refine wp_addb (Hd.at (by assumption) 2 (by with_unfolding_all exact rfl)) ?_) | (refine wp_addb (Hd.at (by assumption) 3 (by with_unfolding_all exact rfl)) ?_)
  | (refine wp_isi (b := true) (by with_unfolding_all exact rfl) (by decide +kernel) ?_) | (refine wp_isi (b := false) (by with_unfolding_all exact rfl) (by decide +kernel) ?_) | (refine wp_xis (b := true) (by decide +kernel) (by with_unfolding_all exact rfl) (by assumption) ?_) | (refine wp_xis (b := false) (by decide +kernel) (by with_unfolding_all exact rfl) (by assumption) ?_) | (refine wp_xf (by with_unfolding_all exact rfl) (by assumption) (by with_unfolding_all exact rfl) ?_)
  | refine wp_next ?_ | refine wp_retN ?_ | refine wp_brk ?_ | refine wp_cnt ?_ | refine wp_bk ?_ | refine wp_ct ?_ | refine fq_rt ?_ | refine fq_nx ?_ | refine lq_nx ?_ | refine lq_ct ?_ | refine lq_bk ?_ | refine lq_rt ?_ | refine wp_name ?_ | refine wp_asg ?_ | refine wp_gtup ?_ | refine wp_gcons ?_ | refine wp_gnil ?_
  | refine wp_sl ?_ | refine wp_noPart ?_ | refine wp_part ?_ | refine wp_sls ?_ | refine wp_sll ?_ | refine wp_notV ?_ | refine wp_andV ?_ | refine wp_orV ?_ | (apply wp_aug; with_unfolding_all exact rfl) | refine wp_par ?_ | refine ex_two ?_ | refine wp_yes ?_ | refine wp_range ?_ | refine wp_range2 ?_ | refine wp_srcL ?_ | refine srcL_l ?_ | refine wp_neg ?_ | exact And.intro (Eq.refl _) (Eq.refl _) | apply te_and | apply te_or | apply te_andV | apply te_orV | (apply wp_ifP; (focus (decreasing_tactic; done))) | refine ex_nx ?_ | refine fun (_ : Sto) (_ : Hd _ _ _ _) => ?_ | refine wp_call0 ?_)
local macro_rules | `(tactic| decreasing_tactic) => `(tactic| repeat decreasing_trivial_pre_omega)
section
variable {n K a d k : Nat} {S : Sto} {os : Os} {P label : Str} {ps bs : List Str} {x3 x6 x7 x8 x9 x10 x11 x12 : Option IV}
theorem eq_due {q : Nat} {R : List Str × List NR} (h : ROk R) (hq : S[q]? = some (.lst (outL R))) : eqB S (.tup [.str (outW R), .adr q]) (.tup [.str (outW R), .lst (outL R)]) = some true := eqB_same (view_found hq) view_lst (toldD_shaped h) rfl
theorem eq_bs (ok : ∀ s ∈ bs, okS s) : eqB S (.lst (bs.map IV.str)) (.lst (bs.map IV.str)) = some true := by rw [eqB_strs ok ok, decide_eq_true rfl]
theorem outL_len {R : List Str × List NR} (h : ROk R) : (outL R).length ≤ 5000 := by
  have := h.z
  unfold outL
  split
  · rw [List.length_map]; omega
  · rw [List.length_map]
    have : ∀ l : List NR, l.length ≤ sizeP l := fun l => by
      induction l with
      | nil => exact Nat.le_refl _
      | cons p l ih => rw [List.length_cons, sizeP]; omega
    have := this R.2
    omega
theorem w_list (R : List Str × List NR) : decide (outW R = ("list" : Str)) = decide (R.2 = []) := by
  unfold outW
  by_cases h : R.2 = []
  · rw [if_pos h, decide_eq_true rfl, decide_eq_true h]
  · rw [if_neg h, decide_eq_false h]
    decide +kernel
theorem res_nil {ord : Str → List Str} (h : (resR label ord bs).2 = []) : resR label ord bs = (label :: (mergeR (rowsOf ord bs)).1, []) := by
  unfold resR at h ⊢
  split at h
  · rename_i hD
    obtain ⟨b, r, rfl⟩ := dup_ne hD
    cases h
  · rename_i hD
    rw [if_neg hD]
    split at h
    · rename_i hR
      rw [if_pos hR]
    · rename_i hR
      exact absurd h hR
theorem rest_ok {x : Str} (hp : PsOk P ps) (hk : k < 10) (I : Inv P ps k os) (B : BsOk os bs) (hx : ps[k]? = some x) (hl : label = lb P x) (h : Hd n K [(d, .dic (kvD os)), (a, .lst (ps.map IV.str))] S) (hK : K ≤ 500000) :
    Wp (tRest (wl n a d x3 (some (.str label)) (some (.lst (bs.map IV.str))) x6 x7 x8 x9 x10 x11 x12) S) fun fl S' => ∃ L, fl = .nx L ∧ ∃ (x4 x5 x6 x7 x8 x9 x10 x11 x12 : Option IV) (os' : Os), L = wl n a d x3 x4 x5 x6 x7 x8 x9 x10 x11 x12 ∧ Inv P ps (k + 1) os' ∧ Hd n (K + 20) [(d, .dic (kvD os')), (a, .lst (ps.map IV.str))] S' := by
  have hb := B.n
  have ok := I.ok hp (by omega)
  obtain ⟨R1, R2, R3⟩ := rows_ok hp (by omega) I B
  obtain ⟨l1, l2⟩ := lab_in hp hx
  have lk := labs_ok hp _ l1
  rw [← hl] at lk
  have RO := res_ok (label := label) hp (by omega) I B lk
  have okb : ∀ s ∈ bs, okS s := fun s hs => by
    obtain ⟨p, hp', rfl⟩ := List.mem_map.mp (B.m s hs)
    exact (ok.k p hp').1
  have hz : (mergeR (rowsOf (ordO os) bs)).1.length ≤ 100000 := by have := R2.z; omega
  have ll := outL_len RO
  unfold tRest
  refine wp_seq (wp_set (.of (eB_ok (h.at 0 rfl) hp (by omega) I B) (wp_nx ?_)))
  refine wp_seq (wp_asg (wp_call (wp_cons (wp_var (by with_unfolding_all exact rfl) (wp_nil ⟨rfl, wp_merged h R1 fun t S h => wp_gtup ⟨rfl, wp_gcons (wp_name (wp_gcons (wp_name (wp_gnil (wp_nx ?_)))))⟩⟩)))))
  refine wp_seq (wp_set ((eC_ok (n := n) (a := a) (d := d) (x3 := x3) (label := label) (x6 := some (.lst ((rowsOf (ordO os) bs).map enR))) (x9 := x9) (x10 := x10) (x11 := x11) (x12 := x12) (h.at 0 rfl) R2).imp fun v S1 ⟨e, hv⟩ => ?_))
  subst e
  refine wp_nx ?_
  refine wp_join_ (fun L S' => L = wl n a d x3 (some (.str label)) (some (.lst (bs.map IV.str))) (some (.lst ((rowsOf (ordO os) bs).map enR))) (some (.adr t)) (some (.lst ((mergeR (rowsOf (ordO os) bs)).2.map enN))) (some (.tup [.str (outW (resR label (ordO os) bs)), .lst (outL (resR label (ordO os) bs))])) x10 x11 x12 ∧ S' = S1) (tC_ok (n := n) (a := a) (d := d) (x3 := x3) (x10 := x10) (x11 := x11) (x12 := x12) hb hv) ?_
  rintro L S' ⟨rfl, rfl⟩
  generalize hR : resR label (ordO os) bs = R at RO ll
  refine wp_seq (wp_set (wp_call (wp_cons (wp_var (by with_unfolding_all exact rfl) (wp_cons (wp_var (by with_unfolding_all exact rfl) (wp_nil ⟨rfl, wp_passed ok h (List.mem_of_getElem? (i := 1) rfl) (by omega) fun e os' S p h => wp_nx ?_⟩)))))))
  refine wp_seq (wp_set (.of (listr_e (r := bs) (iVar_s rfl) (by omega)) (wp_nx ?_)))
  refine wp_seq (wp_set (wp_call (wp_cons (wp_var (by with_unfolding_all exact rfl) (wp_cons (wp_var (by with_unfolding_all exact rfl) (wp_cons (wp_var (by with_unfolding_all exact rfl) (wp_nil ⟨rfl, ?_⟩)))))))))
  refine wp_asked (label := label) (bs := bs) (ord := ordO os) h (h.at 0 rfl) (fun b hb => val_of I.nd p (B.m b hb)) R1 (by omega) hz fun q S h => wp_nx ?_
  rw [hR] at h
  rw [hR]
  have e1 := eq_due RO (h.at 0 rfl)
  refine wp_seq ?_
  unfold tD
  refine wp_ifP (B := false) (te_or (B := false) (C := false) (wp_test (wp_bin (wp_var (by with_unfolding_all exact rfl) (wp_var (by with_unfolding_all exact rfl) (wp_ne e1 (ex_bl ⟨rfl, rfl⟩)))))) (te_or (B := false) (C := false) (wp_test (wp_bin (wp_var (by with_unfolding_all exact rfl) (wp_var (by with_unfolding_all exact rfl) (wp_ne (eq_bs okb) (ex_bl ⟨rfl, rfl⟩)))))) (wp_test (wp_bin (wp_var (by with_unfolding_all exact rfl) (wp_var (by with_unfolding_all exact rfl) (wp_sameD ok p (h.at 1 rfl) (h.at 3 rfl) (ex_bl ⟨rfl, rfl⟩)))))))) (fun z => by cases z) fun _ => wp_next (wp_nx ?_)
  refine wp_seq (wp_drop (wp_bm (wp_bin (wp_var (by with_unfolding_all exact rfl) (wp_c (wp_ixt (v := .adr q) (by rfl) ⟨cty_a (h.at 0 rfl), wp_cons (wp_c (wp_nil (wp_app h 0 rfl ⟨by rw [szL]; omega, fun S h => wp_nx ?_⟩)))⟩))))))
  refine wp_seq ?_
  unfold tE
  refine wp_if (wp_test (wp_bin (wp_call (wp_cons (wp_var (by with_unfolding_all exact rfl) (wp_cons (wp_var (by with_unfolding_all exact rfl) (wp_cons (wp_call (wp_cons (wp_var (by with_unfolding_all exact rfl) (wp_cons (wp_var (by with_unfolding_all exact rfl) (wp_nil ⟨rfl, wp_passed ok h (List.mem_of_getElem? (i := 3) rfl) (by omega) fun e2 os2 S p2 h => wp_nil ⟨rfl, ?_⟩⟩))))))))))))))
  refine wp_asked (label := label) (bs := bs) (ord := ordO os) h (h.at 0 rfl) (fun b hb => val_of I.nd p2 (B.m b hb)) R1 (by omega) hz fun q2 S h => ?_
  rw [hR] at h
  rw [hR]
  refine wp_var (by with_unfolding_all exact rfl) (wp_ne (eq_due RO (h.at 0 rfl)) (ex_bl ⟨fun z => (by cases z), fun _ => wp_next (wp_nx ?_)⟩))
  refine wp_seq ?_
  unfold tE3
  refine wp_ifP (B := false) (te_or (B := false) (C := false) (wp_test (wp_bin (wp_var (by with_unfolding_all exact rfl) (wp_var (by with_unfolding_all exact rfl) (wp_ne (eq_bs okb) (ex_bl ⟨rfl, rfl⟩)))))) (wp_test (wp_bin (wp_var (by with_unfolding_all exact rfl) (wp_var (by with_unfolding_all exact rfl) (wp_sameD ok p (h.at 3 rfl) (h.at 5 rfl) (ex_bl ⟨rfl, rfl⟩))))))) (fun z => by cases z) fun _ => wp_next (wp_nx ?_)
  unfold tF
  refine wp_if (wp_test (wp_bin (wp_bin (wp_var (by with_unfolding_all exact rfl) (wp_c (wp_ixt (v := .str (outW R)) (by rfl) (wp_c (wp_eqs (ex_bl ⟨fun z => ?_, fun z => ?_⟩)))))))))
  · rw [w_list] at z
    have hn := of_decide_eq_true z
    have e := res_nil (hR ▸ hn)
    rw [hR] at e
    have lR : outL R = (label :: (mergeR (rowsOf (ordO os) bs)).1).map IV.str := by
      rw [e]
      unfold outL
      rw [if_pos rfl]
    obtain ⟨I2, nw⟩ := I.more hp (by omega) B hx
    refine wp_dput (wp_ca (wp_cons (wp_bin (wp_var (by with_unfolding_all exact rfl) (wp_c (wp_ixt (v := .lst (outL R)) (by rfl) (wp_nil ?_)))))))
    have z2 := R2.z
    refine Wp.of (a := enR (label :: (mergeR (rowsOf (ordO os) bs)).1)) (S := S) ?_ (wp_var (by with_unfolding_all exact rfl) (wp_var (by with_unfolding_all exact rfl) ⟨_, _, _, 5, _, _, _, rfl, rfl, h, rfl, ?_, fun S h => ?_⟩))
    · rw [lR]
      unfold fList enR
      rw [a1_1, show seqOf S (.lst ((label :: (mergeR (rowsOf (ordO os) bs)).1).map IV.str)) = some ((label :: (mergeR (rowsOf (ordO os) bs)).1).map IV.str) from rfl, orBad_some, mkL_f, chk_pos (by rw [List.length_map, List.length_cons, szL]; omega)]
    · have := ok.n
      unfold kvD
      rw [List.length_map, szL]; omega
    · have e2 := putD (done := os) (p := (lb P x, lb P x :: (mergeR (rowsOf (ordO os) bs)).1)) nw
      rw [hl] at h
      have h : Hd n (K + 10 + 10) ([_, _, _, _, _] ++ [(d, .dic (putK' (kvD os) (.inr (lb P x)) (enR (lb P x :: (mergeR (rowsOf (ordO os) bs)).1)))), (a, .lst (ps.map IV.str))]) S := h
      have h := h.app
      rw [e2] at h
      exact ⟨_, rfl, _, _, _, _, _, _, _, _, _, _, rfl, I2, h⟩
  · have h : Hd n (K + 10 + 10) ([_, _, _, _, _] ++ [(d, .dic (kvD os)), (a, .lst (ps.map IV.str))]) S := h
    exact wp_next ⟨_, rfl, _, _, _, _, _, _, _, _, _, os, rfl, I.up, h.app⟩
end
end K18
set_option maxHeartbeats 2000000
/-! the law -/
namespace K18
open PySem PySem.Spec PyProof.Rows L2 Sm Lw
local macro_rules | `(tactic| decreasing_trivial) => `(tactic| first | assumption | with_unfolding_all exact Eq.refl _ | omega | (simp only [szL, len_app, one_len, lits, List.length_append, List.length_cons, List.length_map, List.length_nil, List.length_replicate]; omega) | decide | exact trivial | exact cdiv_mk (by decide) (by decide) | exact cmul_l (by omega) (by omega) | exact cmul_r (by omega) (by omega))
local macro_rules | `(tactic| decreasing_trivial_pre_omega) => `(tactic| with_reducible first
  | refine wp_seq ?_ | (refine wp_appV (by with_unfolding_all exact rfl) (Hd.at (by assumption) 0 (by with_unfolding_all exact rfl)) ?_) | (refine wp_extV (by with_unfolding_all exact rfl) (Hd.at (by assumption) 0 (by with_unfolding_all exact rfl)) ?_) | (refine wp_appV (by with_unfolding_all exact rfl) (Hd.at (by assumption) 1 (by with_unfolding_all exact rfl)) ?_) | (refine wp_extV (by with_unfolding_all exact rfl) (Hd.at (by assumption) 1 (by with_unfolding_all exact rfl)) ?_) | (refine wp_appV (by with_unfolding_all exact rfl) (Hd.at (by assumption) 2 (by with_unfolding_all exact rfl)) ?_) | (refine wp_extV (by with_unfolding_all exact rfl) (Hd.at (by assumption) 2 (by with_unfolding_all exact rfl)) ?_) | (refine wp_appV (by with_unfolding_all exact rfl) (Hd.at (by assumption) 3 (by with_unfolding_all exact rfl)) ?_) | (refine wp_extV (by with_unfolding_all exact rfl) (Hd.at (by assumption) 3 (by with_unfolding_all exact rfl)) ?_) | refine wp_nx ?_ | refine wp_set ?_ | (apply wp_var; with_unfolding_all exact rfl) | refine wp_c ?_ | refine wp_bin ?_ | refine wp_cons ?_ | refine wp_nil ?_ | refine wp_ca ?_ | refine wp_call ?_ | refine wp_bm ?_ | refine wp_drop ?_ | refine wp_ret ?_ | refine wp_rt ?_ | refine wp_un ?_
  | (refine Chk.mk ?_ ?_; decreasing_trivial)
  | refine wp_lst ?_ | refine wp_tup ?_ | refine wp_mkf ?_ | refine wp_mkT ?_ | refine wp_fI ?_ | refine wp_fB ?_ | refine wp_addi ?_ | refine wp_addI ?_ | refine wp_adds ?_ | refine wp_addl ?_
  | refine wp_test ?_ | refine wp_tru ?_ | refine ex_bl ?_ | refine tr_bl ?_ | refine ex_int ?_ | refine wp_not ?_ | refine wp_eqi ?_ | refine wp_nei ?_ | refine wp_eqs ?_ | refine wp_nes ?_ | refine wp_inti ?_ | refine wp_intb ?_ | refine wp_max2 ?_ | refine wp_min2 ?_ | refine wp_isN ?_ | refine wp_notN ?_
  | (refine ⟨_, _, _, 0, _, (by assumption), (by with_unfolding_all exact rfl), ?_⟩) | (refine ⟨_, _, _, 0, _, _, (by assumption), (by with_unfolding_all exact rfl), (by with_unfolding_all exact rfl), ?_⟩) | (refine wp_len (Sm.lenN_a (Hd.at (by assumption) 0 (by with_unfolding_all exact rfl))) ?_) | (refine ⟨_, _, _, 1, _, (by assumption), (by with_unfolding_all exact rfl), ?_⟩) | (refine ⟨_, _, _, 1, _, _, (by assumption), (by with_unfolding_all exact rfl), (by with_unfolding_all exact rfl), ?_⟩) | (refine wp_len (Sm.lenN_a (Hd.at (by assumption) 1 (by with_unfolding_all exact rfl))) ?_) | (refine ⟨_, _, _, 2, _, (by assumption), (by with_unfolding_all exact rfl), ?_⟩) | (refine ⟨_, _, _, 2, _, _, (by assumption), (by with_unfolding_all exact rfl), (by with_unfolding_all exact rfl), ?_⟩) | (refine wp_len (Sm.lenN_a (Hd.at (by assumption) 2 (by with_unfolding_all exact rfl))) ?_) | (refine ⟨_, _, _, 3, _, (by assumption), (by with_unfolding_all exact rfl), ?_⟩) | (refine ⟨_, _, _, 3, _, _, (by assumption), (by with_unfolding_all exact rfl), (by with_unfolding_all exact rfl), ?_⟩) | (refine wp_len (Sm.lenN_a (Hd.at (by assumption) 3 (by with_unfolding_all exact rfl))) ?_) | (refine wp_len (lenN_l _) ?_) | (refine wp_len (lenN_t _) ?_) | (refine wp_len (lenN_w _) ?_)
  | (refine wp_adda (Hd.at (by assumption) 0 (by with_unfolding_all exact rfl)) (by with_unfolding_all exact rfl) ?_) | (refine wp_adda (Hd.at (by assumption) 1 (by with_unfolding_all exact rfl)) (by with_unfolding_all exact rfl) ?_) | (refine wp_adda (Hd.at (by assumption) 2 (by with_unfolding_all exact rfl)) (by with_unfolding_all exact rfl) ?_) | (refine wp_adda (Hd.at (by assumption) 3 (by with_unfolding_all exact rfl)) (by with_unfolding_all exact rfl) ?_) | (refine wp_addb (Hd.at (by assumption) 0 (by with_unfolding_all exact rfl)) ?_) | (refine wp_addb (Hd.at (by assumption) 1 (by with_unfolding_all exact rfl)) ?_) | (refine wp_addb (Hd.at (by assumption) 2 (by with_unfolding_all exact rfl)) ?_) | (refine wp_addb (Hd.at (by assumption) 3 (by with_unfolding_all exact rfl)) ?_)
  | (refine wp_isi (b := true) (by with_unfolding_all exact rfl) (by decide +kernel) ?_) | (refine wp_isi (b := false) (by with_unfolding_all exact rfl) (by decide +kernel) ?_) | (refine wp_xis (b := true) (by decide +kernel) (by with_unfolding_all exact rfl) (by assumption) ?_) | (refine wp_xis (b := false) (by decide +kernel) (by with_unfolding_all exact rfl) (by assumption) ?_) | (refine wp_xf (by with_unfolding_all exact rfl) (by assumption) (by with_unfolding_all exact rfl) ?_)
  | refine wp_next ?_ | refine wp_retN ?_ | refine wp_brk ?_ | refine wp_cnt ?_ | refine wp_bk ?_ | refine wp_ct ?_ | refine fq_rt ?_ | refine fq_nx ?_ | refine lq_nx ?_ | refine lq_ct ?_ | refine lq_bk ?_ | refine lq_rt ?_ | refine wp_name ?_ | refine wp_asg ?_ | refine wp_gtup ?_ | refine wp_gcons ?_ | refine wp_gnil ?_
  | refine wp_sl ?_ | refine wp_noPart ?_ | refine wp_part ?_ | refine wp_sls ?_ | refine wp_sll ?_ | refine wp_notV ?_ | refine wp_andV ?_ | refine wp_orV ?_ | (apply wp_aug; with_unfolding_all exact rfl) | refine wp_par ?_ | refine ex_two ?_ | refine wp_yes ?_ | refine wp_range ?_ | refine wp_range2 ?_ | refine wp_srcL ?_ | refine srcL_l ?_ | refine wp_neg ?_ | exact And.intro (Eq.refl _) (Eq.refl _) | apply te_and | apply te_or | apply te_andV | apply te_orV | (apply wp_ifP; (focus (decreasing_tactic; done))) | refine ex_nx ?_ | refine fun (_ : Sto) (_ : Hd _ _ _ _) => ?_ | refine wp_call0 ?_)
local macro_rules | `(tactic| decreasing_tactic) => `(tactic| repeat decreasing_trivial_pre_omega)
theorem b_right_e : b__law_right = (iSeq (iSet 1 (iCall 1 m__law_pool (iCons (iVar 0) iNil))) (iSeq (iSet 2 iDNew) (iSeq (iFor (iSrcR1 (iBin fAdd (iC (.int 1)) (iCall 2 m__law_draw (iCons (iVar 0) (iCons (iC (.int 10)) iNil))))) (iName 3)
    (iSeq (iSet 4 (iBin fAdd (iBin fAdd (iBin fIx (iVar 1) (iC (.int 11))) (iC (.str "."))) (iBin fIx (iVar 1) (iVar 3)))) (iSeq (iSet 5 (iLst false iNil)) (iSeq tA1 (iSeq tA2 tRest))))) (iRet (iC (.bl true)))))) := rfl
section
variable {n K : Nat} {S : Sto} {Q : IV → Sto → Prop}
theorem psOk {ps : List Str} (h : ps.length = 12) (p : Pool ps keptL) {P : Str} (hP : ps[11]? = some P) : PsOk P ps := ⟨h, ⟨(p.abc P (List.mem_of_getElem? hP)).ok, (p.len P (List.mem_of_getElem? hP)).2⟩, fun x hx => ⟨(p.abc x hx).ok, (p.len x hx).2⟩, p.nd⟩
theorem right_ok (h : Hd n K [] S) (hK : K ≤ 300000) (q : ∀ S', Hd n (K + 400) [] S' → Q (.bl true) S') : Wp (m__law_right [.adr n] S) Q := by
  have hsz := szL
  refine wd__law_right ?_
  rw [b_right_e]
  refine wp_seq (wp_set (wp_call (wp_cons (wp_var (by with_unfolding_all exact rfl) (wp_nil ⟨rfl, wp_pool h (by omega) fun a ps S hl pp h => wp_nx ?_⟩)))))
  refine wp_seq (wp_set (wp_dnew h fun d S h => wp_nx ?_))
  have h11 : 11 < ps.length := by omega
  have PO := psOk hl pp (List.getElem?_eq_getElem h11)
  have D : Wp (iBin fAdd (iC (.int 1)) (iCall 2 m__law_draw (iCons (iVar 0) (iCons (iC (.int 10)) iNil))) (wl n a d none none none none none none none none none none) S) fun x S1 => ∃ j : Nat, x = .int j ∧ j ≤ 10 ∧ Hd n (K + 72 + 1) [(d, .dic []), (a, .lst (ps.map IV.str))] S1 :=
    wp_bin (wp_c (wp_call (wp_cons (wp_var (by with_unfolding_all exact rfl) (wp_cons (wp_c (wp_nil ⟨rfl, wp_drawK h (by omega) (by omega) (by omega) fun r S h r0 r1 => wp_addi ⟨(1 + r).toNat, by rw [Int.toNat_of_nonneg (by omega)], by omega, h⟩⟩)))))))
  obtain ⟨_, S1, e1, j, rfl, hj, h⟩ := D
  refine wp_seq (wp_for (k := none) (List.range j) (fun i : Nat => IV.int i) (fun i Λ S => ∃ (x3 x4 x5 x6 x7 x8 x9 x10 x11 x12 : Option IV) (os : Os), Λ = wl n a d x3 x4 x5 x6 x7 x8 x9 x10 x11 x12 ∧ Inv ps[11] ps i os ∧ Hd n (K + 73 + 30 * i) [(d, .dic (kvD os)), (a, .lst (ps.map IV.str))] S)
    (wp_range (.of e1 ⟨_, rfl, ⟨by omega, by omega⟩, by simp, none, none, none, none, none, none, none, none, none, none, [], rfl, ⟨List.nodup_nil, fun _ z => (by cases z), fun _ z => (by cases z)⟩, h⟩)) stay_n ?_ ?_)
  · rintro i Λ S b hb ⟨x3, x4, x5, x6, x7, x8, x9, x10, x11, x12, os, rfl, I, h⟩
    obtain ⟨rfl, hi⟩ := rg_some hb
    have hb12 : b < ps.length := by omega
    have hx : ps[b]? = some ps[b] := List.getElem?_eq_getElem hb12
    have mP := PO.p.2
    have mX := (PO.m _ (List.getElem_mem hb12)).2
    have at1 : (ps.map IV.str)[11]? = some (.str ps[11]) := by simp [h11]
    have at2 : (ps.map IV.str)[b]? = some (.str ps[b]) := by simp [hb12]
    have ld : ("." : Str).length = 1 := by decide +kernel
    have ok := I.ok PO (by omega)
    refine wp_name (wp_seq (wp_set (wp_bin (wp_bin (wp_bin (wp_var (by with_unfolding_all exact rfl) (wp_c (wp_ixa (h.at 1 rfl) (atI_nat (j := 11) at1) (wp_c (wp_adds ⟨by omega, wp_bin (wp_var (by with_unfolding_all exact rfl) (wp_var (by with_unfolding_all exact rfl) (wp_ixa (h.at 1 rfl) (atI_nat (j := b) at2) (wp_adds ⟨by rw [len_app]; omega, wp_nx ?_⟩))))⟩))))))))))
    refine wp_seq (wp_set (wp_lst (wp_nil (wp_mkf ⟨Nat.zero_le _, wp_nx ?_⟩))))
    refine wp_join_ (fun L S' => ∃ bs, L = wl n a d (some (.int b)) (some (.str (lb ps[11] ps[b]))) (some (.lst (bs.map IV.str))) x6 x7 x8 x9 x10 x11 x12 ∧ BsOk os bs ∧ Hd n (K + 73 + 30 * b + 4) [(d, .dic (kvD os)), (a, .lst (ps.map IV.str))] S') (a1_ok (n := n) (a := a) (d := d) (x3 := some (.int b)) (x4 := some (.str (lb ps[11] ps[b]))) (x6 := x6) (x7 := x7) (x8 := x8) (x9 := x9) (x10 := x10) (x11 := x11) (x12 := x12) ok h (List.mem_of_getElem? (i := 0) rfl) (by omega)) ?_
    rintro L S' ⟨bs, rfl, B, h⟩
    refine wp_join_ (fun L S' => ∃ bs, L = wl n a d (some (.int b)) (some (.str (lb ps[11] ps[b]))) (some (.lst (bs.map IV.str))) x6 x7 x8 x9 x10 x11 x12 ∧ BsOk os bs ∧ Hd n (K + 73 + 30 * b + 4 + 1) [(d, .dic (kvD os)), (a, .lst (ps.map IV.str))] S') (a2_ok B h (by omega)) ?_
    rintro L S' ⟨bs, rfl, B, h⟩
    refine (rest_ok (n := n) (a := a) (d := d) (x3 := some (.int b)) PO (by omega) I B hx rfl h (by omega)).imp fun fl S' ⟨L, e1, y4, y5, y6, y7, y8, y9, y10, y11, y12, os', e2, I', h'⟩ => ?_
    subst e1 e2
    exact lq_nx ⟨_, _, _, _, _, _, _, _, _, _, os', rfl, I', h'.up (by omega)⟩
  · rintro Λ S ⟨x3, x4, x5, x6, x7, x8, x9, x10, x11, x12, os, rfl, I, h⟩
    rw [List.length_range] at h
    exact wp_nx (wp_ret (wp_c (fq_rt (q S (h.nil.up (by omega))))))
end
def lw (xs : List Int) (a b c : Option IV) : Slots := [some (.wls (xs.map IV.int)), a, b, c]
theorem lw_ok {xs : List Int} (hx : xs.length ≤ 63) {S : Sto} : Wp (m_law [.wls (xs.map IV.int)] S) fun v _ => v = .bl true := by
  refine wd_law ?_
  unfold b_law
  refine wp_seq (wp_for (k := none) (List.range (Lw.turns 8 xs)) (fun i : Nat => IV.int i) (fun i Λ S => ∃ a b c : Option IV, Λ = lw xs a b c) (.of (Lw.places_src (by decide) rfl hx) ⟨rfl, _, _, _, rfl⟩) stay_n ?_ ?_)
  · rintro i Λ S k hk ⟨a, b, c, rfl⟩
    obtain ⟨rfl, hk⟩ := rg_some hk
    refine wp_name (wp_seq (wp_set (wp_call (wp_cons (wp_var (by with_unfolding_all exact rfl) (wp_cons (wp_var (by with_unfolding_all exact rfl) (wp_nil ⟨rfl, wp_sourceK fun n S H => wp_nx ?_⟩))))))))
    refine wp_for (k := none) (List.range 3) (fun i : Nat => IV.int i) (fun i Λ S => (∃ b : Option IV, Λ = lw xs (some (.int (k : Nat))) (some (.adr n)) b) ∧ Hd n (400 * i) [] S) (wp_range (wp_c ⟨_, rfl, ⟨by omega, by omega⟩, rfl, ⟨_, rfl⟩, H⟩)) stay_n ?_ ?_
    · rintro i Λ S b hb ⟨⟨y, rfl⟩, h⟩
      have hi := (rg_some hb).2
      refine wp_name (wp_if (wp_not (wp_tru (wp_call (wp_cons (wp_var (by with_unfolding_all exact rfl) (wp_nil ⟨rfl, right_ok h (by omega) fun S h => ⟨_, rfl, fun z => (by cases z), fun _ => wp_next (lq_nx ⟨⟨_, rfl⟩, h.up (by omega)⟩)⟩⟩)))))))
    · rintro Λ S ⟨⟨y, rfl⟩, h⟩
      exact lq_nx ⟨_, _, _, rfl⟩
  · rintro Λ S ⟨a, b, c, rfl⟩
    exact wp_nx (wp_ret (wp_c (fq_rt rfl)))
theorem law_ok {xs : List Int} (h : xs.length ≤ 63) : ∃ S', m_law [.wls (xs.map IV.int)] [] = .ok (.bl true) S' := by
  obtain ⟨v, S', e, rfl⟩ := lw_ok h (S := [])
  exact ⟨S', e⟩
end K18
namespace K18
open PySem PySem.Spec PyProof.Rows L2 Sm RD GP
set_option maxHeartbeats 40000000 in
theorem all_mk {l : PySem.W.OpenLaw} {w : World} {K : PySem.W.Frag} {h : Heap} {mg : Str → Option Value} {fa : Addr} (X : K.In h) (G : h.Ns mainGlobals mg) (hfa : mg "law" = some (.ref fa))
    {A_NoOrder : Addr}
    {nm_NoOrder qn_NoOrder : Str} {N_NoOrder : Addr} {bs_NoOrder bm_NoOrder : List Value} {sn_NoOrder : List Str} {sb_NoOrder : List Value} {ab_NoOrder : Bool} {co_NoOrder : Option Bool} {dd_NoOrder : Option Addr} {k0_NoOrder k1_NoOrder k2_NoOrder k3_NoOrder k5_NoOrder : Option Value}
    {f_NoOrder___init__ : Addr} {od_NoOrder___init__ an_NoOrder___init__ : Option Addr} {sl_NoOrder___init__ : Array (Option Value)} {oc_NoOrder___init__ kV_NoOrder___init__ dc_NoOrder___init__ pm_NoOrder___init__ cd_NoOrder___init__ ct_NoOrder___init__ : Value}
    {A_PatchedError : Addr}
    {f_first_free : Addr} {od_first_free an_first_free : Option Addr} {sl_first_free : Array (Option Value)} {oc_first_free kV_first_free dc_first_free pm_first_free cd_first_free ct_first_free : Value}
    {f_merge : Addr} {od_merge an_merge : Option Addr} {sl_merge : Array (Option Value)} {oc_merge kV_merge dc_merge pm_merge cd_merge ct_merge : Value}
    {f_class_order : Addr} {od_class_order an_class_order : Option Addr} {sl_class_order : Array (Option Value)} {oc_class_order kV_class_order dc_class_order pm_class_order cd_class_order ct_class_order : Value}
    {f__law_source : Addr} {od__law_source an__law_source : Option Addr} {sl__law_source : Array (Option Value)} {oc__law_source kV__law_source dc__law_source pm__law_source cd__law_source ct__law_source : Value}
    {f__law_draw : Addr} {od__law_draw an__law_draw : Option Addr} {sl__law_draw : Array (Option Value)} {oc__law_draw kV__law_draw dc__law_draw pm__law_draw cd__law_draw ct__law_draw : Value}
    {f__law_of : Addr} {od__law_of an__law_of : Option Addr} {sl__law_of : Array (Option Value)} {oc__law_of kV__law_of dc__law_of pm__law_of cd__law_of ct__law_of : Value}
    {f__law_pool : Addr} {od__law_pool an__law_pool : Option Addr} {sl__law_pool : Array (Option Value)} {oc__law_pool kV__law_pool dc__law_pool pm__law_pool cd__law_pool ct__law_pool : Value}
    {f__law_merged : Addr} {od__law_merged an__law_merged : Option Addr} {sl__law_merged : Array (Option Value)} {oc__law_merged kV__law_merged dc__law_merged pm__law_merged cd__law_merged ct__law_merged : Value}
    {f__law_asked : Addr} {od__law_asked an__law_asked : Option Addr} {sl__law_asked : Array (Option Value)} {oc__law_asked kV__law_asked dc__law_asked pm__law_asked cd__law_asked ct__law_asked : Value}
    {f__law_passed : Addr} {od__law_passed an__law_passed : Option Addr} {sl__law_passed : Array (Option Value)} {oc__law_passed kV__law_passed dc__law_passed pm__law_passed cd__law_passed ct__law_passed : Value}
    {f__law_right : Addr} {od__law_right an__law_right : Option Addr} {sl__law_right : Array (Option Value)} {oc__law_right kV__law_right dc__law_right pm__law_right cd__law_right ct__law_right : Value}
    {f_law : Addr} {od_law an_law : Option Addr} {sl_law : Array (Option Value)} {oc_law kV_law dc_law pm_law cd_law ct_law : Value}
    (z_any : PySem.W.nsIn K mainGlobals "any" = some none)
    (z_len : PySem.W.nsIn K mainGlobals "len" = some none)
    (z_list : PySem.W.nsIn K mainGlobals "list" = some none)
    (z_set : PySem.W.nsIn K mainGlobals "set" = some none)
    (z_int : PySem.W.nsIn K mainGlobals "int" = some none)
    (z_abs : PySem.W.nsIn K mainGlobals "abs" = some none)
    (z_range : PySem.W.nsIn K mainGlobals "range" = some none)
    (m_NoOrder : PySem.W.nsIn K mainGlobals "NoOrder" = some (some (.ref A_NoOrder)))
    (ex_NoOrder : PySem.W.subIn K (.ref A_NoOrder) (.type "BaseException") = some true)
    (hd_NoOrder : PySem.W.hasDictIn K A_NoOrder = true)
    (ty_NoOrder : PySem.W.typeIn K (.ref A_NoOrder) = some (.type "type"))
    (su_NoOrder_NoOrder : PySem.W.subIn K (.ref A_NoOrder) (.ref A_NoOrder) = some true)
    (xg_NoOrder : PySem.W.findIn K (.ref A_NoOrder) "__getattribute__" = some (some (.builtin "BaseException.__getattribute__")))
    (xk_NoOrder : PySem.W.findIn K (.ref A_NoOrder) "__getattr__" = some none)
    (na_NoOrder_rows : PySem.W.findIn K (.ref A_NoOrder) "rows" = some none)
    (z_min : PySem.W.nsIn K mainGlobals "min" = some none)
    (z_max : PySem.W.nsIn K mainGlobals "max" = some none)
    (kc_NoOrder : PySem.W.keepIn K (.ref A_NoOrder) = true)
    (sa_NoOrder : PySem.W.findIn K (.ref A_NoOrder) "__setattr__" = some (some (.builtin "object.__setattr__")))
    (lk_NoOrder : K.lookup A_NoOrder = some (excClassObj nm_NoOrder qn_NoOrder A_NoOrder N_NoOrder bs_NoOrder bm_NoOrder true sn_NoOrder sb_NoOrder ab_NoOrder co_NoOrder dd_NoOrder k0_NoOrder k1_NoOrder k2_NoOrder k3_NoOrder k5_NoOrder "ValueError.__new__"))
    (rv_NoOrder : PySem.HandSPX.refsVE bm_NoOrder = true)
    (ic_NoOrder : PySem.W.findIn K (.ref A_NoOrder) "__init__" = some (some (.ref f_NoOrder___init__)))
    (tI_NoOrder : PySem.W.typeIn K (.ref f_NoOrder___init__) = some (.type "function"))
    (l_NoOrder___init__ : K.lookup f_NoOrder___init__ = some ⟨oc_NoOrder___init__, od_NoOrder___init__, .func (PySem.W.fnOf "__init__" "NoOrder.__init__" (defArgs s_NoOrder___init__) (defBody s_NoOrder___init__) (defScope s_NoOrder___init__) .none kV_NoOrder___init__ dc_NoOrder___init__ pm_NoOrder___init__ an_NoOrder___init__ cd_NoOrder___init__ ct_NoOrder___init__), sl_NoOrder___init__⟩)
    (c_NoOrder___init__ : PySem.W.codeIn K cd_NoOrder___init__ "NoOrder.__init__" = true)
    (k_NoOrder___init__ : PySem.W.keepIn K (.ref f_NoOrder___init__) = true)
    (m_PatchedError : PySem.W.nsIn K mainGlobals "PatchedError" = some (some (.ref A_PatchedError)))
    (ty_PatchedError : PySem.W.typeIn K (.ref A_PatchedError) = some (.type "type"))
    (rd_PatchedError : PySem.W.readsIn K A_PatchedError (.type "type") = true)
    (ga_PatchedError : PySem.W.specialIn K (.ref A_PatchedError) "__getattribute__" = some (some (.builtin "type.__getattribute__")))
    (bi_PatchedError : PySem.W.findCls K (.ref A_PatchedError) (.type "type") "__init__" = some (.val (.builtin "ValueError.__init__")))
    (a_first_free : PySem.W.nsIn K mainGlobals "first_free" = some (some (.ref f_first_free)))
    (l_first_free : K.lookup f_first_free = some ⟨oc_first_free, od_first_free, .func (PySem.W.fnOf "first_free" "first_free" (defArgs s_first_free) (defBody s_first_free) (defScope s_first_free) .none kV_first_free dc_first_free pm_first_free an_first_free cd_first_free ct_first_free), sl_first_free⟩)
    (c_first_free : PySem.W.codeIn K cd_first_free "first_free" = true)
    (k_first_free : PySem.W.keepIn K (.ref f_first_free) = true)
    (a_merge : PySem.W.nsIn K mainGlobals "merge" = some (some (.ref f_merge)))
    (l_merge : K.lookup f_merge = some ⟨oc_merge, od_merge, .func (PySem.W.fnOf "merge" "merge" (defArgs s_merge) (defBody s_merge) (defScope s_merge) .none kV_merge dc_merge pm_merge an_merge cd_merge ct_merge), sl_merge⟩)
    (c_merge : PySem.W.codeIn K cd_merge "merge" = true)
    (k_merge : PySem.W.keepIn K (.ref f_merge) = true)
    (a_class_order : PySem.W.nsIn K mainGlobals "class_order" = some (some (.ref f_class_order)))
    (l_class_order : K.lookup f_class_order = some ⟨oc_class_order, od_class_order, .func (PySem.W.fnOf "class_order" "class_order" (defArgs s_class_order) (defBody s_class_order) (defScope s_class_order) .none kV_class_order dc_class_order pm_class_order an_class_order cd_class_order ct_class_order), sl_class_order⟩)
    (c_class_order : PySem.W.codeIn K cd_class_order "class_order" = true)
    (k_class_order : PySem.W.keepIn K (.ref f_class_order) = true)
    (a__law_source : PySem.W.nsIn K mainGlobals "_law_source" = some (some (.ref f__law_source)))
    (l__law_source : K.lookup f__law_source = some ⟨oc__law_source, od__law_source, .func (PySem.W.fnOf "_law_source" "_law_source" (defArgs s__law_source) (defBody s__law_source) (defScope s__law_source) .none kV__law_source dc__law_source pm__law_source an__law_source cd__law_source ct__law_source), sl__law_source⟩)
    (c__law_source : PySem.W.codeIn K cd__law_source "_law_source" = true)
    (k__law_source : PySem.W.keepIn K (.ref f__law_source) = true)
    (a__law_draw : PySem.W.nsIn K mainGlobals "_law_draw" = some (some (.ref f__law_draw)))
    (l__law_draw : K.lookup f__law_draw = some ⟨oc__law_draw, od__law_draw, .func (PySem.W.fnOf "_law_draw" "_law_draw" (defArgs s__law_draw) (defBody s__law_draw) (defScope s__law_draw) .none kV__law_draw dc__law_draw pm__law_draw an__law_draw cd__law_draw ct__law_draw), sl__law_draw⟩)
    (c__law_draw : PySem.W.codeIn K cd__law_draw "_law_draw" = true)
    (k__law_draw : PySem.W.keepIn K (.ref f__law_draw) = true)
    (a__law_of : PySem.W.nsIn K mainGlobals "_law_of" = some (some (.ref f__law_of)))
    (l__law_of : K.lookup f__law_of = some ⟨oc__law_of, od__law_of, .func (PySem.W.fnOf "_law_of" "_law_of" (defArgs s__law_of) (defBody s__law_of) (defScope s__law_of) .none kV__law_of dc__law_of pm__law_of an__law_of cd__law_of ct__law_of), sl__law_of⟩)
    (c__law_of : PySem.W.codeIn K cd__law_of "_law_of" = true)
    (k__law_of : PySem.W.keepIn K (.ref f__law_of) = true)
    (a__law_pool : PySem.W.nsIn K mainGlobals "_law_pool" = some (some (.ref f__law_pool)))
    (l__law_pool : K.lookup f__law_pool = some ⟨oc__law_pool, od__law_pool, .func (PySem.W.fnOf "_law_pool" "_law_pool" (defArgs s__law_pool) (defBody s__law_pool) (defScope s__law_pool) .none kV__law_pool dc__law_pool pm__law_pool an__law_pool cd__law_pool ct__law_pool), sl__law_pool⟩)
    (c__law_pool : PySem.W.codeIn K cd__law_pool "_law_pool" = true)
    (k__law_pool : PySem.W.keepIn K (.ref f__law_pool) = true)
    (a__law_merged : PySem.W.nsIn K mainGlobals "_law_merged" = some (some (.ref f__law_merged)))
    (l__law_merged : K.lookup f__law_merged = some ⟨oc__law_merged, od__law_merged, .func (PySem.W.fnOf "_law_merged" "_law_merged" (defArgs s__law_merged) (defBody s__law_merged) (defScope s__law_merged) .none kV__law_merged dc__law_merged pm__law_merged an__law_merged cd__law_merged ct__law_merged), sl__law_merged⟩)
    (c__law_merged : PySem.W.codeIn K cd__law_merged "_law_merged" = true)
    (k__law_merged : PySem.W.keepIn K (.ref f__law_merged) = true)
    (a__law_asked : PySem.W.nsIn K mainGlobals "_law_asked" = some (some (.ref f__law_asked)))
    (l__law_asked : K.lookup f__law_asked = some ⟨oc__law_asked, od__law_asked, .func (PySem.W.fnOf "_law_asked" "_law_asked" (defArgs s__law_asked) (defBody s__law_asked) (defScope s__law_asked) .none kV__law_asked dc__law_asked pm__law_asked an__law_asked cd__law_asked ct__law_asked), sl__law_asked⟩)
    (c__law_asked : PySem.W.codeIn K cd__law_asked "_law_asked" = true)
    (k__law_asked : PySem.W.keepIn K (.ref f__law_asked) = true)
    (a__law_passed : PySem.W.nsIn K mainGlobals "_law_passed" = some (some (.ref f__law_passed)))
    (l__law_passed : K.lookup f__law_passed = some ⟨oc__law_passed, od__law_passed, .func (PySem.W.fnOf "_law_passed" "_law_passed" (defArgs s__law_passed) (defBody s__law_passed) (defScope s__law_passed) .none kV__law_passed dc__law_passed pm__law_passed an__law_passed cd__law_passed ct__law_passed), sl__law_passed⟩)
    (c__law_passed : PySem.W.codeIn K cd__law_passed "_law_passed" = true)
    (k__law_passed : PySem.W.keepIn K (.ref f__law_passed) = true)
    (a__law_right : PySem.W.nsIn K mainGlobals "_law_right" = some (some (.ref f__law_right)))
    (l__law_right : K.lookup f__law_right = some ⟨oc__law_right, od__law_right, .func (PySem.W.fnOf "_law_right" "_law_right" (defArgs s__law_right) (defBody s__law_right) (defScope s__law_right) .none kV__law_right dc__law_right pm__law_right an__law_right cd__law_right ct__law_right), sl__law_right⟩)
    (c__law_right : PySem.W.codeIn K cd__law_right "_law_right" = true)
    (k__law_right : PySem.W.keepIn K (.ref f__law_right) = true)
    (a_law : PySem.W.nsIn K mainGlobals "law" = some (some (.ref f_law)))
    (l_law : K.lookup f_law = some ⟨oc_law, od_law, .func (PySem.W.fnOf "law" "law" (defArgs s_law) (defBody s_law) (defScope s_law) .none kV_law dc_law pm_law an_law cd_law ct_law), sl_law⟩)
    (c_law : PySem.W.codeIn K cd_law "law" = true)
    (k_law : PySem.W.keepIn K (.ref f_law) = true)
    : ∃ fd : FuncData, (∀ (s : Shared) (v : Value), BindsTo s fd ⟨[v], []⟩ [("_law_script", v)]) ∧ ∀ base : Heap, K.In base → base.Ns mainGlobals mg → FnG l.prog w K mg base (L2.CX l.prog w) 7 fa fd ["_law_script"] (lawSp K 63) := by
  have z_any := PySem.W.mg_none_of X G z_any
  have z_len := PySem.W.mg_none_of X G z_len
  have z_list := PySem.W.mg_none_of X G z_list
  have z_set := PySem.W.mg_none_of X G z_set
  have z_int := PySem.W.mg_none_of X G z_int
  have z_abs := PySem.W.mg_none_of X G z_abs
  have z_range := PySem.W.mg_none_of X G z_range
  have em_NoOrder_NoOrder : PySem.W.exmOne K (.ref A_NoOrder) (.ref A_NoOrder) = some true := em_mk ex_NoOrder hd_NoOrder ty_NoOrder su_NoOrder_NoOrder
  have tt__law_asked_0_NoOrder : TryT K mg "NoOrder" [("NoOrder", true)] := ⟨⟨A_NoOrder, PySem.W.mg_of X G m_NoOrder⟩, fun C b e => allT_of (t := [("NoOrder", true)]) (P := fun C b => PySem.W.exmOne K (clsV mg C) (clsV mg "NoOrder") = some b) ⟨by show PySem.W.exmOne K (clsV mg "NoOrder") (clsV mg "NoOrder") = some true; rw [clsV_mk X G m_NoOrder]; exact em_NoOrder_NoOrder, trivial⟩ C b e⟩
  have xf__law_asked_0_rows : XfT K mg [("NoOrder", true)] "rows" := fun C hC => allT_of (t := [("NoOrder", true)]) (P := fun C b => b = true → ∃ Ca : Addr, mg C = some (.ref Ca) ∧ L2.XfC K Ca ∧ PySem.W.findIn K (.ref Ca) "rows" = some none) ⟨fun _ => ⟨A_NoOrder, PySem.W.mg_of X G m_NoOrder, ⟨xg_NoOrder, xk_NoOrder, ex_NoOrder, hd_NoOrder⟩, na_NoOrder_rows⟩, trivial⟩ C true hC rfl
  have z_min := PySem.W.mg_none_of X G z_min
  have z_max := PySem.W.mg_none_of X G z_max
  have b_PatchedError : BaseC K mg "PatchedError" := base_mk X G m_PatchedError ga_PatchedError ty_PatchedError rd_PatchedError bi_PatchedError
  have O_NoOrder := oex_mk lk_NoOrder rv_NoOrder sa_NoOrder ex_NoOrder ty_NoOrder kc_NoOrder
  have LE_NoOrder : ELoc K mg "NoOrder" "rows" "self" "rows" "NoOrder.__init__" s_NoOrder___init__ := eloc_mk X G m_NoOrder O_NoOrder na_NoOrder_rows ic_NoOrder tI_NoOrder k_NoOrder___init__ l_NoOrder___init__ c_NoOrder___init__ (fun _ _ _ _ _ _ us hl => match us, hl with | [_, _], _ => rfl)
  have L_first_free : Loc K mg "first_free" s_first_free ["rows"] := loc_mk X G a_first_free l_first_free c_first_free k_first_free (fun _ _ _ _ _ _ us hl => match us, hl with | [_], _ => rfl)
  have L_merge : Loc K mg "merge" s_merge ["rows"] := loc_mk X G a_merge l_merge c_merge k_merge (fun _ _ _ _ _ _ us hl => match us, hl with | [_], _ => rfl)
  have L_class_order : Loc K mg "class_order" s_class_order ["label", "bases", "orders"] := loc_mk X G a_class_order l_class_order c_class_order k_class_order (fun _ _ _ _ _ _ us hl => match us, hl with | [_, _, _], _ => rfl)
  have L__law_source : Loc K mg "_law_source" s__law_source ["_law_script", "_law_at"] := loc_mk X G a__law_source l__law_source c__law_source k__law_source (fun _ _ _ _ _ _ us hl => match us, hl with | [_, _], _ => rfl)
  have L__law_draw : Loc K mg "_law_draw" s__law_draw ["_law_s", "_law_many"] := loc_mk X G a__law_draw l__law_draw c__law_draw k__law_draw (fun _ _ _ _ _ _ us hl => match us, hl with | [_, _], _ => rfl)
  have L__law_of : Loc K mg "_law_of" s__law_of ["_law_s", "_law_some"] := loc_mk X G a__law_of l__law_of c__law_of k__law_of (fun _ _ _ _ _ _ us hl => match us, hl with | [_, _], _ => rfl)
  have L__law_pool : Loc K mg "_law_pool" s__law_pool ["_law_s"] := loc_mk X G a__law_pool l__law_pool c__law_pool k__law_pool (fun _ _ _ _ _ _ us hl => match us, hl with | [_], _ => rfl)
  have L__law_merged : Loc K mg "_law_merged" s__law_merged ["_law_rows"] := loc_mk X G a__law_merged l__law_merged c__law_merged k__law_merged (fun _ _ _ _ _ _ us hl => match us, hl with | [_], _ => rfl)
  have L__law_asked : Loc K mg "_law_asked" s__law_asked ["_law_label", "_law_bases", "_law_orders"] := loc_mk X G a__law_asked l__law_asked c__law_asked k__law_asked (fun _ _ _ _ _ _ us hl => match us, hl with | [_, _, _], _ => rfl)
  have L__law_passed : Loc K mg "_law_passed" s__law_passed ["_law_s", "_law_orders"] := loc_mk X G a__law_passed l__law_passed c__law_passed k__law_passed (fun _ _ _ _ _ _ us hl => match us, hl with | [_, _], _ => rfl)
  have L__law_right : Loc K mg "_law_right" s__law_right ["_law_s"] := loc_mk X G a__law_right l__law_right c__law_right k__law_right (fun _ _ _ _ _ _ us hl => match us, hl with | [_], _ => rfl)
  refine law_mk X G hfa a_law l_law c_law k_law (fun _ _ _ _ _ _ _ => rfl) (fun xs h => law_ok h) fun fd F base _ _ => ?_
  have E_NoOrder_ok := ok_e_NoOrder (P := l.prog) (w := w) (base := base) LE_NoOrder b_PatchedError
  have C_first_free_ok := ok_first_free (P := l.prog) (w := w) (base := base) L_first_free z_any
  have C_merge_ok := ok_merge (P := l.prog) (w := w) (base := base) L_merge z_len z_list E_NoOrder_ok C_first_free_ok
  have C_class_order_ok := ok_class_order (P := l.prog) (w := w) (base := base) L_class_order z_list z_len z_set C_merge_ok E_NoOrder_ok
  have C__law_source_ok := ok__law_source (P := l.prog) (w := w) (base := base) L__law_source z_int z_abs z_len
  have C__law_draw_ok := ok__law_draw (P := l.prog) (w := w) (base := base) L__law_draw z_int
  have C__law_of_ok := ok__law_of (P := l.prog) (w := w) (base := base) L__law_of z_len C__law_draw_ok
  have C__law_pool_ok := ok__law_pool (P := l.prog) (w := w) (base := base) L__law_pool z_range C__law_of_ok C__law_draw_ok
  have C__law_merged_ok := ok__law_merged (P := l.prog) (w := w) (base := base) L__law_merged 
  have C__law_asked_ok := ok__law_asked (P := l.prog) (w := w) (base := base) L__law_asked tt__law_asked_0_NoOrder xf__law_asked_0_rows C_class_order_ok
  have C__law_passed_ok := ok__law_passed (P := l.prog) (w := w) (base := base) L__law_passed z_list z_len C__law_draw_ok
  have C__law_right_ok := ok__law_right (P := l.prog) (w := w) (base := base) L__law_right z_range z_list z_len z_set C__law_draw_ok C__law_passed_ok C__law_asked_ok C__law_merged_ok C__law_of_ok C__law_pool_ok
  exact ok_law F z_range z_len z_min z_max C__law_right_ok C__law_source_ok
end K18
open PySem PySem.W PyProof.Rows
set_option maxHeartbeats 0 in
theorem PySem.Challenge.cw_patchedplaces_k18_class_orders_holds : PySem.Challenge.rw_patchedplaces_k18_class_orders.Holds := by
  w_on; o_law; k_head; (case hw => w_witness2)
  k_fill
  refine Sm.walk_ofG (l := PySem.Challenge.rw_patchedplaces_k18_class_orders) (n := 63) (k := 7) (x := "_law_script") (CX := fun w => L2.CX PySem.Challenge.rw_patchedplaces_k18_class_orders.prog w) (sp := fun w => Sm.lawSp _ 63) rfl (by decide) rfl ⟨⟨rfl, by decide, by decide⟩, rfl⟩ (fun w h Y => PySem.W.kIn_of Y) ?F (fun _ _ a xs hl hS => ⟨a, xs, rfl, hl, hS, fun _ => rfl⟩) (fun _ _ _ _ _ h => by obtain ⟨_, _, _, _, _, _, _, _, _, _, _, _, z⟩ := h; exact z)
  case F =>
    intro w mg fa h KX G hmg
    refine' K18.all_mk KX G hmg ?z_any ?z_len ?z_list ?z_set ?z_int ?z_abs ?z_range ?m_NoOrder ?ex_NoOrder ?hd_NoOrder ?ty_NoOrder ?su_NoOrder_NoOrder ?xg_NoOrder ?xk_NoOrder ?na_NoOrder_rows ?z_min ?z_max ?kc_NoOrder ?sa_NoOrder ?lk_NoOrder ?rv_NoOrder ?ic_NoOrder ?tI_NoOrder ?l_NoOrder___init__ ?c_NoOrder___init__ ?k_NoOrder___init__ ?m_PatchedError ?ty_PatchedError ?rd_PatchedError ?ga_PatchedError ?bi_PatchedError ?a_first_free ?l_first_free ?c_first_free ?k_first_free ?a_merge ?l_merge ?c_merge ?k_merge ?a_class_order ?l_class_order ?c_class_order ?k_class_order ?a__law_source ?l__law_source ?c__law_source ?k__law_source ?a__law_draw ?l__law_draw ?c__law_draw ?k__law_draw ?a__law_of ?l__law_of ?c__law_of ?k__law_of ?a__law_pool ?l__law_pool ?c__law_pool ?k__law_pool ?a__law_merged ?l__law_merged ?c__law_merged ?k__law_merged ?a__law_asked ?l__law_asked ?c__law_asked ?k__law_asked ?a__law_passed ?l__law_passed ?c__law_passed ?k__law_passed ?a__law_right ?l__law_right ?c__law_right ?k__law_right ?a_law ?l_law ?c_law ?k_law
    (case z_any => k_is)
    (case z_len => k_is)
    (case z_list => k_is)
    (case z_set => k_is)
    (case z_int => k_is)
    (case z_abs => k_is)
    (case z_range => k_is)
    (case m_NoOrder => k_is)
    (case ex_NoOrder => k_is)
    (case hd_NoOrder => k_is)
    (case ty_NoOrder => k_is)
    (case su_NoOrder_NoOrder => k_is)
    (case xg_NoOrder => k_is)
    (case xk_NoOrder => k_is)
    (case na_NoOrder_rows => k_is)
    (case z_min => k_is)
    (case z_max => k_is)
    (case kc_NoOrder => k_is)
    (case sa_NoOrder => k_is)
    (case lk_NoOrder => k_is)
    (case rv_NoOrder => decide +kernel)
    (case ic_NoOrder => k_is)
    (case tI_NoOrder => k_is)
    (case l_NoOrder___init__ => k_is)
    (case c_NoOrder___init__ => k_is)
    (case k_NoOrder___init__ => k_is)
    (case m_PatchedError => k_is)
    (case ty_PatchedError => k_is)
    (case rd_PatchedError => k_is)
    (case ga_PatchedError => k_is)
    (case bi_PatchedError => k_is)
    (case a_first_free => k_is)
    (case l_first_free => k_is)
    (case c_first_free => k_is)
    (case k_first_free => k_is)
    (case a_merge => k_is)
    (case l_merge => k_is)
    (case c_merge => k_is)
    (case k_merge => k_is)
    (case a_class_order => k_is)
    (case l_class_order => k_is)
    (case c_class_order => k_is)
    (case k_class_order => k_is)
    (case a__law_source => k_is)
    (case l__law_source => k_is)
    (case c__law_source => k_is)
    (case k__law_source => k_is)
    (case a__law_draw => k_is)
    (case l__law_draw => k_is)
    (case c__law_draw => k_is)
    (case k__law_draw => k_is)
    (case a__law_of => k_is)
    (case l__law_of => k_is)
    (case c__law_of => k_is)
    (case k__law_of => k_is)
    (case a__law_pool => k_is)
    (case l__law_pool => k_is)
    (case c__law_pool => k_is)
    (case k__law_pool => k_is)
    (case a__law_merged => k_is)
    (case l__law_merged => k_is)
    (case c__law_merged => k_is)
    (case k__law_merged => k_is)
    (case a__law_asked => k_is)
    (case l__law_asked => k_is)
    (case c__law_asked => k_is)
    (case k__law_asked => k_is)
    (case a__law_passed => k_is)
    (case l__law_passed => k_is)
    (case c__law_passed => k_is)
    (case k__law_passed => k_is)
    (case a__law_right => k_is)
    (case l__law_right => k_is)
    (case c__law_right => k_is)
    (case k__law_right => k_is)
    (case a_law => k_is)
    (case l_law => k_is)
    (case c_law => k_is)
    (case k_law => k_is)
